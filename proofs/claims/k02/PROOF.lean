import PyProof.Rows.All
import Wide.All
import OpenK.AllK
import Wide.FinOn
import PySem.Challenge.RW_bothandall_k02_whole_what_follows
import HandS.ForMost
import HandS.Walk
import HandS.Zip
import HandS.Style
import KE.GoesMore
import HandS.SortInts
import HandS.NamedTupSort
import HandS.SetFor
import HandS.Strs
import HandS.TupSets
import HandS.Deep
import HandS.TupAny
import HandS.IsInst
import HandS.TupLe
import PyProof.ReprRoads
import HandS.Conv
import HandS.HeadEnd
import HandS.HeadHook2
import HandS.Head0
import HandS.Head1
import HandS.Head2
import HandS.HeadHook1
/-! A proof that the law holds of the given program: a layer of shallow readings (L3), printed derivations of the text (Q), and plain mathematics. Own work. -/
section
set_option Elab.async false
set_option linter.all false
set_option maxRecDepth 100000
/-! L3a: data, slots, what code computes over pure data (own work). -/
namespace L3
open PySem PySem.Spec PyProof.Rows L2
/-- pure data -/
inductive D where
  | non | bl (b : Bool) | int (i : Int) | str (x : Str) | ty (n : String) | deck
  | tup (xs : List D) | lst (xs : List D) | dic (kvs : List (Key × D))
  deriving Inhabited
mutual
def noL : D → Bool
  | .tup xs => noLs xs
  | .lst _ => false
  | .dic _ => false
  | _ => true
def noLs : List D → Bool
  | [] => true
  | d :: ds => noL d && noLs ds
end
/-- a slot: nothing, a value, or a list that this frame owns (t: read within the running statement) -/
inductive Sl where
  | non | val (d : D) | own (t : Bool) (ds : List D)
  deriving Inhabited
abbrev En := List Sl
def thaw : En → En → En
  | .own false _ :: a, .own _ ds :: b => .own false ds :: thaw a b
  | _ :: a, y :: b => y :: thaw a b
  | [], b => b
  | _ :: _, [] => []
def thawAll : En → En
  | .own _ ds :: a => .own false ds :: thawAll a
  | x :: a => x :: thawAll a
  | [] => []
def freeze : En → En
  | .own true ds :: a => .val (.lst ds) :: freeze a
  | x :: a => x :: freeze a
  | [] => []
theorem thaw_length : ∀ (a b : En), (thaw a b).length = b.length
  | [], b => by simp [thaw]
  | _ :: _, [] => by simp [thaw]
  | .own false _ :: a, .own _ _ :: b => by simp [thaw, thaw_length a b]
  | .own false _ :: a, .non :: b => by simp [thaw, thaw_length a b]
  | .own false _ :: a, .val _ :: b => by simp [thaw, thaw_length a b]
  | .own true _ :: a, _ :: b => by simp [thaw, thaw_length a b]
  | .non :: a, _ :: b => by simp [thaw, thaw_length a b]
  | .val _ :: a, _ :: b => by simp [thaw, thaw_length a b]
theorem thawAll_get : ∀ (a : En) (i : Nat), (thawAll a)[i]? = (a[i]?).map fun x => match x with | .own _ ds => .own false ds | x => x
  | [], _ => by simp [thawAll]
  | .own _ _ :: a, 0 => by simp [thawAll]
  | .non :: a, 0 => by simp [thawAll]
  | .val _ :: a, 0 => by simp [thawAll]
  | .own _ _ :: a, i + 1 => by simp [thawAll, thawAll_get a i]
  | .non :: a, i + 1 => by simp [thawAll, thawAll_get a i]
  | .val _ :: a, i + 1 => by simp [thawAll, thawAll_get a i]
theorem freeze_get : ∀ (a : En) (i : Nat), (freeze a)[i]? = (a[i]?).map fun x => match x with | .own true ds => .val (.lst ds) | x => x
  | [], _ => by simp [freeze]
  | .own true _ :: a, 0 => by simp [freeze]
  | .own false _ :: a, 0 => by simp [freeze]
  | .non :: a, 0 => by simp [freeze]
  | .val _ :: a, 0 => by simp [freeze]
  | .own true _ :: a, i + 1 => by simp [freeze, freeze_get a i]
  | .own false _ :: a, i + 1 => by simp [freeze, freeze_get a i]
  | .non :: a, i + 1 => by simp [freeze, freeze_get a i]
  | .val _ :: a, i + 1 => by simp [freeze, freeze_get a i]
theorem thaw_get : ∀ (a b : En) (i : Nat), (thaw a b)[i]? = (b[i]?).map fun y => match a[i]?, y with | some (.own false _), .own _ ds => .own false ds | _, y => y
  | [], b, i => by cases h : b[i]? <;> simp [thaw, h]
  | _ :: _, [], _ => by simp [thaw]
  | .own false _ :: a, .own _ _ :: b, 0 => by simp [thaw]
  | .own false _ :: a, .non :: b, 0 => by simp [thaw]
  | .own false _ :: a, .val _ :: b, 0 => by simp [thaw]
  | .own true _ :: a, y :: b, 0 => by simp [thaw]
  | .non :: a, y :: b, 0 => by simp [thaw]
  | .val _ :: a, y :: b, 0 => by simp [thaw]
  | .own false _ :: a, .own _ _ :: b, i + 1 => by simp [thaw, thaw_get a b i]
  | .own false _ :: a, .non :: b, i + 1 => by simp [thaw, thaw_get a b i]
  | .own false _ :: a, .val _ :: b, i + 1 => by simp [thaw, thaw_get a b i]
  | .own true _ :: a, y :: b, i + 1 => by simp [thaw, thaw_get a b i]
  | .non :: a, y :: b, i + 1 => by simp [thaw, thaw_get a b i]
  | .val _ :: a, y :: b, i + 1 => by simp [thaw, thaw_get a b i]
theorem thawAll_length (a : En) : (thawAll a).length = a.length := by
  induction a with
  | nil => rfl
  | cons x a ih => cases x <;> simp [thawAll, ih]
theorem freeze_length (a : En) : (freeze a).length = a.length := by
  induction a with
  | nil => rfl
  | cons x a ih =>
    cases x with
    | own t ds => cases t <;> simp [freeze, ih]
    | _ => simp [freeze, ih]
end L3
end
section
set_option Elab.async false
set_option linter.all false
set_option maxRecDepth 100000
set_option autoImplicit false
/-! L3b: how data lie in the abstract heap; the frame's relation (own work). -/
namespace L3
open PySem PySem.Spec PyProof.Rows L2
mutual
inductive Rep (K : PySem.W.Frag) (tk : Addr) (H : Hp) (av : Addr → Prop) : V → D → Prop
  | non : Rep K tk H av .non .non
  | bl (b : Bool) : Rep K tk H av (.bl b) (.bl b)
  | int (i : Int) : Rep K tk H av (.int i) (.int i)
  | str (x : Str) : Rep K tk H av (.str x) (.str x)
  | ty (n : String) : Rep K tk H av (.ty n) (.ty n)
  | deck : Rep K tk H av (.ref tk) .deck
  | tup {a : Addr} {xs : List V} {ds : List D} : SqT K H a xs → RepL K tk H av xs ds → Rep K tk H av (.ref a) (.tup ds)
  | lst {a : Addr} {xs : List V} {ds : List D} : H a = some (.lst xs) → ¬ av a → RepL K tk H av xs ds → Rep K tk H av (.ref a) (.lst ds)
  | dic {a : Addr} {kvs : List (Key × V)} {kds : List (Key × D)} : H a = some (.dK kvs) → ¬ av a → RepK K tk H av kvs kds → Rep K tk H av (.ref a) (.dic kds)
inductive RepL (K : PySem.W.Frag) (tk : Addr) (H : Hp) (av : Addr → Prop) : List V → List D → Prop
  | nil : RepL K tk H av [] []
  | cons {v : V} {vs : List V} {d : D} {ds : List D} : Rep K tk H av v d → RepL K tk H av vs ds → RepL K tk H av (v :: vs) (d :: ds)
inductive RepK (K : PySem.W.Frag) (tk : Addr) (H : Hp) (av : Addr → Prop) : List (Key × V) → List (Key × D) → Prop
  | nil : RepK K tk H av [] []
  | cons {k : Key} {v : V} {vs : List (Key × V)} {d : D} {ds : List (Key × D)} : Rep K tk H av v d → RepK K tk H av vs ds → RepK K tk H av ((k, v) :: vs) ((k, d) :: ds)
end
section
variable {K : PySem.W.Frag} {tk : Addr} {H H' : Hp} {av av' : Addr → Prop}
mutual
/-- carried to another heap and another set of addresses to be avoided -/
theorem Rep.carry (hT : ∀ a xs, SqT K H a xs → SqT K H' a xs) (hL : ∀ a xs, H a = some (.lst xs) → ¬ av a → H' a = some (.lst xs) ∧ ¬ av' a) (hD : ∀ a kvs, H a = some (.dK kvs) → ¬ av a → H' a = some (.dK kvs) ∧ ¬ av' a) : ∀ {v : V} {d : D}, Rep K tk H av v d → Rep K tk H' av' v d
  | _, _, .non => .non
  | _, _, .bl b => .bl b
  | _, _, .int i => .int i
  | _, _, .str x => .str x
  | _, _, .ty n => .ty n
  | _, _, .deck => .deck
  | _, _, .tup h r => .tup (hT _ _ h) (RepL.carry hT hL hD r)
  | _, _, .lst h n r => .lst (hL _ _ h n).1 (hL _ _ h n).2 (RepL.carry hT hL hD r)
  | _, _, .dic h n r => .dic (hD _ _ h n).1 (hD _ _ h n).2 (RepK.carry hT hL hD r)
theorem RepL.carry (hT : ∀ a xs, SqT K H a xs → SqT K H' a xs) (hL : ∀ a xs, H a = some (.lst xs) → ¬ av a → H' a = some (.lst xs) ∧ ¬ av' a) (hD : ∀ a kvs, H a = some (.dK kvs) → ¬ av a → H' a = some (.dK kvs) ∧ ¬ av' a) : ∀ {vs : List V} {ds : List D}, RepL K tk H av vs ds → RepL K tk H' av' vs ds
  | _, _, .nil => .nil
  | _, _, .cons h r => .cons (Rep.carry hT hL hD h) (RepL.carry hT hL hD r)
theorem RepK.carry (hT : ∀ a xs, SqT K H a xs → SqT K H' a xs) (hL : ∀ a xs, H a = some (.lst xs) → ¬ av a → H' a = some (.lst xs) ∧ ¬ av' a) (hD : ∀ a kvs, H a = some (.dK kvs) → ¬ av a → H' a = some (.dK kvs) ∧ ¬ av' a) : ∀ {vs : List (Key × V)} {ds : List (Key × D)}, RepK K tk H av vs ds → RepK K tk H' av' vs ds
  | _, _, .nil => .nil
  | _, _, .cons h r => .cons (Rep.carry hT hL hD h) (RepK.carry hT hL hD r)
end
mutual
/-- list-free data touch no avoided address -/
theorem Rep.free : ∀ {v : V} {d : D}, Rep K tk H av v d → noL d = true → Rep K tk H av' v d
  | _, _, .non, _ => .non
  | _, _, .bl b, _ => .bl b
  | _, _, .int i, _ => .int i
  | _, _, .str x, _ => .str x
  | _, _, .ty n, _ => .ty n
  | _, _, .deck, _ => .deck
  | _, _, .tup h r, e => .tup h (RepL.free r (by simpa [noL] using e))
  | _, _, .lst _ _ _, e => by simp [noL] at e
  | _, _, .dic _ _ _, e => by simp [noL] at e
theorem RepL.free : ∀ {vs : List V} {ds : List D}, RepL K tk H av vs ds → noLs ds = true → RepL K tk H av' vs ds
  | _, _, .nil, _ => .nil
  | _, _, .cons h r, e => by
    simp only [noLs, Bool.and_eq_true] at e
    exact .cons (Rep.free h e.1) (RepL.free r e.2)
end
theorem RepL.length : ∀ {vs : List V} {ds : List D}, RepL K tk H av vs ds → vs.length = ds.length
  | _, _, .nil => rfl
  | _, _, .cons _ r => by simp [RepL.length r]
theorem RepL.append : ∀ {vs ws : List V} {ds es : List D}, RepL K tk H av vs ds → RepL K tk H av ws es → RepL K tk H av (vs ++ ws) (ds ++ es)
  | _, _, _, _, .nil, s => s
  | _, _, _, _, .cons h r, s => .cons h (RepL.append r s)
theorem RepL.get : ∀ {vs : List V} {ds : List D} {i : Nat} {d : D}, RepL K tk H av vs ds → ds[i]? = some d → ∃ v, vs[i]? = some v ∧ Rep K tk H av v d
  | _, _, _, _, .nil, e => by simp at e
  | _, _, 0, _, .cons h _, e => by simp at e; subst e; exact ⟨_, rfl, h⟩
  | _, _, i + 1, d, .cons _ r, e => by
    obtain ⟨v, h1, h2⟩ := RepL.get (i := i) (d := d) r (by simpa using e)
    exact ⟨v, by simpa using h1, h2⟩
theorem RepL.get' : ∀ {vs : List V} {ds : List D} {i : Nat} {v : V}, RepL K tk H av vs ds → vs[i]? = some v → ∃ d, ds[i]? = some d ∧ Rep K tk H av v d
  | _, _, _, _, .nil, e => by simp at e
  | _, _, 0, _, .cons h _, e => by simp at e; subst e; exact ⟨_, rfl, h⟩
  | _, _, i + 1, d, .cons _ r, e => by
    obtain ⟨v, h1, h2⟩ := RepL.get' (i := i) r (by simpa using e)
    exact ⟨v, by simpa using h1, h2⟩
theorem RepL.set : ∀ {vs : List V} {ds : List D} {v : V} {d : D} (i : Nat), RepL K tk H av vs ds → Rep K tk H av v d → RepL K tk H av (vs.set i v) (ds.set i d)
  | _, _, _, _, _, .nil, _ => .nil
  | _, _, _, _, 0, .cons _ r, h => .cons h r
  | _, _, _, _, i + 1, .cons q r, h => .cons q (RepL.set i r h)
theorem RepL.take : ∀ {vs : List V} {ds : List D} (n : Nat), RepL K tk H av vs ds → RepL K tk H av (vs.take n) (ds.take n)
  | _, _, 0, _ => .nil
  | _, _, _ + 1, .nil => .nil
  | _, _, n + 1, .cons h r => .cons h (RepL.take n r)
theorem RepL.drop : ∀ {vs : List V} {ds : List D} (n : Nat), RepL K tk H av vs ds → RepL K tk H av (vs.drop n) (ds.drop n)
  | _, _, 0, r => r
  | _, _, _ + 1, .nil => .nil
  | _, _, n + 1, .cons _ r => RepL.drop n r
theorem RepL.erase : ∀ {vs : List V} {ds : List D} (i : Nat), RepL K tk H av vs ds → RepL K tk H av (vs.eraseIdx i) (ds.eraseIdx i)
  | _, _, _, .nil => .nil
  | _, _, 0, .cons _ r => r
  | _, _, i + 1, .cons h r => .cons h (RepL.erase i r)
theorem RepL.dropLast {vs : List V} {ds : List D} (h : RepL K tk H av vs ds) : RepL K tk H av vs.dropLast ds.dropLast := by
  rw [List.dropLast_eq_take, List.dropLast_eq_take, h.length]
  exact h.take _
theorem RepL.reverse : ∀ {vs : List V} {ds : List D}, RepL K tk H av vs ds → RepL K tk H av vs.reverse ds.reverse
  | _, _, .nil => .nil
  | _, _, .cons h r => by
    rw [List.reverse_cons, List.reverse_cons]
    exact (RepL.reverse r).append (.cons h .nil)
theorem RepL.mem {vs : List V} {ds : List D} (h : RepL K tk H av vs ds) {v : V} (hv : v ∈ vs) : ∃ d ∈ ds, Rep K tk H av v d := by
  obtain ⟨i, hi⟩ := List.getElem?_of_mem hv
  obtain ⟨d, e, r⟩ := h.get' hi
  exact ⟨d, List.mem_of_getElem? e, r⟩
theorem Rd.there {a : Addr} {u : HO} (h : Rd H a u) : H a ≠ none := by
  rcases h with h | ⟨o, h⟩ <;> rw [h] <;> simp
theorem Rep.mono (m : ∀ a, av' a → av a) {v : V} {d : D} (h : Rep K tk H av v d) : Rep K tk H av' v d := h.carry (fun _ _ z => z) (fun a _ z n => ⟨z, fun q => n (m a q)⟩) fun a _ z n => ⟨z, fun q => n (m a q)⟩
theorem RepL.mono (m : ∀ a, av' a → av a) {v : List V} {d : List D} (h : RepL K tk H av v d) : RepL K tk H av' v d := h.carry (fun _ _ z => z) (fun a _ z n => ⟨z, fun q => n (m a q)⟩) fun a _ z n => ⟨z, fun q => n (m a q)⟩
/-- only addresses that are tracked matter among the avoided ones -/
theorem Rep.mono' (m : ∀ a, H a ≠ none → av' a → av a) {v : V} {d : D} (h : Rep K tk H av v d) : Rep K tk H av' v d := h.carry (fun _ _ z => z) (fun a _ z n => ⟨z, fun q => n (m a (by rw [z]; simp) q)⟩) fun a _ z n => ⟨z, fun q => n (m a (by rw [z]; simp) q)⟩
theorem RepL.mono' (m : ∀ a, H a ≠ none → av' a → av a) {v : List V} {d : List D} (h : RepL K tk H av v d) : RepL K tk H av' v d := h.carry (fun _ _ z => z) (fun a _ z n => ⟨z, fun q => n (m a (by rw [z]; simp) q)⟩) fun a _ z n => ⟨z, fun q => n (m a (by rw [z]; simp) q)⟩
/-- heaps that agree on what is tracked and not written -/
theorem Rep.kept {wr : Addr → Prop} (k : ∀ a o, H a = some o → ¬ wr a → H' a = some o) (hw : ∀ a, wr a → av a) (hm : ∀ a, wr a → ∃ o, H a = some o ∧ Mut (some o)) {v : V} {d : D} (h : Rep K tk H av v d) : Rep K tk H' av v d := by
  refine h.carry (fun a xs z => ?_) (fun a xs z n => ?_) fun a kvs z n => ⟨k _ _ z fun q => n (hw a q), n⟩
  · rcases z with z | z
    · have nw : ¬ wr a := fun q => by
        obtain ⟨o, e, m⟩ := hm a q
        rcases z with z | ⟨ob, z⟩ <;> (have z := z; simp only [e] at z; cases z; exact m)
      rcases z with z | ⟨o, z⟩
      · exact .inl (.inl (k _ _ z nw))
      · exact .inl (.inr ⟨o, k _ _ z nw⟩)
    · exact .inr z
  · exact ⟨k _ _ z fun q => n (hw a q), n⟩
theorem RepL.kept {wr : Addr → Prop} (k : ∀ a o, H a = some o → ¬ wr a → H' a = some o) (hw : ∀ a, wr a → av a) (hm : ∀ a, wr a → ∃ o, H a = some o ∧ Mut (some o)) : ∀ {vs : List V} {ds : List D}, RepL K tk H av vs ds → RepL K tk H' av vs ds
  | _, _, .nil => .nil
  | _, _, .cons h r => .cons (h.kept k hw hm) (RepL.kept k hw hm r)
theorem Rep.same (k : Same H H') {v : V} {d : D} (h : Rep K tk H av v d) : Rep K tk H' av v d := h.kept (wr := fun _ => False) (fun a o e _ => k a o e) (fun _ z => z.elim) fun _ z => z.elim
theorem RepL.same (k : Same H H') {v : List V} {d : List D} (h : RepL K tk H av v d) : RepL K tk H' av v d := h.kept (wr := fun _ => False) (fun a o e _ => k a o e) (fun _ z => z.elim) fun _ z => z.elim
end
theorem same_upd {H : Hp} {p : Addr} {o : HO} (h : H p = none) : Same H (upd H p o) := fun b x e => by
  rw [upd_ne (ne_of_none e h)]
  exact e
/-- the world beside the frames: a state, the addresses that bear it, the token's address -/
structure Wd (S : Type) where
  rel : S → Hp → Prop
  own : Addr → Prop
  tok : Addr
  has : ∀ {s H a}, rel s H → own a → ∃ o, H a = some o ∧ Mut (some o)
  stay : ∀ {s H H'}, rel s H → (∀ a o, own a → H a = some o → H' a = some o) → rel s H'
def lockA (σ : L2.St) (ρ : En) (a : Addr) : Prop := ∃ (i : Nat) (t : Bool) (ds : List D), ρ[i]? = some (.own t ds) ∧ σ[i]? = some (some (.ref a))
def ownA (σ : L2.St) (ρ : En) (a : Addr) : Prop := ∃ (i : Nat) (ds : List D), ρ[i]? = some (.own false ds) ∧ σ[i]? = some (some (.ref a))
/-- a value that waits, what it is, the lists of this frame that it may be -/
structure Pd where
  v : V
  d : D
  ex : Addr → Prop
structure Fx (S : Type) where
  K : PySem.W.Frag
  W : Wd S
  H0 : Hp
  O : Addr → Prop
section
variable {S : Type}
abbrev Acc := List (Addr × List D)
def avL (R : Fx S) (A : Acc) (σ : L2.St) (ρ : En) (a : Addr) : Prop := R.O a ∨ R.W.own a ∨ lockA σ ρ a ∨ a ∈ A.map (·.1)
def avO (R : Fx S) (A : Acc) (σ : L2.St) (ρ : En) (a : Addr) : Prop := R.O a ∨ R.W.own a ∨ ownA σ ρ a ∨ a ∈ A.map (·.1)
structure Rel (R : Fx S) (A : Acc) (P : List Pd) (σ : L2.St) (H : Hp) (ρ : En) (s : S) : Prop where
  len : ρ.length = σ.length
  wd : R.W.rel s H
  ent : ∀ a o, R.H0 a = some o → ¬ R.W.own a → H a = some o
  out : ∀ a, R.O a → R.H0 a ≠ none
  wout : ∀ a, R.W.own a → R.H0 a ≠ none
  val : ∀ (i : Nat) (d : D), ρ[i]? = some (.val d) → ∃ v, σ[i]? = some (some v) ∧ Rep R.K R.W.tok H (avL R A σ ρ) v d
  lst : ∀ (i : Nat) (t : Bool) (ds : List D), ρ[i]? = some (.own t ds) → ∃ a xs, σ[i]? = some (some (.ref a)) ∧ H a = some (.lst xs) ∧ RepL R.K R.W.tok H (avL R A σ ρ) xs ds ∧ R.H0 a = none
  acc : ∀ a ds, (a, ds) ∈ A → ∃ xs, H a = some (.lst xs) ∧ RepL R.K R.W.tok H (avL R A σ ρ) xs ds ∧ R.H0 a = none
  inj : ∀ (i j : Nat) (t u : Bool) (ds es : List D) (a : Addr), ρ[i]? = some (.own t ds) → ρ[j]? = some (.own u es) → σ[i]? = some (some (.ref a)) → σ[j]? = some (some (.ref a)) → i = j
  injA : ∀ a, lockA σ ρ a → a ∉ A.map (·.1)
  ndA : (A.map (·.1)).Nodup
  pen : ∀ p ∈ P, Rep R.K R.W.tok H (fun a => avL R A σ ρ a ∧ ¬ p.ex a) p.v p.d
  pex : ∀ p ∈ P, ∀ a, avO R A σ ρ a → ¬ p.ex a
  pet : ∀ p ∈ P, ∀ a, p.ex a → H a ≠ none
variable {R : Fx S} {A : Acc} {P : List Pd} {σ : L2.St} {H H' : Hp} {ρ : En} {s s' : S}
theorem own_lock {a : Addr} (h : ownA σ ρ a) : lockA σ ρ a := let ⟨i, ds, h1, h2⟩ := h; ⟨i, false, ds, h1, h2⟩
theorem avO_avL {a : Addr} (h : avO R A σ ρ a) : avL R A σ ρ a := by
  rcases h with h | h | h | h
  · exact .inl h
  · exact .inr (.inl h)
  · exact .inr (.inr (.inl (own_lock h)))
  · exact .inr (.inr (.inr h))
theorem Rel.lockT (r : Rel R A P σ H ρ s) {a : Addr} (h : lockA σ ρ a) : (∃ xs, H a = some (.lst xs)) ∧ R.H0 a = none := by
  obtain ⟨i, t, ds, h1, h2⟩ := h
  obtain ⟨b, xs, e, hH, _, h0⟩ := r.lst i t ds h1
  rw [h2] at e; cases e
  exact ⟨⟨xs, hH⟩, h0⟩
theorem Rel.accT (r : Rel R A P σ H ρ s) {a : Addr} (h : a ∈ A.map (·.1)) : (∃ xs, H a = some (.lst xs)) ∧ R.H0 a = none := by
  obtain ⟨⟨b, ds⟩, hm, rfl⟩ := List.mem_map.mp h
  obtain ⟨xs, h1, _, h2⟩ := r.acc b ds hm
  exact ⟨⟨xs, h1⟩, h2⟩
theorem Rel.outT (r : Rel R A P σ H ρ s) {a : Addr} (h : R.O a) : H a ≠ none := by
  by_cases hw : R.W.own a
  · obtain ⟨o, e, _⟩ := R.W.has r.wd hw
    rw [e]; simp
  · cases e : R.H0 a with
    | none => exact absurd e (r.out a h)
    | some o => rw [r.ent a o e hw]; simp
/-- avoided addresses are tracked -/
theorem Rel.avT (r : Rel R A P σ H ρ s) {a : Addr} (h : avL R A σ ρ a) : H a ≠ none := by
  rcases h with h | h | h | h
  · exact r.outT h
  · obtain ⟨o, e, _⟩ := R.W.has r.wd h
    rw [e]; simp
  · obtain ⟨⟨xs, e⟩, _⟩ := r.lockT h
    rw [e]; simp
  · obtain ⟨⟨xs, e⟩, _⟩ := r.accT h
    rw [e]; simp
/-- the frame is kept where all but the world is -/
theorem Rel.kept (r : Rel R A P σ H ρ s) (k : ∀ a o, H a = some o → ¬ R.W.own a → H' a = some o) (w : R.W.rel s' H') : Rel R A P σ H' ρ s' := by
  have hm : ∀ a, R.W.own a → ∃ o, H a = some o ∧ Mut (some o) := fun a h => R.W.has r.wd h
  have hw : ∀ a, R.W.own a → avL R A σ ρ a := fun a h => .inr (.inl h)
  have nl : ∀ a, R.H0 a = none → ¬ R.W.own a := fun a h q => r.wout a q h
  refine ⟨r.len, w, fun a o e n => k a o (r.ent a o e n) n, r.out, r.wout, fun i d e => ?_, fun i t ds e => ?_, fun a ds e => ?_, r.inj, r.injA, r.ndA, fun p hp => ?_, r.pex, fun p hp a e => ?_⟩
  · obtain ⟨v, h1, h2⟩ := r.val i d e
    exact ⟨v, h1, h2.kept k hw hm⟩
  · obtain ⟨a, xs, h1, h2, h3, h4⟩ := r.lst i t ds e
    exact ⟨a, xs, h1, k _ _ h2 (nl a h4), h3.kept k hw hm, h4⟩
  · obtain ⟨xs, h2, h3, h4⟩ := r.acc a ds e
    exact ⟨xs, k _ _ h2 (nl a h4), h3.kept k hw hm, h4⟩
  · exact (r.pen p hp).kept k (fun a h => ⟨hw a h, r.pex p hp a (.inr (.inl h))⟩) hm
  · have q := r.pet p hp a e
    by_cases hw' : R.W.own a
    · obtain ⟨o, e', _⟩ := R.W.has w hw'
      rw [e']; simp
    · cases z : H a with
      | none => exact absurd z q
      | some o => rw [k a o z hw']; simp
theorem Rel.same (r : Rel R A P σ H ρ s) (k : Same H H') : Rel R A P σ H' ρ s := r.kept (fun a o e _ => k a o e) (R.W.stay r.wd fun a o _ e => k a o e)
theorem Rel.tail {p : Pd} (r : Rel R A (p :: P) σ H ρ s) : Rel R A P σ H ρ s :=
  ⟨r.len, r.wd, r.ent, r.out, r.wout, r.val, r.lst, r.acc, r.inj, r.injA, r.ndA, fun q hq => r.pen q (List.mem_cons_of_mem _ hq), fun q hq => r.pex q (List.mem_cons_of_mem _ hq), fun q hq => r.pet q (List.mem_cons_of_mem _ hq)⟩
theorem Rel.push {p : Pd} (r : Rel R A P σ H ρ s) (h : Rep R.K R.W.tok H (fun a => avL R A σ ρ a ∧ ¬ p.ex a) p.v p.d) (hx : ∀ a, avO R A σ ρ a → ¬ p.ex a) (ht : ∀ a, p.ex a → H a ≠ none) : Rel R A (p :: P) σ H ρ s :=
  ⟨r.len, r.wd, r.ent, r.out, r.wout, r.val, r.lst, r.acc, r.inj, r.injA, r.ndA, fun q hq => by
    rcases List.mem_cons.mp hq with rfl | hq
    · exact h
    · exact r.pen q hq, fun q hq => by
    rcases List.mem_cons.mp hq with rfl | hq
    · exact hx
    · exact r.pex q hq, fun q hq => by
    rcases List.mem_cons.mp hq with rfl | hq
    · exact ht
    · exact r.pet q hq⟩
theorem Rel.head {p : Pd} (r : Rel R A (p :: P) σ H ρ s) : Rep R.K R.W.tok H (fun a => avL R A σ ρ a ∧ ¬ p.ex a) p.v p.d := r.pen p List.mem_cons_self
theorem Rel.hex {p : Pd} (r : Rel R A (p :: P) σ H ρ s) : ∀ a, avO R A σ ρ a → ¬ p.ex a := r.pex p List.mem_cons_self
/-- a value that waits, over what all avoid that is not lent -/
theorem Rel.headO {p : Pd} (r : Rel R A (p :: P) σ H ρ s) : Rep R.K R.W.tok H (avO R A σ ρ) p.v p.d := r.head.mono fun a h => ⟨avO_avL h, r.hex a h⟩
end
end L3
end
section
set_option Elab.async false
set_option linter.all false
set_option maxRecDepth 100000
set_option autoImplicit false
/-! L3c: expressions over pure data (own work). -/
namespace L3
open PySem PySem.Spec PyProof.Rows L2
abbrev Ev (S : Type) := En → S → Option (D × En × S)
abbrev EvL (S : Type) := En → S → Option (List D × En × S)
abbrev EvB (S : Type) := En → S → Option (Bool × En × S)
def noEx : Addr → Prop := fun _ => False
section
variable {S : Type} {R : Fx S} {A : Acc} {P : List Pd} {σ : L2.St} {H H' : Hp} {ρ ρ' : En} {s s' : S}
/-! ### the frame's relation under the steps of evaluation -/
theorem lockA_iff {ρ ρ' : En} (h : ∀ (i : Nat), (∃ t ds, ρ[i]? = some (.own t ds)) ↔ ∃ t ds, ρ'[i]? = some (.own t ds)) (a : Addr) : lockA σ ρ a ↔ lockA σ ρ' a := by
  constructor
  · rintro ⟨i, t, ds, h1, h2⟩
    obtain ⟨t', ds', e⟩ := (h i).mp ⟨t, ds, h1⟩
    exact ⟨i, t', ds', e, h2⟩
  · rintro ⟨i, t, ds, h1, h2⟩
    obtain ⟨t', ds', e⟩ := (h i).mpr ⟨t, ds, h1⟩
    exact ⟨i, t', ds', e, h2⟩
theorem avL_congr {ρ ρ' : En} (h : ∀ a, lockA σ ρ a ↔ lockA σ ρ' a) (a : Addr) : avL R A σ ρ a ↔ avL R A σ ρ' a := by
  unfold avL; rw [h a]
/-- the marks of the own lists changed alone -/
theorem Rel.marks {P' : List Pd} (r : Rel R A P σ H ρ s) (hl : ρ'.length = ρ.length)
    (hv : ∀ (i : Nat) d, ρ'[i]? = some (.val d) → ρ[i]? = some (.val d)) (ho : ∀ (i : Nat) t ds, ρ'[i]? = some (.own t ds) → ∃ t', ρ[i]? = some (.own t' ds))
    (hb : ∀ (i : Nat) t ds, ρ[i]? = some (.own t ds) → ∃ t', ρ'[i]? = some (.own t' ds))
    (hpen : ∀ p ∈ P', Rep R.K R.W.tok H (fun a => avL R A σ ρ a ∧ ¬ p.ex a) p.v p.d) (hpex : ∀ p ∈ P', ∀ a, avO R A σ ρ' a → ¬ p.ex a) (hpet : ∀ p ∈ P', ∀ a, p.ex a → H a ≠ none) : Rel R A P' σ H ρ' s := by
  have lk : ∀ a, lockA σ ρ a ↔ lockA σ ρ' a := lockA_iff fun i => ⟨fun ⟨t, ds, e⟩ => let ⟨t', e'⟩ := hb i t ds e; ⟨t', ds, e'⟩, fun ⟨t, ds, e⟩ => let ⟨t', e'⟩ := ho i t ds e; ⟨t', ds, e'⟩⟩
  have av : ∀ a, avL R A σ ρ' a → avL R A σ ρ a := fun a => (avL_congr lk a).mpr
  refine ⟨hl.trans r.len, r.wd, r.ent, r.out, r.wout, fun i d e => ?_, fun i t ds e => ?_, fun a ds e => ?_, fun i j t u ds es a e1 e2 e3 e4 => ?_, fun a h => r.injA a ((lk a).mpr h), r.ndA, fun p hp => (hpen p hp).mono fun a h => ⟨av a h.1, h.2⟩, hpex, hpet⟩
  · obtain ⟨v, h1, h2⟩ := r.val i d (hv i d e)
    exact ⟨v, h1, h2.mono av⟩
  · obtain ⟨t', e'⟩ := ho i t ds e
    obtain ⟨a, xs, h1, h2, h3, h4⟩ := r.lst i t' ds e'
    exact ⟨a, xs, h1, h2, h3.mono av, h4⟩
  · obtain ⟨xs, h1, h2, h3⟩ := r.acc a ds e
    exact ⟨xs, h1, h2.mono av, h3⟩
  · obtain ⟨t', e1'⟩ := ho i t ds e1
    obtain ⟨u', e2'⟩ := ho j u es e2
    exact r.inj i j _ _ _ _ a e1' e2' e3 e4
/-- a list-free value has come: what was the frame's own ahead of it is so again -/
theorem Rel.thaw {v : V} {d : D} {ex : Addr → Prop} (r0 : ∀ p ∈ P, ∀ a, avO R A σ ρ a → ¬ p.ex a) (r : Rel R A (⟨v, d, ex⟩ :: P) σ H ρ' s) (hd : noL d = true) : Rel R A (⟨v, d, noEx⟩ :: P) σ H (thaw ρ ρ') s := by
  refine r.marks (thaw_length _ _) (fun i d e => ?_) (fun i t ds e => ?_) (fun i t ds e => ?_) (fun p hp => ?_) (fun p hp a ha => ?_) fun p hp a ha => ?_
  · rw [thaw_get] at e
    cases h : ρ'[i]? with
    | none => rw [h] at e; simp at e
    | some y =>
      rw [h] at e
      simp only [Option.map_some, Option.some.injEq] at e
      split at e
      · cases e
      · rw [e]
  · rw [thaw_get] at e
    cases h : ρ'[i]? with
    | none => rw [h] at e; simp at e
    | some y =>
      rw [h] at e
      simp only [Option.map_some, Option.some.injEq] at e
      split at e
      · rename_i t' ds' _
        cases e
        exact ⟨_, rfl⟩
      · exact ⟨t, by rw [e]⟩
  · rw [thaw_get, e]
    simp only [Option.map_some, Option.some.injEq]
    split
    · rename_i t' ds' q1 q2
      cases q2
      exact ⟨_, rfl⟩
    · exact ⟨_, rfl⟩
  · rcases List.mem_cons.mp hp with rfl | hp
    · exact (r.head.free hd)
    · exact r.tail.pen p hp
  · rcases List.mem_cons.mp hp with rfl | hp
    · exact fun z => z
    · rcases ha with ha | ha | ha | ha
      · exact r.tail.pex p hp a (.inl ha)
      · exact r.tail.pex p hp a (.inr (.inl ha))
      · obtain ⟨i, ds, h1, h2⟩ := ha
        rw [thaw_get] at h1
        cases h : ρ'[i]? with
        | none => rw [h] at h1; simp at h1
        | some y =>
          rw [h] at h1
          simp only [Option.map_some, Option.some.injEq] at h1
          split at h1
          · exact r0 p hp a (.inr (.inr (.inl ⟨i, _, by assumption, h2⟩)))
          · subst h1
            exact r.tail.pex p hp a (.inr (.inr (.inl ⟨i, ds, h, h2⟩)))
      · exact r.tail.pex p hp a (.inr (.inr (.inr ha)))
  · rcases List.mem_cons.mp hp with rfl | hp
    · exact ha.elim
    · exact r.tail.pet p hp a ha
/-- an own list is read -/
theorem Rel.lend {i : Nat} {t : Bool} {ds : List D} (r : Rel R A P σ H ρ s) (hi : ρ[i]? = some (.own t ds)) :
    ∃ a, σ[i]? = some (some (.ref a)) ∧ Rel R A (⟨.ref a, .lst ds, fun b => b = a⟩ :: P) σ H (ρ.set i (.own true ds)) s := by
  obtain ⟨a, xs, h1, h2, h3, h4⟩ := r.lst i t ds hi
  have hlt : i < ρ.length := (List.getElem?_eq_some_iff.mp hi).1
  refine ⟨a, h1, ?_⟩
  have own' : ∀ b, avO R A σ (ρ.set i (.own true ds)) b → avO R A σ ρ b ∧ b ≠ a := fun b hb => by
    rcases hb with hb | hb | hb | hb
    · exact ⟨.inl hb, fun e => by subst e; exact r.out b hb h4⟩
    · exact ⟨.inr (.inl hb), fun e => by subst e; exact r.wout b hb h4⟩
    · obtain ⟨j, es, e1, e2⟩ := hb
      by_cases hj : i = j
      · subst hj
        rw [List.getElem?_set_self hlt] at e1
        cases e1
      · rw [List.getElem?_set_ne hj] at e1
        refine ⟨.inr (.inr (.inl ⟨j, es, e1, e2⟩)), fun e => ?_⟩
        subst e
        exact hj (r.inj i j _ _ _ _ b hi e1 h1 e2)
    · refine ⟨.inr (.inr (.inr hb)), fun e => ?_⟩
      subst e
      exact r.injA b ⟨i, t, ds, hi, h1⟩ hb
  refine r.marks (by simp) (fun j d e => ?_) (fun j u es e => ?_) (fun j u es e => ?_) (fun p hp => ?_) (fun p hp b hb => ?_) fun p hp b hb => ?_
  · by_cases hj : i = j
    · subst hj
      rw [List.getElem?_set_self hlt] at e
      cases e
    · rwa [List.getElem?_set_ne hj] at e
  · by_cases hj : i = j
    · subst hj
      rw [List.getElem?_set_self hlt] at e
      cases e
      exact ⟨t, hi⟩
    · rw [List.getElem?_set_ne hj] at e
      exact ⟨u, e⟩
  · by_cases hj : i = j
    · subst hj
      rw [hi] at e
      cases e
      exact ⟨true, by rw [List.getElem?_set_self hlt]⟩
    · exact ⟨u, by rw [List.getElem?_set_ne hj]; exact e⟩
  · rcases List.mem_cons.mp hp with rfl | hp
    · exact .lst h2 (fun z => z.2 rfl) (h3.mono fun b hb => hb.1)
    · exact r.pen p hp
  · rcases List.mem_cons.mp hp with rfl | hp
    · exact (own' b hb).2
    · exact r.pex p hp b (own' b hb).1
  · rcases List.mem_cons.mp hp with rfl | hp
    · have e : b = a := hb
      rw [e, h2]; simp
    · exact r.pet p hp b hb
/-- a slot that is a value -/
theorem Rel.readV {i : Nat} {d : D} (r : Rel R A P σ H ρ s) (hi : ρ[i]? = some (.val d)) : ∃ v, σ[i]? = some (some v) ∧ Rel R A (⟨v, d, noEx⟩ :: P) σ H ρ s := by
  obtain ⟨v, h1, h2⟩ := r.val i d hi
  exact ⟨v, h1, r.push (h2.mono fun a h => h.1) (fun _ _ z => z) fun _ z => z.elim⟩
/-- an own list is written -/
theorem Rel.write {i : Nat} {ds ds' : List D} {xs' : List V} (r : Rel R A P σ H ρ s) (hi : ρ[i]? = some (.own false ds)) {a : Addr} (ha : σ[i]? = some (some (.ref a)))
    (hx : RepL R.K R.W.tok H (avL R A σ ρ) xs' ds') : Rel R A P σ (upd H a (.lst xs')) (ρ.set i (.own false ds')) s := by
  obtain ⟨b, xs, h1, h2, h3, h4⟩ := r.lst i false ds hi
  rw [ha] at h1; cases h1
  have hlt : i < ρ.length := (List.getElem?_eq_some_iff.mp hi).1
  have k : ∀ b o, H b = some o → ¬ b = a → (upd H a (.lst xs')) b = some o := fun b o e n => by rw [upd_ne n]; exact e
  have hm : ∀ b, b = a → ∃ o, H b = some o ∧ Mut (some o) := fun b e => by subst e; exact ⟨_, h2, trivial⟩
  have hla : lockA σ ρ a := ⟨i, false, ds, hi, ha⟩
  have hw : ∀ b, b = a → avL R A σ ρ b := fun b e => by subst e; exact .inr (.inr (.inl hla))
  have own : ∀ (j : Nat) t es, (ρ.set i (.own false ds'))[j]? = some (.own t es) → (j = i ∧ t = false ∧ es = ds') ∨ (j ≠ i ∧ ρ[j]? = some (.own t es)) := fun j t es e => by
    by_cases hj : i = j
    · subst hj
      rw [List.getElem?_set_self hlt] at e
      cases e
      exact .inl ⟨rfl, rfl, rfl⟩
    · rw [List.getElem?_set_ne hj] at e
      exact .inr ⟨fun z => hj z.symm, e⟩
  have lk : ∀ b, lockA σ ρ b ↔ lockA σ (ρ.set i (.own false ds')) b := lockA_iff fun j => by
    by_cases hj : i = j
    · subst hj
      rw [List.getElem?_set_self hlt, hi]
      exact ⟨fun _ => ⟨_, _, rfl⟩, fun _ => ⟨_, _, rfl⟩⟩
    · rw [List.getElem?_set_ne hj]
  have av : ∀ b, avL R A σ (ρ.set i (.own false ds')) b → avL R A σ ρ b := fun b => (avL_congr lk b).mpr
  refine ⟨by rw [List.length_set]; exact r.len, R.W.stay r.wd fun b o hb e => ?_, fun b o e n => ?_, r.out, r.wout, fun j d e => ?_, fun j t es e => ?_, fun b es e => ?_, fun j1 j2 t u es1 es2 b e1 e2 e3 e4 => ?_, fun b hb => r.injA b ((lk b).mpr hb), r.ndA, fun p hp => ?_, fun p hp b hb => ?_, fun p hp b hb => ?_⟩
  · exact k b o e fun z => by subst z; exact r.wout b hb h4
  · exact k b o (r.ent b o e n) fun z => by subst z; rw [h4] at e; cases e
  · have hj : i ≠ j := fun z => by
      subst z
      rw [List.getElem?_set_self hlt] at e
      cases e
    rw [List.getElem?_set_ne hj] at e
    obtain ⟨v, q1, q2⟩ := r.val j d e
    exact ⟨v, q1, (q2.kept k hw hm).mono av⟩
  · rcases own j t es e with ⟨rfl, rfl, rfl⟩ | ⟨hj, e'⟩
    · exact ⟨a, xs', ha, upd_same, (hx.kept k hw hm).mono av, h4⟩
    · obtain ⟨b, ys, q1, q2, q3, q4⟩ := r.lst j t es e'
      refine ⟨b, ys, q1, k b _ q2 fun z => ?_, (q3.kept k hw hm).mono av, q4⟩
      subst z
      exact hj (r.inj j i _ _ _ _ b e' hi q1 ha)
  · obtain ⟨ys, q1, q2, q3⟩ := r.acc b es e
    refine ⟨ys, k b _ q1 fun z => ?_, (q2.kept k hw hm).mono av, q3⟩
    subst z
    exact r.injA b hla (List.mem_map_of_mem e)
  · have o1 : ∃ t' es', ρ[j1]? = some (.own t' es') := by
      rcases own j1 t es1 e1 with ⟨rfl, _, _⟩ | ⟨_, e⟩
      · exact ⟨_, _, hi⟩
      · exact ⟨_, _, e⟩
    have o2 : ∃ t' es', ρ[j2]? = some (.own t' es') := by
      rcases own j2 u es2 e2 with ⟨rfl, _, _⟩ | ⟨_, e⟩
      · exact ⟨_, _, hi⟩
      · exact ⟨_, _, e⟩
    obtain ⟨_, _, o1⟩ := o1
    obtain ⟨_, _, o2⟩ := o2
    exact r.inj j1 j2 _ _ _ _ b o1 o2 e3 e4
  · have nx : ¬ p.ex a := r.pex p hp a (.inr (.inr (.inl ⟨i, ds, hi, ha⟩)))
    exact ((r.pen p hp).kept k (fun b e => by subst e; exact ⟨hw _ rfl, nx⟩) hm).mono fun b h => ⟨av b h.1, h.2⟩
  · refine r.pex p hp b ?_
    rcases hb with hb | hb | hb | hb
    · exact .inl hb
    · exact .inr (.inl hb)
    · obtain ⟨j, es, e1, e2⟩ := hb
      rcases own j _ es e1 with ⟨rfl, _, _⟩ | ⟨_, e⟩
      · exact .inr (.inr (.inl ⟨_, _, hi, e2⟩))
      · exact .inr (.inr (.inl ⟨_, _, e, e2⟩))
    · exact .inr (.inr (.inr hb))
  · by_cases hb' : b = a
    · subst hb'; rw [upd_same]; simp
    · rw [upd_ne hb']; exact r.pet p hp b hb
end
end L3
end
section
set_option Elab.async false
set_option linter.all false
set_option maxRecDepth 100000
set_option autoImplicit false
/-! L3d: expressions, tests, argument lists over pure data: how a reading follows (own work). -/
namespace L3
open PySem PySem.Spec PyProof.Rows L2
section
variable {S : Type}
def thawF (f : Ev S) : Ev S := fun ρ s => (f ρ s).map fun (d, ρ', s') => (d, if noL d then thaw ρ ρ' else ρ', s')
def FreshAt (R : Fx S) (A : Acc) (P : List Pd) (σ : L2.St) (H' : Hp) (ρ' : En) (s' : S) (v : V) (d : D) (ex : Addr → Prop) : Prop :=
  ∀ ds, d = .lst ds → ∃ (p : Addr) (xs : List V) (H1 : Hp), v = .ref p ∧ H1 p = none ∧ H' = upd H1 p (.lst xs) ∧ Rel R A P σ H1 ρ' s' ∧ RepL R.K R.W.tok H1 (fun a => avL R A σ ρ' a ∧ ¬ ex a) xs ds ∧ (∀ a, avO R A σ ρ' a → ¬ ex a) ∧ ∀ a, ex a → H1 a ≠ none
/-- the reading of an expression that computes f -/
def SE (K : PySem.W.Frag) (W : Wd S) (fr : Bool) (f : Ev S) : TE := fun σ H Q => ∃ (H0 : Hp) (O : Addr → Prop) (A : Acc) (P : List Pd) (ρ : En) (s : S) (d : D) (ρ' : En) (s' : S),
  Rel ⟨K, W, H0, O⟩ A P σ H ρ s ∧ f ρ s = some (d, ρ', s') ∧
    ∀ (v : V) (H' : Hp) (ex : Addr → Prop), Rel ⟨K, W, H0, O⟩ A (⟨v, d, ex⟩ :: P) σ H' ρ' s' → (fr = true → FreshAt ⟨K, W, H0, O⟩ A P σ H' ρ' s' v d ex) → Q v H'
def SB (K : PySem.W.Frag) (W : Wd S) (f : EvB S) : TT := fun σ H Q => ∃ (H0 : Hp) (O : Addr → Prop) (A : Acc) (P : List Pd) (ρ : En) (s : S) (b : Bool) (ρ' : En) (s' : S),
  Rel ⟨K, W, H0, O⟩ A P σ H ρ s ∧ f ρ s = some (b, ρ', s') ∧ ∀ H', Rel ⟨K, W, H0, O⟩ A P σ H' ρ' s' → Q b H'
def SL (K : PySem.W.Frag) (W : Wd S) (f : EvL S) : TA := fun σ H Q => ∃ (H0 : Hp) (O : Addr → Prop) (A : Acc) (P : List Pd) (ρ : En) (s : S) (ds : List D) (ρ' : En) (s' : S),
  Rel ⟨K, W, H0, O⟩ A P σ H ρ s ∧ f ρ s = some (ds, ρ', s') ∧
    ∀ (vs : List V) (H' : Hp) (ex : Addr → Prop), Rel ⟨K, W, H0, O⟩ A P σ H' ρ' s' → RepL K W.tok H' (fun a => avL ⟨K, W, H0, O⟩ A σ ρ' a ∧ ¬ ex a) vs ds → (∀ a, avO ⟨K, W, H0, O⟩ A σ ρ' a → ¬ ex a) → (∀ a, ex a → H' a ≠ none) → Q vs H'
variable {X : Cx} {W : Wd S} {e a b : Expr} {es : List Expr} {pos : Pos}
theorem _root_.L2.PE.imp {t t' : TE} (h : PE X e t) (i : ∀ σ H Q, t' σ H Q → t σ H Q) : PE X e t' := ⟨fun pins s σ H Q I q => h.run pins s σ H Q I (i σ H Q q)⟩
theorem _root_.L2.PT.imp {t t' : TT} (h : PT X e t) (i : ∀ σ H Q, t' σ H Q → t σ H Q) : PT X e t' := ⟨fun pins s σ H Q I q => h.run pins s σ H Q I (i σ H Q q)⟩
theorem _root_.L2.PA.imp {t t' : TA} (h : PA X es t) (i : ∀ σ H Q, t' σ H Q → t σ H Q) : PA X es t' := ⟨fun pos pins s σ H Q I q => h.run pos pins s σ H Q I (i σ H Q q)⟩
theorem SE.mono {K : PySem.W.Frag} {f : Ev S} {σ : L2.St} {H : Hp} {Q : VK} {fr : Bool} (h : SE K W false f σ H Q) : SE K W fr f σ H Q := by
  obtain ⟨H0, O, A, P, ρ, s, d, ρ', s', r, e, q⟩ := h
  exact ⟨H0, O, A, P, ρ, s, d, ρ', s', r, e, fun v H' ex r' _ => q v H' ex r' fun z => Bool.noConfusion z⟩
theorem se_weak {f : Ev S} {fr : Bool} (h : PE X e (SE X.K W fr f)) : PE X e (SE X.K W false f) := h.imp fun σ H Q q => q.mono
theorem se_thaw {f : Ev S} {fr : Bool} (h : PE X e (SE X.K W fr f)) : PE X e (SE X.K W fr (thawF f)) := by
  refine h.imp fun σ H Q q => ?_
  obtain ⟨H0, O, A, P, ρ, s, d, ρ', s', r, e, q⟩ := q
  unfold thawF at e
  cases h : f ρ s with
  | none => rw [h] at e; simp at e
  | some z =>
    obtain ⟨d1, ρ1, s1⟩ := z
    rw [h] at e
    simp only [Option.map_some, Option.some.injEq, Prod.mk.injEq] at e
    obtain ⟨rfl, e2, rfl⟩ := e
    refine ⟨H0, O, A, P, ρ, s, d1, ρ1, s1, r, h, fun v H' ex r' hf => ?_⟩
    by_cases hd : noL d1 = true
    · rw [if_pos hd] at e2
      subst e2
      refine q v H' noEx (Rel.thaw r.pex r' hd) fun _ ds z => ?_
      subst z
      simp [noL] at hd
    · rw [if_neg hd] at e2
      subst e2
      exact q v H' ex r' hf
/-! ### by values -/
def FreshV (K : PySem.W.Frag) (tk : Addr) (H H' : Hp) (av : Addr → Prop) (v : V) (d : D) : Prop := ∀ ds, d = .lst ds → ∃ (p : Addr) (xs : List V), v = .ref p ∧ H p = none ∧ H' = upd H p (.lst xs) ∧ RepL K tk H av xs ds
/-- what a by-value operation hands on -/
def VQ (K : PySem.W.Frag) (tk : Addr) (H : Hp) (av : Addr → Prop) (d : D) (Q : VK) : Prop := ∀ v H', Same H H' → Rep K tk H' av v d → FreshV K tk H H' av v d → Q v H'
def V2 (K : PySem.W.Frag) (tk : Addr) (r : R2) (f : D → D → Option D) : Prop := ∀ (H : Hp) (av : Addr → Prop) (x y : V) (dx dy d : D) (Q : VK), (∀ a, av a → H a ≠ none) → Rep K tk H av x dx → Rep K tk H av y dy → f dx dy = some d → VQ K tk H av d Q → r x y H Q
def VC (K : PySem.W.Frag) (tk : Addr) (r : List V → Hp → VK → Prop) (f : List D → Option D) : Prop := ∀ (H : Hp) (av : Addr → Prop) (xs : List V) (ds : List D) (d : D) (Q : VK), (∀ a, av a → H a ≠ none) → RepL K tk H av xs ds → f ds = some d → VQ K tk H av d Q → r xs H Q
theorem VQ.val {K : PySem.W.Frag} {tk : Addr} {H : Hp} {av : Addr → Prop} {d : D} {Q : VK} (h : VQ K tk H av d Q) {v : V} (r : Rep K tk H av v d) (n : ∀ ds, d ≠ .lst ds) : Q v H := h v H (Same.refl H) r fun ds e => absurd e (n ds)
theorem VQ.tup {K : PySem.W.Frag} {tk : Addr} {H : Hp} {av : Addr → Prop} {ds : List D} {Q : VK} (h : VQ K tk H av (.tup ds) Q) {xs : List V} (r : RepL K tk H av xs ds) {p : Addr} (hp : H p = none) : Q (.ref p) (upd H p (.tup xs)) :=
  h _ _ (same_upd hp) (.tup (.inl (.inl upd_same)) (r.same (same_upd hp))) fun _ e => by cases e
theorem VQ.lst {K : PySem.W.Frag} {tk : Addr} {H : Hp} {av : Addr → Prop} {ds : List D} {Q : VK} (h : VQ K tk H av (.lst ds) Q) (hav : ∀ a, av a → H a ≠ none) {xs : List V} (r : RepL K tk H av xs ds) {p : Addr} (hp : H p = none) : Q (.ref p) (upd H p (.lst xs)) :=
  h _ _ (same_upd hp) (.lst upd_same (fun z => hav p z hp) (r.same (same_upd hp))) fun es e => by cases e; exact ⟨p, xs, rfl, hp, rfl, r⟩
theorem fin_val {R : Fx S} {A : Acc} {P : List Pd} {σ : L2.St} {H : Hp} {ρ : En} {s : S} {d : D} {Q : VK} {fr : Bool} {ex : Addr → Prop} (r : Rel R A P σ H ρ s) (hx : ∀ a, avO R A σ ρ a → ¬ ex a) (ht : ∀ a, ex a → H a ≠ none)
    (hq : ∀ (v : V) (H' : Hp) (ex : Addr → Prop), Rel R A (⟨v, d, ex⟩ :: P) σ H' ρ s → (fr = true → FreshAt R A P σ H' ρ s v d ex) → Q v H') : VQ R.K R.W.tok H (fun a => avL R A σ ρ a ∧ ¬ ex a) d Q := fun v H' k rv fv => by
  have r' := r.same k
  refine hq v H' ex (r'.push rv hx fun a h => ?_) fun _ ds e => ?_
  · cases z : H a with
    | none => exact absurd z (ht a h)
    | some o => rw [k a o z]; simp
  · obtain ⟨p, xs, e1, e2, e3, e4⟩ := fv ds e
    exact ⟨p, xs, H, e1, e2, e3, r, e4, hx, ht⟩
/-! ### names, constants -/
def varF (i : Nat) : Ev S := fun ρ s => match ρ[i]? with
  | some (.val d) => some (d, ρ, s)
  | some (.own _ ds) => some (.lst ds, ρ.set i (.own true ds), s)
  | _ => none
theorem se_var {i : Nat} {x : Str} (hN : X.N[i]? = some x) (hv : Vis X.env.scope x) (hd : (x == ("__debug__" : Str)) = false) (hcd : (x == ("__classdict__" : Str)) = false) : PE X (.Name x pos) (SE X.K W false (varF i)) := by
  refine (pe_var hN hv hd hcd).imp fun σ H Q q => ?_
  obtain ⟨H0, O, A, P, ρ, s, d, ρ', s', r, e, q⟩ := q
  unfold varF at e
  split at e
  · cases e
    rename_i d hi
    obtain ⟨v, h1, h2⟩ := r.readV hi
    exact ⟨v, h1, q v H noEx h2 fun z => Bool.noConfusion z⟩
  · cases e
    rename_i t ds hi
    obtain ⟨a, h1, h2⟩ := r.lend hi
    exact ⟨_, h1, q _ H _ h2 fun z => Bool.noConfusion z⟩
  · cases e
def cstF (d : D) : Ev S := fun ρ s => some (d, ρ, s)
theorem se_cst {v : V} {d : D} (hv : ∀ H av, Rep X.K W.tok H av v d) (h : PE X e (tC v)) : PE X e (SE X.K W false (cstF d)) := by
  refine h.imp fun σ H Q q => ?_
  obtain ⟨H0, O, A, P, ρ, s, d', ρ', s', r, e, q⟩ := q
  cases e
  exact q v H noEx (r.push (hv H _) (fun _ _ z => z) fun _ z => z.elim) fun z => Bool.noConfusion z
/-! ### two operands -/
def binF (f : D → D → Option D) (fa fb : Ev S) : Ev S := fun ρ s => do
  let (x, ρ, s) ← fa ρ s
  let (y, ρ, s) ← fb ρ s
  let d ← f x y
  some (d, ρ, s)
theorem binF_some {f : D → D → Option D} {fa fb : Ev S} {ρ ρ' : En} {s s' : S} {d : D} (h : binF f fa fb ρ s = some (d, ρ', s')) : ∃ x ρ1 s1 y, fa ρ s = some (x, ρ1, s1) ∧ fb ρ1 s1 = some (y, ρ', s') ∧ f x y = some d := by
  unfold binF at h
  cases h1 : fa ρ s with
  | none => rw [h1] at h; simp at h
  | some z =>
    obtain ⟨x, ρ1, s1⟩ := z
    rw [h1] at h
    simp only [Option.bind_eq_bind, Option.bind_some] at h
    cases h2 : fb ρ1 s1 with
    | none => rw [h2] at h; simp at h
    | some z =>
      obtain ⟨y, ρ2, s2⟩ := z
      rw [h2] at h
      simp only [Option.bind_some] at h
      cases h3 : f x y with
      | none => rw [h3] at h; simp at h
      | some d' =>
        rw [h3] at h
        simp only [Option.bind_some, Option.some.injEq, Prod.mk.injEq] at h
        obtain ⟨rfl, rfl, rfl⟩ := h
        exact ⟨x, ρ1, s1, y, rfl, h2, h3⟩
theorem two_val {r : R2} {f : D → D → Option D} {fa fb : Ev S} {fr fr1 fr2 : Bool} (hv : V2 X.K W.tok r f) {σ : L2.St} {H : Hp} {Q : VK} (h : SE X.K W fr (binF f fa fb) σ H Q) : tOp r (SE X.K W fr1 fa) (SE X.K W fr2 fb) σ H Q := by
  obtain ⟨H0, O, A, P, ρ, s, d, ρ', s', r0, e, q⟩ := h
  obtain ⟨x, ρ1, s1, y, e1, e2, e3⟩ := binF_some e
  refine ⟨H0, O, A, P, ρ, s, x, ρ1, s1, r0, e1, fun v H1 ex1 r1 _ => ?_⟩
  refine ⟨H0, O, A, _, ρ1, s1, y, ρ', s', r1, e2, fun w H2 ex2 r2 _ => ?_⟩
  have hx : ∀ a, avO ⟨X.K, W, H0, O⟩ A σ ρ' a → ¬ (ex1 a ∨ ex2 a) := fun a h z => z.elim (r2.tail.hex a h) (r2.hex a h)
  have ht : ∀ a, (ex1 a ∨ ex2 a) → H2 a ≠ none := fun a z => z.elim (r2.tail.pet _ List.mem_cons_self a) (r2.pet _ List.mem_cons_self a)
  refine hv H2 (fun a => avL ⟨X.K, W, H0, O⟩ A σ ρ' a ∧ ¬ (ex1 a ∨ ex2 a)) v w x y d Q (fun a h => r2.avT h.1) ?_ ?_ e3 (fin_val r2.tail.tail hx ht q)
  · exact r2.tail.head.mono fun a h => ⟨h.1, fun z => h.2 (.inl z)⟩
  · exact r2.head.mono fun a h => ⟨h.1, fun z => h.2 (.inr z)⟩
theorem se_bin {op : Operator} {r : R2} {f : D → D → Option D} {fa fb : Ev S} {fr1 fr2 : Bool} (ho : OpR X (binaryOp op) r) (hv : V2 X.K W.tok r f) (ha : PE X a (SE X.K W fr1 fa)) (hb : PE X b (SE X.K W fr2 fb)) :
    PE X (.BinOp a op b pos) (SE X.K W true (binF f fa fb)) := (pe_op ho ha hb).imp fun σ H Q q => two_val hv q
theorem se_cmp {op : CmpOp} {r : R2} {f : D → D → Option D} {fa fb : Ev S} {fr1 fr2 : Bool} (ho : OpR X (compareOp op) r) (hv : V2 X.K W.tok r f) (ha : PE X a (SE X.K W fr1 fa)) (hb : PE X b (SE X.K W fr2 fb)) (hm : behindInMarks op b = false) :
    PE X (.Compare a [op] [b] pos) (SE X.K W true (binF f fa fb)) := (pe_cmpR ho ha hb hm).imp fun σ H Q q => two_val hv q
theorem se_ix {r : R2} {f : D → D → Option D} {fa fb : Ev S} {fr1 fr2 : Bool} (ho : IxR X r) (hv : V2 X.K W.tok r f) (ha : PE X a (SE X.K W fr1 fa)) (hb : PE X b (SE X.K W fr2 fb)) (hs : PlainIx b) :
    PE X (.Subscript a b pos) (SE X.K W false (binF f fa fb)) := (pe_ix ho ha hb hs).imp fun σ H Q q => two_val hv q
/-! ### argument lists -/
def nilL : EvL S := fun ρ s => some ([], ρ, s)
def consL (f : Ev S) (g : EvL S) : EvL S := fun ρ s => do
  let (x, ρ, s) ← f ρ s
  let (xs, ρ, s) ← g ρ s
  some (x :: xs, ρ, s)
theorem consL_some {f : Ev S} {g : EvL S} {ρ ρ' : En} {s s' : S} {ds : List D} (h : consL f g ρ s = some (ds, ρ', s')) : ∃ x ρ1 s1 xs, f ρ s = some (x, ρ1, s1) ∧ g ρ1 s1 = some (xs, ρ', s') ∧ ds = x :: xs := by
  unfold consL at h
  cases h1 : f ρ s with
  | none => rw [h1] at h; simp at h
  | some z =>
    obtain ⟨x, ρ1, s1⟩ := z
    rw [h1] at h
    simp only [Option.bind_eq_bind, Option.bind_some] at h
    cases h2 : g ρ1 s1 with
    | none => rw [h2] at h; simp at h
    | some z =>
      obtain ⟨y, ρ2, s2⟩ := z
      rw [h2] at h
      simp only [Option.bind_some, Option.some.injEq, Prod.mk.injEq] at h
      obtain ⟨rfl, rfl, rfl⟩ := h
      exact ⟨x, ρ1, s1, y, rfl, h2, rfl⟩
theorem sl_nil : PA X [] (SL X.K W nilL) := pa_nil.imp fun σ H Q q => by
  obtain ⟨H0, O, A, P, ρ, s, ds, ρ', s', r, e, q⟩ := q
  cases e
  exact q [] H noEx r .nil (fun _ _ z => z) fun _ z => z.elim
theorem sl_cons {f : Ev S} {g : EvL S} {fr : Bool} (he : PE X e (SE X.K W fr f)) (hr : PA X es (SL X.K W g)) (hs : starEach (e :: es) X.env = (false, eval e X.env) :: starEach es X.env) : PA X (e :: es) (SL X.K W (consL f g)) :=
  (pa_cons he hr hs).imp fun σ H Q q => by
    obtain ⟨H0, O, A, P, ρ, s, ds, ρ', s', r0, e, q⟩ := q
    obtain ⟨x, ρ1, s1, xs, e1, e2, rfl⟩ := consL_some e
    refine ⟨H0, O, A, P, ρ, s, x, ρ1, s1, r0, e1, fun v H1 ex1 r1 _ => ?_⟩
    refine ⟨H0, O, A, _, ρ1, s1, xs, ρ', s', r1, e2, fun vs H2 ex2 r2 rl hx ht => ?_⟩
    refine q (v :: vs) H2 (fun a => ex1 a ∨ ex2 a) r2.tail (.cons (r2.head.mono fun a h => ⟨h.1, fun z => h.2 (.inl z)⟩) (rl.mono fun a h => ⟨h.1, fun z => h.2 (.inr z)⟩)) (fun a h z => z.elim (r2.hex a h) (hx a h)) fun a z => z.elim (r2.pet _ List.mem_cons_self a) (ht a)
def mapF (f : List D → Option D) (g : EvL S) : Ev S := fun ρ s => do
  let (xs, ρ, s) ← g ρ s
  let d ← f xs
  some (d, ρ, s)
theorem mapF_some {f : List D → Option D} {g : EvL S} {ρ ρ' : En} {s s' : S} {d : D} (h : mapF f g ρ s = some (d, ρ', s')) : ∃ xs, g ρ s = some (xs, ρ', s') ∧ f xs = some d := by
  unfold mapF at h
  cases h1 : g ρ s with
  | none => rw [h1] at h; simp at h
  | some z =>
    obtain ⟨x, ρ1, s1⟩ := z
    rw [h1] at h
    simp only [Option.bind_eq_bind, Option.bind_some] at h
    cases h3 : f x with
    | none => rw [h3] at h; simp at h
    | some d' =>
      rw [h3] at h
      simp only [Option.bind_some, Option.some.injEq, Prod.mk.injEq] at h
      obtain ⟨rfl, rfl, rfl⟩ := h
      exact ⟨x, rfl, h3⟩
theorem list_val {r : List V → Hp → VK → Prop} {f : List D → Option D} {g : EvL S} {fr : Bool} (hv : VC X.K W.tok r f) {σ : L2.St} {H : Hp} {Q : VK} (h : SE X.K W fr (mapF f g) σ H Q) : SL X.K W g σ H fun vs H1 => r vs H1 Q := by
  obtain ⟨H0, O, A, P, ρ, s, d, ρ', s', r0, e, q⟩ := h
  obtain ⟨ds, e1, e2⟩ := mapF_some e
  refine ⟨H0, O, A, P, ρ, s, ds, ρ', s', r0, e1, fun vs H1 ex r1 rl hx ht => ?_⟩
  exact hv H1 _ vs ds d Q (fun a h => r1.avT h.1) rl e2 (fin_val r1 hx ht q)
/-- a call of a built-in function, of a built-in class -/
theorem se_callB {id : String} {x : Str} {r : List V → Hp → VK → Prop} {f : List D → Option D} {g : EvL S} {p : Pos} (hc : CallR X (.builtin id) r) (hv : VC X.K W.tok r f) (hg : Gl X x) (hm : X.mg x = none) (hb : bootBuiltins x = some (.builtin id)) (ha : PA X (e :: es) (SL X.K W g))
    (hn : x ≠ "__name__") (hdb : (x == ("__debug__" : Str)) = false) (he : starEach (e :: es) X.env = (false, eval e X.env) :: starEach es X.env) (hpl : (backTo pos (starEach es X.env)).any (·.1) = false) :
    PE X (.Call (.Name x p) (e :: es) [] pos) (SE X.K W true (mapF f g)) := (pe_callB hc hg hm hb ha hn hdb he hpl).imp fun σ H Q q => list_val hv q
theorem se_callT {T : String} {x : Str} {r : List V → Hp → VK → Prop} {f : List D → Option D} {g : EvL S} {p : Pos} (hc : CallR X (.type T) r) (hv : VC X.K W.tok r f) (hg : Gl X x) (hm : X.mg x = none) (hb : bootBuiltins x = some (.type T)) (ha : PA X (e :: es) (SL X.K W g))
    (hn : x ≠ "__name__") (hdb : (x == ("__debug__" : Str)) = false) (he : starEach (e :: es) X.env = (false, eval e X.env) :: starEach es X.env) (hpl : (backTo pos (starEach es X.env)).any (·.1) = false) :
    PE X (.Call (.Name x p) (e :: es) [] pos) (SE X.K W true (mapF f g)) := (pe_callTy hc hg hm hb ha hn hdb he hpl).imp fun σ H Q q => list_val hv q
/-- displays -/
def dispT (ds : List D) : Option D := if ds.length ≤ sizeLine then some (.tup ds) else none
def dispL (ds : List D) : Option D := if ds.length ≤ sizeLine then some (.lst ds) else none
theorem se_tup {k : Nat} {g : EvL S} (ha : PA X es (SL X.K W g)) : PE X (.Tuple es k pos) (SE X.K W false (mapF dispT g)) := (pe_tup ha).imp fun σ H Q q => by
  refine list_val (r := fun xs H1 Q => xs.length ≤ sizeLine ∧ ∀ p, H1 p = none → Q (.ref p) (upd H1 p (.tup xs))) (fun H av xs ds d Q hav rl e hq => ?_) q
  unfold dispT at e
  split at e
  · rename_i hz
    cases e
    exact ⟨by rw [rl.length]; exact hz, fun p hp => hq.tup rl hp⟩
  · cases e
theorem se_lst {g : EvL S} (ha : PA X es (SL X.K W g)) : PE X (.List es pos) (SE X.K W true (mapF dispL g)) := (pe_lst ha).imp fun σ H Q q => by
  refine list_val (r := fun xs H1 Q => xs.length ≤ sizeLine ∧ ∀ p, H1 p = none → Q (.ref p) (upd H1 p (.lst xs))) (fun H av xs ds d Q hav rl e hq => ?_) q
  unfold dispL at e
  split at e
  · rename_i hz
    cases e
    exact ⟨by rw [rl.length]; exact hz, fun p hp => hq.lst hav rl hp⟩
  · cases e
end
end L3
end
section
set_option Elab.async false
set_option linter.all false
set_option maxRecDepth 100000
set_option autoImplicit false
/-! L3e: the frame's relation under stores, freezing, gathered lists (own work). -/
namespace L3
open PySem PySem.Spec PyProof.Rows L2
section
variable {S : Type} {R : Fx S} {A : Acc} {P : List Pd} {σ : L2.St} {H H' : Hp} {ρ ρ' : En} {s s' : S}
/-- marks set back without a value -/
theorem Rel.thaw0 (r0 : ∀ p ∈ P, ∀ a, avO R A σ ρ a → ¬ p.ex a) (r : Rel R A P σ H ρ' s) : Rel R A P σ H (L3.thaw ρ ρ') s :=
  (Rel.thaw (v := .non) (d := .non) (ex := noEx) r0 (r.push .non (fun _ _ z => z) fun _ z => z.elim) rfl).tail
theorem freeze_own {ρ : En} {i : Nat} {t : Bool} {ds : List D} (e : (freeze ρ)[i]? = some (.own t ds)) : t = false ∧ ρ[i]? = some (.own false ds) := by
  rw [freeze_get] at e
  cases h : ρ[i]? with
  | none => rw [h] at e; simp at e
  | some y =>
    rw [h] at e
    cases y with
    | non => simp at e
    | val d => simp at e
    | own u es =>
      cases u with
      | true => simp at e
      | false =>
        simp at e
        obtain ⟨rfl, rfl⟩ := e
        exact ⟨rfl, rfl⟩
theorem freeze_lock {a : Addr} : lockA σ (freeze ρ) a → ownA σ ρ a := by
  rintro ⟨i, t, ds, e1, e2⟩
  obtain ⟨_, e⟩ := freeze_own e1
  exact ⟨i, ds, e, e2⟩
theorem freeze_avL {a : Addr} (h : avL R A σ (freeze ρ) a) : avO R A σ ρ a := by
  rcases h with h | h | h | h
  · exact .inl h
  · exact .inr (.inl h)
  · exact .inr (.inr (.inl (freeze_lock h)))
  · exact .inr (.inr (.inr h))
theorem freeze_avO {a : Addr} (h : avO R A σ (freeze ρ) a) : avO R A σ ρ a := freeze_avL (avO_avL h)
/-- what is lent is given away -/
theorem Rel.freeze (r : Rel R A P σ H ρ s) : Rel R A P σ H (L3.freeze ρ) s := by
  have av : ∀ a, avL R A σ (L3.freeze ρ) a → avL R A σ ρ a := fun a h => avO_avL (freeze_avL h)
  refine ⟨by rw [freeze_length]; exact r.len, r.wd, r.ent, r.out, r.wout, fun i d e => ?_, fun i t ds e => ?_, fun a ds e => ?_, fun i j t u ds es a e1 e2 e3 e4 => ?_, fun a h => r.injA a (own_lock (freeze_lock h)), r.ndA, fun p hp => (r.pen p hp).mono fun a h => ⟨av a h.1, h.2⟩, fun p hp a h => r.pex p hp a (freeze_avO h), r.pet⟩
  · rw [freeze_get] at e
    cases h : ρ[i]? with
    | none => rw [h] at e; simp at e
    | some y =>
      rw [h] at e
      cases y with
      | non => simp at e
      | val d' =>
        simp at e
        subst e
        obtain ⟨v, h1, h2⟩ := r.val i d' h
        exact ⟨v, h1, h2.mono av⟩
      | own u es =>
        cases u with
        | false => simp at e
        | true =>
          simp at e
          subst e
          obtain ⟨a, xs, h1, h2, h3, h4⟩ := r.lst i true es h
          refine ⟨_, h1, .lst h2 (fun z => ?_) (h3.mono av)⟩
          rcases freeze_avL z with q | q | q | q
          · exact r.out a q h4
          · exact r.wout a q h4
          · obtain ⟨j, fs, e1, e2⟩ := q
            have := r.inj i j _ _ _ _ a h e1 h1 e2
            subst this
            rw [h] at e1; cases e1
          · exact r.injA a ⟨i, true, es, h, h1⟩ q
  · obtain ⟨rfl, e'⟩ := freeze_own e
    obtain ⟨a, xs, h1, h2, h3, h4⟩ := r.lst i _ ds e'
    exact ⟨a, xs, h1, h2, h3.mono av, h4⟩
  · obtain ⟨xs, h1, h2, h3⟩ := r.acc a ds e
    exact ⟨xs, h1, h2.mono av, h3⟩
  · obtain ⟨_, e1'⟩ := freeze_own e1
    obtain ⟨_, e2'⟩ := freeze_own e2
    exact r.inj i j _ _ _ _ a e1' e2' e3 e4
/-! ### stores -/
theorem set_own {i j : Nat} {y : Sl} {t : Bool} {ds : List D} (hy : ∀ t ds, y ≠ .own t ds) (e : (ρ.set i y)[j]? = some (.own t ds)) : j ≠ i ∧ ρ[j]? = some (.own t ds) := by
  by_cases hj : i = j
  · subst hj
    by_cases hlt : i < ρ.length
    · rw [List.getElem?_set_self hlt] at e
      exact absurd (Option.some.inj e) (hy _ _)
    · rw [List.getElem?_eq_none (by simpa using hlt)] at e; cases e
  · rw [List.getElem?_set_ne hj] at e
    exact ⟨fun z => hj z.symm, e⟩
/-- a slot turned to what is no own list -/
theorem Rel.slotN {i : Nat} {y : Sl} {x : Option V} (r : Rel R A P σ H ρ s) (hy : ∀ t ds, y ≠ .own t ds)
    (hv : ∀ d, y = .val d → ∃ v, x = some v ∧ Rep R.K R.W.tok H (avL R A σ ρ) v d) : Rel R A P (σ.set i x) H (ρ.set i y) s := by
  have lk : ∀ a, lockA (σ.set i x) (ρ.set i y) a → lockA σ ρ a := by
    rintro a ⟨j, t, ds, e1, e2⟩
    obtain ⟨hj, e⟩ := set_own hy e1
    rw [List.getElem?_set_ne (Ne.symm hj)] at e2
    exact ⟨j, t, ds, e, e2⟩
  have ow : ∀ a, ownA (σ.set i x) (ρ.set i y) a → ownA σ ρ a := by
    rintro a ⟨j, ds, e1, e2⟩
    obtain ⟨hj, e⟩ := set_own hy e1
    rw [List.getElem?_set_ne (Ne.symm hj)] at e2
    exact ⟨j, ds, e, e2⟩
  have av : ∀ a, avL R A (σ.set i x) (ρ.set i y) a → avL R A σ ρ a := fun a h => h.elim .inl fun h => h.elim (fun h => .inr (.inl h)) fun h => h.elim (fun h => .inr (.inr (.inl (lk a h)))) fun h => .inr (.inr (.inr h))
  have ao : ∀ a, avO R A (σ.set i x) (ρ.set i y) a → avO R A σ ρ a := fun a h => h.elim .inl fun h => h.elim (fun h => .inr (.inl h)) fun h => h.elim (fun h => .inr (.inr (.inl (ow a h)))) fun h => .inr (.inr (.inr h))
  refine ⟨by rw [List.length_set, List.length_set]; exact r.len, r.wd, r.ent, r.out, r.wout, fun j d e => ?_, fun j t ds e => ?_, fun a ds e => ?_, fun j k t u ds es a e1 e2 e3 e4 => ?_, fun a h => r.injA a (lk a h), r.ndA, fun p hp => (r.pen p hp).mono fun a h => ⟨av a h.1, h.2⟩, fun p hp a h => r.pex p hp a (ao a h), r.pet⟩
  · by_cases hj : i = j
    · subst hj
      by_cases hlt : i < ρ.length
      · rw [List.getElem?_set_self hlt] at e
        obtain ⟨v, e1, e2⟩ := hv d (Option.some.inj e)
        subst e1
        exact ⟨v, by rw [List.getElem?_set_self (by rw [← r.len]; exact hlt)], e2.mono av⟩
      · rw [List.getElem?_eq_none (by simpa using hlt)] at e; cases e
    · rw [List.getElem?_set_ne hj] at e
      obtain ⟨v, h1, h2⟩ := r.val j d e
      exact ⟨v, by rw [List.getElem?_set_ne hj]; exact h1, h2.mono av⟩
  · obtain ⟨hj, e'⟩ := set_own hy e
    obtain ⟨a, xs, h1, h2, h3, h4⟩ := r.lst j t ds e'
    exact ⟨a, xs, by rw [List.getElem?_set_ne (Ne.symm hj)]; exact h1, h2, h3.mono av, h4⟩
  · obtain ⟨xs, h1, h2, h3⟩ := r.acc a ds e
    exact ⟨xs, h1, h2.mono av, h3⟩
  · obtain ⟨hj, e1'⟩ := set_own hy e1
    obtain ⟨hk, e2'⟩ := set_own hy e2
    rw [List.getElem?_set_ne (Ne.symm hj)] at e3
    rw [List.getElem?_set_ne (Ne.symm hk)] at e4
    exact r.inj j k _ _ _ _ a e1' e2' e3 e4
theorem Rel.storeV {i : Nat} {v : V} {d : D} (r : Rel R A P σ H ρ s) (h : Rep R.K R.W.tok H (avL R A σ ρ) v d) : Rel R A P (σ.set i (some v)) H (ρ.set i (.val d)) s :=
  r.slotN (fun _ _ e => nomatch e) fun d' e => by cases e; exact ⟨v, rfl, h⟩
theorem Rel.fresh0 (r : Rel R A P σ H ρ s) {p : Addr} (hp : H p = none) : R.H0 p = none := by
  cases e : R.H0 p with
  | none => rfl
  | some o =>
    by_cases hw : R.W.own p
    · obtain ⟨o', e', _⟩ := R.W.has r.wd hw
      rw [hp] at e'; cases e'
    · have := r.ent p o e hw
      rw [hp] at this; cases this
theorem Rep.more {K : PySem.W.Frag} {tk : Addr} {av av' : Addr → Prop} {p : Addr} {o : HO} (hp : H p = none) (m : ∀ a, av' a → av a ∨ a = p) {v : V} {d : D} (h : Rep K tk H av v d) : Rep K tk (upd H p o) av' v d := by
  refine (h.mono' (av' := av') fun a t z => ?_).same (same_upd hp)
  rcases m a z with q | q
  · exact q
  · rw [q] at t; exact absurd hp t
theorem RepL.more {K : PySem.W.Frag} {tk : Addr} {av av' : Addr → Prop} {p : Addr} {o : HO} (hp : H p = none) (m : ∀ a, av' a → av a ∨ a = p) {v : List V} {d : List D} (h : RepL K tk H av v d) : RepL K tk (upd H p o) av' v d := by
  refine (h.mono' (av' := av') fun a t z => ?_).same (same_upd hp)
  rcases m a z with q | q
  · exact q
  · rw [q] at t; exact absurd hp t
/-- a new list is a name's own -/
theorem Rel.storeOwn {i : Nat} {p : Addr} {xs : List V} {ds : List D} (r : Rel R A P σ H ρ s) (hi : i < ρ.length) (hp : H p = none) (hx : RepL R.K R.W.tok H (avL R A σ ρ) xs ds) :
    Rel R A P (σ.set i (some (.ref p))) (upd H p (.lst xs)) (ρ.set i (.own false ds)) s := by
  have hi' : i < σ.length := by rw [← r.len]; exact hi
  have own : ∀ (j : Nat) t es, (ρ.set i (.own false ds))[j]? = some (.own t es) → (j = i ∧ t = false ∧ es = ds) ∨ (j ≠ i ∧ ρ[j]? = some (.own t es)) := fun j t es e => by
    by_cases hj : i = j
    · subst hj
      rw [List.getElem?_set_self hi] at e
      cases e
      exact .inl ⟨rfl, rfl, rfl⟩
    · rw [List.getElem?_set_ne hj] at e
      exact .inr ⟨fun z => hj z.symm, e⟩
  have lk : ∀ a, lockA (σ.set i (some (.ref p))) (ρ.set i (.own false ds)) a → lockA σ ρ a ∨ a = p := by
    rintro a ⟨j, t, es, e1, e2⟩
    rcases own j t es e1 with ⟨rfl, _, _⟩ | ⟨hj, e⟩
    · rw [List.getElem?_set_self hi'] at e2
      cases e2
      exact .inr rfl
    · rw [List.getElem?_set_ne (Ne.symm hj)] at e2
      exact .inl ⟨j, t, es, e, e2⟩
  have ow : ∀ a, ownA (σ.set i (some (.ref p))) (ρ.set i (.own false ds)) a → ownA σ ρ a ∨ a = p := by
    rintro a ⟨j, es, e1, e2⟩
    rcases own j _ es e1 with ⟨rfl, _, _⟩ | ⟨hj, e⟩
    · rw [List.getElem?_set_self hi'] at e2
      cases e2
      exact .inr rfl
    · rw [List.getElem?_set_ne (Ne.symm hj)] at e2
      exact .inl ⟨j, es, e, e2⟩
  have av : ∀ a, avL R A (σ.set i (some (.ref p))) (ρ.set i (.own false ds)) a → avL R A σ ρ a ∨ a = p := fun a h => h.elim (fun h => .inl (.inl h)) fun h => h.elim (fun h => .inl (.inr (.inl h))) fun h => h.elim (fun h => (lk a h).imp (fun h => .inr (.inr (.inl h))) id) fun h => .inl (.inr (.inr (.inr h)))
  have ao : ∀ a, avO R A (σ.set i (some (.ref p))) (ρ.set i (.own false ds)) a → avO R A σ ρ a ∨ a = p := fun a h => h.elim (fun h => .inl (.inl h)) fun h => h.elim (fun h => .inl (.inr (.inl h))) fun h => h.elim (fun h => (ow a h).imp (fun h => .inr (.inr (.inl h))) id) fun h => .inl (.inr (.inr (.inr h)))
  have k := same_upd (o := .lst xs) hp
  refine ⟨by rw [List.length_set, List.length_set]; exact r.len, R.W.stay r.wd fun a o _ e => k a o e, fun a o e n => k a o (r.ent a o e n), r.out, r.wout, fun j d e => ?_, fun j t es e => ?_, fun a es e => ?_, fun j l t u es fs a e1 e2 e3 e4 => ?_, fun a h => ?_, r.ndA, fun q hq => (r.pen q hq).more hp fun a h => (av a h.1).imp (fun z => ⟨z, h.2⟩) id, fun q hq a h => ?_, fun q hq a h => ?_⟩
  · have hj : i ≠ j := fun z => by
      subst z
      rw [List.getElem?_set_self hi] at e
      cases e
    rw [List.getElem?_set_ne hj] at e
    obtain ⟨v, h1, h2⟩ := r.val j d e
    exact ⟨v, by rw [List.getElem?_set_ne hj]; exact h1, h2.more hp av⟩
  · rcases own j t es e with ⟨rfl, rfl, rfl⟩ | ⟨hj, e'⟩
    · exact ⟨p, xs, by rw [List.getElem?_set_self hi'], upd_same, hx.more hp av, r.fresh0 hp⟩
    · obtain ⟨a, ys, h1, h2, h3, h4⟩ := r.lst j t es e'
      exact ⟨a, ys, by rw [List.getElem?_set_ne (Ne.symm hj)]; exact h1, k _ _ h2, h3.more hp av, h4⟩
  · obtain ⟨ys, h1, h2, h3⟩ := r.acc a es e
    exact ⟨ys, k _ _ h1, h2.more hp av, h3⟩
  · rcases own j t es e1 with ⟨rfl, _, _⟩ | ⟨hj, e1'⟩ <;> rcases own l u fs e2 with ⟨rfl, _, _⟩ | ⟨hl, e2'⟩
    · rfl
    · rw [List.getElem?_set_self hi'] at e3
      cases e3
      rw [List.getElem?_set_ne (Ne.symm hl)] at e4
      obtain ⟨⟨ys, q⟩, _⟩ := r.lockT ⟨l, u, fs, e2', e4⟩
      rw [hp] at q; cases q
    · rw [List.getElem?_set_self hi'] at e4
      cases e4
      rw [List.getElem?_set_ne (Ne.symm hj)] at e3
      obtain ⟨⟨ys, q⟩, _⟩ := r.lockT ⟨j, t, es, e1', e3⟩
      rw [hp] at q; cases q
    · rw [List.getElem?_set_ne (Ne.symm hj)] at e3
      rw [List.getElem?_set_ne (Ne.symm hl)] at e4
      exact r.inj j l _ _ _ _ a e1' e2' e3 e4
  · rcases lk a h with q | q
    · exact r.injA a q
    · subst q
      intro hm
      obtain ⟨⟨ys, z⟩, _⟩ := r.accT hm
      rw [hp] at z; cases z
  · rcases ao a h with z | z
    · exact r.pex q hq a z
    · subst z
      exact fun z => r.pet q hq a z hp
  · have := r.pet q hq a h
    by_cases ha : a = p
    · subst ha; rw [upd_same]; simp
    · rw [upd_ne ha]; exact this
/-! ### a list that is gathered -/
theorem Rel.accNew {p : Addr} (r : Rel R A P σ H ρ s) (hp : H p = none) : Rel R ((p, []) :: A) P σ (upd H p (.lst [])) ρ s := by
  have k := same_upd (o := .lst []) hp
  have av : ∀ a, avL R ((p, []) :: A) σ ρ a → avL R A σ ρ a ∨ a = p := fun a h => h.elim (fun h => .inl (.inl h)) fun h => h.elim (fun h => .inl (.inr (.inl h))) fun h => h.elim (fun h => .inl (.inr (.inr (.inl h)))) fun h => by
    rcases List.mem_cons.mp h with h | h
    · exact .inr h
    · exact .inl (.inr (.inr (.inr h)))
  have ao : ∀ a, avO R ((p, []) :: A) σ ρ a → avO R A σ ρ a ∨ a = p := fun a h => h.elim (fun h => .inl (.inl h)) fun h => h.elim (fun h => .inl (.inr (.inl h))) fun h => h.elim (fun h => .inl (.inr (.inr (.inl h)))) fun h => by
    rcases List.mem_cons.mp h with h | h
    · exact .inr h
    · exact .inl (.inr (.inr (.inr h)))
  have np : p ∉ A.map (·.1) := fun hm => by
    obtain ⟨⟨ys, z⟩, _⟩ := r.accT hm
    rw [hp] at z; cases z
  refine ⟨r.len, R.W.stay r.wd fun a o _ e => k a o e, fun a o e n => k a o (r.ent a o e n), r.out, r.wout, fun j d e => ?_, fun j t es e => ?_, fun a es e => ?_, r.inj, fun a h => ?_, ?_, fun q hq => (r.pen q hq).more hp fun a h => (av a h.1).imp (fun z => ⟨z, h.2⟩) id, fun q hq a h => ?_, fun q hq a h => ?_⟩
  · obtain ⟨v, h1, h2⟩ := r.val j d e
    exact ⟨v, h1, h2.more hp av⟩
  · obtain ⟨a, ys, h1, h2, h3, h4⟩ := r.lst j t es e
    exact ⟨a, ys, h1, k _ _ h2, h3.more hp av, h4⟩
  · rcases List.mem_cons.mp e with e | e
    · cases e
      exact ⟨[], upd_same, .nil, r.fresh0 hp⟩
    · obtain ⟨ys, h1, h2, h3⟩ := r.acc a es e
      exact ⟨ys, k _ _ h1, h2.more hp av, h3⟩
  · intro hm
    rcases List.mem_cons.mp hm with z | z
    · have z : a = p := z
      subst z
      obtain ⟨⟨ys, z⟩, _⟩ := r.lockT h
      rw [hp] at z; cases z
    · exact r.injA a h z
  · show ((p, ([] : List D)) :: A |>.map (·.1)).Nodup
    rw [List.map_cons, List.nodup_cons]
    exact ⟨np, r.ndA⟩
  · rcases ao a h with z | z
    · exact r.pex q hq a z
    · subst z
      exact fun z => r.pet q hq a z hp
  · have := r.pet q hq a h
    by_cases ha : a = p
    · subst ha; rw [upd_same]; simp
    · rw [upd_ne ha]; exact this
/-- the gathered list is written -/
theorem Rel.accSet {p : Addr} {ds ds' : List D} {xs' : List V} (r : Rel R ((p, ds) :: A) P σ H ρ s) (hx : RepL R.K R.W.tok H (avL R ((p, ds) :: A) σ ρ) xs' ds') : Rel R ((p, ds') :: A) P σ (upd H p (.lst xs')) ρ s := by
  obtain ⟨xs, hp, _, h0⟩ := r.acc p ds List.mem_cons_self
  have k : ∀ b o, H b = some o → ¬ b = p → (upd H p (.lst xs')) b = some o := fun b o e n => by rw [upd_ne n]; exact e
  have hm : ∀ b, b = p → ∃ o, H b = some o ∧ Mut (some o) := fun b e => by subst e; exact ⟨_, hp, trivial⟩
  have hpl : avO R ((p, ds) :: A) σ ρ p := .inr (.inr (.inr List.mem_cons_self))
  have hw : ∀ b, b = p → avL R ((p, ds) :: A) σ ρ b := fun b e => by subst e; exact avO_avL hpl
  have nl : ∀ b, lockA σ ρ b → ¬ b = p := fun b h e => by subst e; exact r.injA b h List.mem_cons_self
  have nd := r.ndA
  rw [List.map_cons, List.nodup_cons] at nd
  refine ⟨r.len, R.W.stay r.wd fun b o hb e => k b o e fun z => by subst z; exact r.wout b hb h0, fun b o e n => k b o (r.ent b o e n) fun z => (by subst z; rw [h0] at e; exact nomatch e), r.out, r.wout, fun j d e => ?_, fun j t es e => ?_, fun a es e => ?_, r.inj, r.injA, r.ndA, fun q hq => ?_, r.pex, fun q hq a h => ?_⟩
  · obtain ⟨v, h1, h2⟩ := r.val j d e
    exact ⟨v, h1, h2.kept k hw hm⟩
  · obtain ⟨a, ys, h1, h2, h3, h4⟩ := r.lst j t es e
    exact ⟨a, ys, h1, k _ _ h2 (nl a ⟨j, t, es, e, h1⟩), h3.kept k hw hm, h4⟩
  · rcases List.mem_cons.mp e with e | e
    · cases e
      exact ⟨xs', upd_same, hx.kept k hw hm, h0⟩
    · obtain ⟨ys, h1, h2, h3⟩ := r.acc a es (List.mem_cons_of_mem _ e)
      have ne : ¬ a = p := fun z => by rw [z] at e; exact nd.1 (List.mem_map_of_mem (f := (·.1)) e)
      exact ⟨ys, k _ _ h1 ne, h2.kept k hw hm, h3⟩
  · exact (r.pen q hq).kept k (fun b e => by subst e; exact ⟨hw _ rfl, r.pex q hq _ hpl⟩) hm
  · have := r.pet q hq a h
    by_cases ha : a = p
    · subst ha; rw [upd_same]; simp
    · rw [upd_ne ha]; exact this
def less (H : Hp) (p : Addr) : Hp := fun b => if b = p then none else H b
theorem less_ne {p b : Addr} (h : b ≠ p) : less H p b = H b := by unfold less; rw [if_neg h]
theorem less_self {p : Addr} : less H p p = none := by unfold less; rw [if_pos rfl]
theorem less_upd {p : Addr} {o : HO} (h : H p = some o) : upd (less H p) p o = H := by
  funext b
  by_cases hb : b = p
  · subst hb; rw [upd_same, h]
  · rw [upd_ne hb, less_ne hb]
/-- the gathered list is handed on: the heap without it -/
theorem Rel.accOut {p : Addr} {ds : List D} (r : Rel R ((p, ds) :: A) P σ H ρ s) : ∃ xs, H p = some (.lst xs) ∧ Rel R A P σ (less H p) ρ s ∧ RepL R.K R.W.tok (less H p) (avL R A σ ρ) xs ds := by
  obtain ⟨xs, hp, hx, h0⟩ := r.acc p ds List.mem_cons_self
  have hpl : avO R ((p, ds) :: A) σ ρ p := .inr (.inr (.inr List.mem_cons_self))
  have k : ∀ b o, H b = some o → ¬ b = p → less H p b = some o := fun b o e n => by rw [less_ne n]; exact e
  have hm : ∀ b, b = p → ∃ o, H b = some o ∧ Mut (some o) := fun b e => by subst e; exact ⟨_, hp, trivial⟩
  have hw : ∀ b, b = p → avL R ((p, ds) :: A) σ ρ b := fun b e => by subst e; exact avO_avL hpl
  have av : ∀ a, avL R A σ ρ a → avL R ((p, ds) :: A) σ ρ a := fun a h => h.elim .inl fun h => h.elim (fun h => .inr (.inl h)) fun h => h.elim (fun h => .inr (.inr (.inl h))) fun h => .inr (.inr (.inr (List.mem_cons_of_mem _ h)))
  have ao : ∀ a, avO R A σ ρ a → avO R ((p, ds) :: A) σ ρ a := fun a h => h.elim .inl fun h => h.elim (fun h => .inr (.inl h)) fun h => h.elim (fun h => .inr (.inr (.inl h))) fun h => .inr (.inr (.inr (List.mem_cons_of_mem _ h)))
  have nl : ∀ b, lockA σ ρ b → ¬ b = p := fun b h e => by subst e; exact r.injA b h List.mem_cons_self
  have nd := r.ndA
  rw [List.map_cons, List.nodup_cons] at nd
  refine ⟨xs, hp, ⟨r.len, R.W.stay r.wd fun b o hb e => k b o e fun z => by subst z; exact r.wout b hb h0, fun b o e n => k b o (r.ent b o e n) fun z => (by subst z; rw [h0] at e; exact nomatch e), r.out, r.wout, fun j d e => ?_, fun j t es e => ?_, fun a es e => ?_, r.inj, fun a h q => r.injA a h (List.mem_cons_of_mem _ q), nd.2, fun q hq => ?_, fun q hq a h => r.pex q hq a (ao a h), fun q hq a h => ?_⟩, (hx.kept k hw hm).mono av⟩
  · obtain ⟨v, h1, h2⟩ := r.val j d e
    exact ⟨v, h1, (h2.kept k hw hm).mono av⟩
  · obtain ⟨a, ys, h1, h2, h3, h4⟩ := r.lst j t es e
    exact ⟨a, ys, h1, k _ _ h2 (nl a ⟨j, t, es, e, h1⟩), (h3.kept k hw hm).mono av, h4⟩
  · obtain ⟨ys, h1, h2, h3⟩ := r.acc a es (List.mem_cons_of_mem _ e)
    have ne : ¬ a = p := fun z => by rw [z] at e; exact nd.1 (List.mem_map_of_mem (f := (·.1)) e)
    exact ⟨ys, k _ _ h1 ne, (h2.kept k hw hm).mono av, h3⟩
  · exact ((r.pen q hq).kept k (fun b e => by subst e; exact ⟨hw _ rfl, r.pex q hq _ hpl⟩) hm).mono fun a h => ⟨av a h.1, h.2⟩
  · have := r.pet q hq a h
    by_cases ha : a = p
    · subst ha; exact absurd h (r.pex q hq a hpl)
    · rw [less_ne ha]; exact this
/-! ### slots set aside -/
def wipeE (ρ : En) : List Nat → En
  | [] => ρ
  | v :: vs => (wipeE ρ vs).set v .non
theorem wipeE_length (ρ : En) : ∀ vs : List Nat, (wipeE ρ vs).length = ρ.length
  | [] => rfl
  | v :: vs => by unfold wipeE; rw [List.length_set, wipeE_length ρ vs]
theorem wipeE_out {i : Nat} : ∀ {vs : List Nat}, i ∉ vs → (wipeE ρ vs)[i]? = ρ[i]?
  | [], _ => rfl
  | v :: vs, h => by
    unfold wipeE
    have h1 : v ≠ i := fun e => h (by simp [e])
    rw [List.getElem?_set_ne h1]
    exact wipeE_out fun z => h (List.mem_cons_of_mem _ z)
theorem Rel.wipe (r : Rel R A P σ H ρ s) : ∀ vs : List Nat, Rel R A P (L2.wipe σ vs) H (wipeE ρ vs) s
  | [] => r
  | _ :: vs => (r.wipe vs).slotN (fun _ _ e => nomatch e) fun _ e => nomatch e
/-- the slots vs set back to what they were in ρ0 -/
def backE (ρ0 : En) : List Nat → En → En
  | [], ρ => ρ
  | v :: vs, ρ => backE ρ0 vs (ρ.set v (ρ0.getD v .non))
def backS (σ0 : L2.St) : List Nat → L2.St → L2.St
  | [], σ => σ
  | v :: vs, σ => backS σ0 vs (σ.set v (σ0.getD v none))
theorem backS_eq {σ0 : L2.St} : ∀ {vs : List Nat} {σ : L2.St}, σ.length = σ0.length → (∀ i, i ∉ vs → σ[i]? = σ0[i]?) → backS σ0 vs σ = σ0
  | [], σ, hl, h => List.ext_getElem? fun i => h i (by simp)
  | v :: vs, σ, hl, h => by
    unfold backS
    refine backS_eq (by simpa using hl) fun i hi => ?_
    by_cases hv : v = i
    · subst hv
      by_cases hlt : v < σ.length
      · rw [List.getElem?_set_self hlt, List.getD_eq_getElem?_getD]
        have : v < σ0.length := by omega
        rw [List.getElem?_eq_getElem this]; rfl
      · rw [List.getElem?_eq_none (by simpa using hlt), List.getElem?_eq_none (by omega)]
    · rw [List.getElem?_set_ne hv]
      exact h i (by simp only [List.mem_cons, not_or]; exact ⟨fun e => hv e.symm, hi⟩)
/-- what waits for the slots vs -/
def pendE (ρ : En) (σ : L2.St) : List Nat → List Pd
  | [] => []
  | v :: vs => match ρ[v]?, σ[v]? with
    | some (.val d), some (some x) => ⟨x, d, noEx⟩ :: pendE ρ σ vs
    | _, _ => pendE ρ σ vs
theorem Rel.pendOwn (r : Rel R A P σ H ρ s) : ∀ vs : List Nat, Rel R A (pendE ρ σ vs ++ P) σ H ρ s
  | [] => r
  | v :: vs => by
    unfold pendE
    split
    · rename_i d x h1 h2
      obtain ⟨u, e1, e2⟩ := r.val v d h1
      rw [h2] at e1; cases e1
      exact (r.pendOwn vs).push (e2.mono fun a h => h.1) (fun _ _ z => z) fun _ z => z.elim
    · exact r.pendOwn vs
theorem Rel.back {ρ0 : En} {σ0 : L2.St} (hval : ∀ (v : Nat) d, ρ0[v]? = some (.val d) → ∃ x, σ0[v]? = some (some x)) : ∀ {vs : List Nat} {σ : L2.St} {ρ : En}, (∀ v ∈ vs, ∀ t ds, ρ0[v]? ≠ some (.own t ds)) →
    Rel R A (pendE ρ0 σ0 vs ++ P) σ H ρ s → Rel R A P (backS σ0 vs σ) H (backE ρ0 vs ρ) s
  | [], σ, ρ, _, r => r
  | v :: vs, σ, ρ, ho, r => by
    unfold backS backE
    refine Rel.back hval (fun w hw => ho w (List.mem_cons_of_mem _ hw)) ?_
    have hv := ho v List.mem_cons_self
    unfold pendE at r
    cases h : ρ0[v]? with
    | none =>
      have e1 : ρ0.getD v .non = .non := by rw [List.getD_eq_getElem?_getD, h]; rfl
      rw [e1]
      rw [h] at r
      exact Rel.slotN r (fun _ _ e => nomatch e) fun _ e => nomatch e
    | some y =>
      have e1 : ρ0.getD v .non = y := by rw [List.getD_eq_getElem?_getD, h]; rfl
      rw [e1]
      cases y with
      | non =>
        rw [h] at r
        exact Rel.slotN r (fun _ _ e => nomatch e) fun _ e => nomatch e
      | own t ds => exact absurd h (hv t ds)
      | val d =>
        obtain ⟨x, hx⟩ := hval v d h
        rw [h, hx] at r
        have r : Rel R A (⟨x, d, noEx⟩ :: (pendE ρ0 σ0 vs ++ P)) σ H ρ s := r
        have e2 : σ0.getD v none = some x := by rw [List.getD_eq_getElem?_getD, hx]; rfl
        rw [e2]
        exact r.tail.slotN (fun _ _ e => nomatch e) fun d' e => by
          cases e
          exact ⟨x, rfl, r.head.mono fun a h => ⟨h, fun z => z⟩⟩
end
end L3
end
section
set_option Elab.async false
set_option linter.all false
set_option maxRecDepth 100000
set_option autoImplicit false
/-! L3f: tests, and/or/not, chains, calls of defs, a frame's own lists (own work). -/
namespace L3
open PySem PySem.Spec PyProof.Rows L2
section
variable {S : Type} {X : Cx} {W : Wd S} {e a b c : Expr} {es : List Expr} {pos : Pos}
/-! ### tests -/
def truD : D → Option Bool
  | .non => some false
  | .bl b => some b
  | .int i => some (i != 0)
  | .tup xs => some (!xs.isEmpty)
  | .lst xs => some (!xs.isEmpty)
  | .dic xs => some (!xs.isEmpty)
  | _ => none
def truF (f : Ev S) : EvB S := fun ρ s => match f ρ s with
  | some (d, ρ', s') => match truD d with
    | some b => some (b, thaw ρ ρ', s')
    | none => none
  | none => none
theorem truF_some {f : Ev S} {ρ ρ' : En} {s s' : S} {b : Bool} (h : truF f ρ s = some (b, ρ', s')) : ∃ d ρ1, f ρ s = some (d, ρ1, s') ∧ truD d = some b ∧ ρ' = thaw ρ ρ1 := by
  unfold truF at h
  cases h1 : f ρ s with
  | none => rw [h1] at h; cases h
  | some z =>
    obtain ⟨d, ρ1, s1⟩ := z
    rw [h1] at h
    simp only at h
    cases h2 : truD d with
    | none => rw [h2] at h; cases h
    | some k =>
      rw [h2] at h
      cases h
      exact ⟨d, ρ1, rfl, h2, rfl⟩
theorem repK_len {K : PySem.W.Frag} {tk : Addr} {H : Hp} {av : Addr → Prop} : ∀ {kvs : List (Key × V)} {ds : List (Key × D)}, RepK K tk H av kvs ds → kvs.isEmpty = ds.isEmpty
  | _, _, .nil => rfl
  | _, _, .cons _ _ => rfl
theorem repL_empty {K : PySem.W.Frag} {tk : Addr} {H : Hp} {av : Addr → Prop} : ∀ {xs : List V} {ds : List D}, RepL K tk H av xs ds → xs.isEmpty = ds.isEmpty
  | _, _, .nil => rfl
  | _, _, .cons _ _ => rfl
theorem tru_rep {K : PySem.W.Frag} {tk : Addr} {H : Hp} {av : Addr → Prop} {v : V} {d : D} {k : Bool} (r : Rep K tk H av v d) (h : truD d = some k) : TruV K v H k := by
  cases r with
  | non => cases h; rfl
  | bl b => cases h; rfl
  | int i => cases h; rfl
  | str x => cases h
  | ty n => cases h
  | deck => cases h
  | tup q r => cases h; exact .inr (.inl ⟨_, q, by rw [repL_empty r]⟩)
  | lst q _ r => cases h; exact .inl ⟨_, .inl (.inl q), by rw [repL_empty r]⟩
  | dic q _ r => cases h; exact .inr (.inr ⟨_, q, by rw [repK_len r]⟩)
theorem truQ {f : Ev S} {fr fr' : Bool} {σ : L2.St} {H : Hp} {Q : Bool → Hp → Prop} (h : SB X.K W (truF f) σ H Q) : SE X.K W fr f σ H fun x H1 => ∃ k, TruV X.K x H1 k ∧ Q k H1 := by
  obtain ⟨H0, O, A, P, ρ, s, b, ρ', s', r, e, q⟩ := h
  obtain ⟨d, ρ1, e1, e2, rfl⟩ := truF_some e
  refine ⟨H0, O, A, P, ρ, s, d, ρ1, s', r, e1, fun v H' ex r' _ => ⟨b, tru_rep r'.head e2, q H' (Rel.thaw0 r.pex r'.tail)⟩⟩
theorem sb_val {f : Ev S} {fr : Bool} (h : PE X e (SE X.K W fr f)) (he : ∀ whole, isTrue e X.env whole = (do let v ← whole; standAt e.pos; holding [v] (truthy v))) : PT X e (SB X.K W (truF f)) :=
  (pt_truth h he).imp fun σ H Q q => truQ (fr' := true) q
/-- the operations that give a truth value -/
def isB (f : D → D → Option D) : Prop := ∀ x y d, f x y = some d → ∃ k, d = .bl k
theorem sb_cmp {op : CmpOp} {r : R2} {f : D → D → Option D} {fa fb : Ev S} {fr1 fr2 : Bool} (ho : OpR X (compareOp op) r) (hv : V2 X.K W.tok r f) (hf : isB f) (ha : PE X a (SE X.K W fr1 fa)) (hb : PE X b (SE X.K W fr2 fb)) (hm : behindInMarks op b = false) :
    PT X (.Compare a [op] [b] pos) (SB X.K W (truF (binF f fa fb))) := (pt_cmpR ho ha hb hm).imp fun σ H Q q => by
  obtain ⟨H0, O, A, P, ρ, s, k, ρ', s', r, e, q⟩ := q
  obtain ⟨d, ρ1, e1, e2, rfl⟩ := truF_some e
  refine two_val (fr := false) hv ⟨H0, O, A, P, ρ, s, d, ρ1, s', r, e1, fun v H' ex r' _ => ?_⟩
  obtain ⟨_, _, _, _, _, _, e3⟩ := binF_some e1
  obtain ⟨k', rfl⟩ := hf _ _ _ e3
  cases e2
  have rv := r'.head
  have ev : v = .bl k := by cases rv; rfl
  exact ⟨k, ev, q H' (Rel.thaw0 r.pex r'.tail)⟩
def andB (ta tb : EvB S) : EvB S := fun ρ s => match ta ρ s with
  | some (true, ρ', s') => tb ρ' s'
  | some (false, ρ', s') => some (false, ρ', s')
  | none => none
def orB (ta tb : EvB S) : EvB S := fun ρ s => match ta ρ s with
  | some (false, ρ', s') => tb ρ' s'
  | some (true, ρ', s') => some (true, ρ', s')
  | none => none
def notB (ta : EvB S) : EvB S := fun ρ s => match ta ρ s with
  | some (k, ρ', s') => some (!k, ρ', s')
  | none => none
theorem SB.and {K : PySem.W.Frag} {ta tb : EvB S} {σ : L2.St} {H : Hp} {Q : Bool → Hp → Prop} (h : SB K W (andB ta tb) σ H Q) : tAnd (SB K W ta) (SB K W tb) σ H Q := by
  obtain ⟨H0, O, A, P, ρ, s, k, ρ', s', r, e, q⟩ := h
  unfold andB at e
  split at e
  · rename_i ρ1 s1 h1
    exact ⟨H0, O, A, P, ρ, s, true, ρ1, s1, r, h1, fun H1 r1 => iteT ⟨H0, O, A, P, ρ1, s1, k, ρ', s', r1, e, q⟩⟩
  · rename_i ρ1 s1 h1
    cases e
    exact ⟨H0, O, A, P, ρ, s, false, _, _, r, h1, fun H1 r1 => iteF (q H1 r1)⟩
  · cases e
theorem SB.or {K : PySem.W.Frag} {ta tb : EvB S} {σ : L2.St} {H : Hp} {Q : Bool → Hp → Prop} (h : SB K W (orB ta tb) σ H Q) : tOr (SB K W ta) (SB K W tb) σ H Q := by
  obtain ⟨H0, O, A, P, ρ, s, k, ρ', s', r, e, q⟩ := h
  unfold orB at e
  split at e
  · rename_i ρ1 s1 h1
    exact ⟨H0, O, A, P, ρ, s, false, ρ1, s1, r, h1, fun H1 r1 => iteF ⟨H0, O, A, P, ρ1, s1, k, ρ', s', r1, e, q⟩⟩
  · rename_i ρ1 s1 h1
    cases e
    exact ⟨H0, O, A, P, ρ, s, true, _, _, r, h1, fun H1 r1 => iteT (q H1 r1)⟩
  · cases e
theorem SB.not {K : PySem.W.Frag} {ta : EvB S} {σ : L2.St} {H : Hp} {Q : Bool → Hp → Prop} (h : SB K W (notB ta) σ H Q) : tNot (SB K W ta) σ H Q := by
  obtain ⟨H0, O, A, P, ρ, s, k, ρ', s', r, e, q⟩ := h
  unfold notB at e
  split at e
  · rename_i k1 ρ1 s1 h1
    cases e
    exact ⟨H0, O, A, P, ρ, s, k1, _, _, r, h1, q⟩
  · cases e
theorem _root_.L2.PW.imp {t t' : TT} (h : PW X e t) (i : ∀ σ H Q, t' σ H Q → t σ H Q) : PW X e t' := ⟨fun wh pins s σ H Q I q => h.run wh pins s σ H Q I (i σ H Q q)⟩
theorem sb_not {ta : EvB S} (ha : PT X a (SB X.K W ta)) : PT X (.UnaryOp .Not a pos) (SB X.K W (notB ta)) := (pt_not ha).imp fun σ H Q q => q.not
theorem sb_and {ta tb : EvB S} {rest : List Expr} (ha : PT X a (SB X.K W ta)) (hb : PW X (.BoolOp .And (b :: rest) pos) (SB X.K W tb)) : PW X (.BoolOp .And (a :: b :: rest) pos) (SB X.K W (andB ta tb)) := (pw_and ha hb).imp fun σ H Q q => q.and
theorem sb_or {ta tb : EvB S} {rest : List Expr} (ha : PT X a (SB X.K W ta)) (hb : PW X (.BoolOp .Or (b :: rest) pos) (SB X.K W tb)) : PW X (.BoolOp .Or (a :: b :: rest) pos) (SB X.K W (orB ta tb)) := (pw_or ha hb).imp fun σ H Q q => q.or
/-! ### and, or, not as values; a if t else b -/
def andF (fa fb : Ev S) : Ev S := fun ρ s => match fa ρ s with
  | some (.bl true, ρ', s') => fb ρ' s'
  | some (.bl false, ρ', s') => some (.bl false, ρ', s')
  | _ => none
def orF (fa fb : Ev S) : Ev S := fun ρ s => match fa ρ s with
  | some (.bl false, ρ', s') => fb ρ' s'
  | some (.bl true, ρ', s') => some (.bl true, ρ', s')
  | _ => none
def notF (fa : Ev S) : Ev S := fun ρ s => match fa ρ s with
  | some (.bl k, ρ', s') => some (.bl (!k), ρ', s')
  | _ => none
def iteF' (t : EvB S) (fa fb : Ev S) : Ev S := fun ρ s => match t ρ s with
  | some (true, ρ', s') => fa ρ' s'
  | some (false, ρ', s') => fb ρ' s'
  | none => none
theorem se_and {fa fb : Ev S} {rest : List Expr} {fr1 fr2 : Bool} (ha : PE X a (SE X.K W fr1 fa)) (hb : PE X (.BoolOp .And (b :: rest) pos) (SE X.K W fr2 fb)) : PE X (.BoolOp .And (a :: b :: rest) pos) (SE X.K W false (andF fa fb)) := (pe_and ha hb).imp fun σ H Q q => by
  obtain ⟨H0, O, A, P, ρ, s, d, ρ', s', r, e, q⟩ := q
  unfold andF at e
  split at e
  · rename_i ρ1 s1 h1
    refine ⟨H0, O, A, P, ρ, s, .bl true, ρ1, s1, r, h1, fun v H1 ex r1 _ => ⟨true, by cases r1.head; rfl, iteT ⟨H0, O, A, P, ρ1, s1, d, ρ', s', r1.tail, e, fun v H' ex r' _ => q v H' ex r' fun z => Bool.noConfusion z⟩⟩⟩
  · rename_i ρ1 s1 h1
    cases e
    refine ⟨H0, O, A, P, ρ, s, .bl false, _, _, r, h1, fun v H1 ex r1 _ => ⟨false, by cases r1.head; rfl, iteF (q (.bl false) H1 noEx (r1.tail.push (.bl _) (fun _ _ z => z) fun _ z => z.elim) fun z => Bool.noConfusion z)⟩⟩
  · cases e
theorem se_or {fa fb : Ev S} {rest : List Expr} {fr1 fr2 : Bool} (ha : PE X a (SE X.K W fr1 fa)) (hb : PE X (.BoolOp .Or (b :: rest) pos) (SE X.K W fr2 fb)) : PE X (.BoolOp .Or (a :: b :: rest) pos) (SE X.K W false (orF fa fb)) := (pe_or ha hb).imp fun σ H Q q => by
  obtain ⟨H0, O, A, P, ρ, s, d, ρ', s', r, e, q⟩ := q
  unfold orF at e
  split at e
  · rename_i ρ1 s1 h1
    refine ⟨H0, O, A, P, ρ, s, .bl false, ρ1, s1, r, h1, fun v H1 ex r1 _ => ⟨false, by cases r1.head; rfl, iteF ⟨H0, O, A, P, ρ1, s1, d, ρ', s', r1.tail, e, fun v H' ex r' _ => q v H' ex r' fun z => Bool.noConfusion z⟩⟩⟩
  · rename_i ρ1 s1 h1
    cases e
    refine ⟨H0, O, A, P, ρ, s, .bl true, _, _, r, h1, fun v H1 ex r1 _ => ⟨true, by cases r1.head; rfl, iteT (q (.bl true) H1 noEx (r1.tail.push (.bl _) (fun _ _ z => z) fun _ z => z.elim) fun z => Bool.noConfusion z)⟩⟩
  · cases e
theorem se_not {fa : Ev S} {fr1 : Bool} (ha : PE X a (SE X.K W fr1 fa)) : PE X (.UnaryOp .Not a pos) (SE X.K W false (notF fa)) := (pe_not ha).imp fun σ H Q q => by
  obtain ⟨H0, O, A, P, ρ, s, d, ρ', s', r, e, q⟩ := q
  unfold notF at e
  split at e
  · rename_i k ρ1 s1 h1
    cases e
    exact ⟨H0, O, A, P, ρ, s, .bl k, _, _, r, h1, fun v H1 ex r1 _ => ⟨k, by cases r1.head; rfl, q _ H1 noEx (r1.tail.push (.bl _) (fun _ _ z => z) fun _ z => z.elim) fun z => Bool.noConfusion z⟩⟩
  · cases e
theorem se_ite {t : EvB S} {fa fb : Ev S} {fr1 fr2 : Bool} (ht : PT X c (SB X.K W t)) (ha : PE X a (SE X.K W fr1 fa)) (hb : PE X b (SE X.K W fr2 fb)) : PE X (.IfExp c a b pos) (SE X.K W (fr1 && fr2) (iteF' t fa fb)) := (pe_ifExp ht ha hb).imp fun σ H Q q => by
  obtain ⟨H0, O, A, P, ρ, s, d, ρ', s', r, e, q⟩ := q
  unfold iteF' at e
  split at e
  · rename_i ρ1 s1 h1
    refine ⟨H0, O, A, P, ρ, s, true, ρ1, s1, r, h1, fun H1 r1 => iteT ⟨H0, O, A, P, ρ1, s1, d, ρ', s', r1, e, fun v H' ex r' f => q v H' ex r' fun z => f ?_⟩⟩
    cases fr1 <;> simp_all
  · rename_i ρ1 s1 h1
    refine ⟨H0, O, A, P, ρ, s, false, ρ1, s1, r, h1, fun H1 r1 => iteF ⟨H0, O, A, P, ρ1, s1, d, ρ', s', r1, e, fun v H' ex r' f => q v H' ex r' fun z => f ?_⟩⟩
    cases fr1 <;> simp_all
  · cases e
/-! ### a op b op' c -/
def chainF (f g : D → D → Option D) (fa fb fc : Ev S) : Ev S := fun ρ s => do
  let (x, ρ, s) ← fa ρ s
  let (y, ρ, s) ← fb ρ s
  match f x y with
  | some (.bl true) => do
    let (z, ρ, s) ← fc ρ s
    let d ← g y z
    some (d, ρ, s)
  | some (.bl false) => some (.bl false, ρ, s)
  | _ => none
theorem chainF_some {f g : D → D → Option D} {fa fb fc : Ev S} {ρ ρ' : En} {s s' : S} {d : D} (h : chainF f g fa fb fc ρ s = some (d, ρ', s')) : ∃ x ρ1 s1 y ρ2 s2, fa ρ s = some (x, ρ1, s1) ∧ fb ρ1 s1 = some (y, ρ2, s2) ∧
    ((f x y = some (.bl true) ∧ ∃ z, fc ρ2 s2 = some (z, ρ', s') ∧ g y z = some d) ∨ (f x y = some (.bl false) ∧ d = .bl false ∧ ρ' = ρ2 ∧ s' = s2)) := by
  unfold chainF at h
  cases h1 : fa ρ s with
  | none => rw [h1] at h; simp at h
  | some z =>
    obtain ⟨x, ρ1, s1⟩ := z
    rw [h1] at h
    simp only [Option.bind_eq_bind, Option.bind_some] at h
    cases h2 : fb ρ1 s1 with
    | none => rw [h2] at h; simp at h
    | some z =>
      obtain ⟨y, ρ2, s2⟩ := z
      rw [h2] at h
      simp only [Option.bind_some] at h
      refine ⟨x, ρ1, s1, y, ρ2, s2, rfl, h2, ?_⟩
      split at h
      · rename_i e
        left
        refine ⟨e, ?_⟩
        cases h3 : fc ρ2 s2 with
        | none => rw [h3] at h; simp at h
        | some z =>
          obtain ⟨z, ρ3, s3⟩ := z
          rw [h3] at h
          simp only [Option.bind_some] at h
          cases h4 : g y z with
          | none => rw [h4] at h; simp at h
          | some d' =>
            rw [h4] at h
            simp only [Option.bind_some, Option.some.injEq, Prod.mk.injEq] at h
            obtain ⟨rfl, rfl, rfl⟩ := h
            exact ⟨z, rfl, h4⟩
      · rename_i e
        right
        cases h
        exact ⟨e, rfl, rfl, rfl⟩
      · cases h
theorem chain_val {r r' : R2} {f g : D → D → Option D} {fa fb fc : Ev S} {fr fr1 fr2 fr3 : Bool} (hv : V2 X.K W.tok r f) (hv' : V2 X.K W.tok r' g) {σ : L2.St} {H : Hp} {Q : VK} (h : SE X.K W fr (chainF f g fa fb fc) σ H Q) (hfr : fr = false) :
    tChain r r' (SE X.K W fr1 fa) (SE X.K W fr2 fb) (SE X.K W fr3 fc) σ H Q := by
  subst hfr
  obtain ⟨H0, O, A, P, ρ, s, d, ρ', s', r0, e, q⟩ := h
  obtain ⟨x, ρ1, s1, y, ρ2, s2, e1, e2, e3⟩ := chainF_some e
  refine ⟨H0, O, A, P, ρ, s, x, ρ1, s1, r0, e1, fun v H1 ex1 r1 _ => ?_⟩
  refine ⟨H0, O, A, _, ρ1, s1, y, ρ2, s2, r1, e2, fun w H2 ex2 r2 _ => ?_⟩
  have hx : ∀ a, avO ⟨X.K, W, H0, O⟩ A σ ρ2 a → ¬ (ex1 a ∨ ex2 a) := fun a h z => z.elim (r2.tail.hex a h) (r2.hex a h)
  have ht : ∀ a, (ex1 a ∨ ex2 a) → H2 a ≠ none := fun a z => z.elim (r2.tail.pet _ List.mem_cons_self a) (r2.pet _ List.mem_cons_self a)
  have rx : Rep X.K W.tok H2 (fun a => avL ⟨X.K, W, H0, O⟩ A σ ρ2 a ∧ ¬ (ex1 a ∨ ex2 a)) v x := r2.tail.head.mono fun a h => ⟨h.1, fun z => h.2 (.inl z)⟩
  have ry : Rep X.K W.tok H2 (fun a => avL ⟨X.K, W, H0, O⟩ A σ ρ2 a ∧ ¬ (ex1 a ∨ ex2 a)) w y := r2.head.mono fun a h => ⟨h.1, fun z => h.2 (.inr z)⟩
  rcases e3 with ⟨e3, z, e4, e5⟩ | ⟨e3, rfl, rfl, rfl⟩
  · refine hv H2 _ v w x y _ _ (fun a h => r2.avT h.1) rx ry e3 fun u H3 k3 ru _ => ⟨true, by cases ru; rfl, iteT ?_⟩
    have r3 : Rel ⟨X.K, W, H0, O⟩ A (⟨w, y, ex2⟩ :: P) σ H3 ρ2 s2 := by
      have := r2.same k3
      exact this.tail.tail.push this.head this.hex fun a h => this.pet _ List.mem_cons_self a h
    refine ⟨H0, O, A, _, ρ2, s2, z, ρ', s', r3, e4, fun u' H4 ex4 r4 _ => ?_⟩
    have hx4 : ∀ a, avO ⟨X.K, W, H0, O⟩ A σ ρ' a → ¬ (ex2 a ∨ ex4 a) := fun a h z => z.elim (r4.tail.hex a h) (r4.hex a h)
    have ht4 : ∀ a, (ex2 a ∨ ex4 a) → H4 a ≠ none := fun a z => z.elim (r4.tail.pet _ List.mem_cons_self a) (r4.pet _ List.mem_cons_self a)
    refine hv' H4 (fun a => avL ⟨X.K, W, H0, O⟩ A σ ρ' a ∧ ¬ (ex2 a ∨ ex4 a)) w u' y z d Q (fun a h => r4.avT h.1) (r4.tail.head.mono fun a h => ⟨h.1, fun z => h.2 (.inl z)⟩) (r4.head.mono fun a h => ⟨h.1, fun z => h.2 (.inr z)⟩) e5 (fin_val (fr := false) r4.tail.tail hx4 ht4 q)
  · refine hv H2 _ v w x y _ _ (fun a h => r2.avT h.1) rx ry e3 fun u H3 k3 ru _ => ⟨false, by cases ru; rfl, iteF ?_⟩
    exact q (.bl false) H3 noEx ((r2.tail.tail.same k3).push (.bl _) (fun _ _ z => z) fun _ z => z.elim) fun z => Bool.noConfusion z
theorem se_chain {op op' : CmpOp} {r r' : R2} {f g : D → D → Option D} {fa fb fc : Ev S} {fr1 fr2 fr3 : Bool} (ho : OpR X (compareOp op) r) (ho' : OpR X (compareOp op') r') (hv : V2 X.K W.tok r f) (hv' : V2 X.K W.tok r' g)
    (ha : PE X a (SE X.K W fr1 fa)) (hb : PE X b (SE X.K W fr2 fb)) (hc : PE X c (SE X.K W fr3 fc)) (hm : lastMarks [op, op'] [b, c] = false) : PE X (.Compare a [op, op'] [b, c] pos) (SE X.K W false (chainF f g fa fb fc)) :=
  (pe_chain ho ho' ha hb hc hm).imp fun σ H Q q => chain_val hv hv' q rfl
theorem sb_chain {op op' : CmpOp} {r r' : R2} {f g : D → D → Option D} {fa fb fc : Ev S} {fr1 fr2 fr3 : Bool} (ho : OpR X (compareOp op) r) (ho' : OpR X (compareOp op') r') (hv : V2 X.K W.tok r f) (hv' : V2 X.K W.tok r' g) (hg : isB g)
    (ha : PE X a (SE X.K W fr1 fa)) (hb : PE X b (SE X.K W fr2 fb)) (hc : PE X c (SE X.K W fr3 fc)) (hm : lastMarks [op, op'] [b, c] = false) : PT X (.Compare a [op, op'] [b, c] pos) (SB X.K W (truF (chainF f g fa fb fc))) :=
  (pt_chain ho ho' ha hb hc hm).imp fun σ H Q q => by
    obtain ⟨H0, O, A, P, ρ, s, k, ρ', s', r, e, q⟩ := q
    obtain ⟨d, ρ1, e1, e2, rfl⟩ := truF_some e
    refine chain_val (fr := false) hv hv' ⟨H0, O, A, P, ρ, s, d, ρ1, s', r, e1, fun v H' ex r' _ => ?_⟩ rfl
    have hd : ∃ k, d = .bl k := by
      obtain ⟨_, _, _, _, _, _, _, _, e3⟩ := chainF_some e1
      rcases e3 with ⟨_, _, _, e5⟩ | ⟨_, rfl, _, _⟩
      · exact hg _ _ _ e5
      · exact ⟨_, rfl⟩
    obtain ⟨k', rfl⟩ := hd
    cases e2
    exact ⟨k, by cases r'.head; rfl, q H' (Rel.thaw0 r.pex r'.tail)⟩
/-! ### calls of defs -/
/-- what a def promises that computes G over pure data -/
def spF (K : PySem.W.Frag) (W : Wd S) (n : Nat) (G : List D → S → Option (D × S)) : Sp := fun vs H Q _ => vs.length = n ∧ ∃ (O : Addr → Prop) (ds : List D) (s : S) (d : D) (s' : S), (∀ a, O a → H a ≠ none) ∧ W.rel s H ∧ RepL K W.tok H (fun a => O a ∨ W.own a) vs ds ∧ G ds s = some (d, s') ∧
  ∀ v H', (∀ a o, H a = some o → ¬ W.own a → H' a = some o) → W.rel s' H' → Rep K W.tok H' (fun a => O a ∨ W.own a) v d → Q v H'
theorem spF.imp {K : PySem.W.Frag} {n : Nat} {G G' : List D → S → Option (D × S)} (h : ∀ ds s d s', G' ds s = some (d, s') → G ds s = some (d, s')) {vs : List V} {H : Hp} {Q : VK} {E : XK} (q : spF K W n G' vs H Q E) : spF K W n G vs H Q E := by
  obtain ⟨hn, O, ds, s, d, s', h1, h2, h3, h4, h5⟩ := q
  exact ⟨hn, O, ds, s, d, s', h1, h2, h3, h _ _ _ _ h4, h5⟩
def callF (G : List D → S → Option (D × S)) (g : EvL S) : Ev S := fun ρ s => match g ρ s with
  | some (xs, ρ', s') => match G xs s' with
    | some (d, s2) => some (d, ρ', s2)
    | none => none
  | none => none
theorem callF_some {G : List D → S → Option (D × S)} {g : EvL S} {ρ ρ' : En} {s s' : S} {d : D} (h : callF G g ρ s = some (d, ρ', s')) : ∃ xs s1, g ρ s = some (xs, ρ', s1) ∧ G xs s1 = some (d, s') := by
  unfold callF at h
  split at h
  · rename_i xs ρ1 s1 h1
    split at h
    · rename_i d1 s2 h2
      cases h
      exact ⟨xs, s1, h1, h2⟩
    · cases h
  · cases h
/-- the arguments in a def's order, with the defaults -/
def permL (p : List D → List D) (g : EvL S) : EvL S := fun ρ s => (g ρ s).map fun (xs, ρ', s') => (p xs, ρ', s')
theorem call_val {n : Nat} {G : List D → S → Option (D × S)} {E : XK} {R : Fx S} {A : Acc} {P : List Pd} {σ : L2.St} {H : Hp} {ρ : En} {s s' : S} {d : D} {vs : List V} {ds : List D} {ex : Addr → Prop} {Q : VK}
    (hn : vs.length = n) (r : Rel R A P σ H ρ s) (rl : RepL R.K R.W.tok H (fun a => avL R A σ ρ a ∧ ¬ ex a) vs ds) (hx : ∀ a, avO R A σ ρ a → ¬ ex a) (hG : G ds s = some (d, s'))
    (q : ∀ (v : V) (H' : Hp) (ex : Addr → Prop), Rel R A (⟨v, d, ex⟩ :: P) σ H' ρ s' → Q v H') : spF R.K R.W n G vs H Q E := by
  have hT : ∀ a, avO R A σ ρ a → H a ≠ none := fun a h => r.avT (avO_avL h)
  refine ⟨hn, avO R A σ ρ, ds, s, d, s', hT, r.wd, rl.mono fun a h => ?_, hG, fun v H' k w rv => ?_⟩
  · rcases h with h | h
    · exact ⟨avO_avL h, hx a h⟩
    · exact ⟨.inr (.inl h), hx a (.inr (.inl h))⟩
  · refine q v H' (fun a => lockA σ ρ a ∧ ¬ avO R A σ ρ a) ((r.kept k w).push (rv.mono fun a h => ?_) (fun a h z => z.2 h) fun a h => ?_)
    · by_cases z : avO R A σ ρ a
      · exact .inl z
      · rcases h.1 with y | y | y | y
        · exact .inl (.inl y)
        · exact .inr y
        · exact absurd ⟨y, z⟩ h.2
        · exact .inl (.inr (.inr (.inr y)))
    · obtain ⟨⟨xs, e⟩, h0⟩ := r.lockT h.1
      have nw : ¬ R.W.own a := fun z => r.wout a z h0
      rw [k a _ e nw]; simp
theorem se_call {k n : Nat} {f : Addr} {fd : FuncData} {ps : List Str} {x : Str} {p : Pos} {G : List D → S → Option (D × S)} {g : EvL S} {dvs : List V} {dsV : List Value} {dfl : List D}
    (F : FnOk X.prog X.w X.K X.mg X.base CX0 k f fd ps (spF X.K W n G)) (hr : Room k X.A) (hg : Gl X x) (hm : X.mg x = some (.ref f)) (hk : PySem.W.keepIn X.K (.ref f) = true) (hb : Binds X.K fd ps dsV) (hd : Vals dvs dsV)
    (hdf : ∀ H av, RepL X.K W.tok H av dvs dfl) (ha : PA X (e :: es) (SL X.K W g)) (hl : ∀ ρ s xs ρ' s', g ρ s = some (xs, ρ', s') → xs.length + dfl.length = n) (hdb : (x == ("__debug__" : Str)) = false)
    (he : starEach (e :: es) X.env = (false, eval e X.env) :: starEach es X.env) (hpl : (backTo pos (starEach es X.env)).any (·.1) = false) :
    PE X (.Call (.Name x p) (e :: es) [] pos) (SE X.K W false (callF G (permL (· ++ dfl) g))) := (pe_call F hr hg hm hk hb hd pass0 ha hdb he hpl).imp fun σ H Q q => by
  obtain ⟨H0, O, A, P, ρ, s, d, ρ', s', r, e, q⟩ := q
  obtain ⟨ys, s1, e1, e2⟩ := callF_some e
  unfold permL at e1
  cases h : g ρ s with
  | none => rw [h] at e1; simp at e1
  | some z =>
    obtain ⟨xs, ρ2, s2⟩ := z
    rw [h] at e1
    simp only [Option.map_some, Option.some.injEq, Prod.mk.injEq] at e1
    obtain ⟨rfl, rfl, rfl⟩ := e1
    refine ⟨H0, O, A, P, ρ, s, xs, ρ2, s2, r, h, fun vs H1 ex r1 rl hx ht => ?_⟩
    refine call_val (R := ⟨X.K, W, H0, O⟩) ?_ r1 (rl.append (hdf H1 _)) hx e2 fun v H' ex r' => q v H' ex r' fun z => Bool.noConfusion z
    rw [List.length_append, rl.length, (hdf H1 (fun _ => True)).length]
    exact hl _ _ _ _ _ h
end
end L3
end
section
set_option Elab.async false
set_option linter.all false
set_option maxRecDepth 100000
set_option autoImplicit false
/-! L3g: targets, what is walked, statements over pure data (own work). -/
namespace L3
open PySem PySem.Spec PyProof.Rows L2
section
variable {S : Type} {R : Fx S} {A A' : Acc} {P P' : List Pd} {σ : L2.St} {H H' : Hp} {ρ ρ' : En} {s s' : S}
theorem Rel.sub (r : Rel R A P σ H ρ s) (h : ∀ p ∈ P', p ∈ P) : Rel R A P' σ H ρ s :=
  ⟨r.len, r.wd, r.ent, r.out, r.wout, r.val, r.lst, r.acc, r.inj, r.injA, r.ndA, fun q hq => r.pen q (h q hq), fun q hq => r.pex q (h q hq), fun q hq => r.pet q (h q hq)⟩
theorem Rel.permA (r : Rel R A P σ H ρ s) (h : A'.Perm A) : Rel R A' P σ H ρ s := by
  have hm : ∀ a, a ∈ A'.map (·.1) ↔ a ∈ A.map (·.1) := fun a => (h.map (·.1)).mem_iff
  have av : ∀ a, avL R A' σ ρ a → avL R A σ ρ a := fun a z => by
    unfold avL at z ⊢; rw [hm a] at z; exact z
  have ao : ∀ a, avO R A' σ ρ a → avO R A σ ρ a := fun a z => by
    unfold avO at z ⊢; rw [hm a] at z; exact z
  refine ⟨r.len, r.wd, r.ent, r.out, r.wout, fun i d e => ?_, fun i t ds e => ?_, fun a ds e => ?_, r.inj, fun a z q => r.injA a z ((hm a).mp q), (h.map (·.1)).nodup_iff.mpr r.ndA, fun p hp => (r.pen p hp).mono fun a z => ⟨av a z.1, z.2⟩, fun p hp a z => r.pex p hp a (ao a z), r.pet⟩
  · obtain ⟨v, h1, h2⟩ := r.val i d e
    exact ⟨v, h1, h2.mono av⟩
  · obtain ⟨a, xs, h1, h2, h3, h4⟩ := r.lst i t ds e
    exact ⟨a, xs, h1, h2, h3.mono av, h4⟩
  · obtain ⟨xs, h1, h2, h3⟩ := r.acc a ds (h.mem_iff.mp e)
    exact ⟨xs, h1, h2.mono av, h3⟩
/-- a gathered list becomes a name's own -/
theorem Rel.accOwn {i : Nat} {p : Addr} {ds : List D} (r : Rel R ((p, ds) :: A) P σ H ρ s) (hi : i < ρ.length) : Rel R A P (σ.set i (some (.ref p))) H (ρ.set i (.own false ds)) s := by
  obtain ⟨xs, hp, r', rl⟩ := r.accOut
  have := r'.storeOwn hi less_self rl
  rwa [less_upd hp] at this
/-- a fresh list is gathered -/
theorem Rel.accFresh {p : Addr} {xs : List V} {ds : List D} (r : Rel R A P σ H ρ s) (hp : H p = none) (rl : RepL R.K R.W.tok H (avL R A σ ρ) xs ds) : Rel R ((p, ds) :: A) P σ (upd H p (.lst xs)) ρ s := by
  have r1 := r.accNew hp
  have := r1.accSet (xs' := xs) (ds' := ds) (rl.more hp fun a h => ?_)
  · rwa [upd_upd] at this
  · rcases h with h | h | h | h
    · exact .inl (.inl h)
    · exact .inl (.inr (.inl h))
    · exact .inl (.inr (.inr (.inl h)))
    · rcases List.mem_cons.mp h with h | h
      · exact .inr h
      · exact .inl (.inr (.inr (.inr h)))
/-! ### one value stored -/
def putV (i : Nat) (d : D) (ρ : En) : Option En := if i < ρ.length then some ((if noL d then ρ else freeze ρ).set i (.val d)) else none
theorem Rel.putV {i : Nat} {v : V} {d : D} {ex : Addr → Prop} (r : Rel R A (⟨v, d, ex⟩ :: P) σ H ρ s) (h : L3.putV i d ρ = some ρ') : Rel R A P (σ.set i (some v)) H ρ' s := by
  unfold L3.putV at h
  split at h
  · cases h
    by_cases hd : noL d = true
    · rw [if_pos hd]
      exact r.tail.storeV (r.head.free hd)
    · rw [if_neg hd]
      exact r.tail.freeze.storeV (r.headO.mono fun a z => freeze_avL z)
  · cases h
def pds : List V → List D → (Addr → Prop) → List Pd
  | v :: vs, d :: ds, ex => ⟨v, d, ex⟩ :: pds vs ds ex
  | _, _, _ => []
theorem Rel.pushL {ex : Addr → Prop} (hx : ∀ a, avO R A σ ρ a → ¬ ex a) (ht : ∀ a, ex a → H a ≠ none) (r : Rel R A P σ H ρ s) : ∀ {vs : List V} {ds : List D}, RepL R.K R.W.tok H (fun a => avL R A σ ρ a ∧ ¬ ex a) vs ds → Rel R A (pds vs ds ex ++ P) σ H ρ s
  | _, _, .nil => r
  | _, _, .cons h rl => (Rel.pushL hx ht r rl).push h hx ht
theorem Rel.popL {ex : Addr → Prop} : ∀ {vs : List V} {ds : List D}, vs.length = ds.length → Rel R A (pds vs ds ex ++ P) σ H ρ s → RepL R.K R.W.tok H (fun a => avL R A σ ρ a ∧ ¬ ex a) vs ds ∧ Rel R A P σ H ρ s
  | [], [], _, r => ⟨.nil, r⟩
  | v :: vs, d :: ds, e, r => by
    have r : Rel R A (⟨v, d, ex⟩ :: (pds vs ds ex ++ P)) σ H ρ s := r
    obtain ⟨h1, h2⟩ := Rel.popL (vs := vs) (ds := ds) (by simpa using e) r.tail
    exact ⟨.cons r.head h1, h2⟩
  | [], _ :: _, e, _ => by simp at e
  | _ :: _, [], e, _ => by simp at e
theorem Rel.exL {ex : Addr → Prop} {v : V} {vs : List V} {d : D} {ds : List D} (r : Rel R A (pds (v :: vs) (d :: ds) ex ++ P) σ H ρ s) : (∀ a, avO R A σ ρ a → ¬ ex a) ∧ ∀ a, ex a → H a ≠ none :=
  ⟨r.pex ⟨v, d, ex⟩ (by simp [pds]), r.pet ⟨v, d, ex⟩ (by simp [pds])⟩
end
section
variable {S : Type} {X : Cx} {W : Wd S} {e a b c : Expr} {es : List Expr} {pos : Pos}
/-! ### targets -/
/-- the reading of a target that stores by f, in the slots vs alone -/
def SG (K : PySem.W.Frag) (W : Wd S) (vs : List Nat) (f : D → En → Option En) : TG := fun v σ H Q => ∃ (H0 : Hp) (O : Addr → Prop) (A : Acc) (P : List Pd) (ρ : En) (s : S) (d : D) (ex : Addr → Prop) (ρ' : En),
  Rel ⟨K, W, H0, O⟩ A (⟨v, d, ex⟩ :: P) σ H ρ s ∧ f d ρ = some ρ' ∧ ∀ σ', Rel ⟨K, W, H0, O⟩ A P σ' H ρ' s → (∀ i, i ∉ vs → σ'[i]? = σ[i]?) → σ'.length = σ.length → Q σ' H
def SGs (K : PySem.W.Frag) (W : Wd S) (vs : List Nat) (f : List D → En → Option En) : TGs := fun us σ H Q => ∃ (H0 : Hp) (O : Addr → Prop) (A : Acc) (P : List Pd) (ρ : En) (s : S) (ds : List D) (ex : Addr → Prop) (ρ' : En),
  us.length = ds.length ∧ Rel ⟨K, W, H0, O⟩ A (pds us ds ex ++ P) σ H ρ s ∧ f ds ρ = some ρ' ∧ ∀ σ', Rel ⟨K, W, H0, O⟩ A P σ' H ρ' s → (∀ i, i ∉ vs → σ'[i]? = σ[i]?) → σ'.length = σ.length → Q σ' H
theorem _root_.L2.PG.imp {t t' : TG} (h : PG X e t) (i : ∀ v σ H Q, t' v σ H Q → t v σ H Q) : PG X e t' := ⟨fun pins s σ H v u Q I r q => h.run pins s σ H v u Q I r (i v σ H Q q)⟩
theorem _root_.L2.PGs.imp {t t' : TGs} (h : PGs X es t) (i : ∀ v σ H Q, t' v σ H Q → t v σ H Q) : PGs X es t' := ⟨fun pins s σ H v u Q I r q => h.run pins s σ H v u Q I r (i v σ H Q q)⟩
theorem sg_name {i : Nat} {x : Str} (hN : X.N.Nodup) (hi : X.N[i]? = some x) (hx : Loc X.env.scope x) (hf : X.fn x = true ∨ X.env.scope.names.lookup x = some .local) : PG X (.Name x pos) (SG X.K W [i] (putV i)) :=
  (pg_name hN hi hx hf).imp fun v σ H Q q => by
    obtain ⟨H0, O, A, P, ρ, s, d, ex, ρ', r, e, q⟩ := q
    refine q _ (r.putV e) (fun j hj => ?_) (by simp)
    exact List.getElem?_set_ne fun z => hj (by simp [z])
def nilG : List D → En → Option En := fun ds ρ => match ds with
  | [] => some ρ
  | _ => none
def consG (f : D → En → Option En) (g : List D → En → Option En) : List D → En → Option En := fun ds ρ => match ds with
  | d :: r => (f d ρ).bind fun ρ' => g r ρ'
  | [] => none
theorem sgs_nil : PGs X [] (SGs X.K W [] nilG) := pgs_nil.imp fun us σ H Q q => by
  obtain ⟨H0, O, A, P, ρ, s, ds, ex, ρ', hl, r, e, q⟩ := q
  cases ds with
  | nil =>
    cases e
    cases us with
    | nil => exact ⟨rfl, q σ r (fun _ _ => rfl) rfl⟩
    | cons _ _ => simp at hl
  | cons _ _ => cases e
theorem sgs_cons {f : D → En → Option En} {g : List D → En → Option En} {vs ws : List Nat} (h1 : PG X e (SG X.K W vs f)) (h2 : PGs X es (SGs X.K W ws g))
    (hs : (assignEach (e :: es) X.env).map (·.2) = assign e X.env :: (assignEach es X.env).map (·.2)) : PGs X (e :: es) (SGs X.K W (vs ++ ws) (consG f g)) := (pgs_cons h1 h2 hs).imp fun us σ H Q q => by
  obtain ⟨H0, O, A, P, ρ, s, ds, ex, ρ', hl, r, e, q⟩ := q
  cases ds with
  | nil => cases e
  | cons d ds =>
    cases us with
    | nil => simp at hl
    | cons v us =>
      have e : (f d ρ).bind (fun ρ1 => g ds ρ1) = some ρ' := e
      cases h : f d ρ with
      | none => rw [h] at e; simp at e
      | some ρ1 =>
        rw [h] at e
        simp only [Option.bind_some] at e
        refine ⟨v, us, rfl, H0, O, A, pds us ds ex ++ P, ρ, s, d, ex, ρ1, r, h, fun σ1 r1 k1 l1 => ?_⟩
        refine ⟨H0, O, A, P, ρ1, s, ds, ex, ρ', by simpa using hl, r1, e, fun σ2 r2 k2 l2 => q σ2 r2 (fun i hi => ?_) (l2.trans l1)⟩
        rw [k2 i fun z => hi (List.mem_append_right _ z), k1 i fun z => hi (List.mem_append_left _ z)]
def tupG (n : Nat) (g : List D → En → Option En) : D → En → Option En := fun d ρ => match d with
  | .tup ds => if ds.length = n then g ds ρ else none
  | _ => none
theorem sg_tup {k n : Nat} {g : List D → En → Option En} {vs : List Nat} (hc : X.calm = true) (h : PGs X es (SGs X.K W vs g)) (hn : (assignEach es X.env).length = n) (hst : (assignEach es X.env).findIdx? (·.1) = none) : PG X (.Tuple es k pos) (SG X.K W vs (tupG n g)) :=
  (pg_tup hc h hn hst).imp fun v σ H Q q => by
    obtain ⟨H0, O, A, P, ρ, s, d, ex, ρ', r, e, q⟩ := q
    unfold tupG at e
    split at e
    · rename_i ds
      split at e
      · rename_i hl
        have rh := r.head
        cases rh with
        | tup hs rl => exact ⟨_, _, rfl, hs, by rw [rl.length]; exact hl, H0, O, A, P, ρ, s, ds, ex, ρ', rl.length, Rel.pushL r.hex (fun a => r.pet _ List.mem_cons_self a) r.tail rl, e, q⟩
      · cases e
    · cases e
/-! ### what is walked -/
def ItOk (K : PySem.W.Frag) (tk : Addr) (J : It) (items : List D) (vs : List V) (ds : List D) : Prop := ∃ (G : Hp → Prop) (Y : Nat → Hp → V → Hp → Prop), Walk J items.length G Y ∧ (∀ H av, RepL K tk H av vs ds → G H) ∧
  ∀ (i : Nat) (H : Hp) (x : V) (H' : Hp) (av : Addr → Prop) (d : D), (∀ a, av a → H a ≠ none) → RepL K tk H av vs ds → Y i H x H' → items[i]? = some d → Same H H' ∧ Rep K tk H' av x d
def SI (K : PySem.W.Frag) (W : Wd S) (g : EvL S) : TI := fun σ H Q => ∃ (H0 : Hp) (O : Addr → Prop) (A : Acc) (P : List Pd) (ρ : En) (s : S) (items : List D) (ρ' : En) (s' : S),
  Rel ⟨K, W, H0, O⟩ A P σ H ρ s ∧ g ρ s = some (items, ρ', s') ∧
    ∀ (J : It) (H' : Hp) (vs : List V) (ds : List D) (ex : Addr → Prop), Rel ⟨K, W, H0, O⟩ A P σ H' ρ' s' → RepL K W.tok H' (fun a => avL ⟨K, W, H0, O⟩ A σ ρ' a ∧ ¬ ex a) vs ds → (∀ a, avO ⟨K, W, H0, O⟩ A σ ρ' a → ¬ ex a) → (∀ a, ex a → H' a ≠ none) → ItOk K W.tok J items vs ds → Q J H'
variable {tg : Expr}
theorem _root_.L2.PI.imp {t t' : TI} (h : PI X tg e t) (i : ∀ σ H Q, t' σ H Q → t σ H Q) : PI X tg e t' := ⟨fun pins s σ H Q I q => h.run pins s σ H Q I (i σ H Q q)⟩
def itemsF (f : Ev S) : EvL S := fun ρ s => match f ρ s with
  | some (.lst ds, ρ', s') => some (ds, ρ', s')
  | some (.tup ds, ρ', s') => some (ds, ρ', s')
  | _ => none
theorem itOk_list {K : PySem.W.Frag} {tk p : Addr} {items : List D} {xs : List V} {H0 : Hp} {av0 : Addr → Prop} (h : H0 p = some (.lst xs)) (rl : RepL K tk H0 av0 xs items) : ItOk K tk (Itl K p) items [.ref p] [.lst items] := by
  refine ⟨fun H => ∃ ys, ys.length = items.length ∧ H p = some (.lst ys), fun i H x H' => H' = H ∧ ∃ ys, H p = some (.lst ys) ∧ ys[i]? = some x, ⟨fun i H hi hg => ?_, fun H hg => ?_, fun i H x H' hi hg y => ?_⟩, fun H av r => ?_, fun i H x H' av d hav r y e => ?_⟩
  · obtain ⟨ys, e, hp⟩ := hg
    have hi' : i < ys.length := by rw [e]; exact hi
    exact ⟨ys, ys[i], .inl (.inl hp), by simp [hi']⟩
  · obtain ⟨ys, e, hp⟩ := hg
    exact ⟨ys, .inl (.inl hp), by omega⟩
  · obtain ⟨ys, e, hp⟩ := hg
    exact ⟨y.1, ys, hp, y.2 ys (.inl (.inl hp))⟩
  · cases r with
    | cons r _ =>
      cases r with
      | lst hp _ rl => exact ⟨_, rl.length, hp⟩
  · obtain ⟨rfl, ys, hp, hx⟩ := y
    refine ⟨Same.refl _, ?_⟩
    cases r with
    | cons r _ =>
      cases r with
      | lst hp' _ rl =>
        rw [hp] at hp'; cases hp'
        obtain ⟨d', e', r'⟩ := rl.get' hx
        rw [e] at e'; cases e'
        exact r'
theorem sqT_fun {K : PySem.W.Frag} {p : Addr} {xs : List V} (h : ∀ H, SqT K H p xs → True) : True := trivial
theorem si_val {f : Ev S} {fr : Bool} (he : PE X e (SE X.K W fr f)) : PI X tg e (SI X.K W (itemsF f)) := by
  refine ⟨fun pins s σ H Q I q => ?_⟩
  obtain ⟨H0, O, A, P, ρ, s1, items, ρ', s', r, e1, q⟩ := q
  unfold itemsF at e1
  split at e1
  · rename_i ds ρ1 s2 h
    cases e1
    refine (pi_list he).run pins s σ H Q I ⟨H0, O, A, P, ρ, s1, _, _, _, r, h, fun v H' ex r' _ => ?_⟩
    have rh := r'.head
    cases rh with
    | lst hp hn rl =>
      exact ⟨_, rfl, ⟨_, .inl (.inl hp)⟩, q _ H' [_] [.lst items] ex r'.tail (.cons (.lst hp hn rl) .nil) r'.hex (fun a => r'.pet _ List.mem_cons_self a) (itOk_list hp rl)⟩
  · rename_i ds ρ1 s2 h
    cases e1
    refine (pi_tup he).run pins s σ H Q I ⟨H0, O, A, P, ρ, s1, _, _, _, r, h, fun v H' ex r' _ => ?_⟩
    have rh := r'.head
    cases rh with
    | tup hp rl =>
      rename_i p xs _
      refine ⟨_, rfl, ⟨_, hp⟩, q _ H' [.ref p] [.tup items] ex r'.tail (.cons (.tup hp rl) .nil) r'.hex (fun a => r'.pet _ List.mem_cons_self a) ?_⟩
      refine ⟨fun H => ∃ ys, ys.length = items.length ∧ SqT X.K H p ys, fun i H x H' => H' = H ∧ ∀ ys, SqT X.K H p ys → ys[i]? = some x, ⟨fun i H hi hg => ?_, fun H hg => ?_, fun i H x H' hi hg y => y⟩, fun H av r => ?_, fun i H x H' av d hav r y e => ?_⟩
      · obtain ⟨ys, e, hp⟩ := hg
        have hi' : i < ys.length := by rw [e]; exact hi
        exact ⟨ys, ys[i], hp, by simp [hi']⟩
      · obtain ⟨ys, e, hp⟩ := hg
        exact ⟨ys, hp, by omega⟩
      · cases r with
        | cons r _ =>
          cases r with
          | tup hp rl => exact ⟨_, rl.length, hp⟩
      · obtain ⟨rfl, y⟩ := y
        refine ⟨Same.refl _, ?_⟩
        cases r with
        | cons r _ =>
          cases r with
          | tup hp' rl =>
            obtain ⟨d', e', r'⟩ := rl.get' (y _ hp')
            rw [e] at e'; cases e'
            exact r'
  · cases e1
def rngD (lo : Int) (n : Nat) : List D := (List.range n).map fun i => .int (lo + (i : Nat))
theorem rngD_length (lo : Int) (n : Nat) : (rngD lo n).length = n := by simp [rngD]
theorem rngD_get {lo : Int} {n i : Nat} {d : D} (h : (rngD lo n)[i]? = some d) : d = .int (lo + (i : Nat)) := by
  unfold rngD at h
  rw [List.getElem?_map] at h
  by_cases hi : i < n
  · rw [List.getElem?_range hi] at h
    simpa using h.symm
  · rw [List.getElem?_eq_none (by simpa using hi)] at h; simp at h
theorem itOk_rng {K : PySem.W.Frag} {tk : Addr} {lo : Int} {n : Nat} {vs : List V} {ds : List D} : ItOk K tk (Itr lo n) (rngD lo n) vs ds := by
  refine ⟨fun _ => True, YFn fun i => .int (lo + i), ?_, fun _ _ _ => trivial, fun i H x H' av d hav r y e => ?_⟩
  · rw [rngD_length]; exact walk_range
  · obtain ⟨rfl, rfl⟩ := y
    rw [rngD_get e]
    exact ⟨Same.refl _, .int _⟩
def rangeD : List D → Option (List D)
  | [.int j] => if j.natAbs ≤ 1000000 then some (rngD 0 j.toNat) else none
  | [.int i, .int j] => if i.natAbs ≤ 1000000 ∧ j.natAbs ≤ 1000000 then some (rngD i (j - i).toNat) else none
  | _ => none
def rangeL (g : EvL S) : EvL S := fun ρ s => match g ρ s with
  | some (ds, ρ', s') => match rangeD ds with
    | some xs => some (xs, ρ', s')
    | none => none
  | none => none
theorem si_range1 {p : Pos} {g : EvL S} (hg : Gl X "range") (hm : X.mg "range" = none) (ha : PA X [a] (SL X.K W g)) (hs : starEach [a] X.env = [(false, eval a X.env)]) (hl : ∀ ρ s xs ρ' s', g ρ s = some (xs, ρ', s') → xs.length = 1) : PI X tg (.Call (.Name "range" p) [a] [] pos) (SI X.K W (rangeL g)) :=
  (pi_range1 hg hm ha hs).imp fun σ H Q q => by
    obtain ⟨H0, O, A, P, ρ, s1, items, ρ', s', r, e1, q⟩ := q
    unfold rangeL at e1
    split at e1
    · rename_i ds ρ1 s2 h
      split at e1
      · rename_i xs h2
        cases e1
        refine ⟨H0, O, A, P, ρ, s1, ds, _, _, r, h, fun vs H' ex r' rl hx ht => ?_⟩
        have l1 := hl _ _ _ _ _ h
        unfold rangeD at h2
        split at h2
        · split at h2
          · rename_i hb
            cases h2
            cases rl with
            | cons r1 rl =>
              cases rl
              cases r1
              exact ⟨_, rfl, by omega, by omega, q _ H' [] [] ex r' .nil hx ht itOk_rng⟩
          · cases h2
        · simp at l1
        · cases h2
      · cases e1
    · cases e1
theorem si_range2 {p : Pos} {g : EvL S} (hg : Gl X "range") (hm : X.mg "range" = none) (ha : PA X [a, b] (SL X.K W g)) (hs : starEach [a, b] X.env = [(false, eval a X.env), (false, eval b X.env)]) (hs2 : starEach [b] X.env = [(false, eval b X.env)])
    (hl : ∀ ρ s xs ρ' s', g ρ s = some (xs, ρ', s') → xs.length = 2) : PI X tg (.Call (.Name "range" p) [a, b] [] pos) (SI X.K W (rangeL g)) :=
  (pi_range2 hg hm ha hs hs2).imp fun σ H Q q => by
    obtain ⟨H0, O, A, P, ρ, s1, items, ρ', s', r, e1, q⟩ := q
    unfold rangeL at e1
    split at e1
    · rename_i ds ρ1 s2 h
      split at e1
      · rename_i xs h2
        cases e1
        refine ⟨H0, O, A, P, ρ, s1, ds, _, _, r, h, fun vs H' ex r' rl hx ht => ?_⟩
        have l1 := hl _ _ _ _ _ h
        unfold rangeD at h2
        split at h2
        · simp at l1
        · split at h2
          · rename_i hb
            cases h2
            cases rl with
            | cons r1 rl =>
              cases rl with
              | cons r2 rl =>
                cases rl
                cases r1
                cases r2
                exact ⟨_, _, rfl, ⟨by omega, by omega, by omega, by omega⟩, q _ H' [] [] ex r' .nil hx ht itOk_rng⟩
          · cases h2
        · cases h2
      · cases e1
    · cases e1
end
end L3
end
section
set_option Elab.async false
set_option linter.all false
set_option maxRecDepth 100000
set_option autoImplicit false
/-! L3h0: enumerate over a tuple, walked by a for or a comprehension (own work). -/
namespace L3
open PySem PySem.Spec PyProof.Rows L2
abbrev tupIter (t : Addr) : Obj := { cls := .type "tuple_iterator", data := .fields #[.ref t, .int 0 0] }
abbrev enumObj (n : Addr) : Obj := { cls := .type "enumerate", data := .fields #[.none, .bool false, .ref n, rawInt 0, .none, .none] }
theorem meets_enumT (t : Addr) (items : Array Value) :
    Meets (Builtin.«enumerate.__new__» ⟨[.type "enumerate", .ref t], []⟩) (fun _ R s => s.heap.IsTuple t items ∧ R (.ok (.ret (.ref (s.heap.push (tupIter t)).objs.size))) { s with heap := (s.heap.push (tupIter t)).push (enumObj s.heap.objs.size) }) :=
  .of_wp fun prog w A R s z => by
    obtain ⟨hp, g, d, tk, os⟩ := s
    obtain ⟨hT, hR⟩ := z
    have sub := sub_enumerate
    have it : ∀ {A' : Around} {E : Value → Shared → Prop} {Q : Value → Shared → Prop}, Q (.ref hp.objs.size) ⟨hp.push (tupIter t), g, d, tk, os⟩ → wpAny (model prog w) A' (pyIter (.ref t)) Q E ⟨hp, g, d, tk, os⟩ :=
      fun q => wpAny_pyIter_tuple hT q
    wp_walk using it
    refine wpAny_stack_any fun _ => wpAny_pure ?_
    split
    · rename_i c _ _ _ _ _
      cases (c == Value.type "enumerate") <;> (wp_walk using it; exact ⟨_, rfl, hR⟩)
    · wp_walk using it
      exact ⟨_, rfl, hR⟩
section
variable {prog : Program} {w : World} {A : Around} {E : Value → Shared → Prop} {s : Shared}
theorem call_enumT {t : Addr} {items : Array Value} {Q : Value → Shared → Prop} (hT : s.heap.IsTuple t items)
    (h : ∀ h', IsEnum h' (s.heap.objs.size + 1) s.heap.objs.size 0 .none → h'.IsTupleIter s.heap.objs.size t 0 → h'.IsTuple t items → (∀ b o, s.heap.get? b = some o → h'.get? b = some o) → Q (.ref (s.heap.objs.size + 1)) { s with heap := h' }) :
    wpAny (model prog w) A (call (.type "enumerate") [.ref t]) Q E s := by
  refine callType_new F.called_enumerate (by decide) (F.typeCall_enumerate_1 _) (F.newCall_enumerate_1 _) (fun obj => F.args_object_init_2 obj _) F.entry_enumerate_new (meets_enumT t items) ⟨hT, ?_⟩
  have z1 : (s.heap.push (tupIter t)).objs.size = s.heap.objs.size + 1 := Heap.size_push ..
  show _ ∧ _
  rw [z1]
  have he : IsEnum ((s.heap.push (tupIter t)).push (enumObj s.heap.objs.size)) (s.heap.objs.size + 1) s.heap.objs.size 0 .none := by
    have q := Heap.get?_push_size (s.heap.push (tupIter t)) (o := enumObj s.heap.objs.size) rfl
    rw [z1] at q
    exact q
  have k : ∀ b o, s.heap.get? b = some o → ((s.heap.push (tupIter t)).push (enumObj s.heap.objs.size)).get? b = some o := fun b o x => Heap.get?_push_of_some _ (Heap.get?_push_of_some _ x)
  exact ⟨⟨_, he, rfl⟩, h _ he ⟨_, Heap.get?_push_of_some _ (Heap.get?_push_size _ rfl), rfl, rfl⟩ (hT.at fun o e => k t o e) k⟩
end
/-- the tuple at a, each item in a new pair with its place -/
def IteT (K : PySem.W.Frag) (a : Addr) : It :=
  ⟨fun i H => ∃ (xs : List V) (x : V), SqT K H a xs ∧ xs[i]? = some x, fun i H v H' => ∃ T x, v = .ref T ∧ H T = none ∧ H' = upd H T (.tup [.int (i : Nat), x]) ∧ ∀ xs, SqT K H a xs → xs[i]? = some x, fun i H => ∃ xs : List V, SqT K H a xs ∧ xs.length ≤ i⟩
theorem turn_enumT {P : Program} {w : World} {K : PySem.W.Frag} {elts : List Expr} {kk : Nat} {tpos : Pos} (a e it : Addr) (hai : a ≠ it) (hae : a ≠ e) :
    Turn P w K (.Tuple elts kk tpos) (IteT K a) [e, it] e (fun i h => (∃ old, IsEnum h e it ((i : Nat) : Int) old) ∧ h.IsTupleIter it a i ∧ e ≠ it) where
  mem := List.mem_cons_self
  obj := fun i h st b hb => by
    obtain ⟨⟨_, he⟩, ⟨o, ho, _, hd⟩, _⟩ := st
    rcases List.mem_cons.mp hb with rfl | hb
    · exact ⟨_, he, fun v q => nomatch q⟩
    · rw [List.mem_singleton.mp hb]
      exact ⟨o, ho, fun v q => by rw [hd] at q; exact nomatch q⟩
  keep := fun i h h' st k => ⟨let ⟨old, he⟩ := st.1; ⟨old, k e List.mem_cons_self _ he⟩, st.2.1.at fun o q => k it (List.mem_cons_of_mem _ List.mem_cons_self) o q, st.2.2⟩
  item := by
    rintro X rfl rfl rfl hc i pins s σ H E I hf ⟨⟨old, he⟩, hit, hne⟩ ⟨xs, x, hq, hx⟩
    obtain ⟨its, rv, p, hz⟩ := I.tuple hq
    obtain ⟨u, hu, ru⟩ := rv.get hx
    have hel : e < s.heap.objs.size := Heap.lt_size he
    have hil : it < s.heap.objs.size := by obtain ⟨_, q, _⟩ := hit; exact Heap.lt_size q
    have hT : s.heap.IsTuple a its.toArray := p
    have hlt : i < its.toArray.size := by
      obtain ⟨h1, _⟩ := List.getElem?_eq_some_iff.mp hu
      simpa using h1
    refine wpAny_pyNext_enum_itemD (i := i) (Draws.tuple (A := X.A.in1) (show X.A.in1.handled = none from I.ok.hd hc) it a hai its.toArray) he ⟨hit, hT⟩ hlt hne (by simp [hne, Ne.symm hae]) fun y h' tk hy ho hst hN hsz hk => ?_
    have ey : y = u := by
      have : its[i]? = some y := by simpa using hy
      rw [hu] at this; exact (Option.some.inj this).symm
    subst ey
    refine ⟨_, rfl, wpAny_letOwnedTupleGo_enum (s := { s with heap := h', toks := tk + 1 }) ho fun h2 he2 sb => ?_⟩
    have hN2 : h2.get? s.heap.objs.size = some { cls := .type "tuple", data := .seq #[.int i tk, y] } := (sb.2 _ (Nat.ne_of_gt hel)).trans hN
    have new : ObjOk X.prog X.w (upd H s.heap.objs.size (.tup [.int (i : Nat), x])) h2 s.heap.objs.size (.tup [.int (i : Nat), x]) :=
      ⟨by show 2 ≤ sizeLine; decide, [.int i tk, y], .cons ⟨_, rfl⟩ (.cons ru .nil), ⟨_, hN2, rfl, _, rfl⟩⟩
    have kb : ∀ b ob, b ∉ [e, it] → s.heap.get? b = some ob → h2.get? b = some ob := fun b ob hb q => by
      have b1 : b ≠ e := fun z => hb (by simp [z])
      have b2 : b ≠ it := fun z => hb (by simp [z])
      exact (sb.2 b b1).trans (hk b ob b1 b2 q)
    have I1 : Inv X pins σ (upd H s.heap.objs.size (.tup [.int (i : Nat), x])) { s with heap := h2, toks := tk + 1 } := I.turnedNew (ch := [e, it]) kb hf (Nat.le_refl _) new
    have he2 : IsEnum h2 e it ((i : Int) + 1) y := by simpa using he2
    have ei : ((i + 1 : Nat) : Int) = (i : Int) + 1 := by omega
    refine ⟨.ref s.heap.objs.size, _, I1, rfl, ⟨_, x, rfl, I.hok.fresh (Nat.le_refl _), rfl, fun ys hy => by rw [I.tuple_inj hy hq]; exact hx⟩, ⟨⟨y, by rw [ei]; exact he2⟩, hst.1.at fun o q => (sb.2 it (Ne.symm hne)).trans q, hne⟩, fun b hb => ?_⟩
    have hb' : b < s.heap.objs.size := by
      rcases List.mem_cons.mp hb with rfl | hb
      · exact hel
      · rw [List.mem_singleton.mp hb]; exact hil
    rw [upd_ne (Nat.ne_of_lt hb')]
    exact (hf b hb).1
  done := by
    rintro X rfl rfl rfl hc i pins s σ H E I hf ⟨⟨old, he⟩, hit, hne⟩ ⟨xs, hq, hx⟩
    obtain ⟨its, rv, p, hz⟩ := I.tuple hq
    have hT : s.heap.IsTuple a its.toArray := p
    have hl := rv.length
    obtain ⟨f0, f1, f2, f3, f4, f5⟩ := hf it (by simp)
    have fin : ∀ h', Heap.ExtBut it s.heap h' → (none : Option Value) = none ∧ Inv X pins σ H { s with heap := h' } := fun h' eb => ⟨rfl, I.turned (t' := s.toks) (fun b o hb q => eb b o hb q) f0 f1 f3 f4 f5⟩
    have hT := hT
    have hnone : its.toArray[i]? = none := by simp; omega
    have hI : s.TypeIs (.ref e) "enumerate" := ⟨_, he, rfl⟩
    unfold pyNext
    refine wpAny_bind (wpAny_attempt (wpAny_callSpecial?_slot (name := Str.ofString "__next__") hI F.slot_enumerate_next
      (wpAny_call_entry F.slot_enumerate_next hI F.entry_enumerate_next ?_ (F.args_enumerate_next_1 _))))
    show wpAny _ _ (field (.ref e) 2 >>= _) _ _ _
    refine wpAny_bind (wpAny_field he rfl (x := .ref it) rfl ?_)
    refine wpAny_bind (wpAny_nextOf_tuple_end (I.ok.hd hc) hit hT hnone fun h' x he' hx' => ?_)
    obtain ⟨o, ho, hcl⟩ := hx'
    refine wpAny_bind (wpAny_isInstance (T := "StopIteration") (b := true) ⟨o, ho, hcl⟩ isSubtype_stop ?_)
    exact wpAny_pure (fin _ he')
  self := fun A i s Q E st h => let ⟨⟨_, he⟩, _⟩ := st; wpAny_pyIter_enum he h
def iEnumA (K : PySem.W.Frag) (ta : TA) : TI := fun σ H R => ta σ H fun vs H1 => ∃ a xs, vs = [.ref a] ∧ ((SqL K H1 a xs ∧ R (Ite K a) H1) ∨ (SqT K H1 a xs ∧ R (IteT K a) H1))
theorem pi_enumA {X : Cx} {e : Expr} {ta : TA} {p pos tpos : Pos} {elts : List Expr} {kk : Nat} (hg : Gl X "enumerate") (hm : X.mg "enumerate" = none) (ha : PA X [e] ta) (hs : starEach [e] X.env = [(false, eval e X.env)]) :
    PI X (.Tuple elts kk tpos) (.Call (.Name "enumerate" p) [e] [] pos) (iEnumA X.K ta) := by
  refine ⟨fun pins s σ H R I h => ?_⟩
  have hpl : (backTo pos (starEach ([] : List Expr) X.env)).any (·.1) = false := rfl
  refine Call_ (ld_blt I hg hm boot_enumerate (PyProof.Rows.callWith_type1 (thn (ha.run pos pins s σ H _ I h) fun us s1 ⟨vs, H1, I1, r1, a, xs, ex, q⟩ => ?_) hs hpl))
  subst ex
  cases r1 with
  | cons r rr =>
    cases rr
    cases r
    have fr : ∀ b, b = s1.heap.objs.size + 1 ∨ b = s1.heap.objs.size → s1.heap.objs.size ≤ b := fun b z => by
      rcases z with z | z
      · rw [z]; exact Nat.le_succ _
      · rw [z]; exact Nat.le_refl _
    rcases q with ⟨hq, q⟩ | ⟨hq, q⟩
    · obtain ⟨its, rv, p', hz⟩ := I1.list hq
      refine call_enumerate_list p'.isList fun h' he hit hsz hk => wpAny_pyIter_enum he ?_
      have I2 : Inv X pins σ H1 { s1 with heap := h' } := I1.kept (t' := s1.toks) hk
      refine ⟨s1.heap.objs.size + 1, [s1.heap.objs.size + 1, s1.heap.objs.size], _, _, H1, rfl, I2, turn_enum a (s1.heap.objs.size + 1) s1.heap.objs.size, ⟨⟨.none, he⟩, hit, Nat.succ_ne_self _⟩, fun b hb => ?_, q⟩
      have hle := fr b (by simpa using hb)
      exact I1.fpOk hle (I1.hok.fresh hle)
    · obtain ⟨its, rv, p', hz⟩ := I1.tuple hq
      have hT : s1.heap.IsTuple a its.toArray := p'
      have hal : a < s1.heap.objs.size := p'.lt
      refine call_enumT hT fun h' he hit _ hk => wpAny_pyIter_enum he ?_
      have I2 : Inv X pins σ H1 { s1 with heap := h' } := I1.kept (t' := s1.toks) hk
      refine ⟨s1.heap.objs.size + 1, [s1.heap.objs.size + 1, s1.heap.objs.size], _, _, H1, rfl, I2, turn_enumT a (s1.heap.objs.size + 1) s1.heap.objs.size (Nat.ne_of_lt hal) (Nat.ne_of_lt (Nat.lt_succ_of_lt hal)), ⟨⟨.none, he⟩, hit, Nat.succ_ne_self _⟩, fun b hb => ?_, q⟩
      have hle := fr b (by simpa using hb)
      exact I1.fpOk hle (I1.hok.fresh hle)
end L3
end
section
set_option Elab.async false
set_option linter.all false
set_option maxRecDepth 100000
set_option autoImplicit false
/-! L3h: zip, enumerate, list comprehensions over pure data (own work). -/
namespace L3
open PySem PySem.Spec PyProof.Rows L2
section
variable {S : Type} {X : Cx} {W : Wd S} {e a b c tg : Expr} {es : List Expr} {pos : Pos}
theorem repL1 {K : PySem.W.Frag} {tk : Addr} {H : Hp} {av : Addr → Prop} {x : V} {d : D} (r : RepL K tk H av [x] [d]) : Rep K tk H av x d := by cases r with | cons r _ => exact r
theorem repL2 {K : PySem.W.Frag} {tk : Addr} {H : Hp} {av : Addr → Prop} {x y : V} {d e : D} (r : RepL K tk H av [x, y] [d, e]) : Rep K tk H av x d ∧ Rep K tk H av y e := by
  cases r with
  | cons r q => exact ⟨r, repL1 q⟩
/-- a new pair -/
theorem pair_rep {K : PySem.W.Frag} {tk T : Addr} {H : Hp} {av : Addr → Prop} {x y : V} {d e : D} (hT : H T = none) (rx : Rep K tk H av x d) (ry : Rep K tk H av y e) : Same H (upd H T (.tup [x, y])) ∧ Rep K tk (upd H T (.tup [x, y])) av (.ref T) (.tup [d, e]) := by
  have k := same_upd (o := .tup [x, y]) hT
  exact ⟨k, .tup (.inl (.inl upd_same)) (.cons (rx.same k) (.cons (ry.same k) .nil))⟩
def enumD (i : Nat) : List D → List D
  | [] => []
  | d :: ds => .tup [.int (i : Nat), d] :: enumD (i + 1) ds
theorem enumD_length : ∀ (i : Nat) (ds : List D), (enumD i ds).length = ds.length
  | _, [] => rfl
  | i, _ :: ds => by simp [enumD, enumD_length (i + 1) ds]
theorem enumD_get : ∀ {i : Nat} {ds : List D} {j : Nat} {d : D}, (enumD i ds)[j]? = some d → ∃ e, ds[j]? = some e ∧ d = .tup [.int ((i + j : Nat) : Int), e]
  | i, [], j, d, h => by simp [enumD] at h
  | i, e :: ds, 0, d, h => by
    simp [enumD] at h
    exact ⟨e, rfl, by rw [← h]; rfl⟩
  | i, e :: ds, j + 1, d, h => by
    simp only [enumD, List.getElem?_cons_succ] at h
    obtain ⟨e', h1, h2⟩ := enumD_get h
    exact ⟨e', by simpa using h1, by rw [h2, show i + 1 + j = i + (j + 1) by omega]⟩
def seqD : D → Option (List D)
  | .lst ds => some ds
  | .tup ds => some ds
  | _ => none
def enumL (g : EvL S) : EvL S := fun ρ s => match g ρ s with
  | some ([d], ρ', s') => match seqD d with
    | some ds => some (enumD 0 ds, ρ', s')
    | none => none
  | _ => none
theorem si_enum {p tpos : Pos} {elts : List Expr} {kk : Nat} {g : EvL S} (hg : Gl X "enumerate") (hm : X.mg "enumerate" = none) (ha : PA X [a] (SL X.K W g)) (hs : starEach [a] X.env = [(false, eval a X.env)]) :
    PI X (.Tuple elts kk tpos) (.Call (.Name "enumerate" p) [a] [] pos) (SI X.K W (enumL g)) := (pi_enumA hg hm ha hs).imp fun σ H Q q => by
  obtain ⟨H0, O, A, P, ρ, s1, items, ρ', s', r, e1, q⟩ := q
  unfold enumL at e1
  split at e1
  · rename_i d ρ1 s2 h
    split at e1
    · rename_i ds hd
      cases e1
      refine ⟨H0, O, A, P, ρ, s1, _, _, _, r, h, fun vs H' ex r' rl hx ht => ?_⟩
      cases d with
      | lst es =>
        cases hd
        cases rl with
        | cons rl1 rl2 =>
          cases rl2
          have rl1' := rl1
          cases rl1 with
          | lst hp hn rl =>
            rename_i p xs
            refine ⟨p, xs, rfl, .inl ⟨.inl (.inl hp), q _ H' [.ref p] [.lst ds] ex r' (.cons rl1' .nil) hx ht ?_⟩⟩
            refine ⟨fun H => ∃ ys, ys.length = ds.length ∧ H p = some (.lst ys), (Ite X.K p).yld, ⟨fun i H hi hg => ?_, fun H hg => ?_, fun _ _ _ _ _ _ y => y⟩, fun H av r => ?_, fun i H x H' av d hav r y e => ?_⟩
            · obtain ⟨ys, e, hp⟩ := hg
              have hi' : i < ys.length := by rw [e]; rwa [enumD_length] at hi
              exact ⟨ys, ys[i], .inl (.inl hp), by simp [hi']⟩
            · obtain ⟨ys, e, hp⟩ := hg
              exact ⟨ys, .inl (.inl hp), by rw [enumD_length]; omega⟩
            · cases repL1 r with
              | lst hp _ rl => exact ⟨_, rl.length, hp⟩
            · obtain ⟨T, u, rfl, hT, rfl, hu⟩ := y
              obtain ⟨e0, h1, rfl⟩ := enumD_get e
              cases repL1 r with
              | lst hp' _ rl =>
                obtain ⟨d', h2, r'⟩ := rl.get' (hu _ (.inl (.inl hp')))
                rw [h1] at h2; cases h2
                have e0 : ((0 + i : Nat) : Int) = (i : Nat) := by omega
                rw [e0]
                exact pair_rep hT (.int _) r'
      | tup es =>
        cases hd
        cases rl with
        | cons rl1 rl2 =>
          cases rl2
          have rl1' := rl1
          cases rl1 with
          | tup hp rl =>
            rename_i p xs
            refine ⟨p, xs, rfl, .inr ⟨hp, q _ H' [.ref p] [.tup ds] ex r' (.cons rl1' .nil) hx ht ?_⟩⟩
            refine ⟨fun H => ∃ ys, ys.length = ds.length ∧ SqT X.K H p ys, (IteT X.K p).yld, ⟨fun i H hi hg => ?_, fun H hg => ?_, fun _ _ _ _ _ _ y => y⟩, fun H av r => ?_, fun i H x H' av d hav r y e => ?_⟩
            · obtain ⟨ys, e, hp⟩ := hg
              have hi' : i < ys.length := by rw [e]; rwa [enumD_length] at hi
              exact ⟨ys, ys[i], hp, by simp [hi']⟩
            · obtain ⟨ys, e, hp⟩ := hg
              exact ⟨ys, hp, by rw [enumD_length]; omega⟩
            · cases repL1 r with
              | tup hp rl => exact ⟨_, rl.length, hp⟩
            · obtain ⟨T, u, rfl, hT, rfl, hu⟩ := y
              obtain ⟨e0, h1, rfl⟩ := enumD_get e
              cases repL1 r with
              | tup hp' rl =>
                obtain ⟨d', h2, r'⟩ := rl.get' (hu _ hp')
                rw [h1] at h2; cases h2
                have e0 : ((0 + i : Nat) : Int) = (i : Nat) := by omega
                rw [e0]
                exact pair_rep hT (.int _) r'
      | _ => cases hd
    · cases e1
  · cases e1
def zipD : List D → List D → List D
  | d :: ds, e :: es => .tup [d, e] :: zipD ds es
  | _, _ => []
theorem zipD_length : ∀ (ds es : List D), (zipD ds es).length = min ds.length es.length
  | [], _ => by simp [zipD]
  | _ :: _, [] => by simp [zipD]
  | _ :: ds, _ :: es => by simp only [zipD, List.length_cons, zipD_length ds es]; omega
theorem zipD_get : ∀ {ds es : List D} {j : Nat} {d : D}, (zipD ds es)[j]? = some d → ∃ x y, ds[j]? = some x ∧ es[j]? = some y ∧ d = .tup [x, y]
  | [], _, j, d, h => by simp [zipD] at h
  | _ :: _, [], j, d, h => by simp [zipD] at h
  | x :: ds, y :: es, 0, d, h => by
    simp [zipD] at h
    exact ⟨x, y, rfl, rfl, h.symm⟩
  | x :: ds, y :: es, j + 1, d, h => by
    simp only [zipD, List.getElem?_cons_succ] at h
    obtain ⟨x', y', h1, h2, h3⟩ := zipD_get h
    exact ⟨x', y', by simpa using h1, by simpa using h2, h3⟩
def zipL (g : EvL S) : EvL S := fun ρ s => match g ρ s with
  | some ([.lst ds, .lst es], ρ', s') => some (zipD ds es, ρ', s')
  | some ([.tup ds, .tup es], ρ', s') => some (zipD ds es, ρ', s')
  | _ => none
theorem si_zip {p tpos : Pos} {elts : List Expr} {kk : Nat} {g : EvL S} (hg : Gl X "zip") (hm : X.mg "zip" = none) (ha : PA X [a, b] (SL X.K W g)) (hs : starEach [a, b] X.env = (false, eval a X.env) :: starEach [b] X.env) (hpl : (backTo pos (starEach [b] X.env)).any (·.1) = false) :
    PI X (.Tuple elts kk tpos) (.Call (.Name "zip" p) [a, b] [] pos) (SI X.K W (zipL g)) := (RZ.pi_zipA hg hm ha hs hpl).imp fun σ H Q q => by
  obtain ⟨H0, O, A, P, ρ, s1, items, ρ', s', r, e1, q⟩ := q
  unfold zipL at e1
  split at e1
  · rename_i ds es ρ1 s2 h
    cases e1
    refine ⟨H0, O, A, P, ρ, s1, _, _, _, r, h, fun vs H' ex r' rl hx ht => ?_⟩
    have rl0 := rl
    cases rl with
    | cons rl1 rl2 =>
      cases rl2 with
      | cons rl2 rl3 =>
        cases rl3
        cases rl1 with
        | lst hp hn rl =>
          rename_i p xs
          cases rl2 with
          | lst hp' hn' rl' =>
            rename_i p' xs'
            refine ⟨p, p', xs, xs', rfl, .inl ⟨.inl (.inl hp), .inl (.inl hp'), q _ H' _ _ ex r' rl0 hx ht ?_⟩⟩
            refine ⟨fun H => ∃ ys zs, ys.length = ds.length ∧ zs.length = es.length ∧ H p = some (.lst ys) ∧ H p' = some (.lst zs), (Itz X.K p p').yld, ⟨fun i H hi hg => ?_, fun H hg => ?_, fun _ _ _ _ _ _ y => y⟩, fun H av r => ?_, fun i H x H' av d hav r y e => ?_⟩
            · obtain ⟨ys, zs, e1, e2, q1, q2⟩ := hg
              rw [zipD_length] at hi
              have h1 : i < ys.length := by omega
              have h2 : i < zs.length := by omega
              exact ⟨ys, zs, ys[i], zs[i], .inl (.inl q1), .inl (.inl q2), by simp [h1], by simp [h2]⟩
            · obtain ⟨ys, zs, e1, e2, q1, q2⟩ := hg
              exact ⟨ys, zs, .inl (.inl q1), .inl (.inl q2), by rw [zipD_length]; omega⟩
            · obtain ⟨r1, r2⟩ := repL2 r
              cases r1 with
              | lst q1 _ l1 =>
                cases r2 with
                | lst q2 _ l2 => exact ⟨_, _, l1.length, l2.length, q1, q2⟩
            · obtain ⟨T, u, w, rfl, hT, rfl, hu, hw⟩ := y
              obtain ⟨x1, y1, g1, g2, rfl⟩ := zipD_get e
              obtain ⟨r1, r2⟩ := repL2 r
              cases r1 with
              | lst q1 _ l1 =>
                cases r2 with
                | lst q2 _ l2 =>
                  obtain ⟨d1, k1, t1⟩ := l1.get' (hu _ (.inl (.inl q1)))
                  obtain ⟨d2, k2, t2⟩ := l2.get' (hw _ (.inl (.inl q2)))
                  rw [g1] at k1; cases k1
                  rw [g2] at k2; cases k2
                  exact pair_rep hT t1 t2
  · rename_i ds es ρ1 s2 h
    cases e1
    refine ⟨H0, O, A, P, ρ, s1, _, _, _, r, h, fun vs H' ex r' rl hx ht => ?_⟩
    have rl0 := rl
    cases rl with
    | cons rl1 rl2 =>
      cases rl2 with
      | cons rl2 rl3 =>
        cases rl3
        cases rl1 with
        | tup hp rl =>
          rename_i p xs
          cases rl2 with
          | tup hp' rl' =>
            rename_i p' xs'
            refine ⟨p, p', xs, xs', rfl, .inr ⟨hp, hp', q _ H' _ _ ex r' rl0 hx ht ?_⟩⟩
            refine ⟨fun H => ∃ ys zs, ys.length = ds.length ∧ zs.length = es.length ∧ SqT X.K H p ys ∧ SqT X.K H p' zs, (RZ.ItzT X.K p p').yld, ⟨fun i H hi hg => ?_, fun H hg => ?_, fun _ _ _ _ _ _ y => y⟩, fun H av r => ?_, fun i H x H' av d hav r y e => ?_⟩
            · obtain ⟨ys, zs, e1, e2, q1, q2⟩ := hg
              rw [zipD_length] at hi
              have h1 : i < ys.length := by omega
              have h2 : i < zs.length := by omega
              exact ⟨ys, zs, ys[i], zs[i], q1, q2, by simp [h1], by simp [h2]⟩
            · obtain ⟨ys, zs, e1, e2, q1, q2⟩ := hg
              exact ⟨ys, zs, q1, q2, by rw [zipD_length]; omega⟩
            · obtain ⟨r1, r2⟩ := repL2 r
              cases r1 with
              | tup q1 l1 =>
                cases r2 with
                | tup q2 l2 => exact ⟨_, _, l1.length, l2.length, q1, q2⟩
            · obtain ⟨T, u, w, rfl, hT, rfl, hu, hw⟩ := y
              obtain ⟨x1, y1, g1, g2, rfl⟩ := zipD_get e
              obtain ⟨r1, r2⟩ := repL2 r
              cases r1 with
              | tup q1 l1 =>
                cases r2 with
                | tup q2 l2 =>
                  obtain ⟨d1, k1, t1⟩ := l1.get' (hu _ q1)
                  obtain ⟨d2, k2, t2⟩ := l2.get' (hw _ q2)
                  rw [g1] at k1; cases k1
                  rw [g2] at k2; cases k2
                  exact pair_rep hT t1 t2
  · cases e1
/-! ### list comprehensions -/
def yesB : EvB S := fun ρ s => some (true, ρ, s)
def turns (own : List Nat) (tg : D → En → Option En) (cond : EvB S) (elt : Ev S) : List D → List D → En → S → Option (List D × En × S)
  | [], acc, ρ, s => some (acc, ρ, s)
  | d :: ds, acc, ρ, s => match tg d (wipeE ρ own) with
    | some ρ1 => match cond ρ1 s with
      | some (true, ρ2, s2) => match elt ρ2 s2 with
        | some (y, ρ3, s3) => if acc.length < sizeLine then turns own tg cond elt ds (acc ++ [y]) (if noL y then ρ3 else freeze ρ3) s3 else none
        | none => none
      | some (false, ρ2, s2) => turns own tg cond elt ds acc ρ2 s2
      | none => none
    | none => none
def noOwn (own : List Nat) (ρ : En) : Bool := own.all fun i => match ρ[i]? with
  | some (.own _ _) => false
  | _ => true
def compF (own : List Nat) (it : EvL S) (tg : D → En → Option En) (cond : EvB S) (elt : Ev S) : Ev S := fun ρ s => match it ρ s with
  | some (items, ρ1, s1) => if noOwn own ρ1 then match turns own tg cond elt items [] ρ1 s1 with
      | some (acc, ρ2, s2) => some (.lst acc, backE ρ1 own (wipeE ρ2 own), s2)
      | none => none
    else none
  | none => none
theorem wipe_ext {σ σ' : L2.St} : ∀ {vs : List Nat}, σ.length = σ'.length → (∀ i, i ∉ vs → σ[i]? = σ'[i]?) → wipe σ vs = wipe σ' vs := by
  intro vs hl h
  refine List.ext_getElem? fun i => ?_
  by_cases hi : i ∈ vs
  · have key : ∀ (τ : L2.St) (ws : List Nat), i ∈ ws → (wipe τ ws)[i]? = if i < τ.length then some none else none := by
      intro τ ws
      induction ws with
      | nil => intro z; simp at z
      | cons v ws ih =>
        intro z
        show ((wipe τ ws).set v none)[i]? = _
        by_cases hv : v = i
        · subst hv
          by_cases hlt : v < τ.length
          · rw [List.getElem?_set_self (by rw [wipe_length]; exact hlt), if_pos hlt]
          · rw [List.getElem?_eq_none (by rw [List.length_set, wipe_length]; omega), if_neg hlt]
        · rw [List.getElem?_set_ne hv]
          exact ih (by rcases List.mem_cons.mp z with z | z; exact absurd z.symm hv; exact z)
    rw [key σ vs hi, key σ' vs hi, hl]
  · rw [wipe_out hi, wipe_out hi, h i hi]
theorem wipe_wipe {σ : L2.St} {vs : List Nat} : wipe (wipe σ vs) vs = wipe σ vs := wipe_ext (wipe_length _ _) fun i hi => wipe_out hi
theorem comp_val {own gs : List Nat} {fit : EvL S} {ftg : D → En → Option En} {fc : EvB S} {fe : Ev S} {fr fr' : Bool} {K : PySem.W.Frag} (hgs : ∀ i ∈ gs, i ∈ own) {σ : L2.St} {H : Hp} {Q : VK} (h : SE K W fr (compF own fit ftg fc fe) σ H Q) :
    tLc (SI K W fit) (SG K W gs ftg) (SB K W fc) (SE K W fr' fe) own σ H Q := by
  obtain ⟨H0, O, A, P, ρ, s, d, ρ', s', r0, e, q⟩ := h
  unfold compF at e
  split at e
  · rename_i items ρ1 s1 h1
    split at e
    · rename_i hno
      split at e
      · rename_i acc ρ2 s2 h2
        cases e
        refine ⟨H0, O, A, P, ρ, s, items, ρ1, s1, r0, h1, fun J H1 vs ds ex r1 rl hx ht ok => ?_⟩
        obtain ⟨G, Y, wk, hG, hY⟩ := ok
        intro D hD
        have hval : ∀ (v : Nat) d, ρ1[v]? = some (.val d) → ∃ x, σ[v]? = some (some x) := fun v d e => let ⟨x, e1, _⟩ := r1.val v d e; ⟨x, e1⟩
        have hown : ∀ v ∈ own, ∀ t ds, ρ1[v]? ≠ some (.own t ds) := fun v hv t ds z => by
          have := List.all_eq_true.mp hno v hv
          rw [z] at this
          exact Bool.false_ne_true this
        have hl : vs.length = ds.length := rl.length
        -- what waits through the loop
        have r2 : Rel ⟨K, W, H0, O⟩ A (⟨.non, .non, ex⟩ :: (pds vs ds ex ++ (pendE ρ1 σ own ++ P))) σ H1 ρ1 s1 :=
          (Rel.pushL hx ht (r1.pendOwn own) rl).push .non hx ht
        have r3 := (r2.accNew (p := D) hD).wipe own
        refine lc_it wk (fun i H => ∃ ρi si acci, Rel ⟨K, W, H0, O⟩ ((D, acci) :: A) (⟨.non, .non, ex⟩ :: (pds vs ds ex ++ (pendE ρ1 σ own ++ P))) (wipe σ own) H (wipeE ρi own) si ∧ turns own ftg fc fe (items.drop i) acci ρi si = some (acc, ρ2, s')) ?_ ?_ ?_ ?_
        · exact ⟨ρ1, s1, [], r3, h2⟩
        · rintro i H _ ⟨ρi, si, acci, ri, _⟩
          exact hG H _ (Rel.popL hl ri.tail).1
        · rintro i x H H' hi ⟨ρi, si, acci, ri, ti⟩ y
          have hid : items[i]? = some items[i] := List.getElem?_eq_getElem hi
          have hdrop : items.drop i = items[i] :: items.drop (i + 1) := List.drop_eq_getElem_cons hi
          rw [hdrop] at ti
          obtain ⟨rlI, _⟩ := Rel.popL hl ri.tail
          obtain ⟨k, rx⟩ := hY i H x H' _ _ (fun a z => ri.avT z.1) rlI y hid
          have ri' := ri.same k
          have rp := ri'.push (p := ⟨x, items[i], ex⟩) rx ri'.hex fun a z => ri'.pet _ List.mem_cons_self a z
          unfold turns at ti
          split at ti
          · rename_i ρa ha
            refine ⟨H0, O, _, _, _, si, items[i], ex, ρa, rp, ha, fun σ2 r4 k4 l4 => ⟨?_, ?_⟩⟩
            · have := wipe_ext (σ := σ2) (σ' := wipe σ own) (vs := own) l4 fun j hj => k4 j fun z => hj (hgs j z)
              rw [this, wipe_wipe]
            · have w2 : wipe σ2 own = wipe σ own := by
                have := wipe_ext (σ := σ2) (σ' := wipe σ own) (vs := own) l4 fun j hj => k4 j fun z => hj (hgs j z)
                rw [this, wipe_wipe]
              split at ti
              · rename_i ρb sb hb
                split at ti
                · rename_i y ρc sc hc
                  split at ti
                  · rename_i hz
                    refine ⟨H0, O, _, _, ρa, si, true, ρb, sb, r4, hb, fun H5 r5 => iteT ?_⟩
                    refine ⟨H0, O, _, _, ρb, sb, y, ρc, sc, r5, hc, fun v H6 ex6 r6 _ => ?_⟩
                    have fin : ∀ ρd, Rel ⟨K, W, H0, O⟩ ((D, acci) :: A) (⟨.non, .non, ex⟩ :: (pds vs ds ex ++ (pendE ρ1 σ own ++ P))) σ2 H6 ρd sc → Rep K W.tok H6 (avL ⟨K, W, H0, O⟩ ((D, acci) :: A) σ2 ρd) v y → turns own ftg fc fe (items.drop (i + 1)) (acci ++ [y]) ρd sc = some (acc, ρ2, s') →
                        ∃ acc', H6 D = some (.lst acc') ∧ acc'.length < sizeLine ∧ ∃ ρi si acci, Rel ⟨K, W, H0, O⟩ ((D, acci) :: A) (⟨.non, .non, ex⟩ :: (pds vs ds ex ++ (pendE ρ1 σ own ++ P))) (wipe σ own) (upd H6 D (.lst (acc' ++ [v]))) (wipeE ρi own) si ∧ turns own ftg fc fe (items.drop (i + 1)) acci ρi si = some (acc, ρ2, s') := fun ρd rd ry td => by
                      obtain ⟨xs, hp, hxs, _⟩ := rd.acc D acci List.mem_cons_self
                      refine ⟨xs, hp, by rw [hxs.length]; exact hz, ρd, sc, acci ++ [y], ?_, td⟩
                      have := (rd.accSet (xs' := xs ++ [v]) (ds' := acci ++ [y]) (hxs.append (.cons ry .nil))).wipe own
                      rwa [w2] at this
                    by_cases hy : noL y = true
                    · rw [if_pos hy] at ti
                      exact fin ρc r6.tail (r6.head.free hy) ti
                    · rw [if_neg hy] at ti
                      exact fin (freeze ρc) r6.tail.freeze (r6.headO.mono fun a z => freeze_avL z) ti
                  · cases ti
                · cases ti
              · rename_i ρb sb hb
                refine ⟨H0, O, _, _, ρa, si, false, ρb, sb, r4, hb, fun H5 r5 => iteF ?_⟩
                have := r5.wipe own
                rw [w2] at this
                exact ⟨ρb, sb, acci, this, ti⟩
              · cases ti
          · cases ti
        · rintro H ⟨ρi, si, acci, ri, ti⟩
          rw [List.drop_length] at ti
          cases ti
          obtain ⟨xs, hp, r5, rl5⟩ := ri.accOut
          have r6 : Rel ⟨K, W, H0, O⟩ A (pendE ρ1 σ own ++ P) (wipe σ own) (less H D) (wipeE ρ2 own) s' := (Rel.popL hl r5.tail).2
          have r7 := Rel.back hval hown r6
          rw [backS_eq (wipe_length _ _) fun i hi => wipe_out hi] at r7
          have hlk : ∀ a, lockA σ (backE ρ1 own (wipeE ρ2 own)) a → lockA (wipe σ own) (wipeE ρ2 own) a := by
            rintro a ⟨i, t, es, e1, e2⟩
            have bk : ∀ (vs : List Nat) (τ : En), (∀ v ∈ vs, ∀ t ds, ρ1[v]? ≠ some (.own t ds)) → (backE ρ1 vs τ)[i]? = some (.own t es) → i ∉ vs ∧ τ[i]? = some (.own t es) := by
              intro vs
              induction vs with
              | nil => intro τ _ z; exact ⟨by simp, z⟩
              | cons v vs ih =>
                intro τ ho z
                obtain ⟨h1, h2⟩ := ih _ (fun w hw => ho w (List.mem_cons_of_mem _ hw)) z
                obtain ⟨h3, h4⟩ := set_own (fun t ds z => by
                  have hv := ho v List.mem_cons_self
                  rw [List.getD_eq_getElem?_getD] at z
                  cases h : ρ1[v]? with
                  | none => rw [h] at z; exact nomatch z
                  | some y => rw [h] at z; exact hv t ds (by rw [h]; exact congrArg some z)) h2
                exact ⟨by simp only [List.mem_cons, not_or]; exact ⟨h3, h1⟩, h4⟩
            obtain ⟨h1, h2⟩ := bk own _ hown e1
            exact ⟨i, t, es, h2, by rw [wipe_out h1]; exact e2⟩
          have rl6 : RepL K W.tok (less H D) (fun a => avL ⟨K, W, H0, O⟩ A σ (backE ρ1 own (wipeE ρ2 own)) a ∧ ¬ noEx a) xs acc := rl5.mono fun a z => by
            rcases z.1 with z | z | z | z
            · exact .inl z
            · exact .inr (.inl z)
            · exact .inr (.inr (.inl (hlk a z)))
            · exact .inr (.inr (.inr z))
          have eH : upd (less H D) D (.lst xs) = H := less_upd hp
          have fin := fin_val (fr := fr) r7 (fun a _ (z : noEx a) => z) (fun a (z : noEx a) => z.elim) q
          have := VQ.lst fin (fun a z => r7.avT z.1) rl6 (p := D) less_self
          rwa [eH] at this
      · cases e
    · cases e
  · cases e
theorem se_comp {own : List (Str × Nat)} {gs : List Nat} {elt iter : Expr} {ifs : List Expr} {scope : Scope} {fit : EvL S} {ftg : D → En → Option En} {fc : EvB S} {fe : Ev S} {fr : Bool} (hc : X.calm = true) (hN : X.N.Nodup) (hi : PI X tg iter (SI X.K W fit)) (ok : BlkOk X.N X.env.scope scope own)
    (hg : ∀ (s : Shared) (H : Hp) (C : Addr) (cl : List (Str × Addr)) (fp : List Addr), PG (X.blk s H scope (compEnvC scope cl C X.env) fp) tg (SG X.K W gs ftg)) (hgs : ∀ i ∈ gs, i ∈ own.map (·.2))
    (ht : ∀ (s : Shared) (H : Hp) (C : Addr) (cl : List (Str × Addr)) (fp : List Addr), PTs (X.blk s H scope (compEnvC scope cl C X.env) fp) ifs (SB X.K W fc))
    (he : ∀ (s : Shared) (H : Hp) (C : Addr) (cl : List (Str × Addr)) (fp : List Addr), PE (X.blk s H scope (compEnvC scope cl C X.env) fp) elt (SE X.K W fr fe)) (hs : ∀ x, foldedSetIterable iter X.env x = pure x) :
    PE X (.ListComp elt [⟨tg, iter, ifs, 0⟩] scope pos) (SE X.K W true (compF (own.map (·.2)) fit ftg fc fe)) := (pe_lc hc hN hi ok hg ht he hs).imp fun σ H Q q => comp_val hgs q
theorem sbs_nil : PTs X [] (SB X.K W yesB) := ⟨fun pins s σ H Q I q => pts_nil.run pins s σ H Q I (by
  obtain ⟨H0, O, A, P, ρ, s1, k, ρ', s', r, e, q⟩ := q
  cases e
  exact q H r)⟩
theorem sbs_one {f : EvB S} (h : PT X c (SB X.K W f)) : PTs X [c] (SB X.K W f) := pts_one h
end
end L3
end
section
set_option Elab.async false
set_option linter.all false
set_option maxRecDepth 100000
set_option autoImplicit false
/-! L3i: a frame's own lists changed; statements, loops, defs over pure data (own work). -/
namespace L3
open PySem PySem.Spec PyProof.Rows L2
inductive Out where
  | nx | bk | ct | rt (d : D)
  deriving Inhabited
abbrev Ss (S : Type) := En → S → Option (Out × En × S)
section
variable {S : Type} {X : Cx} {W : Wd S} {e a b c tg : Expr} {es : List Expr} {pos : Pos}
/-! ### own lists -/
def appendF (i : Nat) (g : EvL S) : Ev S := fun ρ s => match ρ[i]? with
  | some (.own _ _) => match g ρ s with
    | some ([y], ρ1, s1) => match ρ1[i]? with
      | some (.own false ds) => if ds.length < sizeLine then some (.non, (if noL y then ρ1 else freeze ρ1).set i (.own false (ds ++ [y])), s1) else none
      | _ => none
    | _ => none
  | _ => none
theorem tyList {K : PySem.W.Frag} {H : Hp} {p : Addr} {xs : List V} (h : H p = some (.lst xs)) : tyV K "list" (.ref p) H := .inl ⟨rfl, _, .inl (.inl h)⟩
theorem freeze_set_own {ρ : En} {i : Nat} {ds : List D} (h : ρ[i]? = some (.own false ds)) : (freeze ρ)[i]? = some (.own false ds) := by rw [freeze_get, h]; rfl
theorem se_append {i : Nat} {x : Str} {px pa : Pos} {g : EvL S} (hx : PE X (.Name x px) (tVar i)) (ha : PA X [e] (SL X.K W g)) (hbase : attributeBase (.Name x px) "append" X.env (eval (.Name x px) X.env) = eval (.Name x px) X.env)
    (hfew : ((backTo pos (starEach [e] X.env)).all (fun x => !x.1) && (backToKw pos (keywordEach [] X.env)).all (fun x => x.1.isSome) && decide (([e] : List Expr).length + ([] : List Keyword).length + (if ([] : List Keyword).isEmpty then 0 else 1) < 30)) = true)
    (hline : (pa.endLine == pos.line) = true) (hs : starEach [e] X.env = (false, eval e X.env) :: starEach [] X.env) : PE X (.Call (.Attribute (.Name x px) "append" pa) [e] [] pos) (SE X.K W false (appendF i g)) :=
  (pe_bm PySem.F.plainAttrs_list PySem.F.slot_list_append PySem.F.type_list_append mt_append hx ha hbase hfew hline hs rfl).imp fun σ H Q q => by
    obtain ⟨H0, O, A, P, ρ, s, d, ρ', s', r, e, q⟩ := q
    unfold appendF at e
    split at e
    · rename_i t0 ds0 h0
      obtain ⟨p, xs0, hp, hH, _, _⟩ := r.lst i _ _ h0
      refine ⟨_, hp, tyList hH, ?_⟩
      split at e
      · rename_i y ρ1 s1 h1
        split at e
        · rename_i ds h2
          split at e
          · rename_i hz
            cases e
            refine ⟨H0, O, A, P, ρ, s, [y], ρ1, _, r, h1, fun vs H1 ex r1 rl hx ht => ?_⟩
            cases rl with
            | cons ry rl =>
              rename_i v vs
              cases rl
              obtain ⟨p', xs, hp', hH', hxs, _⟩ := r1.lst i _ _ h2
              rw [hp] at hp'; cases hp'
              refine ⟨p, xs, v, rfl, rfl, hH', by rw [hxs.length]; exact hz, ?_⟩
              have fin : ∀ ρd, Rel ⟨X.K, W, H0, O⟩ A P σ H1 ρd s' → ρd[i]? = some (.own false ds) → Rep X.K W.tok H1 (avL ⟨X.K, W, H0, O⟩ A σ ρd) v y → Rel ⟨X.K, W, H0, O⟩ A (⟨.non, .non, noEx⟩ :: P) σ (upd H1 p (.lst (xs ++ [v]))) (ρd.set i (.own false (ds ++ [y]))) s' := fun ρd rd hd ry => by
                obtain ⟨p2, xs2, hp2, hH2, hxs2, _⟩ := rd.lst i _ _ hd
                rw [hp] at hp2; cases hp2
                rw [hH'] at hH2; cases hH2
                exact (rd.write hd hp (hxs2.append (.cons ry .nil))).push .non (fun _ _ z => z) fun _ z => z.elim
              by_cases hy : noL y = true
              · rw [if_pos hy] at q
                exact q .non _ noEx (fin ρ1 r1 h2 (ry.free hy)) fun z => Bool.noConfusion z
              · rw [if_neg hy] at q
                refine q .non _ noEx (fin (freeze ρ1) r1.freeze (freeze_set_own h2) (ry.mono fun a z => ?_)) fun z => Bool.noConfusion z
                have := freeze_avL z
                exact ⟨avO_avL this, hx a this⟩
          · cases e
        · cases e
      · cases e
    · cases e
def popF (i : Nat) : Ev S := fun ρ s => match ρ[i]? with
  | some (.own false ds) => match ds[ds.length - 1]? with
    | some y => some (y, ρ.set i (.own false ds.dropLast), s)
    | none => none
  | _ => none
theorem popped {R : Fx S} {A : Acc} {P : List Pd} {σ : L2.St} {H : Hp} {ρ : En} {s : S} {i : Nat} {p : Addr} {xs' : List V} {ds ds' : List D} {v : V} {y : D} (r : Rel R A P σ H ρ s) (hi : ρ[i]? = some (.own false ds)) (hp : σ[i]? = some (some (.ref p)))
    (rx : RepL R.K R.W.tok H (avL R A σ ρ) xs' ds') (ry : Rep R.K R.W.tok H (avL R A σ ρ) v y) : Rel R A (⟨v, y, noEx⟩ :: P) σ (upd H p (.lst xs')) (ρ.set i (.own false ds')) s := by
  have r1 := r.push (p := ⟨v, y, noEx⟩) (ry.mono fun a h => h.1) (fun _ _ z => z) fun _ z => z.elim
  exact r1.write hi hp rx
theorem se_pop {i : Nat} {x : Str} {px pa : Pos} (hx : PE X (.Name x px) (tVar i)) (hbase : attributeBase (.Name x px) "pop" X.env (eval (.Name x px) X.env) = eval (.Name x px) X.env) (hline : (pa.endLine == pos.line) = true) :
    PE X (.Call (.Attribute (.Name x px) "pop" pa) [] [] pos) (SE X.K W false (popF i)) :=
  (pe_bm0 PySem.F.plainAttrs_list PySem.F.slot_list_pop PySem.F.type_list_pop mt_pop hx hbase hline).imp fun σ H Q q => by
    obtain ⟨H0, O, A, P, ρ, s, d, ρ', s', r, e, q⟩ := q
    unfold popF at e
    split at e
    · rename_i ds h0
      split at e
      · rename_i y h1
        cases e
        obtain ⟨p, xs, hp, hH, hxs, _⟩ := r.lst i _ _ h0
        obtain ⟨v, hv, rv⟩ := hxs.get h1
        refine ⟨_, hp, tyList hH, p, xs, v, rfl, rfl, hH, by rw [hxs.length]; exact hv, ?_⟩
        exact q v _ noEx (popped r h0 hp hxs.dropLast rv) fun z => Bool.noConfusion z
      · cases e
    · cases e
def popAtF (i : Nat) (g : EvL S) : Ev S := fun ρ s => match ρ[i]? with
  | some (.own _ _) => match g ρ s with
    | some ([.int j], ρ1, s1) => match ρ1[i]? with
      | some (.own false ds) => if 0 ≤ j ∧ j < 2 ^ 63 then match ds[j.toNat]? with
          | some y => some (y, ρ1.set i (.own false (ds.eraseIdx j.toNat)), s1)
          | none => none
        else none
      | _ => none
    | _ => none
  | _ => none
theorem seqIx {j : Int} {n : Nat} (h0 : 0 ≤ j) (h : j.toNat < n) : seqIndex? j n = some j.toNat := by
  have : ixN n j = some j.toNat := by
    unfold ixN
    rw [if_pos h0, if_pos (by omega)]
  exact (ixN_seq this).1
theorem se_popAt {i : Nat} {x : Str} {px pa : Pos} {g : EvL S} (hx : PE X (.Name x px) (tVar i)) (ha : PA X [e] (SL X.K W g)) (hbase : attributeBase (.Name x px) "pop" X.env (eval (.Name x px) X.env) = eval (.Name x px) X.env)
    (hfew : ((backTo pos (starEach [e] X.env)).all (fun x => !x.1) && (backToKw pos (keywordEach [] X.env)).all (fun x => x.1.isSome) && decide (([e] : List Expr).length + ([] : List Keyword).length + (if ([] : List Keyword).isEmpty then 0 else 1) < 30)) = true)
    (hline : (pa.endLine == pos.line) = true) (hs : starEach [e] X.env = (false, eval e X.env) :: starEach [] X.env) : PE X (.Call (.Attribute (.Name x px) "pop" pa) [e] [] pos) (SE X.K W false (popAtF i g)) :=
  (pe_bm PySem.F.plainAttrs_list PySem.F.slot_list_pop PySem.F.type_list_pop mt_popAt hx ha hbase hfew hline hs rfl).imp fun σ H Q q => by
    obtain ⟨H0, O, A, P, ρ, s, d, ρ', s', r, e, q⟩ := q
    unfold popAtF at e
    split at e
    · rename_i t0 ds0 h0
      obtain ⟨p, xs0, hp, hH, _, _⟩ := r.lst i _ _ h0
      refine ⟨_, hp, tyList hH, ?_⟩
      split at e
      · rename_i j ρ1 s1 h1
        split at e
        · rename_i ds h2
          split at e
          · rename_i hj
            split at e
            · rename_i y h3
              cases e
              refine ⟨H0, O, A, P, ρ, s, [.int j], ρ1, _, r, h1, fun vs H1 ex r1 rl hx ht => ?_⟩
              cases rl with
              | cons ry rl =>
                cases rl
                cases ry
                obtain ⟨p', xs, hp', hH', hxs, _⟩ := r1.lst i _ _ h2
                rw [hp] at hp'; cases hp'
                obtain ⟨v, hv, rv⟩ := hxs.get h3
                have hlt : j.toNat < xs.length := (List.getElem?_eq_some_iff.mp hv).1
                refine ⟨p, xs, j, j.toNat, v, rfl, rfl, hH', by omega, hj.2, seqIx hj.1 hlt, hv, ?_⟩
                exact q v _ noEx (popped r1 h2 hp (hxs.erase _) rv) fun z => Bool.noConfusion z
            · cases e
          · cases e
        · cases e
      · cases e
    · cases e
/-! ### statements -/
def OutOk (R : Fx S) (P : List Pd) (E : Ends) (o : Out) (ρ' : En) (s' : S) : Prop := match o with
  | .nx => ∀ σ' H', Rel R [] P σ' H' ρ' s' → E.nx σ' H'
  | .bk => ∀ σ' H', Rel R [] P σ' H' ρ' s' → E.bk σ' H'
  | .ct => ∀ σ' H', Rel R [] P σ' H' ρ' s' → E.ct σ' H'
  | .rt d => ∀ (v : V) (σ' : L2.St) (H' : Hp) (ex : Addr → Prop), Rel R [] (⟨v, d, ex⟩ :: P) σ' H' ρ' s' → E.rt v H'
def SS (K : PySem.W.Frag) (W : Wd S) (g : Ss S) : TS := fun E σ H => ∃ (H0 : Hp) (O : Addr → Prop) (P : List Pd) (ρ : En) (s : S) (o : Out) (ρ' : En) (s' : S), Rel ⟨K, W, H0, O⟩ [] P σ H ρ s ∧ g ρ s = some (o, ρ', s') ∧ OutOk ⟨K, W, H0, O⟩ P E o ρ' s'
variable {st : Stmt} {sts : List Stmt}
theorem _root_.L2.PS.imp {t t' : TS} (h : PS X st t) (i : ∀ E σ H, t' E σ H → t E σ H) : PS X st t' := ⟨fun pins s σ H E I q => h.run pins s σ H E I (i E σ H q)⟩
theorem _root_.L2.PSs.imp {t t' : TS} (h : PSs X sts t) (i : ∀ E σ H, t' E σ H → t E σ H) : PSs X sts t' := ⟨fun pins s σ H E I q => h.run pins s σ H E I (i E σ H q)⟩
def skipF : Ss S := fun ρ s => some (.nx, ρ, s)
def seqF (g h : Ss S) : Ss S := fun ρ s => match g ρ s with
  | some (.nx, ρ', s') => h ρ' s'
  | r => r
theorem sss_nil : PSs X [] (SS X.K W skipF) := pss_nil.imp fun E σ H q => by
  obtain ⟨H0, O, P, ρ, s, o, ρ', s', r, e, q⟩ := q
  cases e
  exact q σ H r
theorem sss_cons {g h : Ss S} (h1 : PS X st (SS X.K W g)) (h2 : PSs X sts (SS X.K W h)) : PSs X (st :: sts) (SS X.K W (seqF g h)) := (pss_cons h1 h2).imp fun E σ H q => by
  obtain ⟨H0, O, P, ρ, s, o, ρ', s', r, e, q⟩ := q
  unfold seqF at e
  split at e
  · rename_i ρ1 s1 h1
    exact ⟨H0, O, P, ρ, s, .nx, ρ1, s1, r, h1, fun σ1 H1 r1 => ⟨H0, O, P, ρ1, s1, o, ρ', s', r1, e, q⟩⟩
  · rename_i hne
    refine ⟨H0, O, P, ρ, s, o, ρ', s', r, e, ?_⟩
    cases o with
    | nx => exact absurd e (hne ρ' s')
    | bk => exact q
    | ct => exact q
    | rt d => exact q
theorem sss_one {g : Ss S} (h1 : PS X st (SS X.K W g)) : PSs X [st] (SS X.K W g) := pss_one h1
theorem ss_pass : PS X (.Pass pos) (SS X.K W skipF) := ps_pass.imp fun E σ H q => by
  obtain ⟨H0, O, P, ρ, s, o, ρ', s', r, e, q⟩ := q
  cases e
  exact q σ H r
def brkF : Ss S := fun ρ s => some (.bk, ρ, s)
def cntF : Ss S := fun ρ s => some (.ct, ρ, s)
theorem ss_break : PS X (.Break pos) (SS X.K W brkF) := ps_break.imp fun E σ H q => by
  obtain ⟨H0, O, P, ρ, s, o, ρ', s', r, e, q⟩ := q
  cases e
  exact q σ H r
theorem ss_continue : PS X (.Continue pos) (SS X.K W cntF) := ps_continue.imp fun E σ H q => by
  obtain ⟨H0, O, P, ρ, s, o, ρ', s', r, e, q⟩ := q
  cases e
  exact q σ H r
def nevF : Ss S := fun _ _ => none
theorem ss_never : PS X st (SS X.K W nevF) := ps_never.imp fun E σ H q => by
  obtain ⟨H0, O, P, ρ, s, o, ρ', s', r, e, q⟩ := q
  cases e
def exprF (f : Ev S) : Ss S := fun ρ s => match f ρ s with
  | some (_, ρ', s') => some (.nx, thaw ρ ρ', s')
  | none => none
theorem ss_expr {f : Ev S} {fr : Bool} (he : PE X e (SE X.K W fr f)) (hs : swapsWith e none pos.line X.env = pure false) : PS X (.Expr e pos) (SS X.K W (exprF f)) := (ps_expr he hs).imp fun E σ H q => by
  obtain ⟨H0, O, P, ρ, s, o, ρ', s', r, e, q⟩ := q
  unfold exprF at e
  split at e
  · rename_i d ρ1 s1 h1
    cases e
    exact ⟨H0, O, [], P, ρ, s, d, ρ1, _, r, h1, fun v H' ex r' _ => q σ H' (Rel.thaw0 r.pex r'.tail)⟩
  · cases e
def retF (f : Ev S) : Ss S := fun ρ s => match f ρ s with
  | some (d, ρ', s') => some (.rt d, ρ', s')
  | none => none
theorem ss_ret {f : Ev S} {fr : Bool} (he : PE X e (SE X.K W fr f)) : PS X (.Return (some e) pos) (SS X.K W (retF f)) := (ps_ret he).imp fun E σ H q => by
  obtain ⟨H0, O, P, ρ, s, o, ρ', s', r, e, q⟩ := q
  unfold retF at e
  split at e
  · rename_i d ρ1 s1 h1
    cases e
    exact ⟨H0, O, [], P, ρ, s, d, ρ', _, r, h1, fun v H' ex r' _ => q v σ H' ex r'⟩
  · cases e
def retNF : Ss S := fun ρ s => some (.rt .non, ρ, s)
theorem ss_retN : PS X (.Return none pos) (SS X.K W retNF) := ps_retN.imp fun E σ H q => by
  obtain ⟨H0, O, P, ρ, s, o, ρ', s', r, e, q⟩ := q
  cases e
  exact q .non σ H noEx (r.push .non (fun _ _ z => z) fun _ z => z.elim)
def ifF (t : EvB S) (g h : Ss S) : Ss S := fun ρ s => match t ρ s with
  | some (true, ρ', s') => g ρ' s'
  | some (false, ρ', s') => h ρ' s'
  | none => none
theorem ss_if {t : EvB S} {g h : Ss S} {x y : List Stmt} (hc : PT X c (SB X.K W t)) (h1 : PSs X x (SS X.K W g)) (h2 : PSs X y (SS X.K W h)) : PS X (.If c x y pos) (SS X.K W (ifF t g h)) := (ps_if hc h1 h2).imp fun E σ H q => by
  obtain ⟨H0, O, P, ρ, s, o, ρ', s', r, e, q⟩ := q
  unfold ifF at e
  split at e
  · rename_i ρ1 s1 h1
    exact ⟨H0, O, [], P, ρ, s, true, ρ1, s1, r, h1, fun H1 r1 => iteT ⟨H0, O, P, ρ1, s1, o, ρ', s', r1, e, q⟩⟩
  · rename_i ρ1 s1 h1
    exact ⟨H0, O, [], P, ρ, s, false, ρ1, s1, r, h1, fun H1 r1 => iteF ⟨H0, O, P, ρ1, s1, o, ρ', s', r1, e, q⟩⟩
  · cases e
/-- name = e -/
def setF (fr : Bool) (i : Nat) (f : Ev S) : Ss S := fun ρ s => match f ρ s with
  | some (d, ρ', s') => match fr, d with
    | true, .lst ds => if noLs ds then (if i < ρ'.length then some (.nx, (thaw ρ ρ').set i (.own false ds), s') else none) else (putV i (.lst ds) ρ').map fun ρ2 => (.nx, ρ2, s')
    | _, d => (putV i d (if noL d then thaw ρ ρ' else ρ')).map fun ρ2 => (.nx, ρ2, s')
  | none => none
theorem setF_val {fr : Bool} {i : Nat} {f : Ev S} {K : PySem.W.Frag} {E : Ends} {σ : L2.St} {H : Hp} (h : SS K W (setF fr i f) E σ H) : tAsg (SE K W fr f) (gName i) E σ H := by
  obtain ⟨H0, O, P, ρ, s, o, ρ', s', r, e, q⟩ := h
  unfold setF at e
  split at e
  · rename_i d ρ1 s1 h1
    refine ⟨H0, O, [], P, ρ, s, d, ρ1, s1, r, h1, fun v H' ex r' hf => ?_⟩
    show E.nx (σ.set i (some v)) H'
    have gen : ∀ ρ2, putV i d (if noL d then L3.thaw ρ ρ1 else ρ1) = some ρ2 → Rel ⟨K, W, H0, O⟩ [] P (σ.set i (some v)) H' ρ2 s1 := fun ρ2 hp => by
      by_cases hd : noL d = true
      · rw [if_pos hd] at hp
        exact (Rel.thaw r.pex r' hd).putV hp
      · rw [if_neg hd] at hp
        exact r'.putV hp
    split at e
    · rename_i ds
      split at e
      · rename_i hn
        split at e
        · rename_i hi
          cases e
          obtain ⟨p, xs, H1, ev, hp, eH, r1, rl, hx, ht⟩ := hf rfl ds rfl
          subst ev
          subst eH
          have r2 := Rel.thaw0 r.pex r1
          exact q _ _ (r2.storeOwn (by rw [thaw_length]; exact hi) hp (rl.free hn))
        · cases e
      · rename_i hn
        cases h2 : putV i (.lst ds) ρ1 with
        | none => rw [h2] at e; cases e
        | some ρ2 =>
          rw [h2] at e
          cases e
          refine q _ _ (gen _ ?_)
          rw [if_neg (by simp [noL])]
          exact h2
    · cases h2 : putV i d (if noL d then L3.thaw ρ ρ1 else ρ1) with
      | none => rw [h2] at e; cases e
      | some ρ2 =>
        rw [h2] at e
        cases e
        exact q _ _ (gen _ h2)
  · cases e
theorem ss_set {i : Nat} {x : Str} {f : Ev S} {fr : Bool} {px : Pos} (hN : X.N.Nodup) (hi : X.N[i]? = some x) (hx : Loc X.env.scope x) (he : PE X e (SE X.K W fr f)) (hs : swapsWith e (some (.Name x px)) pos.line X.env = pure false) (hf : X.fn x = true ∨ X.env.scope.names.lookup x = some .local) :
    PS X (.Assign [.Name x px] e pos) (SS X.K W (setF fr i f)) := (ps_set hN hi hx he hs hf).imp fun E σ H q => setF_val q
theorem ss_setComp {i : Nat} {x : Str} {px cpos : Pos} {own : List (Str × Nat)} {gs : List Nat} {elt iter : Expr} {ifs : List Expr} {scope : Scope} {fit : EvL S} {ftg : D → En → Option En} {fc : EvB S} {fe : Ev S} {fr : Bool} (hc : X.calm = true) (hN : X.N.Nodup) (hy : X.N[i]? = some x)
    (hyl : X.env.scope.names.lookup x = some .local) (hsw : swapsWith (.ListComp elt [⟨tg, iter, ifs, 0⟩] scope cpos) (some (.Name x px)) pos.line X.env = pure true) (hi : PI X tg iter (SI X.K W fit)) (ok : BlkOk X.N X.env.scope scope own)
    (hg : ∀ (s : Shared) (H : Hp) (C : Addr) (cl : List (Str × Addr)) (fp : List Addr), PG (X.blk s H scope (compEnvC scope cl C X.env) fp) tg (SG X.K W gs ftg)) (hgs : ∀ i ∈ gs, i ∈ own.map (·.2))
    (ht : ∀ (s : Shared) (H : Hp) (C : Addr) (cl : List (Str × Addr)) (fp : List Addr), PTs (X.blk s H scope (compEnvC scope cl C X.env) fp) ifs (SB X.K W fc))
    (he : ∀ (s : Shared) (H : Hp) (C : Addr) (cl : List (Str × Addr)) (fp : List Addr), PE (X.blk s H scope (compEnvC scope cl C X.env) fp) elt (SE X.K W fr fe)) (hs : ∀ x, foldedSetIterable iter X.env x = pure x) :
    PS X (.Assign [.Name x px] (.ListComp elt [⟨tg, iter, ifs, 0⟩] scope cpos) pos) (SS X.K W (setF true i (compF (own.map (·.2)) fit ftg fc fe))) := (ps_setLc hc hN hy hyl hsw hi ok hg ht he hs).imp fun E σ H q => by
  have h := setF_val q
  exact comp_val hgs h
/-- target = e, the target a tuple of names -/
def asgF (f : Ev S) (g : D → En → Option En) : Ss S := fun ρ s => match f ρ s with
  | some (d, ρ', s') => match g d (if noL d then thaw ρ ρ' else ρ') with
    | some ρ2 => some (.nx, ρ2, s')
    | none => none
  | none => none
theorem ss_asg {f : Ev S} {g : D → En → Option En} {vs : List Nat} {fr : Bool} (he : PE X e (SE X.K W fr f)) (hg : PG X tg (SG X.K W vs g)) (hs : swapsWithSole [tg] e pos.line X.env = pure false) (hw : swappedStores [tg] e X.env = pure none)
    (h1 : (assignEach [tg] X.env).map (·.2) = [assign tg X.env]) : PS X (.Assign [tg] e pos) (SS X.K W (asgF f g)) := (ps_asg he hg hs hw h1).imp fun E σ H q => by
  obtain ⟨H0, O, P, ρ, s, o, ρ', s', r, e, q⟩ := q
  unfold asgF at e
  split at e
  · rename_i d ρ1 s1 h1
    split at e
    · rename_i ρ2 h2
      cases e
      refine ⟨H0, O, [], P, ρ, s, d, ρ1, _, r, h1, fun v H' ex r' _ => ?_⟩
      by_cases hd : noL d = true
      · rw [if_pos hd] at h2
        exact ⟨H0, O, [], P, _, _, d, _, ρ', Rel.thaw r.pex r' hd, h2, fun σ' r2 _ _ => q σ' H' r2⟩
      · rw [if_neg hd] at h2
        exact ⟨H0, O, [], P, _, _, d, ex, ρ', r', h2, fun σ' r2 _ _ => q σ' H' r2⟩
    · cases e
  · cases e
/-! ### loops -/
def loopF (tg : D → En → Option En) (body : Ss S) : List D → En → S → Option (Out × En × S)
  | [], ρ, s => some (.nx, ρ, s)
  | d :: ds, ρ, s => match tg d ρ with
    | some ρ1 => match body ρ1 s with
      | some (.nx, ρ2, s2) => loopF tg body ds ρ2 s2
      | some (.ct, ρ2, s2) => loopF tg body ds ρ2 s2
      | some (.bk, ρ2, s2) => some (.nx, ρ2, s2)
      | some (.rt d, ρ2, s2) => some (.rt d, ρ2, s2)
      | none => none
    | none => none
def forF (tg : D → En → Option En) (it : EvL S) (body : Ss S) : Ss S := fun ρ s => match it ρ s with
  | some (items, ρ1, s1) => loopF tg body items (freeze ρ1) s1
  | none => none
theorem loopF_out {tg : D → En → Option En} {body : Ss S} : ∀ {items : List D} {ρ ρ' : En} {s s' : S} {o : Out}, loopF tg body items ρ s = some (o, ρ', s') → o = .nx ∨ ∃ d, o = .rt d
  | [], ρ, ρ', s, s', o, h => by cases h; exact .inl rfl
  | d :: ds, ρ, ρ', s, s', o, h => by
    unfold loopF at h
    split at h
    · split at h
      · exact loopF_out h
      · exact loopF_out h
      · cases h; exact .inl rfl
      · cases h; exact .inr ⟨_, rfl⟩
      · cases h
    · cases h
theorem ss_for {it : Expr} {body : List Stmt} {fit : EvL S} {ftg : D → En → Option En} {gs : List Nat} {fb : Ss S} (hp : PassesOwn (model X.prog X.w) X.A X.env X.xe) (hc : X.calm = true) (hi : PI X tg it (SI X.K W fit)) (hg : PG X tg (SG X.K W gs ftg)) (hb : PSs X body (SS X.K W fb))
    (hs : ∀ x, foldedSetIterable it X.env x = pure x) : PS X (.For tg it body [] pos) (SS X.K W (forF ftg fit fb)) := (ps_for hp hc hi hg hb hs).imp fun E σ H q => by
  obtain ⟨H0, O, P, ρ, s, o, ρ', s', r0, e, q⟩ := q
  unfold forF at e
  split at e
  · rename_i items ρ1 s1 h1
    refine ⟨H0, O, [], P, ρ, s, items, ρ1, s1, r0, h1, fun J H1 vs ds ex r1 rl hx ht ok => ?_⟩
    obtain ⟨G, Y, wk, hG, hY⟩ := ok
    have hl : vs.length = ds.length := rl.length
    have r2 : Rel ⟨X.K, W, H0, O⟩ [] (⟨.non, .non, ex⟩ :: (pds vs ds ex ++ P)) σ H1 (freeze ρ1) s1 := ((Rel.pushL hx ht r1 rl).push .non hx ht).freeze
    have fin : o = .nx → ∀ σ' H', Rel ⟨X.K, W, H0, O⟩ [] (⟨.non, .non, ex⟩ :: (pds vs ds ex ++ P)) σ' H' ρ' s' → E.nx σ' H' := fun eo σ' H' r => by
      subst eo
      exact q σ' H' (r.sub fun p hp => List.mem_cons_of_mem _ (List.mem_append_right _ hp))
    refine for_it wk (fun i σ' H => ∃ ρi si, Rel ⟨X.K, W, H0, O⟩ [] (⟨.non, .non, ex⟩ :: (pds vs ds ex ++ P)) σ' H ρi si ∧ loopF ftg fb (items.drop i) ρi si = some (o, ρ', s')) ?_ ?_ ?_ ?_
    · exact ⟨_, s1, r2, e⟩
    · rintro i σ' H _ ⟨ρi, si, ri, _⟩
      exact hG H _ (Rel.popL hl ri.tail).1
    · rintro i x σ' H H' hi ⟨ρi, si, ri, ti⟩ y
      have hid : items[i]? = some items[i] := List.getElem?_eq_getElem hi
      rw [List.drop_eq_getElem_cons hi] at ti
      obtain ⟨rlI, _⟩ := Rel.popL hl ri.tail
      obtain ⟨k, rx⟩ := hY i H x H' _ _ (fun a z => ri.avT z.1) rlI y hid
      have ri' := ri.same k
      have rp := ri'.push (p := ⟨x, items[i], ex⟩) rx ri'.hex fun a z => ri'.pet _ List.mem_cons_self a z
      unfold loopF at ti
      split at ti
      · rename_i ρa ha
        refine ⟨H0, O, [], _, _, si, items[i], ex, ρa, rp, ha, fun σ2 r4 _ _ => ?_⟩
        split at ti
        · rename_i ρb sb hb
          exact ⟨H0, O, _, ρa, si, .nx, ρb, sb, r4, hb, fun σ3 H3 r5 => ⟨ρb, sb, r5, ti⟩⟩
        · rename_i ρb sb hb
          exact ⟨H0, O, _, ρa, si, .ct, ρb, sb, r4, hb, fun σ3 H3 r5 => ⟨ρb, sb, r5, ti⟩⟩
        · rename_i ρb sb hb
          cases ti
          exact ⟨H0, O, _, ρa, si, .bk, _, _, r4, hb, fun σ3 H3 r5 => fin rfl σ3 H3 r5⟩
        · rename_i d ρb sb hb
          cases ti
          refine ⟨H0, O, _, ρa, si, .rt d, _, _, r4, hb, fun v σ3 H3 ex3 r5 => ?_⟩
          exact q v σ3 H3 ex3 (r5.sub fun p hp => by
            rcases List.mem_cons.mp hp with rfl | hp
            · exact List.mem_cons_self
            · exact List.mem_cons_of_mem _ (List.mem_cons_of_mem _ (List.mem_append_right _ hp)))
        · cases ti
      · cases ti
    · rintro σ' H ⟨ρi, si, ri, ti⟩
      rw [List.drop_length] at ti
      cases ti
      exact fin rfl σ' H ri
  · cases e
def whileN (t : EvB S) (body : Ss S) : Nat → En → S → Option (Out × En × S)
  | 0, _, _ => none
  | n + 1, ρ, s => match t ρ s with
    | some (false, ρ1, s1) => some (.nx, ρ1, s1)
    | some (true, ρ1, s1) => match body ρ1 s1 with
      | some (.nx, ρ2, s2) => whileN t body n ρ2 s2
      | some (.ct, ρ2, s2) => whileN t body n ρ2 s2
      | some (.bk, ρ2, s2) => some (.nx, ρ2, s2)
      | some (.rt d, ρ2, s2) => some (.rt d, ρ2, s2)
      | none => none
    | none => none
/-- while, at most n turns -/
def whileF (n : Nat) (t : EvB S) (body : Ss S) : Ss S := whileN t body n
theorem ss_while {n : Nat} {body : List Stmt} {t : EvB S} {fb : Ss S} (hp : PassesOwn (model X.prog X.w) X.A X.env X.xe) (hc : PT X c (SB X.K W t)) (hb : PSs X body (SS X.K W fb)) : PS X (.While c body [] pos) (SS X.K W (whileF n t fb)) := (ps_while hp hc hb).imp fun E σ H q => by
  obtain ⟨H0, O, P, ρ, s, o, ρ', s', r0, e, q⟩ := q
  refine ⟨fun m σ H => ∃ ρ s, Rel ⟨X.K, W, H0, O⟩ [] P σ H ρ s ∧ whileN t fb m ρ s = some (o, ρ', s'), ⟨n, ρ, s, r0, e⟩, ?_⟩
  rintro m σ1 H1 ⟨ρ1, s1, r1, e1⟩
  cases m with
  | zero => cases e1
  | succ m =>
    unfold whileN at e1
    split at e1
    · rename_i ρ2 s2 h2
      cases e1
      exact ⟨H0, O, [], P, ρ1, s1, false, _, _, r1, h2, fun H2 r2 => iteF (q σ1 H2 r2)⟩
    · rename_i ρ2 s2 h2
      refine ⟨H0, O, [], P, ρ1, s1, true, ρ2, s2, r1, h2, fun H2 r2 => iteT ⟨fun σ H => ∃ ρ s, Rel ⟨X.K, W, H0, O⟩ [] P σ H ρ s ∧ whileN t fb m ρ s = some (o, ρ', s'), fun σ' H' h => ⟨m, Nat.lt_succ_self m, h⟩, ?_⟩⟩
      split at e1
      · rename_i ρ3 s3 h3
        exact ⟨H0, O, P, ρ2, s2, .nx, ρ3, s3, r2, h3, fun σ3 H3 r3 => ⟨ρ3, s3, r3, e1⟩⟩
      · rename_i ρ3 s3 h3
        exact ⟨H0, O, P, ρ2, s2, .ct, ρ3, s3, r2, h3, fun σ3 H3 r3 => ⟨ρ3, s3, r3, e1⟩⟩
      · rename_i ρ3 s3 h3
        cases e1
        exact ⟨H0, O, P, ρ2, s2, .bk, _, _, r2, h3, fun σ3 H3 r3 => q σ3 H3 r3⟩
      · rename_i d ρ3 s3 h3
        cases e1
        exact ⟨H0, O, P, ρ2, s2, .rt d, _, _, r2, h3, fun v σ3 H3 ex r3 => q v σ3 H3 ex r3⟩
      · cases e1
    · cases e1
/-! ### a def -/
def startE (n : Nat) (ds : List D) : En := ds.map .val ++ List.replicate (n - ds.length) .non
def defF (n : Nat) (body : Ss S) : List D → S → Option (D × S) := fun ds s => match body (startE n ds) s with
  | some (.rt d, _, s') => some (d, s')
  | some (.nx, _, s') => some (.non, s')
  | _ => none
theorem start_own {n i : Nat} {ds es : List D} {t : Bool} (h : (startE n ds)[i]? = some (.own t es)) : False := by
  unfold startE at h
  by_cases hi : i < ds.length
  · rw [List.getElem?_append_left (by simpa using hi), List.getElem?_map] at h
    cases z : ds[i]? with
    | none => rw [z] at h; simp at h
    | some d => rw [z] at h; simp at h
  · rw [List.getElem?_append_right (by simpa using hi)] at h
    rw [List.getElem?_replicate] at h
    split at h
    · simp at h
    · simp at h
theorem start_val {n i : Nat} {ds : List D} {d : D} (h : (startE n ds)[i]? = some (.val d)) : ds[i]? = some d := by
  unfold startE at h
  by_cases hi : i < ds.length
  · rw [List.getElem?_append_left (by simpa using hi), List.getElem?_map] at h
    cases z : ds[i]? with
    | none => rw [z] at h; simp at h
    | some d' => rw [z] at h; simp at h; rw [h]
  · rw [List.getElem?_append_right (by simpa using hi)] at h
    rw [List.getElem?_replicate] at h
    split at h <;> simp at h
theorem def_val {K : PySem.W.Frag} {n : Nat} {N : List Str} {body : Ss S} {vs : List V} {H : Hp} {Q : VK} {E : XK} (hN : n ≤ N.length) (h : spF K W n (defF N.length body) vs H Q E) : SS K W body { nx := fun _ H' => Q .non H', rt := Q } (L2.start N vs) H := by
  obtain ⟨hn, O, ds, s, d, s', hO, hw, rl, hG, q⟩ := h
  have hl := rl.length
  have r : Rel ⟨K, W, H, O⟩ [] [] (L2.start N vs) H (startE N.length ds) s := by
    have nolock : ∀ a, ¬ lockA (L2.start N vs) (startE N.length ds) a := fun a ⟨i, t, es, e, _⟩ => start_own e
    refine ⟨?_, hw, fun a o e _ => e, hO, fun a z => ?_, fun i d e => ?_, fun i t es e => (start_own e).elim, fun a es e => (by simp at e), fun i j t u es fs a e => (start_own e).elim, fun a z => (nolock a z).elim, List.nodup_nil, fun p hp => (by simp at hp), fun p hp => (by simp at hp), fun p hp => (by simp at hp)⟩
    · unfold L2.start startE
      simp [hl]
    · obtain ⟨o, e, _⟩ := W.has hw z
      show H a ≠ none
      rw [e]; simp
    · obtain ⟨v, h1, h2⟩ := rl.get (start_val e)
      refine ⟨v, ?_, h2.mono fun a z => ?_⟩
      · unfold L2.start
        have hi : i < vs.length := (List.getElem?_eq_some_iff.mp h1).1
        rw [List.getElem?_append_left (by simpa using hi), List.getElem?_map, h1]
        rfl
      · rcases z with z | z | z | z
        · exact .inl z
        · exact .inr z
        · exact (nolock a z).elim
        · simp at z
  have fin : ∀ (v : V) (σ' : L2.St) (H' : Hp) (ρ' : En) (ex : Addr → Prop), Rel ⟨K, W, H, O⟩ [] (⟨v, d, ex⟩ :: []) σ' H' ρ' s' → Q v H' := fun v σ' H' ρ' ex r' =>
    q v H' (fun a o e n => r'.ent a o e n) r'.wd (r'.headO.mono fun a z => by
      rcases z with z | z
      · exact .inl z
      · exact .inr (.inl z))
  unfold defF at hG
  split at hG
  · rename_i d' ρ' s2 h1
    cases hG
    exact ⟨H, O, [], _, s, .rt d, ρ', _, r, h1, fun v σ' H' ex r' => fin v σ' H' ρ' ex r'⟩
  · rename_i ρ' s2 h1
    cases hG
    exact ⟨H, O, [], _, s, .nx, ρ', _, r, h1, fun σ' H' r' => fin .non σ' H' ρ' noEx (r'.push .non (fun _ _ z => z) fun _ z => z.elim)⟩
  · cases hG
/-- THE RULE for a def whose body computes g -/
theorem fn_def {P : Program} {w : World} {K : PySem.W.Frag} {mg : Str → Option Value} {base : Heap} {x qual : Str} {st : Stmt} {f : Addr} {fd : FuncData} {N ps : List Str} {k n : Nat} {g : Ss S} (F : Fun K x qual st f fd) (C : FnScope N ps (defScope st)) (hn : ps.length = n) (hN : n ≤ N.length)
    (hb : ∀ (cdv : Value) (A : Around) (outer : List Env) (s : Shared) (H : Hp) (E : XK), Room k (A.deeper (envOfC qual (defScope st) s.heap.objs.size f cdv)) → PSs (cxOf CX0 P w K mg base N qual (defScope st) f cdv A outer s H E).nox (defBody st) (SS K W g)) :
    FnOk P w K mg base CX0 (k + 1) f fd ps (spF K W n (defF N.length g)) :=
  F.ok C (fun vs H Q E h => h.1.trans hn.symm) fun cdv A outer s H vs Q E hr h => ⟨_, hb cdv A outer s H E hr, def_val hN h⟩
end
end L3
end
section
set_option Elab.async false
set_option linter.all false
set_option maxRecDepth 100000
set_option autoImplicit false
/-! L3r: defs that may ask for repr: the caller's side keeps that no repr is under way (own work). -/
namespace L3
open PySem PySem.Spec PyProof.Rows L2
/-- room, and no repr under way -/
structure RoomG (k : Nat) (A : Around) : Prop where
  rm : Room k A
  gd : A.guards = some []
theorem RoomG.mono {j k : Nat} {A : Around} (r : RoomG k A) (h : j ≤ k) : RoomG j A := ⟨r.rm.mono h, r.gd⟩
theorem RoomG.deeper {k : Nat} {A : Around} (r : RoomG (k + 1) A) (en : Env) : RoomG k (A.deeper en) := ⟨r.rm.deeper en, r.gd⟩
theorem RoomG.hu {k : Nat} {A : Around} (r : RoomG k A) : A.units + 65 < cLine := by
  have := r.rm.un
  omega
theorem RoomG.hu0 {k : Nat} {A : Around} (r : RoomG k A) : A.units + 64 < cLine := by
  have := r.rm.un
  omega
section
variable {P : Program} {w : World} {K : PySem.W.Frag} {mg : Str → Option Value} {base : Heap}
structure FnG (P : Program) (w : World) (K : PySem.W.Frag) (mg : Str → Option Value) (base : Heap) (k : Nat) (f : Addr) (fd : FuncData) (ps : List Str) (sp : Sp) : Prop where
  lng : ∀ us H Q E, sp us H Q E → us.length = ps.length
  go : ∀ (A : Around) (stk : List Env) (st : Shared) (H : Hp) (ar : Args) (ws : List Value) (us : List V) (Q : VK) (E : XK), RoomG k A → Env0 P w K mg base A stk st H → BindsTo st fd ar (ps.zip ws) → Vals us ws → sp us H Q E →
    codeAny (model P w) A (.call (.ref f) ar) (CR CX0 stk P w H st Q E) st
theorem FnG.mono {j k : Nat} {f : Addr} {fd : FuncData} {ps : List Str} {sp : Sp} (F : FnG P w K mg base j f fd ps sp) (h : j ≤ k) : FnG P w K mg base k f fd ps sp := ⟨F.lng, fun A stk st H ar ws us Q E rm => F.go A stk st H ar ws us Q E (rm.mono h)⟩
theorem FnG.imp {k : Nat} {f : Addr} {fd : FuncData} {ps : List Str} {sp sp' : Sp} (F : FnG P w K mg base k f fd ps sp) (h : ∀ us H Q E, sp' us H Q E → sp us H Q E) : FnG P w K mg base k f fd ps sp' :=
  ⟨fun us H Q E q => F.lng us H Q E (h _ _ _ _ q), fun A stk st H ar ws us Q E rm e0 hb hv q => F.go A stk st H ar ws us Q E rm e0 hb hv (h _ _ _ _ q)⟩
theorem FnG.of {k : Nat} {f : Addr} {fd : FuncData} {ps : List Str} {sp : Sp} (F : FnOk P w K mg base CX0 k f fd ps sp) : FnG P w K mg base k f fd ps sp := ⟨F.len, fun A stk st H ar ws us Q E rm e0 hb hv q => F.run A stk st H ar ws us Q E rm.rm e0 hb hv q⟩
/-- a def by its body -/
theorem okG {x qual : Str} {stm : Stmt} {f : Addr} {fd : FuncData} {N ps : List Str} {k : Nat} {sp : Sp} (F : Fun K x qual stm f fd) (C : FnScope N ps (defScope stm)) (lng : ∀ us H Q E, sp us H Q E → us.length = ps.length)
    (hb : ∀ (cdv : Value) (A : Around) (stk : List Env) (st : Shared) (H : Hp) (us : List V) (Q : VK) (E : XK), RoomG k (A.deeper (envOfC qual (defScope stm) st.heap.objs.size f cdv)) → sp us H Q E →
      ∃ t, PSs (cxOf CX0 P w K mg base N qual (defScope stm) f cdv A stk st H E).nox (defBody stm) t ∧ t { nx := fun _ H' => Q .non H', rt := Q } (start N us) H) : FnG P w K mg base (k + 1) f fd ps sp := by
  obtain ⟨oc, od, kV, dc, pm, an, cdv, ct, osl, rfl, look, codeOk⟩ := F.ex
  constructor
  · exact lng
  intro A stk st H ar ws us Q E rm e0 hbd rv hsp
  have inSt : K.In st.heap := e0.mod.kin.keeps fun c ob z => (e0.bs c ob z).1
  have noLim : st.heap.NoLimit := e0.mod.nolimit.keeps fun c ob z => (e0.bs c ob z).1
  refine codeAny_call_function rm.rm.depth (inSt _ _ look) rfl C.co C.gen rfl (PySem.W.codeRec_of inSt codeOk) (hbd _ _ _ _ ?_)
  have places : ∀ y ∈ ps.zip ws, (defScope stm).names.lookup y.1 = some .local ∨ ((defScope stm).names.lookup y.1 = some .cell ∧ ((cellsFrom (st.heap.objs.size + 1) (defScope stm).names []).lookup y.1).isSome = true) := by
    rintro ⟨nme, vl⟩ hy
    rcases C.par nme (List.of_mem_zip hy).1 with z | z
    · exact .inl z
    · exact .inr ⟨z, PySem.W.cellsFrom_some _ _ _ (.inl z)⟩
  refine wpAny_newFunctionEnv_cells C.kind places fun en hen st1 inc => ?_
  subst hen
  refine ⟨noLim.keeps inc.toInCall.keep, codeAny_func ?_⟩
  obtain ⟨t, bodyOk, q⟩ := hb cdv A stk st H us Q E (rm.deeper _) hsp
  have J0 := inv_start (P := P) (CX := CX0) (N := N) (E := E) C rm.rm.hd e0 (lng _ _ _ _ hsp) rv inc
  refine wpAny_mono (bodyOk.nox.run [] st1 (start N us) H _ J0 q) (fun fl st2 res => ?_) fun er st2 res => res
  cases fl with
  | ret u =>
    obtain ⟨v, σ', H', J, r, z⟩ := res
    exact ⟨v, H', J.os, J.bare, J.base, J.hok, r, z⟩
  | next =>
    obtain ⟨σ', H', J, z⟩ := res
    exact ⟨.non, H', J.os, J.bare, J.base, J.hok, rfl, z⟩
  | brk =>
    obtain ⟨_, _, _, z⟩ := res
    exact z.elim
  | cont =>
    obtain ⟨_, _, _, z⟩ := res
    exact z.elim
end
section
variable {X : Cx} {k : Nat} {f : Addr} {fd : FuncData} {ps ks : List Str} {sp : Sp} {x : Str} {p pos : Pos} {e : Expr} {es : List Expr} {kws : List Keyword} {t tk : TA} {g : List Value → List Value → List Value} {gV : List V → List V → List V}
/-- the callee runs, its arguments bound in any way -/
theorem goG {pins : List (Addr × Obj)} {σ : L2.St} {H : Hp} {st : Shared} {Q : VK} {pa : List Value} {kw : List (Str × Value)} {ws : List Value} {us : List V} (F : FnG X.prog X.w X.K X.mg X.base k f fd ps sp) (rm : RoomG k X.A) (hb : BindsTo st fd ⟨pa, kw⟩ (ps.zip ws))
    (J : Inv X pins σ H st) (rv : Vals us ws) (h : sp us H Q E0) : wpAny (model X.prog X.w) X.A (call (.ref f) pa kw) (EP X pins σ Q) X.xe st := by
  refine wpAny_call (codeAny_mono (F.go X.A X.stack st H ⟨pa, kw⟩ ws us Q E0 rm J.env0 hb rv h) fun rs st2 z => ?_)
  match rs, z with
  | .ok (.ret u), z => exact J.after z
  | .error er, z => exact z.elim
  | .ok .next, z => exact z.elim
  | .ok .brk, z => exact z.elim
  | .ok .cont, z => exact z.elim
/-- f(e, ..): the defaults behind -/
theorem pe_callG {ds : List Value} {dvs : List V} (F : FnG X.prog X.w X.K X.mg X.base k f fd ps sp) (rm : RoomG k X.A) (hg : Gl X x) (hm : X.mg x = some (.ref f)) (hk : PySem.W.keepIn X.K (.ref f) = true) (hb : Binds X.K fd ps ds) (hd : Vals dvs ds)
    (ha : PA X (e :: es) t) (hdb : (x == ("__debug__" : Str)) = false) (he : starEach (e :: es) X.env = (false, eval e X.env) :: starEach es X.env) (hpl : (backTo pos (starEach es X.env)).any (·.1) = false) :
    PE X (.Call (.Name x p) (e :: es) [] pos) (tCall sp dvs E0 t) := by
  constructor
  intro pins st σ H Q J h
  refine wpAny_Call_Name_kw (ld_glob J hg hm ?_ hdb)
  refine PySem.W.callWith_K (h₀ := X.base) J.ok.mod.kin hk (thn (ha.run pos pins st σ H _ J h) fun ws st1 z => ?_) he hpl
  obtain ⟨us, H1, J1, rv, q⟩ := z
  have rv2 : Vals (us ++ dvs) (ws ++ ds) := rv.append hd
  refine ⟨J1.kIn, goG F rm (hb st1 ws J1.kIn ?_) J1 rv2 q⟩
  rw [← rv2.length]
  exact F.lng _ _ _ _ q
/-- f(e, .., k = v, ..) -/
theorem pe_callKG (F : FnG X.prog X.w X.K X.mg X.base k f fd ps sp) (rm : RoomG k X.A) (hg : Gl X x) (hm : X.mg x = some (.ref f)) (hk : PySem.W.keepIn X.K (.ref f) = true) (hb : KBinds X.K fd ps ks g gV)
    (ha : PA X (e :: es) t) (hkw : PK X kws tk) (hall : (backToKw pos (keywordEach kws X.env)).all (·.1.isSome) = true) (hks : (backToKw pos (keywordEach kws X.env)).filterMap (·.1) = ks)
    (hdb : (x == ("__debug__" : Str)) = false) (he : starEach (e :: es) X.env = (false, eval e X.env) :: starEach es X.env)
    (hpl : ((backTo pos (starEach (e :: es) X.env)).any (·.1) || (backToKw pos (keywordEach kws X.env)).any (·.1.isNone)) = false) :
    PE X (.Call (.Name x p) (e :: es) kws pos) (tCallK sp gV E0 t tk) := by
  constructor
  intro pins st σ H Q J h
  refine wpAny_Call_Name_kw (ld_glob J hg hm ?_ hdb)
  refine PySem.W.callWith_KW (h₀ := X.base) J.ok.mod.kin hk hall (thn (ha.run pos pins st σ H _ J h) fun ws st1 z => ?_) hpl he
  obtain ⟨us, H1, J1, rv, q⟩ := z
  refine thn (hkw.run pos pins st1 σ H1 _ J1 q) fun zs st2 z => ?_
  obtain ⟨ys, H2, J2, rz, q2⟩ := z
  rw [hks]
  have rv2 := hb.rel rv rz
  refine ⟨J2.kIn, goG F rm (hb.to st2 ws zs J2.kIn ?_) J2 rv2 q2⟩
  rw [← rv2.length]
  exact F.lng _ _ _ _ q2
/-- f(k = v, ..) -/
theorem pe_callKG0 (F : FnG X.prog X.w X.K X.mg X.base k f fd ps sp) (rm : RoomG k X.A) (hg : Gl X x) (hm : X.mg x = some (.ref f)) (hk : PySem.W.keepIn X.K (.ref f) = true) (hb : KBinds X.K fd ps ks g gV)
    (hkw : PK X kws tk) (hall : (backToKw pos (keywordEach kws X.env)).all (·.1.isSome) = true) (hks : (backToKw pos (keywordEach kws X.env)).filterMap (·.1) = ks)
    (hdb : (x == ("__debug__" : Str)) = false) (hpl : ((backToKw pos (keywordEach kws X.env)).any (·.1.isNone)) = false) :
    PE X (.Call (.Name x p) [] kws pos) (tCallK sp gV E0 tNil tk) := by
  constructor
  intro pins st σ H Q J h
  refine wpAny_Call_Name_kw (ld_glob J hg hm ?_ hdb)
  refine PySem.W.callWith_KW0 (h₀ := X.base) J.ok.mod.kin hk hall (thn (hkw.run pos pins st σ H _ J h) fun zs st2 z => ?_) hpl
  obtain ⟨ys, H2, J2, rz, q2⟩ := z
  rw [hks]
  have rv2 := hb.rel .nil rz
  refine ⟨J2.kIn, goG F rm (hb.to st2 [] zs J2.kIn ?_) J2 rv2 q2⟩
  rw [← rv2.length]
  exact F.lng _ _ _ _ q2
end
end L3
end
section
set_option Elab.async false
set_option linter.all false
set_option maxRecDepth 100000
set_option autoImplicit false
/-! L3t: calls of promised defs over pure data, by position and by name (own work). -/
namespace L3
open PySem PySem.Spec PyProof.Rows L2
section
variable {S : Type} {X : Cx} {W : Wd S} {e a b c : Expr} {es : List Expr} {pos : Pos}
/-- what FnG says of a def that computes G -/
abbrev FnD (X : Cx) (W : Wd S) (k : Nat) (f : Addr) (fd : FuncData) (ps : List Str) (n : Nat) (G : List D → S → Option (D × S)) : Prop := FnG X.prog X.w X.K X.mg X.base k f fd ps (spF X.K W n G)
theorem se_callG {k n : Nat} {f : Addr} {fd : FuncData} {ps : List Str} {x : Str} {p : Pos} {G : List D → S → Option (D × S)} {g : EvL S} {dvs : List V} {dsV : List Value} {dfl : List D}
    (F : FnD X W k f fd ps n G) (hr : RoomG k X.A) (hg : Gl X x) (hm : X.mg x = some (.ref f)) (hk : PySem.W.keepIn X.K (.ref f) = true) (hb : Binds X.K fd ps dsV) (hd : Vals dvs dsV)
    (hdf : ∀ H av, RepL X.K W.tok H av dvs dfl) (ha : PA X (e :: es) (SL X.K W g)) (hl : (e :: es).length + dfl.length = n) (hlg : ∀ ρ s xs ρ' s', g ρ s = some (xs, ρ', s') → xs.length = (e :: es).length) (hdb : (x == ("__debug__" : Str)) = false)
    (he : starEach (e :: es) X.env = (false, eval e X.env) :: starEach es X.env) (hpl : (backTo pos (starEach es X.env)).any (·.1) = false) :
    PE X (.Call (.Name x p) (e :: es) [] pos) (SE X.K W false (callF G (permL (· ++ dfl) g))) := (pe_callG F hr hg hm hk hb hd ha hdb he hpl).imp fun σ H Q q => by
  obtain ⟨H0, O, A, P, ρ, s, d, ρ', s', r, e, q⟩ := q
  obtain ⟨ys, s1, e1, e2⟩ := callF_some e
  unfold permL at e1
  cases h : g ρ s with
  | none => rw [h] at e1; simp at e1
  | some z =>
    obtain ⟨xs, ρ2, s2⟩ := z
    rw [h] at e1
    simp only [Option.map_some, Option.some.injEq, Prod.mk.injEq] at e1
    obtain ⟨rfl, rfl, rfl⟩ := e1
    refine ⟨H0, O, A, P, ρ, s, xs, ρ2, s2, r, h, fun vs H1 ex r1 rl hx ht => ?_⟩
    refine call_val (R := ⟨X.K, W, H0, O⟩) ?_ r1 (rl.append (hdf H1 _)) hx e2 fun v H' ex r' => q v H' ex r' fun z => Bool.noConfusion z
    rw [List.length_append, rl.length, (hdf H1 (fun _ => True)).length, hlg _ _ _ _ _ h, hl]
/-! ### keywords -/
theorem _root_.L2.PK.imp {kws : List Keyword} {t t' : TA} (h : PK X kws t) (i : ∀ σ H Q, t' σ H Q → t σ H Q) : PK X kws t' := ⟨fun pos pins s σ H Q I q => h.run pos pins s σ H Q I (i σ H Q q)⟩
theorem nil_val {K : PySem.W.Frag} {σ : L2.St} {H : Hp} {Q : List V → Hp → Prop} (h : SL K W nilL σ H Q) : tNil σ H Q := by
  obtain ⟨H0, O, A, P, ρ, s, ds, ρ', s', r, e, q⟩ := h
  cases e
  exact q [] H noEx r .nil (fun _ _ z => z) fun _ z => z.elim
theorem cons_val {f : Ev S} {g : EvL S} {fr : Bool} {K : PySem.W.Frag} {σ : L2.St} {H : Hp} {Q : List V → Hp → Prop} (q : SL K W (consL f g) σ H Q) : tCons (SE K W fr f) (SL K W g) σ H Q := by
  obtain ⟨H0, O, A, P, ρ, s, ds, ρ', s', r0, e, q⟩ := q
  obtain ⟨x, ρ1, s1, xs, e1, e2, rfl⟩ := consL_some e
  refine ⟨H0, O, A, P, ρ, s, x, ρ1, s1, r0, e1, fun v H1 ex1 r1 _ => ?_⟩
  refine ⟨H0, O, A, _, ρ1, s1, xs, ρ', s', r1, e2, fun vs H2 ex2 r2 rl hx ht => ?_⟩
  refine q (v :: vs) H2 (fun a => ex1 a ∨ ex2 a) r2.tail (.cons (r2.head.mono fun a h => ⟨h.1, fun z => h.2 (.inl z)⟩) (rl.mono fun a h => ⟨h.1, fun z => h.2 (.inr z)⟩)) (fun a h z => z.elim (r2.hex a h) (hx a h)) fun a z => z.elim (r2.pet _ List.mem_cons_self a) (ht a)
theorem sk_nil : PK X [] (SL X.K W nilL) := pk_nil.imp fun σ H Q q => nil_val q
theorem sk_cons {f : Ev S} {g : EvL S} {fr : Bool} {nm : Option Str} {kp : Pos} {kws : List Keyword} (he : PE X e (SE X.K W fr f)) (hr : PK X kws (SL X.K W g)) : PK X (⟨nm, e, kp⟩ :: kws) (SL X.K W (consL f g)) := (pk_cons he hr).imp fun σ H Q q => cons_val q
def catL (g h : EvL S) (gD : List D → List D → List D) : EvL S := fun ρ s => match g ρ s with
  | some (xs, ρ1, s1) => match h ρ1 s1 with
    | some (ys, ρ2, s2) => some (gD xs ys, ρ2, s2)
    | none => none
  | none => none
theorem catL_some {g h : EvL S} {gD : List D → List D → List D} {ρ ρ' : En} {s s' : S} {zs : List D} (e : catL g h gD ρ s = some (zs, ρ', s')) : ∃ xs ρ1 s1 ys, g ρ s = some (xs, ρ1, s1) ∧ h ρ1 s1 = some (ys, ρ', s') ∧ zs = gD xs ys := by
  unfold catL at e
  split at e
  · rename_i xs ρ1 s1 h1
    split at e
    · rename_i ys ρ2 s2 h2
      cases e
      exact ⟨xs, ρ1, s1, ys, h1, h2, rfl⟩
    · cases e
  · cases e
theorem callK_val {k n : Nat} {G : List D → S → Option (D × S)} {g h : EvL S} {gV : List V → List V → List V} {gD : List D → List D → List D} {K : PySem.W.Frag}
    (hgv : ∀ H av vs ds zs es, RepL K W.tok H av vs ds → RepL K W.tok H av zs es → RepL K W.tok H av (gV vs zs) (gD ds es)) (hn : ∀ ρ s xs ρ' s', catL g h gD ρ s = some (xs, ρ', s') → xs.length = n) {σ : L2.St} {H : Hp} {Q : VK} (q : SE K W false (callF G (catL g h gD)) σ H Q) :
    tCallK (spF K W n G) gV E0 (SL K W g) (SL K W h) σ H Q := by
  obtain ⟨H0, O, A, P, ρ, s, d, ρ', s', r, e, q⟩ := q
  obtain ⟨zs, s1, e1, e2⟩ := callF_some e
  have hz := hn _ _ _ _ _ e1
  obtain ⟨xs, ρ1, s2, ys, e3, e4, rfl⟩ := catL_some e1
  refine ⟨H0, O, A, P, ρ, s, xs, ρ1, s2, r, e3, fun vs H1 ex1 r1 rl1 hx1 ht1 => ?_⟩
  have r2 : Rel ⟨K, W, H0, O⟩ A (⟨.non, .non, ex1⟩ :: (pds vs xs ex1 ++ P)) σ H1 ρ1 s2 := (Rel.pushL hx1 ht1 r1 rl1).push .non hx1 ht1
  refine ⟨H0, O, A, _, ρ1, s2, ys, ρ', s1, r2, e4, fun ws H2 ex2 r3 rl2 hx2 ht2 => ?_⟩
  obtain ⟨rl1', r4⟩ := Rel.popL rl1.length r3.tail
  have rl := hgv H2 (fun a => avL ⟨K, W, H0, O⟩ A σ ρ' a ∧ ¬ (ex1 a ∨ ex2 a)) _ _ _ _ (rl1'.mono fun a z => ⟨z.1, fun y => z.2 (.inl y)⟩) (rl2.mono fun a z => ⟨z.1, fun y => z.2 (.inr y)⟩)
  refine call_val (R := ⟨K, W, H0, O⟩) (rl.length.trans hz) r4 rl (fun a h z => z.elim (r3.hex a h) (hx2 a h)) e2 fun v H' ex r' => q v H' ex r' fun z => Bool.noConfusion z
theorem se_callK {k n : Nat} {f : Addr} {fd : FuncData} {ps ks : List Str} {x : Str} {p : Pos} {G : List D → S → Option (D × S)} {g h : EvL S} {kws : List Keyword} {gA : List Value → List Value → List Value} {gV : List V → List V → List V} {gD : List D → List D → List D}
    (F : FnD X W k f fd ps n G) (hr : RoomG k X.A) (hg : Gl X x) (hm : X.mg x = some (.ref f)) (hk : PySem.W.keepIn X.K (.ref f) = true) (hb : KBinds X.K fd ps ks gA gV)
    (hgv : ∀ H av vs ds zs es, RepL X.K W.tok H av vs ds → RepL X.K W.tok H av zs es → RepL X.K W.tok H av (gV vs zs) (gD ds es)) (hn : ∀ ρ s xs ρ' s', catL g h gD ρ s = some (xs, ρ', s') → xs.length = n)
    (ha : PA X (e :: es) (SL X.K W g)) (hkw : PK X kws (SL X.K W h)) (hall : (backToKw pos (keywordEach kws X.env)).all (·.1.isSome) = true) (hks : (backToKw pos (keywordEach kws X.env)).filterMap (·.1) = ks)
    (hdb : (x == ("__debug__" : Str)) = false) (he : starEach (e :: es) X.env = (false, eval e X.env) :: starEach es X.env)
    (hpl : ((backTo pos (starEach (e :: es) X.env)).any (·.1) || (backToKw pos (keywordEach kws X.env)).any (·.1.isNone)) = false) :
    PE X (.Call (.Name x p) (e :: es) kws pos) (SE X.K W false (callF G (catL g h gD))) := (pe_callKG F hr hg hm hk hb ha hkw hall hks hdb he hpl).imp fun σ H Q q => callK_val (k := k) hgv hn q
theorem se_callK0 {k n : Nat} {f : Addr} {fd : FuncData} {ps ks : List Str} {x : Str} {p : Pos} {G : List D → S → Option (D × S)} {h : EvL S} {kws : List Keyword} {gA : List Value → List Value → List Value} {gV : List V → List V → List V} {gD : List D → List D → List D}
    (F : FnD X W k f fd ps n G) (hr : RoomG k X.A) (hg : Gl X x) (hm : X.mg x = some (.ref f)) (hk : PySem.W.keepIn X.K (.ref f) = true) (hb : KBinds X.K fd ps ks gA gV)
    (hgv : ∀ H av vs ds zs es, RepL X.K W.tok H av vs ds → RepL X.K W.tok H av zs es → RepL X.K W.tok H av (gV vs zs) (gD ds es)) (hn : ∀ ρ s xs ρ' s', catL nilL h gD ρ s = some (xs, ρ', s') → xs.length = n)
    (hkw : PK X kws (SL X.K W h)) (hall : (backToKw pos (keywordEach kws X.env)).all (·.1.isSome) = true) (hks : (backToKw pos (keywordEach kws X.env)).filterMap (·.1) = ks)
    (hdb : (x == ("__debug__" : Str)) = false) (hpl : ((backToKw pos (keywordEach kws X.env)).any (·.1.isNone)) = false) :
    PE X (.Call (.Name x p) [] kws pos) (SE X.K W false (callF G (catL nilL h gD))) := (pe_callKG0 F hr hg hm hk hb hkw hall hks hdb hpl).imp fun σ H Q q => by
  obtain ⟨vs, z⟩ : ∃ t, tCallK (spF X.K W n G) gV E0 (SL X.K W nilL) (SL X.K W h) σ H Q := ⟨callK_val (k := k) hgv hn q, callK_val (k := k) hgv hn q⟩
  exact nil_val z
/-- THE RULE for a def whose body computes g, which may ask for repr -/
theorem fn_defG {P : Program} {w : World} {K : PySem.W.Frag} {mg : Str → Option Value} {base : Heap} {x qual : Str} {st : Stmt} {f : Addr} {fd : FuncData} {N ps : List Str} {k n : Nat} {g : Ss S} (F : Fun K x qual st f fd) (C : FnScope N ps (defScope st)) (hn : ps.length = n) (hN : n ≤ N.length)
    (hb : ∀ (cdv : Value) (A : Around) (outer : List Env) (s : Shared) (H : Hp) (E : XK), RoomG k (A.deeper (envOfC qual (defScope st) s.heap.objs.size f cdv)) → PSs (cxOf CX0 P w K mg base N qual (defScope st) f cdv A outer s H E).nox (defBody st) (SS K W g)) :
    FnG P w K mg base (k + 1) f fd ps (spF K W n (defF N.length g)) :=
  okG F C (fun vs H Q E h => h.1.trans hn.symm) fun cdv A outer s H vs Q E hr h => ⟨_, hb cdv A outer s H E hr, def_val hN h⟩
end
end L3
end
section
set_option Elab.async false
set_option linter.all false
set_option maxRecDepth 100000
set_option autoImplicit false
set_option maxHeartbeats 2000000
/-! L3s: sorted(xs) of tuples of ints, of any lengths, any number (own work). -/
namespace L3
open PySem PySem.Spec PyProof.Rows L2
/-- v is a tuple of the ints ns -/
def IsTI (h : Heap) (v : Value) (ns : List Int) : Prop := ∃ a o xs n, v = .ref a ∧ h.get? a = some o ∧ o.cls = .type "tuple" ∧ o.data = .seq xs n ∧ IntsAre xs.toList ns
theorem IsTI.keeps {h h' : Heap} {v : Value} {ns : List Int} (x : IsTI h v ns) (k : ∀ b o, h.get? b = some o → o.cls = .type "tuple" → h'.get? b = some o) : IsTI h' v ns := by
  obtain ⟨a, o, xs, n, e, ho, hc, hd, hi⟩ := x
  exact ⟨a, o, xs, n, e, k a o ho hc, hc, hd, hi⟩
theorem lexLt_irr : ∀ ns : List Int, HT.lexLt ns ns = false
  | [] => rfl
  | x :: r => by rw [HT.lexLt_cons, if_pos rfl]; exact lexLt_irr r
theorem lexLt_asym : ∀ {ns ms : List Int}, HT.lexLt ns ms = true → HT.lexLt ms ns = false
  | [], [], h => by simp [HT.lexLt_nil_nil] at h
  | [], _ :: _, _ => rfl
  | _ :: _, [], h => by simp [HT.lexLt_cons_nil] at h
  | x :: r, y :: q, h => by
    rw [HT.lexLt_cons] at h ⊢
    by_cases e : x = y
    · rw [if_pos e] at h
      rw [if_pos e.symm]
      exact lexLt_asym h
    · rw [if_neg e] at h
      rw [if_neg (Ne.symm e)]
      have := of_decide_eq_true h
      exact decide_eq_false (by omega)
theorem lexLt_tri : ∀ {ns ms : List Int}, HT.lexLt ns ms = false → HT.lexLt ms ns = false → ns = ms
  | [], [], _, _ => rfl
  | [], _ :: _, h, _ => by simp [HT.lexLt_nil_cons] at h
  | _ :: _, [], _, h => by simp [HT.lexLt_nil_cons] at h
  | x :: r, y :: q, h, h' => by
    rw [HT.lexLt_cons] at h h'
    by_cases e : x = y
    · rw [if_pos e] at h
      rw [if_pos e.symm] at h'
      rw [e, lexLt_tri h h']
    · rw [if_neg e] at h
      rw [if_neg (Ne.symm e)] at h'
      have := of_decide_eq_false h
      have := of_decide_eq_false h'
      omega
/-- not below is transitive -/
theorem lexLt_tr : ∀ {a b c : List Int}, HT.lexLt b a = false → HT.lexLt c b = false → HT.lexLt c a = false
  | _, _, [], h1, h2 => by
    rename_i a b
    cases b with
    | nil => exact h1
    | cons y q => simp [HT.lexLt_nil_cons] at h2
  | [], [], z :: t, _, h2 => by simp [HT.lexLt_cons_nil]
  | [], y :: q, z :: t, _, _ => by simp [HT.lexLt_cons_nil]
  | x :: r, [], z :: t, h1, _ => by simp [HT.lexLt_nil_cons] at h1
  | x :: r, y :: q, z :: t, h1, h2 => by
    rw [HT.lexLt_cons] at h1 h2 ⊢
    by_cases e1 : y = x <;> by_cases e2 : z = y
    · rw [if_pos e1] at h1; rw [if_pos e2] at h2; rw [if_pos (e2.trans e1)]
      exact lexLt_tr h1 h2
    · rw [if_neg e2] at h2
      have := of_decide_eq_false h2
      rw [if_neg (by omega)]
      exact decide_eq_false (by omega)
    · rw [if_neg e1] at h1
      have := of_decide_eq_false h1
      rw [if_neg (by omega)]
      exact decide_eq_false (by omega)
    · rw [if_neg e1] at h1; rw [if_neg e2] at h2
      have := of_decide_eq_false h1
      have := of_decide_eq_false h2
      rw [if_neg (by omega)]
      exact decide_eq_false (by omega)
theorem swo_ti (k : Value → List Int) : SrtO.Swo fun v u => HT.lexLt (k v) (k u) := ⟨fun x y h => lexLt_asym h, fun x y z h1 h2 => lexLt_tr h1 h2⟩
section
variable {prog : Program} {w : World} {A : Around} {E : Value → Shared → Prop} {s : Shared}
theorem oneLt_tup {a b : Addr} {oa ob : Obj} {xs ys : Array Value} {n m : Nat} {ns ms : List Int} {Q : Bool → Shared → Prop} (c : Bool) (hu : A.units < cLine) (ha : s.heap.get? a = some oa) (ca : oa.cls = .type "tuple") (da : oa.data = .seq xs n) (ia : IntsAre xs.toList ns)
    (hb : s.heap.get? b = some ob) (cb : ob.cls = .type "tuple") (db : ob.data = .seq ys m) (ib : IntsAre ys.toList ms) (h : Q (HT.lexLt ns ms) s) : wpAny (model prog w) A (oneLt' c (.ref a) (.ref b)) Q E s := by
  cases c with
  | false => exact PySem.W.kat_one _ _ (HT.lt_tupInts ⟨oa, ha, ca, n, da⟩ ⟨ob, hb, cb, m, db⟩ ia ib hu (show PySem.W.BoolBack Q (.bool (HT.lexLt ns ms)) s from h))
  | true =>
    rw [oneLt'_eq]
    simp only [if_true]
    refine wpAny_bind (wpAny_cRoomFor hu ?_)
    obtain ⟨cls, dd, data, sl⟩ := oa
    obtain ⟨cls2, dd2, data2, sl2⟩ := ob
    simp only at ca da cb db
    subst ca da cb db
    refine wpAny_bind (wpAny_callSpecialIfBound?_slot (T := "tuple") ⟨_, ha, rfl⟩ PySem.F.slot_tuple_lt ?_)
    refine call_meets PySem.F.slot_tuple_lt ⟨_, ha, rfl⟩ PySem.F.entry_tuple_lt (PySem.F.args_tuple_lt_2 _ _) (HT.tuple_lt_ints a b xs ys n m dd dd2 sl sl2 ns ms ia ib) ⟨ha, hb, ?_⟩
    exact wpAny_truthy_bool h
theorem lex_go {c b fin : Bool} {Q : Bool → Shared → Prop} : ∀ {xs ys : List Value} {ns ms : List Int} (i : Nat), IntsAre xs ns → IntsAre ys ms → fin = decide (ns.length < ms.length) → Q (HT.lexLt ns ms) s → PySem.W.KatLex prog w A b fin Q (xs.zip ys) i s
  | _, _, _, _, i, .nil, .nil, hf, h => by
    subst hf
    exact PySem.W.kat_nil h
  | _, _, _, _, i, .nil, .cons _ _ _, hf, h => by
    subst hf
    refine PySem.W.kat_nil ?_
    simpa [HT.lexLt_nil_cons] using h
  | _, _, _, _, i, .cons _ _ _, .nil, hf, h => by
    subst hf
    refine PySem.W.kat_nil ?_
    simpa [HT.lexLt_cons_nil] using h
  | _, _, _, _, i, .cons p t hx, .cons q u hy, hf, h => by
    refine PySem.W.kat_cons (wpAny_eqBool_int ?_)
    rw [HT.lexLt_cons] at h
    by_cases e : p = q
    · rw [if_pos e] at h
      rw [e, beq_self_eq_true]
      refine PySem.W.kat_yes (lex_go (c := c) (i + 1) hx hy ?_ h)
      rw [hf]
      simp
    · rw [if_neg e] at h
      rw [show (p == q) = false from beq_eq_false_iff_ne.mpr e]
      refine PySem.W.kat_no ?_
      cases (b && i == 0) with
      | true => exact oneLt_int h
      | false => exact PySem.W.kat_one _ _ (PyProof.Rows.lt_int (Q := PySem.W.BoolBack Q) h)
theorem ti_cmp {vs : List Value} {k : Value → List Int} (κ : SortKind) (hκ : κ = general' ∨ κ = oneType' ∨ ∃ b, κ = tuples' b) (hu : A.units < cLine) (hv : ∀ v ∈ vs, IsTI s.heap v (k v)) : SrtO.Cmp prog w A s κ (fun p => p.1 ∈ vs) (SrtO.lt2 fun v u => HT.lexLt (k v) (k u)) := by
  intro p q hp hq
  show wpAny (model prog w) A (keyLt' κ p.1 q.1) (fun r s' => s' = s ∧ r = HT.lexLt (k p.1) (k q.1)) (fun _ _ => False) s
  have h1 := hv _ hp
  have h2 := hv _ hq
  generalize k p.1 = ns at h1 ⊢
  generalize k q.1 = ms at h2 ⊢
  obtain ⟨a, oa, xs, n, e, ha, ca, da, ia⟩ := h1
  obtain ⟨b, ob, ys, m, e', hb, cb, db, ib⟩ := h2
  rw [e, e']
  rcases hκ with rfl | rfl | ⟨c, rfl⟩
  · exact oneLt_tup false hu ha ca da ia hb cb db ib ⟨rfl, rfl⟩
  · exact oneLt_tup true hu ha ca da ia hb cb db ib ⟨rfl, rfl⟩
  · refine PySem.W.kat_lt ha da hb db ?_
    have l1 := ia.length
    have l2 := ib.length
    rw [Array.length_toList] at l1 l2
    exact lex_go (c := true) 0 ia ib (by rw [l1, l2]) ⟨rfl, rfl⟩
theorem firsts_go : ∀ {vs : List Value} {k : Value → List Int}, (∀ v ∈ vs, IsTI s.heap v (k v)) → ∃ fs : List (Option Value), fs.length = vs.length ∧ (∀ f ∈ fs, ∀ x, f = some x → ∃ i t, x = Value.int i t) ∧
    ∀ (Q : List (Option Value) → Shared → Prop) (E : Value → Shared → Prop), Q fs s → wpAny (model prog w) A (vs.mapM firstOfTuple') Q E s
  | [], k, _ => ⟨[], rfl, fun f hf => by simp at hf, fun Q E h => by rw [List.mapM_nil]; exact wpAny_pure h⟩
  | v :: vs, k, hv => by
    obtain ⟨a, o, xs, n, e, ho, hc, hd, hi⟩ := hv v List.mem_cons_self
    obtain ⟨fs, hl, hf, hw⟩ := firsts_go (vs := vs) (k := k) fun u hu => hv u (List.mem_cons_of_mem _ hu)
    refine ⟨xs[0]? :: fs, by simp [hl], fun f hm x hx => ?_, fun Q E h => ?_⟩
    · rcases List.mem_cons.mp hm with rfl | hm
      · have hx' : xs.toList[0]? = some x := by rw [← Array.getElem?_toList] at hx; exact hx
        exact hi.all x (List.mem_of_getElem? hx')
      · exact hf f hm x hx
    · rw [List.mapM_cons]
      refine wpAny_bind ?_
      rw [PySem.W.kas_first_eq, e]
      refine wpAny_bind (PySem.W.Looks.here (show PySem.W.Looks (model prog w) s.heap (typeOf (.ref a)) o.cls from (PySem.W.Looks.ld ho).andThen .now) ?_)
      rw [hc, if_neg (by first | decide | simp)]
      refine wpAny_bind (listItems_at ho hd (wpAny_pure ?_))
      exact wpAny_bind (hw _ _ (wpAny_pure h))
theorem ti_kind {vs : List Value} {k : Value → List Int} (h2 : 2 ≤ vs.length) (hv : ∀ v ∈ vs, IsTI s.heap v (k v)) : ∃ κ, (κ = general' ∨ κ = oneType' ∨ ∃ b, κ = tuples' b) ∧
    ∀ (Q : SortKind → Shared → Prop) (E : Value → Shared → Prop), Q κ s → wpAny (model prog w) A (keyKind' vs.toArray) Q E s := by
  obtain ⟨fs, hl, hf, hw⟩ := firsts_go (prog := prog) (w := w) (A := A) hv
  have hty : ∀ v ∈ vs, ∀ (E : Value → Shared → Prop) (Q' : Value → Shared → Prop), Q' (.type "tuple") s → wpAny (model prog w) A (typeOf v) Q' E s := fun v hm E Q' q => by
    obtain ⟨a, o, xs, n, e, ho, hc, hd, hi⟩ := hv v hm
    rw [e]
    refine PySem.W.Looks.here (show PySem.W.Looks (model prog w) s.heap (typeOf (.ref a)) o.cls from (PySem.W.Looks.ld ho).andThen .now) ?_
    rw [hc]
    exact q
  by_cases hall : (fs.toArray.all fun x => x.isSome) = true
  · have hT : ∀ v ∈ (fs.toArray.filterMap id).toList, ∀ (E : Value → Shared → Prop) (Q' : Value → Shared → Prop), Q' (.type "int") s → wpAny (model prog w) A (typeOf v) Q' E s := fun v hv E Q' q => by
      have hv' : some v ∈ fs := by
        rw [Array.toList_filterMap] at hv
        obtain ⟨x, hx, e⟩ := List.mem_filterMap.mp hv
        have e : x = some v := e
        rw [e] at hx
        simpa using hx
      obtain ⟨i, t, rfl⟩ := hf _ hv' v rfl
      exact wpAny_pure q
    have e1 : (fs.toArray.filterMap id).mapM typeOf = (do let l ← ((fs.toArray.filterMap id).toList).mapM typeOf; pure l.toArray) := by
      conv => lhs; rw [← Array.toArray_toList (xs := fs.toArray.filterMap id)]
      rw [List.mapM_toArray, map_eq_pure_bind]
    have key : ∃ b, ∀ (Q : SortKind → Shared → Prop) (E : Value → Shared → Prop), Q (tuples' b) s → wpAny (model prog w) A (do rule "list.sort.keys-are-tuples"; return tuples' ((← oneTypeOnly' (fs.toArray.filterMap id)).any (· != .type "tuple"))) Q E s := by
      refine ⟨(match (List.map (fun _ => Value.type "int") (fs.toArray.filterMap id).toList).toArray[0]? with
        | some t => if (List.map (fun _ => Value.type "int") (fs.toArray.filterMap id).toList).toArray.all (· == t) then some t else none
        | none => (none : Option Value)).any (· != Value.type "tuple"), fun Q E q => ?_⟩
      refine wpAny_bind (wpAny_rule ?_)
      rw [oneTypeOnly'_eq, e1]
      refine wpAny_bind (wpAny_bind (wpAny_bind (PySem.W.kas_mapM (r := Value.type "int") _ (fun v hv Q' q => hT v hv _ Q' q) (wpAny_pure ?_))))
      split
      · rename_i t ht
        simp only [ht] at q
        split
        · rename_i h3
          rw [if_pos h3] at q
          exact wpAny_pure (wpAny_pure q)
        · rename_i h3
          rw [if_neg h3] at q
          exact wpAny_pure (wpAny_pure q)
      · rename_i ht
        simp only [ht] at q
        exact wpAny_pure (wpAny_pure q)
    obtain ⟨b, hb⟩ := key
    refine ⟨tuples' b, .inr (.inr ⟨b, rfl⟩), fun Q E q => ?_⟩
    rw [kat_kind_eq, List.mapM_toArray, map_eq_pure_bind]
    refine wpAny_bind (wpAny_bind (hw _ _ (wpAny_pure ?_)))
    rw [if_pos hall]
    exact hb Q E q
  · by_cases h0 : (fs.toArray[0]?.bind id).isSome = true
    · refine ⟨general', .inl rfl, fun Q E q => ?_⟩
      rw [kat_kind_eq, List.mapM_toArray, map_eq_pure_bind]
      refine wpAny_bind (wpAny_bind (hw _ _ (wpAny_pure ?_)))
      rw [if_neg hall, if_pos h0]
      exact wpAny_pure q
    · refine ⟨oneType', .inr (.inl rfl), fun Q E q => ?_⟩
      rw [kat_kind_eq, List.mapM_toArray, map_eq_pure_bind]
      refine wpAny_bind (wpAny_bind (hw _ _ (wpAny_pure ?_)))
      rw [if_neg hall, if_neg h0]
      rw [oneTypeOnly'_eq, List.mapM_toArray, map_eq_pure_bind]
      refine wpAny_bind (wpAny_bind (wpAny_bind (PySem.W.kas_mapM (r := Value.type "tuple") _ (fun v hm Q' q => hty v hm _ Q' q) (wpAny_pure ?_))))
      match vs, h2 with
      | v1 :: v2 :: rest, _ =>
        have hall2 : ((List.map (fun _ => Value.type "tuple") (v1 :: v2 :: rest)).toArray.all fun x => x == Value.type "tuple") = true := by
          simp only [List.all_toArray, List.all_map, List.all_eq_true]
          intro _ _
          rfl
        have h1 : (List.map (fun _ => Value.type "tuple") (v1 :: v2 :: rest)).toArray[0]? = some (Value.type "tuple") := rfl
        rw [h1]
        simp only [hall2, if_true]
        exact wpAny_pure (wpAny_pure q)
end
/-- sorted(xs), xs a list of tuples of ints -/
def rSortedTI (K : PySem.W.Frag) : List V → Hp → VK → Prop := fun vs H Q => ∃ (a : Addr) (xs : List V) (k : V → List Int), vs = [V.ref a] ∧ SqL K H a xs ∧ (∀ x ∈ xs, ∃ t, x = V.ref t ∧ SqT K H t ((k x).map V.int)) ∧
  ∀ ys p, ys.Perm xs → ys.Pairwise (fun x y => HT.lexLt (k y) (k x) = false) → H p = none → Q (.ref p) (upd H p (.lst ys))
theorem cr_sortedTI {X : Cx} (hu : X.A.units + 64 < cLine) : CallR X (.builtin "sorted") (rSortedTI X.K) := by
  intro pins s σ H vs us Q I r h
  obtain ⟨a, xs, k, rfl, hs, hx, q⟩ := h
  obtain ⟨its, rv, hl, hz⟩ := I.list hs
  rw [Vals.ref1 r]
  obtain ⟨e1, e2⟩ := refs_back rv fun x m => by
    obtain ⟨t, e, _⟩ := hx x m
    exact ⟨t, e⟩
  have hti : ∀ v ∈ its, IsTI s.heap v (k (backV v)) := fun v hv => by
    obtain ⟨t, rfl⟩ := e2 v hv
    have hm : V.ref t ∈ xs := by rw [e1]; exact List.mem_map.mpr ⟨_, hv, rfl⟩
    obtain ⟨t', e, ht⟩ := hx _ hm
    cases e
    obtain ⟨its2, r2, ⟨o, ho, hc, n, hd⟩, _⟩ := I.tuple ht
    exact ⟨t, o, its2.toArray, n, rfl, ho, hc, hd, r2.ints⟩
  refine SrtO.sorted_ord (swo_ti fun u => k (backV u)) hl.isList (by rw [← rv.length]; exact hz) (fun h2 h₁ a' ho' kp h' kp' => ?_) fun out h1 h2 => ?_
  · have hti' : ∀ v ∈ its, IsTI h' v (k (backV v)) := fun v hv => (hti v hv).keeps fun b o ho hc => kp' b o (kp b o ho).1 (kp b o ho).2
    obtain ⟨κ, hκ, hw⟩ := ti_kind (prog := X.prog) (w := X.w) (A := X.A.in1.in1) (s := { s with heap := h' }) h2 hti'
    exact ⟨κ, hw, ti_cmp (s := { s with heap := h' }) κ hκ (by show X.A.units + 1 + 1 < cLine; omega) hti'⟩
  · obtain ⟨ep, he'⟩ := PyProof.Rows.sortedAll_at s.heap its out.toArray
    have h3 : ∀ u ∈ out, ∃ a, u = Value.ref a := fun u hu => e2 u (h2.perm.mem_iff.mp hu)
    have hp : (out.map backV).Perm xs := by rw [e1]; exact h2.perm.map backV
    have hlen : (out.map backV).length ≤ sizeLine := by rw [hp.length_eq]; exact hz
    refine ⟨.ref _, upd H (s.heap.objs.size + 1) (.lst (out.map backV)), I.laid (t' := s.toks) (fun _ _ => PyProof.Rows.sortedAll_old) (Nat.le_succ _) ⟨hlen, out, ep, vals_back h3, he'⟩, rfl, q _ _ hp (List.pairwise_map.mpr h1) (I.hok.fresh (Nat.le_succ _))⟩
end L3
end
section
set_option Elab.async false
set_option linter.all false
set_option maxRecDepth 100000
set_option autoImplicit false
/-! L3u: set(xs) of a list of ints, its members known (own work). -/
namespace L3
open PySem PySem.Spec PyProof.Rows L2
/-- the set that is made first -/
abbrev emptyO (w : World) : Obj := { cls := .type "set", dict := none, data := .set #[] 0 (.fresh 0 0 (!w.params.followText "set-order")) }
section
variable {P : Program} {w : World} {A : Around} {E : Value → Shared → Prop} {st : Shared}
set_option maxHeartbeats 3200000 in
theorem call_set_listI {p : Addr} {xs : Array Value} (zs : List Int) {Q : Value → Shared → Prop} (calmA : A.handled = none) (isL : st.heap.IsList p xs) (areI : IntsAre xs.toList zs) (few : zs.length + 1 < scanBound)
    (fin : ∀ (hp : Heap) (tk n : Nat), SetR w hp st.heap.objs.size (fun j => decide (j ∈ zs)) n → n ≤ zs.length → (∀ b o, st.heap.get? b = some o → hp.get? b = some o) → Q (.ref st.heap.objs.size) { st with heap := hp, toks := tk }) :
    wpAny (model P w) A (call (.type "set") [.ref p]) Q E st := by
  have size : xs.size = zs.length := by
    have z := IntsAre.length areI
    rwa [Array.length_toList] at z
  obtain ⟨cc, tl, mro⟩ := F.called_set.mro
  have made := F.called_set.made
  have subs := F.called_set.sub
  refine wpAny_call (codeAny_of_tree ?_)
  show wpAny _ _ (callAny (.type "set") _) _ _ _
  refine wpAny_pure ⟨Code.quiet_builtin _ (by decide +kernel), codeAny_builtin F.entry_type_call ?_⟩
  rw [Around.under_plain (weight_type_call_type "set" [.ref p] []) rfl]
  have noTy := F.called_set.notType
  have canC := F.called_set.canCreate
  have tyC := F.typeCall_set_1 (.ref p)
  repeat (any_goals (first | assumption | wp_step))
  refine codeAny_mono (code_set_led1 (.ref p) (E := E) (Q₁ := fun ob st1 => ob = .ref st.heap.objs.size ∧ st1 = { st with heap := st.heap.push (emptyO w) }) ⟨rfl, rfl⟩) fun r st1 res => ?_
  match r, res with
  | .error e, res => exact res
  | .ok .next, res => exact res.elim
  | .ok .brk, res => exact res.elim
  | .ok .cont, res => exact res.elim
  | .ok (.ret ob), res =>
    obtain ⟨rfl, rfl⟩ := res
    have atS : (st.heap.push (emptyO w)).get? st.heap.objs.size = some (emptyO w) := Heap.get?_push_size _ rfl
    have tyS : Shared.TypeIs { st with heap := st.heap.push (emptyO w) } (.ref st.heap.objs.size) "set" := ⟨_, atS, rfl⟩
    have ini := F.called_set.init.lookup
    have inb := F.called_set.init.bind (.ref st.heap.objs.size)
    repeat (any_goals (first | assumption | wp_step))
    refine codeAny_mono (codeAny_call_builtin (R := wants (fun r st2 => r = .none ∧ ∃ hp tk n, st2 = { st with heap := hp, toks := tk } ∧ SetR w hp st.heap.objs.size (fun j => decide (j ∈ zs)) n ∧ n ≤ zs.length ∧
      (∀ b o, st.heap.get? b = some o → hp.get? b = some o)) E) F.called_set.init.plain F.entry_set_init (check_set_init_1 tyS ?_)) fun r2 st2 res2 => ?_
    · obtain ⟨⟨kls, dd, dat, sls⟩, atL, e1, nl, e2⟩ := isL
      simp only at e1 e2
      subst e1; subst e2
      have atL2 : (st.heap.push (emptyO w)).get? p = some { cls := .type "list", dict := dd, data := .seq xs nl, slots := sls } := Heap.get?_push_of_some _ atL
      have sub1 := F.sub_list_set
      have sub2 := F.sub_list_frozenset
      have noD : (Value.type "list" == Value.type "dict") = false := by decide
      have isL2 : (st.heap.push (emptyO w)).IsList p xs := ⟨_, atL2, rfl, nl, rfl⟩
      unfold Builtin.«set.__init__» noKeywords Builtin.Frozenset.updateFrom
      generalize hIt : pyIter = IT
      wp_walk
      subst hIt
      refine wpAny_pyIter_list isL2 ?_
      refine wpAny_bind (wpAny_runValue ?_)
      have pLt : p < st.heap.objs.size := Heap.lt_size atL
      have calm3 : A.in1.in1.in1.handled = none := by simp [calmA]
      have pNe : p ≠ (st.heap.push (emptyO w)).objs.size := by
        rw [Heap.size_push]
        exact fun z => absurd pLt (by rw [z]; exact Nat.not_lt.mpr (Nat.le_succ _))
      have sFar : st.heap.objs.size ∉ [(st.heap.push (emptyO w)).objs.size, p] := by
        rw [Heap.size_push]
        simp only [List.mem_cons, List.not_mem_nil, or_false, not_or]
        exact ⟨fun z => Nat.succ_ne_self _ z.symm, fun z => Nat.lt_irrefl _ (z ▸ pLt)⟩
      have vals : ∀ (i : Nat) (v : Value), xs[i]? = some v → ∃ k t, zs[i]? = some k ∧ v = .int k t := fun i v hv => by
        have lt : i < zs.length := by rw [← size]; exact (Array.getElem?_eq_some_iff.mp hv).1
        obtain ⟨t, e⟩ := PyProof.Rows.IntsAre.int_at areI i v (by rw [Array.getElem?_toList]; exact hv)
        exact ⟨zs[i], t, List.getElem?_eq_getElem lt, by rw [e, List.getD_eq_getElem?_getD, List.getElem?_eq_getElem lt]; rfl⟩
      refine set_update_ints ((Walks.list calm3 _ p pNe xs).toS) st.heap.objs.size sFar zs size few vals (xs.size - 0) 0 _ (by omega) (Nat.zero_le _) ⟨⟨_, Heap.get?_push_size _ rfl, rfl, rfl⟩, (isL2.push _)⟩
        ⟨0, Nat.le_refl 0, setR_new_at (Heap.get?_push_of_some _ atS)⟩ fun st3 n moved hn isR => ?_
      obtain ⟨hp, g2, d2, tk2, os2⟩ := st3
      have q1 : g2 = st.gens := moved.gens
      have q2 : d2 = st.drawn := moved.drawn
      have q3 : os2 = st.os := moved.os
      subst q1; subst q2; subst q3
      show wpAny _ _ _ _ _ _
      refine wpAny_pure ?_
      show wpAny _ _ (ret Value.none) _ _ _
      rw [size] at hn
      refine wpAny_pure ⟨rfl, hp, tk2, n, rfl, isR, hn, fun b o ob => ?_⟩
      have lt := Heap.lt_size ob
      refine moved.heap b o ?_ (Heap.get?_push_of_some _ (Heap.get?_push_of_some _ ob))
      simp only [List.mem_cons, List.not_mem_nil, or_false, not_or]
      rw [Heap.size_push]
      exact ⟨fun z => Nat.lt_irrefl _ (z ▸ lt), fun z => absurd lt (by rw [z]; exact Nat.not_lt.mpr (Nat.le_succ _))⟩
    · match r2, res2 with
      | .error e, res2 => exact res2
      | .ok .next, res2 => exact res2.elim
      | .ok .brk, res2 => exact res2.elim
      | .ok .cont, res2 => exact res2.elim
      | .ok (.ret r), res2 =>
        obtain ⟨rfl, hp, tk, n, rfl, isR, hn, keep⟩ := res2
        repeat (any_goals (first | assumption | wp_step))
        exact fin _ _ _ isR hn keep
set_option maxHeartbeats 3200000 in
theorem call_set_tupI {p : Addr} {xs : Array Value} (zs : List Int) {Q : Value → Shared → Prop} (calmA : A.handled = none) (isL : Heap.IsTuple st.heap p xs) (areI : IntsAre xs.toList zs) (few : zs.length + 1 < scanBound)
    (fin : ∀ (hp : Heap) (tk n : Nat), SetR w hp st.heap.objs.size (fun j => decide (j ∈ zs)) n → n ≤ zs.length → (∀ b o, st.heap.get? b = some o → hp.get? b = some o) → Q (.ref st.heap.objs.size) { st with heap := hp, toks := tk }) :
    wpAny (model P w) A (call (.type "set") [.ref p]) Q E st := by
  have size : xs.size = zs.length := by
    have z := IntsAre.length areI
    rwa [Array.length_toList] at z
  obtain ⟨cc, tl, mro⟩ := F.called_set.mro
  have made := F.called_set.made
  have subs := F.called_set.sub
  refine wpAny_call (codeAny_of_tree ?_)
  show wpAny _ _ (callAny (.type "set") _) _ _ _
  refine wpAny_pure ⟨Code.quiet_builtin _ (by decide +kernel), codeAny_builtin F.entry_type_call ?_⟩
  rw [Around.under_plain (weight_type_call_type "set" [.ref p] []) rfl]
  have noTy := F.called_set.notType
  have canC := F.called_set.canCreate
  have tyC := F.typeCall_set_1 (.ref p)
  repeat (any_goals (first | assumption | wp_step))
  refine codeAny_mono (code_set_led1 (.ref p) (E := E) (Q₁ := fun ob st1 => ob = .ref st.heap.objs.size ∧ st1 = { st with heap := st.heap.push (emptyO w) }) ⟨rfl, rfl⟩) fun r st1 res => ?_
  match r, res with
  | .error e, res => exact res
  | .ok .next, res => exact res.elim
  | .ok .brk, res => exact res.elim
  | .ok .cont, res => exact res.elim
  | .ok (.ret ob), res =>
    obtain ⟨rfl, rfl⟩ := res
    have atS : (st.heap.push (emptyO w)).get? st.heap.objs.size = some (emptyO w) := Heap.get?_push_size _ rfl
    have tyS : Shared.TypeIs { st with heap := st.heap.push (emptyO w) } (.ref st.heap.objs.size) "set" := ⟨_, atS, rfl⟩
    have ini := F.called_set.init.lookup
    have inb := F.called_set.init.bind (.ref st.heap.objs.size)
    repeat (any_goals (first | assumption | wp_step))
    refine codeAny_mono (codeAny_call_builtin (R := wants (fun r st2 => r = .none ∧ ∃ hp tk n, st2 = { st with heap := hp, toks := tk } ∧ SetR w hp st.heap.objs.size (fun j => decide (j ∈ zs)) n ∧ n ≤ zs.length ∧
      (∀ b o, st.heap.get? b = some o → hp.get? b = some o)) E) F.called_set.init.plain F.entry_set_init (check_set_init_1 tyS ?_)) fun r2 st2 res2 => ?_
    · obtain ⟨⟨kls, dd, dat, sls⟩, atL, e1, nl, e2⟩ := isL
      simp only at e1 e2
      subst e1; subst e2
      have atL2 : (st.heap.push (emptyO w)).get? p = some { cls := .type "tuple", dict := dd, data := .seq xs nl, slots := sls } := Heap.get?_push_of_some _ atL
      have sub1 := F.sub_tuple_set
      have sub2 := F.sub_tuple_frozenset
      have noD : (Value.type "tuple" == Value.type "dict") = false := by decide
      have isL2 : (st.heap.push (emptyO w)).IsTuple p xs := ⟨_, atL2, rfl, nl, rfl⟩
      unfold Builtin.«set.__init__» noKeywords Builtin.Frozenset.updateFrom
      generalize hIt : pyIter = IT
      wp_walk
      subst hIt
      refine wpAny_pyIter_tuple isL2 ?_
      refine wpAny_bind (wpAny_runValue ?_)
      have pLt : p < st.heap.objs.size := Heap.lt_size atL
      have calm3 : A.in1.in1.in1.handled = none := by simp [calmA]
      have pNe : p ≠ (st.heap.push (emptyO w)).objs.size := by
        rw [Heap.size_push]
        exact fun z => absurd pLt (by rw [z]; exact Nat.not_lt.mpr (Nat.le_succ _))
      have sFar : st.heap.objs.size ∉ [(st.heap.push (emptyO w)).objs.size, p] := by
        rw [Heap.size_push]
        simp only [List.mem_cons, List.not_mem_nil, or_false, not_or]
        exact ⟨fun z => Nat.succ_ne_self _ z.symm, fun z => Nat.lt_irrefl _ (z ▸ pLt)⟩
      have vals : ∀ (i : Nat) (v : Value), xs[i]? = some v → ∃ k t, zs[i]? = some k ∧ v = .int k t := fun i v hv => by
        have lt : i < zs.length := by rw [← size]; exact (Array.getElem?_eq_some_iff.mp hv).1
        obtain ⟨t, e⟩ := PyProof.Rows.IntsAre.int_at areI i v (by rw [Array.getElem?_toList]; exact hv)
        exact ⟨zs[i], t, List.getElem?_eq_getElem lt, by rw [e, List.getD_eq_getElem?_getD, List.getElem?_eq_getElem lt]; rfl⟩
      refine set_update_ints ((Walks.tuple calm3 _ p pNe xs).toS) st.heap.objs.size sFar zs size few vals (xs.size - 0) 0 _ (by omega) (Nat.zero_le _) ⟨⟨_, Heap.get?_push_size _ rfl, rfl, rfl⟩, (isL2.push _)⟩
        ⟨0, Nat.le_refl 0, setR_new_at (Heap.get?_push_of_some _ atS)⟩ fun st3 n moved hn isR => ?_
      obtain ⟨hp, g2, d2, tk2, os2⟩ := st3
      have q1 : g2 = st.gens := moved.gens
      have q2 : d2 = st.drawn := moved.drawn
      have q3 : os2 = st.os := moved.os
      subst q1; subst q2; subst q3
      show wpAny _ _ _ _ _ _
      refine wpAny_pure ?_
      show wpAny _ _ (ret Value.none) _ _ _
      rw [size] at hn
      refine wpAny_pure ⟨rfl, hp, tk2, n, rfl, isR, hn, fun b o ob => ?_⟩
      have lt := Heap.lt_size ob
      refine moved.heap b o ?_ (Heap.get?_push_of_some _ (Heap.get?_push_of_some _ ob))
      simp only [List.mem_cons, List.not_mem_nil, or_false, not_or]
      rw [Heap.size_push]
      exact ⟨fun z => Nat.lt_irrefl _ (z ▸ lt), fun z => absurd lt (by rw [z]; exact Nat.not_lt.mpr (Nat.le_succ _))⟩
    · match r2, res2 with
      | .error e, res2 => exact res2
      | .ok .next, res2 => exact res2.elim
      | .ok .brk, res2 => exact res2.elim
      | .ok .cont, res2 => exact res2.elim
      | .ok (.ret r), res2 =>
        obtain ⟨rfl, hp, tk, n, rfl, isR, hn, keep⟩ := res2
        repeat (any_goals (first | assumption | wp_step))
        exact fin _ _ _ isR hn keep
end
section
variable {X : Cx}
/-- set(xs), xs a list of ints -/
def rSetLI (K : PySem.W.Frag) (w : World) : List V → Hp → VK → Prop := fun xs H Q => ∃ (a : Addr) (zs : List Int), xs = [V.ref a] ∧ SqL K H a (zs.map V.int) ∧ zs.length + 1 < scanBound ∧
  ∀ p n, H p = none → n ≤ zs.length → Q (.ref p) (upd H p (SetO w p (fun j => decide (j ∈ zs)) n))
theorem cr_setLI (hc : X.calm = true) : CallR X (.type "set") (rSetLI X.K X.w) := by
  intro pins st σ H vs us Q J rv h
  obtain ⟨a, zs, rfl, hs, few, q⟩ := h
  obtain ⟨its, rI, hl, hz⟩ := J.list hs
  rw [Vals.ref1 rv]
  refine call_set_listI zs (J.ok.hd hc) hl.isList (by simpa using rI.ints) few fun hp tk n isR hn keep => ?_
  exact ⟨.ref st.heap.objs.size, upd H st.heap.objs.size (SetO X.w st.heap.objs.size (fun j => decide (j ∈ zs)) n), J.laid (t' := tk) keep (Nat.le_refl _) (setO_new isR), rfl, q _ n (J.hok.fresh (Nat.le_refl _)) hn⟩
/-- set(xs), xs a tuple of ints -/
def rSetTI (K : PySem.W.Frag) (w : World) : List V → Hp → VK → Prop := fun xs H Q => ∃ (a : Addr) (zs : List Int), xs = [V.ref a] ∧ SqT K H a (zs.map V.int) ∧ zs.length + 1 < scanBound ∧
  ∀ p n, H p = none → n ≤ zs.length → Q (.ref p) (upd H p (SetO w p (fun j => decide (j ∈ zs)) n))
theorem cr_setTI (hc : X.calm = true) : CallR X (.type "set") (rSetTI X.K X.w) := by
  intro pins st σ H vs us Q J rv h
  obtain ⟨a, zs, rfl, hs, few, q⟩ := h
  obtain ⟨its, rI, hl, hz⟩ := J.tuple hs
  rw [Vals.ref1 rv]
  refine call_set_tupI zs (J.ok.hd hc) hl (by simpa using rI.ints) few fun hp tk n isR hn keep => ?_
  exact ⟨.ref st.heap.objs.size, upd H st.heap.objs.size (SetO X.w st.heap.objs.size (fun j => decide (j ∈ zs)) n), J.laid (t' := tk) keep (Nat.le_refl _) (setO_new isR), rfl, q _ n (J.hok.fresh (Nat.le_refl _)) hn⟩
end
end L3
end
section
set_option Elab.async false
set_option linter.all false
set_option maxRecDepth 100000
set_option autoImplicit false
/-! L3v: sorted of a set of tuples of ints, of any lengths (own work). -/
namespace L3
open PySem PySem.Spec PyProof.Rows L2
section
variable {P : Program} {w : World} {A : Around} {E : Value → Shared → Prop} {s : Shared}
def keyOfL (L : List (Addr × List Int)) (v : Value) : List Int := ((L.find? fun q => decide (Value.ref q.1 = v)).map (·.2)).getD []
theorem keyOfL_at {h : Heap} {L : List (Addr × List Int)} (ht : ∀ p ∈ L, IsT P w h p.2 p.1) {q : Addr × List Int} (hq : q ∈ L) : keyOfL L (.ref q.1) = q.2 := by
  unfold keyOfL
  cases z : L.find? fun r => decide (Value.ref r.1 = Value.ref q.1) with
  | none =>
    have := List.find?_eq_none.mp z q hq
    simp at this
  | some r =>
    have h1 := List.mem_of_find?_eq_some z
    have h2 := List.find?_some z
    simp only [decide_eq_true_eq, Value.ref.injEq] at h2
    have a1 := ht r h1
    have a2 := ht q hq
    rw [h2] at a1
    exact a1.inj a2
theorem isTI_of {h : Heap} {k : List Int} {b : Addr} (x : IsT P w h k b) : IsTI h (.ref b) k := by
  obtain ⟨o, items, n, ho, hc, hd, hi⟩ := x
  exact ⟨b, o, items, n, rfl, ho, hc, hd, ints_of_items hi⟩
theorem sorted_setTI {a : Addr} {L : List (Addr × List Int)} {es : Array (Int × Value)} {ep : Nat} {t : SetTable} {Q : Value → Shared → Prop} (R : SetTR P w s.heap a L es ep t) (calmA : A.handled = none) (hu : A.units + 64 < cLine)
    (fin : ∀ st2 p (out : Array Value) (c : Nat), (∀ b o, s.heap.get? b = some o → st2.heap.get? b = some o) → st2.gens = s.gens → st2.os = s.os → s.heap.objs.size ≤ p →
      st2.heap.get? p = some (seqObj "list" out c) → out.toList.Perm (L.map fun q => Value.ref q.1) → out.toList.Pairwise (fun u v => HT.lexLt (keyOfL L v) (keyOfL L u) = false) → Q (.ref p) st2) :
    wpAny (model P w) A (call (.builtin "sorted") [.ref a]) Q E s := by
  obtain ⟨ob, atA, exact1, data⟩ := R.ob
  have size := R.size
  have few := R.few
  refine Calls.call_function_entry kind_sorted plain_sorted entry_sorted (args_sorted1 _) ?_
  unfold Builtin.«sorted»
  refine wpAny_bind (m := checkCount "sorted" 1 1 _) (wpAny_pure ?_)
  refine wpAny_bind (collect_set (A := A.in1) calmA ⟨ob, atA, exact1.1, data⟩ R.fits (by unfold scanBound; omega) R.tab.ris R.led fun st1 vs keep1 grow1 g1 o1 perm1 => ?_)
  have rows : es.toList.map (·.2) = L.map fun q => Value.ref q.1 := by
    rw [R.rows]
    unfold rowsOf
    rw [List.map_map]
    rfl
  rw [rows] at perm1
  have vlen : vs.length < 64 := by rw [perm1.length_eq, List.length_map]; exact few
  have vsz : vs.length ≤ sizeLine := by rw [sizeLine_eq]; omega
  refine wpAny_bind (wpAny_newList ?_ vsz)
  have atN : (st1.heap.push (seqObj "list" vs.toArray 0)).get? st1.heap.objs.size = some (seqObj "list" vs.toArray 0) := Heap.get?_push_size _ rfl
  have ti : ∀ v ∈ vs, IsTI (st1.heap.push (seqObj "list" vs.toArray 0)) v (keyOfL L v) := fun v hv => by
    obtain ⟨q, hq, e⟩ := List.mem_map.mp (perm1.mem_iff.mp hv)
    rw [← e, keyOfL_at R.tup hq]
    exact isTI_of (isT_keep (R.tup q hq) fun b u z => Heap.get?_push_of_some _ (keep1 b u z))
  refine wpAny_bind (wpAny_holding (wpAny_call_entry slot_list_sort ⟨_, atN, rfl⟩ entry_list_sort (SrtO.list_sort_ord (swo_ti fun v => keyOfL L v) atN vsz (fun h2 h' kp' => ?_) fun out hs hb => ⟨_, rfl, ?_⟩) (args_list_sort _)))
  · have ti' : ∀ v ∈ vs, IsTI h' v (keyOfL L v) := fun v hv => (ti v hv).keeps fun b o ho hc => kp' b o (fun z => by subst z; rw [atN] at ho; cases ho; exact absurd (show Value.type "list" = Value.type "tuple" from hc) (by decide)) ho
    obtain ⟨κ, hκ, hw⟩ := ti_kind (prog := P) (w := w) (A := A.in1.in1) (s := { st1 with heap := h' }) h2 ti'
    exact ⟨κ, hw, ti_cmp (s := { st1 with heap := h' }) κ hκ (by show A.units + 1 + 1 < cLine; omega) ti'⟩
  · obtain ⟨c, hc⟩ := sortedHeap_at (vs := vs) (out := out.toArray) atN
    refine wpAny_pure ⟨_, rfl, fin _ st1.heap.objs.size out.toArray c (fun b u e => ?_) g1 o1 grow1 hc (hb.perm.trans perm1) hs⟩
    have z := keep1 b u e
    have lt := Heap.lt_size z
    show (sortedHeap (st1.heap.push (seqObj "list" vs.toArray 0)) st1.heap.objs.size vs out.toArray).get? b = some u
    rw [sortedHeap_old (Nat.ne_of_lt lt) (by rw [size_push']; exact Nat.lt_succ_of_lt lt)]
    exact Heap.get?_push_of_some _ z
end
section
variable {X : Cx}
def rSortedSTI (K : PySem.W.Frag) (P : Program) (w : World) : List V → Hp → VK → Prop := fun vs H Q => ∃ (a : Addr) (L : List (Addr × List Int)), vs = [V.ref a] ∧ H a = some (SetTO P w a L) ∧ (∀ p ∈ L, SqT K H p.1 (p.2.map V.int)) ∧
  ∀ (L2 : List (Addr × List Int)) (p : Addr), L2.Perm L → (L.map (·.2)).Nodup → L2.Pairwise (fun q r => HT.lexLt r.2 q.2 = false) → H p = none → Q (.ref p) (upd H p (.lst (L2.map fun q => V.ref q.1)))
theorem unref {L : List (Addr × List Int)} : ∀ {us : List Value}, (∀ u ∈ us, u ∈ L.map fun q => Value.ref q.1) → ∃ L2 : List (Addr × List Int), us = L2.map (fun q => Value.ref q.1) ∧ ∀ q ∈ L2, q ∈ L
  | [], _ => ⟨[], rfl, fun q hq => by cases hq⟩
  | u :: us, h => by
    obtain ⟨q, hq, e⟩ := List.mem_map.mp (h u List.mem_cons_self)
    obtain ⟨L2, e2, h2⟩ := unref (us := us) fun v hv => h v (List.mem_cons_of_mem _ hv)
    refine ⟨q :: L2, by rw [List.map_cons, e, e2], fun r hr => ?_⟩
    rcases List.mem_cons.mp hr with rfl | hr
    · exact hq
    · exact h2 r hr
theorem cr_sortedSTI (hc : X.calm = true) (hu : X.A.units + 64 < cLine) : CallR X (.builtin "sorted") (rSortedSTI X.K X.prog X.w) := by
  intro pins st σ H vs us Q J rv h
  obtain ⟨a, L, rfl, ha, hk, q⟩ := h
  have R0 : SetT0 X.prog X.w st.heap a L := (J.hok a _ ha).1
  obtain ⟨es, ep, t, R⟩ := R0.full fun p hp => J.isT (hk p hp)
  rw [Vals.ref1 rv]
  refine sorted_setTI R (J.ok.hd hc) hu fun st2 p out c keep g o grow atP perm pw => ?_
  obtain ⟨L2, e2, sub⟩ := unref (us := out.toList) fun u hu => perm.mem_iff.mp hu
  have one : ∀ q ∈ L, ∀ r ∈ L, q.1 = r.1 → q = r := fun q hq r hr e => Prod.ext e (by
    have z := keyOfL_at R.tup hq
    rw [e, keyOfL_at R.tup hr] at z
    exact z.symm)
  have ndL : L.Nodup := nodup_of_map R.nd
  have ndV : (L.map fun q => Value.ref q.1).Nodup := List.pairwise_map.mpr (List.Pairwise.imp_of_mem (fun {q r} hq hr hne e => hne (one q hq r hr (by injection e))) ndL)
  rw [e2] at perm pw
  have nd2 : L2.Nodup := nodup_of_map (perm.nodup_iff.mpr ndV)
  have pL : L2.Perm L := (List.perm_ext_iff_of_nodup nd2 ndL).mpr fun q => ⟨sub q, fun hq => by
    obtain ⟨r, hr, e⟩ := List.mem_map.mp (perm.mem_iff.mpr (List.mem_map.mpr ⟨q, hq, rfl⟩))
    rw [← one r (sub r hr) q hq (by injection e)]
    exact hr⟩
  have pw2 : L2.Pairwise (fun q r => HT.lexLt r.2 q.2 = false) := List.Pairwise.imp_of_mem (fun {q r} hq hr z => by
    rw [keyOfL_at R.tup (sub q hq), keyOfL_at R.tup (sub r hr)] at z
    exact z) (List.pairwise_map.mp pw)
  have few2 : L2.length < 64 := by rw [pL.length_eq]; exact R.few
  have hlen : (L2.map fun q => V.ref q.1).length ≤ sizeLine := by
    rw [List.length_map, sizeLine_eq]
    omega
  have noP : H p = none := J.hok.fresh grow
  have vals2 : Vals (L2.map fun q => V.ref q.1) out.toList := by rw [e2]; exact vals_of_refs L2
  have same : st2 = { st with heap := st2.heap, gens := st2.gens, drawn := st2.drawn, toks := st2.toks } := by
    cases st2; cases st; cases o; rfl
  rw [same]
  exact ⟨.ref p, upd H p (.lst (L2.map fun q => V.ref q.1)), J.call (ch := []) (Un.laid keep grow noP) (J.hok.laid keep grow ⟨hlen, out.toList, c, vals2, atP⟩) (by rw [g]; exact J.bare) (fun _ z => nomatch z), rfl, q L2 p pL R.nd pw2 noP⟩
end
end L3
end
section
set_option Elab.async false
set_option linter.all false
set_option maxRecDepth 100000
set_option autoImplicit false
/-! L3j: operations by value over pure data (own work). -/
namespace L3
open PySem PySem.Spec PyProof.Rows L2
/-! ### as data of the library -/
mutual
def toP : D → PyData
  | .non => .none
  | .bl b => .bool b
  | .int i => .int i
  | .str x => .str x
  | .tup xs => .tuple (toPs xs)
  | .lst xs => .list (toPs xs)
  | .ty _ => .none
  | .deck => .none
  | .dic _ => .none
def toPs : List D → List PyData
  | [] => []
  | d :: ds => toP d :: toPs ds
end
mutual
/-- plain data, nested less than n deep -/
def okD : Nat → D → Bool
  | n + 1, .tup xs => okDs n xs
  | n + 1, .lst xs => okDs n xs
  | 0, .tup _ => false
  | 0, .lst _ => false
  | _, .ty _ => false
  | _, .deck => false
  | _, .dic _ => false
  | _, .non => true
  | _, .bl _ => true
  | _, .int _ => true
  | _, .str x => PyData.strOk x
def okDs : Nat → List D → Bool
  | _, [] => true
  | n, d :: ds => okD n d && okDs n ds
end
theorem toPs_map : ∀ ds : List D, toPs ds = ds.map toP
  | [] => rfl
  | d :: ds => by rw [toPs, toPs_map ds]; rfl
mutual
theorem ok_lay : ∀ (n : Nat) (d : D), okD n d = true → (toP d).canLay0 = true ∧ (toP d).depth ≤ n
  | n + 1, .tup xs, h => by
    obtain ⟨h1, h2⟩ := ok_lays n xs h
    exact ⟨by simpa [toP, PyData.canLay0] using h1, by simp only [toP, PyData.depth]; omega⟩
  | n + 1, .lst xs, h => by
    obtain ⟨h1, h2⟩ := ok_lays n xs h
    exact ⟨by simpa [toP, PyData.canLay0] using h1, by simp only [toP, PyData.depth]; omega⟩
  | 0, .tup _, h => by simp [okD] at h
  | 0, .lst _, h => by simp [okD] at h
  | n, .non, _ => ⟨by simp [toP, PyData.canLay0], by simp [toP, PyData.depth]⟩
  | n, .bl _, _ => ⟨by simp [toP, PyData.canLay0], by simp [toP, PyData.depth]⟩
  | n, .int _, _ => ⟨by simp [toP, PyData.canLay0], by simp [toP, PyData.depth]⟩
  | n, .str _, h => ⟨by cases n <;> simpa [toP, PyData.canLay0, okD] using h, by simp [toP, PyData.depth]⟩
  | n, .ty _, h => by cases n <;> simp [okD] at h
  | n, .deck, h => by cases n <;> simp [okD] at h
  | n, .dic _, h => by cases n <;> simp [okD] at h
theorem ok_lays : ∀ (n : Nat) (ds : List D), okDs n ds = true → PyData.canLayAll0 (toPs ds) = true ∧ PyData.depthAll (toPs ds) ≤ n
  | n, [], _ => ⟨by simp [toPs, PyData.canLayAll0], by simp [toPs, PyData.depthAll]⟩
  | n, d :: ds, h => by
    simp only [okDs, Bool.and_eq_true] at h
    obtain ⟨h1, h2⟩ := ok_lay n d h.1
    obtain ⟨h3, h4⟩ := ok_lays n ds h.2
    exact ⟨by simp [toPs, PyData.canLayAll0, h1, h3], by simp only [toPs, PyData.depthAll]; omega⟩
end
theorem ok_shaped {n : Nat} {d : D} (h : okD n d = true) (hn : n ≤ 64) : SeqAt.shaped (toP d) = true := by
  obtain ⟨h1, h2⟩ := ok_lay n d h
  unfold SeqAt.shaped
  rw [h1]
  simp only [Bool.true_and, decide_eq_true_eq]
  omega
section
variable {K : PySem.W.Frag} {tk : Addr} {H : Hp} {av : Addr → Prop}
mutual
theorem rep_dp : ∀ {n : Nat} {v : V} {d : D}, Rep K tk H av v d → okD n d = true → Dp K H v (toP d)
  | _, _, _, .non, _ => .non
  | _, _, _, .bl b, _ => .bl b
  | _, _, _, .int i, _ => .int i
  | _, _, _, .str x, _ => .str x
  | n, _, _, .ty m, h => by cases n <;> simp [okD] at h
  | n, _, _, .deck, h => by cases n <;> simp [okD] at h
  | 0, _, _, .tup _ _, h => by simp [okD] at h
  | 0, _, _, .lst _ _ _, h => by simp [okD] at h
  | n + 1, _, _, .tup q r, h => .tup q (rep_dps r h)
  | n + 1, _, _, .lst q _ r, h => .lst (.inl (.inl q)) (rep_dps r h)
  | n, _, _, .dic _ _ _, h => by cases n <;> simp [okD] at h
theorem rep_dps : ∀ {n : Nat} {vs : List V} {ds : List D}, RepL K tk H av vs ds → okDs n ds = true → DpAll K H vs (toPs ds)
  | _, _, _, .nil, _ => .nil
  | n, _, _, .cons q r, h => by
    simp only [okDs, Bool.and_eq_true] at h
    exact .cons (rep_dp q h.1) (rep_dps r h.2)
end
end
/-! ### an operation with its reading -/
def OpV (X : Cx) (tk : Addr) (g : Value → Value → Sem Value) (f : D → D → Option D) : Prop := ∃ r, OpR X g r ∧ V2 X.K tk r f
def CaV (X : Cx) (tk : Addr) (g : Value) (f : List D → Option D) : Prop := ∃ r, CallR X g r ∧ VC X.K tk r f
section
variable {X : Cx} {tk : Addr}
def intD (f : Int → Int → Option D) : D → D → Option D
  | .int i, .int j => f i j
  | _, _ => none
theorem intD_some {f : Int → Int → Option D} {x y d : D} (h : intD f x y = some d) : ∃ i j, x = .int i ∧ y = .int j ∧ f i j = some d := by
  unfold intD at h
  split at h
  · exact ⟨_, _, rfl, rfl, h⟩
  · cases h
/-- sum, joined lists, joined tuples -/
def addD : D → D → Option D
  | .int i, .int j => some (.int (i + j))
  | .lst xs, .lst ys => if xs.length + ys.length ≤ sizeLine then some (.lst (xs ++ ys)) else none
  | .tup xs, .tup ys => if xs.length + ys.length ≤ sizeLine then some (.tup (xs ++ ys)) else none
  | _, _ => none
theorem ov_add : OpV X tk (binaryOp .Add) addD := by
  refine ⟨_, (op_add.or op_cat).or op_catA, fun H av x y dx dy d Q hav rx ry e q => ?_⟩
  unfold addD at e
  split at e
  · rename_i i j
    cases e
    cases rx
    cases ry
    exact .inl (.inl ⟨i, j, rfl, rfl, q.val (.int _) fun _ z => by cases z⟩)
  · split at e
    · rename_i hz
      cases e
      cases rx with
      | lst h1 n1 r1 =>
        cases ry with
        | lst h2 n2 r2 => exact .inl (.inr ⟨_, _, _, _, rfl, rfl, h1, h2, by rw [r1.length, r2.length]; exact hz, fun p hp => q.lst hav (r1.append r2) hp⟩)
    · cases e
  · rename_i ds es
    split at e
    · rename_i hz
      cases e
      cases rx with
      | tup h1 r1 =>
        cases ry with
        | tup h2 r2 =>
          refine .inr ⟨_, _, _, _, rfl, rfl, h1, h2, by rw [r1.length, r2.length]; exact hz, fun e => ?_, fun _ e => ?_, fun _ _ p hp => q.tup (r1.append r2) hp⟩
          · subst e
            cases r1
            exact q.val (.tup h2 r2) fun _ z => by cases z
          · subst e
            cases r2
            rw [List.append_nil] at q
            exact q.val (.tup h1 r1) fun _ z => by cases z
    · cases e
  · cases e
theorem ov_int {g : Value → Value → Sem Value} {C : Int → Int → Prop} {h : Int → Int → V} {f : Int → Int → Option D} (ho : OpR X g (rI C h)) (hf : ∀ i j d, f i j = some d → C i j ∧ (∀ H av, Rep X.K tk H av (h i j) d) ∧ ∀ ds, d ≠ .lst ds) : OpV X tk g (intD f) := by
  refine ⟨_, ho, fun H av x y dx dy d Q hav rx ry e q => ?_⟩
  obtain ⟨i, j, rfl, rfl, e⟩ := intD_some e
  obtain ⟨h1, h2, h3⟩ := hf i j d e
  cases rx
  cases ry
  exact ⟨i, j, rfl, rfl, h1, q.val (h2 H av) h3⟩
theorem ov_int0 {g : Value → Value → Sem Value} {h : Int → Int → V} {f : Int → Int → Option D} (ho : OpR X g (rI0 h)) (hf : ∀ i j d, f i j = some d → (∀ H av, Rep X.K tk H av (h i j) d) ∧ ∀ ds, d ≠ .lst ds) : OpV X tk g (intD f) := by
  refine ⟨_, ho, fun H av x y dx dy d Q hav rx ry e q => ?_⟩
  obtain ⟨i, j, rfl, rfl, e⟩ := intD_some e
  obtain ⟨h2, h3⟩ := hf i j d e
  cases rx
  cases ry
  exact ⟨i, j, rfl, rfl, q.val (h2 H av) h3⟩
def subD : D → D → Option D := intD fun i j => some (.int (i - j))
theorem ov_sub : OpV X tk (binaryOp .Sub) subD := ov_int0 op_sub fun i j d e => by cases e; exact ⟨fun _ _ => .int _, fun _ z => by cases z⟩
instance (i j : Int) : Decidable (CMul i j) := by unfold CMul; exact inferInstance
def mulD : D → D → Option D := intD fun i j => if CMul i j then some (.int (i * j)) else none
theorem ov_mul : OpV X tk (binaryOp .Mult) mulD := ov_int op_mul fun i j d e => by
  split at e
  · rename_i h
    cases e
    exact ⟨h, fun _ _ => .int _, fun _ z => by cases z⟩
  · cases e
def divD : D → D → Option D := intD fun i j => if 0 < j ∧ j < 1073741824 then some (.int (i / j)) else none
theorem ov_div : OpV X tk (binaryOp .FloorDiv) divD := ov_int op_fdiv fun i j d e => by
  split at e
  · rename_i h
    cases e
    exact ⟨h, fun _ _ => .int _, fun _ z => by cases z⟩
  · cases e
def modD : D → D → Option D := intD fun i j => if 0 < j then some (.int (i % j)) else none
theorem ov_mod : OpV X tk (binaryOp .Mod) modD := ov_int op_mod fun i j d e => by
  split at e
  · rename_i h
    cases e
    exact ⟨h, fun _ _ => .int _, fun _ z => by cases z⟩
  · cases e
instance (i j : Int) : Decidable (CPow i j) := by unfold CPow; exact inferInstance
def powD : D → D → Option D := intD fun i j => if CPow i j then some (.int (i ^ j.toNat)) else none
theorem ov_pow : OpV X tk (binaryOp .Pow) powD := ov_int op_pow fun i j d e => by
  split at e
  · rename_i h
    cases e
    exact ⟨h, fun _ _ => .int _, fun _ z => by cases z⟩
  · cases e
def shlD : D → D → Option D := intD fun i j => if CPow i j then some (.int (i * 2 ^ j.toNat)) else none
theorem ov_shl : OpV X tk (binaryOp .LShift) shlD := ov_int op_shl fun i j d e => by
  split at e
  · rename_i h
    cases e
    exact ⟨h, fun _ _ => .int _, fun _ z => by cases z⟩
  · cases e
def shrD : D → D → Option D := intD fun i j => if 0 ≤ j then some (.int (i / 2 ^ j.toNat)) else none
theorem ov_shr : OpV X tk (binaryOp .RShift) shrD := ov_int op_shr fun i j d e => by
  split at e
  · rename_i h
    cases e
    exact ⟨h, fun _ _ => .int _, fun _ z => by cases z⟩
  · cases e
def bandD : D → D → Option D := intD fun i j => some (.int (Builtin.bitAnd i j))
theorem ov_band : OpV X tk (binaryOp .BitAnd) bandD := ov_int0 op_and fun i j d e => by cases e; exact ⟨fun _ _ => .int _, fun _ z => by cases z⟩
def borD : D → D → Option D := intD fun i j => some (.int (Builtin.bitOr i j))
theorem ov_bor : OpV X tk (binaryOp .BitOr) borD := ov_int0 op_or fun i j d e => by cases e; exact ⟨fun _ _ => .int _, fun _ z => by cases z⟩
def bxorD : D → D → Option D := intD fun i j => some (.int (Builtin.bitXor i j))
theorem ov_bxor : OpV X tk (binaryOp .BitXor) bxorD := ov_int0 op_xor fun i j d e => by cases e; exact ⟨fun _ _ => .int _, fun _ z => by cases z⟩
def ltD : D → D → Option D := intD fun i j => some (.bl (decide (i < j)))
theorem ov_lt : OpV X tk (compareOp .Lt) ltD := ov_int0 op_lt fun i j d e => by cases e; exact ⟨fun _ _ => .bl _, fun _ z => by cases z⟩
def leD : D → D → Option D := intD fun i j => some (.bl (decide (i ≤ j)))
theorem ov_le : OpV X tk (compareOp .LtE) leD := ov_int0 op_le fun i j d e => by cases e; exact ⟨fun _ _ => .bl _, fun _ z => by cases z⟩
def gtD : D → D → Option D := intD fun i j => some (.bl (decide (j < i)))
theorem ov_gt : OpV X tk (compareOp .Gt) gtD := ov_int0 op_gt fun i j d e => by cases e; exact ⟨fun _ _ => .bl _, fun _ z => by cases z⟩
def geD : D → D → Option D := intD fun i j => some (.bl (decide (j ≤ i)))
theorem ov_ge : OpV X tk (compareOp .GtE) geD := ov_int0 op_ge fun i j d e => by cases e; exact ⟨fun _ _ => .bl _, fun _ z => by cases z⟩
/-- == of data -/
def eqB (x y : D) : Bool := PyData.eqv (toP x) (toP y)
def strs2 : D → D → Bool
  | .str _, .str _ => true
  | _, _ => false
def eqD (x y : D) : Option D := if (okD 60 x && okD 60 y) || strs2 x y then some (.bl (eqB x y)) else none
def neD (x y : D) : Option D := if (okD 60 x && okD 60 y) || strs2 x y then some (.bl (!eqB x y)) else none
theorem strs2_some {x y : D} (h : strs2 x y = true) : ∃ a b, x = .str a ∧ y = .str b := by
  unfold strs2 at h
  split at h
  · exact ⟨_, _, rfl, rfl⟩
  · cases h
theorem str_eqB (a b : Str) : decide (V.str a = V.str b) = eqB (.str a) (.str b) := by
  rw [dec_str]
  simp [eqB, toP, PyData.eqv]
theorem ov_eq (hu : X.A.units + 64 < cLine) : OpV X tk (compareOp .Eq) eqD := by
  refine ⟨_, (op_eqD hu).or op_eq, fun H av x y dx dy d Q hav rx ry e q => ?_⟩
  unfold eqD at e
  split at e
  · rename_i h
    cases e
    rw [Bool.or_eq_true, Bool.and_eq_true] at h
    rcases h with h | h
    · exact .inl ⟨_, _, rep_dp rx h.1, rep_dp ry h.2, ok_shaped h.1 (by decide), ok_shaped h.2 (by decide), q.val (.bl _) fun _ z => by cases z⟩
    · obtain ⟨a, b, rfl, rfl⟩ := strs2_some h
      cases rx
      cases ry
      exact .inr ⟨rfl, by rw [str_eqB]; exact q.val (.bl _) fun _ z => by cases z⟩
  · cases e
theorem ov_ne (hu : X.A.units + 64 < cLine) : OpV X tk (compareOp .NotEq) neD := by
  refine ⟨_, (op_neD hu).or op_ne, fun H av x y dx dy d Q hav rx ry e q => ?_⟩
  unfold neD at e
  split at e
  · rename_i h
    cases e
    rw [Bool.or_eq_true, Bool.and_eq_true] at h
    rcases h with h | h
    · exact .inl ⟨_, _, rep_dp rx h.1, rep_dp ry h.2, ok_shaped h.1 (by decide), ok_shaped h.2 (by decide), q.val (.bl _) fun _ z => by cases z⟩
    · obtain ⟨a, b, rfl, rfl⟩ := strs2_some h
      cases rx
      cases ry
      exact .inr ⟨rfl, by rw [str_eqB]; exact q.val (.bl _) fun _ z => by cases z⟩
  · cases e
/-- x in a tuple of data -/
def rInTup (K : PySem.W.Frag) (neg : Bool) : R2 := fun x y H Q => ∃ d ds, Dp K H x d ∧ Dp K H y (.tuple ds) ∧ SeqAt.shaped d = true ∧ SeqAt.shaped (.tuple ds) = true ∧ Q (.bl (if neg then !(ds.any fun z => PyData.eqv z d) else ds.any fun z => PyData.eqv z d)) H
theorem op_inTup (hu : X.A.units + 65 < cLine) : OpR X (compareOp .In) (rInTup X.K false) := by
  intro pins st σ H x y v u Q J rx ry h
  obtain ⟨d, ds, hd, he, sd, se, q⟩ := h
  obtain ⟨as, r1⟩ := Dp.reads J d x v hd rx
  obtain ⟨bs, r2⟩ := Dp.reads J (.tuple ds) y u he ry
  exact SeqAt.in_tuple_reads r2 r1 (by simpa [PyData.canLay0] using SeqAt.canLay_of_shaped se) (SeqAt.canLay_of_shaped sd) (room_in_shaped sd hu) ⟨.bl _, H, J, rfl, q⟩
theorem op_ninTup (hu : X.A.units + 65 < cLine) : OpR X (compareOp .NotIn) (rInTup X.K true) := by
  intro pins st σ H x y v u Q J rx ry h
  obtain ⟨d, ds, hd, he, sd, se, q⟩ := h
  obtain ⟨as, r1⟩ := Dp.reads J d x v hd rx
  obtain ⟨bs, r2⟩ := Dp.reads J (.tuple ds) y u he ry
  exact SeqAt.notIn_tuple_reads r2 r1 (by simpa [PyData.canLay0] using SeqAt.canLay_of_shaped se) (SeqAt.canLay_of_shaped sd) (room_in_shaped sd hu) ⟨.bl _, H, J, rfl, q⟩
def inB (x : D) (ys : List D) : Bool := ys.any fun z => eqB z x
def inD (x y : D) : Option D := match seqD y with
  | some ys => if okD 60 x && okD 60 y then some (.bl (inB x ys)) else none
  | none => none
def ninD (x y : D) : Option D := match seqD y with
  | some ys => if okD 60 x && okD 60 y then some (.bl (!inB x ys)) else none
  | none => none
theorem any_toPs (ys : List D) (x : D) : ((toPs ys).any fun z => PyData.eqv z (toP x)) = inB x ys := by
  rw [toPs_map, List.any_map]
  rfl
theorem ov_in (hu : X.A.units + 65 < cLine) : OpV X tk (compareOp .In) inD := by
  refine ⟨_, (op_inD hu).or (op_inTup hu), fun H av x y dx dy d Q hav rx ry e q => ?_⟩
  unfold inD at e
  split at e
  · rename_i ys hs
    split at e
    · rename_i h
      rw [Bool.and_eq_true] at h
      cases e
      cases dy with
      | lst zs =>
        cases hs
        exact .inl ⟨_, _, rep_dp rx h.1, rep_dp ry h.2, ok_shaped h.1 (by decide), ok_shaped h.2 (by decide), by rw [any_toPs]; exact q.val (.bl _) fun _ z => by cases z⟩
      | tup zs =>
        cases hs
        exact .inr ⟨_, _, rep_dp rx h.1, rep_dp ry h.2, ok_shaped h.1 (by decide), ok_shaped h.2 (by decide), by rw [any_toPs]; exact q.val (.bl _) fun _ z => by cases z⟩
      | _ => cases hs
    · cases e
  · cases e
theorem ov_nin (hu : X.A.units + 65 < cLine) : OpV X tk (compareOp .NotIn) ninD := by
  refine ⟨_, (op_notInD hu).or (op_ninTup hu), fun H av x y dx dy d Q hav rx ry e q => ?_⟩
  unfold ninD at e
  split at e
  · rename_i ys hs
    split at e
    · rename_i h
      rw [Bool.and_eq_true] at h
      cases e
      cases dy with
      | lst zs =>
        cases hs
        exact .inl ⟨_, _, rep_dp rx h.1, rep_dp ry h.2, ok_shaped h.1 (by decide), ok_shaped h.2 (by decide), by rw [any_toPs]; exact q.val (.bl _) fun _ z => by cases z⟩
      | tup zs =>
        cases hs
        exact .inr ⟨_, _, rep_dp rx h.1, rep_dp ry h.2, ok_shaped h.1 (by decide), ok_shaped h.2 (by decide), by rw [any_toPs]; exact q.val (.bl _) fun _ z => by cases z⟩
      | _ => cases hs
    · cases e
  · cases e
/-- they give truth values -/
theorem isB_int {f : Int → Int → Option D} (h : ∀ i j d, f i j = some d → ∃ k, d = .bl k) : isB (intD f) := fun x y d e => let ⟨i, j, _, _, e⟩ := intD_some e; h i j d e
theorem isB_lt : isB ltD := isB_int fun _ _ _ e => by cases e; exact ⟨_, rfl⟩
theorem isB_le : isB leD := isB_int fun _ _ _ e => by cases e; exact ⟨_, rfl⟩
theorem isB_gt : isB gtD := isB_int fun _ _ _ e => by cases e; exact ⟨_, rfl⟩
theorem isB_ge : isB geD := isB_int fun _ _ _ e => by cases e; exact ⟨_, rfl⟩
theorem isB_eq : isB eqD := fun x y d e => by
  unfold eqD at e
  split at e
  · cases e; exact ⟨_, rfl⟩
  · cases e
theorem isB_ne : isB neD := fun x y d e => by
  unfold neD at e
  split at e
  · cases e; exact ⟨_, rfl⟩
  · cases e
theorem isB_in : isB inD := fun x y d e => by
  unfold inD at e
  split at e
  · split at e
    · cases e; exact ⟨_, rfl⟩
    · cases e
  · cases e
theorem isB_nin : isB ninD := fun x y d e => by
  unfold ninD at e
  split at e
  · split at e
    · cases e; exact ⟨_, rfl⟩
    · cases e
  · cases e
/-! ### calls -/
theorem repL1' {K : PySem.W.Frag} {tk : Addr} {H : Hp} {av : Addr → Prop} {xs : List V} {d : D} (r : RepL K tk H av xs [d]) : ∃ v, xs = [v] ∧ Rep K tk H av v d := by
  cases r with
  | cons r q =>
    cases q
    exact ⟨_, rfl, r⟩
def seq1 (f : List D → Option D) : List D → Option D
  | [.lst xs] => f xs
  | [.tup xs] => f xs
  | _ => none
def lenD : List D → Option D := seq1 fun xs => some (.int xs.length)
theorem cv_len : CaV X tk (.builtin "len") lenD := by
  refine ⟨_, call_len_seq, fun H av xs ds d Q hav rl e q => ?_⟩
  unfold lenD seq1 at e
  split at e
  · cases e
    obtain ⟨v, rfl, r⟩ := repL1' rl
    cases r with
    | lst hp _ r => exact ⟨_, _, rfl, .inl (.inl (.inl hp)), by rw [r.length]; exact q.val (.int _) fun _ z => by cases z⟩
  · cases e
    obtain ⟨v, rfl, r⟩ := repL1' rl
    cases r with
    | tup hp r => exact ⟨_, _, rfl, .inr hp, by rw [r.length]; exact q.val (.int _) fun _ z => by cases z⟩
  · cases e
end
end L3
end
section
set_option Elab.async false
set_option linter.all false
set_option maxRecDepth 100000
set_option autoImplicit false
/-! L3k: calls of built-ins, subscripts, slices over pure data (own work). -/
namespace L3
open PySem PySem.Spec PyProof.Rows L2
section
variable {X : Cx} {tk : Addr}
theorem CaV.or {g : Value} {f f' F : List D → Option D} (h : CaV X tk g f) (h' : CaV X tk g f') (o : ∀ ds d, F ds = some d → f ds = some d ∨ f' ds = some d) : CaV X tk g F := by
  obtain ⟨r, c, v⟩ := h
  obtain ⟨r', c', v'⟩ := h'
  refine ⟨_, c.or c', fun H av xs ds d Q hav rl e q => ?_⟩
  rcases o ds d e with z | z
  · exact .inl (v H av xs ds d Q hav rl z q)
  · exact .inr (v' H av xs ds d Q hav rl z q)
/-! ### tuple, list -/
def tupleD : List D → Option D := seq1 fun xs => some (.tup xs)
theorem cv_tuple : CaV X tk (.type "tuple") tupleD := by
  refine ⟨_, call_tuple_of, fun H av xs ds d Q hav rl e q => ?_⟩
  unfold tupleD seq1 at e
  split at e
  · cases e
    obtain ⟨v, rfl, r⟩ := repL1' rl
    cases r with
    | lst hp _ r => exact ⟨_, _, rfl, .inl ⟨.inl (.inl hp), fun p hp => q.tup r hp⟩⟩
  · cases e
    obtain ⟨v, rfl, r⟩ := repL1' rl
    cases r with
    | tup hp r => exact ⟨_, _, rfl, .inr ⟨hp, q.val (.tup hp r) fun _ z => by cases z⟩⟩
  · cases e
def listD : List D → Option D := seq1 fun xs => some (.lst xs)
theorem cv_list : CaV X tk (.type "list") listD := by
  refine ⟨_, call_list_of, fun H av xs ds d Q hav rl e q => ?_⟩
  unfold listD seq1 at e
  split at e
  · cases e
    obtain ⟨v, rfl, r⟩ := repL1' rl
    cases r with
    | lst hp _ r => exact ⟨_, _, rfl, .inl (.inl (.inl hp)), fun p hp => q.lst hav r hp⟩
  · cases e
    obtain ⟨v, rfl, r⟩ := repL1' rl
    cases r with
    | tup hp r => exact ⟨_, _, rfl, .inr hp, fun p hp => q.lst hav r hp⟩
  · cases e
/-! ### lists of one kind -/
def intsD : List D → Option (List Int)
  | [] => some []
  | .int i :: ds => (intsD ds).map (i :: ·)
  | _ => none
def boolsD : List D → Option (List Bool)
  | [] => some []
  | .bl i :: ds => (boolsD ds).map (i :: ·)
  | _ => none
def tupsD : List D → Option (List (List Int))
  | [] => some []
  | .tup xs :: ds => match intsD xs with
    | some ns => (tupsD ds).map (ns :: ·)
    | none => none
  | _ => none
theorem intsD_some : ∀ {ds : List D} {ns : List Int}, intsD ds = some ns → ds = ns.map .int
  | [], ns, h => by cases h; rfl
  | .int i :: ds, ns, h => by
    unfold intsD at h
    cases z : intsD ds with
    | none => rw [z] at h; cases h
    | some ms =>
      rw [z] at h
      cases h
      rw [intsD_some z]
      rfl
theorem intsD_map : ∀ ns : List Int, intsD (ns.map .int) = some ns
  | [] => rfl
  | n :: ns => by
    show (intsD (ns.map .int)).map (n :: ·) = _
    rw [intsD_map ns]
    rfl
theorem boolsD_some : ∀ {ds : List D} {ns : List Bool}, boolsD ds = some ns → ds = ns.map .bl
  | [], ns, h => by cases h; rfl
  | .bl i :: ds, ns, h => by
    unfold boolsD at h
    cases z : boolsD ds with
    | none => rw [z] at h; cases h
    | some ms =>
      rw [z] at h
      cases h
      rw [boolsD_some z]
      rfl
theorem boolsD_map : ∀ ns : List Bool, boolsD (ns.map .bl) = some ns
  | [] => rfl
  | n :: ns => by
    show (boolsD (ns.map .bl)).map (n :: ·) = _
    rw [boolsD_map ns]
    rfl
def tupI (ns : List Int) : D := .tup (ns.map .int)
theorem tupsD_some : ∀ {ds : List D} {ks : List (List Int)}, tupsD ds = some ks → ds = ks.map tupI
  | [], ns, h => by cases h; rfl
  | .tup xs :: ds, ks, h => by
    unfold tupsD at h
    cases y : intsD xs with
    | none => rw [y] at h; cases h
    | some ns =>
      rw [y] at h
      cases z : tupsD ds with
      | none => simp only [z] at h; cases h
      | some ms =>
        simp only [z] at h
        cases h
        rw [tupsD_some z, intsD_some y]
        rfl
theorem tupsD_map : ∀ ks : List (List Int), tupsD (ks.map tupI) = some ks
  | [] => rfl
  | k :: ks => by
    show (match intsD (k.map .int) with | some ns => (tupsD (ks.map tupI)).map (ns :: ·) | none => none) = _
    rw [intsD_map, tupsD_map ks]
    rfl
section
variable {K : PySem.W.Frag} {H : Hp} {av : Addr → Prop}
theorem rep_ints : ∀ {ns : List Int} {xs : List V}, RepL K tk H av xs (ns.map .int) → xs = ns.map .int
  | [], _, .nil => rfl
  | n :: ns, _, .cons h r => by
    cases h
    rw [rep_ints r]
    rfl
theorem ints_rep : ∀ (ns : List Int), RepL K tk H av (ns.map .int) (ns.map .int)
  | [] => .nil
  | n :: ns => .cons (.int n) (ints_rep ns)
theorem rep_bools : ∀ {ns : List Bool} {xs : List V}, RepL K tk H av xs (ns.map .bl) → xs = ns.map .bl
  | [], _, .nil => rfl
  | n :: ns, _, .cons h r => by
    cases h
    rw [rep_bools r]
    rfl
/-- tuples of ints lie as addresses with their keys -/
theorem rep_tups : ∀ {ks : List (List Int)} {xs : List V}, RepL K tk H av xs (ks.map tupI) → ∃ L : List (Addr × List Int), xs = L.map (fun p => V.ref p.1) ∧ L.map (·.2) = ks ∧ ∀ p ∈ L, SqT K H p.1 (p.2.map V.int)
  | [], _, .nil => ⟨[], rfl, rfl, fun p h => by cases h⟩
  | k :: ks, _, .cons h r => by
    obtain ⟨L, e1, e2, e3⟩ := rep_tups r
    have h : Rep K tk H av _ (.tup (k.map .int)) := h
    cases h with
    | tup hq rl =>
      rename_i a xs
      rw [rep_ints rl] at hq
      refine ⟨(a, k) :: L, by rw [List.map_cons, e1], by rw [List.map_cons, e2], fun p hp => ?_⟩
      rcases List.mem_cons.mp hp with rfl | hp
      · exact hq
      · exact e3 p hp
theorem tups_rep : ∀ {L : List (Addr × List Int)}, (∀ p ∈ L, SqT K H p.1 (p.2.map V.int)) → RepL K tk H av (L.map fun p => V.ref p.1) ((L.map (·.2)).map tupI)
  | [], _ => .nil
  | p :: L, h => .cons (.tup (h p List.mem_cons_self) (ints_rep _)) (tups_rep fun q hq => h q (List.mem_cons_of_mem _ hq))
end
/-! ### all, any, sum -/
def allD : List D → Option D
  | [.lst xs] => (boolsD xs).map fun bs => .bl (bs.all id)
  | _ => none
theorem cv_all (hc : X.calm = true) : CaV X tk (.builtin "all") allD := by
  refine ⟨_, cr_all hc, fun H av xs ds d Q hav rl e q => ?_⟩
  unfold allD at e
  split at e
  · rename_i ys
    cases z : boolsD ys with
    | none => rw [z] at e; cases e
    | some bs =>
      rw [z] at e
      cases e
      rw [boolsD_some z] at rl
      obtain ⟨v, rfl, r⟩ := repL1' rl
      cases r with
      | lst hp _ r =>
        rw [rep_bools r] at hp
        exact ⟨_, bs, rfl, .inl (.inl hp), q.val (.bl _) fun _ z => by cases z⟩
  · cases e
def anyD : List D → Option D
  | [.lst xs] => (boolsD xs).map fun bs => .bl (bs.any id)
  | _ => none
theorem cv_any (hc : X.calm = true) : CaV X tk (.builtin "any") anyD := by
  refine ⟨_, cr_any hc, fun H av xs ds d Q hav rl e q => ?_⟩
  unfold anyD at e
  split at e
  · rename_i ys
    cases z : boolsD ys with
    | none => rw [z] at e; cases e
    | some bs =>
      rw [z] at e
      cases e
      rw [boolsD_some z] at rl
      obtain ⟨v, rfl, r⟩ := repL1' rl
      cases r with
      | lst hp _ r =>
        rw [rep_bools r] at hp
        exact ⟨_, bs, rfl, .inl (.inl hp), q.val (.bl _) fun _ z => by cases z⟩
  · cases e
def sumD : List D → Option D
  | [.lst xs] => (intsD xs).map fun ns => .int ns.sum
  | _ => none
theorem cv_sum (hc : X.calm = true) : CaV X tk (.builtin "sum") sumD := by
  refine ⟨_, cr_sum hc, fun H av xs ds d Q hav rl e q => ?_⟩
  unfold sumD at e
  split at e
  · rename_i ys
    cases z : intsD ys with
    | none => rw [z] at e; cases e
    | some bs =>
      rw [z] at e
      cases e
      rw [intsD_some z] at rl
      obtain ⟨v, rfl, r⟩ := repL1' rl
      cases r with
      | lst hp _ r =>
        rw [rep_ints r] at hp
        exact ⟨_, bs, rfl, .inl (.inl hp), q.val (.int _) fun _ z => by cases z⟩
  · cases e
/-! ### min, max -/
def minD : List D → Option D
  | [.int i, .int j] => some (.int (if j < i then j else i))
  | [.lst xs] => match intsD xs with
    | some (n :: ns) => some (.int (ns.foldl min n))
    | _ => none
  | _ => none
def maxD : List D → Option D
  | [.int i, .int j] => some (.int (if j > i then j else i))
  | [.lst xs] => match intsD xs with
    | some (n :: ns) => some (.int (ns.foldl max n))
    | _ => none
  | _ => none
theorem foldl_min : ∀ (ns : List Int) (n : Int), ns.foldl min n ∈ n :: ns ∧ ∀ y ∈ n :: ns, ns.foldl min n ≤ y
  | [], n => ⟨List.mem_cons_self, fun y h => by simp at h; subst h; exact Int.le_refl _⟩
  | m :: ns, n => by
    obtain ⟨h1, h2⟩ := foldl_min ns (min n m)
    refine ⟨?_, fun y hy => ?_⟩
    · show ns.foldl min (min n m) ∈ _
      rcases List.mem_cons.mp h1 with h | h
      · rw [h]
        by_cases z : n ≤ m
        · rw [show min n m = n by omega]; exact List.mem_cons_self
        · rw [show min n m = m by omega]; exact List.mem_cons_of_mem _ List.mem_cons_self
      · exact List.mem_cons_of_mem _ (List.mem_cons_of_mem _ h)
    · show ns.foldl min (min n m) ≤ y
      have h3 := h2 (min n m) List.mem_cons_self
      rcases List.mem_cons.mp hy with rfl | hy
      · omega
      · rcases List.mem_cons.mp hy with rfl | hy
        · omega
        · exact h2 y (List.mem_cons_of_mem _ hy)
theorem foldl_max : ∀ (ns : List Int) (n : Int), ns.foldl max n ∈ n :: ns ∧ ∀ y ∈ n :: ns, y ≤ ns.foldl max n
  | [], n => ⟨List.mem_cons_self, fun y h => by simp at h; subst h; exact Int.le_refl _⟩
  | m :: ns, n => by
    obtain ⟨h1, h2⟩ := foldl_max ns (max n m)
    refine ⟨?_, fun y hy => ?_⟩
    · show ns.foldl max (max n m) ∈ _
      rcases List.mem_cons.mp h1 with h | h
      · rw [h]
        by_cases z : m ≤ n
        · rw [show max n m = n by omega]; exact List.mem_cons_self
        · rw [show max n m = m by omega]; exact List.mem_cons_of_mem _ List.mem_cons_self
      · exact List.mem_cons_of_mem _ (List.mem_cons_of_mem _ h)
    · show y ≤ ns.foldl max (max n m)
      have h3 := h2 (max n m) List.mem_cons_self
      rcases List.mem_cons.mp hy with rfl | hy
      · omega
      · rcases List.mem_cons.mp hy with rfl | hy
        · omega
        · exact h2 y (List.mem_cons_of_mem _ hy)
theorem cv_min (hc : X.calm = true) : CaV X tk (.builtin "min") minD := by
  refine ⟨_, (call_min2 hc).or (cr_min hc), fun H av xs ds d Q hav rl e q => ?_⟩
  unfold minD at e
  split at e
  · cases e
    cases rl with
    | cons r1 rl =>
      obtain ⟨v, rfl, r2⟩ := repL1' rl
      cases r1
      cases r2
      exact .inl ⟨_, _, rfl, q.val (.int _) fun _ z => by cases z⟩
  · rename_i ys
    split at e
    · rename_i n ns z
      cases e
      rw [intsD_some z] at rl
      obtain ⟨v, rfl, r⟩ := repL1' rl
      cases r with
      | lst hp _ r =>
        rw [rep_ints r] at hp
        obtain ⟨h1, h2⟩ := foldl_min ns n
        refine .inr ⟨_, n :: ns, rfl, .inl (.inl hp), by simp, fun m hm hle => ?_⟩
        have : m = ns.foldl min n := Int.le_antisymm (hle _ h1) (h2 m hm)
        rw [this]
        exact q.val (.int _) fun _ z => by cases z
    · cases e
  · cases e
theorem cv_max (hc : X.calm = true) : CaV X tk (.builtin "max") maxD := by
  refine ⟨_, (call_max2 hc).or (cr_max hc), fun H av xs ds d Q hav rl e q => ?_⟩
  unfold maxD at e
  split at e
  · cases e
    cases rl with
    | cons r1 rl =>
      obtain ⟨v, rfl, r2⟩ := repL1' rl
      cases r1
      cases r2
      exact .inl ⟨_, _, rfl, q.val (.int _) fun _ z => by cases z⟩
  · rename_i ys
    split at e
    · rename_i n ns z
      cases e
      rw [intsD_some z] at rl
      obtain ⟨v, rfl, r⟩ := repL1' rl
      cases r with
      | lst hp _ r =>
        rw [rep_ints r] at hp
        obtain ⟨h1, h2⟩ := foldl_max ns n
        refine .inr ⟨_, n :: ns, rfl, .inl (.inl hp), by simp, fun m hm hle => ?_⟩
        have : m = ns.foldl max n := Int.le_antisymm (h2 m hm) (hle _ h1)
        rw [this]
        exact q.val (.int _) fun _ z => by cases z
    · cases e
  · cases e
def int1D : List D → Option D
  | [.int i] => some (.int i)
  | [.bl k] => some (.int (if k then 1 else 0))
  | _ => none
theorem cv_int : CaV X tk (.type "int") int1D := by
  refine ⟨_, call_int1, fun H av xs ds d Q hav rl e q => ?_⟩
  unfold int1D at e
  split at e
  · cases e
    obtain ⟨v, rfl, r⟩ := repL1' rl
    cases r
    exact .inl ⟨_, rfl, q.val (.int _) fun _ z => by cases z⟩
  · cases e
    obtain ⟨v, rfl, r⟩ := repL1' rl
    cases r
    exact .inr ⟨_, rfl, q.val (.int _) fun _ z => by cases z⟩
  · cases e
/-! ### isinstance -/
def tyN : D → Option String
  | .non => some "NoneType"
  | .bl _ => some "bool"
  | .int _ => some "int"
  | .str _ => some "str"
  | .tup _ => some "tuple"
  | .lst _ => some "list"
  | .dic _ => some "dict"
  | _ => none
def isiTy (a b : String) : Option Bool :=
  if b = "int" then (if a = "int" ∨ a = "bool" then some true else some false)
  else if b = "bool" ∨ b = "str" ∨ b = "tuple" ∨ b = "list" ∨ b = "dict" then some (decide (a = b)) else none
def isiD : List D → Option D
  | [x, .ty n] => match tyN x with
    | some a => (isiTy a n).map .bl
    | none => none
  | _ => none
def kitT : List (String × String × Bool) := (["NoneType", "bool", "int", "str", "tuple", "list", "dict"].flatMap fun a => ["int", "bool", "str", "tuple", "list", "dict"].map fun b => (a, b, decide (a = b) || (decide (b = "int") && decide (a = "bool"))))
theorem kitT_ok : (kitT.all fun t => decide (kitB t.1 t.2.1 = some t.2.2)) = true := by decide +kernel
theorem isi_kit {a b : String} {k : Bool} (ha : a ∈ ["NoneType", "bool", "int", "str", "tuple", "list", "dict"]) (h : isiTy a b = some k) : kitB a b = some k := by
  have hb : b ∈ ["int", "bool", "str", "tuple", "list", "dict"] ∧ k = (decide (a = b) || (decide (b = "int") && decide (a = "bool"))) := by
    unfold isiTy at h
    split at h
    · rename_i e
      subst e
      refine ⟨by simp, ?_⟩
      split at h
      · rename_i e
        cases h
        rcases e with e | e <;> subst e <;> rfl
      · rename_i e
        cases h
        simp only [not_or] at e
        simp [e.1, e.2]
    · rename_i e
      split at h
      · rename_i e2
        cases h
        refine ⟨by simp only [List.mem_cons, List.not_mem_nil, or_false]; exact .inr e2, by simp [e]⟩
      · cases h
  have hm : (a, b, k) ∈ kitT := by
    unfold kitT
    rw [List.mem_flatMap]
    exact ⟨a, ha, List.mem_map.mpr ⟨b, hb.1, by rw [hb.2]⟩⟩
  have := List.all_eq_true.mp kitT_ok _ hm
  simpa using this
theorem rep_ty {K : PySem.W.Frag} {H : Hp} {av : Addr → Prop} {v : V} {d : D} {a : String} (r : Rep K tk H av v d) (h : tyN d = some a) : TyX K H v (.type a) ∧ a ∈ ["NoneType", "bool", "int", "str", "tuple", "list", "dict"] := by
  cases r with
  | non => cases h; exact ⟨.base .non, by simp⟩
  | bl b => cases h; exact ⟨.base (.bl b), by simp⟩
  | int i => cases h; exact ⟨.base (.int i), by simp⟩
  | str x => cases h; exact ⟨.base (.str x), by simp⟩
  | ty n => cases h
  | deck => cases h
  | tup q r =>
    cases h
    refine ⟨?_, by simp⟩
    rcases q with q | q
    · rcases q with q | ⟨o, q⟩
      · exact .base (.tup q)
      · exact .fTuple q
    · obtain ⟨o, its, n, h1, h2, h3⟩ := q
      first
        | exact .kTuple h1 h2
        | exact .kTuple h1 h2.1
        | exact .kTuple (by assumption) (by assumption)
  | lst q _ r => cases h; exact ⟨.base (.lst q), by simp⟩
  | dic q _ r => cases h; exact ⟨.base (.dK q), by simp⟩
theorem cv_isi : CaV X tk (.builtin "isinstance") isiD := by
  refine ⟨_, call_isi, fun H av xs ds d Q hav rl e q => ?_⟩
  unfold isiD at e
  split at e
  · rename_i x n
    split at e
    · rename_i a ha
      cases z : isiTy a n with
      | none => rw [z] at e; cases e
      | some k =>
        rw [z] at e
        cases e
        cases rl with
        | cons r1 rl =>
          obtain ⟨v, rfl, r2⟩ := repL1' rl
          cases r2
          obtain ⟨h1, h2⟩ := rep_ty r1 ha
          exact ⟨_, _, _, _, k, rfl, .ty n, h1, kit_ty (isi_kit h2 z), q.val (.bl _) fun _ z => by cases z⟩
    · cases e
  · cases e
end
end L3
end
section
set_option Elab.async false
set_option linter.all false
set_option maxRecDepth 100000
set_option autoImplicit false
/-! L3l: sorted, sets sorted, repr; the rules in short (own work). -/
namespace L3
open PySem PySem.Spec PyProof.Rows L2
/-! ### orders -/
def leI (a b : Int) : Bool := decide (a ≤ b)
def sortI (ns : List Int) : List Int := ns.mergeSort leI
theorem sortI_perm (ns : List Int) : (sortI ns).Perm ns := List.mergeSort_perm _ _
theorem sortI_pair (ns : List Int) : (sortI ns).Pairwise (· ≤ ·) := (List.pairwise_mergeSort (le := leI) (fun a b c h1 h2 => by
  unfold leI at *
  simp only [decide_eq_true_eq] at *
  omega) (fun a b => by
  unfold leI
  simp only [Bool.or_eq_true, decide_eq_true_eq]
  omega) ns).imp fun h => by simpa [leI] using h
theorem sortI_eq {ns ms : List Int} (hp : ms.Perm ns) (hs : ms.Pairwise (· ≤ ·)) : ms = sortI ns :=
  List.Perm.eq_of_pairwise (fun a b _ _ h1 h2 => Int.le_antisymm h1 h2) hs (sortI_pair ns) (hp.trans (sortI_perm ns).symm)
def leT (a b : List Int) : Bool := !HT.lexLt b a
theorem leT_total (a b : List Int) : (leT a b || leT b a) = true := by
  unfold leT
  cases z : HT.lexLt b a with
  | false => rfl
  | true => rw [lexLt_asym z]; rfl
theorem leT_trans (a b c : List Int) (h1 : leT a b = true) (h2 : leT b c = true) : leT a c = true := by
  unfold leT at *
  simp only [Bool.not_eq_true'] at *
  induction a generalizing b c with
  | nil => cases c <;> rfl
  | cons x a ih =>
    cases b with
    | nil => cases h1
    | cons y b =>
      cases c with
      | nil => cases h2
      | cons z c =>
        rw [HT.lexLt_cons] at *
        by_cases e1 : y = x
        · subst e1
          rw [if_pos rfl] at h1
          by_cases e2 : z = y
          · subst e2
            rw [if_pos rfl] at h2 ⊢
            exact ih b c h1 h2
          · rw [if_neg e2] at h2 ⊢
            exact h2
        · rw [if_neg e1] at h1
          simp only [decide_eq_false_iff_not] at h1
          by_cases e2 : z = y
          · subst e2
            rw [if_neg e1]
            simp only [decide_eq_false_iff_not]
            omega
          · rw [if_neg e2] at h2
            simp only [decide_eq_false_iff_not] at h2
            rw [if_neg (by omega)]
            simp only [decide_eq_false_iff_not]
            omega
def sortT (ks : List (List Int)) : List (List Int) := ks.mergeSort leT
theorem sortT_perm (ks : List (List Int)) : (sortT ks).Perm ks := List.mergeSort_perm _ _
theorem sortT_pair (ks : List (List Int)) : (sortT ks).Pairwise fun a b => HT.lexLt b a = false := (List.pairwise_mergeSort (le := leT) leT_trans leT_total ks).imp fun h => by simpa [leT] using h
theorem sortT_eq {ks ms : List (List Int)} (hp : ms.Perm ks) (hs : ms.Pairwise fun a b => HT.lexLt b a = false) : ms = sortT ks :=
  List.Perm.eq_of_pairwise (fun a b _ _ h1 h2 => lexLt_tri h2 h1) hs (sortT_pair ks) (hp.trans (sortT_perm ks).symm)
/-- each once -/
def once {α : Type} [DecidableEq α] : List α → List α
  | [] => []
  | x :: xs => if x ∈ xs then once xs else x :: once xs
theorem mem_once {α : Type} [DecidableEq α] {a : α} : ∀ {xs : List α}, a ∈ once xs ↔ a ∈ xs
  | [] => Iff.rfl
  | x :: xs => by
    unfold once
    have ih := mem_once (a := a) (xs := xs)
    split
    · rename_i h
      rw [ih]
      constructor
      · exact List.mem_cons_of_mem _
      · intro q
        rcases List.mem_cons.mp q with rfl | q
        · exact h
        · exact q
    · rw [List.mem_cons, List.mem_cons, ih]
theorem once_nodup {α : Type} [DecidableEq α] : ∀ xs : List α, (once xs).Nodup
  | [] => List.nodup_nil
  | x :: xs => by
    unfold once
    split
    · exact once_nodup xs
    · rename_i h
      exact List.nodup_cons.mpr ⟨fun z => h (mem_once.mp z), once_nodup xs⟩
section
variable {X : Cx} {tk : Addr}
/-! ### sorted -/
def sortD : List D → Option D
  | [.lst xs] => match intsD xs with
    | some ns => some (.lst ((sortI ns).map .int))
    | none => (tupsD xs).map fun ks => .lst ((sortT ks).map tupI)
  | _ => none
theorem sqT_same {K : PySem.W.Frag} {H H' : Hp} (k : Same H H') {a : Addr} {xs : List V} (h : SqT K H a xs) : SqT K H' a xs := by
  rcases h with h | h
  · rcases h with h | ⟨o, h⟩
    · exact .inl (.inl (k _ _ h))
    · exact .inl (.inr ⟨o, k _ _ h⟩)
  · exact .inr h
/-- as sorted of tuples of ints, told by addresses with keys -/
def rSortedTL (K : PySem.W.Frag) : List V → Hp → VK → Prop := fun vs H Q => ∃ (a : Addr) (L : List (Addr × List Int)), vs = [V.ref a] ∧ SqL K H a (L.map fun q => V.ref q.1) ∧ (∀ q ∈ L, SqT K H q.1 (q.2.map V.int)) ∧
  ∀ (L2 : List (Addr × List Int)) (p : Addr), L2.Perm L → L2.Pairwise (fun q r => HT.lexLt r.2 q.2 = false) → H p = none → Q (.ref p) (upd H p (.lst (L2.map fun q => V.ref q.1)))
def keyV (L : List (Addr × List Int)) : V → List Int
  | .ref a => ((L.find? fun q => decide (q.1 = a)).map (·.2)).getD []
  | _ => []
def pairV (L : List (Addr × List Int)) : V → Addr × List Int
  | .ref a => (a, keyV L (.ref a))
  | _ => (0, [])
theorem cr_sortedTL (hu : X.A.units + 64 < cLine) : CallR X (.builtin "sorted") (rSortedTL X.K) := by
  intro pins st σ H vs us Q J rv h
  obtain ⟨a, L, rfl, hs, hk, q⟩ := h
  have key : ∀ p ∈ L, keyV L (.ref p.1) = p.2 := fun p hp => by
    show ((L.find? fun q => decide (q.1 = p.1)).map (·.2)).getD [] = p.2
    cases z : L.find? fun r => decide (r.1 = p.1) with
    | none =>
      have := List.find?_eq_none.mp z p hp
      simp at this
    | some r =>
      have h1 := List.mem_of_find?_eq_some z
      have h2 := List.find?_some z
      simp only [decide_eq_true_eq] at h2
      have a1 := J.isT (hk r h1)
      have a2 := J.isT (hk p hp)
      rw [h2] at a1
      exact a1.inj a2
  have back : L.map (fun q => pairV L (V.ref q.1)) = L := by
    have : L.map (fun q => pairV L (V.ref q.1)) = L.map id := List.map_congr_left fun p hp => by
      show (p.1, keyV L (.ref p.1)) = p
      rw [key p hp]
    rw [this, List.map_id]
  refine cr_sortedTI hu pins st σ H _ us Q J rv ⟨a, _, keyV L, rfl, hs, fun x hx => ?_, fun ys p hp hpw hno => ?_⟩
  · obtain ⟨p, hp, rfl⟩ := List.mem_map.mp hx
    exact ⟨p.1, rfl, by rw [key p hp]; exact hk p hp⟩
  · have e1 : ys = (ys.map (pairV L)).map fun q => V.ref q.1 := by
      rw [List.map_map]
      have : ys.map ((fun q : Addr × List Int => V.ref q.1) ∘ pairV L) = ys.map id := List.map_congr_left fun y hy => by
        obtain ⟨p, hp, rfl⟩ := List.mem_map.mp (hp.mem_iff.mp hy)
        rfl
      rw [this, List.map_id]
    have e2 : (ys.map (pairV L)).Perm L := by
      have := hp.map (pairV L)
      rw [List.map_map] at this
      exact this.trans (by rw [show (pairV L ∘ fun q : Addr × List Int => V.ref q.1) = fun q => pairV L (V.ref q.1) from rfl, back])
    have e3 : (ys.map (pairV L)).Pairwise fun q r => HT.lexLt r.2 q.2 = false := List.pairwise_map.mpr (List.Pairwise.imp_of_mem (fun {x y} hx hy z => by
      obtain ⟨p1, h1, rfl⟩ := List.mem_map.mp (hp.mem_iff.mp hx)
      obtain ⟨p2, h2, rfl⟩ := List.mem_map.mp (hp.mem_iff.mp hy)
      exact z) hpw)
    rw [e1]
    exact q _ p e2 e3 hno
theorem cv_sorted (hu : X.A.units + 64 < cLine) : CaV X tk (.builtin "sorted") sortD := by
  refine ⟨_, cr_sortedI.or (cr_sortedTL hu), fun H av xs ds d Q hav rl e q => ?_⟩
  unfold sortD at e
  split at e
  · rename_i ys
    obtain ⟨v, rfl, r⟩ := repL1' rl
    cases r with
    | lst hp _ r =>
      split at e
      · rename_i ns z
        cases e
        rw [intsD_some z] at r
        rw [rep_ints r] at hp
        refine .inl ⟨_, ns, rfl, .inl (.inl hp), fun ms p h1 h2 hno => ?_⟩
        rw [sortI_eq h1 h2]
        exact q.lst hav (ints_rep _) hno
      · cases z : tupsD ys with
        | none => rw [z] at e; cases e
        | some ks =>
          rw [z] at e
          cases e
          rw [tupsD_some z] at r
          obtain ⟨L, e1, e2, e3⟩ := rep_tups r
          rw [e1] at hp
          refine .inr ⟨_, L, rfl, .inl (.inl hp), e3, fun L2 p h1 h2 hno => ?_⟩
          have h3 : L2.map (·.2) = sortT ks := sortT_eq (by rw [← e2]; exact h1.map _) (List.pairwise_map.mpr h2)
          have := tups_rep (tk := tk) (av := av) (K := X.K) (H := H) (L := L2) fun p hp => e3 p (h1.mem_iff.mp hp)
          rw [h3] at this
          exact q.lst hav this hno
  · cases e
/-! ### by value, the outcome not new -/
def VQn (K : PySem.W.Frag) (tk : Addr) (H : Hp) (av : Addr → Prop) (d : D) (Q : VK) : Prop := ∀ v H', Same H H' → Rep K tk H' av v d → Q v H'
def VCn (K : PySem.W.Frag) (tk : Addr) (r : List V → Hp → VK → Prop) (f : List D → Option D) : Prop := ∀ (H : Hp) (av : Addr → Prop) (xs : List V) (ds : List D) (d : D) (Q : VK), (∀ a, av a → H a ≠ none) → RepL K tk H av xs ds → f ds = some d → VQn K tk H av d Q → r xs H Q
def V2n (K : PySem.W.Frag) (tk : Addr) (r : R2) (f : D → D → Option D) : Prop := ∀ (H : Hp) (av : Addr → Prop) (x y : V) (dx dy d : D) (Q : VK), (∀ a, av a → H a ≠ none) → Rep K tk H av x dx → Rep K tk H av y dy → f dx dy = some d → VQn K tk H av d Q → r x y H Q
end
section
variable {S : Type} {X : Cx} {W : Wd S} {e a b c : Expr} {es : List Expr} {pos : Pos}
theorem fin_valn {R : Fx S} {A : Acc} {P : List Pd} {σ : L2.St} {H : Hp} {ρ : En} {s : S} {d : D} {Q : VK} {ex : Addr → Prop} (r : Rel R A P σ H ρ s) (hx : ∀ a, avO R A σ ρ a → ¬ ex a) (ht : ∀ a, ex a → H a ≠ none)
    (hq : ∀ (v : V) (H' : Hp) (ex : Addr → Prop), Rel R A (⟨v, d, ex⟩ :: P) σ H' ρ s → Q v H') : VQn R.K R.W.tok H (fun a => avL R A σ ρ a ∧ ¬ ex a) d Q := fun v H' k rv => by
  refine hq v H' ex ((r.same k).push rv hx fun a h => ?_)
  cases z : H a with
  | none => exact absurd z (ht a h)
  | some o => rw [k a o z]; simp
theorem list_valn {r : List V → Hp → VK → Prop} {f : List D → Option D} {g : EvL S} (hv : VCn X.K W.tok r f) {σ : L2.St} {H : Hp} {Q : VK} (h : SE X.K W false (mapF f g) σ H Q) : SL X.K W g σ H fun vs H1 => r vs H1 Q := by
  obtain ⟨H0, O, A, P, ρ, s, d, ρ', s', r0, e, q⟩ := h
  obtain ⟨ds, e1, e2⟩ := mapF_some e
  refine ⟨H0, O, A, P, ρ, s, ds, ρ', s', r0, e1, fun vs H1 ex r1 rl hx ht => ?_⟩
  exact hv H1 _ vs ds d Q (fun a h => r1.avT h.1) rl e2 (fin_valn r1 hx ht fun v H' ex r => q v H' ex r fun z => Bool.noConfusion z)
theorem two_valn {r : R2} {f : D → D → Option D} {fa fb : Ev S} {fr1 fr2 : Bool} (hv : V2n X.K W.tok r f) {σ : L2.St} {H : Hp} {Q : VK} (h : SE X.K W false (binF f fa fb) σ H Q) : tOp r (SE X.K W fr1 fa) (SE X.K W fr2 fb) σ H Q := by
  obtain ⟨H0, O, A, P, ρ, s, d, ρ', s', r0, e, q⟩ := h
  obtain ⟨x, ρ1, s1, y, e1, e2, e3⟩ := binF_some e
  refine ⟨H0, O, A, P, ρ, s, x, ρ1, s1, r0, e1, fun v H1 ex1 r1 _ => ?_⟩
  refine ⟨H0, O, A, _, ρ1, s1, y, ρ', s', r1, e2, fun w H2 ex2 r2 _ => ?_⟩
  refine hv H2 (fun a => avL ⟨X.K, W, H0, O⟩ A σ ρ' a ∧ ¬ (ex1 a ∨ ex2 a)) v w x y d Q (fun a h => r2.avT h.1) ?_ ?_ e3 (fin_valn r2.tail.tail (fun a h z => z.elim (r2.tail.hex a h) (r2.hex a h)) (fun a z => z.elim (r2.tail.pet _ List.mem_cons_self a) (r2.pet _ List.mem_cons_self a)) fun v H' ex r => q v H' ex r fun z => Bool.noConfusion z)
  · exact r2.tail.head.mono fun a h => ⟨h.1, fun z => h.2 (.inl z)⟩
  · exact r2.head.mono fun a h => ⟨h.1, fun z => h.2 (.inr z)⟩
/-! ### sorted(set(xs)) -/
def setSortD : List D → Option D
  | [.lst xs] => if xs.length < 64 then match intsD xs with
      | some ns => some (.lst ((sortI (once ns)).map .int))
      | none => (tupsD xs).map fun ks => .lst ((sortT (once ks)).map tupI)
    else none
  | [.tup xs] => if xs.length < 64 then match intsD xs with
      | some ns => some (.lst ((sortI (once ns)).map .int))
      | none => none
    else none
  | _ => none
theorem sortedSetV {tk : Addr} : VCn X.K tk (fun vs H Q => ((rSetLI X.K X.w vs H fun v H1 => rSortedSet X.w [v] H1 Q) ∨ rSetOfT X.K X.prog X.w vs H fun v H1 => rSortedSTI X.K X.prog X.w [v] H1 Q) ∨ rSetTI X.K X.w vs H fun v H1 => rSortedSet X.w [v] H1 Q) setSortD := by
  intro H av xs ds d Q hav rl e q
  unfold setSortD at e
  split at e
  · rename_i ys
    split at e
    · rename_i few
      obtain ⟨v, rfl, r⟩ := repL1' rl
      cases r with
      | lst hp _ r =>
        split at e
        · rename_i ns z
          cases e
          have el := congrArg List.length (intsD_some z)
          rw [List.length_map] at el
          rw [intsD_some z] at r
          rw [rep_ints r] at hp
          refine .inl (.inl ⟨_, ns, rfl, .inl (.inl hp), by unfold scanBound; omega, fun p n hno hn => ?_⟩)
          refine ⟨p, _, n, rfl, upd_same, by omega, fun ms p2 h1 h2 h3 hno2 => ?_⟩
          have k1 := same_upd (o := SetO X.w p (fun j => decide (j ∈ ns)) n) hno
          have k2 := same_upd (o := .lst (ms.map V.int)) hno2
          have hm : ms = sortI (once ns) := by
            refine sortI_eq ?_ (h1.imp fun h => Int.le_of_lt h)
            refine (List.perm_ext_iff_of_nodup (h1.imp fun h => Int.ne_of_lt h) (once_nodup ns)).mpr fun k => ?_
            rw [h2 k, mem_once, decide_eq_true_eq]
          rw [← hm] at q
          refine q _ _ (k1.trans k2) (.lst upd_same (fun z => ?_) (ints_rep ms))
          have z2 := hav _ z
          cases y : H p2 with
          | none => exact z2 y
          | some o => rw [k1 _ _ y] at hno2; cases hno2
        · cases z : tupsD ys with
          | none => rw [z] at e; cases e
          | some ks =>
            rw [z] at e
            cases e
            have el := congrArg List.length (tupsD_some z)
            rw [List.length_map] at el
            rw [tupsD_some z] at r
            obtain ⟨L0, e1, e2, e3⟩ := rep_tups r
            rw [e1] at hp
            have el2 := congrArg List.length e2
            rw [List.length_map] at el2
            refine .inl (.inr ⟨_, L0, rfl, .inl (.inl hp), e3, by omega, fun p L hno h1 h2 => ?_⟩)
            have k1 := same_upd (o := SetTO X.prog X.w p L) hno
            refine ⟨p, L, rfl, upd_same, fun r hr => sqT_same k1 (e3 r (h1 r hr)), fun L2 p2 h3 h4 h5 hno2 => ?_⟩
            have k2 := same_upd (o := .lst (L2.map fun q => V.ref q.1)) hno2
            have hm : L2.map (·.2) = sortT (once ks) := by
              refine sortT_eq ?_ (List.pairwise_map.mpr h5)
              refine (List.perm_ext_iff_of_nodup ((h3.map (·.2)).nodup_iff.mpr h4) (once_nodup ks)).mpr fun k => ?_
              rw [mem_once, ← e2]
              constructor
              · intro hk
                obtain ⟨r, hr, rfl⟩ := List.mem_map.mp hk
                exact List.mem_map.mpr ⟨r, h1 r (h3.mem_iff.mp hr), rfl⟩
              · intro hk
                obtain ⟨r, hr, rfl⟩ := List.mem_map.mp hk
                exact ((h3.map (·.2)).mem_iff).mpr (h2 r hr)
            have rp := tups_rep (tk := tk) (av := av) (K := X.K) (H := upd (upd H p (SetTO X.prog X.w p L)) p2 (.lst (L2.map fun q => V.ref q.1))) (L := L2) fun r hr => sqT_same k2 (sqT_same k1 (e3 r (h1 r (h3.mem_iff.mp hr))))
            rw [hm] at rp
            refine q _ _ (k1.trans k2) (.lst upd_same (fun z => ?_) rp)
            have z2 := hav _ z
            cases y : H p2 with
            | none => exact z2 y
            | some o => rw [k1 _ _ y] at hno2; cases hno2
    · cases e
  · rename_i ys
    split at e
    · rename_i few
      obtain ⟨v, rfl, r⟩ := repL1' rl
      cases r with
      | tup hp r =>
        split at e
        · rename_i ns z
          cases e
          have el := congrArg List.length (intsD_some z)
          rw [List.length_map] at el
          rw [intsD_some z] at r
          rw [rep_ints r] at hp
          refine .inr ⟨_, ns, rfl, hp, by unfold scanBound; omega, fun p n hno hn => ?_⟩
          refine ⟨p, _, n, rfl, upd_same, by omega, fun ms p2 h1 h2 h3 hno2 => ?_⟩
          have k1 := same_upd (o := SetO X.w p (fun j => decide (j ∈ ns)) n) hno
          have k2 := same_upd (o := .lst (ms.map V.int)) hno2
          have hm : ms = sortI (once ns) := by
            refine sortI_eq ?_ (h1.imp fun h => Int.le_of_lt h)
            refine (List.perm_ext_iff_of_nodup (h1.imp fun h => Int.ne_of_lt h) (once_nodup ns)).mpr fun k => ?_
            rw [h2 k, mem_once, decide_eq_true_eq]
          rw [← hm] at q
          refine q _ _ (k1.trans k2) (.lst upd_same (fun z => ?_) (ints_rep ms))
          have z2 := hav _ z
          cases y : H p2 with
          | none => exact z2 y
          | some o => rw [k1 _ _ y] at hno2; cases hno2
        · cases e
    · cases e
  · cases e
end
end L3
end
section
set_option Elab.async false
set_option linter.all false
set_option maxRecDepth 100000
set_option autoImplicit false
/-! L3m: the rules in short; subscripts, slices, repr, list(range()) (own work). -/
namespace L3
open PySem PySem.Spec PyProof.Rows L2
section
variable {S : Type} {X : Cx} {W : Wd S} {e a b c : Expr} {es : List Expr} {pos p p1 : Pos}
theorem se_op {op : Operator} {f : D → D → Option D} {fa fb : Ev S} {fr1 fr2 : Bool} (o : OpV X W.tok (binaryOp op) f) (ha : PE X a (SE X.K W fr1 fa)) (hb : PE X b (SE X.K W fr2 fb)) : PE X (.BinOp a op b pos) (SE X.K W true (binF f fa fb)) :=
  let ⟨_, h, v⟩ := o; se_bin h v ha hb
theorem se_cm {op : CmpOp} {f : D → D → Option D} {fa fb : Ev S} {fr1 fr2 : Bool} (o : OpV X W.tok (compareOp op) f) (ha : PE X a (SE X.K W fr1 fa)) (hb : PE X b (SE X.K W fr2 fb)) (hm : behindInMarks op b = false) : PE X (.Compare a [op] [b] pos) (SE X.K W true (binF f fa fb)) :=
  let ⟨_, h, v⟩ := o; se_cmp h v ha hb hm
theorem sb_cm {op : CmpOp} {f : D → D → Option D} {fa fb : Ev S} {fr1 fr2 : Bool} (o : OpV X W.tok (compareOp op) f) (hf : isB f) (ha : PE X a (SE X.K W fr1 fa)) (hb : PE X b (SE X.K W fr2 fb)) (hm : behindInMarks op b = false) : PT X (.Compare a [op] [b] pos) (SB X.K W (truF (binF f fa fb))) :=
  let ⟨_, h, v⟩ := o; sb_cmp h v hf ha hb hm
theorem se_ch {op op' : CmpOp} {f g : D → D → Option D} {fa fb fc : Ev S} {fr1 fr2 fr3 : Bool} (o : OpV X W.tok (compareOp op) f) (o' : OpV X W.tok (compareOp op') g) (ha : PE X a (SE X.K W fr1 fa)) (hb : PE X b (SE X.K W fr2 fb)) (hc : PE X c (SE X.K W fr3 fc)) (hm : lastMarks [op, op'] [b, c] = false) :
    PE X (.Compare a [op, op'] [b, c] pos) (SE X.K W false (chainF f g fa fb fc)) :=
  let ⟨_, h, v⟩ := o; let ⟨_, h', v'⟩ := o'; se_chain h h' v v' ha hb hc hm
theorem sb_ch {op op' : CmpOp} {f g : D → D → Option D} {fa fb fc : Ev S} {fr1 fr2 fr3 : Bool} (o : OpV X W.tok (compareOp op) f) (o' : OpV X W.tok (compareOp op') g) (hg : isB g) (ha : PE X a (SE X.K W fr1 fa)) (hb : PE X b (SE X.K W fr2 fb)) (hc : PE X c (SE X.K W fr3 fc)) (hm : lastMarks [op, op'] [b, c] = false) :
    PT X (.Compare a [op, op'] [b, c] pos) (SB X.K W (truF (chainF f g fa fb fc))) :=
  let ⟨_, h, v⟩ := o; let ⟨_, h', v'⟩ := o'; sb_chain h h' v v' hg ha hb hc hm
theorem se_cB {id : String} {x : Str} {f : List D → Option D} {g : EvL S} (o : CaV X W.tok (.builtin id) f) (hg : Gl X x) (hm : X.mg x = none) (hb : bootBuiltins x = some (.builtin id)) (ha : PA X (e :: es) (SL X.K W g)) (hn : x ≠ "__name__") (hdb : (x == ("__debug__" : Str)) = false)
    (he : starEach (e :: es) X.env = (false, eval e X.env) :: starEach es X.env) (hpl : (backTo pos (starEach es X.env)).any (·.1) = false) : PE X (.Call (.Name x p) (e :: es) [] pos) (SE X.K W true (mapF f g)) :=
  let ⟨_, h, v⟩ := o; se_callB h v hg hm hb ha hn hdb he hpl
theorem se_cT {T : String} {x : Str} {f : List D → Option D} {g : EvL S} (o : CaV X W.tok (.type T) f) (hg : Gl X x) (hm : X.mg x = none) (hb : bootBuiltins x = some (.type T)) (ha : PA X (e :: es) (SL X.K W g)) (hn : x ≠ "__name__") (hdb : (x == ("__debug__" : Str)) = false)
    (he : starEach (e :: es) X.env = (false, eval e X.env) :: starEach es X.env) (hpl : (backTo pos (starEach es X.env)).any (·.1) = false) : PE X (.Call (.Name x p) (e :: es) [] pos) (SE X.K W true (mapF f g)) :=
  let ⟨_, h, v⟩ := o; se_callT h v hg hm hb ha hn hdb he hpl
/-- sorted(set(x)) -/
theorem se_sortedSet {g : EvL S} (hc : X.calm = true) (hu : X.A.units + 64 < cLine) (hg1 : Gl X "sorted") (hm1 : X.mg "sorted" = none) (hb1 : bootBuiltins "sorted" = some (.builtin "sorted")) (hg2 : Gl X "set") (hm2 : X.mg "set" = none) (hb2 : bootBuiltins "set" = some (.type "set"))
    (ha : PA X [e] (SL X.K W g)) (he : starEach [e] X.env = (false, eval e X.env) :: starEach [] X.env) {p2 q2 : Pos}
    (he2 : starEach [.Call (.Name "set" p2) [e] [] q2] X.env = (false, eval (.Call (.Name "set" p2) [e] [] q2) X.env) :: starEach [] X.env) :
    PE X (.Call (.Name "sorted" p) [.Call (.Name "set" p2) [e] [] q2] [] pos) (SE X.K W false (mapF setSortD g)) :=
  (pe_callB (cr_sortedSet hc |>.or (cr_sortedSTI hc hu)) hg1 hm1 hb1 (pa_cons (pe_callTy (((cr_setLI hc).or (cr_setOfT hc hu)).or (cr_setTI hc)) hg2 hm2 hb2 ha (by decide) (by decide) he rfl) pa_nil he2) (by decide) (by decide) he2 rfl).imp fun σ H Q q => by
    obtain ⟨H0, O, A, P, ρ, s, d, ρ', s', r, e1, k⟩ := list_valn sortedSetV q
    refine ⟨H0, O, A, P, ρ, s, d, ρ', s', r, e1, fun vs H' ex r' rl hx ht => ?_⟩
    rcases k vs H' ex r' rl hx ht with (z | z) | z
    · left
      left
      obtain ⟨a, zs, h1, h2, h3, h4⟩ := z
      exact ⟨a, zs, h1, h2, h3, fun p n hp hn => .inl (h4 p n hp hn)⟩
    · left
      right
      obtain ⟨l, ks, h1, h2, h3, h4, h5⟩ := z
      exact ⟨l, ks, h1, h2, h3, h4, fun a L ha h6 h7 => .inr (h5 a L ha h6 h7)⟩
    · right
      obtain ⟨a, zs, h1, h2, h3, h4⟩ := z
      exact ⟨a, zs, h1, h2, h3, fun p n hp hn => .inl (h4 p n hp hn)⟩
/-! ### subscripts -/
def ixD : D → D → Option D
  | .lst xs, .int i => atI xs i
  | .tup xs, .int i => atI xs i
  | _, _ => none
theorem atI_rep {K : PySem.W.Frag} {tk : Addr} {H : Hp} {av : Addr → Prop} {vs : List V} {ds : List D} {i : Int} {d : D} (r : RepL K tk H av vs ds) (h : atI ds i = some d) : ∃ v, atI vs i = some v ∧ Rep K tk H av v d := by
  unfold atI at *
  rw [r.length]
  cases z : ixN ds.length i with
  | none => rw [z] at h; cases h
  | some j =>
    rw [z] at h
    exact r.get h
theorem v_ix {tk : Addr} : V2n X.K tk (rIx X.K) ixD := by
  intro H av x y dx dy d Q hav rx ry e q
  unfold ixD at e
  split at e
  · cases rx with
    | lst hp n r =>
      cases ry
      obtain ⟨v, h1, h2⟩ := atI_rep r e
      exact .inl ⟨_, _, _, v, rfl, rfl, .inl (.inl hp), h1, q v H (Same.refl _) h2⟩
  · cases rx with
    | tup hp r =>
      cases ry
      obtain ⟨v, h1, h2⟩ := atI_rep r e
      exact .inr (.inl ⟨_, _, _, v, rfl, rfl, hp, h1, q v H (Same.refl _) h2⟩)
  · cases e
theorem se_at {fa fb : Ev S} {fr1 fr2 : Bool} (ha : PE X a (SE X.K W fr1 fa)) (hb : PE X b (SE X.K W fr2 fb)) (hs : PlainIx b) : PE X (.Subscript a b pos) (SE X.K W false (binF ixD fa fb)) := (pe_ix ix_seq ha hb hs).imp fun σ H Q q => two_valn v_ix q
/-- -x -/
def negF (f : Ev S) : Ev S := fun ρ s => match f ρ s with
  | some (.int i, ρ', s') => some (.int (-i), ρ', s')
  | _ => none
theorem se_neg {fa : Ev S} {fr : Bool} (ha : PE X a (SE X.K W fr fa)) : PE X (.UnaryOp .USub a pos) (SE X.K W false (negF fa)) := (pe_un un_neg ha).imp fun σ H Q q => by
  obtain ⟨H0, O, A, P, ρ, s, d, ρ', s', r, e, q⟩ := q
  unfold negF at e
  split at e
  · rename_i i ρ1 s1 h1
    cases e
    refine ⟨H0, O, A, P, ρ, s, .int i, _, _, r, h1, fun v H' ex r' _ => ?_⟩
    have hv : v = .int i := by cases r'.head; rfl
    exact ⟨i, hv, q _ H' noEx (r'.tail.push (.int _) (fun _ _ z => z) fun _ z => z.elim) fun z => Bool.noConfusion z⟩
  · cases e
/-! ### slices -/
abbrev EvO (S : Type) := En → S → Option (Option Int × En × S)
def SO (K : PySem.W.Frag) (W : Wd S) (g : EvO S) : TO := fun σ H Q => ∃ (H0 : Hp) (O : Addr → Prop) (A : Acc) (P : List Pd) (ρ : En) (s : S) (k : Option Int) (ρ' : En) (s' : S), Rel ⟨K, W, H0, O⟩ A P σ H ρ s ∧ g ρ s = some (k, ρ', s') ∧ ∀ H', Rel ⟨K, W, H0, O⟩ A P σ H' ρ' s' → Q k H'
theorem _root_.L2.PO.imp {o : Option Expr} {t t' : TO} (h : PO X o t) (i : ∀ σ H Q, t' σ H Q → t σ H Q) : PO X o t' := ⟨fun pins s σ H Q I q => h.run pins s σ H Q I (i σ H Q q)⟩
def noO : EvO S := fun ρ s => some (none, ρ, s)
def someO (f : Ev S) : EvO S := fun ρ s => match f ρ s with
  | some (.int i, ρ', s') => some (some i, ρ', s')
  | _ => none
theorem so_none : PO X none (SO X.K W noO) := po_none.imp fun σ H Q q => by
  obtain ⟨H0, O, A, P, ρ, s, k, ρ', s', r, e, q⟩ := q
  cases e
  exact q H r
theorem so_some {f : Ev S} {fr : Bool} (h : PE X e (SE X.K W fr f)) : PO X (some e) (SO X.K W (someO f)) := (po_some h).imp fun σ H Q q => by
  obtain ⟨H0, O, A, P, ρ, s, k, ρ', s', r, e, q⟩ := q
  unfold someO at e
  split at e
  · rename_i i ρ1 s1 h1
    cases e
    refine ⟨H0, O, A, P, ρ, s, .int i, _, _, r, h1, fun v H' ex r' _ => ⟨i, by cases r'.head; rfl, q H' r'.tail⟩⟩
  · cases e
def cutD (xs : List D) (lo hi : Option Int) : List D := (xs.drop (HT.sIx xs.length 0 lo)).take (HT.sIx xs.length xs.length hi - HT.sIx xs.length 0 lo)
def sliceD : D → Option Int → Option Int → Option D
  | .lst xs, lo, hi => some (.lst (cutD xs lo hi))
  | .tup xs, lo, hi => some (.tup (cutD xs lo hi))
  | _, _, _ => none
theorem cut_rep {K : PySem.W.Frag} {tk : Addr} {H : Hp} {av : Addr → Prop} {vs : List V} {ds : List D} (r : RepL K tk H av vs ds) (lo hi : Option Int) : RepL K tk H av (cutV vs lo hi) (cutD ds lo hi) := by
  unfold cutV cutD
  rw [r.length]
  exact (r.drop _).take _
theorem cut_whole {xs : List D} {lo hi : Option Int} (h : HT.sIx xs.length 0 lo = 0 ∧ HT.sIx xs.length xs.length hi = xs.length) : cutD xs lo hi = xs := by
  unfold cutD
  rw [h.1, h.2]
  simp
def sliceF (f : Ev S) (lo hi : EvO S) : Ev S := fun ρ s => match f ρ s with
  | some (x, ρ1, s1) => match lo ρ1 s1 with
    | some (l, ρ2, s2) => match hi ρ2 s2 with
      | some (u, ρ3, s3) => match sliceD x l u with
        | some d => some (d, ρ3, s3)
        | none => none
      | none => none
    | none => none
  | none => none
theorem se_slice {lo hi : Option Expr} {f : Ev S} {fl fh : EvO S} {fr : Bool} {p2 : Pos} (he : PE X e (SE X.K W fr f)) (hl : PO X lo (SO X.K W fl)) (hh : PO X hi (SO X.K W fh)) : PE X (.Subscript e (.Slice lo hi none p2) pos) (SE X.K W true (sliceF f fl fh)) :=
  (pe_slice (sl_list.or sl_tupA) he hl hh).imp fun σ H Q q => by
    obtain ⟨H0, O, A, P, ρ, s, d, ρ', s', r, e, q⟩ := q
    unfold sliceF at e
    split at e
    · rename_i x ρ1 s1 h1
      split at e
      · rename_i l ρ2 s2 h2
        split at e
        · rename_i u ρ3 s3 h3
          split at e
          · rename_i d' h4
            cases e
            refine ⟨H0, O, A, P, ρ, s, x, ρ1, s1, r, h1, fun v H1 ex r1 _ => ⟨H0, O, A, _, ρ1, s1, l, ρ2, s2, r1, h2, fun H2 r2 => ⟨H0, O, A, _, ρ2, s2, u, _, _, r2, h3, fun H3 r3 => ?_⟩⟩⟩
            have fin := fin_val (fr := true) r3.tail r3.hex (fun a h => r3.pet _ List.mem_cons_self a h) q
            have rv := r3.head
            have hav : ∀ a, (avL ⟨X.K, W, H0, O⟩ A σ ρ' a ∧ ¬ ex a) → H3 a ≠ none := fun a h => r3.avT h.1
            unfold sliceD at h4
            split at h4
            · cases h4
              cases rv with
              | lst hp n rl => exact .inl ⟨_, _, rfl, .inl (.inl hp), fun p hp => fin.lst hav (cut_rep rl l u) hp⟩
            · cases h4
              cases rv with
              | tup hp rl =>
                refine .inr ⟨_, _, rfl, hp, fun w => ?_, fun w p hp => fin.tup (cut_rep rl l u) hp⟩
                rw [rl.length] at w
                rw [cut_whole w] at fin
                exact fin.val (.tup hp rl) fun _ z => by cases z
            · cases h4
          · cases e
        · cases e
      · cases e
    · cases e
/-! ### a class as a value; list(range()) -/
theorem se_ty {x : Str} {T : String} (hg : Gl X x) (hm : X.mg x = none) (hv : bootBuiltins x = some (.type T)) (hn : x ≠ "__name__") (hd : (x == ("__debug__" : Str)) = false) : PE X (.Name x pos) (SE X.K W false (cstF (.ty T))) :=
  se_cst (v := .ty T) (fun _ _ => .ty T) (pe_bltn hg hm hv rfl hn hd)
theorem rgV_rep {K : PySem.W.Frag} {tk : Addr} {H : Hp} {av : Addr → Prop} (a b : Int) : RepL K tk H av (rgV a b) (rngD a (b - a).toNat) := by
  have : ∀ ns : List Nat, RepL K tk H av (ns.map fun i : Nat => V.int (a + (i : Nat))) (ns.map fun i : Nat => D.int (a + (i : Nat))) := by
    intro ns
    induction ns with
    | nil => exact .nil
    | cons n ns ih => exact .cons (.int _) ih
  exact this _
instance (a b : Int) : Decidable (RgOk a b) := by unfold RgOk; exact inferInstance
def rgD (h : List D → D) : List D → Option D
  | [.int j] => if RgOk 0 j then some (h (rngD 0 j.toNat)) else none
  | [.int i, .int j] => if RgOk i j then some (h (rngD i (j - i).toNat)) else none
  | _ => none
theorem se_listRg1 {fa : Ev S} {fr : Bool} {p2 q2 : Pos} (hc : X.calm = true) (hg : Gl X "list") (hm : X.mg "list" = none) (hg2 : Gl X "range") (hm2 : X.mg "range" = none) (ha : PE X a (SE X.K W fr fa)) (na : starEach [a] X.env = (false, eval a X.env) :: starEach [] X.env)
    (nb : starEach [.Call (.Name "range" p2) [a] [] q2] X.env = (false, eval (.Call (.Name "range" p2) [a] [] q2) X.env) :: starEach [] X.env) : PE X (.Call (.Name "list" p) [.Call (.Name "range" p2) [a] [] q2] [] pos) (SE X.K W true (mapF (rgD .lst) (consL fa nilL))) :=
  (pe_listRg hc hg hm (prg_1 hg2 hm2 ha na) nb).imp fun σ H Q q => by
    obtain ⟨H0, O, A, P, ρ, s, d, ρ', s', r, e, q⟩ := q
    obtain ⟨ds, e1, e2⟩ := mapF_some e
    obtain ⟨x, ρ1, s1, xs, e3, e4, rfl⟩ := consL_some e1
    cases e4
    unfold rgD at e2
    split at e2
    · rename_i j hx
      cases hx
      split at e2
      · rename_i ok
        cases e2
        refine ⟨H0, O, A, P, ρ, s, .int j, ρ', s', r, e3, fun v H' ex r' _ => ?_⟩
        have fin := fin_val (fr := true) r'.tail r'.hex (fun a h => r'.pet _ List.mem_cons_self a h) q
        have rl := rgV_rep (K := X.K) (tk := W.tok) (H := H') (av := fun a => avL ⟨X.K, W, H0, O⟩ A σ ρ' a ∧ ¬ ex a) 0 j
        rw [Int.sub_zero] at rl
        exact ⟨j, by cases r'.head; rfl, ok, fun p hp => fin.lst (fun a h => r'.avT h.1) rl hp⟩
      · cases e2
    · rename_i hx; cases hx
    · cases e2
theorem se_listRg2 {fa fb : Ev S} {fr1 fr2 : Bool} {p2 q2 : Pos} (hc : X.calm = true) (hg : Gl X "list") (hm : X.mg "list" = none) (hg2 : Gl X "range") (hm2 : X.mg "range" = none) (ha : PE X a (SE X.K W fr1 fa)) (hb : PE X b (SE X.K W fr2 fb)) (na : starEach [a, b] X.env = (false, eval a X.env) :: starEach [b] X.env) (na2 : starEach [b] X.env = (false, eval b X.env) :: starEach [] X.env) (hpl : (backTo q2 (starEach [b] X.env)).any (·.1) = false)
    (nb : starEach [.Call (.Name "range" p2) [a, b] [] q2] X.env = (false, eval (.Call (.Name "range" p2) [a, b] [] q2) X.env) :: starEach [] X.env) : PE X (.Call (.Name "list" p) [.Call (.Name "range" p2) [a, b] [] q2] [] pos) (SE X.K W true (mapF (rgD .lst) (consL fa (consL fb nilL)))) :=
  (pe_listRg hc hg hm (prg_2 hg2 hm2 ha hb na na2 hpl) nb).imp fun σ H Q q => by
    obtain ⟨H0, O, A, P, ρ, s, d, ρ', s', r, e, q⟩ := q
    obtain ⟨ds, e1, e2⟩ := mapF_some e
    obtain ⟨x, ρ1, s1, xs, e3, e4, rfl⟩ := consL_some e1
    obtain ⟨y, ρ2, s2, ys, e5, e6, rfl⟩ := consL_some e4
    cases e6
    unfold rgD at e2
    split at e2
    · rename_i hx; cases hx
    · rename_i i j hx
      cases hx
      split at e2
      · rename_i ok
        cases e2
        refine ⟨H0, O, A, P, ρ, s, .int i, ρ1, s1, r, e3, fun v H' ex r' _ => ⟨H0, O, A, _, _, _, .int j, ρ', s', r', e5, fun w H2 ex2 r2 _ => ?_⟩⟩
        have hx : ∀ a, avO ⟨X.K, W, H0, O⟩ A σ ρ' a → ¬ ex2 a := r2.hex
        have fin := fin_val (fr := true) r2.tail.tail r2.hex (fun a h => r2.pet _ List.mem_cons_self a h) q
        exact ⟨i, j, by cases r2.tail.head; rfl, by cases r2.head; rfl, ok, fun p hp => fin.lst (fun a h => r2.avT h.1) (rgV_rep i j) hp⟩
      · cases e2
    · cases e2
/-! ### repr -/
def reprD : List D → Option D
  | [d] => if okD 60 d && (toP d).showable && decide ((toP d).shown.length ≤ sizeLine) then some (.str (toP d).shown) else none
  | _ => none
def rRepr (K : PySem.W.Frag) : List V → Hp → VK → Prop := fun xs H Q => ∃ v d, xs = [v] ∧ Dp K H v d ∧ SeqAt.shaped d = true ∧ d.showable = true ∧ d.shown.length ≤ sizeLine ∧ Q (.str d.shown) H
theorem cr_repr (hg : X.A.guards = some []) (hu : X.A.units + 65 < cLine) : CallR X (.builtin "repr") (rRepr X.K) := by
  intro pins st σ H xs us Q J rv h
  obtain ⟨v, d, rfl, hd, sh, sw, sz, q⟩ := h
  obtain ⟨u, rfl, ru⟩ := vals1 rv
  cases hd with
  | non =>
    cases ru
    exact PySem.P.repr_of_none ⟨.str _, H, J.tok _, ⟨_, rfl⟩, by simpa [PyData.shown] using q⟩
  | bl b =>
    cases ru
    exact PySem.P.repr_of_bool ⟨.str _, H, J.tok _, ⟨_, rfl⟩, by simpa [PyData.shown] using q⟩
  | int i =>
    obtain ⟨t, rfl⟩ := ru
    exact PySem.P.repr_of_int (by simpa [PyData.showable] using sw) ⟨.str _, H, J.tok _, ⟨_, rfl⟩, by simpa [PyData.shown] using q⟩
  | str x =>
    obtain ⟨t, rfl⟩ := ru
    exact PySem.P.repr_of_str (hsz := by simpa [PyData.shown] using sz) ⟨.str _, H, J.tok _, ⟨_, rfl⟩, by simpa [PyData.shown] using q⟩
  | lst hs hds =>
    obtain ⟨as, r1⟩ := Dp.reads J _ _ _ (.lst hs hds) ru
    cases ru
    refine PySem.repr_of_reads' r1 sw (PyData.noDict_hsm (PyData.hasDict_of_canLay _ (SeqAt.canLay_of_shaped sh))) hg ?_ (fun _ _ z => z) (fun h' t tk hk => ⟨.str _, H, J.kept hk, ⟨_, rfl⟩, q⟩) sz
    have := SeqAt.depth_of_shaped sh
    omega
  | tup hs hds =>
    obtain ⟨as, r1⟩ := Dp.reads J _ _ _ (.tup hs hds) ru
    cases ru
    refine PySem.repr_of_reads' r1 sw (PyData.noDict_hsm (PyData.hasDict_of_canLay _ (SeqAt.canLay_of_shaped sh))) hg ?_ (fun _ _ z => z) (fun h' t tk hk => ⟨.str _, H, J.kept hk, ⟨_, rfl⟩, q⟩) sz
    have := SeqAt.depth_of_shaped sh
    omega
theorem cv_repr {tk : Addr} (hg : X.A.guards = some []) (hu : X.A.units + 65 < cLine) : CaV X tk (.builtin "repr") reprD := by
  refine ⟨_, cr_repr hg hu, fun H av xs ds d Q hav rl e q => ?_⟩
  unfold reprD at e
  split at e
  · rename_i x
    split at e
    · rename_i h
      simp only [Bool.and_eq_true, decide_eq_true_eq] at h
      cases e
      obtain ⟨v, rfl, r⟩ := repL1' rl
      exact ⟨v, _, rfl, rep_dp r h.1.1, ok_shaped h.1.1 (by decide), h.1.2, h.2, q.val (.str _) fun _ z => by cases z⟩
    · cases e
  · cases e
end
end L3
end
section
set_option Elab.async false
set_option linter.all false
set_option maxRecDepth 100000
set_option autoImplicit false
/-! L3n: names set side by side; an item of an own list set (own work). -/
namespace L3
open PySem PySem.Spec PyProof.Rows L2
section
variable {S : Type}
abbrev EvI (S : Type) := En → S → Option (List (Bool × D) × En × S)
/-- how values wait that are to be set: new lists gathered, others pending -/
inductive Mt : Acc → List Pd → List V → List (Bool × D) → Prop
  | nil : Mt [] [] [] []
  | pend {A : Acc} {P : List Pd} {vs : List V} {its : List (Bool × D)} (v : V) (d : D) (ex : Addr → Prop) : Mt A P vs its → Mt A (P ++ [⟨v, d, ex⟩]) (v :: vs) ((false, d) :: its)
  | own {A : Acc} {P : List Pd} {vs : List V} {its : List (Bool × D)} (p : Addr) (ds : List D) : Mt A P vs its → Mt (A ++ [(p, ds)]) P (.ref p :: vs) ((true, .lst ds) :: its)
def SLI (K : PySem.W.Frag) (W : Wd S) (f : EvI S) : TA := fun σ H Q => ∃ (H0 : Hp) (O : Addr → Prop) (A : Acc) (P : List Pd) (ρ : En) (s : S) (its : List (Bool × D)) (ρ' : En) (s' : S),
  Rel ⟨K, W, H0, O⟩ A P σ H ρ s ∧ f ρ s = some (its, ρ', s') ∧ ∀ (vs : List V) (H' : Hp) (A2 : Acc) (P2 : List Pd), Rel ⟨K, W, H0, O⟩ (A2 ++ A) (P2 ++ P) σ H' ρ' s' → Mt A2 P2 vs its → Q vs H'
variable {X : Cx} {W : Wd S} {e a b c : Expr} {es : List Expr} {pos : Pos}
def nilI : EvI S := fun ρ s => some ([], ρ, s)
def consI (fr : Bool) (f : Ev S) (g : EvI S) : EvI S := fun ρ s => match f ρ s with
  | some (d, ρ1, s1) => match fr, d with
    | true, .lst ds => if noLs ds then match g (thaw ρ ρ1) s1 with
          | some (its, ρ2, s2) => some ((true, .lst ds) :: its, ρ2, s2)
          | none => none
        else match g ρ1 s1 with
          | some (its, ρ2, s2) => some ((false, .lst ds) :: its, ρ2, s2)
          | none => none
    | _, d => match g (if noL d then thaw ρ ρ1 else ρ1) s1 with
      | some (its, ρ2, s2) => some ((false, d) :: its, ρ2, s2)
      | none => none
  | none => none
theorem sli_nil : PA X [] (SLI X.K W nilI) := pa_nil.imp fun σ H Q q => by
  obtain ⟨H0, O, A, P, ρ, s, its, ρ', s', r, e, q⟩ := q
  cases e
  exact q [] H [] [] r .nil
theorem consI_val {K : PySem.W.Frag} {fr : Bool} {f : Ev S} {g : EvI S} {σ : L2.St} {H : Hp} {Q : List V → Hp → Prop} (q : SLI K W (consI fr f g) σ H Q) : tCons (SE K W fr f) (SLI K W g) σ H Q := by
  obtain ⟨H0, O, A, P, ρ, s, its, ρ', s', r, e, q⟩ := q
  unfold consI at e
  split at e
  · rename_i d ρ1 s1 h1
    refine ⟨H0, O, A, P, ρ, s, d, ρ1, s1, r, h1, fun v H1 ex r1 hf => ?_⟩
    have pend : ∀ ρa its2, Rel ⟨K, W, H0, O⟩ A (⟨v, d, ex⟩ :: P) σ H1 ρa s1 → g ρa s1 = some (its2, ρ', s') → its = (false, d) :: its2 → SLI K W g σ H1 fun vs H2 => Q (v :: vs) H2 := fun ρa its2 ra hg hi => by
      refine ⟨H0, O, A, _, ρa, s1, its2, ρ', s', ra, hg, fun vs H2 A2 P2 r2 m => ?_⟩
      subst hi
      exact q (v :: vs) H2 A2 (P2 ++ [⟨v, d, ex⟩]) (by rw [List.append_assoc]; exact r2) (.pend v d ex m)
    split at e
    · rename_i ds
      split at e
      · rename_i hn
        split at e
        · rename_i its2 ρ2 s2 h2
          cases e
          obtain ⟨p, xs, H0', ev, hp, eH, r2, rl, hx, ht⟩ := hf rfl ds rfl
          subst ev
          subst eH
          have r3 := (Rel.thaw0 r.pex r2).accFresh hp (rl.free hn)
          refine ⟨H0, O, _, P, _, s1, its2, _, _, r3, h2, fun vs H2 A2 P2 r4 m => ?_⟩
          exact q _ H2 (A2 ++ [(p, ds)]) P2 (by rw [List.append_assoc]; exact r4) (.own p ds m)
        · cases e
      · split at e
        · rename_i its2 ρ2 s2 h2
          cases e
          exact pend ρ1 its2 r1 h2 rfl
        · cases e
    · split at e
      · rename_i its2 ρ2 s2 h2
        cases e
        by_cases hd : noL d = true
        · rw [if_pos hd] at h2
          have r3 := Rel.thaw r.pex r1 hd
          refine ⟨H0, O, A, _, _, s1, its2, _, _, r3, h2, fun vs H2 A2 P2 r2 m => ?_⟩
          exact q (v :: vs) H2 A2 (P2 ++ [⟨v, d, noEx⟩]) (by rw [List.append_assoc]; exact r2) (.pend v d noEx m)
        · rw [if_neg hd] at h2
          exact pend ρ1 its2 r1 h2 rfl
      · cases e
  · cases e
theorem sli_cons {fr : Bool} {f : Ev S} {g : EvI S} (he : PE X e (SE X.K W fr f)) (hr : PA X es (SLI X.K W g)) (hs : starEach (e :: es) X.env = (false, eval e X.env) :: starEach es X.env) : PA X (e :: es) (SLI X.K W (consI fr f g)) :=
  (pa_cons he hr hs).imp fun σ H Q q => consI_val q
def putI : List Nat → List (Bool × D) → En → Option En
  | [], [], ρ => some ρ
  | i :: is, (true, .lst ds) :: its, ρ => if i < ρ.length then putI is its (ρ.set i (.own false ds)) else none
  | i :: is, (_, d) :: its, ρ => (putV i d ρ).bind (putI is its)
  | _, _, _ => none
def setAll : L2.St → List Nat → List V → L2.St
  | σ, i :: is, v :: vs => setAll (σ.set i (some v)) is vs
  | σ, _, _ => σ
theorem putI_ok {R : Fx S} {A : Acc} {P : List Pd} {H : Hp} {s : S} : ∀ {is : List Nat} {A2 : Acc} {P2 : List Pd} {vs : List V} {its : List (Bool × D)} {σ : L2.St} {ρ ρ' : En}, Mt A2 P2 vs its → Rel R (A2 ++ A) (P2 ++ P) σ H ρ s → putI is its ρ = some ρ' → Rel R A P (setAll σ is vs) H ρ' s
  | [], _, _, _, _, σ, ρ, ρ', .nil, r, e => by cases e; exact r
  | [], _, _, _, _, σ, ρ, ρ', .pend v d ex m, r, e => by cases e
  | [], _, _, _, _, σ, ρ, ρ', .own p ds m, r, e => by cases e
  | i :: is, _, _, _, _, σ, ρ, ρ', .nil, r, e => by cases e
  | i :: is, A2, _, _, _, σ, ρ, ρ', .pend (P := P2) (vs := vs) (its := its) v d ex m, r, e => by
    have e : (putV i d ρ).bind (putI is its) = some ρ' := e
    cases h : putV i d ρ with
    | none => rw [h] at e; cases e
    | some ρ1 =>
      rw [h] at e
      have e : putI is its ρ1 = some ρ' := e
      have r1 : Rel R (A2 ++ A) (⟨v, d, ex⟩ :: (P2 ++ P)) σ H ρ s := r.sub fun q hq => by
        rw [List.append_assoc]
        rcases List.mem_cons.mp hq with rfl | hq
        · exact List.mem_append_right _ List.mem_cons_self
        · rcases List.mem_append.mp hq with hq | hq
          · exact List.mem_append_left _ hq
          · exact List.mem_append_right _ (List.mem_cons_of_mem _ hq)
      exact putI_ok (is := is) m (r1.putV h) e
  | i :: is, _, P2, _, _, σ, ρ, ρ', .own (A := A2) (vs := vs) (its := its) p ds m, r, e => by
    have e : (if i < ρ.length then putI is its (ρ.set i (.own false ds)) else none) = some ρ' := e
    split at e
    · rename_i hi
      have r1 : Rel R ((p, ds) :: (A2 ++ A)) (P2 ++ P) σ H ρ s := r.permA (by
        rw [List.append_assoc]
        exact (List.perm_middle (a := (p, ds)) (l₁ := A2) (l₂ := A)).symm)
      exact putI_ok (is := is) m (r1.accOwn hi) e
    · cases e
theorem putI_cons {i : Nat} {is : List Nat} {it : Bool × D} {its : List (Bool × D)} {ρ ρ' : En} (h : putI (i :: is) (it :: its) ρ = some ρ') : ∃ ρ1, putI is its ρ1 = some ρ' := by
  obtain ⟨k, d⟩ := it
  have gen : (putV i d ρ).bind (putI is its) = some ρ' → ∃ ρ1, putI is its ρ1 = some ρ' := fun h => by
    cases z : putV i d ρ with
    | none => rw [z] at h; cases h
    | some ρ1 => rw [z] at h; exact ⟨ρ1, h⟩
  cases k with
  | false => exact gen h
  | true =>
    cases d with
    | lst ds =>
      have h : (if i < ρ.length then putI is its (ρ.set i (.own false ds)) else none) = some ρ' := h
      split at h
      · exact ⟨_, h⟩
      · cases h
    | _ => exact gen h
def parF (is : List Nat) (f : EvI S) : Ss S := fun ρ s => match f ρ s with
  | some (its, ρ', s') => (putI is its ρ').map fun ρ2 => (.nx, ρ2, s')
  | none => none
theorem par_val {K : PySem.W.Frag} {is : List Nat} {f : EvI S} {E : Ends} {σ : L2.St} {H : Hp} (h : SS K W (parF is f) E σ H) : SLI K W f σ H fun vs H' => vs.length = is.length ∧ E.nx (setAll σ is vs) H' := by
  obtain ⟨H0, O, P, ρ, s, o, ρ', s', r, e, q⟩ := h
  unfold parF at e
  split at e
  · rename_i its ρ1 s1 h1
    cases h2 : putI is its ρ1 with
    | none => rw [h2] at e; cases e
    | some ρ2 =>
      rw [h2] at e
      cases e
      refine ⟨H0, O, [], P, ρ, s, its, ρ1, _, r, h1, fun vs H' A2 P2 r2 m => ⟨?_, q _ H' (putI_ok (A := []) (P := P) m r2 h2)⟩⟩
      have lens : ∀ {A : Acc} {P : List Pd} {vs : List V} {its : List (Bool × D)}, Mt A P vs its → vs.length = its.length := by
        intro A P vs its m
        induction m with
        | nil => rfl
        | pend v d ex m ih => simp [ih]
        | own p ds m ih => simp [ih]
      have leni : ∀ {is : List Nat} {its : List (Bool × D)} {ρ ρ' : En}, putI is its ρ = some ρ' → is.length = its.length := by
        intro is
        induction is with
        | nil =>
          intro its ρ ρ' h
          cases its with
          | nil => rfl
          | cons _ _ => cases h
        | cons i is ih =>
          intro its ρ ρ' h
          cases its with
          | nil => cases h
          | cons it its =>
            obtain ⟨ρ1, z⟩ := putI_cons h
            simp [ih z]
      rw [lens m, leni h2]
  · cases e
theorem ss_par2 {i j : Nat} {x y : Str} {f : EvI S} {px py pt : Pos} {kt k2 : Nat} {pt2 : Pos} (hc : X.calm = true) (hN : X.N.Nodup) (hi : X.N[i]? = some x) (hj : X.N[j]? = some y) (hij : i ≠ j)
    (hx : X.env.scope.names.lookup x = some .local) (hy : X.env.scope.names.lookup y = some .local) (ha : PA X [a, b] (SLI X.K W f))
    (hw : swappedStores [.Tuple [.Name x px, .Name y py] kt pt] (.Tuple [a, b] k2 pt2) X.env = pure (some [x, y]))
    (hs : swapsWithSole [.Tuple [.Name x px, .Name y py] kt pt] (.Tuple [a, b] k2 pt2) pos.line X.env = pure false) :
    PS X (.Assign [.Tuple [.Name x px, .Name y py] kt pt] (.Tuple [a, b] k2 pt2) pos) (SS X.K W (parF [i, j] f)) := (ps_par hc hN hi hj hij hx hy ha hw hs).imp fun E σ H q => by
  obtain ⟨H0, O, A, P, ρ, s, its, ρ', s', r, e, k⟩ := par_val q
  refine ⟨H0, O, A, P, ρ, s, its, ρ', s', r, e, fun vs H' A2 P2 r2 m => ?_⟩
  obtain ⟨hl, z⟩ := k vs H' A2 P2 r2 m
  match vs, hl, z with
  | [v, w], _, z => exact ⟨v, w, rfl, z⟩
theorem ss_par3 {i j l : Nat} {x y z : Str} {f : EvI S} {px py pz pt : Pos} {kt k2 : Nat} {pt2 : Pos} (hc : X.calm = true) (hN : X.N.Nodup) (hi : X.N[i]? = some x) (hj : X.N[j]? = some y) (hl : X.N[l]? = some z) (hij : i ≠ j) (hil : i ≠ l) (hjl : j ≠ l)
    (hx : X.env.scope.names.lookup x = some .local) (hy : X.env.scope.names.lookup y = some .local) (hz : X.env.scope.names.lookup z = some .local) (ha : PA X [a, b, c] (SLI X.K W f))
    (hw : swappedStores [.Tuple [.Name x px, .Name y py, .Name z pz] kt pt] (.Tuple [a, b, c] k2 pt2) X.env = pure (some [x, y, z]))
    (hs : swapsWithSole [.Tuple [.Name x px, .Name y py, .Name z pz] kt pt] (.Tuple [a, b, c] k2 pt2) pos.line X.env = pure false) :
    PS X (.Assign [.Tuple [.Name x px, .Name y py, .Name z pz] kt pt] (.Tuple [a, b, c] k2 pt2) pos) (SS X.K W (parF [i, j, l] f)) := (ps_par3 hc hN hi hj hl hij hil hjl hx hy hz ha hw hs).imp fun E σ H q => by
  obtain ⟨H0, O, A, P, ρ, s, its, ρ', s', r, e, k⟩ := par_val q
  refine ⟨H0, O, A, P, ρ, s, its, ρ', s', r, e, fun vs H' A2 P2 r2 m => ?_⟩
  obtain ⟨hl, z⟩ := k vs H' A2 P2 r2 m
  match vs, hl, z with
  | [u, v, w], _, z => exact ⟨u, v, w, rfl, z⟩
/-! ### x[i] = e, x an own list -/
def setAtF (i : Nat) (f g : Ev S) : Ss S := fun ρ s => match f ρ s with
  | some (d, ρ1, s1) => match ρ1[i]? with
    | some (.own _ _) => match g (if noL d then thaw ρ ρ1 else ρ1) s1 with
      | some (.int k, ρ2, s2) => match ρ2[i]? with
        | some (.own false ds) => match ixN ds.length k with
          | some j => some (.nx, (if noL d then ρ2 else freeze ρ2).set i (.own false (ds.set j d)), s2)
          | none => none
        | _ => none
      | _ => none
    | _ => none
  | none => none
theorem ss_setAt {i : Nat} {x : Str} {px : Pos} {f g : Ev S} {fr1 fr2 : Bool} (hx : PE X (.Name x px) (tVar i)) (he : PE X e (SE X.K W fr1 f)) (hg : PE X a (SE X.K W fr2 g))
    (ha : ∀ v, assign (.Subscript (.Name x px) a pos) X.env v = (do
      let ov ← holding [v] (eval (.Name x px) X.env)
      let iv ← holding [v, ov] (eval a X.env)
      standAt pos
      holding [v, ov, iv] (setItem ov iv v)
      release [v, ov, iv] []))
    {p2 : Pos} (hs : swapsWithSole [.Subscript (.Name x px) a pos] e p2.line X.env = pure false) (hw : swappedStores [.Subscript (.Name x px) a pos] e X.env = pure none)
    (h1 : (assignEach [.Subscript (.Name x px) a pos] X.env).map (·.2) = [assign (.Subscript (.Name x px) a pos) X.env]) :
    PS X (.Assign [.Subscript (.Name x px) a pos] e p2) (SS X.K W (setAtF i f g)) := (ps_asg he (pg_sub hx hg set_list ha) hs hw h1).imp fun E σ H q => by
  obtain ⟨H0, O, P, ρ, s, o, ρ', s', r, e, q⟩ := q
  unfold setAtF at e
  split at e
  · rename_i d ρ1 s1 h1
    refine ⟨H0, O, [], P, ρ, s, d, ρ1, s1, r, h1, fun v H1 ex r1 _ => ?_⟩
    split at e
    · rename_i t0 ds0 h2
      split at e
      · rename_i k ρ2 s2 h3
        split at e
        · rename_i ds h4
          split at e
          · rename_i j hj
            cases e
            obtain ⟨ex', r1'⟩ : ∃ ex', Rel ⟨X.K, W, H0, O⟩ [] (⟨v, d, ex'⟩ :: P) σ H1 (if noL d then L3.thaw ρ ρ1 else ρ1) s1 := by
              by_cases hd : noL d = true
              · rw [if_pos hd]
                exact ⟨_, Rel.thaw r.pex r1 hd⟩
              · rw [if_neg hd]
                exact ⟨_, r1⟩
            obtain ⟨p0, xs0, hp0, _, _, _⟩ := r1.lst i _ _ h2
            refine ⟨_, hp0, H0, O, [], _, _, s1, .int k, ρ2, _, r1', h3, fun w H2 ex2 r2 _ => ?_⟩
            obtain ⟨p, xs, hp, hH, hxs, _⟩ := r2.lst i _ _ h4
            rw [hp0] at hp
            cases hp
            refine ⟨p0, xs, k, j, rfl, by cases r2.head; rfl, hH, by rw [hxs.length]; exact hj, ?_⟩
            have r3 := r2.tail
            have fin : ∀ ρd, Rel ⟨X.K, W, H0, O⟩ [] P σ H2 ρd s' → ρd[i]? = some (.own false ds) → Rep X.K W.tok H2 (avL ⟨X.K, W, H0, O⟩ [] σ ρd) v d → E.nx σ (upd H2 p0 (.lst (xs.set j v))) → True := fun _ _ _ _ _ => trivial
            have go : ∀ ρd, Rel ⟨X.K, W, H0, O⟩ [] P σ H2 ρd s' → ρd[i]? = some (.own false ds) → Rep X.K W.tok H2 (avL ⟨X.K, W, H0, O⟩ [] σ ρd) v d → Rel ⟨X.K, W, H0, O⟩ [] P σ (upd H2 p0 (.lst (xs.set j v))) (ρd.set i (.own false (ds.set j d))) s' := fun ρd rd hd ry => by
              obtain ⟨p2, xs2, hp2, hH2, hxs2, _⟩ := rd.lst i _ _ hd
              rw [hp0] at hp2; cases hp2
              rw [hH] at hH2; cases hH2
              exact rd.write hd hp0 (hxs2.set j ry)
            by_cases hd : noL d = true
            · rw [if_pos hd] at q
              exact q σ _ (go ρ2 r3.tail h4 (r3.head.free hd))
            · rw [if_neg hd] at q
              exact q σ _ (go (L3.freeze ρ2) r3.tail.freeze (freeze_set_own h4) (r3.headO.mono fun a z => freeze_avL z))
          · cases e
        · cases e
      · cases e
    · cases e
  · cases e
end
end L3
end
section
set_option Elab.async false
set_option linter.all false
set_option maxRecDepth 100000
set_option autoImplicit false
/-! L3o: the deck of a law: a dict with its list of cells, as a state (own work). -/
namespace L3
open PySem PySem.Spec PyProof.Rows L2
structure Dk where
  cells : List Int
  mixed : Int
  draws : Int
abbrev kM : Key := .inr "mixed"
def dkV (kc kd : Str) (c : Addr) (s : Dk) : List (Key × V) := [(.inr kc, .ref c), (kM, .int s.mixed), (.inr kd, .int s.draws)]
def dW (kc kd : Str) (T c : Addr) : Wd Dk where
  rel s H := H T = some (.dK (dkV kc kd c s)) ∧ H c = some (.lst (s.cells.map .int)) ∧ s.cells.length ≤ 64
  own a := a = T ∨ a = c
  tok := T
  has := fun {s H a} h o => by
    rcases o with rfl | rfl
    · exact ⟨_, h.1, trivial⟩
    · exact ⟨_, h.2.1, trivial⟩
  stay := fun {s H H'} h k => ⟨k _ _ (.inl rfl) h.1, k _ _ (.inr rfl) h.2.1, h.2.2⟩
/-- the keys are three -/
structure KeyOk (kc kd : Str) : Prop where
  cm : (Sum.inr kc : Key) ≠ kM
  cd : (Sum.inr kc : Key) ≠ .inr kd
  md : kM ≠ (.inr kd : Key)
section
variable {kc kd : Str} {T c : Addr} {s : Dk}
theorem dk_c : valV (dkV kc kd c s) (.inr kc) = some (.ref c) := valV_pos rfl
theorem dk_m (ok : KeyOk kc kd) : valV (dkV kc kd c s) kM = some (.int s.mixed) := (valV_neg ok.cm).trans (valV_pos rfl)
theorem dk_d (ok : KeyOk kc kd) : valV (dkV kc kd c s) (.inr kd) = some (.int s.draws) := (valV_neg ok.cd).trans ((valV_neg ok.md).trans (valV_pos rfl))
theorem dk_put (ok : KeyOk kc kd) (i : Int) : putK (dkV kc kd c s) (.inr kd) (.int i) = dkV kc kd c { s with draws := i } := by
  have h1 := ok.cd
  have h2 := ok.md
  unfold putK dkV
  simp [h1, h2]
end
theorem dk_apart {kc kd : Str} {T c : Addr} {s : Dk} {H : Hp} (h : (dW kc kd T c).rel s H) : c ≠ T := fun e => by
  subst e
  have h1 := h.1
  rw [h.2.1] at h1
  cases h1
variable {X : Cx} {kc kd : Str} {T c : Addr} {e : Expr} {pos px p1 p2 p3 : Pos} {x : Str} {i : Nat}
/-- deck[k], an int -/
def dkF (i : Nat) (sel : Dk → Int) : Ev Dk := fun ρ s => match ρ[i]? with
  | some (.val .deck) => some (.int (sel s), ρ, s)
  | _ => none
theorem deckAt {R : Fx Dk} {A : Acc} {P : List Pd} {σ : L2.St} {H : Hp} {ρ : En} {s : Dk} (hW : R.W = dW kc kd T c) (r : Rel R A P σ H ρ s) (hi : ρ[i]? = some (.val .deck)) : σ[i]? = some (some (.ref T)) := by
  obtain ⟨v, h1, h2⟩ := r.val i _ hi
  cases h2
  rw [h1, hW]
  rfl
theorem se_dk {k : Str} {sel : Dk → Int} {j : Nat} (hu : X.A.units + 65 < cLine) (hv : ∀ s, valV (dkV kc kd c s) (.inr k) = some (.int (sel s))) (hx : PE X (.Name x px) (tVar i)) (hs : NoSl (.Constant (.str k) j p1)) :
    PE X (.Subscript (.Name x px) (.Constant (.str k) j p1) pos) (SE X.K (dW kc kd T c) false (dkF i sel)) := (pe_dget (by omega) hx pe_str hs).imp fun σ H Q q => by
  obtain ⟨H0, O, A, P, ρ, s, d, ρ', s', r, e, q⟩ := q
  unfold dkF at e
  split at e
  · rename_i hi
    cases e
    refine ⟨_, deckAt rfl r hi, T, .int (sel s), rfl, ?_, q _ H noEx (r.push (.int _) (fun _ _ z => z) fun _ z => z.elim) fun z => Bool.noConfusion z⟩
    have := DGet.k (k := .inr k) r.wd.1
    rwa [hv] at this
  · cases e
/-- deck[kd] = e -/
def dkSetF (i : Nat) (f : Ev Dk) : Ss Dk := fun ρ s => match f ρ s with
  | some (.int k, ρ1, s1) => match (thaw ρ ρ1)[i]? with
    | some (.val .deck) => some (.nx, thaw ρ ρ1, { s1 with draws := k })
    | _ => none
  | _ => none
theorem ss_dkSet {f : Ev Dk} {fr : Bool} {j : Nat} (ok : KeyOk kc kd) (hu : X.A.units + 65 < cLine) (hx : PE X (.Name x px) (tVar i)) (he : PE X e (SE X.K (dW kc kd T c) fr f)) (hs : swapsWith e (some (.Subscript (.Name x px) (.Constant (.str kd) j p1) p2)) pos.line X.env = pure false) :
    PS X (.Assign [.Subscript (.Name x px) (.Constant (.str kd) j p1) p2] e pos) (SS X.K (dW kc kd T c) (dkSetF i f)) := (ps_dput (by omega) hx pe_str he hs).imp fun E σ H q => by
  obtain ⟨H0, O, P, ρ, s, o, ρ', s', r, e, q⟩ := q
  unfold dkSetF at e
  split at e
  · rename_i k ρ1 s1 h1
    split at e
    · rename_i hi
      cases e
      refine ⟨H0, O, [], P, ρ, s, .int k, ρ1, s1, r, h1, fun v H1 ex r1 _ => ?_⟩
      have hv : v = .int k := by cases r1.head; rfl
      subst hv
      have r2 := Rel.thaw0 r.pex r1.tail
      refine ⟨_, deckAt rfl r2 hi, T, _, rfl, .inl ⟨_, .inr kd, r2.wd.1, rfl, by show 3 < sizeLine; rw [sizeLine_eq]; omega, rfl⟩, q _ _ ?_⟩
      rw [dk_put ok]
      refine r2.kept (fun a o h n => ?_) ⟨upd_same, ?_, r2.wd.2.2⟩
      · rw [upd_ne (fun z => n (.inl z))]; exact h
      · rw [upd_ne (dk_apart r2.wd)]; exact r2.wd.2.1
    · cases e
  · cases e
/-- deck[kc] != [] -/
def dkAnyB (i : Nat) : EvB Dk := fun ρ s => match ρ[i]? with
  | some (.val .deck) => some (!s.cells.isEmpty, ρ, s)
  | _ => none
theorem ints_dp {K : PySem.W.Frag} {H : Hp} : ∀ ns : List Int, DpAll K H (ns.map .int) (ns.map .int)
  | [] => .nil
  | n :: ns => .cons (.int n) (ints_dp ns)
theorem ints_lay : ∀ ns : List Int, PyData.canLayAll0 (ns.map .int) = true ∧ PyData.depthAll (ns.map .int) = 0
  | [] => ⟨by simp [PyData.canLayAll0], by simp [PyData.depthAll]⟩
  | n :: ns => by
    obtain ⟨h1, h2⟩ := ints_lay ns
    exact ⟨by simp [PyData.canLayAll0, PyData.canLay0, h1], by simp [PyData.depthAll, PyData.depth, h2]⟩
theorem ints_shaped (ns : List Int) : SeqAt.shaped (.list (ns.map .int)) = true := by
  obtain ⟨h1, h2⟩ := ints_lay ns
  unfold SeqAt.shaped
  simp [PyData.canLay0, h1, PyData.depth, h2]
theorem sb_dkAny {j : Nat} (hu : X.A.units + 65 < cLine) (hx : PE X (.Name x px) (tVar i)) (hs : NoSl (.Constant (.str kc) j p1)) (hm : behindInMarks .NotEq (.List [] p3) = false) :
    PT X (.Compare (.Subscript (.Name x px) (.Constant (.str kc) j p1) p2) [.NotEq] [.List [] p3] pos) (SB X.K (dW kc kd T c) (dkAnyB i)) := (pt_cmpR (op_neD (by omega)) (pe_dget (by omega) hx pe_str hs) (pe_lst pa_nil) hm).imp fun σ H Q q => by
  obtain ⟨H0, O, A, P, ρ, s, b, ρ', s', r, e, q⟩ := q
  unfold dkAnyB at e
  split at e
  · rename_i hi
    cases e
    have g := DGet.k (k := .inr kc) r.wd.1
    rw [dk_c] at g
    refine ⟨_, deckAt rfl r hi, T, .ref c, rfl, g, Nat.zero_le _, fun p hp => ?_⟩
    have k := same_upd (o := .lst []) hp
    refine ⟨.list (s.cells.map .int), .list [], .lst (.inl (.inl (k _ _ r.wd.2.1))) (ints_dp _), .lst (.inl (.inl upd_same)) .nil, ints_shaped _, ints_shaped [], _, ?_, q _ (r.same k)⟩
    cases s.cells with
    | nil => simp [PyData.eqv, PyData.eqvAll]
    | cons n ns => simp [PyData.eqv, PyData.eqvAll]
  · cases e
/-- deck[kc].pop() -/
def dkPopF (i : Nat) : Ev Dk := fun ρ s => match ρ[i]? with
  | some (.val .deck) => match s.cells[s.cells.length - 1]? with
    | some k => some (.int k, ρ, { s with cells := s.cells.dropLast })
    | none => none
  | _ => none
theorem se_dkPop {j : Nat} {pa : Pos} (hu : X.A.units + 65 < cLine) (hx : PE X (.Name x px) (tVar i)) (hs : NoSl (.Constant (.str kc) j p1))
    (hbase : attributeBase (.Subscript (.Name x px) (.Constant (.str kc) j p1) p2) "pop" X.env (eval (.Subscript (.Name x px) (.Constant (.str kc) j p1) p2) X.env) = eval (.Subscript (.Name x px) (.Constant (.str kc) j p1) p2) X.env) (hline : (pa.endLine == pos.line) = true) :
    PE X (.Call (.Attribute (.Subscript (.Name x px) (.Constant (.str kc) j p1) p2) "pop" pa) [] [] pos) (SE X.K (dW kc kd T c) false (dkPopF i)) :=
  (pe_bm0 PySem.F.plainAttrs_list PySem.F.slot_list_pop PySem.F.type_list_pop mt_pop (pe_dget (by omega) hx pe_str hs) hbase hline).imp fun σ H Q q => by
    obtain ⟨H0, O, A, P, ρ, s, d, ρ', s', r, e, q⟩ := q
    unfold dkPopF at e
    split at e
    · rename_i hi
      split at e
      · rename_i k hk
        cases e
        have g := DGet.k (k := .inr kc) r.wd.1
        rw [dk_c] at g
        refine ⟨_, deckAt rfl r hi, T, .ref c, rfl, g, tyList r.wd.2.1, c, _, .int k, rfl, rfl, r.wd.2.1, by rw [List.getElem?_map, List.length_map, hk]; rfl, ?_⟩
        have w' : (dW kc kd T c).rel { s with cells := s.cells.dropLast } (upd H c (.lst ((s.cells.map V.int).dropLast))) := by
          refine ⟨?_, ?_, ?_⟩
          · rw [upd_ne (dk_apart r.wd).symm]; exact r.wd.1
          · rw [upd_same, ← List.map_dropLast]
          · have h3 := r.wd.2.2
            show s.cells.dropLast.length ≤ 64
            rw [List.length_dropLast]
            omega
        have r2 := r.kept (H' := upd H c (.lst ((s.cells.map V.int).dropLast))) (fun a o h n => by rw [upd_ne (fun z => n (.inr z))]; exact h) w'
        exact q _ _ noEx (r2.push (.int _) (fun _ _ z => z) fun _ z => z.elim) fun z => Bool.noConfusion z
      · cases e
    · cases e
/-- deck[kc].append(e) -/
def dkAppF (i : Nat) (g : EvL Dk) : Ev Dk := fun ρ s => match ρ[i]? with
  | some (.val .deck) => match g ρ s with
    | some ([.int k], ρ1, s1) => if s1.cells.length < 64 then some (.non, ρ1, { s1 with cells := s1.cells ++ [k] }) else none
    | _ => none
  | _ => none
theorem se_dkApp {j : Nat} {pa : Pos} {g : EvL Dk} (hu : X.A.units + 65 < cLine) (hx : PE X (.Name x px) (tVar i)) (hs : NoSl (.Constant (.str kc) j p1)) (ha : PA X [e] (SL X.K (dW kc kd T c) g))
    (hbase : attributeBase (.Subscript (.Name x px) (.Constant (.str kc) j p1) p2) "append" X.env (eval (.Subscript (.Name x px) (.Constant (.str kc) j p1) p2) X.env) = eval (.Subscript (.Name x px) (.Constant (.str kc) j p1) p2) X.env)
    (hfew : ((backTo pos (starEach [e] X.env)).all (fun x => !x.1) && (backToKw pos (keywordEach [] X.env)).all (fun x => x.1.isSome) && decide (([e] : List Expr).length + ([] : List Keyword).length + (if ([] : List Keyword).isEmpty then 0 else 1) < 30)) = true)
    (hline : (pa.endLine == pos.line) = true) (hst : starEach [e] X.env = (false, eval e X.env) :: starEach [] X.env) :
    PE X (.Call (.Attribute (.Subscript (.Name x px) (.Constant (.str kc) j p1) p2) "append" pa) [e] [] pos) (SE X.K (dW kc kd T c) false (dkAppF i g)) :=
  (pe_bm PySem.F.plainAttrs_list PySem.F.slot_list_append PySem.F.type_list_append mt_append (pe_dget (by omega) hx pe_str hs) ha hbase hfew hline hst rfl).imp fun σ H Q q => by
    obtain ⟨H0, O, A, P, ρ, s, d, ρ', s', r, e, q⟩ := q
    unfold dkAppF at e
    split at e
    · rename_i hi
      split at e
      · rename_i k ρ1 s1 h1
        split at e
        · rename_i hz
          cases e
          have gg := DGet.k (k := .inr kc) r.wd.1
          rw [dk_c] at gg
          refine ⟨_, deckAt rfl r hi, T, .ref c, rfl, gg, tyList r.wd.2.1, ?_⟩
          refine ⟨H0, O, A, P, ρ, s, [.int k], ρ', s1, r, h1, fun vs H1 ex r1 rl hx ht => ?_⟩
          obtain ⟨v, rfl, rv⟩ := repL1' rl
          cases rv
          refine ⟨c, _, .int k, rfl, rfl, r1.wd.2.1, by rw [List.length_map]; exact Nat.lt_of_lt_of_le hz (by rw [sizeLine_eq]; omega), ?_⟩
          have w' : (dW kc kd T c).rel { s1 with cells := s1.cells ++ [k] } (upd H1 c (.lst (s1.cells.map V.int ++ [V.int k]))) := by
            refine ⟨?_, ?_, ?_⟩
            · rw [upd_ne (dk_apart r1.wd).symm]; exact r1.wd.1
            · rw [upd_same, List.map_append]; rfl
            · show (s1.cells ++ [k]).length ≤ 64
              rw [List.length_append]
              exact hz
          have r2 := r1.kept (H' := upd H1 c (.lst (s1.cells.map V.int ++ [V.int k]))) (fun a o h n => by rw [upd_ne (fun z => n (.inr z))]; exact h) w'
          exact q _ _ noEx (r2.push .non (fun _ _ z => z) fun _ z => z.elim) fun z => Bool.noConfusion z
        · cases e
      · cases e
    · cases e
end L3
end
section
set_option Elab.async false
set_option linter.all false
set_option maxRecDepth 100000
set_option autoImplicit false
set_option maxHeartbeats 2000000
/-! L3q: a law's end for defs that may ask for repr (own work). -/
namespace L3
open PySem PySem.Spec PyProof.Rows L2
/-- the heap in which nothing but the script is tracked -/
def scriptH (sv : Addr) (vs : List Value) (ns : List Int) : Hp := fun b => if b = sv then some (.frz { cls := .type "list", data := .seq vs.toArray } (.lst (ns.map V.int))) else none
theorem law_goG {P : Program} {w : World} {K : PySem.W.Frag} {mg mb : Str → Option Value} {k : Nat} {lawA sv : Addr} {fd : FuncData} {x : Str} {sp : Sp} {st : Shared} {vs : List Value} {ns : List Int}
    (inK : K.In st.heap) (nsG : st.heap.Ns mainGlobals mg) (nsB : st.heap.Ns builtinsNs mb) (bOk : ∀ x : Str, x ≠ "__name__" → mb x = bootBuiltins x) (noLim : st.heap.NoLimit) (noGen : st.gens = #[])
    (atSv : st.heap.get? sv = some { cls := .type "list", data := .seq vs.toArray }) (areI : IntsAre vs ns) (short : ns.length ≤ sizeLine) (rm : RoomG k callerA)
    (F : ∀ base : Heap, K.In base → base.Ns mainGlobals mg → FnG P w K mg base k lawA fd [x] sp) (hb : ∀ (s : Shared) (u : Value), BindsTo s fd ⟨[u], []⟩ [(x, u)])
    (hsp : ∀ H : Hp, Only H → SqL K H sv (ns.map V.int) → sp [.ref sv] H (fun v _ => v = .bl true) fun _ _ _ => False) :
    codeAny (model P w) callerA (.call (.ref lawA) ⟨[.ref sv], []⟩) (fun r st2 => r = .ok (.ret (.bool true)) ∧ OldK st.heap st2.heap ∧ st2.os = st.os ∧ AllBare st2.gens) st := by
  have lens := areI.length
  have valsI := vals_ints areI
  have core : ∀ H : Hp, Only H → SqL K H sv (ns.map V.int) → HOk P w H st.heap → (∀ b, H b ≠ none → b = sv) → (H sv ≠ none → K.lookup sv = none) →
      codeAny (model P w) callerA (.call (.ref lawA) ⟨[.ref sv], []⟩) (fun r st2 => r = .ok (.ret (.bool true)) ∧ OldK st.heap st2.heap ∧ st2.os = st.os ∧ AllBare st2.gens) st := by
    intro H only isS okH atOne notK
    have dictsFree : ∀ {b : Addr} {o : Obj} {es : Array DictEntry} {n : Nat}, st.heap.get? b = some o → o.data = .dict es n → H b = none := by
      intro b o es n atB isD
      cases z : H b with
      | none => rfl
      | some u =>
        have eb := atOne b (by rw [z]; simp)
        subst eb
        rw [atSv] at atB
        cases atB
        exact nomatch isD
    have keepNs : ∀ {b : Addr} {m : Str → Option Value}, st.heap.Ns b m → (hidT st.heap H).Ns b m := by
      rintro b m ⟨o, es, n, atB, isD, rest⟩
      exact ⟨o, es, n, hidT_get atB (dictsFree atB isD), isD, rest⟩
    have inBase : K.In (hidT st.heap H) := by
      intro b o look
      refine hidT_get (inK b o look) ?_
      cases z : H b with
      | none => rfl
      | some u =>
        have eb := atOne b (by rw [z]; simp)
        subst eb
        rw [notK (by rw [z]; simp)] at look
        cases look
    obtain ⟨mc, l1, l2⟩ := noLim
    have modOk : Mod K mg (hidT st.heap H) := ⟨inBase, keepNs nsG, ⟨mb, keepNs nsB, bOk⟩, mc, keepNs l1, l2⟩
    have env0 : Env0 P w K mg (hidT st.heap H) callerA [] st H := ⟨rfl, modOk, fun b o z => of_hidT z, Nat.le_of_eq (hidT_size _ _), trivial, fun b hb => (List.not_mem_nil hb).elim, okH, .of_eq noGen⟩
    refine codeAny_mono ((F _ inBase (keepNs nsG)).go callerA [] st H ⟨[.ref sv], []⟩ [.ref sv] [.ref sv] _ _ rm env0 (hb st (.ref sv)) (.cons rfl .nil) (hsp H only isS)) fun r st2 res => ?_
    match r, res with
    | .error er, res => exact res.elim
    | .ok .next, res => exact res.elim
    | .ok .brk, res => exact res.elim
    | .ok .cont, res => exact res.elim
    | .ok (.ret u), res =>
      obtain ⟨v, H', sameOs, bare2, un, okH2, ru, isT⟩ := res
      have isT : v = .bl true := isT
      subst isT
      have eu : u = Value.bool true := ru
      subst eu
      refine ⟨rfl, OldK.of_keep fun b o atB => ?_, sameOs, bare2⟩
      cases z : H b with
      | none => exact un.keep b o atB z (fun q => (List.not_mem_nil q).elim) (by simp)
      | some t =>
        rcases only b with q | ⟨ob, xs, q⟩
        · rw [z] at q; cases q
        · obtain ⟨k1, _⟩ := okH b _ q
          obtain ⟨k2, _⟩ := okH2 b _ (un.frzs b ob _ q)
          rw [atB] at k1
          cases k1
          exact k2
  cases look : K.lookup sv with
  | some o =>
    have atO := inK sv o look
    rw [atSv] at atO
    cases atO
    refine core (fun _ => none) (fun _ => .inl rfl) (.inr ⟨_, vs.toArray, _, look, rfl, rfl, rfl, ?_, by simpa using valsI⟩) (fun b u z => nomatch z) (fun b z => absurd rfl z) fun z => absurd rfl z
    rw [List.size_toArray, lens]
    exact short
  | none =>
    have here : scriptH sv vs ns sv = some (.frz { cls := .type "list", data := .seq vs.toArray } (.lst (ns.map V.int))) := if_pos rfl
    have away : ∀ {b : Addr}, b ≠ sv → scriptH sv vs ns b = none := fun h => if_neg h
    refine core (scriptH sv vs ns) (fun b => ?_) (.inl (.inr ⟨_, here⟩)) (fun b u z => ?_) (fun b z => ?_) fun _ => look
    · by_cases eb : b = sv
      · subst eb; exact .inr ⟨_, _, here⟩
      · exact .inl (away eb)
    · by_cases eb : b = sv
      · subst eb
        rw [here] at z
        cases z
        exact ⟨atSv, by rw [List.length_map]; exact short, vs, _, valsI, atSv⟩
      · rw [away eb] at z; cases z
    · by_cases eb : b = sv
      · exact eb
      · exact absurd (away eb) z
theorem walk_G {l : PySem.W.OpenLaw} {n k : Nat} {q : Program} {loose : List Str} {XP : (Str → Option Value) → Heap → Prop} {YP : World → Heap → Prop} {d : DefRec} {x : Str}
    (hm : l.most = some n) (hz : n ≤ sizeLine) (noDef : d.params.defaults = []) (rm : RoomG k callerA)
    (F : ∀ (w : World) (mg : Str → Option Value) (lawA : Addr) (h : Heap), YP w h → h.Ns mainGlobals mg → mg d.name = some (.ref lawA) →
      ∃ (K : PySem.W.Frag) (fd : FuncData) (sp : Sp), K.In h ∧ (∀ (s : Shared) (u : Value), BindsTo s fd ⟨[u], []⟩ [(x, u)]) ∧
        (∀ (H : Hp) (a : Addr) (ns : List Int), ns.length ≤ n → Only H → SqL K H a (ns.map V.int) → sp [.ref a] H (fun v _ => v = .bl true) fun _ _ _ => False) ∧
        ∀ base : Heap, K.In base → base.Ns mainGlobals mg → FnG l.prog w K mg base k lawA fd [x] sp) :
    PySem.W.WalkO q loose XP YP l.row.toRowW d [] (fun f vs => PySem.call f vs) := by
  refine Att.attach_call hm noDef fun w s0 st mg mb lawA o pm cd doc a vs ns G Y atO isF code isG atS areI short noGen => ?_
  obtain ⟨K, fd, sp, inK, hb, hsp, hF⟩ := F w mg lawA _ Y G.T.g isG
  exact law_goG inK G.T.g G.T.b G.T.builtins G.T.nolimit noGen atS areI (Nat.le_trans short hz) rm hF hb fun H only isS => hsp H a ns short only isS
theorem roomG_caller {k : Nat} (h : Room k callerA) : RoomG k callerA := ⟨h, rfl⟩
end L3
end
section
set_option Elab.async false
set_option linter.all false
set_option maxRecDepth 100000
set_option autoImplicit false
/-! L3w: short words for printed derivations (own work). -/
namespace L3
open PySem PySem.Spec PyProof.Rows L2
section
variable {S : Type}
/-- a def's meaning: n arguments, N slots -/
def defN (n N : Nat) (body : Ss S) : List D → S → Option (D × S) := fun ds s => if ds.length = n then defF N body ds s else none
theorem defN_len {n N : Nat} {body : Ss S} {ds : List D} {s : S} {r : D × S} (h : defN n N body ds s = some r) : ds.length = n := by
  unfold defN at h
  split at h
  · assumption
  · cases h
/-- a def of the text that keeps what G says -/
structure Got (P : Program) (w : World) (K : PySem.W.Frag) (mg : Str → Option Value) (base : Heap) (W : Wd S) (x : Str) (stm : Stmt) (k n : Nat) (ps : List Str) (G : List D → S → Option (D × S)) : Prop where
  ex : ∃ fd, FunD K x x (defArgs stm) (defBody stm) (defScope stm) [] [] (He.ga K x) fd ∧ FnG P w K mg base k (He.ga K x) fd ps (spF K W n G)
  mgx : mg x = some (.ref (He.ga K x))
  len : ∀ ds s r, G ds s = some r → ds.length = n
theorem okGD {P : Program} {w : World} {K : PySem.W.Frag} {mg : Str → Option Value} {base : Heap} {x qual : Str} {stm : Stmt} {f : Addr} {fd : FuncData} {N ps : List Str} {k : Nat} {sp : Sp} {dvs : List V} {kws : List (Str × V)} (F : FunD K x qual (defArgs stm) (defBody stm) (defScope stm) dvs kws f fd) (C : FnScope N ps (defScope stm)) (lng : ∀ us H Q E, sp us H Q E → us.length = ps.length)
    (hb : ∀ (cdv : Value) (A : Around) (stk : List Env) (st : Shared) (H : Hp) (us : List V) (Q : VK) (E : XK), RoomG k (A.deeper (envOfC qual (defScope stm) st.heap.objs.size f cdv)) → sp us H Q E →
      ∃ t, PSs (cxOf CX0 P w K mg base N qual (defScope stm) f cdv A stk st H E).nox (defBody stm) t ∧ t { nx := fun _ H' => Q .non H', rt := Q } (start N us) H) : FnG P w K mg base (k + 1) f fd ps sp := by
  obtain ⟨oc, od, dV, kV, dc, pm, an, cdv, ct, osl, rfl, look, codeOk, _, _⟩ := F.ex
  constructor
  · exact lng
  intro A stk st H ar ws us Q E rm e0 hbd rv hsp
  have inSt : K.In st.heap := e0.mod.kin.keeps fun c ob z => (e0.bs c ob z).1
  have noLim : st.heap.NoLimit := e0.mod.nolimit.keeps fun c ob z => (e0.bs c ob z).1
  refine codeAny_call_function rm.rm.depth (inSt _ _ look) rfl C.co C.gen rfl (PySem.W.codeRec_of inSt codeOk) (hbd _ _ _ _ ?_)
  have places : ∀ y ∈ ps.zip ws, (defScope stm).names.lookup y.1 = some .local ∨ ((defScope stm).names.lookup y.1 = some .cell ∧ ((cellsFrom (st.heap.objs.size + 1) (defScope stm).names []).lookup y.1).isSome = true) := by
    rintro ⟨nme, vl⟩ hy
    rcases C.par nme (List.of_mem_zip hy).1 with z | z
    · exact .inl z
    · exact .inr ⟨z, PySem.W.cellsFrom_some _ _ _ (.inl z)⟩
  refine wpAny_newFunctionEnv_cells C.kind places fun en hen st1 inc => ?_
  subst hen
  refine ⟨noLim.keeps inc.toInCall.keep, codeAny_func ?_⟩
  obtain ⟨t, bodyOk, q⟩ := hb cdv A stk st H us Q E (rm.deeper _) hsp
  have J0 := inv_start (P := P) (CX := CX0) (N := N) (E := E) C rm.rm.hd e0 (lng _ _ _ _ hsp) rv inc
  refine wpAny_mono (bodyOk.nox.run [] st1 (start N us) H _ J0 q) (fun fl st2 res => ?_) fun er st2 res => res
  cases fl with
  | ret u =>
    obtain ⟨v, σ', H', J, r, z⟩ := res
    exact ⟨v, H', J.os, J.bare, J.base, J.hok, r, z⟩
  | next =>
    obtain ⟨σ', H', J, z⟩ := res
    exact ⟨.non, H', J.os, J.bare, J.base, J.hok, rfl, z⟩
  | brk =>
    obtain ⟨_, _, _, z⟩ := res
    exact z.elim
  | cont =>
    obtain ⟨_, _, _, z⟩ := res
    exact z.elim
/-- THE RULE for a printed def -/
theorem got {P : Program} {w : World} {K : PySem.W.Frag} {mg : Str → Option Value} {base : Heap} {W : Wd S} {x : Str} {stm : Stmt} {N ps : List Str} {k n : Nat} {g : Ss S} (F : ∃ fd, FunD K x x (defArgs stm) (defBody stm) (defScope stm) [] [] (He.ga K x) fd) (hm : mg x = some (.ref (He.ga K x)))
    (C : FnScope N ps (defScope stm)) (hn : ps.length = n) (hN : n ≤ N.length)
    (hb : ∀ (f : Addr) (cdv : Value) (A : Around) (outer : List Env) (s : Shared) (H : Hp) (E : XK), RoomG k (A.deeper (envOfC x (defScope stm) s.heap.objs.size f cdv)) → PSs (cxOf CX0 P w K mg base N x (defScope stm) f cdv A outer s H E).nox (defBody stm) (SS K W g)) :
    Got P w K mg base W x stm (k + 1) n ps (defN n N.length g) := by
  obtain ⟨fd, F⟩ := F
  refine ⟨⟨fd, F, ?_⟩, hm, fun ds s r h => defN_len h⟩
  refine okGD F C (fun vs H Q E h => h.1.trans hn.symm) fun cdv A outer s H vs Q E hr h => ⟨_, hb _ cdv A outer s H E hr, def_val hN (spF.imp (fun ds s d s' z => ?_) h)⟩
  unfold defN at z
  split at z
  · exact z
  · cases z
variable {X : Cx} {W : Wd S} {e a b c : Expr} {es : List Expr} {pos p : Pos}
/-- values picked by their places -/
def sel {α : Type} (ix : List Nat) (xs : List α) : List α := match ix with
  | [] => []
  | i :: ix => match xs[i]? with
    | some x => x :: sel ix xs
    | none => sel ix xs
theorem sel_rep {K : PySem.W.Frag} {tk : Addr} {H : Hp} {av : Addr → Prop} {vs : List V} {ds : List D} (r : RepL K tk H av vs ds) : ∀ ix : List Nat, RepL K tk H av (sel ix vs) (sel ix ds)
  | [] => .nil
  | i :: ix => by
    unfold sel
    cases h : ds[i]? with
    | none =>
      have : vs[i]? = none := by
        rw [List.getElem?_eq_none_iff] at h ⊢
        rw [r.length]
        exact h
      rw [this]
      exact sel_rep r ix
    | some d =>
      obtain ⟨v, h1, h2⟩ := r.get h
      rw [h1]
      exact .cons h2 (sel_rep r ix)
theorem sel_vals {vs : List V} {us : List Value} (r : Vals vs us) : ∀ ix : List Nat, Vals (sel ix vs) (sel ix us)
  | [] => .nil
  | i :: ix => by
    unfold sel
    cases h : vs[i]? with
    | none =>
      have : us[i]? = none := by
        rw [List.getElem?_eq_none_iff] at h ⊢
        rw [← r.length]
        exact h
      rw [this]
      exact sel_vals r ix
    | some d =>
      obtain ⟨v, h1, h2⟩ := r.get h
      rw [h1]
      exact .cons h2 (sel_vals r ix)
/-- f(e, ..), f a printed def -/
theorem callD {k n : Nat} {x : Str} {stm : Stmt} {ps : List Str} {G : List D → S → Option (D × S)} {g : EvL S} (o : Got X.prog X.w X.K X.mg X.base W x stm k n ps G) (hr : RoomG k X.A) (hg : Gl X x)
    (hbd : ∀ (kV doc pm : Value) (an : Option Addr) (cdv ct : Value) (us : List Value), us.length = ps.length → bindArgs (PySem.W.fnOf x x (defArgs stm) (defBody stm) (defScope stm) .none kV doc pm an cdv ct) ⟨us, []⟩ = pure (ps.zip us))
    (ha : PA X (e :: es) (SL X.K W g)) (hdb : (x == ("__debug__" : Str)) = false) (he : starEach (e :: es) X.env = (false, eval e X.env) :: starEach es X.env) (hpl : (backTo pos (starEach es X.env)).any (·.1) = false) :
    PE X (.Call (.Name x p) (e :: es) [] pos) (SE X.K W false (callF G g)) := by
  obtain ⟨fd, F, FG⟩ := o.ex
  refine (pe_callG FG hr hg o.mgx F.kp (F.bindsN hbd) .nil ha hdb he hpl).imp fun σ H Q q => ?_
  obtain ⟨H0, O, A, P, ρ, s, d, ρ', s', r, e, q⟩ := q
  obtain ⟨ys, s1, e1, e2⟩ := callF_some e
  refine ⟨H0, O, A, P, ρ, s, ys, ρ', s1, r, e1, fun vs H1 ex r1 rl hx ht => ?_⟩
  show spF X.K W n G (vs ++ []) H1 Q E0
  rw [List.append_nil]
  exact call_val (R := ⟨X.K, W, H0, O⟩) (rl.length.trans (o.len _ _ _ e2)) r1 rl hx e2 fun v H' ex r' => q v H' ex r' fun z => Bool.noConfusion z
def tCallS (nu nw : Nat) (ix : List Nat) (sp : Sp) (t tk : TA) : TE := fun σ H Q => t σ H fun vs H1 => tk σ H1 fun zs H2 => vs.length = nu ∧ zs.length = nw ∧ sp (sel ix (vs ++ zs)) H2 Q E0
/-- f(e, .., k = v, ..), f(k = v, ..) -/
theorem pe_callS {k nu nw : Nat} {ix : List Nat} {x : Str} {f : Addr} {fd : FuncData} {ps ks : List Str} {sp : Sp} {kws : List Keyword} {t tk : TA} (F : FnG X.prog X.w X.K X.mg X.base k f fd ps sp) (rm : RoomG k X.A) (hg : Gl X x) (hm : X.mg x = some (.ref f)) (hk : PySem.W.keepIn X.K (.ref f) = true)
    (hb : ∀ (s : Shared) (us ws : List Value), us.length = nu → ws.length = nw → X.K.In s.heap → BindsTo s fd ⟨us, ks.zip ws⟩ (ps.zip (sel ix (us ++ ws)))) (ha : PA X (e :: es) t) (hkw : PK X kws tk) (hall : (backToKw pos (keywordEach kws X.env)).all (·.1.isSome) = true) (hks : (backToKw pos (keywordEach kws X.env)).filterMap (·.1) = ks)
    (hdb : (x == ("__debug__" : Str)) = false) (he : starEach (e :: es) X.env = (false, eval e X.env) :: starEach es X.env) (hpl : ((backTo pos (starEach (e :: es) X.env)).any (·.1) || (backToKw pos (keywordEach kws X.env)).any (·.1.isNone)) = false) :
    PE X (.Call (.Name x p) (e :: es) kws pos) (tCallS nu nw ix sp t tk) := by
  constructor
  intro pins st σ H Q J h
  refine wpAny_Call_Name_kw (ld_glob J hg hm ?_ hdb)
  refine PySem.W.callWith_KW (h₀ := X.base) J.ok.mod.kin hk hall (thn (ha.run pos pins st σ H _ J h) fun ws st1 z => ?_) hpl he
  obtain ⟨us, H1, J1, rv, q⟩ := z
  refine thn (hkw.run pos pins st1 σ H1 _ J1 q) fun zs st2 z => ?_
  obtain ⟨ys, H2, J2, rz, h1, h2, q2⟩ := z
  rw [hks]
  exact ⟨J2.kIn, goG F rm (hb st2 ws zs (by rw [← rv.length]; exact h1) (by rw [← rz.length]; exact h2) J2.kIn) J2 (sel_vals (rv.append rz) ix) q2⟩
theorem pe_callS0 {k nw : Nat} {ix : List Nat} {x : Str} {f : Addr} {fd : FuncData} {ps ks : List Str} {sp : Sp} {kws : List Keyword} {tk : TA} (F : FnG X.prog X.w X.K X.mg X.base k f fd ps sp) (rm : RoomG k X.A) (hg : Gl X x) (hm : X.mg x = some (.ref f)) (hk : PySem.W.keepIn X.K (.ref f) = true)
    (hb : ∀ (s : Shared) (us ws : List Value), us.length = 0 → ws.length = nw → X.K.In s.heap → BindsTo s fd ⟨us, ks.zip ws⟩ (ps.zip (sel ix (us ++ ws)))) (hkw : PK X kws tk) (hall : (backToKw pos (keywordEach kws X.env)).all (·.1.isSome) = true) (hks : (backToKw pos (keywordEach kws X.env)).filterMap (·.1) = ks)
    (hdb : (x == ("__debug__" : Str)) = false) (hpl : ((backToKw pos (keywordEach kws X.env)).any (·.1.isNone)) = false) :
    PE X (.Call (.Name x p) [] kws pos) (tCallS 0 nw ix sp tNil tk) := by
  constructor
  intro pins st σ H Q J h
  refine wpAny_Call_Name_kw (ld_glob J hg hm ?_ hdb)
  refine PySem.W.callWith_KW0 (h₀ := X.base) J.ok.mod.kin hk hall (thn (hkw.run pos pins st σ H _ J h) fun zs st2 z => ?_) hpl
  obtain ⟨ys, H2, J2, rz, h1, h2, q2⟩ := z
  rw [hks]
  exact ⟨J2.kIn, goG F rm (hb st2 [] zs rfl (by rw [← rz.length]; exact h2) J2.kIn) J2 (sel_vals rz ix) q2⟩
/-- positional values, then those of the keywords, picked -/
def catS (nu nw : Nat) (ix : List Nat) (g h : EvL S) : EvL S := fun ρ s => match g ρ s with
  | some (xs, ρ1, s1) => match h ρ1 s1 with
    | some (ys, ρ2, s2) => if xs.length = nu ∧ ys.length = nw then some (sel ix (xs ++ ys), ρ2, s2) else none
    | none => none
  | none => none
theorem callS_val {nu nw n : Nat} {ix : List Nat} {G : List D → S → Option (D × S)} {g h : EvL S} {K : PySem.W.Frag} (hn : ∀ ds s r, G ds s = some r → ds.length = n) {σ : L2.St} {H : Hp} {Q : VK} (q : SE K W false (callF G (catS nu nw ix g h)) σ H Q) :
    tCallS nu nw ix (spF K W n G) (SL K W g) (SL K W h) σ H Q := by
  obtain ⟨H0, O, A, P, ρ, s, d, ρ', s', r, e, q⟩ := q
  obtain ⟨zs, s1, e1, e2⟩ := callF_some e
  have hz := hn _ _ _ e2
  unfold catS at e1
  split at e1
  · rename_i xs ρ1 s2 e3
    split at e1
    · rename_i ys ρ2 s3 e4
      split at e1
      · rename_i hl
        cases e1
        refine ⟨H0, O, A, P, ρ, s, xs, ρ1, s2, r, e3, fun vs H1 ex1 r1 rl1 hx1 ht1 => ?_⟩
        have r2 : Rel ⟨K, W, H0, O⟩ A (⟨.non, .non, ex1⟩ :: (pds vs xs ex1 ++ P)) σ H1 ρ1 s2 := (Rel.pushL hx1 ht1 r1 rl1).push .non hx1 ht1
        refine ⟨H0, O, A, _, ρ1, s2, ys, ρ', s1, r2, e4, fun ws H2 ex2 r3 rl2 hx2 ht2 => ?_⟩
        obtain ⟨rl1', r4⟩ := Rel.popL rl1.length r3.tail
        have rl := sel_rep ((rl1'.mono fun a (z : avL ⟨K, W, H0, O⟩ A σ ρ' a ∧ ¬ (ex1 a ∨ ex2 a)) => ⟨z.1, fun y => z.2 (.inl y)⟩).append (rl2.mono fun a z => ⟨z.1, fun y => z.2 (.inr y)⟩)) ix
        refine ⟨rl1.length.trans hl.1, rl2.length.trans hl.2, ?_⟩
        exact call_val (R := ⟨K, W, H0, O⟩) (rl.length.trans hz) r4 rl (fun a h z => z.elim (r3.hex a h) (hx2 a h)) e2 fun v H' ex r' => q v H' ex r' fun z => Bool.noConfusion z
      · cases e1
    · cases e1
  · cases e1
theorem bindsS {K : PySem.W.Frag} {x : Str} {stm : Stmt} {f : Addr} {fd : FuncData} {ps ks : List Str} {nu nw : Nat} {ix : List Nat} (F : FunD K x x (defArgs stm) (defBody stm) (defScope stm) [] [] f fd)
    (h : ∀ (kV doc pm : Value) (an : Option Addr) (cdv ct : Value) (us ws : List Value), us.length = nu → ws.length = nw → bindArgs (PySem.W.fnOf x x (defArgs stm) (defBody stm) (defScope stm) .none kV doc pm an cdv ct) ⟨us, ks.zip ws⟩ = pure (ps.zip (sel ix (us ++ ws)))) (s : Shared) (us ws : List Value) (h1 : us.length = nu) (h2 : ws.length = nw) (_ : K.In s.heap) :
    BindsTo s fd ⟨us, ks.zip ws⟩ (ps.zip (sel ix (us ++ ws))) := by
  obtain ⟨oc, od, dV, kV, doc, pm, an, cdv, ct, osl, rfl, lk, hcd, hD, hK⟩ := F.ex
  rcases hD with ⟨_, rfl⟩ | ⟨e, _⟩
  · exact .of_eq (h kV doc pm an cdv ct us ws h1 h2)
  · exact absurd rfl e
theorem callK {k n : Nat} {x : Str} {stm : Stmt} {ps : List Str} {G : List D → S → Option (D × S)} {g h : EvL S} {kws : List Keyword} (nu nw : Nat) (ix : List Nat) (ks : List Str) (o : Got X.prog X.w X.K X.mg X.base W x stm k n ps G) (hr : RoomG k X.A) (hg : Gl X x)
    (hbd : ∀ (kV doc pm : Value) (an : Option Addr) (cdv ct : Value) (us ws : List Value), us.length = nu → ws.length = nw → bindArgs (PySem.W.fnOf x x (defArgs stm) (defBody stm) (defScope stm) .none kV doc pm an cdv ct) ⟨us, ks.zip ws⟩ = pure (ps.zip (sel ix (us ++ ws))))
    (ha : PA X (e :: es) (SL X.K W g)) (hkw : PK X kws (SL X.K W h)) (hall : (backToKw pos (keywordEach kws X.env)).all (·.1.isSome) = true) (hks : (backToKw pos (keywordEach kws X.env)).filterMap (·.1) = ks)
    (hdb : (x == ("__debug__" : Str)) = false) (he : starEach (e :: es) X.env = (false, eval e X.env) :: starEach es X.env) (hpl : ((backTo pos (starEach (e :: es) X.env)).any (·.1) || (backToKw pos (keywordEach kws X.env)).any (·.1.isNone)) = false) :
    PE X (.Call (.Name x p) (e :: es) kws pos) (SE X.K W false (callF G (catS nu nw ix g h))) := by
  obtain ⟨fd, F, FG⟩ := o.ex
  exact (pe_callS FG hr hg o.mgx F.kp (bindsS F hbd) ha hkw hall hks hdb he hpl).imp fun σ H Q q => callS_val o.len q
theorem callK0 {k n : Nat} {x : Str} {stm : Stmt} {ps : List Str} {G : List D → S → Option (D × S)} {h : EvL S} {kws : List Keyword} (nw : Nat) (ix : List Nat) (ks : List Str) (o : Got X.prog X.w X.K X.mg X.base W x stm k n ps G) (hr : RoomG k X.A) (hg : Gl X x)
    (hbd : ∀ (kV doc pm : Value) (an : Option Addr) (cdv ct : Value) (us ws : List Value), us.length = 0 → ws.length = nw → bindArgs (PySem.W.fnOf x x (defArgs stm) (defBody stm) (defScope stm) .none kV doc pm an cdv ct) ⟨us, ks.zip ws⟩ = pure (ps.zip (sel ix (us ++ ws))))
    (hkw : PK X kws (SL X.K W h)) (hall : (backToKw pos (keywordEach kws X.env)).all (·.1.isSome) = true) (hks : (backToKw pos (keywordEach kws X.env)).filterMap (·.1) = ks)
    (hdb : (x == ("__debug__" : Str)) = false) (hpl : ((backToKw pos (keywordEach kws X.env)).any (·.1.isNone)) = false) :
    PE X (.Call (.Name x p) [] kws pos) (SE X.K W false (callF G (catS 0 nw ix nilL h))) := by
  obtain ⟨fd, F, FG⟩ := o.ex
  refine (pe_callS0 FG hr hg o.mgx F.kp (bindsS F hbd) hkw hall hks hdb hpl).imp fun σ H Q q => ?_
  have z : tCallS 0 nw ix (spF X.K W n G) (SL X.K W nilL) (SL X.K W h) σ H Q := callS_val o.len q
  exact nil_val z
/-! ### names -/
theorem ev (i : Nat) {x : Str} (hN : X.N[i]? = some x := by rfl) (hv : Vis X.env.scope x := by first | exact Or.inl rfl | exact Or.inr (Or.inl rfl) | exact Or.inr (Or.inr rfl)) (hd : (x == ("__debug__" : Str)) = false := by decide) (hcd : (x == ("__classdict__" : Str)) = false := by decide) :
    PE X (.Name x pos) (SE X.K W false (varF i)) := se_var hN hv hd hcd
theorem eInt {i : Int} {j : Nat} : PE X (.Constant (.int i) j pos) (SE X.K W false (cstF (.int i))) := se_cst (fun _ _ => .int i) pe_int
theorem eStr {i : Str} {j : Nat} : PE X (.Constant (.str i) j pos) (SE X.K W false (cstF (.str i))) := se_cst (fun _ _ => .str i) pe_str
theorem eBl {i : Bool} {j : Nat} : PE X (.Constant (.bool i) j pos) (SE X.K W false (cstF (.bl i))) := se_cst (fun _ _ => .bl i) pe_bl
theorem eNon {j : Nat} : PE X (.Constant .none j pos) (SE X.K W false (cstF .non)) := se_cst (fun _ _ => .non) pe_non
/-- a module's own int -/
theorem eGlo {x : Str} {i : Int} (hg : Gl X x) (hm : ∃ t, X.mg x = some (.int i t)) (hd : (x == ("__debug__" : Str)) = false) : PE X (.Name x pos) (SE X.K W false (cstF (.int i))) := by
  obtain ⟨t, ht⟩ := hm
  exact se_cst (v := .int i) (fun _ _ => .int i) (pe_glob hg ht ⟨t, rfl⟩ hd)
theorem eOne {op : BoolOp} {f : Ev S} {fr : Bool} (h : PE X e (SE X.K W fr f)) : PE X (.BoolOp op [e] pos) (SE X.K W fr f) := pe_one h
theorem si_rng1 {tg : Expr} {f : Ev S} {fr : Bool} (hg : Gl X "range") (hm : X.mg "range" = none) (ha : PE X a (SE X.K W fr f)) (hs : starEach [a] X.env = [(false, eval a X.env)]) : PI X tg (.Call (.Name "range" p) [a] [] pos) (SI X.K W (rangeL (consL f nilL))) :=
  si_range1 hg hm (sl_cons ha sl_nil hs) hs fun ρ s xs ρ' s' h => by
    obtain ⟨x, ρ1, s1, ys, _, h2, rfl⟩ := consL_some h
    cases h2
    rfl
theorem si_rng2 {tg : Expr} {f g : Ev S} {fr fr2 : Bool} (hg : Gl X "range") (hm : X.mg "range" = none) (ha : PE X a (SE X.K W fr f)) (hb : PE X b (SE X.K W fr2 g)) (hs : starEach [a, b] X.env = [(false, eval a X.env), (false, eval b X.env)]) (hs2 : starEach [b] X.env = [(false, eval b X.env)]) :
    PI X tg (.Call (.Name "range" p) [a, b] [] pos) (SI X.K W (rangeL (consL f (consL g nilL)))) :=
  si_range2 hg hm (sl_cons ha (sl_cons hb sl_nil hs2) (hs.trans (by rw [hs2]))) hs hs2 fun ρ s xs ρ' s' h => by
    obtain ⟨x, ρ1, s1, ys, _, h2, rfl⟩ := consL_some h
    obtain ⟨y, ρ2, s2, zs, _, h3, rfl⟩ := consL_some h2
    cases h3
    rfl
end
theorem b_len : bootBuiltins "len" = some (.builtin "len") := by decide +kernel
theorem b_all : bootBuiltins "all" = some (.builtin "all") := by decide +kernel
theorem b_any : bootBuiltins "any" = some (.builtin "any") := by decide +kernel
theorem b_sum : bootBuiltins "sum" = some (.builtin "sum") := by decide +kernel
theorem b_min : bootBuiltins "min" = some (.builtin "min") := by decide +kernel
theorem b_max : bootBuiltins "max" = some (.builtin "max") := by decide +kernel
theorem b_sorted : bootBuiltins "sorted" = some (.builtin "sorted") := by decide +kernel
theorem b_isinstance : bootBuiltins "isinstance" = some (.builtin "isinstance") := by decide +kernel
theorem b_repr : bootBuiltins "repr" = some (.builtin "repr") := by decide +kernel
theorem b_tuple : bootBuiltins "tuple" = some (.type "tuple") := by decide +kernel
theorem b_list : bootBuiltins "list" = some (.type "list") := by decide +kernel
theorem b_set : bootBuiltins "set" = some (.type "set") := by decide +kernel
theorem b_int : bootBuiltins "int" = some (.type "int") := by decide +kernel
theorem b_bool : bootBuiltins "bool" = some (.type "bool") := by decide +kernel
theorem b_str : bootBuiltins "str" = some (.type "str") := by decide +kernel
theorem b_dict : bootBuiltins "dict" = some (.type "dict") := by decide +kernel
end L3
end
section
set_option Elab.async false
set_option linter.all false
set_option maxRecDepth 100000
set_option autoImplicit false
/-! L3x: how a law's deck is made (own work). -/
namespace L3
open PySem PySem.Spec PyProof.Rows L2
abbrev rInt1 : List V → Hp → VK → Prop := fun xs H Q => (∃ i, xs = [.int i] ∧ Q (.int i) H) ∨ ∃ k, xs = [.bl k] ∧ Q (.int (if k then 1 else 0)) H
abbrev rLiO (K : PySem.W.Frag) : List V → Hp → VK → Prop := fun xs H Q => ∃ p ys, xs = [.ref p] ∧ (SqL K H p ys ∨ SqT K H p ys) ∧ ∀ l, H l = none → Q (.ref l) (upd H l (.lst ys))
abbrev rModP : R2 := rI (fun _ j => 0 < j) fun i j => .int (i % j)
abbrev rAddI : R2 := rI0 fun i j => .int (i + j)
abbrev rMulI : R2 := rI CMul fun i j => .int (i * j)
abbrev tCut (K : PySem.W.Frag) : TE := tSl (rSlL K) (tVar 0) tNoPart (tPart (tC (.int 63)))
def tMix (c1 c2 c4 : Int) (iM iC : Nat) (t3 : TE) : TS := tAsg (tOp rModP (tCB rInt1 (tCons (tOp rAddI (tOp rAddI (tOp rMulI (tVar iM) (tC (.int c1))) (tOp rModP (tCB rInt1 (tCons (tVar iC) tNil)) (tC (.int c2)))) t3) tNil)) (tC (.int c4))) (gName iM)
def tDeckA (K : PySem.W.Frag) (kc kd : Str) (c0 c1 c2 c3 c4 : Int) : TS :=
  tSeq (tAsg (tC (.int c0)) (gName 1)) (tSeq (tFor (iList K (tCut K)) (gName 2) (tMix c1 c2 c4 1 2 (tC (.int c3))))
    (tRet (tDisp [(tC (.str kc), tRevL K (tCB (rLiO K) (tCons (tCut K) tNil))), (tC (.str "mixed"), tVar 1), (tC (.str kd), tC (.int 0))])))
def spDeck (K : PySem.W.Frag) (kc kd : Str) : Sp := fun vs H Q _ => ∃ (a : Addr) (ns : List Int), vs = [.ref a] ∧ SqL K H a (ns.map .int) ∧ ns.length ≤ 63 ∧ ∀ H' T c s, Same H H' → H T = none → H c = none → (dW kc kd T c).rel s H' → Q (.ref T) H'
theorem merge_dk {kc kd : Str} (ok : KeyOk kc kd) (c : Addr) (s : Dk) : mergeK [] (dkV kc kd c s) = dkV kc kd c s := by
  have h1 := ok.cm
  have h2 := ok.cd
  have h3 := ok.md
  unfold mergeK dkV
  simp [putK, h1, h2, h3]
def cutI (ns : List Int) : List Int := ns.take 63
theorem cut_ints (ns : List Int) : cutV (ns.map V.int) none (some 63) = (cutI ns).map V.int := by
  unfold cutV cutI
  rw [HT.sIx_none, show (some (63 : Int)) = some ((63 : Nat) : Int) from rfl, HT.sIx_nat]
  rw [List.drop_zero, Nat.sub_zero, List.length_map, List.map_take]
  by_cases h : ns.length ≤ 63
  · rw [Nat.min_eq_right h, List.take_of_length_le (by rw [List.length_map]; exact Nat.le_refl _), List.take_of_length_le (by rw [List.length_map]; exact h)]
  · rw [Nat.min_eq_left (by omega)]
theorem deck_val {K : PySem.W.Frag} {kc kd : Str} {c0 c1 c2 c3 c4 : Int} (ok : KeyOk kc kd) (h1 : -(2 ^ 64) < c1 ∧ c1 < 2 ^ 64) (h2 : 0 < c2) (h4 : 0 < c4) {x y z : Str} {vs : List V} {H : Hp} {Q : VK} {E : XK} (h : spDeck K kc kd vs H Q E) :
    tDeckA K kc kd c0 c1 c2 c3 c4 { nx := fun _ H' => Q .non H', rt := Q } (start [x, y, z] vs) H := by
  obtain ⟨a, ns, rfl, hS, hn, q⟩ := h
  refine ⟨.ref a, rfl, 63, rfl, a, ns.map V.int, rfl, hS, fun p hp => ⟨p, rfl, ⟨_, .inl (.inl upd_same)⟩, ?_⟩⟩
  rw [cut_ints]
  have k1 := same_upd (o := .lst ((cutI ns).map V.int)) hp
  have wl : Walk (Itl K p) ((cutI ns).map V.int).length (fun H => SqL K H p ((cutI ns).map V.int)) (YAt ((cutI ns).map V.int)) := walk_list
  refine for_it wl (fun i σ' H' => ∃ m y2, σ' = [some (.ref a), some (.int m), y2] ∧ H' = upd H p (.lst ((cutI ns).map V.int))) ⟨c0, none, rfl, rfl⟩ (fun i σ' H' _ h => ?_) (fun i v σ' H' H2 hi h y => ?_) fun σ' H' h => ?_
  · obtain ⟨m, y2, _, rfl⟩ := h
    exact .inl (.inl upd_same)
  · obtain ⟨m, y2, rfl, rfl⟩ := h
    obtain ⟨rfl, hx⟩ := y
    obtain ⟨zz, _, rfl⟩ : ∃ zz, zz ∈ cutI ns ∧ V.int zz = v := by
      have := List.mem_of_getElem? hx
      exact List.mem_map.mp this
    exact ⟨_, rfl, _, _, rfl, rfl, .inr h1, _, rfl, .inl ⟨zz, rfl, _, _, rfl, rfl, h2, _, _, rfl, rfl, _, _, rfl, rfl, .inl ⟨_, rfl, _, _, rfl, rfl, h4, _, _, rfl, rfl⟩⟩⟩
  · obtain ⟨m, y2, rfl, rfl⟩ := h
    intro T hT
    have k2 := k1.trans (same_upd (o := .dK []) hT)
    refine ⟨.ref a, rfl, 63, rfl, a, ns.map V.int, rfl, k2.seq hS, fun p3 hp3 => ⟨p3, _, rfl, .inl (.inl (.inl upd_same)), fun p4 hp4 => ⟨p4, _, rfl, .inl (.inl upd_same), fun c hc => ?_⟩⟩⟩
    rw [cut_ints]
    have k3 := same_upd (o := .lst ((cutI ns).map V.int)) hp3
    rw [cut_ints] at hp4 hc
    have k4 := same_upd (o := .lst ((cutI ns).map V.int)) hp4
    have k5 := same_upd (o := .lst ((cutI ns).map V.int).reverse) hc
    have kk := k3.trans (k4.trans k5)
    have atT := kk _ _ (upd_same (H := upd H p (.lst ((cutI ns).map V.int))) (a := T) (o := .dK []))
    have nT : H T = none := k1.free hT
    have nc : H c = none := k2.free ((k3.trans k4).free hc)
    refine ⟨_, rfl, atT, dkV kc kd c ⟨(cutI ns).reverse, m, 0⟩, rfl, by show 3 ≤ 15; omega, ?_⟩
    rw [merge_dk ok]
    have ncT : c ≠ T := fun e => by
      subst e
      have := (k3.trans k4) _ _ (upd_same (H := upd H p (.lst ((cutI ns).map V.int))) (a := c) (o := .dK []))
      rw [hc] at this
      cases this
    refine q _ T c ⟨(cutI ns).reverse, m, 0⟩ (fun b o e => ?_) nT nc ⟨upd_same, ?_, ?_⟩
    · have hb : b ≠ T := ne_of_none e nT
      rw [upd_ne hb]
      exact kk _ _ (k2 _ _ e)
    · rw [upd_ne ncT, upd_same, List.map_reverse]
    · show (cutI ns).reverse.length ≤ 64
      rw [List.length_reverse]
      unfold cutI
      rw [List.length_take]
      omega
/-! ### the law's body behind the deck -/
def startL (n : Nat) : En := (List.replicate n Sl.non).set 1 (.val .deck)
theorem startL_val {n i : Nat} {d : D} (h : (startL n)[i]? = some (.val d)) : i = 1 ∧ d = .deck := by
  unfold startL at h
  by_cases hi : 1 = i
  · subst hi
    by_cases hn : 1 < (List.replicate n Sl.non).length
    · rw [List.getElem?_set_self hn] at h
      cases h
      exact ⟨rfl, rfl⟩
    · rw [List.getElem?_eq_none (by rw [List.length_set]; omega)] at h
      cases h
  · rw [List.getElem?_set_ne hi, List.getElem?_replicate] at h
    split at h <;> cases h
theorem startL_own {n i : Nat} {t : Bool} {ds : List D} (h : (startL n)[i]? = some (.own t ds)) : False := by
  unfold startL at h
  by_cases hi : 1 = i
  · subst hi
    by_cases hn : 1 < (List.replicate n Sl.non).length
    · rw [List.getElem?_set_self hn] at h
      cases h
    · rw [List.getElem?_eq_none (by rw [List.length_set]; omega)] at h
      cases h
  · rw [List.getElem?_set_ne hi, List.getElem?_replicate] at h
    split at h <;> cases h
theorem law_start {K : PySem.W.Frag} {kc kd : Str} {T c : Addr} {g : Ss Dk} {σ : L2.St} {H : Hp} {s s' : Dk} {ρ' : En} {Q : VK} {N : L2.St → Hp → Prop} (w : (dW kc kd T c).rel s H) (hσ : σ[1]? = some (some (.ref T))) (hg : g (startL σ.length) s = some (.rt (.bl true), ρ', s')) (hQ : ∀ H, Q (.bl true) H) :
    SS K (dW kc kd T c) g { nx := N, rt := Q } σ H := by
  have nolock : ∀ a, ¬ lockA σ (startL σ.length) a := fun a ⟨i, t, ds, e, _⟩ => startL_own e
  refine ⟨H, fun _ => False, [], startL σ.length, s, _, ρ', s', ⟨by unfold startL; simp, w, fun a o e _ => e, fun a z => z.elim, fun a z => ?_, fun i d e => ?_, fun i t ds e => (startL_own e).elim, fun a ds e => (List.not_mem_nil e).elim, fun i j t u ds es a e => (startL_own e).elim, fun a z => (nolock a z).elim, List.nodup_nil, fun p hp => (List.not_mem_nil hp).elim, fun p hp => (List.not_mem_nil hp).elim, fun p hp => (List.not_mem_nil hp).elim⟩, hg, fun v σ' H' ex r => ?_⟩
  · obtain ⟨o, e, _⟩ := (dW kc kd T c).has w z
    show H a ≠ none
    rw [e]
    simp
  · obtain ⟨rfl, rfl⟩ := startL_val e
    exact ⟨_, hσ, .deck⟩
  · have hv : v = .bl true := by cases r.head; rfl
    subst hv
    exact hQ H'
def spLaw (K : PySem.W.Frag) : Sp := fun vs H Q _ => ∃ (a : Addr) (ns : List Int), vs = [.ref a] ∧ SqL K H a (ns.map .int) ∧ ns.length ≤ 63 ∧ ∀ H', Q (.bl true) H'
theorem pss_ex {X : Cx} {sts : List Stmt} {ι : Type} {t : ι → TS} (h : ∀ i, PSs X sts (t i)) : PSs X sts (fun E σ H => ∃ i, t i E σ H) := ⟨fun pins s σ H E I ⟨i, q⟩ => (h i).run pins s σ H E I q⟩
theorem law_val {K : PySem.W.Frag} {kc kd : Str} {x y : Str} {N : List Str} {g : Ss Dk} {vs : List V} {H : Hp} {Q : VK} {E : XK} (hg : ∀ s : Dk, s.cells.length ≤ 64 → ∃ ρ' s', g (startL (N.length + 2)) s = some (.rt (.bl true), ρ', s')) (h : spLaw K vs H Q E) :
    tSeq (tAsg (tCall (spDeck K kc kd) [] E0 (tCons (tVar 0) tNil)) (gName 1)) (fun E σ H => ∃ i : Addr × Addr, SS K (dW kc kd i.1 i.2) g E σ H) { nx := fun _ H' => Q .non H', rt := Q } (start (x :: y :: N) vs) H := by
  obtain ⟨a, ns, rfl, hS, hn, q⟩ := h
  refine ⟨.ref a, rfl, a, ns, rfl, hS, hn, fun H' T c s _ _ _ w => ⟨(T, c), ?_⟩⟩
  obtain ⟨ρ', s', e⟩ := hg s w.2.2
  refine law_start (ρ' := ρ') (s' := s') w rfl ?_ q
  have : ((start (x :: y :: N) [V.ref a]).set 1 (some (V.ref T))).length = N.length + 2 := by
    unfold L2.start
    simp
  rw [this]
  exact e
end L3
end
section
set_option Elab.async false
set_option linter.all false
set_option maxRecDepth 100000
set_option autoImplicit false
/-! L3y: what the meanings give: rules for plain mathematics (own work). -/
namespace L3
open PySem PySem.Spec PyProof.Rows L2
section
variable {S : Type}
@[simp] theorem thaw_nil (b : En) : thaw [] b = b := by cases b <;> rfl
@[simp] theorem thaw_val (x : Sl) (a : En) (d : D) (b : En) : thaw (x :: a) (.val d :: b) = .val d :: thaw a b := by cases x with
  | own t ds => cases t <;> rfl
  | _ => rfl
@[simp] theorem thaw_non (x : Sl) (a : En) (b : En) : thaw (x :: a) (.non :: b) = .non :: thaw a b := by cases x with
  | own t ds => cases t <;> rfl
  | _ => rfl
@[simp] theorem thaw_own (ds es : List D) (t : Bool) (a b : En) : thaw (.own false ds :: a) (.own t es :: b) = .own false es :: thaw a b := rfl
@[simp] theorem thaw_vo (d : D) (es : List D) (t : Bool) (a b : En) : thaw (.val d :: a) (.own t es :: b) = .own t es :: thaw a b := rfl
@[simp] theorem thaw_no (es : List D) (t : Bool) (a b : En) : thaw (.non :: a) (.own t es :: b) = .own t es :: thaw a b := rfl
@[simp] theorem thaw_tt (ds es : List D) (t : Bool) (a b : En) : thaw (.own true ds :: a) (.own t es :: b) = .own t es :: thaw a b := rfl
@[simp] theorem freeze_nil : freeze [] = [] := rfl
@[simp] theorem freeze_val (d : D) (a : En) : freeze (.val d :: a) = .val d :: freeze a := rfl
@[simp] theorem freeze_non (a : En) : freeze (.non :: a) = .non :: freeze a := rfl
@[simp] theorem freeze_of (ds : List D) (a : En) : freeze (.own false ds :: a) = .own false ds :: freeze a := rfl
@[simp] theorem freeze_ot (ds : List D) (a : En) : freeze (.own true ds :: a) = .val (.lst ds) :: freeze a := rfl
/-! ### lists in slots -/
theorem backE_wipe (ρ : En) : ∀ vs : List Nat, backE ρ vs (wipeE ρ vs) = ρ := by
  have key : ∀ (vs : List Nat) (τ : En), τ.length = ρ.length → (∀ i, i ∉ vs → τ[i]? = ρ[i]?) → backE ρ vs τ = ρ := by
    intro vs
    induction vs with
    | nil =>
      intro τ hl h
      exact List.ext_getElem? fun i => h i (by simp)
    | cons v vs ih =>
      intro τ hl h
      show backE ρ vs (τ.set v (ρ.getD v .non)) = ρ
      refine ih _ (by rw [List.length_set]; exact hl) fun i hi => ?_
      by_cases e : v = i
      · subst e
        by_cases hv : v < τ.length
        · rw [List.getElem?_set_self hv, List.getD_eq_getElem?_getD, List.getElem?_eq_getElem (by omega)]
          rfl
        · rw [List.getElem?_eq_none (by rw [List.length_set]; omega), List.getElem?_eq_none (by omega)]
      · rw [List.getElem?_set_ne e]
        exact h i (by simp only [List.mem_cons, not_or]; exact ⟨fun z => e z.symm, hi⟩)
  intro vs
  exact key vs _ (wipeE_length ρ vs) fun i hi => wipeE_out hi
/-- a comprehension whose turns leave all but its own slots: what comes, turn by turn -/
theorem turns_rel {own : List Nat} {tg : D → En → Option En} {cond : EvB S} {elt : Ev S} {B : En} (Inv : S → Prop) (R : D → Option D → Prop) :
    ∀ (items : List D), (∀ d ∈ items, ∀ s, Inv s → ∃ ρ1, tg d B = some ρ1 ∧ ((∃ ρ2 s2, cond ρ1 s = some (false, ρ2, s2) ∧ wipeE ρ2 own = B ∧ Inv s2 ∧ R d none) ∨
      ∃ ρ2 s2 y ρ3 s3, cond ρ1 s = some (true, ρ2, s2) ∧ elt ρ2 s2 = some (y, ρ3, s3) ∧ wipeE (if noL y then ρ3 else freeze ρ3) own = B ∧ Inv s3 ∧ R d (some y))) →
    ∀ (acc : List D) (ρ : En) (s : S), wipeE ρ own = B → Inv s → acc.length + items.length ≤ sizeLine → ∃ ys ρ' s', turns own tg cond elt items acc ρ s = some (acc ++ ys.filterMap id, ρ', s') ∧ wipeE ρ' own = B ∧ Inv s' ∧ PySem.Paired R items ys
  | [], _, acc, ρ, s, hB, hI, _ => ⟨[], ρ, s, by simp [turns], hB, hI, .nil⟩
  | d :: ds, h, acc, ρ, s, hB, hI, hz => by
    obtain ⟨ρ1, h1, h2⟩ := h d List.mem_cons_self s hI
    have hz' : acc.length + (ds.length + 1) ≤ sizeLine := hz
    unfold turns
    rw [hB, h1]
    rcases h2 with ⟨ρ2, s2, h3, h4, h5, h6⟩ | ⟨ρ2, s2, y, ρ3, s3, h3, h4, h5, h6, h7⟩
    · simp only [h3]
      obtain ⟨ys, ρ', s', e1, e2, e3, e4⟩ := turns_rel Inv R ds (fun x hx => h x (List.mem_cons_of_mem _ hx)) acc ρ2 s2 h4 h5 (by omega)
      exact ⟨none :: ys, ρ', s', by rw [e1]; simp, e2, e3, .cons h6 e4⟩
    · simp only [h3, h4]
      rw [if_pos (by omega)]
      obtain ⟨ys, ρ', s', e1, e2, e3, e4⟩ := turns_rel Inv R ds (fun x hx => h x (List.mem_cons_of_mem _ hx)) (acc ++ [y]) _ s3 h5 h6 (by rw [List.length_append]; simp; omega)
      exact ⟨some y :: ys, ρ', s', by rw [e1]; simp, e2, e3, .cons h7 e4⟩
theorem comp_rel {own : List Nat} {it : EvL S} {tg : D → En → Option En} {cond : EvB S} {elt : Ev S} {ρ ρ1 : En} {s s1 : S} {items : List D} (Inv : S → Prop) (R : D → Option D → Prop) (hi : it ρ s = some (items, ρ1, s1)) (hno : noOwn own ρ1 = true) (hI : Inv s1) (hz : items.length ≤ sizeLine)
    (h : ∀ d ∈ items, ∀ s, Inv s → ∃ ρ2, tg d (wipeE ρ1 own) = some ρ2 ∧ ((∃ ρ3 s2, cond ρ2 s = some (false, ρ3, s2) ∧ wipeE ρ3 own = wipeE ρ1 own ∧ Inv s2 ∧ R d none) ∨
      ∃ ρ3 s2 y ρ4 s3, cond ρ2 s = some (true, ρ3, s2) ∧ elt ρ3 s2 = some (y, ρ4, s3) ∧ wipeE (if noL y then ρ4 else freeze ρ4) own = wipeE ρ1 own ∧ Inv s3 ∧ R d (some y))) :
    ∃ ys s', compF own it tg cond elt ρ s = some (.lst (ys.filterMap id), ρ1, s') ∧ Inv s' ∧ PySem.Paired R items ys := by
  obtain ⟨ys, ρ', s', e1, e2, e3, e4⟩ := turns_rel Inv R items h [] ρ1 s1 rfl hI (by simpa using hz)
  refine ⟨ys, s', ?_, e3, e4⟩
  unfold compF
  rw [hi]
  simp only [hno, if_true]
  rw [e1]
  simp only [List.nil_append]
  rw [e2, backE_wipe]
/-- a comprehension that leaves the state: a test and an item, by functions -/
theorem comp_fn {own : List Nat} {it : EvL S} {tg : D → En → Option En} {cond : EvB S} {elt : Ev S} {ρ ρ1 : En} {s s1 : S} {items : List D} (p : D → Bool) (f : D → D) (hi : it ρ s = some (items, ρ1, s1)) (hno : noOwn own ρ1 = true) (hz : items.length ≤ sizeLine)
    (h : ∀ d ∈ items, ∃ ρ2 ρ3, tg d (wipeE ρ1 own) = some ρ2 ∧ cond ρ2 s1 = some (p d, ρ3, s1) ∧ (p d = false → wipeE ρ3 own = wipeE ρ1 own) ∧ (p d = true → ∃ ρ4, elt ρ3 s1 = some (f d, ρ4, s1) ∧ wipeE (if noL (f d) then ρ4 else freeze ρ4) own = wipeE ρ1 own)) :
    compF own it tg cond elt ρ s = some (.lst ((items.filter p).map f), ρ1, s1) := by
  obtain ⟨ys, s', e1, e2, e3⟩ := comp_rel (S := S) (fun s => s = s1) (fun d o => o = if p d then some (f d) else none) hi hno rfl hz (fun d hd s hs => by
    subst hs
    obtain ⟨ρ2, ρ3, h1, h2, h3, h4⟩ := h d hd
    refine ⟨ρ2, h1, ?_⟩
    cases z : p d with
    | false => rw [z] at h2; exact .inl ⟨ρ3, _, h2, h3 z, rfl, by simp⟩
    | true =>
      rw [z] at h2
      obtain ⟨ρ4, h5, h6⟩ := h4 z
      exact .inr ⟨ρ3, _, f d, ρ4, _, h2, h5, h6, rfl, by simp⟩)
  subst e2
  rw [e1]
  have : ∀ {is : List D} {ys : List (Option D)}, PySem.Paired (fun d o => o = if p d then some (f d) else none) is ys → ys.filterMap id = (is.filter p).map f := by
    intro is ys q
    induction q with
    | nil => rfl
    | @cons d o is ys h1 h2 ih =>
      subst h1
      cases z : p d with
      | true => simp [z, ih]
      | false => simp [z, ih]
  rw [this e3]
/-- a comprehension over what is c x, x in xs -/
theorem turns_map {α : Type} {own : List Nat} {tg : D → En → Option En} {cond : EvB S} {elt : Ev S} {B : En} {s : S} (c : α → D) (p : α → Bool) (f : α → D) :
    ∀ (xs : List α), (∀ x ∈ xs, ∃ ρ2 ρ3, tg (c x) B = some ρ2 ∧ cond ρ2 s = some (p x, ρ3, s) ∧ (p x = false → wipeE ρ3 own = B) ∧ (p x = true → ∃ ρ4, elt ρ3 s = some (f x, ρ4, s) ∧ wipeE (if noL (f x) then ρ4 else freeze ρ4) own = B)) →
    ∀ (acc : List D) (ρ : En), wipeE ρ own = B → acc.length + xs.length ≤ sizeLine → ∃ ρ', turns own tg cond elt (xs.map c) acc ρ s = some (acc ++ (xs.filter p).map f, ρ', s) ∧ wipeE ρ' own = B
  | [], _, acc, ρ, hB, _ => ⟨ρ, by simp [turns], hB⟩
  | x :: xs, h, acc, ρ, hB, hz => by
    obtain ⟨ρ2, ρ3, h1, h2, h3, h4⟩ := h x List.mem_cons_self
    have hz' : acc.length + (xs.length + 1) ≤ sizeLine := hz
    rw [List.map_cons]
    unfold turns
    rw [hB, h1]
    simp only [h2]
    cases z : p x with
    | false =>
      simp only
      obtain ⟨ρ', e1, e2⟩ := turns_map c p f xs (fun y hy => h y (List.mem_cons_of_mem _ hy)) acc ρ3 (h3 z) (by omega)
      exact ⟨ρ', by rw [e1]; simp [z], e2⟩
    | true =>
      obtain ⟨ρ4, h5, h6⟩ := h4 z
      simp only [h5]
      rw [if_pos (by omega)]
      obtain ⟨ρ', e1, e2⟩ := turns_map c p f xs (fun y hy => h y (List.mem_cons_of_mem _ hy)) (acc ++ [f x]) _ h6 (by rw [List.length_append]; simp; omega)
      exact ⟨ρ', by rw [e1]; simp [z], e2⟩
theorem comp_map {α : Type} {own : List Nat} {it : EvL S} {tg : D → En → Option En} {cond : EvB S} {elt : Ev S} {ρ ρ1 : En} {s s1 : S} (xs : List α) (c : α → D) (p : α → Bool) (f : α → D) (hi : it ρ s = some (xs.map c, ρ1, s1)) (hno : noOwn own ρ1 = true) (hz : xs.length ≤ sizeLine)
    (h : ∀ x ∈ xs, ∃ ρ2 ρ3, tg (c x) (wipeE ρ1 own) = some ρ2 ∧ cond ρ2 s1 = some (p x, ρ3, s1) ∧ (p x = false → wipeE ρ3 own = wipeE ρ1 own) ∧ (p x = true → ∃ ρ4, elt ρ3 s1 = some (f x, ρ4, s1) ∧ wipeE (if noL (f x) then ρ4 else freeze ρ4) own = wipeE ρ1 own)) :
    compF own it tg cond elt ρ s = some (.lst ((xs.filter p).map f), ρ1, s1) := by
  obtain ⟨ρ', e1, e2⟩ := turns_map c p f xs h [] ρ1 rfl (by simpa using hz)
  unfold compF
  rw [hi]
  simp only [hno, if_true]
  rw [e1]
  simp only [List.nil_append]
  rw [e2, backE_wipe]
/-! ### == and in of ints, of tuples of ints -/
@[simp] theorem eqB_int (i j : Int) : eqB (.int i) (.int j) = decide (i = j) := by
  simp only [eqB, toP, PyData.eqv]
  by_cases h : i = j
  · simp [h]
  · simp [h]
theorem eqv_ints : ∀ a b : List Int, PyData.eqvAll (toPs (a.map .int)) (toPs (b.map .int)) = decide (a = b)
  | [], [] => by simp [toPs, PyData.eqvAll]
  | [], _ :: _ => by simp [toPs, PyData.eqvAll]
  | _ :: _, [] => by simp [toPs, PyData.eqvAll]
  | x :: a, y :: b => by
    simp only [List.map_cons, toPs, PyData.eqvAll, eqv_ints a b, toP, PyData.eqv]
    by_cases h : x = y
    · simp [h]
    · simp [h]
@[simp] theorem eqB_tupI (a b : List Int) : eqB (tupI a) (tupI b) = decide (a = b) := by
  simp only [eqB, tupI, toP, PyData.eqv, eqv_ints]
@[simp] theorem inB_ints (i : Int) (ns : List Int) : inB (.int i) (ns.map .int) = decide (i ∈ ns) := by
  unfold inB
  rw [List.any_map]
  induction ns with
  | nil => simp
  | cons n ns ih =>
    simp only [List.any_cons, ih, Function.comp, eqB_int, List.mem_cons]
    by_cases h : n = i
    · simp [h]
    · simp [h, Ne.symm h]
@[simp] theorem inB_tups (k : List Int) (ks : List (List Int)) : inB (tupI k) (ks.map tupI) = decide (k ∈ ks) := by
  unfold inB
  rw [List.any_map]
  induction ks with
  | nil => simp
  | cons n ks ih =>
    simp only [List.any_cons, ih, Function.comp, eqB_tupI, List.mem_cons]
    by_cases h : n = k
    · simp [h]
    · simp [h, Ne.symm h]
@[simp] theorem okDs_ints (n : Nat) : ∀ ns : List Int, okDs n (ns.map .int) = true
  | [] => by simp [okDs]
  | x :: ns => by cases n <;> simp [okDs, okD, okDs_ints _ ns]
@[simp] theorem okD_tupI (n : Nat) (ns : List Int) : okD (n + 1) (tupI ns) = true := by simp [tupI, okD]
@[simp] theorem okDs_tups (n : Nat) : ∀ ks : List (List Int), okDs (n + 1) (ks.map tupI) = true
  | [] => by simp [okDs]
  | x :: ks => by simp [okDs, okDs_tups n ks]
@[simp] theorem noLs_ints : ∀ ns : List Int, noLs (ns.map .int) = true
  | [] => rfl
  | _ :: ns => by simp [noLs, noL, noLs_ints ns]
@[simp] theorem noL_tupI (ns : List Int) : noL (tupI ns) = true := by simp [tupI, noL]
@[simp] theorem noLs_tups : ∀ ks : List (List Int), noLs (ks.map tupI) = true
  | [] => rfl
  | _ :: ks => by simp [noLs, noLs_tups ks]
@[simp] theorem noL_int (i : Int) : noL (.int i) = true := rfl
@[simp] theorem noL_bl (i : Bool) : noL (.bl i) = true := rfl
@[simp] theorem noL_non : noL .non = true := rfl
@[simp] theorem noL_deck : noL .deck = true := rfl
@[simp] theorem noL_str (x : Str) : noL (.str x) = true := rfl
@[simp] theorem noL_lst (x : List D) : noL (.lst x) = false := rfl
@[simp] theorem noL_tup (x : List D) : noL (.tup x) = noLs x := rfl
@[simp] theorem noLs_nil : noLs [] = true := rfl
@[simp] theorem noLs_cons (d : D) (ds : List D) : noLs (d :: ds) = (noL d && noLs ds) := rfl
@[simp] theorem okDs_nil (n : Nat) : okDs n [] = true := by cases n <;> simp [okDs]
@[simp] theorem okDs_cons (n : Nat) (d : D) (ds : List D) : okDs n (d :: ds) = (okD n d && okDs n ds) := by cases n <;> simp [okDs]
@[simp] theorem okD_int (n : Nat) (i : Int) : okD n (.int i) = true := by cases n <;> simp [okD]
@[simp] theorem okD_bl (n : Nat) (i : Bool) : okD n (.bl i) = true := by cases n <;> simp [okD]
@[simp] theorem okD_non (n : Nat) : okD n .non = true := by cases n <;> simp [okD]
@[simp] theorem okD_tup (n : Nat) (ds : List D) : okD (n + 1) (.tup ds) = okDs n ds := by simp [okD]
@[simp] theorem okD_lst (n : Nat) (ds : List D) : okD (n + 1) (.lst ds) = okDs n ds := by simp [okD]
/-- a loop that goes by a function -/
theorem loop_fold {α β : Type} {tg : D → En → Option En} {b : Ss S} {s : S} (c : α → D) (E : β → En → Prop) (f : β → α → β) : ∀ (xs : List α) (z : β) (ρ : En), E z ρ →
    (∀ x ∈ xs, ∀ z ρ, E z ρ → ∃ ρ1 ρ2, tg (c x) ρ = some ρ1 ∧ b ρ1 s = some (.nx, ρ2, s) ∧ E (f z x) ρ2) → ∃ ρ', loopF tg b (xs.map c) ρ s = some (.nx, ρ', s) ∧ E (xs.foldl f z) ρ'
  | [], z, ρ, h, _ => ⟨ρ, rfl, h⟩
  | x :: xs, z, ρ, h, hs => by
    obtain ⟨ρ1, ρ2, h1, h2, h3⟩ := hs x List.mem_cons_self z ρ h
    obtain ⟨ρ', h4, h5⟩ := loop_fold c E f xs (f z x) ρ2 h3 fun y hy => hs y (List.mem_cons_of_mem _ hy)
    refine ⟨ρ', ?_, h5⟩
    rw [List.map_cons]
    unfold loopF
    simp only [h1, h2]
    exact h4
/-- a loop that keeps what is so -/
theorem loop_keep {tg : D → En → Option En} {b : Ss S} (I : List D → En → S → Prop) : ∀ (ds : List D) (ρ : En) (s : S), I ds ρ s →
    (∀ d ds ρ s, I (d :: ds) ρ s → ∃ ρ1 ρ2 s2, tg d ρ = some ρ1 ∧ b ρ1 s = some (.nx, ρ2, s2) ∧ I ds ρ2 s2) → ∃ ρ' s', loopF tg b ds ρ s = some (.nx, ρ', s') ∧ I [] ρ' s'
  | [], ρ, s, h, _ => ⟨ρ, s, rfl, h⟩
  | d :: ds, ρ, s, h, hs => by
    obtain ⟨ρ1, ρ2, s2, h1, h2, h3⟩ := hs d ds ρ s h
    obtain ⟨ρ', s', h4, h5⟩ := loop_keep I ds ρ2 s2 h3 hs
    refine ⟨ρ', s', ?_, h5⟩
    unfold loopF
    simp only [h1, h2]
    exact h4
/-! ### one step each -/
variable {ρ : En} {s : S}
@[simp] theorem d_defN (n N : Nat) (b : Ss S) (ds : List D) : defN n N b ds s = if ds.length = n then defF N b ds s else none := rfl
@[simp] theorem d_defF (N : Nat) (b : Ss S) (ds : List D) : defF N b ds s = (match b (startE N ds) s with | some (.rt d, _, s') => some (d, s') | some (.nx, _, s') => some (.non, s') | _ => none) := rfl
@[simp] theorem d_startE (N : Nat) (ds : List D) : startE N ds = ds.map .val ++ List.replicate (N - ds.length) .non := rfl
@[simp] theorem d_skipF : skipF ρ s = some (.nx, ρ, s) := rfl
@[simp] theorem d_nevF : nevF ρ s = none := rfl
@[simp] theorem d_seqF (g h : Ss S) : seqF g h ρ s = (match g ρ s with | some (.nx, ρ', s') => h ρ' s' | r => r) := rfl
@[simp] theorem d_retF (f : Ev S) : retF f ρ s = (match f ρ s with | some (d, ρ', s') => some (.rt d, ρ', s') | none => none) := rfl
@[simp] theorem d_retNF : retNF ρ s = some (.rt .non, ρ, s) := rfl
@[simp] theorem d_exprF (f : Ev S) : exprF f ρ s = (match f ρ s with | some (_, ρ', s') => some (.nx, thaw ρ ρ', s') | none => none) := rfl
@[simp] theorem d_ifF (c : EvB S) (g h : Ss S) : ifF c g h ρ s = (match c ρ s with | some (true, ρ', s') => g ρ' s' | some (false, ρ', s') => h ρ' s' | none => none) := rfl
@[simp] theorem d_setF (fr : Bool) (i : Nat) (f : Ev S) : setF fr i f ρ s = (match f ρ s with
  | some (d, ρ', s') => match fr, d with
    | true, .lst ds => if noLs ds then (if i < ρ'.length then some (.nx, (thaw ρ ρ').set i (.own false ds), s') else none) else ((putV i (.lst ds) ρ').map (fun ρ2 => (.nx, ρ2, s')))
    | _, d => ((putV i d (if noL d then thaw ρ ρ' else ρ')).map (fun ρ2 => (.nx, ρ2, s')))
  | none => none) := rfl
@[simp] theorem d_asgF (f : Ev S) (g : D → En → Option En) : asgF f g ρ s = (match f ρ s with
  | some (d, ρ', s') => match g d (if noL d then thaw ρ ρ' else ρ') with
    | some ρ2 => some (.nx, ρ2, s')
    | none => none
  | none => none) := rfl
@[simp] theorem d_putV (i : Nat) (d : D) : putV i d ρ = if i < ρ.length then some ((if noL d then ρ else freeze ρ).set i (.val d)) else none := rfl
@[simp] theorem d_nilG : nilG [] ρ = some ρ := rfl
@[simp] theorem d_consG (f : D → En → Option En) (g : List D → En → Option En) (d : D) (ds : List D) : consG f g (d :: ds) ρ = (f d ρ).bind fun ρ' => g ds ρ' := rfl
@[simp] theorem d_tupG (n : Nat) (g : List D → En → Option En) (ds : List D) : tupG n g (.tup ds) ρ = if ds.length = n then g ds ρ else none := rfl
@[simp] theorem d_varF (i : Nat) : varF i ρ s = (match ρ[i]? with | some (.val d) => some (d, ρ, s) | some (.own _ ds) => some (.lst ds, ρ.set i (.own true ds), s) | _ => none) := rfl
@[simp] theorem d_cstF (d : D) : cstF d ρ s = some (d, ρ, s) := rfl
@[simp] theorem d_thawF (f : Ev S) : thawF f ρ s = (f ρ s).map fun (d, ρ', s') => (d, if noL d then thaw ρ ρ' else ρ', s') := rfl
@[simp] theorem d_binF (o : D → D → Option D) (f g : Ev S) : binF o f g ρ s = (match f ρ s with | some (x, ρ1, s1) => (match g ρ1 s1 with | some (y, ρ2, s2) => (match o x y with | some d => some (d, ρ2, s2) | none => none) | none => none) | none => none) := by
  unfold binF
  cases f ρ s with
  | none => rfl
  | some z =>
    obtain ⟨x, ρ1, s1⟩ := z
    simp only [Option.bind_eq_bind, Option.bind_some]
    cases g ρ1 s1 with
    | none => rfl
    | some z =>
      obtain ⟨y, ρ2, s2⟩ := z
      simp only [Option.bind_some]
      cases o x y <;> rfl
@[simp] theorem d_chainF (o o' : D → D → Option D) (f g h : Ev S) : chainF o o' f g h ρ s = (match f ρ s with | some (x, ρ1, s1) => (match g ρ1 s1 with | some (y, ρ2, s2) => (match o x y with | some (.bl true) => (match h ρ2 s2 with | some (z, ρ3, s3) => (match o' y z with | some d => some (d, ρ3, s3) | none => none) | none => none) | some (.bl false) => some (.bl false, ρ2, s2) | _ => none) | none => none) | none => none) := by
  unfold chainF
  cases f ρ s with
  | none => rfl
  | some z =>
    obtain ⟨x, ρ1, s1⟩ := z
    simp only [Option.bind_eq_bind, Option.bind_some]
    cases g ρ1 s1 with
    | none => rfl
    | some z =>
      obtain ⟨y, ρ2, s2⟩ := z
      simp only [Option.bind_some]
      cases o x y with
      | none => rfl
      | some d =>
        cases d with
        | bl b =>
          cases b with
          | false => rfl
          | true =>
            simp only
            cases h ρ2 s2 with
            | none => rfl
            | some z =>
              obtain ⟨w, ρ3, s3⟩ := z
              simp only [Option.bind_some]
              cases o' y w <;> rfl
        | _ => rfl
@[simp] theorem d_andF (f g : Ev S) : andF f g ρ s = (match f ρ s with | some (.bl true, ρ', s') => g ρ' s' | some (.bl false, ρ', s') => some (.bl false, ρ', s') | _ => none) := rfl
@[simp] theorem d_orF (f g : Ev S) : orF f g ρ s = (match f ρ s with | some (.bl false, ρ', s') => g ρ' s' | some (.bl true, ρ', s') => some (.bl true, ρ', s') | _ => none) := rfl
@[simp] theorem d_notF (f : Ev S) : notF f ρ s = (match f ρ s with | some (.bl k, ρ', s') => some (.bl (!k), ρ', s') | _ => none) := rfl
@[simp] theorem d_negF (f : Ev S) : negF f ρ s = (match f ρ s with | some (.int k, ρ', s') => some (.int (-k), ρ', s') | _ => none) := rfl
@[simp] theorem d_iteF (c : EvB S) (f g : Ev S) : iteF' c f g ρ s = (match c ρ s with | some (true, ρ', s') => f ρ' s' | some (false, ρ', s') => g ρ' s' | none => none) := rfl
@[simp] theorem d_truF (f : Ev S) : truF f ρ s = (match f ρ s with | some (d, ρ', s') => (match truD d with | some b => some (b, thaw ρ ρ', s') | none => none) | none => none) := rfl
@[simp] theorem d_andB (f g : EvB S) : andB f g ρ s = (match f ρ s with | some (true, ρ', s') => g ρ' s' | some (false, ρ', s') => some (false, ρ', s') | none => none) := rfl
@[simp] theorem d_orB (f g : EvB S) : orB f g ρ s = (match f ρ s with | some (false, ρ', s') => g ρ' s' | some (true, ρ', s') => some (true, ρ', s') | none => none) := rfl
@[simp] theorem d_notB (f : EvB S) : notB f ρ s = (match f ρ s with | some (k, ρ', s') => some (!k, ρ', s') | none => none) := rfl
@[simp] theorem d_yesB : yesB ρ s = some (true, ρ, s) := rfl
@[simp] theorem d_nilL : nilL ρ s = some ([], ρ, s) := rfl
@[simp] theorem d_consL (f : Ev S) (g : EvL S) : consL f g ρ s = (match f ρ s with | some (x, ρ1, s1) => (match g ρ1 s1 with | some (xs, ρ2, s2) => some (x :: xs, ρ2, s2) | none => none) | none => none) := by
  unfold consL
  cases f ρ s with
  | none => rfl
  | some z =>
    obtain ⟨x, ρ1, s1⟩ := z
    simp only [Option.bind_eq_bind, Option.bind_some]
    cases g ρ1 s1 <;> rfl
@[simp] theorem d_mapF (o : List D → Option D) (g : EvL S) : mapF o g ρ s = (match g ρ s with | some (xs, ρ1, s1) => (match o xs with | some d => some (d, ρ1, s1) | none => none) | none => none) := by
  unfold mapF
  cases g ρ s with
  | none => rfl
  | some z =>
    obtain ⟨x, ρ1, s1⟩ := z
    simp only [Option.bind_eq_bind, Option.bind_some]
    cases o x <;> rfl
@[simp] theorem d_callF (G : List D → S → Option (D × S)) (g : EvL S) : callF G g ρ s = (match g ρ s with | some (xs, ρ', s') => (match G xs s' with | some (d, s2) => some (d, ρ', s2) | none => none) | none => none) := rfl
@[simp] theorem d_catS (nu nw : Nat) (ix : List Nat) (g h : EvL S) : catS nu nw ix g h ρ s = (match g ρ s with | some (xs, ρ1, s1) => (match h ρ1 s1 with | some (ys, ρ2, s2) => if xs.length = nu ∧ ys.length = nw then some (sel ix (xs ++ ys), ρ2, s2) else none | none => none) | none => none) := rfl
@[simp] theorem d_sel_nil {α : Type} (xs : List α) : sel [] xs = [] := rfl
@[simp] theorem d_sel_cons {α : Type} (i : Nat) (ix : List Nat) (xs : List α) : sel (i :: ix) xs = (match xs[i]? with | some x => x :: sel ix xs | none => sel ix xs) := rfl
@[simp] theorem d_itemsF (f : Ev S) : itemsF f ρ s = (match f ρ s with | some (.lst ds, ρ', s') => some (ds, ρ', s') | some (.tup ds, ρ', s') => some (ds, ρ', s') | _ => none) := rfl
@[simp] theorem d_rangeL (g : EvL S) : rangeL g ρ s = (match g ρ s with | some (ds, ρ', s') => (match rangeD ds with | some xs => some (xs, ρ', s') | none => none) | none => none) := rfl
@[simp] theorem d_enumL (g : EvL S) : enumL g ρ s = (match g ρ s with | some ([d], ρ', s') => (match seqD d with | some ds => some (enumD 0 ds, ρ', s') | none => none) | _ => none) := rfl
@[simp] theorem d_zipL (g : EvL S) : zipL g ρ s = (match g ρ s with | some ([.lst ds, .lst es], ρ', s') => some (zipD ds es, ρ', s') | some ([.tup ds, .tup es], ρ', s') => some (zipD ds es, ρ', s') | _ => none) := rfl
@[simp] theorem d_noO : noO ρ s = some (none, ρ, s) := rfl
@[simp] theorem d_someO (f : Ev S) : someO f ρ s = (match f ρ s with | some (.int i, ρ', s') => some (some i, ρ', s') | _ => none) := rfl
@[simp] theorem d_sliceF (f : Ev S) (lo hi : EvO S) : sliceF f lo hi ρ s = (match f ρ s with | some (x, ρ1, s1) => (match lo ρ1 s1 with | some (l, ρ2, s2) => (match hi ρ2 s2 with | some (u, ρ3, s3) => (match sliceD x l u with | some d => some (d, ρ3, s3) | none => none) | none => none) | none => none) | none => none) := rfl
@[simp] theorem d_forF (tg : D → En → Option En) (it : EvL S) (b : Ss S) : forF tg it b ρ s = (match it ρ s with | some (items, ρ1, s1) => loopF tg b items (freeze ρ1) s1 | none => none) := rfl
@[simp] theorem d_nilI : nilI ρ s = some ([], ρ, s) := rfl
@[simp] theorem d_consI (fr : Bool) (f : Ev S) (g : EvI S) : consI fr f g ρ s = (match f ρ s with
  | some (d, ρ1, s1) => match fr, d with
    | true, .lst ds => if noLs ds then match g (thaw ρ ρ1) s1 with
          | some (its, ρ2, s2) => some ((true, .lst ds) :: its, ρ2, s2)
          | none => none
        else match g ρ1 s1 with
          | some (its, ρ2, s2) => some ((false, .lst ds) :: its, ρ2, s2)
          | none => none
    | _, d => match g (if noL d then thaw ρ ρ1 else ρ1) s1 with
      | some (its, ρ2, s2) => some ((false, d) :: its, ρ2, s2)
      | none => none
  | none => none) := rfl
@[simp] theorem d_parF (is : List Nat) (f : EvI S) : parF is f ρ s = (match f ρ s with | some (its, ρ', s') => (putI is its ρ').map fun ρ2 => (.nx, ρ2, s') | none => none) := rfl
@[simp] theorem d_putI0 : putI [] [] ρ = some ρ := rfl
@[simp] theorem d_putIt (i : Nat) (is : List Nat) (ds : List D) (its : List (Bool × D)) : putI (i :: is) ((true, .lst ds) :: its) ρ = if i < ρ.length then putI is its (ρ.set i (.own false ds)) else none := rfl
@[simp] theorem d_putIf (i : Nat) (is : List Nat) (d : D) (its : List (Bool × D)) : putI (i :: is) ((false, d) :: its) ρ = (putV i d ρ).bind (putI is its) := rfl
@[simp] theorem d_appendF (i : Nat) (g : EvL S) : appendF i g ρ s = (match ρ[i]? with
  | some (.own _ _) => match g ρ s with
    | some ([y], ρ1, s1) => match ρ1[i]? with
      | some (.own false ds) => if ds.length < sizeLine then some (.non, (if noL y then ρ1 else freeze ρ1).set i (.own false (ds ++ [y])), s1) else none
      | _ => none
    | _ => none
  | _ => none) := rfl
@[simp] theorem d_popAtF (i : Nat) (g : EvL S) : popAtF i g ρ s = (match ρ[i]? with
  | some (.own _ _) => match g ρ s with
    | some ([.int j], ρ1, s1) => match ρ1[i]? with
      | some (.own false ds) => if 0 ≤ j ∧ j < 2 ^ 63 then match ds[j.toNat]? with
          | some y => some (y, ρ1.set i (.own false (ds.eraseIdx j.toNat)), s1)
          | none => none
        else none
      | _ => none
    | _ => none
  | _ => none) := rfl
@[simp] theorem d_popF (i : Nat) : popF i ρ s = (match ρ[i]? with
  | some (.own false ds) => match ds[ds.length - 1]? with
    | some y => some (y, ρ.set i (.own false ds.dropLast), s)
    | none => none
  | _ => none) := rfl
@[simp] theorem d_setAtF (i : Nat) (f g : Ev S) : setAtF i f g ρ s = (match f ρ s with
  | some (d, ρ1, s1) => match ρ1[i]? with
    | some (.own _ _) => match g (if noL d then thaw ρ ρ1 else ρ1) s1 with
      | some (.int k, ρ2, s2) => match ρ2[i]? with
        | some (.own false ds) => match ixN ds.length k with
          | some j => some (.nx, (if noL d then ρ2 else freeze ρ2).set i (.own false (ds.set j d)), s2)
          | none => none
        | _ => none
      | _ => none
    | _ => none
  | none => none) := rfl
@[simp] theorem d_wipe0 : wipeE ρ [] = ρ := rfl
@[simp] theorem d_wipe1 (v : Nat) (vs : List Nat) : wipeE ρ (v :: vs) = (wipeE ρ vs).set v .non := rfl
@[simp] theorem d_noOwn (own : List Nat) : noOwn own ρ = own.all fun i => (match ρ[i]? with | some (.own _ _) => false | _ => true) := rfl
end
@[simp] theorem o_add (i j : Int) : addD (.int i) (.int j) = some (.int (i + j)) := rfl
@[simp] theorem o_sub (i j : Int) : subD (.int i) (.int j) = some (.int (i - j)) := rfl
@[simp] theorem o_lt (i j : Int) : ltD (.int i) (.int j) = some (.bl (decide (i < j))) := rfl
@[simp] theorem o_le (i j : Int) : leD (.int i) (.int j) = some (.bl (decide (i ≤ j))) := rfl
@[simp] theorem o_gt (i j : Int) : gtD (.int i) (.int j) = some (.bl (decide (j < i))) := rfl
@[simp] theorem o_ge (i j : Int) : geD (.int i) (.int j) = some (.bl (decide (j ≤ i))) := rfl
@[simp] theorem o_mod (i j : Int) : modD (.int i) (.int j) = if 0 < j then some (.int (i % j)) else none := rfl
@[simp] theorem o_div (i j : Int) : divD (.int i) (.int j) = if 0 < j ∧ j < 1073741824 then some (.int (i / j)) else none := rfl
@[simp] theorem o_mul (i j : Int) : mulD (.int i) (.int j) = if CMul i j then some (.int (i * j)) else none := rfl
@[simp] theorem o_pow (i j : Int) : powD (.int i) (.int j) = if CPow i j then some (.int (i ^ j.toNat)) else none := rfl
@[simp] theorem o_addT (a b : List D) : addD (.tup a) (.tup b) = if a.length + b.length ≤ sizeLine then some (.tup (a ++ b)) else none := rfl
@[simp] theorem o_addL (a b : List D) : addD (.lst a) (.lst b) = if a.length + b.length ≤ sizeLine then some (.lst (a ++ b)) else none := rfl
@[simp] theorem o_eq (x y : D) : eqD x y = if (okD 60 x && okD 60 y) || strs2 x y then some (.bl (eqB x y)) else none := rfl
@[simp] theorem o_ne (x y : D) : neD x y = if (okD 60 x && okD 60 y) || strs2 x y then some (.bl (!eqB x y)) else none := rfl
@[simp] theorem strs2_s (a b : Str) : strs2 (.str a) (.str b) = true := rfl
@[simp] theorem eqB_str (a b : Str) : eqB (.str a) (.str b) = (a == b) := by simp [eqB, toP, PyData.eqv]
@[simp] theorem o_inL (x : D) (ys : List D) : inD x (.lst ys) = if okD 60 x && okD 60 (.lst ys) then some (.bl (inB x ys)) else none := rfl
@[simp] theorem o_inT (x : D) (ys : List D) : inD x (.tup ys) = if okD 60 x && okD 60 (.tup ys) then some (.bl (inB x ys)) else none := rfl
@[simp] theorem o_ninL (x : D) (ys : List D) : ninD x (.lst ys) = if okD 60 x && okD 60 (.lst ys) then some (.bl (!inB x ys)) else none := rfl
@[simp] theorem o_ninT (x : D) (ys : List D) : ninD x (.tup ys) = if okD 60 x && okD 60 (.tup ys) then some (.bl (!inB x ys)) else none := rfl
@[simp] theorem o_ixL (xs : List D) (i : Int) : ixD (.lst xs) (.int i) = atI xs i := rfl
@[simp] theorem o_ixT (xs : List D) (i : Int) : ixD (.tup xs) (.int i) = atI xs i := rfl
@[simp] theorem o_slL (xs : List D) (lo hi : Option Int) : sliceD (.lst xs) lo hi = some (.lst (cutD xs lo hi)) := rfl
@[simp] theorem o_slT (xs : List D) (lo hi : Option Int) : sliceD (.tup xs) lo hi = some (.tup (cutD xs lo hi)) := rfl
@[simp] theorem o_truB (b : Bool) : truD (.bl b) = some b := rfl
@[simp] theorem o_truL (xs : List D) : truD (.lst xs) = some (!xs.isEmpty) := rfl
@[simp] theorem o_truT (xs : List D) : truD (.tup xs) = some (!xs.isEmpty) := rfl
@[simp] theorem o_truI (i : Int) : truD (.int i) = some (i != 0) := rfl
@[simp] theorem c_lenL (xs : List D) : lenD [.lst xs] = some (.int xs.length) := rfl
@[simp] theorem c_lenT (xs : List D) : lenD [.tup xs] = some (.int xs.length) := rfl
@[simp] theorem c_tupL (xs : List D) : tupleD [.lst xs] = some (.tup xs) := rfl
@[simp] theorem c_tupT (xs : List D) : tupleD [.tup xs] = some (.tup xs) := rfl
@[simp] theorem c_lisL (xs : List D) : listD [.lst xs] = some (.lst xs) := rfl
@[simp] theorem c_lisT (xs : List D) : listD [.tup xs] = some (.lst xs) := rfl
@[simp] theorem c_dispT (xs : List D) : dispT xs = if xs.length ≤ sizeLine then some (.tup xs) else none := rfl
@[simp] theorem c_dispL (xs : List D) : dispL xs = if xs.length ≤ sizeLine then some (.lst xs) else none := rfl
@[simp] theorem c_int1 (i : Int) : int1D [.int i] = some (.int i) := rfl
@[simp] theorem c_min2 (i j : Int) : minD [.int i, .int j] = some (.int (if j < i then j else i)) := rfl
@[simp] theorem c_max2 (i j : Int) : maxD [.int i, .int j] = some (.int (if j > i then j else i)) := rfl
@[simp] theorem c_all (bs : List Bool) : allD [.lst (bs.map .bl)] = some (.bl (bs.all id)) := by
  unfold allD
  simp only [boolsD_map]
  rfl
@[simp] theorem c_sortI (ns : List Int) : sortD [.lst (ns.map .int)] = some (.lst ((sortI ns).map .int)) := by
  unfold sortD
  simp only [intsD_map]
theorem intsD_tups : ∀ {ks : List (List Int)}, ks ≠ [] → intsD (ks.map tupI) = none
  | [], h => absurd rfl h
  | _ :: _, _ => rfl
@[simp] theorem c_sortT (ks : List (List Int)) : sortD [.lst (ks.map tupI)] = some (.lst ((sortT ks).map tupI)) := by
  cases ks with
  | nil => simp [sortD, intsD, sortI, sortT]
  | cons k ks =>
    unfold sortD
    simp only [intsD_tups (List.cons_ne_nil k ks), tupsD_map]
    rfl
theorem c_setI (ns : List Int) (h : ns.length < 64) : setSortD [.lst (ns.map .int)] = some (.lst ((sortI (once ns)).map .int)) := by
  unfold setSortD
  simp only [List.length_map, h, if_true, intsD_map]
theorem c_setTI (ns : List Int) (h : ns.length < 64) : setSortD [.tup (ns.map .int)] = some (.lst ((sortI (once ns)).map .int)) := by
  unfold setSortD
  simp only [List.length_map, h, if_true, intsD_map]
theorem c_setT (ks : List (List Int)) (h : ks.length < 64) : setSortD [.lst (ks.map tupI)] = some (.lst ((sortT (once ks)).map tupI)) := by
  unfold setSortD
  simp only [List.length_map, h, if_true]
  cases ks with
  | nil => simp [intsD, sortI, sortT, once]
  | cons k ks =>
    simp only [intsD_tups (List.cons_ne_nil k ks), tupsD_map]
    rfl
@[simp] theorem c_isiTT (xs : List D) : isiD [.tup xs, .ty "tuple"] = some (.bl true) := rfl
@[simp] theorem c_isiII (i : Int) : isiD [.int i, .ty "int"] = some (.bl true) := rfl
@[simp] theorem c_isiIB (i : Int) : isiD [.int i, .ty "bool"] = some (.bl false) := rfl
theorem c_range (j : Int) : rangeD [.int j] = if j.natAbs ≤ 1000000 then some (rngD 0 j.toNat) else none := rfl
theorem c_range2 (i j : Int) : rangeD [.int i, .int j] = if i.natAbs ≤ 1000000 ∧ j.natAbs ≤ 1000000 then some (rngD i (j - i).toNat) else none := rfl
@[simp] theorem filter_tt {α : Type} (xs : List α) : xs.filter (fun _ => true) = xs := by simp
theorem range_nat (n : Nat) (h : n ≤ 1000000) : rangeD [.int (n : Int)] = some ((List.range n).map fun i : Nat => .int (0 + (i : Nat))) := by
  rw [c_range, if_pos (by omega)]
  rfl
theorem sizeL : sizeLine = 16777216 := sizeLine_eq
end L3
end
section
set_option Elab.async false
set_option linter.all false
set_option maxRecDepth 100000
set_option autoImplicit false
/-! L3p: more words: is, tuple(range()), reversed slices (own work). -/
namespace L3
open PySem PySem.Spec PyProof.Rows L2
section
variable {X : Cx} {tk : Addr}
def isNonD : D → Bool
  | .non => true
  | _ => false
theorem rep_non {K : PySem.W.Frag} {H : Hp} {av : Addr → Prop} {v : V} {d : D} (r : Rep K tk H av v d) : decide (v = .non) = isNonD d := by
  cases r <;> simp [isNonD]
def isD : D → D → Option D
  | x, .non => some (.bl (isNonD x))
  | .bl a, .bl b => some (.bl (decide (a = b)))
  | _, _ => none
def isnotD : D → D → Option D
  | x, .non => some (.bl (!isNonD x))
  | .bl a, .bl b => some (.bl (!decide (a = b)))
  | _, _ => none
theorem ov_is : OpV X tk (compareOp .Is) isD := by
  refine ⟨_, op_isN.or op_is_bl, fun H av x y dx dy d Q hav rx ry e q => ?_⟩
  unfold isD at e
  split at e
  · cases e
    cases ry
    exact .inl ⟨rfl, by rw [rep_non rx]; exact q.val (.bl _) fun _ z => by cases z⟩
  · cases e
    cases rx
    cases ry
    exact .inr ⟨_, _, rfl, rfl, q.val (.bl _) fun _ z => by cases z⟩
  · cases e
theorem ov_isnot : OpV X tk (compareOp .IsNot) isnotD := by
  refine ⟨_, op_notN.or op_isnot_bl, fun H av x y dx dy d Q hav rx ry e q => ?_⟩
  unfold isnotD at e
  split at e
  · cases e
    cases ry
    exact .inl ⟨rfl, by rw [rep_non rx]; exact q.val (.bl _) fun _ z => by cases z⟩
  · cases e
    cases rx
    cases ry
    exact .inr ⟨_, _, rfl, rfl, q.val (.bl _) fun _ z => by cases z⟩
  · cases e
theorem isB_is : isB isD := fun x y d e => by
  unfold isD at e
  split at e
  · cases e; exact ⟨_, rfl⟩
  · cases e; exact ⟨_, rfl⟩
  · cases e
theorem isB_isnot : isB isnotD := fun x y d e => by
  unfold isnotD at e
  split at e
  · cases e; exact ⟨_, rfl⟩
  · cases e; exact ⟨_, rfl⟩
  · cases e
end
section
variable {S : Type} {X : Cx} {W : Wd S} {e a b c : Expr} {es : List Expr} {pos p p1 : Pos}
theorem se_tupRg1 {fa : Ev S} {fr : Bool} {p2 q2 : Pos} (hc : X.calm = true) (hg : Gl X "tuple") (hm : X.mg "tuple" = none) (hg2 : Gl X "range") (hm2 : X.mg "range" = none) (ha : PE X a (SE X.K W fr fa)) (na : starEach [a] X.env = (false, eval a X.env) :: starEach [] X.env)
    (nb : starEach [.Call (.Name "range" p2) [a] [] q2] X.env = (false, eval (.Call (.Name "range" p2) [a] [] q2) X.env) :: starEach [] X.env) : PE X (.Call (.Name "tuple" p) [.Call (.Name "range" p2) [a] [] q2] [] pos) (SE X.K W true (mapF (rgD .tup) (consL fa nilL))) :=
  (pe_tupRg hc hg hm (prg_1 hg2 hm2 ha na) nb).imp fun σ H Q q => by
    obtain ⟨H0, O, A, P, ρ, s, d, ρ', s', r, e, q⟩ := q
    obtain ⟨ds, e1, e2⟩ := mapF_some e
    obtain ⟨x, ρ1, s1, xs, e3, e4, rfl⟩ := consL_some e1
    cases e4
    unfold rgD at e2
    split at e2
    · rename_i j hx
      cases hx
      split at e2
      · rename_i ok
        cases e2
        refine ⟨H0, O, A, P, ρ, s, .int j, ρ', s', r, e3, fun v H' ex r' _ => ?_⟩
        have fin := fin_val (fr := true) r'.tail r'.hex (fun a h => r'.pet _ List.mem_cons_self a h) q
        have rl := rgV_rep (K := X.K) (tk := W.tok) (H := H') (av := fun a => avL ⟨X.K, W, H0, O⟩ A σ ρ' a ∧ ¬ ex a) 0 j
        rw [Int.sub_zero] at rl
        exact ⟨j, by cases r'.head; rfl, ok, fun p hp => fin.tup rl hp⟩
      · cases e2
    · rename_i hx; cases hx
    · cases e2
end
end L3
end
section
set_option Elab.async false
set_option linter.all false
set_option maxRecDepth 100000
set_option autoImplicit false
/-! L3z: tuples and lists turned round (own work). -/
namespace L3
open PySem PySem.Spec PyProof.Rows L2 HT
section
variable {prog : Program} {w : World} {A : Around} {E : Value → Shared → Prop} {s : Shared}
theorem turned_parts {sl : Addr} {v : Value} {n : Nat} {Q : Int × Int × Nat → Shared → Prop} (hs : s.heap.IsSliceOf sl .none .none v) (pv : IsPart v (some (-1)))
    (h : Q ((n : Int) - 1, -1, n) s) : wpAny (model prog w) A (Builtin.Slice.sliceApplied (.ref sl) (pure (n : Int))) Q E s := by
  obtain ⟨os, hos, hcs, hds⟩ := id hs
  have ad : Builtin.Slice.sliceAdjust none none (-1) (n : Int) = ((n : Int) - 1, -1) := rfl
  have pl : Builtin.Slice.slicePlaces ((n : Int) - 1) (-1) (-1) = n := by
    unfold Builtin.Slice.slicePlaces
    have h1 : ¬ (-1 : Int) > 0 := by omega
    simp only [h1, if_false, show (- -1 : Int) = 1 by omega, Int.ediv_one]
    split <;> omega
  unfold Builtin.Slice.sliceApplied Builtin.Slice.sliceFields
  refine wpAny_bind (wpAny_bind (wpAny_field hos hds (x := .none) rfl (wpAny_bind (wpAny_field hos hds (x := .none) rfl (wpAny_bind (wpAny_field hos hds (x := v) rfl (wpAny_pure ?_)))))))
  refine wpAny_bind (slicePart_ pv ?_)
  show wpAny _ _ (if ((-1 : Int) == 0) = true then _ else _) _ _ s
  rw [if_neg (by decide)]
  refine wpAny_bind (slicePart_none (wpAny_bind (slicePart_none (wpAny_bind (wpAny_pure ?_)))))
  show wpAny _ _ (match Builtin.Slice.sliceAdjust none none (-1) (n : Int) with | (lo, hi) => pure (lo, (-1 : Int), Builtin.Slice.slicePlaces lo hi (-1))) _ _ s
  rw [ad]
  show wpAny _ _ (pure ((n : Int) - 1, (-1 : Int), Builtin.Slice.slicePlaces ((n : Int) - 1) (-1) (-1))) _ _ s
  rw [pl]
  exact wpAny_pure h
theorem fm_same {α β : Type} {f g : α → Option β} : ∀ {l : List α}, (∀ x ∈ l, f x = g x) → l.filterMap f = l.filterMap g
  | [], _ => rfl
  | x :: l, h => by
    rw [List.filterMap_cons, List.filterMap_cons, h x List.mem_cons_self, fm_same fun y hy => h y (List.mem_cons_of_mem _ hy)]
theorem turned_pick (xs : Array Value) : ((List.range xs.size).filterMap fun (m : Nat) => xs[(((xs.size : Int) - 1) + (m : Int) * (-1)).toNat]?).toArray = xs.toList.reverse.toArray := by
  have e : (List.range xs.size).filterMap (fun (m : Nat) => xs[(((xs.size : Int) - 1) + (m : Int) * (-1)).toNat]?) = ((List.range xs.size).map fun k => xs.size - 1 - k).filterMap (xs[·]?) := by
    rw [List.filterMap_map]
    refine fm_same fun m hm => ?_
    have := List.mem_range.mp hm
    have e2 : (((xs.size : Int) - 1) + (m : Int) * (-1)).toNat = xs.size - 1 - m := by omega
    rw [e2]
    rfl
  rw [e, PySem.W.krv_range, List.filterMap_reverse, PySem.W.krv_all]
theorem tuple_turned {t sl : Addr} {items : Array Value} {v : Value} {Q : Value → Shared → Prop} (ht : IsTup s.heap t items) (hs : s.heap.IsSliceOf sl .none .none v) (pv : IsPart v (some (-1)))
    (h : Q (.ref s.heap.objs.size) { s with heap := s.heap.push { cls := .type "tuple", data := .seq items.toList.reverse.toArray } })
    (hsz : items.size ≤ sizeLine) : wpAny (model prog w) A (getItem (.ref t) (.ref sl)) Q E s := by
  have htake : sizeOk (.seq items.toList.reverse.toArray) := by
    show items.toList.reverse.toArray.size ≤ sizeLine
    rw [List.size_toArray, List.length_reverse, Array.length_toList]
    omega
  obtain ⟨os, hos, hcs, hds⟩ := id hs
  have hTs : s.TypeIs (.ref sl) "slice" := ⟨os, hos, hcs⟩
  unfold getItem
  try with_reducible refine wpAny_holding ?_
  first | refine wpAny_bind (wpAny_pure ?_) | skip
  refine wpAny_bind (wpAny_sequenceKey ht.typeIs (by decide) ?_)
  refine wpAny_bind (wpAny_callSpecial?_slot (name := Str.ofString "__getitem__") ht.typeIs PyProof.Rows.slot_tuple_getitem
    (wpAny_call_entry PyProof.Rows.slot_tuple_getitem ht.typeIs entry_tuple_getitem ?_ (args_tuple_getitem _ _)))
  show wpAny _ _ (Builtin.Tuple.tupleItemsOf (.ref t) >>= _) _ _ s
  refine wpAny_bind (tupleItemsOf_ ht ?_)
  refine wpAny_bind (wpAny_typeOf hTs ?_)
  rw [if_pos (by decide)]
  refine wpAny_bind (turned_parts hs pv ?_)
  have hno : ¬ ((((items.size : Int) - 1) == 0 && (-1 : Int) == 1 && items.size == items.size) = true) := by
    intro q
    rw [Bool.and_eq_true, Bool.and_eq_true] at q
    exact absurd (eq_of_beq q.1.2) (by decide)
  show wpAny _ _ (if (((items.size : Int) - 1) == 0 && (-1 : Int) == 1 && items.size == items.size) = true then _ else _) _ _ s
  rw [if_neg hno, turned_pick]
  first
    | exact wpAny_bind (m := Builtin.Tuple.tupleExact _) (wpAny_newObj_type (wpAny_pure ⟨_, rfl, wpAny_pure h⟩) htake)
    | exact wpAny_bind (m := Builtin.Tuple.tupleExact _) (wpAny_newObj_type (wpAny_bind (wpAny_pure (wpAny_pure ⟨_, rfl, wpAny_pure h⟩))) htake)
    | exact wpAny_bind (wpAny_bind (m := Builtin.Tuple.tupleExact _) (wpAny_newObj_type (wpAny_pure (wpAny_pure ⟨_, rfl, wpAny_pure h⟩)) htake))
    | exact wpAny_bind (wpAny_bind (m := Builtin.Tuple.tupleExact _) (wpAny_newObj_type (wpAny_pure ⟨_, rfl, wpAny_pure h⟩) htake))
end
def tTurn (K : PySem.W.Frag) (te : TE) : TE := fun σ H Q => te σ H fun x H1 => (∃ a xs, x = .ref a ∧ SqL K H1 a xs ∧ ∀ p, H1 p = none → Q (.ref p) (upd H1 p (.lst xs.reverse))) ∨
  ∃ a xs, x = .ref a ∧ SqT K H1 a xs ∧ ∀ p, H1 p = none → Q (.ref p) (upd H1 p (.tup xs.reverse))
theorem pe_turn {X : Cx} {e : Expr} {te : TE} {k : Nat} {p1 p2 p3 pos : Pos} (he : PE X e te) : PE X (.Subscript e (.Slice none none (some (.UnaryOp .USub (.Constant (.int 1) k p1) p2)) p3) pos) (tTurn X.K te) := by
  refine ⟨fun pins s σ H Q I h => ?_⟩
  refine Subscript_ (thn (he.run pins s σ H _ I h) fun v s1 ⟨x, H1, I1, r1, q1⟩ => ?_)
  have hst : PO X (some (.UnaryOp .USub (.Constant (.int 1) k p1) p2)) (tPart (tUn (rU fun i => .int (-i)) (tC (.int 1)))) := po_some (pe_un un_neg pe_int)
  refine wpAny_Slice (thn (po_none.run pins s1 σ H1 (fun o H2 => o = none ∧ H2 = H1) I1 ⟨rfl, rfl⟩) fun vl s2 ⟨l, H2, I2, pl, el, e2⟩ => ?_)
  subst el e2
  refine thn (po_none.run pins s2 σ H2 (fun o H3 => o = none ∧ H3 = H2) I2 ⟨rfl, rfl⟩) fun vu s3 ⟨u, H3, I3, pu, eu, e3⟩ => ?_
  subst eu e3
  refine thn (hst.run pins s3 σ H3 (fun o H4 => o = some (-1) ∧ H4 = H3) I3 ⟨1, rfl, -1, rfl, rfl, rfl⟩) fun vs s4 ⟨o, H4, I4, ps, eo, e4⟩ => ?_
  subst eo e4
  have I5 : Inv X pins σ H4 { s4 with heap := s4.heap.push { cls := .type "slice", data := .fields #[vl, vu, vs] } } := I4.kept (t' := s4.toks) fun b ob q => Heap.get?_push_of_some _ q
  rcases q1 with ⟨a, xs, ex, hx, q⟩ | ⟨a, xs, ex, hx, q⟩
  · subst ex
    cases r1
    obtain ⟨its, r, ht, hz⟩ := I5.list hx
    have hlen := r.length
    show wpAny (model X.prog X.w) X.A (subscriptTail e (.Slice none none (some (.UnaryOp .USub (.Constant (.int 1) k p1) p2)) p3) (.ref a) (.ref s4.heap.objs.size)) (EP X pins σ Q) X.xe { s4 with heap := s4.heap.push { cls := .type "slice", data := .fields #[vl, vu, vs] } }
    refine tail_any (ops := [.ref a, .ref s4.heap.objs.size]) ht.isList.typeIs (PySem.slot_list_getitem.lookup) ?_ (by with_unfolding_all rfl)
    refine wpAny_getItem_list_slice ht.isList (Heap.IsSliceOf.new _ vl vu vs) pl pu ps (by decide) ?_ (by rw [List.size_toArray]; omega)
    rw [PySem.W.krv_pick]
    refine ⟨.ref _, _, I5.laid (t' := s4.toks) (o := .lst xs.reverse) (fun b ob q => Heap.get?_push_of_some _ q) (Nat.le_refl _) ?_, rfl, q _ (I5.hok.fresh (Nat.le_refl _))⟩
    exact ⟨by rw [List.length_reverse]; exact hz, _, 0, r.reverse, Heap.get?_push_size _ rfl⟩
  · subst ex
    cases r1
    cases pl
    cases pu
    obtain ⟨its, r, ht, hz⟩ := I5.tuple hx
    have hlen : its.toArray.size = xs.length := by rw [List.size_toArray]; exact r.length.symm
    show wpAny (model X.prog X.w) X.A (subscriptTail e (.Slice none none (some (.UnaryOp .USub (.Constant (.int 1) k p1) p2)) p3) (.ref a) (.ref s4.heap.objs.size)) (EP X pins σ Q) X.xe { s4 with heap := s4.heap.push { cls := .type "slice", data := .fields #[.none, .none, vs] } }
    refine tail_any (ops := [.ref a, .ref s4.heap.objs.size]) ht.typeIs (PyProof.Rows.slot_tuple_getitem.lookup) ?_ (by with_unfolding_all rfl)
    refine tuple_turned ht (Heap.IsSliceOf.new _ .none .none vs) ps ?_ (by rw [hlen]; exact hz)
    refine ⟨.ref _, _, I5.laid (t' := s4.toks) (o := .tup xs.reverse) (fun b ob q => Heap.get?_push_of_some _ q) (Nat.le_refl _) ?_, rfl, q _ (I5.hok.fresh (Nat.le_refl _))⟩
    exact ⟨by rw [List.length_reverse]; exact hz, _, r.reverse, IsTup.new _ _⟩
section
variable {S : Type} {X : Cx} {W : Wd S} {e : Expr}
def turnF (f : Ev S) : Ev S := fun ρ s => match f ρ s with
  | some (.lst xs, ρ', s') => some (.lst xs.reverse, ρ', s')
  | some (.tup xs, ρ', s') => some (.tup xs.reverse, ρ', s')
  | _ => none
theorem se_turn {f : Ev S} {fr : Bool} {k : Nat} {p1 p2 p3 pos : Pos} (he : PE X e (SE X.K W fr f)) : PE X (.Subscript e (.Slice none none (some (.UnaryOp .USub (.Constant (.int 1) k p1) p2)) p3) pos) (SE X.K W true (turnF f)) :=
  (pe_turn he).imp fun σ H Q q => by
    obtain ⟨H0, O, A, P, ρ, s, d, ρ', s', r, e, q⟩ := q
    unfold turnF at e
    split at e
    · rename_i xs ρ1 s1 h1
      cases e
      refine ⟨H0, O, A, P, ρ, s, _, _, _, r, h1, fun v H1 ex r1 _ => ?_⟩
      have fin := fin_val (fr := true) r1.tail r1.hex (fun a h => r1.pet _ List.mem_cons_self a h) q
      have rv := r1.head
      have hav : ∀ a, (avL ⟨X.K, W, H0, O⟩ A σ ρ' a ∧ ¬ ex a) → H1 a ≠ none := fun a h => r1.avT h.1
      cases rv with
      | lst hp n rl => exact .inl ⟨_, _, rfl, .inl (.inl hp), fun p hp => fin.lst hav rl.reverse hp⟩
    · rename_i xs ρ1 s1 h1
      cases e
      refine ⟨H0, O, A, P, ρ, s, _, _, _, r, h1, fun v H1 ex r1 _ => ?_⟩
      have fin := fin_val (fr := true) r1.tail r1.hex (fun a h => r1.pet _ List.mem_cons_self a h) q
      have rv := r1.head
      cases rv with
      | tup hp rl => exact .inr ⟨_, _, rfl, hp, fun p hp => fin.tup rl.reverse hp⟩
    · cases e
@[simp] theorem d_turnF {ρ : En} {s : S} (f : Ev S) : turnF f ρ s = (match f ρ s with
  | some (.lst xs, ρ', s') => some (.lst xs.reverse, ρ', s')
  | some (.tup xs, ρ', s') => some (.tup xs.reverse, ρ', s')
  | _ => none) := rfl
end
end L3
end
section
set_option Elab.async false
set_option linter.all false
set_option maxRecDepth 100000
set_option autoImplicit false
set_option maxHeartbeats 0
namespace Q
open PySem PySem.Spec PyProof.Rows L2 L3
def topS (i : Nat) : Stmt := PySem.Challenge.pw_bothandall_k02_whole_what_follows.main.body.getD i (.Pass ⟨0, 0, 0, 0⟩)
abbrev s_is_integer : Stmt := topS 6
abbrev s_is_between : Stmt := topS 7
abbrev s_are_between : Stmt := topS 8
abbrev s_is_word : Stmt := topS 9
abbrev s_is_ascending : Stmt := topS 10
abbrev s_is_facts_value : Stmt := topS 14
abbrev s_is_rule_value : Stmt := topS 15
abbrev s_are_rules_value : Stmt := topS 16
abbrev s_has_all : Stmt := topS 17
abbrev s_steps_from : Stmt := topS 18
abbrev s_closure_of : Stmt := topS 19
abbrev s_is_closed_lot : Stmt := topS 20
abbrev s_need_facts_number : Stmt := topS 22
abbrev s_need_rules : Stmt := topS 23
abbrev s_need_lot_of : Stmt := topS 24
abbrev s_closure : Stmt := topS 25
abbrev s_need_fact_and_lot : Stmt := topS 26
abbrev s_judge_follows : Stmt := topS 27
abbrev s_do_lead : Stmt := topS 28
abbrev s_follows_holds : Stmt := topS 29
abbrev s__law_deck : Stmt := topS 31
abbrev s__law_draw : Stmt := topS 32
abbrev s__law_pick : Stmt := topS 33
abbrev s__law_is_integer : Stmt := topS 34
abbrev s__law_is_lot : Stmt := topS 35
abbrev s__law_lot : Stmt := topS 36
abbrev s__law_rule : Stmt := topS 37
abbrev s__law_rules : Stmt := topS 38
abbrev s__law_closure : Stmt := topS 39
abbrev s__law_order : Stmt := topS 40
abbrev s__law_is_paper : Stmt := topS 41
abbrev s__law_is_judged : Stmt := topS 42
abbrev s__law_carries_over : Stmt := topS 43
abbrev s_law : Stmt := topS 44
def d_is_integer : He.DefD := ⟨("is_integer", none), "is_integer", "is_integer", defArgs s_is_integer, defBody s_is_integer, defScope s_is_integer, [], []⟩
def d_is_between : He.DefD := ⟨("is_between", none), "is_between", "is_between", defArgs s_is_between, defBody s_is_between, defScope s_is_between, [], []⟩
def d_are_between : He.DefD := ⟨("are_between", none), "are_between", "are_between", defArgs s_are_between, defBody s_are_between, defScope s_are_between, [], []⟩
def d_is_word : He.DefD := ⟨("is_word", none), "is_word", "is_word", defArgs s_is_word, defBody s_is_word, defScope s_is_word, [], []⟩
def d_is_ascending : He.DefD := ⟨("is_ascending", none), "is_ascending", "is_ascending", defArgs s_is_ascending, defBody s_is_ascending, defScope s_is_ascending, [], []⟩
def d_is_facts_value : He.DefD := ⟨("is_facts_value", none), "is_facts_value", "is_facts_value", defArgs s_is_facts_value, defBody s_is_facts_value, defScope s_is_facts_value, [], []⟩
def d_is_rule_value : He.DefD := ⟨("is_rule_value", none), "is_rule_value", "is_rule_value", defArgs s_is_rule_value, defBody s_is_rule_value, defScope s_is_rule_value, [], []⟩
def d_are_rules_value : He.DefD := ⟨("are_rules_value", none), "are_rules_value", "are_rules_value", defArgs s_are_rules_value, defBody s_are_rules_value, defScope s_are_rules_value, [], []⟩
def d_has_all : He.DefD := ⟨("has_all", none), "has_all", "has_all", defArgs s_has_all, defBody s_has_all, defScope s_has_all, [], []⟩
def d_steps_from : He.DefD := ⟨("steps_from", none), "steps_from", "steps_from", defArgs s_steps_from, defBody s_steps_from, defScope s_steps_from, [], []⟩
def d_closure_of : He.DefD := ⟨("closure_of", none), "closure_of", "closure_of", defArgs s_closure_of, defBody s_closure_of, defScope s_closure_of, [], []⟩
def d_is_closed_lot : He.DefD := ⟨("is_closed_lot", none), "is_closed_lot", "is_closed_lot", defArgs s_is_closed_lot, defBody s_is_closed_lot, defScope s_is_closed_lot, [], []⟩
def d_need_facts_number : He.DefD := ⟨("need_facts_number", none), "need_facts_number", "need_facts_number", defArgs s_need_facts_number, defBody s_need_facts_number, defScope s_need_facts_number, [], []⟩
def d_need_rules : He.DefD := ⟨("need_rules", none), "need_rules", "need_rules", defArgs s_need_rules, defBody s_need_rules, defScope s_need_rules, [], []⟩
def d_need_lot_of : He.DefD := ⟨("need_lot_of", none), "need_lot_of", "need_lot_of", defArgs s_need_lot_of, defBody s_need_lot_of, defScope s_need_lot_of, [], []⟩
def d_closure : He.DefD := ⟨("closure", none), "closure", "closure", defArgs s_closure, defBody s_closure, defScope s_closure, [], []⟩
def d_need_fact_and_lot : He.DefD := ⟨("need_fact_and_lot", none), "need_fact_and_lot", "need_fact_and_lot", defArgs s_need_fact_and_lot, defBody s_need_fact_and_lot, defScope s_need_fact_and_lot, [], []⟩
def d_judge_follows : He.DefD := ⟨("judge_follows", none), "judge_follows", "judge_follows", defArgs s_judge_follows, defBody s_judge_follows, defScope s_judge_follows, [], []⟩
def d_do_lead : He.DefD := ⟨("do_lead", none), "do_lead", "do_lead", defArgs s_do_lead, defBody s_do_lead, defScope s_do_lead, [], []⟩
def d_follows_holds : He.DefD := ⟨("follows_holds", none), "follows_holds", "follows_holds", defArgs s_follows_holds, defBody s_follows_holds, defScope s_follows_holds, [], []⟩
def d__law_deck : He.DefD := ⟨("_law_deck", none), "_law_deck", "_law_deck", defArgs s__law_deck, defBody s__law_deck, defScope s__law_deck, [], []⟩
def d__law_draw : He.DefD := ⟨("_law_draw", none), "_law_draw", "_law_draw", defArgs s__law_draw, defBody s__law_draw, defScope s__law_draw, [], []⟩
def d__law_pick : He.DefD := ⟨("_law_pick", none), "_law_pick", "_law_pick", defArgs s__law_pick, defBody s__law_pick, defScope s__law_pick, [], []⟩
def d__law_is_integer : He.DefD := ⟨("_law_is_integer", none), "_law_is_integer", "_law_is_integer", defArgs s__law_is_integer, defBody s__law_is_integer, defScope s__law_is_integer, [], []⟩
def d__law_is_lot : He.DefD := ⟨("_law_is_lot", none), "_law_is_lot", "_law_is_lot", defArgs s__law_is_lot, defBody s__law_is_lot, defScope s__law_is_lot, [], []⟩
def d__law_lot : He.DefD := ⟨("_law_lot", none), "_law_lot", "_law_lot", defArgs s__law_lot, defBody s__law_lot, defScope s__law_lot, [], []⟩
def d__law_rule : He.DefD := ⟨("_law_rule", none), "_law_rule", "_law_rule", defArgs s__law_rule, defBody s__law_rule, defScope s__law_rule, [], []⟩
def d__law_rules : He.DefD := ⟨("_law_rules", none), "_law_rules", "_law_rules", defArgs s__law_rules, defBody s__law_rules, defScope s__law_rules, [], []⟩
def d__law_closure : He.DefD := ⟨("_law_closure", none), "_law_closure", "_law_closure", defArgs s__law_closure, defBody s__law_closure, defScope s__law_closure, [], []⟩
def d__law_order : He.DefD := ⟨("_law_order", none), "_law_order", "_law_order", defArgs s__law_order, defBody s__law_order, defScope s__law_order, [], []⟩
def d__law_is_paper : He.DefD := ⟨("_law_is_paper", none), "_law_is_paper", "_law_is_paper", defArgs s__law_is_paper, defBody s__law_is_paper, defScope s__law_is_paper, [], []⟩
def d__law_is_judged : He.DefD := ⟨("_law_is_judged", none), "_law_is_judged", "_law_is_judged", defArgs s__law_is_judged, defBody s__law_is_judged, defScope s__law_is_judged, [], []⟩
def d__law_carries_over : He.DefD := ⟨("_law_carries_over", none), "_law_carries_over", "_law_carries_over", defArgs s__law_carries_over, defBody s__law_carries_over, defScope s__law_carries_over, [], []⟩
def d_law : He.DefD := ⟨("law", none), "law", "law", defArgs s_law, defBody s_law, defScope s_law, [], []⟩
def fn0 : List He.DefD := [d_is_integer, d_is_between, d_are_between, d_is_word, d_is_ascending, d_is_facts_value, d_is_rule_value, d_are_rules_value, d_has_all, d_steps_from, d_closure_of, d_is_closed_lot]
def fn1 : List He.DefD := [d_need_facts_number, d_need_rules, d_need_lot_of, d_closure, d_need_fact_and_lot, d_judge_follows, d_do_lead, d_follows_holds, d__law_deck, d__law_draw, d__law_pick, d__law_is_integer]
def fn2 : List He.DefD := [d__law_is_lot, d__law_lot, d__law_rule, d__law_rules, d__law_closure, d__law_order, d__law_is_paper, d__law_is_judged, d__law_carries_over, d_law]
abbrev fn : List He.DefD := fn0 ++ fn1 ++ fn2
def fa0 : List He.Fa := [.glo "is_integer", .glo "is_between", .glo "are_between", .glo "is_word", .glo "is_ascending", .glo "is_facts_value", .glo "is_rule_value", .glo "are_rules_value", .glo "has_all", .glo "steps_from", .glo "closure_of", .glo "is_closed_lot"]
def fa1 : List He.Fa := [.glo "need_facts_number", .glo "need_rules", .glo "need_lot_of", .glo "closure", .glo "need_fact_and_lot", .glo "judge_follows", .glo "do_lead", .glo "follows_holds", .glo "_law_deck", .glo "_law_draw", .glo "_law_pick", .glo "_law_is_integer"]
def fa2 : List He.Fa := [.glo "_law_is_lot", .glo "_law_lot", .glo "_law_rule", .glo "_law_rules", .glo "_law_closure", .glo "_law_order", .glo "_law_is_paper", .glo "_law_is_judged", .glo "_law_carries_over", .glo "law", .free "all", .free "bool"]
def fa3 : List He.Fa := [.free "enumerate", .free "int", .free "isinstance", .free "len", .free "list", .free "max", .free "min", .free "range", .free "repr", .free "set", .free "sorted", .free "str"]
def fa4 : List He.Fa := [.free "tuple", .free "zip", .int "MOST_FACTS" 6, .int "MOST_RULES" 8]
abbrev fa : List He.Fa := fa0 ++ fa1 ++ fa2 ++ fa3 ++ fa4
abbrev R : PySem.W.OpenRow := PySem.W.OpenLaw.row PySem.Challenge.rw_bothandall_k02_whole_what_follows
abbrev qv : Program := PySem.W.view R.prog [44]
def loose0 : List PySem.Str := ["is_integer", "is_between", "are_between", "is_word", "is_ascending", "is_facts_value", "is_rule_value", "are_rules_value", "has_all", "steps_from", "closure_of", "is_closed_lot"]
def loose1 : List PySem.Str := ["need_facts_number", "need_rules", "need_lot_of", "closure", "need_fact_and_lot", "judge_follows", "do_lead", "follows_holds", "_law_deck", "_law_draw", "_law_pick", "_law_is_integer"]
def loose2 : List PySem.Str := ["_law_is_lot", "_law_lot", "_law_rule", "_law_rules", "_law_closure", "_law_order", "_law_is_paper", "_law_is_judged", "_law_carries_over", "HouseError", "BadNumber", "BadFacts"]
def loose3 : List PySem.Str := ["BadRules", "MOST_FACTS", "MOST_RULES"]
abbrev loose : List PySem.Str := loose0 ++ loose1 ++ loose2 ++ loose3
theorem keyOk : KeyOk "cells" "draws" := ⟨by decide, by decide, by decide⟩
section
variable {P : Program} {w : World} {K : PySem.W.Frag} {mg : Str → Option Value} {base : Heap} {h : Heap} {T c : Addr}
theorem sc__law_deck : FnScope ["_law_script", "_law_mixed", "_law_cell"] ["_law_script"] (defScope s__law_deck) := ⟨rfl, rfl, rfl, by decide +kernel, rfl, by decide +kernel, by decide +kernel⟩
theorem k__law_deck (X : K.In h) (G : h.Ns mainGlobals mg) (sd : He.SaysD fa fn K) : ∃ fd, FunD K "_law_deck" "_law_deck" (defArgs s__law_deck) (defBody s__law_deck) (defScope s__law_deck) [] [] (He.ga K "_law_deck") fd ∧ FnG P w K mg base 1 (He.ga K "_law_deck") fd ["_law_script"] (spDeck K "cells" "draws") := by
  have m_int : mg "int" = none := He.free_ok X G (sd.fact 37 rfl)
  have m_list : mg "list" = none := He.free_ok X G (sd.fact 40 rfl)
  obtain ⟨fd, F⟩ := sd.def_ 20 (d := d__law_deck) rfl
  refine ⟨fd, F, okGD F sc__law_deck (fun vs H Q E h => ?_) fun cdv A outer s H vs Q E hr h => ⟨tDeckA K "cells" "draws" 10897217 69621 2147483629 63 2147483587, PSs.nox ?_, deck_val keyOk ⟨by decide, by decide⟩ (by decide) (by decide) h⟩⟩
  · obtain ⟨a, ns, rfl, _⟩ := h
    rfl
  · exact pss_cons (ps_set (i := 1) sc__law_deck.nd rfl (.inl rfl) pe_int)
      (pss_cons (ps_for PassesOwn.never rfl (pi_list (pe_slice sl_list (pv 0) po_none (po_some pe_int))) (pg_name (i := 2) sc__law_deck.nd rfl (.inl rfl)) (pss_one (ps_set (i := 1) sc__law_deck.nd rfl (.inl rfl) (pe_op op_mod (pe_callTy call_int1 (by rfl) m_int b_int (pa_cons (pe_op op_add (pe_op op_add (pe_op op_mul (pv 1) pe_int) (pe_op op_mod (pe_callTy call_int1 (by rfl) m_int b_int (pa_cons (pv 2) pa_nil)) pe_int)) pe_int) pa_nil)) pe_int))))
      (pss_one (ps_ret (pe_disp (pps_cons pe_str (pe_revL (pe_callTy call_list_of (by rfl) m_list b_list (pa_cons (pe_slice sl_list (pv 0) po_none (po_some pe_int)) pa_nil))) (pps_cons pe_str (pv 1) (pps_cons pe_str pe_int pps_nil))) rfl rfl (fun z => by cases z) (by show 3 ≤ 15; omega)))))
def b_is_integer : Ss Dk := (retF (andF (mapF isiD (consL (varF 0) (consL (cstF (.ty "int")) nilL))) (notF (mapF isiD (consL (varF 0) (consL (cstF (.ty "bool")) nilL))))))
theorem sc_is_integer : FnScope ["thing"] ["thing"] (defScope s_is_integer) := ⟨rfl, rfl, rfl, by decide +kernel, rfl, by decide +kernel, by decide +kernel⟩
def g_is_integer : List D → Dk → Option (D × Dk) := defN 1 1 b_is_integer
theorem k_is_integer (X : K.In h) (G : h.Ns mainGlobals mg) (sd : He.SaysD fa fn K) : Got P w K mg base (dW "cells" "draws" T c) "is_integer" s_is_integer 1 1 ["thing"] g_is_integer := by
  have m_bool : mg "bool" = none := He.free_ok X G (sd.fact 35 rfl)
  have m_int : mg "int" = none := He.free_ok X G (sd.fact 37 rfl)
  have m_isinstance : mg "isinstance" = none := He.free_ok X G (sd.fact 38 rfl)
  exact got (sd.def_ 0 (d := d_is_integer) rfl) (He.glo_ok X G (sd.fact 0 (f := .glo "is_integer") rfl)) sc_is_integer rfl (by decide) fun f cdv A outer s H E hr => by
    unfold b_is_integer
    exact (sss_one (ss_ret (se_and (se_cB cv_isi (by rfl) m_isinstance b_isinstance (sl_cons (ev 0) (sl_cons (se_ty (by rfl) m_int b_int (by decide) (by decide)) sl_nil rfl) rfl) (by decide) (by decide) rfl rfl) (eOne (se_not (se_cB cv_isi (by rfl) m_isinstance b_isinstance (sl_cons (ev 0) (sl_cons (se_ty (by rfl) m_bool b_bool (by decide) (by decide)) sl_nil rfl) rfl) (by decide) (by decide) rfl rfl))))))
def b_is_between : Ss Dk := (retF (andF (callF g_is_integer (consL (varF 0) nilL)) (chainF leD leD (varF 1) (varF 0) (varF 2))))
theorem sc_is_between : FnScope ["thing", "least", "most"] ["thing", "least", "most"] (defScope s_is_between) := ⟨rfl, rfl, rfl, by decide +kernel, rfl, by decide +kernel, by decide +kernel⟩
def g_is_between : List D → Dk → Option (D × Dk) := defN 3 3 b_is_between
theorem k_is_between (X : K.In h) (G : h.Ns mainGlobals mg) (sd : He.SaysD fa fn K) : Got P w K mg base (dW "cells" "draws" T c) "is_between" s_is_between 2 3 ["thing", "least", "most"] g_is_between := by
  have o_is_integer := k_is_integer (P := P) (w := w) (base := base) (T := T) (c := c) X G sd
  exact got (sd.def_ 1 (d := d_is_between) rfl) (He.glo_ok X G (sd.fact 1 (f := .glo "is_between") rfl)) sc_is_between rfl (by decide) fun f cdv A outer s H E hr => by
    unfold b_is_between
    exact (sss_one (ss_ret (se_and (callD o_is_integer (hr.mono (by decide)) (by rfl) (fun _ _ _ _ _ _ us hl => match us, hl with | [_], _ => rfl) (sl_cons (ev 0) sl_nil rfl) (by decide) rfl rfl) (eOne (se_ch ov_le ov_le (ev 1) (ev 0) (ev 2) rfl)))))
def q1_are_between : Ev Dk := compF [3] (itemsF (varF 0)) (putV 3) yesB (callF g_is_between (consL (varF 3) (consL (varF 1) (consL (varF 2) nilL))))
def b_are_between : Ss Dk := (retF (andF (mapF isiD (consL (varF 0) (consL (cstF (.ty "tuple")) nilL))) (mapF allD (consL q1_are_between nilL))))
theorem sc_are_between : FnScope ["thing", "least", "most", "part"] ["thing", "least", "most"] (defScope s_are_between) := ⟨rfl, rfl, rfl, by decide +kernel, rfl, by decide +kernel, by decide +kernel⟩
def g_are_between : List D → Dk → Option (D × Dk) := defN 3 4 b_are_between
theorem k_are_between (X : K.In h) (G : h.Ns mainGlobals mg) (sd : He.SaysD fa fn K) : Got P w K mg base (dW "cells" "draws" T c) "are_between" s_are_between 3 3 ["thing", "least", "most"] g_are_between := by
  have o_is_between := k_is_between (P := P) (w := w) (base := base) (T := T) (c := c) X G sd
  have m_all : mg "all" = none := He.free_ok X G (sd.fact 34 rfl)
  have m_isinstance : mg "isinstance" = none := He.free_ok X G (sd.fact 38 rfl)
  have m_tuple : mg "tuple" = none := He.free_ok X G (sd.fact 48 rfl)
  exact got (sd.def_ 2 (d := d_are_between) rfl) (He.glo_ok X G (sd.fact 2 (f := .glo "are_between") rfl)) sc_are_between rfl (by decide) fun f cdv A outer s H E hr => by
    unfold b_are_between
    exact (sss_one (ss_ret (se_and (se_cB cv_isi (by rfl) m_isinstance b_isinstance (sl_cons (ev 0) (sl_cons (se_ty (by rfl) m_tuple b_tuple (by decide) (by decide)) sl_nil rfl) rfl) (by decide) (by decide) rfl rfl) (eOne (se_cB (cv_all rfl) (by rfl) m_all b_all (sl_cons (se_comp (own := [("part", 3)]) rfl sc_are_between.nd (si_val (ev 0)) (blkOk_by rfl) (fun _ _ _ _ _ => (sg_name (i := 3) sc_are_between.nd rfl (by first | exact Or.inl rfl | exact Or.inr rfl) (by first | exact Or.inl rfl | exact Or.inr rfl))) (by decide) (fun _ _ _ _ _ => sbs_nil) (fun _ _ _ _ _ => (callD o_is_between (hr.mono (by decide)) (by rfl) (fun _ _ _ _ _ _ us hl => match us, hl with | [_, _, _], _ => rfl) (sl_cons (ev 3) (sl_cons (ev 1) (sl_cons (ev 2) sl_nil rfl) rfl) rfl) (by decide) rfl rfl)) (fun _ => rfl)) sl_nil rfl) (by decide) (by decide) rfl rfl)))))
def b_is_word : Ss Dk := (retF (andF (mapF isiD (consL (varF 0) (consL (cstF (.ty "tuple")) nilL))) (andF (binF gtD (mapF lenD (consL (varF 0) nilL)) (cstF (.int 0))) (andF (mapF isiD (consL (binF ixD (varF 0) (cstF (.int 0))) (consL (cstF (.ty "str")) nilL))) (binF eqD (binF ixD (varF 0) (cstF (.int 0))) (varF 1))))))
theorem sc_is_word : FnScope ["thing", "word"] ["thing", "word"] (defScope s_is_word) := ⟨rfl, rfl, rfl, by decide +kernel, rfl, by decide +kernel, by decide +kernel⟩
def g_is_word : List D → Dk → Option (D × Dk) := defN 2 2 b_is_word
theorem k_is_word (X : K.In h) (G : h.Ns mainGlobals mg) (sd : He.SaysD fa fn K) : Got P w K mg base (dW "cells" "draws" T c) "is_word" s_is_word 1 2 ["thing", "word"] g_is_word := by
  have m_isinstance : mg "isinstance" = none := He.free_ok X G (sd.fact 38 rfl)
  have m_len : mg "len" = none := He.free_ok X G (sd.fact 39 rfl)
  have m_str : mg "str" = none := He.free_ok X G (sd.fact 47 rfl)
  have m_tuple : mg "tuple" = none := He.free_ok X G (sd.fact 48 rfl)
  exact got (sd.def_ 3 (d := d_is_word) rfl) (He.glo_ok X G (sd.fact 3 (f := .glo "is_word") rfl)) sc_is_word rfl (by decide) fun f cdv A outer s H E hr => by
    unfold b_is_word
    exact (sss_one (ss_ret (se_and (se_cB cv_isi (by rfl) m_isinstance b_isinstance (sl_cons (ev 0) (sl_cons (se_ty (by rfl) m_tuple b_tuple (by decide) (by decide)) sl_nil rfl) rfl) (by decide) (by decide) rfl rfl) (se_and (se_cm ov_gt (se_cB cv_len (by rfl) m_len b_len (sl_cons (ev 0) sl_nil rfl) (by decide) (by decide) rfl rfl) eInt (nomark _)) (se_and (se_cB cv_isi (by rfl) m_isinstance b_isinstance (sl_cons (se_at (ev 0) eInt (fun _ _ => rfl)) (sl_cons (se_ty (by rfl) m_str b_str (by decide) (by decide)) sl_nil rfl) rfl) (by decide) (by decide) rfl rfl) (eOne (se_cm (ov_eq hr.hu0) (se_at (ev 0) eInt (fun _ _ => rfl)) (ev 1) (nomark _))))))))
def q1_is_ascending : Ev Dk := compF [1, 2] (zipL (consL (varF 0) (consL (sliceF (varF 0) (someO (cstF (.int 1))) noO) nilL))) (tupG 2 (consG (putV 1) (consG (putV 2) nilG))) yesB (binF ltD (varF 1) (varF 2))
def b_is_ascending : Ss Dk := (retF (mapF allD (consL q1_is_ascending nilL)))
theorem sc_is_ascending : FnScope ["some", "one", "other"] ["some"] (defScope s_is_ascending) := ⟨rfl, rfl, rfl, by decide +kernel, rfl, by decide +kernel, by decide +kernel⟩
def g_is_ascending : List D → Dk → Option (D × Dk) := defN 1 3 b_is_ascending
theorem k_is_ascending (X : K.In h) (G : h.Ns mainGlobals mg) (sd : He.SaysD fa fn K) : Got P w K mg base (dW "cells" "draws" T c) "is_ascending" s_is_ascending 1 1 ["some"] g_is_ascending := by
  have m_all : mg "all" = none := He.free_ok X G (sd.fact 34 rfl)
  have m_zip : mg "zip" = none := He.free_ok X G (sd.fact 49 rfl)
  exact got (sd.def_ 4 (d := d_is_ascending) rfl) (He.glo_ok X G (sd.fact 4 (f := .glo "is_ascending") rfl)) sc_is_ascending rfl (by decide) fun f cdv A outer s H E hr => by
    unfold b_is_ascending
    exact (sss_one (ss_ret (se_cB (cv_all rfl) (by rfl) m_all b_all (sl_cons (se_comp (own := [("one", 1), ("other", 2)]) rfl sc_is_ascending.nd (si_zip (by rfl) m_zip (sl_cons (ev 0) (sl_cons (se_slice (ev 0) (so_some eInt) so_none) sl_nil rfl) rfl) rfl rfl) (blkOk_by rfl) (fun _ _ _ _ _ => (sg_tup rfl (sgs_cons (sg_name (i := 1) sc_is_ascending.nd rfl (by first | exact Or.inl rfl | exact Or.inr rfl) (by first | exact Or.inl rfl | exact Or.inr rfl)) (sgs_cons (sg_name (i := 2) sc_is_ascending.nd rfl (by first | exact Or.inl rfl | exact Or.inr rfl) (by first | exact Or.inl rfl | exact Or.inr rfl)) sgs_nil rfl) rfl) rfl rfl)) (by decide) (fun _ _ _ _ _ => sbs_nil) (fun _ _ _ _ _ => (se_cm ov_lt (ev 1) (ev 2) (nomark _))) (fun _ => rfl)) sl_nil rfl) (by decide) (by decide) rfl rfl)))
def b_is_facts_value : Ss Dk := (retF (andF (callF g_are_between (consL (varF 1) (consL (cstF (.int 0)) (consL (binF subD (varF 0) (cstF (.int 1))) nilL)))) (callF g_is_ascending (consL (varF 1) nilL))))
theorem sc_is_facts_value : FnScope ["m", "thing"] ["m", "thing"] (defScope s_is_facts_value) := ⟨rfl, rfl, rfl, by decide +kernel, rfl, by decide +kernel, by decide +kernel⟩
def g_is_facts_value : List D → Dk → Option (D × Dk) := defN 2 2 b_is_facts_value
theorem k_is_facts_value (X : K.In h) (G : h.Ns mainGlobals mg) (sd : He.SaysD fa fn K) : Got P w K mg base (dW "cells" "draws" T c) "is_facts_value" s_is_facts_value 4 2 ["m", "thing"] g_is_facts_value := by
  have o_are_between := k_are_between (P := P) (w := w) (base := base) (T := T) (c := c) X G sd
  have o_is_ascending := k_is_ascending (P := P) (w := w) (base := base) (T := T) (c := c) X G sd
  exact got (sd.def_ 5 (d := d_is_facts_value) rfl) (He.glo_ok X G (sd.fact 5 (f := .glo "is_facts_value") rfl)) sc_is_facts_value rfl (by decide) fun f cdv A outer s H E hr => by
    unfold b_is_facts_value
    exact (sss_one (ss_ret (se_and (callD o_are_between (hr.mono (by decide)) (by rfl) (fun _ _ _ _ _ _ us hl => match us, hl with | [_, _, _], _ => rfl) (sl_cons (ev 1) (sl_cons eInt (sl_cons (se_op ov_sub (ev 0) eInt) sl_nil rfl) rfl) rfl) (by decide) rfl rfl) (eOne (callD o_is_ascending (hr.mono (by decide)) (by rfl) (fun _ _ _ _ _ _ us hl => match us, hl with | [_], _ => rfl) (sl_cons (ev 1) sl_nil rfl) (by decide) rfl rfl)))))
def b_is_rule_value : Ss Dk := (seqF (ifF (orB (notB (truF (mapF isiD (consL (varF 1) (consL (cstF (.ty "tuple")) nilL))))) (orB (truF (binF neD (mapF lenD (consL (varF 1) nilL)) (cstF (.int 2)))) (notB (truF (callF g_is_facts_value (consL (varF 0) (consL (binF ixD (varF 1) (cstF (.int 0))) nilL))))))) (retF (cstF (.bl false))) skipF) (retF (andF (callF g_is_between (consL (binF ixD (varF 1) (cstF (.int 1))) (consL (cstF (.int 0)) (consL (binF subD (varF 0) (cstF (.int 1))) nilL)))) (binF ninD (binF ixD (varF 1) (cstF (.int 1))) (binF ixD (varF 1) (cstF (.int 0)))))))
theorem sc_is_rule_value : FnScope ["m", "thing"] ["m", "thing"] (defScope s_is_rule_value) := ⟨rfl, rfl, rfl, by decide +kernel, rfl, by decide +kernel, by decide +kernel⟩
def g_is_rule_value : List D → Dk → Option (D × Dk) := defN 2 2 b_is_rule_value
theorem k_is_rule_value (X : K.In h) (G : h.Ns mainGlobals mg) (sd : He.SaysD fa fn K) : Got P w K mg base (dW "cells" "draws" T c) "is_rule_value" s_is_rule_value 5 2 ["m", "thing"] g_is_rule_value := by
  have o_is_between := k_is_between (P := P) (w := w) (base := base) (T := T) (c := c) X G sd
  have o_is_facts_value := k_is_facts_value (P := P) (w := w) (base := base) (T := T) (c := c) X G sd
  have m_isinstance : mg "isinstance" = none := He.free_ok X G (sd.fact 38 rfl)
  have m_len : mg "len" = none := He.free_ok X G (sd.fact 39 rfl)
  have m_tuple : mg "tuple" = none := He.free_ok X G (sd.fact 48 rfl)
  exact got (sd.def_ 6 (d := d_is_rule_value) rfl) (He.glo_ok X G (sd.fact 6 (f := .glo "is_rule_value") rfl)) sc_is_rule_value rfl (by decide) fun f cdv A outer s H E hr => by
    unfold b_is_rule_value
    exact (sss_cons (ss_if (L2.PW.pt (sb_or (sb_not (sb_val (se_cB cv_isi (by rfl) m_isinstance b_isinstance (sl_cons (ev 1) (sl_cons (se_ty (by rfl) m_tuple b_tuple (by decide) (by decide)) sl_nil rfl) rfl) (by decide) (by decide) rfl rfl) (fun _ => rfl))) (sb_or (sb_cm (ov_ne hr.hu0) isB_ne (se_cB cv_len (by rfl) m_len b_len (sl_cons (ev 1) sl_nil rfl) (by decide) (by decide) rfl rfl) eInt (nomark _)) (pw_or1 (sb_not (sb_val (callD o_is_facts_value (hr.mono (by decide)) (by rfl) (fun _ _ _ _ _ _ us hl => match us, hl with | [_, _], _ => rfl) (sl_cons (ev 0) (sl_cons (se_at (ev 1) eInt (fun _ _ => rfl)) sl_nil rfl) rfl) (by decide) rfl rfl) (fun _ => rfl))))))) (sss_one (ss_ret eBl)) sss_nil) (sss_one (ss_ret (se_and (callD o_is_between (hr.mono (by decide)) (by rfl) (fun _ _ _ _ _ _ us hl => match us, hl with | [_, _, _], _ => rfl) (sl_cons (se_at (ev 1) eInt (fun _ _ => rfl)) (sl_cons eInt (sl_cons (se_op ov_sub (ev 0) eInt) sl_nil rfl) rfl) rfl) (by decide) rfl rfl) (eOne (se_cm (ov_nin hr.hu) (se_at (ev 1) eInt (fun _ _ => rfl)) (se_at (ev 1) eInt (fun _ _ => rfl)) rfl))))))
def q1_are_rules_value : Ev Dk := compF [2] (itemsF (varF 1)) (putV 2) yesB (callF g_is_rule_value (consL (varF 0) (consL (varF 2) nilL)))
def b_are_rules_value : Ss Dk := (retF (andF (mapF isiD (consL (varF 1) (consL (cstF (.ty "tuple")) nilL))) (andF (binF leD (mapF lenD (consL (varF 1) nilL)) (cstF (.int 8))) (mapF allD (consL q1_are_rules_value nilL)))))
theorem sc_are_rules_value : FnScope ["m", "thing", "rule"] ["m", "thing"] (defScope s_are_rules_value) := ⟨rfl, rfl, rfl, by decide +kernel, rfl, by decide +kernel, by decide +kernel⟩
def g_are_rules_value : List D → Dk → Option (D × Dk) := defN 2 3 b_are_rules_value
theorem k_are_rules_value (X : K.In h) (G : h.Ns mainGlobals mg) (sd : He.SaysD fa fn K) : Got P w K mg base (dW "cells" "draws" T c) "are_rules_value" s_are_rules_value 6 2 ["m", "thing"] g_are_rules_value := by
  have o_is_rule_value := k_is_rule_value (P := P) (w := w) (base := base) (T := T) (c := c) X G sd
  have m_all : mg "all" = none := He.free_ok X G (sd.fact 34 rfl)
  have m_isinstance : mg "isinstance" = none := He.free_ok X G (sd.fact 38 rfl)
  have m_len : mg "len" = none := He.free_ok X G (sd.fact 39 rfl)
  have m_tuple : mg "tuple" = none := He.free_ok X G (sd.fact 48 rfl)
  have c_MOST_RULES : ∃ t, mg "MOST_RULES" = some (.int 8 t) := He.int_ok X G (sd.fact 51 rfl)
  exact got (sd.def_ 7 (d := d_are_rules_value) rfl) (He.glo_ok X G (sd.fact 7 (f := .glo "are_rules_value") rfl)) sc_are_rules_value rfl (by decide) fun f cdv A outer s H E hr => by
    unfold b_are_rules_value
    exact (sss_one (ss_ret (se_and (se_cB cv_isi (by rfl) m_isinstance b_isinstance (sl_cons (ev 1) (sl_cons (se_ty (by rfl) m_tuple b_tuple (by decide) (by decide)) sl_nil rfl) rfl) (by decide) (by decide) rfl rfl) (se_and (se_cm ov_le (se_cB cv_len (by rfl) m_len b_len (sl_cons (ev 1) sl_nil rfl) (by decide) (by decide) rfl rfl) (eGlo (by rfl) c_MOST_RULES (by decide)) (nomark _)) (eOne (se_cB (cv_all rfl) (by rfl) m_all b_all (sl_cons (se_comp (own := [("rule", 2)]) rfl sc_are_rules_value.nd (si_val (ev 1)) (blkOk_by rfl) (fun _ _ _ _ _ => (sg_name (i := 2) sc_are_rules_value.nd rfl (by first | exact Or.inl rfl | exact Or.inr rfl) (by first | exact Or.inl rfl | exact Or.inr rfl))) (by decide) (fun _ _ _ _ _ => sbs_nil) (fun _ _ _ _ _ => (callD o_is_rule_value (hr.mono (by decide)) (by rfl) (fun _ _ _ _ _ _ us hl => match us, hl with | [_, _], _ => rfl) (sl_cons (ev 0) (sl_cons (ev 2) sl_nil rfl) rfl) (by decide) rfl rfl)) (fun _ => rfl)) sl_nil rfl) (by decide) (by decide) rfl rfl))))))
def q1_has_all : Ev Dk := compF [2] (itemsF (varF 1)) (putV 2) yesB (binF inD (varF 2) (varF 0))
def b_has_all : Ss Dk := (retF (mapF allD (consL q1_has_all nilL)))
theorem sc_has_all : FnScope ["lot", "others", "fact"] ["lot", "others"] (defScope s_has_all) := ⟨rfl, rfl, rfl, by decide +kernel, rfl, by decide +kernel, by decide +kernel⟩
def g_has_all : List D → Dk → Option (D × Dk) := defN 2 3 b_has_all
theorem k_has_all (X : K.In h) (G : h.Ns mainGlobals mg) (sd : He.SaysD fa fn K) : Got P w K mg base (dW "cells" "draws" T c) "has_all" s_has_all 1 2 ["lot", "others"] g_has_all := by
  have m_all : mg "all" = none := He.free_ok X G (sd.fact 34 rfl)
  exact got (sd.def_ 8 (d := d_has_all) rfl) (He.glo_ok X G (sd.fact 8 (f := .glo "has_all") rfl)) sc_has_all rfl (by decide) fun f cdv A outer s H E hr => by
    unfold b_has_all
    exact (sss_one (ss_ret (se_cB (cv_all rfl) (by rfl) m_all b_all (sl_cons (se_comp (own := [("fact", 2)]) rfl sc_has_all.nd (si_val (ev 1)) (blkOk_by rfl) (fun _ _ _ _ _ => (sg_name (i := 2) sc_has_all.nd rfl (by first | exact Or.inl rfl | exact Or.inr rfl) (by first | exact Or.inl rfl | exact Or.inr rfl))) (by decide) (fun _ _ _ _ _ => sbs_nil) (fun _ _ _ _ _ => (se_cm (ov_in hr.hu) (ev 2) (ev 0) rfl)) (fun _ => rfl)) sl_nil rfl) (by decide) (by decide) rfl rfl)))
def bd1_steps_from : Ss Dk := (ifF (andB (truF (binF ninD (varF 7) (varF 2))) (truF (thawF (callF g_has_all (consL (varF 2) (consL (varF 6) nilL)))))) (seqF (exprF (thawF (appendF 2 (consL (varF 7) nilL)))) (seqF (exprF (thawF (appendF 3 (consL (varF 5) nilL)))) (setF false 4 (cstF (.bl true))))) skipF)
def lp1_steps_from : Ss Dk := forF (tupG 2 (consG (putV 5) (consG (tupG 2 (consG (putV 6) (consG (putV 7) nilG))) nilG))) (enumL (consL (varF 0) nilL)) bd1_steps_from
def wb1_steps_from : Ss Dk := (seqF (setF false 4 (cstF (.bl false))) lp1_steps_from)
def wh1_steps_from : Ss Dk := whileF 1000 (truF (varF 4)) wb1_steps_from
def b_steps_from : Ss Dk := (seqF (parF [2, 3, 4] (consI true (mapF listD (consL (varF 1) nilL)) (consI true (mapF dispL nilL) (consI false (cstF (.bl true)) nilI)))) (seqF wh1_steps_from (retF (mapF dispT (consL (varF 3) (consL (varF 2) nilL))))))
theorem sc_steps_from : FnScope ["rules", "lot", "there", "steps", "is_new", "number", "ifs", "fact"] ["rules", "lot"] (defScope s_steps_from) := ⟨rfl, rfl, rfl, by decide +kernel, rfl, by decide +kernel, by decide +kernel⟩
def g_steps_from : List D → Dk → Option (D × Dk) := defN 2 8 b_steps_from
theorem k_steps_from (X : K.In h) (G : h.Ns mainGlobals mg) (sd : He.SaysD fa fn K) : Got P w K mg base (dW "cells" "draws" T c) "steps_from" s_steps_from 2 2 ["rules", "lot"] g_steps_from := by
  have o_has_all := k_has_all (P := P) (w := w) (base := base) (T := T) (c := c) X G sd
  have m_enumerate : mg "enumerate" = none := He.free_ok X G (sd.fact 36 rfl)
  have m_list : mg "list" = none := He.free_ok X G (sd.fact 40 rfl)
  exact got (sd.def_ 9 (d := d_steps_from) rfl) (He.glo_ok X G (sd.fact 9 (f := .glo "steps_from") rfl)) sc_steps_from rfl (by decide) fun f cdv A outer s H E hr => by
    unfold b_steps_from
    exact (sss_cons (ss_par3 (i := 2) (j := 3) (l := 4) rfl sc_steps_from.nd rfl rfl rfl (by decide) (by decide) (by decide) rfl rfl rfl (sli_cons (se_cT cv_list (by rfl) m_list b_list (sl_cons (ev 1) sl_nil rfl) (by decide) (by decide) rfl rfl) (sli_cons (se_lst sl_nil) (sli_cons eBl sli_nil rfl) rfl) rfl) rfl rfl) (sss_cons (ss_while PassesOwn.never (sb_val (ev 4) (fun _ => rfl)) (sss_cons (ss_set (i := 4) sc_steps_from.nd rfl (by first | exact Or.inl rfl | exact Or.inr rfl) eBl rfl (by first | exact Or.inl rfl | exact Or.inr rfl)) (sss_one (ss_for PassesOwn.never rfl (si_enum (by rfl) m_enumerate (sl_cons (ev 0) sl_nil rfl) rfl) (sg_tup rfl (sgs_cons (sg_name (i := 5) sc_steps_from.nd rfl (by first | exact Or.inl rfl | exact Or.inr rfl) (by first | exact Or.inl rfl | exact Or.inr rfl)) (sgs_cons (sg_tup rfl (sgs_cons (sg_name (i := 6) sc_steps_from.nd rfl (by first | exact Or.inl rfl | exact Or.inr rfl) (by first | exact Or.inl rfl | exact Or.inr rfl)) (sgs_cons (sg_name (i := 7) sc_steps_from.nd rfl (by first | exact Or.inl rfl | exact Or.inr rfl) (by first | exact Or.inl rfl | exact Or.inr rfl)) sgs_nil rfl) rfl) rfl rfl) sgs_nil rfl) rfl) rfl rfl) (sss_one (ss_if (L2.PW.pt (sb_and (sb_cm (ov_nin hr.hu) isB_nin (ev 7) (ev 2) rfl) (pw_and1 (sb_val (se_thaw (callD o_has_all (hr.mono (by decide)) (by rfl) (fun _ _ _ _ _ _ us hl => match us, hl with | [_, _], _ => rfl) (sl_cons (ev 2) (sl_cons (ev 6) sl_nil rfl) rfl) (by decide) rfl rfl)) (fun _ => rfl))))) (sss_cons (ss_expr (se_thaw (se_append (pv 2) (sl_cons (ev 7) sl_nil rfl) rfl rfl rfl rfl)) rfl) (sss_cons (ss_expr (se_thaw (se_append (pv 3) (sl_cons (ev 5) sl_nil rfl) rfl rfl rfl rfl)) rfl) (sss_one (ss_set (i := 4) sc_steps_from.nd rfl (by first | exact Or.inl rfl | exact Or.inr rfl) eBl rfl (by first | exact Or.inl rfl | exact Or.inr rfl))))) sss_nil)) (fun _ => rfl))))) (sss_one (ss_ret (se_tup (sl_cons (ev 3) (sl_cons (ev 2) sl_nil rfl) rfl))))))
def b_closure_of : Ss Dk := (retF (mapF tupleD (consL (mapF sortD (consL (binF ixD (callF g_steps_from (consL (varF 0) (consL (varF 1) nilL))) (cstF (.int 1))) nilL)) nilL)))
theorem sc_closure_of : FnScope ["rules", "lot"] ["rules", "lot"] (defScope s_closure_of) := ⟨rfl, rfl, rfl, by decide +kernel, rfl, by decide +kernel, by decide +kernel⟩
def g_closure_of : List D → Dk → Option (D × Dk) := defN 2 2 b_closure_of
theorem k_closure_of (X : K.In h) (G : h.Ns mainGlobals mg) (sd : He.SaysD fa fn K) : Got P w K mg base (dW "cells" "draws" T c) "closure_of" s_closure_of 3 2 ["rules", "lot"] g_closure_of := by
  have o_steps_from := k_steps_from (P := P) (w := w) (base := base) (T := T) (c := c) X G sd
  have m_sorted : mg "sorted" = none := He.free_ok X G (sd.fact 46 rfl)
  have m_tuple : mg "tuple" = none := He.free_ok X G (sd.fact 48 rfl)
  exact got (sd.def_ 10 (d := d_closure_of) rfl) (He.glo_ok X G (sd.fact 10 (f := .glo "closure_of") rfl)) sc_closure_of rfl (by decide) fun f cdv A outer s H E hr => by
    unfold b_closure_of
    exact (sss_one (ss_ret (se_cT cv_tuple (by rfl) m_tuple b_tuple (sl_cons (se_cB (cv_sorted hr.hu0) (by rfl) m_sorted b_sorted (sl_cons (se_at (callD o_steps_from (hr.mono (by decide)) (by rfl) (fun _ _ _ _ _ _ us hl => match us, hl with | [_, _], _ => rfl) (sl_cons (ev 0) (sl_cons (ev 1) sl_nil rfl) rfl) (by decide) rfl rfl) eInt (fun _ _ => rfl)) sl_nil rfl) (by decide) (by decide) rfl rfl) sl_nil rfl) (by decide) (by decide) rfl rfl)))
def q1_is_closed_lot : Ev Dk := compF [2, 3] (itemsF (varF 0)) (tupG 2 (consG (putV 2) (consG (putV 3) nilG))) yesB (orF (binF inD (varF 3) (varF 1)) (notF (callF g_has_all (consL (varF 1) (consL (varF 2) nilL)))))
def b_is_closed_lot : Ss Dk := (retF (mapF allD (consL q1_is_closed_lot nilL)))
theorem sc_is_closed_lot : FnScope ["rules", "lot", "ifs", "fact"] ["rules", "lot"] (defScope s_is_closed_lot) := ⟨rfl, rfl, rfl, by decide +kernel, rfl, by decide +kernel, by decide +kernel⟩
def g_is_closed_lot : List D → Dk → Option (D × Dk) := defN 2 4 b_is_closed_lot
theorem k_is_closed_lot (X : K.In h) (G : h.Ns mainGlobals mg) (sd : He.SaysD fa fn K) : Got P w K mg base (dW "cells" "draws" T c) "is_closed_lot" s_is_closed_lot 2 2 ["rules", "lot"] g_is_closed_lot := by
  have o_has_all := k_has_all (P := P) (w := w) (base := base) (T := T) (c := c) X G sd
  have m_all : mg "all" = none := He.free_ok X G (sd.fact 34 rfl)
  exact got (sd.def_ 11 (d := d_is_closed_lot) rfl) (He.glo_ok X G (sd.fact 11 (f := .glo "is_closed_lot") rfl)) sc_is_closed_lot rfl (by decide) fun f cdv A outer s H E hr => by
    unfold b_is_closed_lot
    exact (sss_one (ss_ret (se_cB (cv_all rfl) (by rfl) m_all b_all (sl_cons (se_comp (own := [("ifs", 2), ("fact", 3)]) rfl sc_is_closed_lot.nd (si_val (ev 0)) (blkOk_by rfl) (fun _ _ _ _ _ => (sg_tup rfl (sgs_cons (sg_name (i := 2) sc_is_closed_lot.nd rfl (by first | exact Or.inl rfl | exact Or.inr rfl) (by first | exact Or.inl rfl | exact Or.inr rfl)) (sgs_cons (sg_name (i := 3) sc_is_closed_lot.nd rfl (by first | exact Or.inl rfl | exact Or.inr rfl) (by first | exact Or.inl rfl | exact Or.inr rfl)) sgs_nil rfl) rfl) rfl rfl)) (by decide) (fun _ _ _ _ _ => sbs_nil) (fun _ _ _ _ _ => (se_or (se_cm (ov_in hr.hu) (ev 3) (ev 1) rfl) (eOne (se_not (callD o_has_all (hr.mono (by decide)) (by rfl) (fun _ _ _ _ _ _ us hl => match us, hl with | [_, _], _ => rfl) (sl_cons (ev 1) (sl_cons (ev 2) sl_nil rfl) rfl) (by decide) rfl rfl))))) (fun _ => rfl)) sl_nil rfl) (by decide) (by decide) rfl rfl)))
def b_need_facts_number : Ss Dk := (ifF (notB (truF (callF g_is_between (consL (varF 0) (consL (cstF (.int 1)) (consL (cstF (.int 6)) nilL)))))) nevF skipF)
theorem sc_need_facts_number : FnScope ["m"] ["m"] (defScope s_need_facts_number) := ⟨rfl, rfl, rfl, by decide +kernel, rfl, by decide +kernel, by decide +kernel⟩
def g_need_facts_number : List D → Dk → Option (D × Dk) := defN 1 1 b_need_facts_number
theorem k_need_facts_number (X : K.In h) (G : h.Ns mainGlobals mg) (sd : He.SaysD fa fn K) : Got P w K mg base (dW "cells" "draws" T c) "need_facts_number" s_need_facts_number 3 1 ["m"] g_need_facts_number := by
  have o_is_between := k_is_between (P := P) (w := w) (base := base) (T := T) (c := c) X G sd
  have c_MOST_FACTS : ∃ t, mg "MOST_FACTS" = some (.int 6 t) := He.int_ok X G (sd.fact 50 rfl)
  exact got (sd.def_ 12 (d := d_need_facts_number) rfl) (He.glo_ok X G (sd.fact 12 (f := .glo "need_facts_number") rfl)) sc_need_facts_number rfl (by decide) fun f cdv A outer s H E hr => by
    unfold b_need_facts_number
    exact (sss_one (ss_if (sb_not (sb_val (callD o_is_between (hr.mono (by decide)) (by rfl) (fun _ _ _ _ _ _ us hl => match us, hl with | [_, _, _], _ => rfl) (sl_cons (ev 0) (sl_cons eInt (sl_cons (eGlo (by rfl) c_MOST_FACTS (by decide)) sl_nil rfl) rfl) rfl) (by decide) rfl rfl) (fun _ => rfl))) (sss_one ss_never) sss_nil))
def b_need_rules : Ss Dk := (seqF (exprF (callF g_need_facts_number (consL (varF 0) nilL))) (ifF (notB (truF (callF g_are_rules_value (consL (varF 0) (consL (varF 1) nilL))))) nevF skipF))
theorem sc_need_rules : FnScope ["m", "rules"] ["m", "rules"] (defScope s_need_rules) := ⟨rfl, rfl, rfl, by decide +kernel, rfl, by decide +kernel, by decide +kernel⟩
def g_need_rules : List D → Dk → Option (D × Dk) := defN 2 2 b_need_rules
theorem k_need_rules (X : K.In h) (G : h.Ns mainGlobals mg) (sd : He.SaysD fa fn K) : Got P w K mg base (dW "cells" "draws" T c) "need_rules" s_need_rules 7 2 ["m", "rules"] g_need_rules := by
  have o_are_rules_value := k_are_rules_value (P := P) (w := w) (base := base) (T := T) (c := c) X G sd
  have o_need_facts_number := k_need_facts_number (P := P) (w := w) (base := base) (T := T) (c := c) X G sd
  exact got (sd.def_ 13 (d := d_need_rules) rfl) (He.glo_ok X G (sd.fact 13 (f := .glo "need_rules") rfl)) sc_need_rules rfl (by decide) fun f cdv A outer s H E hr => by
    unfold b_need_rules
    exact (sss_cons (ss_expr (callD o_need_facts_number (hr.mono (by decide)) (by rfl) (fun _ _ _ _ _ _ us hl => match us, hl with | [_], _ => rfl) (sl_cons (ev 0) sl_nil rfl) (by decide) rfl rfl) rfl) (sss_one (ss_if (sb_not (sb_val (callD o_are_rules_value (hr.mono (by decide)) (by rfl) (fun _ _ _ _ _ _ us hl => match us, hl with | [_, _], _ => rfl) (sl_cons (ev 0) (sl_cons (ev 1) sl_nil rfl) rfl) (by decide) rfl rfl) (fun _ => rfl))) (sss_one ss_never) sss_nil)))
def b_need_lot_of : Ss Dk := (seqF (exprF (callF g_need_rules (consL (varF 0) (consL (varF 1) nilL)))) (ifF (notB (truF (callF g_is_facts_value (consL (varF 0) (consL (varF 2) nilL))))) nevF skipF))
theorem sc_need_lot_of : FnScope ["m", "rules", "lot"] ["m", "rules", "lot"] (defScope s_need_lot_of) := ⟨rfl, rfl, rfl, by decide +kernel, rfl, by decide +kernel, by decide +kernel⟩
def g_need_lot_of : List D → Dk → Option (D × Dk) := defN 3 3 b_need_lot_of
theorem k_need_lot_of (X : K.In h) (G : h.Ns mainGlobals mg) (sd : He.SaysD fa fn K) : Got P w K mg base (dW "cells" "draws" T c) "need_lot_of" s_need_lot_of 8 3 ["m", "rules", "lot"] g_need_lot_of := by
  have o_is_facts_value := k_is_facts_value (P := P) (w := w) (base := base) (T := T) (c := c) X G sd
  have o_need_rules := k_need_rules (P := P) (w := w) (base := base) (T := T) (c := c) X G sd
  exact got (sd.def_ 14 (d := d_need_lot_of) rfl) (He.glo_ok X G (sd.fact 14 (f := .glo "need_lot_of") rfl)) sc_need_lot_of rfl (by decide) fun f cdv A outer s H E hr => by
    unfold b_need_lot_of
    exact (sss_cons (ss_expr (callD o_need_rules (hr.mono (by decide)) (by rfl) (fun _ _ _ _ _ _ us hl => match us, hl with | [_, _], _ => rfl) (sl_cons (ev 0) (sl_cons (ev 1) sl_nil rfl) rfl) (by decide) rfl rfl) rfl) (sss_one (ss_if (sb_not (sb_val (callD o_is_facts_value (hr.mono (by decide)) (by rfl) (fun _ _ _ _ _ _ us hl => match us, hl with | [_, _], _ => rfl) (sl_cons (ev 0) (sl_cons (ev 2) sl_nil rfl) rfl) (by decide) rfl rfl) (fun _ => rfl))) (sss_one ss_never) sss_nil)))
def b_closure : Ss Dk := (seqF (exprF (callF g_need_lot_of (consL (varF 0) (consL (varF 1) (consL (varF 2) nilL))))) (retF (callF g_closure_of (consL (varF 1) (consL (varF 2) nilL)))))
theorem sc_closure : FnScope ["m", "rules", "lot"] ["m", "rules", "lot"] (defScope s_closure) := ⟨rfl, rfl, rfl, by decide +kernel, rfl, by decide +kernel, by decide +kernel⟩
def g_closure : List D → Dk → Option (D × Dk) := defN 3 3 b_closure
theorem k_closure (X : K.In h) (G : h.Ns mainGlobals mg) (sd : He.SaysD fa fn K) : Got P w K mg base (dW "cells" "draws" T c) "closure" s_closure 9 3 ["m", "rules", "lot"] g_closure := by
  have o_closure_of := k_closure_of (P := P) (w := w) (base := base) (T := T) (c := c) X G sd
  have o_need_lot_of := k_need_lot_of (P := P) (w := w) (base := base) (T := T) (c := c) X G sd
  exact got (sd.def_ 15 (d := d_closure) rfl) (He.glo_ok X G (sd.fact 15 (f := .glo "closure") rfl)) sc_closure rfl (by decide) fun f cdv A outer s H E hr => by
    unfold b_closure
    exact (sss_cons (ss_expr (callD o_need_lot_of (hr.mono (by decide)) (by rfl) (fun _ _ _ _ _ _ us hl => match us, hl with | [_, _, _], _ => rfl) (sl_cons (ev 0) (sl_cons (ev 1) (sl_cons (ev 2) sl_nil rfl) rfl) rfl) (by decide) rfl rfl) rfl) (sss_one (ss_ret (callD o_closure_of (hr.mono (by decide)) (by rfl) (fun _ _ _ _ _ _ us hl => match us, hl with | [_, _], _ => rfl) (sl_cons (ev 1) (sl_cons (ev 2) sl_nil rfl) rfl) (by decide) rfl rfl))))
def b_need_fact_and_lot : Ss Dk := (seqF (exprF (callF g_need_lot_of (consL (varF 0) (consL (varF 1) (consL (varF 2) nilL))))) (ifF (notB (truF (callF g_is_between (consL (varF 3) (consL (cstF (.int 0)) (consL (binF subD (varF 0) (cstF (.int 1))) nilL)))))) nevF skipF))
theorem sc_need_fact_and_lot : FnScope ["m", "rules", "lot", "fact"] ["m", "rules", "lot", "fact"] (defScope s_need_fact_and_lot) := ⟨rfl, rfl, rfl, by decide +kernel, rfl, by decide +kernel, by decide +kernel⟩
def g_need_fact_and_lot : List D → Dk → Option (D × Dk) := defN 4 4 b_need_fact_and_lot
theorem k_need_fact_and_lot (X : K.In h) (G : h.Ns mainGlobals mg) (sd : He.SaysD fa fn K) : Got P w K mg base (dW "cells" "draws" T c) "need_fact_and_lot" s_need_fact_and_lot 9 4 ["m", "rules", "lot", "fact"] g_need_fact_and_lot := by
  have o_is_between := k_is_between (P := P) (w := w) (base := base) (T := T) (c := c) X G sd
  have o_need_lot_of := k_need_lot_of (P := P) (w := w) (base := base) (T := T) (c := c) X G sd
  exact got (sd.def_ 16 (d := d_need_fact_and_lot) rfl) (He.glo_ok X G (sd.fact 16 (f := .glo "need_fact_and_lot") rfl)) sc_need_fact_and_lot rfl (by decide) fun f cdv A outer s H E hr => by
    unfold b_need_fact_and_lot
    exact (sss_cons (ss_expr (callD o_need_lot_of (hr.mono (by decide)) (by rfl) (fun _ _ _ _ _ _ us hl => match us, hl with | [_, _, _], _ => rfl) (sl_cons (ev 0) (sl_cons (ev 1) (sl_cons (ev 2) sl_nil rfl) rfl) rfl) (by decide) rfl rfl) rfl) (sss_one (ss_if (sb_not (sb_val (callD o_is_between (hr.mono (by decide)) (by rfl) (fun _ _ _ _ _ _ us hl => match us, hl with | [_, _, _], _ => rfl) (sl_cons (ev 3) (sl_cons eInt (sl_cons (se_op ov_sub (ev 0) eInt) sl_nil rfl) rfl) rfl) (by decide) rfl rfl) (fun _ => rfl))) (sss_one ss_never) sss_nil)))
def b_judge_follows : Ss Dk := (seqF (exprF (callF g_need_fact_and_lot (consL (varF 0) (consL (varF 1) (consL (varF 2) (consL (varF 3) nilL)))))) (seqF (asgF (callF g_steps_from (consL (varF 1) (consL (varF 2) nilL))) (tupG 2 (consG (putV 4) (consG (putV 5) nilG)))) (retF (iteF' (truF (binF inD (varF 3) (varF 5))) (mapF dispT (consL (cstF (.str "steps")) (consL (mapF tupleD (consL (varF 4) nilL)) nilL))) (mapF dispT (consL (cstF (.str "closed")) (consL (mapF tupleD (consL (mapF sortD (consL (varF 5) nilL)) nilL)) nilL)))))))
theorem sc_judge_follows : FnScope ["m", "rules", "lot", "fact", "steps", "there"] ["m", "rules", "lot", "fact"] (defScope s_judge_follows) := ⟨rfl, rfl, rfl, by decide +kernel, rfl, by decide +kernel, by decide +kernel⟩
def g_judge_follows : List D → Dk → Option (D × Dk) := defN 4 6 b_judge_follows
theorem k_judge_follows (X : K.In h) (G : h.Ns mainGlobals mg) (sd : He.SaysD fa fn K) : Got P w K mg base (dW "cells" "draws" T c) "judge_follows" s_judge_follows 10 4 ["m", "rules", "lot", "fact"] g_judge_follows := by
  have o_need_fact_and_lot := k_need_fact_and_lot (P := P) (w := w) (base := base) (T := T) (c := c) X G sd
  have o_steps_from := k_steps_from (P := P) (w := w) (base := base) (T := T) (c := c) X G sd
  have m_sorted : mg "sorted" = none := He.free_ok X G (sd.fact 46 rfl)
  have m_tuple : mg "tuple" = none := He.free_ok X G (sd.fact 48 rfl)
  exact got (sd.def_ 17 (d := d_judge_follows) rfl) (He.glo_ok X G (sd.fact 17 (f := .glo "judge_follows") rfl)) sc_judge_follows rfl (by decide) fun f cdv A outer s H E hr => by
    unfold b_judge_follows
    exact (sss_cons (ss_expr (callD o_need_fact_and_lot (hr.mono (by decide)) (by rfl) (fun _ _ _ _ _ _ us hl => match us, hl with | [_, _, _, _], _ => rfl) (sl_cons (ev 0) (sl_cons (ev 1) (sl_cons (ev 2) (sl_cons (ev 3) sl_nil rfl) rfl) rfl) rfl) (by decide) rfl rfl) rfl) (sss_cons (ss_asg (callD o_steps_from (hr.mono (by decide)) (by rfl) (fun _ _ _ _ _ _ us hl => match us, hl with | [_, _], _ => rfl) (sl_cons (ev 1) (sl_cons (ev 2) sl_nil rfl) rfl) (by decide) rfl rfl) (sg_tup rfl (sgs_cons (sg_name (i := 4) sc_judge_follows.nd rfl (by first | exact Or.inl rfl | exact Or.inr rfl) (by first | exact Or.inl rfl | exact Or.inr rfl)) (sgs_cons (sg_name (i := 5) sc_judge_follows.nd rfl (by first | exact Or.inl rfl | exact Or.inr rfl) (by first | exact Or.inl rfl | exact Or.inr rfl)) sgs_nil rfl) rfl) rfl rfl) rfl rfl rfl) (sss_one (ss_ret (se_ite (sb_cm (ov_in hr.hu) isB_in (ev 3) (ev 5) rfl) (se_tup (sl_cons eStr (sl_cons (se_cT cv_tuple (by rfl) m_tuple b_tuple (sl_cons (ev 4) sl_nil rfl) (by decide) (by decide) rfl rfl) sl_nil rfl) rfl)) (se_tup (sl_cons eStr (sl_cons (se_cT cv_tuple (by rfl) m_tuple b_tuple (sl_cons (se_cB (cv_sorted hr.hu0) (by rfl) m_sorted b_sorted (sl_cons (ev 5) sl_nil rfl) (by decide) (by decide) rfl rfl) sl_nil rfl) (by decide) (by decide) rfl rfl) sl_nil rfl) rfl)))))))
def bd1_do_lead : Ss Dk := (seqF (ifF (notB (truF (thawF (callF g_has_all (consL (varF 4) (consL (binF ixD (binF ixD (varF 0) (varF 5)) (cstF (.int 0))) nilL)))))) (retF (cstF (.bl false))) skipF) (exprF (thawF (appendF 4 (consL (binF ixD (binF ixD (varF 0) (varF 5)) (cstF (.int 1))) nilL)))))
def lp1_do_lead : Ss Dk := forF (putV 5) (itemsF (varF 3)) bd1_do_lead
def b_do_lead : Ss Dk := (seqF (ifF (notB (truF (callF g_are_between (consL (varF 3) (consL (cstF (.int 0)) (consL (binF subD (mapF lenD (consL (varF 0) nilL)) (cstF (.int 1))) nilL)))))) (retF (cstF (.bl false))) skipF) (seqF (setF true 4 (mapF listD (consL (varF 1) nilL))) (seqF lp1_do_lead (retF (thawF (binF inD (varF 2) (varF 4)))))))
theorem sc_do_lead : FnScope ["rules", "lot", "fact", "steps", "there", "number"] ["rules", "lot", "fact", "steps"] (defScope s_do_lead) := ⟨rfl, rfl, rfl, by decide +kernel, rfl, by decide +kernel, by decide +kernel⟩
def g_do_lead : List D → Dk → Option (D × Dk) := defN 4 6 b_do_lead
theorem k_do_lead (X : K.In h) (G : h.Ns mainGlobals mg) (sd : He.SaysD fa fn K) : Got P w K mg base (dW "cells" "draws" T c) "do_lead" s_do_lead 4 4 ["rules", "lot", "fact", "steps"] g_do_lead := by
  have o_are_between := k_are_between (P := P) (w := w) (base := base) (T := T) (c := c) X G sd
  have o_has_all := k_has_all (P := P) (w := w) (base := base) (T := T) (c := c) X G sd
  have m_len : mg "len" = none := He.free_ok X G (sd.fact 39 rfl)
  have m_list : mg "list" = none := He.free_ok X G (sd.fact 40 rfl)
  exact got (sd.def_ 18 (d := d_do_lead) rfl) (He.glo_ok X G (sd.fact 18 (f := .glo "do_lead") rfl)) sc_do_lead rfl (by decide) fun f cdv A outer s H E hr => by
    unfold b_do_lead
    exact (sss_cons (ss_if (sb_not (sb_val (callD o_are_between (hr.mono (by decide)) (by rfl) (fun _ _ _ _ _ _ us hl => match us, hl with | [_, _, _], _ => rfl) (sl_cons (ev 3) (sl_cons eInt (sl_cons (se_op ov_sub (se_cB cv_len (by rfl) m_len b_len (sl_cons (ev 0) sl_nil rfl) (by decide) (by decide) rfl rfl) eInt) sl_nil rfl) rfl) rfl) (by decide) rfl rfl) (fun _ => rfl))) (sss_one (ss_ret eBl)) sss_nil) (sss_cons (ss_set (i := 4) sc_do_lead.nd rfl (by first | exact Or.inl rfl | exact Or.inr rfl) (se_cT cv_list (by rfl) m_list b_list (sl_cons (ev 1) sl_nil rfl) (by decide) (by decide) rfl rfl) rfl (by first | exact Or.inl rfl | exact Or.inr rfl)) (sss_cons (ss_for PassesOwn.never rfl (si_val (ev 3)) (sg_name (i := 5) sc_do_lead.nd rfl (by first | exact Or.inl rfl | exact Or.inr rfl) (by first | exact Or.inl rfl | exact Or.inr rfl)) (sss_cons (ss_if (sb_not (sb_val (se_thaw (callD o_has_all (hr.mono (by decide)) (by rfl) (fun _ _ _ _ _ _ us hl => match us, hl with | [_, _], _ => rfl) (sl_cons (ev 4) (sl_cons (se_at (se_at (ev 0) (ev 5) (fun _ _ => rfl)) eInt (fun _ _ => rfl)) sl_nil rfl) rfl) (by decide) rfl rfl)) (fun _ => rfl))) (sss_one (ss_ret eBl)) sss_nil) (sss_one (ss_expr (se_thaw (se_append (pv 4) (sl_cons (se_at (se_at (ev 0) (ev 5) (fun _ _ => rfl)) eInt (fun _ _ => rfl)) sl_nil rfl) rfl rfl rfl rfl)) rfl))) (fun _ => rfl)) (sss_one (ss_ret (se_thaw (se_cm (ov_in hr.hu) (ev 2) (ev 4) rfl)))))))
def b_follows_holds : Ss Dk := (seqF (exprF (callF g_need_fact_and_lot (consL (varF 0) (consL (varF 1) (consL (varF 2) (consL (varF 3) nilL)))))) (seqF (ifF (truF (callF g_is_word (consL (varF 4) (consL (cstF (.str "steps")) nilL)))) (retF (andF (binF eqD (mapF lenD (consL (varF 4) nilL)) (cstF (.int 2))) (callF g_do_lead (consL (varF 1) (consL (varF 2) (consL (varF 3) (consL (binF ixD (varF 4) (cstF (.int 1))) nilL))))))) skipF) (seqF (ifF (orB (notB (truF (callF g_is_word (consL (varF 4) (consL (cstF (.str "closed")) nilL))))) (orB (truF (binF neD (mapF lenD (consL (varF 4) nilL)) (cstF (.int 2)))) (notB (truF (callF g_is_facts_value (consL (varF 0) (consL (binF ixD (varF 4) (cstF (.int 1))) nilL))))))) (retF (cstF (.bl false))) skipF) (retF (andF (callF g_is_closed_lot (consL (varF 1) (consL (binF ixD (varF 4) (cstF (.int 1))) nilL))) (andF (callF g_has_all (consL (binF ixD (varF 4) (cstF (.int 1))) (consL (varF 2) nilL))) (binF ninD (varF 3) (binF ixD (varF 4) (cstF (.int 1))))))))))
theorem sc_follows_holds : FnScope ["m", "rules", "lot", "fact", "thing"] ["m", "rules", "lot", "fact", "thing"] (defScope s_follows_holds) := ⟨rfl, rfl, rfl, by decide +kernel, rfl, by decide +kernel, by decide +kernel⟩
def g_follows_holds : List D → Dk → Option (D × Dk) := defN 5 5 b_follows_holds
theorem k_follows_holds (X : K.In h) (G : h.Ns mainGlobals mg) (sd : He.SaysD fa fn K) : Got P w K mg base (dW "cells" "draws" T c) "follows_holds" s_follows_holds 10 5 ["m", "rules", "lot", "fact", "thing"] g_follows_holds := by
  have o_do_lead := k_do_lead (P := P) (w := w) (base := base) (T := T) (c := c) X G sd
  have o_has_all := k_has_all (P := P) (w := w) (base := base) (T := T) (c := c) X G sd
  have o_is_closed_lot := k_is_closed_lot (P := P) (w := w) (base := base) (T := T) (c := c) X G sd
  have o_is_facts_value := k_is_facts_value (P := P) (w := w) (base := base) (T := T) (c := c) X G sd
  have o_is_word := k_is_word (P := P) (w := w) (base := base) (T := T) (c := c) X G sd
  have o_need_fact_and_lot := k_need_fact_and_lot (P := P) (w := w) (base := base) (T := T) (c := c) X G sd
  have m_len : mg "len" = none := He.free_ok X G (sd.fact 39 rfl)
  exact got (sd.def_ 19 (d := d_follows_holds) rfl) (He.glo_ok X G (sd.fact 19 (f := .glo "follows_holds") rfl)) sc_follows_holds rfl (by decide) fun f cdv A outer s H E hr => by
    unfold b_follows_holds
    exact (sss_cons (ss_expr (callD o_need_fact_and_lot (hr.mono (by decide)) (by rfl) (fun _ _ _ _ _ _ us hl => match us, hl with | [_, _, _, _], _ => rfl) (sl_cons (ev 0) (sl_cons (ev 1) (sl_cons (ev 2) (sl_cons (ev 3) sl_nil rfl) rfl) rfl) rfl) (by decide) rfl rfl) rfl) (sss_cons (ss_if (sb_val (callD o_is_word (hr.mono (by decide)) (by rfl) (fun _ _ _ _ _ _ us hl => match us, hl with | [_, _], _ => rfl) (sl_cons (ev 4) (sl_cons eStr sl_nil rfl) rfl) (by decide) rfl rfl) (fun _ => rfl)) (sss_one (ss_ret (se_and (se_cm (ov_eq hr.hu0) (se_cB cv_len (by rfl) m_len b_len (sl_cons (ev 4) sl_nil rfl) (by decide) (by decide) rfl rfl) eInt (nomark _)) (eOne (callD o_do_lead (hr.mono (by decide)) (by rfl) (fun _ _ _ _ _ _ us hl => match us, hl with | [_, _, _, _], _ => rfl) (sl_cons (ev 1) (sl_cons (ev 2) (sl_cons (ev 3) (sl_cons (se_at (ev 4) eInt (fun _ _ => rfl)) sl_nil rfl) rfl) rfl) rfl) (by decide) rfl rfl))))) sss_nil) (sss_cons (ss_if (L2.PW.pt (sb_or (sb_not (sb_val (callD o_is_word (hr.mono (by decide)) (by rfl) (fun _ _ _ _ _ _ us hl => match us, hl with | [_, _], _ => rfl) (sl_cons (ev 4) (sl_cons eStr sl_nil rfl) rfl) (by decide) rfl rfl) (fun _ => rfl))) (sb_or (sb_cm (ov_ne hr.hu0) isB_ne (se_cB cv_len (by rfl) m_len b_len (sl_cons (ev 4) sl_nil rfl) (by decide) (by decide) rfl rfl) eInt (nomark _)) (pw_or1 (sb_not (sb_val (callD o_is_facts_value (hr.mono (by decide)) (by rfl) (fun _ _ _ _ _ _ us hl => match us, hl with | [_, _], _ => rfl) (sl_cons (ev 0) (sl_cons (se_at (ev 4) eInt (fun _ _ => rfl)) sl_nil rfl) rfl) (by decide) rfl rfl) (fun _ => rfl))))))) (sss_one (ss_ret eBl)) sss_nil) (sss_one (ss_ret (se_and (callD o_is_closed_lot (hr.mono (by decide)) (by rfl) (fun _ _ _ _ _ _ us hl => match us, hl with | [_, _], _ => rfl) (sl_cons (ev 1) (sl_cons (se_at (ev 4) eInt (fun _ _ => rfl)) sl_nil rfl) rfl) (by decide) rfl rfl) (se_and (callD o_has_all (hr.mono (by decide)) (by rfl) (fun _ _ _ _ _ _ us hl => match us, hl with | [_, _], _ => rfl) (sl_cons (se_at (ev 4) eInt (fun _ _ => rfl)) (sl_cons (ev 2) sl_nil rfl) rfl) (by decide) rfl rfl) (eOne (se_cm (ov_nin hr.hu) (ev 3) (se_at (ev 4) eInt (fun _ _ => rfl)) rfl)))))))))
def b__law_draw : Ss Dk := (seqF (dkSetF 0 (binF addD (dkF 0 Dk.draws) (cstF (.int 1)))) (seqF (setF false 2 (binF addD (dkF 0 Dk.mixed) (binF mulD (cstF (.int 61473)) (dkF 0 Dk.draws)))) (seqF (ifF (dkAnyB 0) (seqF (setF false 3 (dkPopF 0)) (seqF (ifF (truF (binF geD (varF 3) (binF powD (cstF (.int 10)) (cstF (.int 18))))) (seqF (exprF (dkAppF 0 (consL (binF divD (varF 3) (mapF maxD (consL (cstF (.int 2)) (consL (varF 1) nilL)))) nilL))) (retF (binF modD (mapF int1D (consL (varF 3) nilL)) (varF 1)))) skipF) (setF false 2 (binF addD (varF 2) (binF modD (mapF int1D (consL (varF 3) nilL)) (cstF (.int 2147483629))))))) skipF) (seqF (setF false 2 (binF modD (mapF int1D (consL (binF addD (binF mulD (varF 2) (cstF (.int 39373))) (cstF (.int 63))) nilL)) (cstF (.int 2147483647)))) (seqF (setF false 2 (binF modD (mapF int1D (consL (binF addD (binF addD (binF mulD (varF 2) (varF 2)) (binF mulD (cstF (.int 52713)) (dkF 0 Dk.draws))) (cstF (.int 49))) nilL)) (cstF (.int 2147483587)))) (seqF (setF false 2 (binF modD (mapF int1D (consL (binF mulD (varF 2) (cstF (.int 40692))) nilL)) (cstF (.int 2147483563)))) (retF (binF modD (mapF int1D (consL (binF divD (varF 2) (cstF (.int 64))) nilL)) (varF 1)))))))))
theorem sc__law_draw : FnScope ["_law_deck_here", "_law_many", "_law_number", "_law_cell"] ["_law_deck_here", "_law_many"] (defScope s__law_draw) := ⟨rfl, rfl, rfl, by decide +kernel, rfl, by decide +kernel, by decide +kernel⟩
def g__law_draw : List D → Dk → Option (D × Dk) := defN 2 4 b__law_draw
theorem k__law_draw (X : K.In h) (G : h.Ns mainGlobals mg) (sd : He.SaysD fa fn K) : Got P w K mg base (dW "cells" "draws" T c) "_law_draw" s__law_draw 1 2 ["_law_deck_here", "_law_many"] g__law_draw := by
  have m_int : mg "int" = none := He.free_ok X G (sd.fact 37 rfl)
  have m_max : mg "max" = none := He.free_ok X G (sd.fact 41 rfl)
  exact got (sd.def_ 21 (d := d__law_draw) rfl) (He.glo_ok X G (sd.fact 21 (f := .glo "_law_draw") rfl)) sc__law_draw rfl (by decide) fun f cdv A outer s H E hr => by
    unfold b__law_draw
    exact (sss_cons (ss_dkSet keyOk hr.hu (pv 0) (se_op ov_add (se_dk hr.hu (fun _ => dk_d keyOk) (pv 0) (fun _ _ => rfl)) eInt) rfl) (sss_cons (ss_set (i := 2) sc__law_draw.nd rfl (by first | exact Or.inl rfl | exact Or.inr rfl) (se_weak (se_op ov_add (se_dk hr.hu (fun _ => dk_m keyOk) (pv 0) (fun _ _ => rfl)) (se_op ov_mul eInt (se_dk hr.hu (fun _ => dk_d keyOk) (pv 0) (fun _ _ => rfl))))) rfl (by first | exact Or.inl rfl | exact Or.inr rfl)) (sss_cons (ss_if (sb_dkAny hr.hu (pv 0) (fun _ _ => rfl) (nomark _)) (sss_cons (ss_set (i := 3) sc__law_draw.nd rfl (by first | exact Or.inl rfl | exact Or.inr rfl) (se_dkPop hr.hu (pv 0) (fun _ _ => rfl) rfl rfl) rfl (by first | exact Or.inl rfl | exact Or.inr rfl)) (sss_cons (ss_if (sb_cm ov_ge isB_ge (ev 3) (se_op ov_pow eInt eInt) (nomark _)) (sss_cons (ss_expr (se_dkApp hr.hu (pv 0) (fun _ _ => rfl) (sl_cons (se_op ov_div (ev 3) (se_cB (cv_max rfl) (by rfl) m_max b_max (sl_cons eInt (sl_cons (ev 1) sl_nil rfl) rfl) (by decide) (by decide) rfl rfl)) sl_nil rfl) rfl rfl rfl rfl) rfl) (sss_one (ss_ret (se_op ov_mod (se_cT cv_int (by rfl) m_int b_int (sl_cons (ev 3) sl_nil rfl) (by decide) (by decide) rfl rfl) (ev 1))))) sss_nil) (sss_one (ss_set (i := 2) sc__law_draw.nd rfl (by first | exact Or.inl rfl | exact Or.inr rfl) (se_weak (se_op ov_add (ev 2) (se_op ov_mod (se_cT cv_int (by rfl) m_int b_int (sl_cons (ev 3) sl_nil rfl) (by decide) (by decide) rfl rfl) eInt))) rfl (by first | exact Or.inl rfl | exact Or.inr rfl))))) sss_nil) (sss_cons (ss_set (i := 2) sc__law_draw.nd rfl (by first | exact Or.inl rfl | exact Or.inr rfl) (se_weak (se_op ov_mod (se_cT cv_int (by rfl) m_int b_int (sl_cons (se_op ov_add (se_op ov_mul (ev 2) eInt) eInt) sl_nil rfl) (by decide) (by decide) rfl rfl) eInt)) rfl (by first | exact Or.inl rfl | exact Or.inr rfl)) (sss_cons (ss_set (i := 2) sc__law_draw.nd rfl (by first | exact Or.inl rfl | exact Or.inr rfl) (se_weak (se_op ov_mod (se_cT cv_int (by rfl) m_int b_int (sl_cons (se_op ov_add (se_op ov_add (se_op ov_mul (ev 2) (ev 2)) (se_op ov_mul eInt (se_dk hr.hu (fun _ => dk_d keyOk) (pv 0) (fun _ _ => rfl)))) eInt) sl_nil rfl) (by decide) (by decide) rfl rfl) eInt)) rfl (by first | exact Or.inl rfl | exact Or.inr rfl)) (sss_cons (ss_set (i := 2) sc__law_draw.nd rfl (by first | exact Or.inl rfl | exact Or.inr rfl) (se_weak (se_op ov_mod (se_cT cv_int (by rfl) m_int b_int (sl_cons (se_op ov_mul (ev 2) eInt) sl_nil rfl) (by decide) (by decide) rfl rfl) eInt)) rfl (by first | exact Or.inl rfl | exact Or.inr rfl)) (sss_one (ss_ret (se_op ov_mod (se_cT cv_int (by rfl) m_int b_int (sl_cons (se_op ov_div (ev 2) eInt) sl_nil rfl) (by decide) (by decide) rfl rfl) (ev 1))))))))))
def b__law_pick : Ss Dk := (retF (binF ixD (varF 1) (callF g__law_draw (consL (varF 0) (consL (mapF lenD (consL (varF 1) nilL)) nilL)))))
theorem sc__law_pick : FnScope ["_law_deck_here", "_law_some"] ["_law_deck_here", "_law_some"] (defScope s__law_pick) := ⟨rfl, rfl, rfl, by decide +kernel, rfl, by decide +kernel, by decide +kernel⟩
def g__law_pick : List D → Dk → Option (D × Dk) := defN 2 2 b__law_pick
theorem k__law_pick (X : K.In h) (G : h.Ns mainGlobals mg) (sd : He.SaysD fa fn K) : Got P w K mg base (dW "cells" "draws" T c) "_law_pick" s__law_pick 2 2 ["_law_deck_here", "_law_some"] g__law_pick := by
  have o__law_draw := k__law_draw (P := P) (w := w) (base := base) (T := T) (c := c) X G sd
  have m_len : mg "len" = none := He.free_ok X G (sd.fact 39 rfl)
  exact got (sd.def_ 22 (d := d__law_pick) rfl) (He.glo_ok X G (sd.fact 22 (f := .glo "_law_pick") rfl)) sc__law_pick rfl (by decide) fun f cdv A outer s H E hr => by
    unfold b__law_pick
    exact (sss_one (ss_ret (se_at (ev 1) (callD o__law_draw (hr.mono (by decide)) (by rfl) (fun _ _ _ _ _ _ us hl => match us, hl with | [_, _], _ => rfl) (sl_cons (ev 0) (sl_cons (se_cB cv_len (by rfl) m_len b_len (sl_cons (ev 1) sl_nil rfl) (by decide) (by decide) rfl rfl) sl_nil rfl) rfl) (by decide) rfl rfl) (fun _ _ => rfl))))
def b__law_is_integer : Ss Dk := (retF (andF (mapF isiD (consL (varF 0) (consL (cstF (.ty "int")) nilL))) (notF (mapF isiD (consL (varF 0) (consL (cstF (.ty "bool")) nilL))))))
theorem sc__law_is_integer : FnScope ["_law_thing"] ["_law_thing"] (defScope s__law_is_integer) := ⟨rfl, rfl, rfl, by decide +kernel, rfl, by decide +kernel, by decide +kernel⟩
def g__law_is_integer : List D → Dk → Option (D × Dk) := defN 1 1 b__law_is_integer
theorem k__law_is_integer (X : K.In h) (G : h.Ns mainGlobals mg) (sd : He.SaysD fa fn K) : Got P w K mg base (dW "cells" "draws" T c) "_law_is_integer" s__law_is_integer 1 1 ["_law_thing"] g__law_is_integer := by
  have m_bool : mg "bool" = none := He.free_ok X G (sd.fact 35 rfl)
  have m_int : mg "int" = none := He.free_ok X G (sd.fact 37 rfl)
  have m_isinstance : mg "isinstance" = none := He.free_ok X G (sd.fact 38 rfl)
  exact got (sd.def_ 23 (d := d__law_is_integer) rfl) (He.glo_ok X G (sd.fact 23 (f := .glo "_law_is_integer") rfl)) sc__law_is_integer rfl (by decide) fun f cdv A outer s H E hr => by
    unfold b__law_is_integer
    exact (sss_one (ss_ret (se_and (se_cB cv_isi (by rfl) m_isinstance b_isinstance (sl_cons (ev 0) (sl_cons (se_ty (by rfl) m_int b_int (by decide) (by decide)) sl_nil rfl) rfl) (by decide) (by decide) rfl rfl) (eOne (se_not (se_cB cv_isi (by rfl) m_isinstance b_isinstance (sl_cons (ev 0) (sl_cons (se_ty (by rfl) m_bool b_bool (by decide) (by decide)) sl_nil rfl) rfl) (by decide) (by decide) rfl rfl))))))
def q1__law_is_lot : Ev Dk := compF [2] (itemsF (varF 1)) (putV 2) (orB (notB (truF (callF g__law_is_integer (consL (varF 2) nilL)))) (notB (truF (chainF leD ltD (cstF (.int 0)) (varF 2) (varF 0))))) (varF 2)
def b__law_is_lot : Ss Dk := (seqF (ifF (orB (notB (truF (mapF isiD (consL (varF 1) (consL (cstF (.ty "tuple")) nilL))))) (truF (binF neD q1__law_is_lot (mapF dispL nilL)))) (retF (cstF (.bl false))) skipF) (retF (binF eqD (mapF listD (consL (varF 1) nilL)) (mapF setSortD (consL (varF 1) nilL)))))
theorem sc__law_is_lot : FnScope ["_law_m", "_law_thing", "_law_it"] ["_law_m", "_law_thing"] (defScope s__law_is_lot) := ⟨rfl, rfl, rfl, by decide +kernel, rfl, by decide +kernel, by decide +kernel⟩
def g__law_is_lot : List D → Dk → Option (D × Dk) := defN 2 3 b__law_is_lot
theorem k__law_is_lot (X : K.In h) (G : h.Ns mainGlobals mg) (sd : He.SaysD fa fn K) : Got P w K mg base (dW "cells" "draws" T c) "_law_is_lot" s__law_is_lot 2 2 ["_law_m", "_law_thing"] g__law_is_lot := by
  have o__law_is_integer := k__law_is_integer (P := P) (w := w) (base := base) (T := T) (c := c) X G sd
  have m_isinstance : mg "isinstance" = none := He.free_ok X G (sd.fact 38 rfl)
  have m_list : mg "list" = none := He.free_ok X G (sd.fact 40 rfl)
  have m_set : mg "set" = none := He.free_ok X G (sd.fact 45 rfl)
  have m_sorted : mg "sorted" = none := He.free_ok X G (sd.fact 46 rfl)
  have m_tuple : mg "tuple" = none := He.free_ok X G (sd.fact 48 rfl)
  exact got (sd.def_ 24 (d := d__law_is_lot) rfl) (He.glo_ok X G (sd.fact 24 (f := .glo "_law_is_lot") rfl)) sc__law_is_lot rfl (by decide) fun f cdv A outer s H E hr => by
    unfold b__law_is_lot
    exact (sss_cons (ss_if (L2.PW.pt (sb_or (sb_not (sb_val (se_cB cv_isi (by rfl) m_isinstance b_isinstance (sl_cons (ev 1) (sl_cons (se_ty (by rfl) m_tuple b_tuple (by decide) (by decide)) sl_nil rfl) rfl) (by decide) (by decide) rfl rfl) (fun _ => rfl))) (pw_or1 (sb_cm (ov_ne hr.hu0) isB_ne (se_comp (own := [("_law_it", 2)]) rfl sc__law_is_lot.nd (si_val (ev 1)) (blkOk_by rfl) (fun _ _ _ _ _ => (sg_name (i := 2) sc__law_is_lot.nd rfl (by first | exact Or.inl rfl | exact Or.inr rfl) (by first | exact Or.inl rfl | exact Or.inr rfl))) (by decide) (fun _ _ _ _ _ => (sbs_one (L2.PW.pt (sb_or (sb_not (sb_val (callD o__law_is_integer (hr.mono (by decide)) (by rfl) (fun _ _ _ _ _ _ us hl => match us, hl with | [_], _ => rfl) (sl_cons (ev 2) sl_nil rfl) (by decide) rfl rfl) (fun _ => rfl))) (pw_or1 (sb_not (sb_ch ov_le ov_lt isB_lt eInt (ev 2) (ev 0) rfl))))))) (fun _ _ _ _ _ => (ev 2)) (fun _ => rfl)) (se_lst sl_nil) (nomark _))))) (sss_one (ss_ret eBl)) sss_nil) (sss_one (ss_ret (se_cm (ov_eq hr.hu0) (se_cT cv_list (by rfl) m_list b_list (sl_cons (ev 1) sl_nil rfl) (by decide) (by decide) rfl rfl) (se_sortedSet rfl hr.hu0 (by rfl) m_sorted b_sorted (by rfl) m_set b_set (sl_cons (ev 1) sl_nil rfl) rfl rfl) (nomark _)))))
def q1__law_lot : Ev Dk := compF [3] (rangeL (consL (varF 1) nilL)) (putV 3) (truF (binF ltD (callF g__law_draw (consL (varF 0) (consL (cstF (.int 4)) nilL))) (varF 2))) (varF 3)
def b__law_lot : Ss Dk := (seqF (setF false 2 (callF g__law_draw (consL (varF 0) (consL (cstF (.int 4)) nilL)))) (retF (mapF tupleD (consL q1__law_lot nilL))))
theorem sc__law_lot : FnScope ["_law_deck_here", "_law_m", "_law_way", "_law_fact"] ["_law_deck_here", "_law_m"] (defScope s__law_lot) := ⟨rfl, rfl, rfl, by decide +kernel, rfl, by decide +kernel, by decide +kernel⟩
def g__law_lot : List D → Dk → Option (D × Dk) := defN 2 4 b__law_lot
theorem k__law_lot (X : K.In h) (G : h.Ns mainGlobals mg) (sd : He.SaysD fa fn K) : Got P w K mg base (dW "cells" "draws" T c) "_law_lot" s__law_lot 2 2 ["_law_deck_here", "_law_m"] g__law_lot := by
  have o__law_draw := k__law_draw (P := P) (w := w) (base := base) (T := T) (c := c) X G sd
  have m_range : mg "range" = none := He.free_ok X G (sd.fact 43 rfl)
  have m_tuple : mg "tuple" = none := He.free_ok X G (sd.fact 48 rfl)
  exact got (sd.def_ 25 (d := d__law_lot) rfl) (He.glo_ok X G (sd.fact 25 (f := .glo "_law_lot") rfl)) sc__law_lot rfl (by decide) fun f cdv A outer s H E hr => by
    unfold b__law_lot
    exact (sss_cons (ss_set (i := 2) sc__law_lot.nd rfl (by first | exact Or.inl rfl | exact Or.inr rfl) (callD o__law_draw (hr.mono (by decide)) (by rfl) (fun _ _ _ _ _ _ us hl => match us, hl with | [_, _], _ => rfl) (sl_cons (ev 0) (sl_cons eInt sl_nil rfl) rfl) (by decide) rfl rfl) rfl (by first | exact Or.inl rfl | exact Or.inr rfl)) (sss_one (ss_ret (se_cT cv_tuple (by rfl) m_tuple b_tuple (sl_cons (se_comp (own := [("_law_fact", 3)]) rfl sc__law_lot.nd (si_rng1 (by rfl) m_range (ev 1) rfl) (blkOk_by rfl) (fun _ _ _ _ _ => (sg_name (i := 3) sc__law_lot.nd rfl (by first | exact Or.inl rfl | exact Or.inr rfl) (by first | exact Or.inl rfl | exact Or.inr rfl))) (by decide) (fun _ _ _ _ _ => (sbs_one (sb_cm ov_lt isB_lt (callD o__law_draw (hr.mono (by decide)) (by rfl) (fun _ _ _ _ _ _ us hl => match us, hl with | [_, _], _ => rfl) (sl_cons (ev 0) (sl_cons eInt sl_nil rfl) rfl) (by decide) rfl rfl) (ev 2) (nomark _)))) (fun _ _ _ _ _ => (ev 3)) (fun _ => rfl)) sl_nil rfl) (by decide) (by decide) rfl rfl))))
def q1__law_rule : Ev Dk := compF [7] (rangeL (consL (varF 1) nilL)) (putV 7) (truF (binF neD (varF 7) (varF 3))) (varF 7)
def bd1__law_rule : Ss Dk := (exprF (thawF (appendF 5 (consL (thawF (popAtF 4 (consL (thawF (callF g__law_draw (consL (varF 0) (consL (thawF (mapF lenD (consL (varF 4) nilL))) nilL)))) nilL))) nilL))))
def lp1__law_rule : Ss Dk := forF (putV 6) (rangeL (consL (mapF minD (consL (callF g__law_draw (consL (varF 0) (consL (binF addD (varF 2) (cstF (.int 1))) nilL))) (consL (binF subD (varF 1) (cstF (.int 1))) nilL))) nilL)) bd1__law_rule
def b__law_rule : Ss Dk := (seqF (setF false 3 (callF g__law_draw (consL (varF 0) (consL (varF 1) nilL)))) (seqF (parF [4, 5] (consI true q1__law_rule (consI true (mapF dispL nilL) nilI))) (seqF lp1__law_rule (retF (mapF dispT (consL (thawF (mapF tupleD (consL (thawF (mapF sortD (consL (varF 5) nilL))) nilL))) (consL (varF 3) nilL)))))))
theorem sc__law_rule : FnScope ["_law_deck_here", "_law_m", "_law_most", "_law_fact", "_law_left", "_law_ifs", "_law_turn", "_law_it"] ["_law_deck_here", "_law_m", "_law_most"] (defScope s__law_rule) := ⟨rfl, rfl, rfl, by decide +kernel, rfl, by decide +kernel, by decide +kernel⟩
def g__law_rule : List D → Dk → Option (D × Dk) := defN 3 8 b__law_rule
theorem k__law_rule (X : K.In h) (G : h.Ns mainGlobals mg) (sd : He.SaysD fa fn K) : Got P w K mg base (dW "cells" "draws" T c) "_law_rule" s__law_rule 2 3 ["_law_deck_here", "_law_m", "_law_most"] g__law_rule := by
  have o__law_draw := k__law_draw (P := P) (w := w) (base := base) (T := T) (c := c) X G sd
  have m_len : mg "len" = none := He.free_ok X G (sd.fact 39 rfl)
  have m_min : mg "min" = none := He.free_ok X G (sd.fact 42 rfl)
  have m_range : mg "range" = none := He.free_ok X G (sd.fact 43 rfl)
  have m_sorted : mg "sorted" = none := He.free_ok X G (sd.fact 46 rfl)
  have m_tuple : mg "tuple" = none := He.free_ok X G (sd.fact 48 rfl)
  exact got (sd.def_ 26 (d := d__law_rule) rfl) (He.glo_ok X G (sd.fact 26 (f := .glo "_law_rule") rfl)) sc__law_rule rfl (by decide) fun f cdv A outer s H E hr => by
    unfold b__law_rule
    exact (sss_cons (ss_set (i := 3) sc__law_rule.nd rfl (by first | exact Or.inl rfl | exact Or.inr rfl) (callD o__law_draw (hr.mono (by decide)) (by rfl) (fun _ _ _ _ _ _ us hl => match us, hl with | [_, _], _ => rfl) (sl_cons (ev 0) (sl_cons (ev 1) sl_nil rfl) rfl) (by decide) rfl rfl) rfl (by first | exact Or.inl rfl | exact Or.inr rfl)) (sss_cons (ss_par2 (i := 4) (j := 5) rfl sc__law_rule.nd rfl rfl (by decide) rfl rfl (sli_cons (se_comp (own := [("_law_it", 7)]) rfl sc__law_rule.nd (si_rng1 (by rfl) m_range (ev 1) rfl) (blkOk_by rfl) (fun _ _ _ _ _ => (sg_name (i := 7) sc__law_rule.nd rfl (by first | exact Or.inl rfl | exact Or.inr rfl) (by first | exact Or.inl rfl | exact Or.inr rfl))) (by decide) (fun _ _ _ _ _ => (sbs_one (sb_cm (ov_ne hr.hu0) isB_ne (ev 7) (ev 3) (nomark _)))) (fun _ _ _ _ _ => (ev 7)) (fun _ => rfl)) (sli_cons (se_lst sl_nil) sli_nil rfl) rfl) rfl rfl) (sss_cons (ss_for PassesOwn.never rfl (si_rng1 (by rfl) m_range (se_cB (cv_min rfl) (by rfl) m_min b_min (sl_cons (callD o__law_draw (hr.mono (by decide)) (by rfl) (fun _ _ _ _ _ _ us hl => match us, hl with | [_, _], _ => rfl) (sl_cons (ev 0) (sl_cons (se_op ov_add (ev 2) eInt) sl_nil rfl) rfl) (by decide) rfl rfl) (sl_cons (se_op ov_sub (ev 1) eInt) sl_nil rfl) rfl) (by decide) (by decide) rfl rfl) rfl) (sg_name (i := 6) sc__law_rule.nd rfl (by first | exact Or.inl rfl | exact Or.inr rfl) (by first | exact Or.inl rfl | exact Or.inr rfl)) (sss_one (ss_expr (se_thaw (se_append (pv 5) (sl_cons (se_thaw (se_popAt (pv 4) (sl_cons (se_thaw (callD o__law_draw (hr.mono (by decide)) (by rfl) (fun _ _ _ _ _ _ us hl => match us, hl with | [_, _], _ => rfl) (sl_cons (ev 0) (sl_cons (se_thaw (se_cB cv_len (by rfl) m_len b_len (sl_cons (ev 4) sl_nil rfl) (by decide) (by decide) rfl rfl)) sl_nil rfl) rfl) (by decide) rfl rfl)) sl_nil rfl) rfl rfl rfl rfl)) sl_nil rfl) rfl rfl rfl rfl)) rfl)) (fun _ => rfl)) (sss_one (ss_ret (se_tup (sl_cons (se_thaw (se_cT cv_tuple (by rfl) m_tuple b_tuple (sl_cons (se_thaw (se_cB (cv_sorted hr.hu0) (by rfl) m_sorted b_sorted (sl_cons (ev 5) sl_nil rfl) (by decide) (by decide) rfl rfl)) sl_nil rfl) (by decide) (by decide) rfl rfl)) (sl_cons (ev 3) sl_nil rfl) rfl)))))))
def q1__law_rules : Ev Dk := compF [5] (rangeL (consL (varF 3) nilL)) (putV 5) yesB (callF g__law_rule (consL (varF 0) (consL (varF 1) (consL (varF 2) nilL))))
def b__law_rules : Ss Dk := (seqF (asgF (mapF dispT (consL (callF g__law_pick (consL (varF 0) (consL (mapF dispL (consL (cstF (.int 1)) (consL (cstF (.int 2)) (consL (cstF (.int 2)) (consL (cstF (.int 3)) (consL (cstF (.int 5)) nilL)))))) nilL))) (consL (iteF' (truF (binF eqD (callF g__law_draw (consL (varF 0) (consL (cstF (.int 3)) nilL))) (cstF (.int 0)))) (callF g__law_draw (consL (varF 0) (consL (cstF (.int 9)) nilL))) (callF g__law_draw (consL (varF 0) (consL (cstF (.int 5)) nilL)))) nilL))) (tupG 2 (consG (putV 2) (consG (putV 3) nilG)))) (seqF (setF true 4 q1__law_rules) (seqF (ifF (andB (truF (binF gtD (varF 3) (cstF (.int 1)))) (truF (binF eqD (callF g__law_draw (consL (varF 0) (consL (cstF (.int 5)) nilL))) (cstF (.int 0))))) (setAtF 4 (thawF (binF ixD (varF 4) (negF (cstF (.int 1))))) (cstF (.int 0))) skipF) (retF (thawF (mapF tupleD (consL (varF 4) nilL)))))))
theorem sc__law_rules : FnScope ["_law_deck_here", "_law_m", "_law_most", "_law_many", "_law_some", "_law_turn"] ["_law_deck_here", "_law_m"] (defScope s__law_rules) := ⟨rfl, rfl, rfl, by decide +kernel, rfl, by decide +kernel, by decide +kernel⟩
def g__law_rules : List D → Dk → Option (D × Dk) := defN 2 6 b__law_rules
theorem k__law_rules (X : K.In h) (G : h.Ns mainGlobals mg) (sd : He.SaysD fa fn K) : Got P w K mg base (dW "cells" "draws" T c) "_law_rules" s__law_rules 3 2 ["_law_deck_here", "_law_m"] g__law_rules := by
  have o__law_draw := k__law_draw (P := P) (w := w) (base := base) (T := T) (c := c) X G sd
  have o__law_pick := k__law_pick (P := P) (w := w) (base := base) (T := T) (c := c) X G sd
  have o__law_rule := k__law_rule (P := P) (w := w) (base := base) (T := T) (c := c) X G sd
  have m_range : mg "range" = none := He.free_ok X G (sd.fact 43 rfl)
  have m_tuple : mg "tuple" = none := He.free_ok X G (sd.fact 48 rfl)
  exact got (sd.def_ 27 (d := d__law_rules) rfl) (He.glo_ok X G (sd.fact 27 (f := .glo "_law_rules") rfl)) sc__law_rules rfl (by decide) fun f cdv A outer s H E hr => by
    unfold b__law_rules
    exact (sss_cons (ss_asg (se_tup (sl_cons (callD o__law_pick (hr.mono (by decide)) (by rfl) (fun _ _ _ _ _ _ us hl => match us, hl with | [_, _], _ => rfl) (sl_cons (ev 0) (sl_cons (se_lst (sl_cons eInt (sl_cons eInt (sl_cons eInt (sl_cons eInt (sl_cons eInt sl_nil rfl) rfl) rfl) rfl) rfl)) sl_nil rfl) rfl) (by decide) rfl rfl) (sl_cons (se_ite (sb_cm (ov_eq hr.hu0) isB_eq (callD o__law_draw (hr.mono (by decide)) (by rfl) (fun _ _ _ _ _ _ us hl => match us, hl with | [_, _], _ => rfl) (sl_cons (ev 0) (sl_cons eInt sl_nil rfl) rfl) (by decide) rfl rfl) eInt (nomark _)) (callD o__law_draw (hr.mono (by decide)) (by rfl) (fun _ _ _ _ _ _ us hl => match us, hl with | [_, _], _ => rfl) (sl_cons (ev 0) (sl_cons eInt sl_nil rfl) rfl) (by decide) rfl rfl) (callD o__law_draw (hr.mono (by decide)) (by rfl) (fun _ _ _ _ _ _ us hl => match us, hl with | [_, _], _ => rfl) (sl_cons (ev 0) (sl_cons eInt sl_nil rfl) rfl) (by decide) rfl rfl)) sl_nil rfl) rfl)) (sg_tup rfl (sgs_cons (sg_name (i := 2) sc__law_rules.nd rfl (by first | exact Or.inl rfl | exact Or.inr rfl) (by first | exact Or.inl rfl | exact Or.inr rfl)) (sgs_cons (sg_name (i := 3) sc__law_rules.nd rfl (by first | exact Or.inl rfl | exact Or.inr rfl) (by first | exact Or.inl rfl | exact Or.inr rfl)) sgs_nil rfl) rfl) rfl rfl) rfl rfl rfl) (sss_cons (ss_setComp (i := 4) (own := [("_law_turn", 5)]) rfl sc__law_rules.nd rfl rfl rfl (si_rng1 (by rfl) m_range (ev 3) rfl) (blkOk_by rfl) (fun _ _ _ _ _ => (sg_name (i := 5) sc__law_rules.nd rfl (by first | exact Or.inl rfl | exact Or.inr rfl) (by first | exact Or.inl rfl | exact Or.inr rfl))) (by decide) (fun _ _ _ _ _ => sbs_nil) (fun _ _ _ _ _ => (callD o__law_rule (hr.mono (by decide)) (by rfl) (fun _ _ _ _ _ _ us hl => match us, hl with | [_, _, _], _ => rfl) (sl_cons (ev 0) (sl_cons (ev 1) (sl_cons (ev 2) sl_nil rfl) rfl) rfl) (by decide) rfl rfl)) (fun _ => rfl)) (sss_cons (ss_if (L2.PW.pt (sb_and (sb_cm ov_gt isB_gt (ev 3) eInt (nomark _)) (pw_and1 (sb_cm (ov_eq hr.hu0) isB_eq (callD o__law_draw (hr.mono (by decide)) (by rfl) (fun _ _ _ _ _ _ us hl => match us, hl with | [_, _], _ => rfl) (sl_cons (ev 0) (sl_cons eInt sl_nil rfl) rfl) (by decide) rfl rfl) eInt (nomark _))))) (sss_one (ss_setAt (pv 4) (se_thaw (se_at (ev 4) (se_neg eInt) (fun _ _ => rfl))) eInt (fun _ => rfl) rfl rfl rfl)) sss_nil) (sss_one (ss_ret (se_thaw (se_cT cv_tuple (by rfl) m_tuple b_tuple (sl_cons (ev 4) sl_nil rfl) (by decide) (by decide) rfl rfl)))))))
def q1__law_closure : Ev Dk := compF [6] (itemsF (varF 4)) (putV 6) (truF (binF ninD (varF 6) (varF 2))) (varF 6)
def bd1__law_closure : Ss Dk := (ifF (andB (truF (binF ninD (varF 5) (varF 2))) (truF (binF eqD q1__law_closure (mapF dispL nilL)))) (exprF (thawF (appendF 2 (consL (varF 5) nilL)))) skipF)
def lp1__law_closure : Ss Dk := forF (tupG 2 (consG (putV 4) (consG (putV 5) nilG))) (itemsF (varF 0)) bd1__law_closure
def bd2__law_closure : Ss Dk := lp1__law_closure
def lp2__law_closure : Ss Dk := forF (putV 3) (rangeL (consL (cstF (.int 6)) nilL)) bd2__law_closure
def b__law_closure : Ss Dk := (seqF (setF true 2 (mapF listD (consL (varF 1) nilL))) (seqF lp2__law_closure (retF (thawF (mapF tupleD (consL (thawF (mapF sortD (consL (varF 2) nilL))) nilL))))))
theorem sc__law_closure : FnScope ["_law_rules_here", "_law_lot_here", "_law_found", "_law_turn", "_law_ifs", "_law_fact", "_law_it"] ["_law_rules_here", "_law_lot_here"] (defScope s__law_closure) := ⟨rfl, rfl, rfl, by decide +kernel, rfl, by decide +kernel, by decide +kernel⟩
def g__law_closure : List D → Dk → Option (D × Dk) := defN 2 7 b__law_closure
theorem k__law_closure (X : K.In h) (G : h.Ns mainGlobals mg) (sd : He.SaysD fa fn K) : Got P w K mg base (dW "cells" "draws" T c) "_law_closure" s__law_closure 1 2 ["_law_rules_here", "_law_lot_here"] g__law_closure := by
  have m_list : mg "list" = none := He.free_ok X G (sd.fact 40 rfl)
  have m_range : mg "range" = none := He.free_ok X G (sd.fact 43 rfl)
  have m_sorted : mg "sorted" = none := He.free_ok X G (sd.fact 46 rfl)
  have m_tuple : mg "tuple" = none := He.free_ok X G (sd.fact 48 rfl)
  exact got (sd.def_ 28 (d := d__law_closure) rfl) (He.glo_ok X G (sd.fact 28 (f := .glo "_law_closure") rfl)) sc__law_closure rfl (by decide) fun f cdv A outer s H E hr => by
    unfold b__law_closure
    exact (sss_cons (ss_set (i := 2) sc__law_closure.nd rfl (by first | exact Or.inl rfl | exact Or.inr rfl) (se_cT cv_list (by rfl) m_list b_list (sl_cons (ev 1) sl_nil rfl) (by decide) (by decide) rfl rfl) rfl (by first | exact Or.inl rfl | exact Or.inr rfl)) (sss_cons (ss_for PassesOwn.never rfl (si_rng1 (by rfl) m_range eInt rfl) (sg_name (i := 3) sc__law_closure.nd rfl (by first | exact Or.inl rfl | exact Or.inr rfl) (by first | exact Or.inl rfl | exact Or.inr rfl)) (sss_one (ss_for PassesOwn.never rfl (si_val (ev 0)) (sg_tup rfl (sgs_cons (sg_name (i := 4) sc__law_closure.nd rfl (by first | exact Or.inl rfl | exact Or.inr rfl) (by first | exact Or.inl rfl | exact Or.inr rfl)) (sgs_cons (sg_name (i := 5) sc__law_closure.nd rfl (by first | exact Or.inl rfl | exact Or.inr rfl) (by first | exact Or.inl rfl | exact Or.inr rfl)) sgs_nil rfl) rfl) rfl rfl) (sss_one (ss_if (L2.PW.pt (sb_and (sb_cm (ov_nin hr.hu) isB_nin (ev 5) (ev 2) rfl) (pw_and1 (sb_cm (ov_eq hr.hu0) isB_eq (se_comp (own := [("_law_it", 6)]) rfl sc__law_closure.nd (si_val (ev 4)) (blkOk_by rfl) (fun _ _ _ _ _ => (sg_name (i := 6) sc__law_closure.nd rfl (by first | exact Or.inl rfl | exact Or.inr rfl) (by first | exact Or.inl rfl | exact Or.inr rfl))) (by decide) (fun _ _ _ _ _ => (sbs_one (sb_cm (ov_nin hr.hu) isB_nin (ev 6) (ev 2) rfl))) (fun _ _ _ _ _ => (ev 6)) (fun _ => rfl)) (se_lst sl_nil) (nomark _))))) (sss_one (ss_expr (se_thaw (se_append (pv 2) (sl_cons (ev 5) sl_nil rfl) rfl rfl rfl rfl)) rfl)) sss_nil)) (fun _ => rfl))) (fun _ => rfl)) (sss_one (ss_ret (se_thaw (se_cT cv_tuple (by rfl) m_tuple b_tuple (sl_cons (se_thaw (se_cB (cv_sorted hr.hu0) (by rfl) m_sorted b_sorted (sl_cons (ev 2) sl_nil rfl) (by decide) (by decide) rfl rfl)) sl_nil rfl) (by decide) (by decide) rfl rfl))))))
def bd1__law_order : Ss Dk := (exprF (thawF (appendF 3 (consL (thawF (popAtF 2 (consL (thawF (callF g__law_draw (consL (varF 0) (consL (thawF (mapF lenD (consL (varF 2) nilL))) nilL)))) nilL))) nilL))))
def lp1__law_order : Ss Dk := forF (putV 4) (rangeL (consL (varF 1) nilL)) bd1__law_order
def b__law_order : Ss Dk := (seqF (parF [2, 3] (consI true (mapF (rgD .lst) (consL (varF 1) nilL)) (consI true (mapF dispL nilL) nilI))) (seqF lp1__law_order (retF (thawF (mapF tupleD (consL (varF 3) nilL))))))
theorem sc__law_order : FnScope ["_law_deck_here", "_law_n", "_law_left", "_law_found", "_law_turn"] ["_law_deck_here", "_law_n"] (defScope s__law_order) := ⟨rfl, rfl, rfl, by decide +kernel, rfl, by decide +kernel, by decide +kernel⟩
def g__law_order : List D → Dk → Option (D × Dk) := defN 2 5 b__law_order
theorem k__law_order (X : K.In h) (G : h.Ns mainGlobals mg) (sd : He.SaysD fa fn K) : Got P w K mg base (dW "cells" "draws" T c) "_law_order" s__law_order 2 2 ["_law_deck_here", "_law_n"] g__law_order := by
  have o__law_draw := k__law_draw (P := P) (w := w) (base := base) (T := T) (c := c) X G sd
  have m_len : mg "len" = none := He.free_ok X G (sd.fact 39 rfl)
  have m_list : mg "list" = none := He.free_ok X G (sd.fact 40 rfl)
  have m_range : mg "range" = none := He.free_ok X G (sd.fact 43 rfl)
  have m_tuple : mg "tuple" = none := He.free_ok X G (sd.fact 48 rfl)
  exact got (sd.def_ 29 (d := d__law_order) rfl) (He.glo_ok X G (sd.fact 29 (f := .glo "_law_order") rfl)) sc__law_order rfl (by decide) fun f cdv A outer s H E hr => by
    unfold b__law_order
    exact (sss_cons (ss_par2 (i := 2) (j := 3) rfl sc__law_order.nd rfl rfl (by decide) rfl rfl (sli_cons (se_listRg1 rfl (by rfl) m_list (by rfl) m_range (ev 1) rfl rfl) (sli_cons (se_lst sl_nil) sli_nil rfl) rfl) rfl rfl) (sss_cons (ss_for PassesOwn.never rfl (si_rng1 (by rfl) m_range (ev 1) rfl) (sg_name (i := 4) sc__law_order.nd rfl (by first | exact Or.inl rfl | exact Or.inr rfl) (by first | exact Or.inl rfl | exact Or.inr rfl)) (sss_one (ss_expr (se_thaw (se_append (pv 3) (sl_cons (se_thaw (se_popAt (pv 2) (sl_cons (se_thaw (callD o__law_draw (hr.mono (by decide)) (by rfl) (fun _ _ _ _ _ _ us hl => match us, hl with | [_, _], _ => rfl) (sl_cons (ev 0) (sl_cons (se_thaw (se_cB cv_len (by rfl) m_len b_len (sl_cons (ev 2) sl_nil rfl) (by decide) (by decide) rfl rfl)) sl_nil rfl) rfl) (by decide) rfl rfl)) sl_nil rfl) rfl rfl rfl rfl)) sl_nil rfl) rfl rfl rfl rfl)) rfl)) (fun _ => rfl)) (sss_one (ss_ret (se_thaw (se_cT cv_tuple (by rfl) m_tuple b_tuple (sl_cons (ev 3) sl_nil rfl) (by decide) (by decide) rfl rfl))))))
def q1__law_is_paper : Ev Dk := compF [7] (itemsF (binF ixD (binF ixD (varF 1) (varF 6)) (cstF (.int 0)))) (putV 7) (truF (binF ninD (varF 7) (varF 5))) (varF 7)
def bd1__law_is_paper : Ss Dk := (seqF (ifF (orB (notB (truF (callF g__law_is_integer (consL (varF 6) nilL)))) (orB (notB (truF (chainF leD ltD (cstF (.int 0)) (varF 6) (mapF lenD (consL (varF 1) nilL))))) (truF (binF neD q1__law_is_paper (mapF dispL nilL))))) (retF (cstF (.bl false))) skipF) (exprF (thawF (appendF 5 (consL (binF ixD (binF ixD (varF 1) (varF 6)) (cstF (.int 1))) nilL)))))
def lp1__law_is_paper : Ss Dk := forF (putV 6) (itemsF (binF ixD (varF 4) (cstF (.int 1)))) bd1__law_is_paper
def q2__law_is_paper : Ev Dk := compF [7] (itemsF (varF 2)) (putV 7) (truF (binF ninD (varF 7) (binF ixD (varF 4) (cstF (.int 1))))) (varF 7)
def b__law_is_paper : Ss Dk := (seqF (ifF (orB (notB (truF (mapF isiD (consL (varF 4) (consL (cstF (.ty "tuple")) nilL))))) (orB (truF (binF neD (mapF lenD (consL (varF 4) nilL)) (cstF (.int 2)))) (orB (notB (truF (mapF isiD (consL (binF ixD (varF 4) (cstF (.int 0))) (consL (cstF (.ty "str")) nilL))))) (notB (truF (mapF isiD (consL (binF ixD (varF 4) (cstF (.int 1))) (consL (cstF (.ty "tuple")) nilL)))))))) (retF (cstF (.bl false))) skipF) (seqF (ifF (truF (binF eqD (binF ixD (varF 4) (cstF (.int 0))) (cstF (.str "steps")))) (seqF (setF true 5 (mapF listD (consL (varF 2) nilL))) (seqF lp1__law_is_paper (retF (thawF (binF inD (varF 3) (varF 5)))))) skipF) (seqF (ifF (orB (truF (binF neD (binF ixD (varF 4) (cstF (.int 0))) (cstF (.str "closed")))) (orB (notB (truF (callF g__law_is_lot (consL (varF 0) (consL (binF ixD (varF 4) (cstF (.int 1))) nilL))))) (truF (binF inD (varF 3) (binF ixD (varF 4) (cstF (.int 1))))))) (retF (cstF (.bl false))) skipF) (retF (andF (binF eqD (callF g__law_closure (consL (varF 1) (consL (binF ixD (varF 4) (cstF (.int 1))) nilL))) (binF ixD (varF 4) (cstF (.int 1)))) (binF eqD q2__law_is_paper (mapF dispL nilL)))))))
theorem sc__law_is_paper : FnScope ["_law_m", "_law_rules_here", "_law_lot_here", "_law_fact", "_law_paper", "_law_found", "_law_at", "_law_it"] ["_law_m", "_law_rules_here", "_law_lot_here", "_law_fact", "_law_paper"] (defScope s__law_is_paper) := ⟨rfl, rfl, rfl, by decide +kernel, rfl, by decide +kernel, by decide +kernel⟩
def g__law_is_paper : List D → Dk → Option (D × Dk) := defN 5 8 b__law_is_paper
theorem k__law_is_paper (X : K.In h) (G : h.Ns mainGlobals mg) (sd : He.SaysD fa fn K) : Got P w K mg base (dW "cells" "draws" T c) "_law_is_paper" s__law_is_paper 3 5 ["_law_m", "_law_rules_here", "_law_lot_here", "_law_fact", "_law_paper"] g__law_is_paper := by
  have o__law_closure := k__law_closure (P := P) (w := w) (base := base) (T := T) (c := c) X G sd
  have o__law_is_integer := k__law_is_integer (P := P) (w := w) (base := base) (T := T) (c := c) X G sd
  have o__law_is_lot := k__law_is_lot (P := P) (w := w) (base := base) (T := T) (c := c) X G sd
  have m_isinstance : mg "isinstance" = none := He.free_ok X G (sd.fact 38 rfl)
  have m_len : mg "len" = none := He.free_ok X G (sd.fact 39 rfl)
  have m_list : mg "list" = none := He.free_ok X G (sd.fact 40 rfl)
  have m_str : mg "str" = none := He.free_ok X G (sd.fact 47 rfl)
  have m_tuple : mg "tuple" = none := He.free_ok X G (sd.fact 48 rfl)
  exact got (sd.def_ 30 (d := d__law_is_paper) rfl) (He.glo_ok X G (sd.fact 30 (f := .glo "_law_is_paper") rfl)) sc__law_is_paper rfl (by decide) fun f cdv A outer s H E hr => by
    unfold b__law_is_paper
    exact (sss_cons (ss_if (L2.PW.pt (sb_or (sb_not (sb_val (se_cB cv_isi (by rfl) m_isinstance b_isinstance (sl_cons (ev 4) (sl_cons (se_ty (by rfl) m_tuple b_tuple (by decide) (by decide)) sl_nil rfl) rfl) (by decide) (by decide) rfl rfl) (fun _ => rfl))) (sb_or (sb_cm (ov_ne hr.hu0) isB_ne (se_cB cv_len (by rfl) m_len b_len (sl_cons (ev 4) sl_nil rfl) (by decide) (by decide) rfl rfl) eInt (nomark _)) (sb_or (sb_not (sb_val (se_cB cv_isi (by rfl) m_isinstance b_isinstance (sl_cons (se_at (ev 4) eInt (fun _ _ => rfl)) (sl_cons (se_ty (by rfl) m_str b_str (by decide) (by decide)) sl_nil rfl) rfl) (by decide) (by decide) rfl rfl) (fun _ => rfl))) (pw_or1 (sb_not (sb_val (se_cB cv_isi (by rfl) m_isinstance b_isinstance (sl_cons (se_at (ev 4) eInt (fun _ _ => rfl)) (sl_cons (se_ty (by rfl) m_tuple b_tuple (by decide) (by decide)) sl_nil rfl) rfl) (by decide) (by decide) rfl rfl) (fun _ => rfl)))))))) (sss_one (ss_ret eBl)) sss_nil) (sss_cons (ss_if (sb_cm (ov_eq hr.hu0) isB_eq (se_at (ev 4) eInt (fun _ _ => rfl)) eStr (nomark _)) (sss_cons (ss_set (i := 5) sc__law_is_paper.nd rfl (by first | exact Or.inl rfl | exact Or.inr rfl) (se_cT cv_list (by rfl) m_list b_list (sl_cons (ev 2) sl_nil rfl) (by decide) (by decide) rfl rfl) rfl (by first | exact Or.inl rfl | exact Or.inr rfl)) (sss_cons (ss_for PassesOwn.never rfl (si_val (se_at (ev 4) eInt (fun _ _ => rfl))) (sg_name (i := 6) sc__law_is_paper.nd rfl (by first | exact Or.inl rfl | exact Or.inr rfl) (by first | exact Or.inl rfl | exact Or.inr rfl)) (sss_cons (ss_if (L2.PW.pt (sb_or (sb_not (sb_val (callD o__law_is_integer (hr.mono (by decide)) (by rfl) (fun _ _ _ _ _ _ us hl => match us, hl with | [_], _ => rfl) (sl_cons (ev 6) sl_nil rfl) (by decide) rfl rfl) (fun _ => rfl))) (sb_or (sb_not (sb_ch ov_le ov_lt isB_lt eInt (ev 6) (se_cB cv_len (by rfl) m_len b_len (sl_cons (ev 1) sl_nil rfl) (by decide) (by decide) rfl rfl) rfl)) (pw_or1 (sb_cm (ov_ne hr.hu0) isB_ne (se_comp (own := [("_law_it", 7)]) rfl sc__law_is_paper.nd (si_val (se_at (se_at (ev 1) (ev 6) (fun _ _ => rfl)) eInt (fun _ _ => rfl))) (blkOk_by rfl) (fun _ _ _ _ _ => (sg_name (i := 7) sc__law_is_paper.nd rfl (by first | exact Or.inl rfl | exact Or.inr rfl) (by first | exact Or.inl rfl | exact Or.inr rfl))) (by decide) (fun _ _ _ _ _ => (sbs_one (sb_cm (ov_nin hr.hu) isB_nin (ev 7) (ev 5) rfl))) (fun _ _ _ _ _ => (ev 7)) (fun _ => rfl)) (se_lst sl_nil) (nomark _)))))) (sss_one (ss_ret eBl)) sss_nil) (sss_one (ss_expr (se_thaw (se_append (pv 5) (sl_cons (se_at (se_at (ev 1) (ev 6) (fun _ _ => rfl)) eInt (fun _ _ => rfl)) sl_nil rfl) rfl rfl rfl rfl)) rfl))) (fun _ => rfl)) (sss_one (ss_ret (se_thaw (se_cm (ov_in hr.hu) (ev 3) (ev 5) rfl)))))) sss_nil) (sss_cons (ss_if (L2.PW.pt (sb_or (sb_cm (ov_ne hr.hu0) isB_ne (se_at (ev 4) eInt (fun _ _ => rfl)) eStr (nomark _)) (sb_or (sb_not (sb_val (callD o__law_is_lot (hr.mono (by decide)) (by rfl) (fun _ _ _ _ _ _ us hl => match us, hl with | [_, _], _ => rfl) (sl_cons (ev 0) (sl_cons (se_at (ev 4) eInt (fun _ _ => rfl)) sl_nil rfl) rfl) (by decide) rfl rfl) (fun _ => rfl))) (pw_or1 (sb_cm (ov_in hr.hu) isB_in (ev 3) (se_at (ev 4) eInt (fun _ _ => rfl)) rfl))))) (sss_one (ss_ret eBl)) sss_nil) (sss_one (ss_ret (se_and (se_cm (ov_eq hr.hu0) (callD o__law_closure (hr.mono (by decide)) (by rfl) (fun _ _ _ _ _ _ us hl => match us, hl with | [_, _], _ => rfl) (sl_cons (ev 1) (sl_cons (se_at (ev 4) eInt (fun _ _ => rfl)) sl_nil rfl) rfl) (by decide) rfl rfl) (se_at (ev 4) eInt (fun _ _ => rfl)) (nomark _)) (eOne (se_cm (ov_eq hr.hu0) (se_comp (own := [("_law_it", 7)]) rfl sc__law_is_paper.nd (si_val (ev 2)) (blkOk_by rfl) (fun _ _ _ _ _ => (sg_name (i := 7) sc__law_is_paper.nd rfl (by first | exact Or.inl rfl | exact Or.inr rfl) (by first | exact Or.inl rfl | exact Or.inr rfl))) (by decide) (fun _ _ _ _ _ => (sbs_one (sb_cm (ov_nin hr.hu) isB_nin (ev 7) (se_at (ev 4) eInt (fun _ _ => rfl)) rfl))) (fun _ _ _ _ _ => (ev 7)) (fun _ => rfl)) (se_lst sl_nil) (nomark _)))))))))
def bd1__law_is_judged : Ss Dk := (seqF (ifF (orB (notB (truF (callF g__law_is_paper (consL (varF 0) (consL (varF 1) (consL (varF 2) (consL (varF 3) (consL (varF 5) nilL)))))))) (truF (binF neD (binF ixD (varF 5) (cstF (.int 0))) (varF 4)))) (retF (cstF (.bl false))) skipF) (seqF (ifF (orB (truF (binF isnotD (callF g_follows_holds (consL (varF 0) (consL (varF 1) (consL (varF 2) (consL (varF 3) (consL (varF 5) nilL)))))) (cstF (.bl true)))) (truF (binF isnotD (callF g_follows_holds (catS 4 1 [0, 1, 2, 3, 4] (consL (varF 0) (consL (varF 1) (consL (varF 2) (consL (varF 3) nilL)))) (consL (turnF (varF 5)) nilL))) (cstF (.bl false))))) (retF (cstF (.bl false))) skipF) (seqF (setF false 6 (iteF' (truF (binF eqD (varF 4) (cstF (.str "steps")))) (mapF dispT (consL (cstF (.str "closed")) (consL (callF g__law_closure (consL (varF 1) (consL (varF 2) nilL))) nilL))) (mapF dispT (consL (cstF (.str "steps")) (consL (mapF (rgD .tup) (consL (mapF lenD (consL (varF 1) nilL)) nilL)) nilL))))) (ifF (truF (binF isnotD (callF g_follows_holds (catS 0 5 [4, 3, 2, 1, 0] nilL (consL (varF 6) (consL (varF 3) (consL (varF 2) (consL (varF 1) (consL (varF 0) nilL))))))) (cstF (.bl false)))) (retF (cstF (.bl false))) skipF))))
def lp1__law_is_judged : Ss Dk := forF (putV 5) (itemsF (mapF dispT (consL (callF g_judge_follows (consL (varF 0) (consL (varF 1) (consL (varF 2) (consL (varF 3) nilL))))) (consL (callF g_judge_follows (catS 0 4 [3, 2, 1, 0] nilL (consL (varF 3) (consL (varF 2) (consL (varF 1) (consL (varF 0) nilL)))))) nilL)))) bd1__law_is_judged
def b__law_is_judged : Ss Dk := (seqF (setF false 4 (iteF' (truF (binF inD (varF 3) (callF g__law_closure (consL (varF 1) (consL (varF 2) nilL))))) (cstF (.str "steps")) (cstF (.str "closed")))) (seqF lp1__law_is_judged (retF (cstF (.bl true)))))
theorem sc__law_is_judged : FnScope ["_law_m", "_law_rules_here", "_law_lot_here", "_law_fact", "_law_due", "_law_paper", "_law_other"] ["_law_m", "_law_rules_here", "_law_lot_here", "_law_fact"] (defScope s__law_is_judged) := ⟨rfl, rfl, rfl, by decide +kernel, rfl, by decide +kernel, by decide +kernel⟩
def g__law_is_judged : List D → Dk → Option (D × Dk) := defN 4 7 b__law_is_judged
theorem k__law_is_judged (X : K.In h) (G : h.Ns mainGlobals mg) (sd : He.SaysD fa fn K) : Got P w K mg base (dW "cells" "draws" T c) "_law_is_judged" s__law_is_judged 11 4 ["_law_m", "_law_rules_here", "_law_lot_here", "_law_fact"] g__law_is_judged := by
  have o__law_closure := k__law_closure (P := P) (w := w) (base := base) (T := T) (c := c) X G sd
  have o__law_is_paper := k__law_is_paper (P := P) (w := w) (base := base) (T := T) (c := c) X G sd
  have o_follows_holds := k_follows_holds (P := P) (w := w) (base := base) (T := T) (c := c) X G sd
  have o_judge_follows := k_judge_follows (P := P) (w := w) (base := base) (T := T) (c := c) X G sd
  have m_len : mg "len" = none := He.free_ok X G (sd.fact 39 rfl)
  have m_range : mg "range" = none := He.free_ok X G (sd.fact 43 rfl)
  have m_tuple : mg "tuple" = none := He.free_ok X G (sd.fact 48 rfl)
  exact got (sd.def_ 31 (d := d__law_is_judged) rfl) (He.glo_ok X G (sd.fact 31 (f := .glo "_law_is_judged") rfl)) sc__law_is_judged rfl (by decide) fun f cdv A outer s H E hr => by
    unfold b__law_is_judged
    exact (sss_cons (ss_set (i := 4) sc__law_is_judged.nd rfl (by first | exact Or.inl rfl | exact Or.inr rfl) (se_ite (sb_cm (ov_in hr.hu) isB_in (ev 3) (callD o__law_closure (hr.mono (by decide)) (by rfl) (fun _ _ _ _ _ _ us hl => match us, hl with | [_, _], _ => rfl) (sl_cons (ev 1) (sl_cons (ev 2) sl_nil rfl) rfl) (by decide) rfl rfl) rfl) eStr eStr) rfl (by first | exact Or.inl rfl | exact Or.inr rfl)) (sss_cons (ss_for PassesOwn.never rfl (si_val (se_tup (sl_cons (callD o_judge_follows (hr.mono (by decide)) (by rfl) (fun _ _ _ _ _ _ us hl => match us, hl with | [_, _, _, _], _ => rfl) (sl_cons (ev 0) (sl_cons (ev 1) (sl_cons (ev 2) (sl_cons (ev 3) sl_nil rfl) rfl) rfl) rfl) (by decide) rfl rfl) (sl_cons (callK0 4 [3, 2, 1, 0] ["fact", "lot", "rules", "m"] o_judge_follows (hr.mono (by decide)) (by rfl) (fun _ _ _ _ _ _ us ws h1 h2 => match us, ws, h1, h2 with | [], [_, _, _, _], _, _ => rfl) (sk_cons (ev 3) (sk_cons (ev 2) (sk_cons (ev 1) (sk_cons (ev 0) sk_nil)))) rfl rfl (by decide) rfl) sl_nil rfl) rfl))) (sg_name (i := 5) sc__law_is_judged.nd rfl (by first | exact Or.inl rfl | exact Or.inr rfl) (by first | exact Or.inl rfl | exact Or.inr rfl)) (sss_cons (ss_if (L2.PW.pt (sb_or (sb_not (sb_val (callD o__law_is_paper (hr.mono (by decide)) (by rfl) (fun _ _ _ _ _ _ us hl => match us, hl with | [_, _, _, _, _], _ => rfl) (sl_cons (ev 0) (sl_cons (ev 1) (sl_cons (ev 2) (sl_cons (ev 3) (sl_cons (ev 5) sl_nil rfl) rfl) rfl) rfl) rfl) (by decide) rfl rfl) (fun _ => rfl))) (pw_or1 (sb_cm (ov_ne hr.hu0) isB_ne (se_at (ev 5) eInt (fun _ _ => rfl)) (ev 4) (nomark _))))) (sss_one (ss_ret eBl)) sss_nil) (sss_cons (ss_if (L2.PW.pt (sb_or (sb_cm ov_isnot isB_isnot (callD o_follows_holds (hr.mono (by decide)) (by rfl) (fun _ _ _ _ _ _ us hl => match us, hl with | [_, _, _, _, _], _ => rfl) (sl_cons (ev 0) (sl_cons (ev 1) (sl_cons (ev 2) (sl_cons (ev 3) (sl_cons (ev 5) sl_nil rfl) rfl) rfl) rfl) rfl) (by decide) rfl rfl) eBl (nomark _)) (pw_or1 (sb_cm ov_isnot isB_isnot (callK 4 1 [0, 1, 2, 3, 4] ["thing"] o_follows_holds (hr.mono (by decide)) (by rfl) (fun _ _ _ _ _ _ us ws h1 h2 => match us, ws, h1, h2 with | [_, _, _, _], [_], _, _ => rfl) (sl_cons (ev 0) (sl_cons (ev 1) (sl_cons (ev 2) (sl_cons (ev 3) sl_nil rfl) rfl) rfl) rfl) (sk_cons (se_turn (ev 5)) sk_nil) rfl rfl (by decide) rfl rfl) eBl (nomark _))))) (sss_one (ss_ret eBl)) sss_nil) (sss_cons (ss_set (i := 6) sc__law_is_judged.nd rfl (by first | exact Or.inl rfl | exact Or.inr rfl) (se_ite (sb_cm (ov_eq hr.hu0) isB_eq (ev 4) eStr (nomark _)) (se_tup (sl_cons eStr (sl_cons (callD o__law_closure (hr.mono (by decide)) (by rfl) (fun _ _ _ _ _ _ us hl => match us, hl with | [_, _], _ => rfl) (sl_cons (ev 1) (sl_cons (ev 2) sl_nil rfl) rfl) (by decide) rfl rfl) sl_nil rfl) rfl)) (se_tup (sl_cons eStr (sl_cons (se_tupRg1 rfl (by rfl) m_tuple (by rfl) m_range (se_cB cv_len (by rfl) m_len b_len (sl_cons (ev 1) sl_nil rfl) (by decide) (by decide) rfl rfl) rfl rfl) sl_nil rfl) rfl))) rfl (by first | exact Or.inl rfl | exact Or.inr rfl)) (sss_one (ss_if (sb_cm ov_isnot isB_isnot (callK0 5 [4, 3, 2, 1, 0] ["thing", "fact", "lot", "rules", "m"] o_follows_holds (hr.mono (by decide)) (by rfl) (fun _ _ _ _ _ _ us ws h1 h2 => match us, ws, h1, h2 with | [], [_, _, _, _, _], _, _ => rfl) (sk_cons (ev 6) (sk_cons (ev 3) (sk_cons (ev 2) (sk_cons (ev 1) (sk_cons (ev 0) sk_nil))))) rfl rfl (by decide) rfl) eBl (nomark _)) (sss_one (ss_ret eBl)) sss_nil))))) (fun _ => rfl)) (sss_one (ss_ret eBl))))
def q1__law_carries_over : Ev Dk := compF [13] (rangeL (consL (varF 1) nilL)) (putV 13) (orB (truF (binF inD (varF 13) (varF 3))) (truF (binF eqD (callF g__law_draw (consL (varF 0) (consL (cstF (.int 2)) nilL))) (cstF (.int 0))))) (varF 13)
def q2__law_carries_over : Ev Dk := compF [13] (itemsF (varF 3)) (putV 13) (truF (binF eqD (callF g__law_draw (consL (varF 0) (consL (cstF (.int 2)) nilL))) (cstF (.int 0)))) (varF 13)
def bd1__law_carries_over : Ss Dk := (seqF (setF false 12 (callF g__law_is_paper (consL (varF 1) (consL (varF 11) (consL (varF 10) (consL (varF 4) (consL (varF 5) nilL))))))) (seqF (ifF (andB (notB (truF (varF 12))) (truF (binF eqD (binF eqD (binF ixD (varF 5) (cstF (.int 0))) (cstF (.str "steps"))) (binF neD (varF 9) (cstF (.int 1)))))) (retF (cstF (.bl false))) skipF) (ifF (truF (binF neD (mapF reprD (consL (callF g_follows_holds (consL (varF 1) (consL (varF 11) (consL (varF 10) (consL (varF 4) (consL (varF 5) nilL)))))) nilL)) (mapF reprD (consL (varF 12) nilL)))) (retF (cstF (.bl false))) skipF)))
def lp1__law_carries_over : Ss Dk := forF (tupG 2 (consG (putV 9) (consG (tupG 2 (consG (putV 10) (consG (putV 11) nilG))) nilG))) (enumL (consL (mapF dispT (consL (mapF dispT (consL (varF 6) (consL (varF 2) nilL))) (consL (mapF dispT (consL (varF 7) (consL (varF 2) nilL))) (consL (mapF dispT (consL (varF 3) (consL (varF 8) nilL))) nilL)))) nilL)) bd1__law_carries_over
def b__law_carries_over : Ss Dk := (seqF (setF false 5 (callF g_judge_follows (consL (varF 1) (consL (varF 2) (consL (varF 3) (consL (varF 4) nilL)))))) (seqF (setF false 6 (mapF tupleD (consL q1__law_carries_over nilL))) (seqF (setF false 7 (mapF tupleD (consL q2__law_carries_over nilL))) (seqF (setF false 8 (iteF' (truF (binF ltD (mapF lenD (consL (varF 2) nilL)) (cstF (.int 8)))) (binF addD (varF 2) (mapF dispT (consL (callF g__law_rule (consL (varF 0) (consL (varF 1) (consL (cstF (.int 3)) nilL)))) nilL))) (varF 2))) (seqF lp1__law_carries_over (retF (cstF (.bl true))))))))
theorem sc__law_carries_over : FnScope ["_law_deck_here", "_law_m", "_law_rules_here", "_law_lot_here", "_law_fact", "_law_paper", "_law_more", "_law_less", "_law_longer", "_law_at", "_law_other", "_law_some", "_law_due", "_law_it"] ["_law_deck_here", "_law_m", "_law_rules_here", "_law_lot_here", "_law_fact"] (defScope s__law_carries_over) := ⟨rfl, rfl, rfl, by decide +kernel, rfl, by decide +kernel, by decide +kernel⟩
def g__law_carries_over : List D → Dk → Option (D × Dk) := defN 5 14 b__law_carries_over
theorem k__law_carries_over (X : K.In h) (G : h.Ns mainGlobals mg) (sd : He.SaysD fa fn K) : Got P w K mg base (dW "cells" "draws" T c) "_law_carries_over" s__law_carries_over 11 5 ["_law_deck_here", "_law_m", "_law_rules_here", "_law_lot_here", "_law_fact"] g__law_carries_over := by
  have o__law_draw := k__law_draw (P := P) (w := w) (base := base) (T := T) (c := c) X G sd
  have o__law_is_paper := k__law_is_paper (P := P) (w := w) (base := base) (T := T) (c := c) X G sd
  have o__law_rule := k__law_rule (P := P) (w := w) (base := base) (T := T) (c := c) X G sd
  have o_follows_holds := k_follows_holds (P := P) (w := w) (base := base) (T := T) (c := c) X G sd
  have o_judge_follows := k_judge_follows (P := P) (w := w) (base := base) (T := T) (c := c) X G sd
  have m_enumerate : mg "enumerate" = none := He.free_ok X G (sd.fact 36 rfl)
  have m_len : mg "len" = none := He.free_ok X G (sd.fact 39 rfl)
  have m_range : mg "range" = none := He.free_ok X G (sd.fact 43 rfl)
  have m_repr : mg "repr" = none := He.free_ok X G (sd.fact 44 rfl)
  have m_tuple : mg "tuple" = none := He.free_ok X G (sd.fact 48 rfl)
  exact got (sd.def_ 32 (d := d__law_carries_over) rfl) (He.glo_ok X G (sd.fact 32 (f := .glo "_law_carries_over") rfl)) sc__law_carries_over rfl (by decide) fun f cdv A outer s H E hr => by
    unfold b__law_carries_over
    exact (sss_cons (ss_set (i := 5) sc__law_carries_over.nd rfl (by first | exact Or.inl rfl | exact Or.inr rfl) (callD o_judge_follows (hr.mono (by decide)) (by rfl) (fun _ _ _ _ _ _ us hl => match us, hl with | [_, _, _, _], _ => rfl) (sl_cons (ev 1) (sl_cons (ev 2) (sl_cons (ev 3) (sl_cons (ev 4) sl_nil rfl) rfl) rfl) rfl) (by decide) rfl rfl) rfl (by first | exact Or.inl rfl | exact Or.inr rfl)) (sss_cons (ss_set (i := 6) sc__law_carries_over.nd rfl (by first | exact Or.inl rfl | exact Or.inr rfl) (se_weak (se_cT cv_tuple (by rfl) m_tuple b_tuple (sl_cons (se_comp (own := [("_law_it", 13)]) rfl sc__law_carries_over.nd (si_rng1 (by rfl) m_range (ev 1) rfl) (blkOk_by rfl) (fun _ _ _ _ _ => (sg_name (i := 13) sc__law_carries_over.nd rfl (by first | exact Or.inl rfl | exact Or.inr rfl) (by first | exact Or.inl rfl | exact Or.inr rfl))) (by decide) (fun _ _ _ _ _ => (sbs_one (L2.PW.pt (sb_or (sb_cm (ov_in hr.hu) isB_in (ev 13) (ev 3) rfl) (pw_or1 (sb_cm (ov_eq hr.hu0) isB_eq (callD o__law_draw (hr.mono (by decide)) (by rfl) (fun _ _ _ _ _ _ us hl => match us, hl with | [_, _], _ => rfl) (sl_cons (ev 0) (sl_cons eInt sl_nil rfl) rfl) (by decide) rfl rfl) eInt (nomark _))))))) (fun _ _ _ _ _ => (ev 13)) (fun _ => rfl)) sl_nil rfl) (by decide) (by decide) rfl rfl)) rfl (by first | exact Or.inl rfl | exact Or.inr rfl)) (sss_cons (ss_set (i := 7) sc__law_carries_over.nd rfl (by first | exact Or.inl rfl | exact Or.inr rfl) (se_weak (se_cT cv_tuple (by rfl) m_tuple b_tuple (sl_cons (se_comp (own := [("_law_it", 13)]) rfl sc__law_carries_over.nd (si_val (ev 3)) (blkOk_by rfl) (fun _ _ _ _ _ => (sg_name (i := 13) sc__law_carries_over.nd rfl (by first | exact Or.inl rfl | exact Or.inr rfl) (by first | exact Or.inl rfl | exact Or.inr rfl))) (by decide) (fun _ _ _ _ _ => (sbs_one (sb_cm (ov_eq hr.hu0) isB_eq (callD o__law_draw (hr.mono (by decide)) (by rfl) (fun _ _ _ _ _ _ us hl => match us, hl with | [_, _], _ => rfl) (sl_cons (ev 0) (sl_cons eInt sl_nil rfl) rfl) (by decide) rfl rfl) eInt (nomark _)))) (fun _ _ _ _ _ => (ev 13)) (fun _ => rfl)) sl_nil rfl) (by decide) (by decide) rfl rfl)) rfl (by first | exact Or.inl rfl | exact Or.inr rfl)) (sss_cons (ss_set (i := 8) sc__law_carries_over.nd rfl (by first | exact Or.inl rfl | exact Or.inr rfl) (se_ite (sb_cm ov_lt isB_lt (se_cB cv_len (by rfl) m_len b_len (sl_cons (ev 2) sl_nil rfl) (by decide) (by decide) rfl rfl) eInt (nomark _)) (se_op ov_add (ev 2) (se_tup (sl_cons (callD o__law_rule (hr.mono (by decide)) (by rfl) (fun _ _ _ _ _ _ us hl => match us, hl with | [_, _, _], _ => rfl) (sl_cons (ev 0) (sl_cons (ev 1) (sl_cons eInt sl_nil rfl) rfl) rfl) (by decide) rfl rfl) sl_nil rfl))) (ev 2)) rfl (by first | exact Or.inl rfl | exact Or.inr rfl)) (sss_cons (ss_for PassesOwn.never rfl (si_enum (by rfl) m_enumerate (sl_cons (se_tup (sl_cons (se_tup (sl_cons (ev 6) (sl_cons (ev 2) sl_nil rfl) rfl)) (sl_cons (se_tup (sl_cons (ev 7) (sl_cons (ev 2) sl_nil rfl) rfl)) (sl_cons (se_tup (sl_cons (ev 3) (sl_cons (ev 8) sl_nil rfl) rfl)) sl_nil rfl) rfl) rfl)) sl_nil rfl) rfl) (sg_tup rfl (sgs_cons (sg_name (i := 9) sc__law_carries_over.nd rfl (by first | exact Or.inl rfl | exact Or.inr rfl) (by first | exact Or.inl rfl | exact Or.inr rfl)) (sgs_cons (sg_tup rfl (sgs_cons (sg_name (i := 10) sc__law_carries_over.nd rfl (by first | exact Or.inl rfl | exact Or.inr rfl) (by first | exact Or.inl rfl | exact Or.inr rfl)) (sgs_cons (sg_name (i := 11) sc__law_carries_over.nd rfl (by first | exact Or.inl rfl | exact Or.inr rfl) (by first | exact Or.inl rfl | exact Or.inr rfl)) sgs_nil rfl) rfl) rfl rfl) sgs_nil rfl) rfl) rfl rfl) (sss_cons (ss_set (i := 12) sc__law_carries_over.nd rfl (by first | exact Or.inl rfl | exact Or.inr rfl) (callD o__law_is_paper (hr.mono (by decide)) (by rfl) (fun _ _ _ _ _ _ us hl => match us, hl with | [_, _, _, _, _], _ => rfl) (sl_cons (ev 1) (sl_cons (ev 11) (sl_cons (ev 10) (sl_cons (ev 4) (sl_cons (ev 5) sl_nil rfl) rfl) rfl) rfl) rfl) (by decide) rfl rfl) rfl (by first | exact Or.inl rfl | exact Or.inr rfl)) (sss_cons (ss_if (L2.PW.pt (sb_and (sb_not (sb_val (ev 12) (fun _ => rfl))) (pw_and1 (sb_cm (ov_eq hr.hu0) isB_eq (se_cm (ov_eq hr.hu0) (se_at (ev 5) eInt (fun _ _ => rfl)) eStr (nomark _)) (se_cm (ov_ne hr.hu0) (ev 9) eInt (nomark _)) (nomark _))))) (sss_one (ss_ret eBl)) sss_nil) (sss_one (ss_if (sb_cm (ov_ne hr.hu0) isB_ne (se_cB (cv_repr hr.gd hr.hu) (by rfl) m_repr b_repr (sl_cons (callD o_follows_holds (hr.mono (by decide)) (by rfl) (fun _ _ _ _ _ _ us hl => match us, hl with | [_, _, _, _, _], _ => rfl) (sl_cons (ev 1) (sl_cons (ev 11) (sl_cons (ev 10) (sl_cons (ev 4) (sl_cons (ev 5) sl_nil rfl) rfl) rfl) rfl) rfl) (by decide) rfl rfl) sl_nil rfl) (by decide) (by decide) rfl rfl) (se_cB (cv_repr hr.gd hr.hu) (by rfl) m_repr b_repr (sl_cons (ev 12) sl_nil rfl) (by decide) (by decide) rfl rfl) (nomark _)) (sss_one (ss_ret eBl)) sss_nil)))) (fun _ => rfl)) (sss_one (ss_ret eBl)))))))
def q1_law : Ev Dk := compF [10] (rangeL (consL (binF subD (varF 3) (cstF (.int 1))) nilL)) (putV 10) yesB (mapF dispT (consL (mapF dispT (consL (binF ixD (varF 4) (varF 10)) nilL)) (consL (binF ixD (varF 4) (binF addD (varF 10) (cstF (.int 1)))) nilL)))
def q2_law : Ev Dk := compF [10] (itemsF (callF g__law_order (consL (varF 1) (consL (binF subD (varF 3) (cstF (.int 1))) nilL)))) (putV 10) yesB (binF ixD (varF 5) (varF 10))
def bd1_law : Ss Dk := (ifF (notB (truF (callF g__law_is_judged (consL (varF 3) (consL (varF 6) (consL (varF 8) (consL (varF 9) nilL))))))) (retF (cstF (.bl false))) skipF)
def lp1_law : Ss Dk := forF (putV 9) (rangeL (consL (varF 3) nilL)) bd1_law
def bd2_law : Ss Dk := (seqF lp1_law (ifF (notB (truF (callF g__law_carries_over (consL (varF 1) (consL (varF 3) (consL (varF 6) (consL (varF 8) (consL (callF g__law_draw (consL (varF 1) (consL (varF 3) nilL))) nilL)))))))) (retF (cstF (.bl false))) skipF))
def lp2_law : Ss Dk := forF (putV 8) (itemsF (varF 7)) bd2_law
def q3_law : Ev Dk := compF [9] (rangeL (consL (varF 3) nilL)) (putV 9) (truF (binF eqD (binF ixD (callF g_judge_follows (consL (varF 3) (consL (varF 6) (consL (binF ixD (varF 7) (cstF (.int 3))) (consL (varF 9) nilL))))) (cstF (.int 0))) (cstF (.str "steps")))) (varF 9)
def bd3_law : Ss Dk := (seqF (setF false 3 (callF g__law_pick (consL (varF 1) (consL (mapF dispL (consL (cstF (.int 3)) (consL (cstF (.int 1)) (consL (cstF (.int 2)) (consL (cstF (.int 3)) (consL (cstF (.int 4)) (consL (cstF (.int 4)) (consL (cstF (.int 5)) (consL (cstF (.int 6)) nilL))))))))) nilL)))) (seqF (setF false 4 (callF g__law_order (consL (varF 1) (consL (varF 3) nilL)))) (seqF (setF false 5 (mapF tupleD (consL q1_law nilL))) (seqF (setF false 6 (iteF' (truF (binF gtD (callF g__law_draw (consL (varF 1) (consL (cstF (.int 4)) nilL))) (cstF (.int 0)))) (callF g__law_rules (consL (varF 1) (consL (varF 3) nilL))) (mapF tupleD (consL q2_law nilL)))) (seqF (setF false 7 (mapF dispL (consL (mapF dispT nilL) (consL (callF g__law_lot (consL (varF 1) (consL (varF 3) nilL))) (consL (callF g__law_lot (consL (varF 1) (consL (varF 3) nilL))) (consL (mapF dispT (consL (binF ixD (varF 4) (cstF (.int 0))) nilL)) nilL)))))) (seqF lp2_law (ifF (truF (binF neD (mapF reprD (consL (callF g_closure (consL (varF 3) (consL (varF 6) (consL (binF ixD (varF 7) (cstF (.int 3))) nilL)))) nilL)) (mapF reprD (consL (mapF tupleD (consL q3_law nilL)) nilL)))) (retF (cstF (.bl false))) skipF)))))))
def lp3_law : Ss Dk := forF (putV 2) (rangeL (consL (cstF (.int 2)) nilL)) bd3_law
def b_law : Ss Dk := (seqF lp3_law (retF (cstF (.bl true))))
theorem sc_law : FnScope ["_law_script", "_law_deck_here", "_law_turn", "_law_m", "_law_order_here", "_law_chain", "_law_rules_here", "_law_lots", "_law_lot_here", "_law_fact", "_law_at"] ["_law_script"] (defScope s_law) := ⟨rfl, rfl, rfl, by decide +kernel, rfl, by decide +kernel, by decide +kernel⟩
theorem body_law (X : K.In h) (G : h.Ns mainGlobals mg) (sd : He.SaysD fa fn K) (f : Addr) (cdv : Value) (A : Around) (outer : List Env) (s : Shared) (H : Hp) (E : XK) (hr : RoomG 11 (A.deeper (envOfC "law" (defScope s_law) s.heap.objs.size f cdv))) :
    PSs (cxOf CX0 P w K mg base ["_law_script", "_law_deck_here", "_law_turn", "_law_m", "_law_order_here", "_law_chain", "_law_rules_here", "_law_lots", "_law_lot_here", "_law_fact", "_law_at"] "law" (defScope s_law) f cdv A outer s H E).nox ((defBody s_law).drop 1) (SS K (dW "cells" "draws" T c) b_law) := by
  have o__law_carries_over := k__law_carries_over (P := P) (w := w) (base := base) (T := T) (c := c) X G sd
  have o__law_draw := k__law_draw (P := P) (w := w) (base := base) (T := T) (c := c) X G sd
  have o__law_is_judged := k__law_is_judged (P := P) (w := w) (base := base) (T := T) (c := c) X G sd
  have o__law_lot := k__law_lot (P := P) (w := w) (base := base) (T := T) (c := c) X G sd
  have o__law_order := k__law_order (P := P) (w := w) (base := base) (T := T) (c := c) X G sd
  have o__law_pick := k__law_pick (P := P) (w := w) (base := base) (T := T) (c := c) X G sd
  have o__law_rules := k__law_rules (P := P) (w := w) (base := base) (T := T) (c := c) X G sd
  have o_closure := k_closure (P := P) (w := w) (base := base) (T := T) (c := c) X G sd
  have o_judge_follows := k_judge_follows (P := P) (w := w) (base := base) (T := T) (c := c) X G sd
  have m_range : mg "range" = none := He.free_ok X G (sd.fact 43 rfl)
  have m_repr : mg "repr" = none := He.free_ok X G (sd.fact 44 rfl)
  have m_tuple : mg "tuple" = none := He.free_ok X G (sd.fact 48 rfl)
  unfold b_law
  exact (sss_cons (ss_for PassesOwn.never rfl (si_rng1 (by rfl) m_range eInt rfl) (sg_name (i := 2) sc_law.nd rfl (by first | exact Or.inl rfl | exact Or.inr rfl) (by first | exact Or.inl rfl | exact Or.inr rfl)) (sss_cons (ss_set (i := 3) sc_law.nd rfl (by first | exact Or.inl rfl | exact Or.inr rfl) (callD o__law_pick (hr.mono (by decide)) (by rfl) (fun _ _ _ _ _ _ us hl => match us, hl with | [_, _], _ => rfl) (sl_cons (ev 1) (sl_cons (se_lst (sl_cons eInt (sl_cons eInt (sl_cons eInt (sl_cons eInt (sl_cons eInt (sl_cons eInt (sl_cons eInt (sl_cons eInt sl_nil rfl) rfl) rfl) rfl) rfl) rfl) rfl) rfl)) sl_nil rfl) rfl) (by decide) rfl rfl) rfl (by first | exact Or.inl rfl | exact Or.inr rfl)) (sss_cons (ss_set (i := 4) sc_law.nd rfl (by first | exact Or.inl rfl | exact Or.inr rfl) (callD o__law_order (hr.mono (by decide)) (by rfl) (fun _ _ _ _ _ _ us hl => match us, hl with | [_, _], _ => rfl) (sl_cons (ev 1) (sl_cons (ev 3) sl_nil rfl) rfl) (by decide) rfl rfl) rfl (by first | exact Or.inl rfl | exact Or.inr rfl)) (sss_cons (ss_set (i := 5) sc_law.nd rfl (by first | exact Or.inl rfl | exact Or.inr rfl) (se_weak (se_cT cv_tuple (by rfl) m_tuple b_tuple (sl_cons (se_comp (own := [("_law_at", 10)]) rfl sc_law.nd (si_rng1 (by rfl) m_range (se_op ov_sub (ev 3) eInt) rfl) (blkOk_by rfl) (fun _ _ _ _ _ => (sg_name (i := 10) sc_law.nd rfl (by first | exact Or.inl rfl | exact Or.inr rfl) (by first | exact Or.inl rfl | exact Or.inr rfl))) (by decide) (fun _ _ _ _ _ => sbs_nil) (fun _ _ _ _ _ => (se_tup (sl_cons (se_tup (sl_cons (se_at (ev 4) (ev 10) (fun _ _ => rfl)) sl_nil rfl)) (sl_cons (se_at (ev 4) (se_op ov_add (ev 10) eInt) (fun _ _ => rfl)) sl_nil rfl) rfl))) (fun _ => rfl)) sl_nil rfl) (by decide) (by decide) rfl rfl)) rfl (by first | exact Or.inl rfl | exact Or.inr rfl)) (sss_cons (ss_set (i := 6) sc_law.nd rfl (by first | exact Or.inl rfl | exact Or.inr rfl) (se_ite (sb_cm ov_gt isB_gt (callD o__law_draw (hr.mono (by decide)) (by rfl) (fun _ _ _ _ _ _ us hl => match us, hl with | [_, _], _ => rfl) (sl_cons (ev 1) (sl_cons eInt sl_nil rfl) rfl) (by decide) rfl rfl) eInt (nomark _)) (callD o__law_rules (hr.mono (by decide)) (by rfl) (fun _ _ _ _ _ _ us hl => match us, hl with | [_, _], _ => rfl) (sl_cons (ev 1) (sl_cons (ev 3) sl_nil rfl) rfl) (by decide) rfl rfl) (se_cT cv_tuple (by rfl) m_tuple b_tuple (sl_cons (se_comp (own := [("_law_at", 10)]) rfl sc_law.nd (si_val (callD o__law_order (hr.mono (by decide)) (by rfl) (fun _ _ _ _ _ _ us hl => match us, hl with | [_, _], _ => rfl) (sl_cons (ev 1) (sl_cons (se_op ov_sub (ev 3) eInt) sl_nil rfl) rfl) (by decide) rfl rfl)) (blkOk_by rfl) (fun _ _ _ _ _ => (sg_name (i := 10) sc_law.nd rfl (by first | exact Or.inl rfl | exact Or.inr rfl) (by first | exact Or.inl rfl | exact Or.inr rfl))) (by decide) (fun _ _ _ _ _ => sbs_nil) (fun _ _ _ _ _ => (se_at (ev 5) (ev 10) (fun _ _ => rfl))) (fun _ => rfl)) sl_nil rfl) (by decide) (by decide) rfl rfl)) rfl (by first | exact Or.inl rfl | exact Or.inr rfl)) (sss_cons (ss_set (i := 7) sc_law.nd rfl (by first | exact Or.inl rfl | exact Or.inr rfl) (se_weak (se_lst (sl_cons (se_tup sl_nil) (sl_cons (callD o__law_lot (hr.mono (by decide)) (by rfl) (fun _ _ _ _ _ _ us hl => match us, hl with | [_, _], _ => rfl) (sl_cons (ev 1) (sl_cons (ev 3) sl_nil rfl) rfl) (by decide) rfl rfl) (sl_cons (callD o__law_lot (hr.mono (by decide)) (by rfl) (fun _ _ _ _ _ _ us hl => match us, hl with | [_, _], _ => rfl) (sl_cons (ev 1) (sl_cons (ev 3) sl_nil rfl) rfl) (by decide) rfl rfl) (sl_cons (se_tup (sl_cons (se_at (ev 4) eInt (fun _ _ => rfl)) sl_nil rfl)) sl_nil rfl) rfl) rfl) rfl))) rfl (by first | exact Or.inl rfl | exact Or.inr rfl)) (sss_cons (ss_for PassesOwn.never rfl (si_val (ev 7)) (sg_name (i := 8) sc_law.nd rfl (by first | exact Or.inl rfl | exact Or.inr rfl) (by first | exact Or.inl rfl | exact Or.inr rfl)) (sss_cons (ss_for PassesOwn.never rfl (si_rng1 (by rfl) m_range (ev 3) rfl) (sg_name (i := 9) sc_law.nd rfl (by first | exact Or.inl rfl | exact Or.inr rfl) (by first | exact Or.inl rfl | exact Or.inr rfl)) (sss_one (ss_if (sb_not (sb_val (callD o__law_is_judged (hr.mono (by decide)) (by rfl) (fun _ _ _ _ _ _ us hl => match us, hl with | [_, _, _, _], _ => rfl) (sl_cons (ev 3) (sl_cons (ev 6) (sl_cons (ev 8) (sl_cons (ev 9) sl_nil rfl) rfl) rfl) rfl) (by decide) rfl rfl) (fun _ => rfl))) (sss_one (ss_ret eBl)) sss_nil)) (fun _ => rfl)) (sss_one (ss_if (sb_not (sb_val (callD o__law_carries_over (hr.mono (by decide)) (by rfl) (fun _ _ _ _ _ _ us hl => match us, hl with | [_, _, _, _, _], _ => rfl) (sl_cons (ev 1) (sl_cons (ev 3) (sl_cons (ev 6) (sl_cons (ev 8) (sl_cons (callD o__law_draw (hr.mono (by decide)) (by rfl) (fun _ _ _ _ _ _ us hl => match us, hl with | [_, _], _ => rfl) (sl_cons (ev 1) (sl_cons (ev 3) sl_nil rfl) rfl) (by decide) rfl rfl) sl_nil rfl) rfl) rfl) rfl) rfl) (by decide) rfl rfl) (fun _ => rfl))) (sss_one (ss_ret eBl)) sss_nil))) (fun _ => rfl)) (sss_one (ss_if (sb_cm (ov_ne hr.hu0) isB_ne (se_cB (cv_repr hr.gd hr.hu) (by rfl) m_repr b_repr (sl_cons (callD o_closure (hr.mono (by decide)) (by rfl) (fun _ _ _ _ _ _ us hl => match us, hl with | [_, _, _], _ => rfl) (sl_cons (ev 3) (sl_cons (ev 6) (sl_cons (se_at (ev 7) eInt (fun _ _ => rfl)) sl_nil rfl) rfl) rfl) (by decide) rfl rfl) sl_nil rfl) (by decide) (by decide) rfl rfl) (se_cB (cv_repr hr.gd hr.hu) (by rfl) m_repr b_repr (sl_cons (se_cT cv_tuple (by rfl) m_tuple b_tuple (sl_cons (se_comp (own := [("_law_fact", 9)]) rfl sc_law.nd (si_rng1 (by rfl) m_range (ev 3) rfl) (blkOk_by rfl) (fun _ _ _ _ _ => (sg_name (i := 9) sc_law.nd rfl (by first | exact Or.inl rfl | exact Or.inr rfl) (by first | exact Or.inl rfl | exact Or.inr rfl))) (by decide) (fun _ _ _ _ _ => (sbs_one (sb_cm (ov_eq hr.hu0) isB_eq (se_at (callD o_judge_follows (hr.mono (by decide)) (by rfl) (fun _ _ _ _ _ _ us hl => match us, hl with | [_, _, _, _], _ => rfl) (sl_cons (ev 3) (sl_cons (ev 6) (sl_cons (se_at (ev 7) eInt (fun _ _ => rfl)) (sl_cons (ev 9) sl_nil rfl) rfl) rfl) rfl) (by decide) rfl rfl) eInt (fun _ _ => rfl)) eStr (nomark _)))) (fun _ _ _ _ _ => (ev 9)) (fun _ => rfl)) sl_nil rfl) (by decide) (by decide) rfl rfl) sl_nil rfl) (by decide) (by decide) rfl rfl) (nomark _)) (sss_one (ss_ret eBl)) sss_nil)))))))) (fun _ => rfl)) (sss_one (ss_ret eBl)))
def lawN : Nat := 11
theorem k_law (hl : ∀ s : Dk, s.cells.length ≤ 64 → ∃ ρ' s', b_law (startL 11) s = some (.rt (.bl true), ρ', s')) (X : K.In h) (G : h.Ns mainGlobals mg) (sd : He.SaysD fa fn K) {fd : FuncData} (F : FunD K "law" "law" (defArgs s_law) (defBody s_law) (defScope s_law) [] [] (He.ga K "law") fd) : FnG P w K mg base 12 (He.ga K "law") fd ["_law_script"] (spLaw K) := by
  obtain ⟨fdD, FD, FG⟩ := k__law_deck (P := P) (w := w) (base := base) X G sd
  refine okGD F sc_law (fun vs H Q E h => ?_) fun cdv A outer s H vs Q E hr h => ⟨_, PSs.nox ?_, law_val (kc := "cells") (kd := "draws") (N := ["_law_turn", "_law_m", "_law_order_here", "_law_chain", "_law_rules_here", "_law_lots", "_law_lot_here", "_law_fact", "_law_at"]) hl h⟩
  · obtain ⟨a, ns, rfl, _⟩ := h
    rfl
  · exact pss_cons (ps_set (i := 1) sc_law.nd rfl (by first | exact Or.inl rfl | exact Or.inr rfl) (pe_callG FG (hr.mono (by decide)) (by rfl) (He.glo_ok X G (sd.fact 20 (f := .glo "_law_deck") rfl)) FD.kp (FD.bindsN fun _ _ _ _ _ _ us hl => match us, hl with | [_], _ => rfl) .nil (pa_cons (pv 0) pa_nil) (by decide) rfl rfl))
      (pss_ex fun i : Addr × Addr => body_law (T := i.1) (c := i.2) X G sd _ cdv A outer s H E hr)
end
abbrev hk : PySem.W.Hook := He.hookD 4 fa fn
def ob (s : PySem.W.SharedT) : He.AlD := He.obsDG 4 fa fn (HandSHeadRun.getT s)
theorem ob_eq (s : PySem.W.SharedT) : ob s = hk.obs s.abs := He.obsDG_eq (HandSHeadRun.getT_eq s)
theorem run (w : World) : HandSHeadRun.RunEq R qv hk ob 4000 loose w := by
  intro os
  kernel_rfl
theorem facts (hl : ∀ s : Dk, s.cells.length ≤ 64 → ∃ ρ' s', b_law (startL 11) s = some (.rt (.bl true), ρ', s')) {P : Program} {w : World} {K : PySem.W.Frag} {h : Heap} {mg : Str → Option Value} {f : Addr} (X : K.In h) (G : h.Ns mainGlobals mg) (hfa : mg ("law" : Str) = some (.ref f)) (sd : He.SaysD fa fn K) :
    ∃ fd : FuncData, (∀ (s : Shared) (v : Value), BindsTo s fd ⟨[v], []⟩ [("_law_script", v)]) ∧ ∀ base : Heap, K.In base → base.Ns mainGlobals mg → FnG P w K mg base 12 f fd ["_law_script"] (spLaw K) := by
  obtain ⟨fd, F⟩ := sd.def_ 33 (d := d_law) rfl
  have e := hfa.symm.trans (He.glo_ok X G (sd.fact 33 (f := .glo "law") rfl))
  cases e
  have b := FunD.bindsA (ps := ["_law_script"]) F fun _ _ _ _ _ _ us hl => match us, hl with | [_], _ => rfl
  exact ⟨fd, fun s v => b s [v] rfl, fun base _ _ => k_law hl X G sd F⟩
end Q
open PySem PySem.W PySem.Calls PyProof.Rows
theorem law_holds (hl : ∀ s : L3.Dk, s.cells.length ≤ 64 → ∃ ρ' s', Q.b_law (L3.startL 11) s = some (.rt (.bl true), ρ', s')) : PySem.Challenge.rw_bothandall_k02_whole_what_follows.Holds := by
  w_on; o_law
  refine HandSHeadRun.head_any (r := OpenLaw.row PySem.Challenge.rw_bothandall_k02_whole_what_follows) (q := Q.qv) (H := Q.hk) (ob := Q.ob) (M := 4000) (loose := Q.loose) (d := HandSHeadRun.topDef (OpenLaw.row PySem.Challenge.rw_bothandall_k02_whole_what_follows).prog 44) (kwd := []) Q.ob_eq
    (by kernel_rfl) (fun s => by kernel_rfl) Q.run (by kernel_rfl) (by kernel_rfl) (by kernel_rfl) (by rfl) (by first | assumption | decide +kernel) (by decide +kernel) ⟨rfl, rfl, rfl, rfl, rfl, by decide +kernel⟩ ?hw ?hc
  case hw => w_witness2
  case hc =>
    refine L3.walk_G (l := PySem.Challenge.rw_bothandall_k02_whole_what_follows) (n := 63) (k := 12) (x := "_law_script") rfl (by decide) (by kernel_rfl) (L3.roomG_caller ⟨rfl, by decide, by decide⟩) ?F
    intro w mg fa h Y G hmg0
    obtain ⟨K, KX, c⟩ := Y
    have hmg : mg ("law" : PySem.Str) = some (.ref fa) := by
      have e : (HandSHeadRun.topDef (OpenLaw.row PySem.Challenge.rw_bothandall_k02_whole_what_follows).prog 44).name = ("law" : PySem.Str) := by kernel_rfl
      rw [← e]
      exact hmg0
    obtain ⟨fd, hb, hF⟩ := Q.facts hl (P := (PySem.Challenge.rw_bothandall_k02_whole_what_follows).prog) (w := w) KX G hmg c
    exact ⟨K, fd, L3.spLaw K, KX, hb, fun H a ns hl _ hS => ⟨a, ns, rfl, hS, hl, fun _ => rfl⟩, hF⟩
end
section
set_option Elab.async false
set_option linter.all false
set_option maxRecDepth 100000
set_option autoImplicit false
set_option maxHeartbeats 2000000
namespace Q
open PySem PySem.Spec PyProof.Rows L2 L3
theorem v_is_integer (i : Int) (s : Dk) : g_is_integer [.int i] s = some (.bl true, s) := by
  simp [g_is_integer, b_is_integer]
theorem v_is_between (x a b : Int) (s : Dk) : g_is_between [.int x, .int a, .int b] s = some (.bl (decide (a ≤ x) && decide (x ≤ b)), s) := by
  by_cases h : a ≤ x
  · simp [g_is_between, b_is_between, v_is_integer, h]
  · simp [g_is_between, b_is_between, v_is_integer, h]
theorem all_true {α : Type} (xs : List α) (f : α → Bool) (h : ∀ x ∈ xs, f x = true) : allD [.lst (xs.map fun x => .bl (f x))] = some (.bl true) := by
  have : xs.map (fun x => D.bl (f x)) = (xs.map f).map .bl := by rw [List.map_map]; rfl
  rw [this, c_all]
  have : (xs.map f).all id = true := by
    rw [List.all_map]
    exact List.all_eq_true.mpr h
  rw [this]
theorem vq_are_between (ns : List Int) (a b : Int) (s : Dk) (hz : ns.length ≤ sizeLine) : q1_are_between [.val (tupI ns), .val (.int a), .val (.int b), .non] s = some (.lst (ns.map fun x => .bl (decide (a ≤ x) && decide (x ≤ b))), [.val (tupI ns), .val (.int a), .val (.int b), .non], s) := by
  unfold q1_are_between
  refine (comp_map ns .int (fun _ => true) (fun x => .bl (decide (a ≤ x) && decide (x ≤ b))) (ρ1 := [.val (tupI ns), .val (.int a), .val (.int b), .non]) (s1 := s) (by simp [tupI]) (by simp) hz (fun x hx => by simp [v_is_between])).trans (by simp)
theorem v_are_between (ns : List Int) (a b : Int) (s : Dk) (h : ∀ x ∈ ns, a ≤ x ∧ x ≤ b) (hz : ns.length ≤ sizeLine) : g_are_between [tupI ns, .int a, .int b] s = some (.bl true, s) := by
  have ha := all_true ns (fun x => decide (a ≤ x) && decide (x ≤ b)) (fun x hx => by simp [h x hx])
  have hi : isiD [tupI ns, .ty "tuple"] = some (.bl true) := rfl
  simp [g_are_between, b_are_between, vq_are_between ns a b s hz, ha, hi]
/-- strictly ascending -/
def asc (ns : List Int) : Prop := ns.Pairwise (· < ·)
def pairsD : List Int → List (Int × Int)
  | x :: y :: r => (x, y) :: pairsD (y :: r)
  | _ => []
theorem zip_pairs : ∀ ns : List Int, zipD (ns.map .int) ((ns.drop 1).map .int) = (pairsD ns).map fun p => .tup [.int p.1, .int p.2]
  | [] => rfl
  | [_] => rfl
  | x :: y :: r => by
    have ih := zip_pairs (y :: r)
    simp only [List.drop_succ_cons, List.drop_zero, List.map_cons, zipD, pairsD] at ih ⊢
    rw [← ih]
theorem pairs_len : ∀ ns : List Int, (pairsD ns).length ≤ ns.length
  | [] => Nat.le_refl _
  | [_] => by simp [pairsD]
  | x :: y :: r => by
    have := pairs_len (y :: r)
    simp only [pairsD, List.length_cons] at this ⊢
    omega
theorem pairs_asc : ∀ {ns : List Int}, asc ns → ∀ p ∈ pairsD ns, p.1 < p.2
  | [], _, p, h => by cases h
  | [_], _, p, h => by cases h
  | x :: y :: r, h, p, hp => by
    unfold asc at h
    rw [List.pairwise_cons] at h
    rcases List.mem_cons.mp hp with rfl | hp
    · exact h.1 y List.mem_cons_self
    · exact pairs_asc h.2 p hp
theorem cut1D (ns : List Int) : L3.cutD (ns.map .int) (some 1) none = (ns.drop 1).map .int := by
  unfold L3.cutD
  rw [HT.sIx_none, show (some (1 : Int)) = some ((1 : Nat) : Int) from rfl, HT.sIx_nat, List.map_drop]
  cases ns with
  | nil => rfl
  | cons x r => simp [List.take_of_length_le]
theorem vq_is_ascending (ns : List Int) (s : Dk) (hz : ns.length ≤ sizeLine) : q1_is_ascending [.val (tupI ns), .non, .non] s = some (.lst ((pairsD ns).map fun p => .bl (decide (p.1 < p.2))), [.val (tupI ns), .non, .non], s) := by
  unfold q1_is_ascending
  refine (comp_map (pairsD ns) (fun p => .tup [.int p.1, .int p.2]) (fun _ => true) (fun p => .bl (decide (p.1 < p.2))) (ρ1 := [.val (tupI ns), .non, .non]) (s1 := s) (by simp [tupI, cut1D, ← zip_pairs]) (by simp) (Nat.le_trans (pairs_len ns) hz) (fun x hx => by simp)).trans (by simp)
theorem v_is_ascending (ns : List Int) (s : Dk) (h : asc ns) (hz : ns.length ≤ sizeLine) : g_is_ascending [tupI ns] s = some (.bl true, s) := by
  have ha := all_true (pairsD ns) (fun p => decide (p.1 < p.2)) (fun x hx => by simp [pairs_asc h x hx])
  simp [g_is_ascending, b_is_ascending, vq_is_ascending ns s hz, ha]
/-- a lot of m facts -/
structure Lot (m : Int) (ns : List Int) : Prop where
  asc : asc ns
  rg : ∀ x ∈ ns, 0 ≤ x ∧ x < m
theorem asc_len : ∀ {ns : List Int} {a m : Int}, asc ns → (∀ x ∈ ns, a ≤ x ∧ x < m) → a ≤ m → (ns.length : Int) ≤ m - a
  | [], a, m, _, _, h => by simp; omega
  | x :: r, a, m, h, hr, ha => by
    unfold asc at h
    rw [List.pairwise_cons] at h
    have hx := hr x List.mem_cons_self
    have := asc_len (ns := r) (a := x + 1) (m := m) h.2 (fun y hy => ⟨by have := h.1 y hy; omega, (hr y (List.mem_cons_of_mem _ hy)).2⟩) (by omega)
    simp only [List.length_cons]
    omega
theorem Lot.len {m : Int} {ns : List Int} (h : Lot m ns) (hm : 0 ≤ m) : (ns.length : Int) ≤ m := by
  have := asc_len h.asc (a := 0) (m := m) h.rg hm
  omega
theorem v_is_facts_value (m : Int) (ns : List Int) (s : Dk) (h : Lot m ns) (hm : 0 ≤ m ∧ m ≤ 6) : g_is_facts_value [.int m, tupI ns] s = some (.bl true, s) := by
  have hl := h.len hm.1
  have hz : ns.length ≤ sizeLine := by rw [sizeL]; omega
  have h1 := v_are_between ns 0 (m - 1) s (fun x hx => by have := h.rg x hx; omega) hz
  have h2 := v_is_ascending ns s h.asc hz
  simp [g_is_facts_value, b_is_facts_value, h1, h2]
/-! ### rules -/
abbrev Rl := List Int × Int
def ruleD (r : Rl) : D := .tup [tupI r.1, .int r.2]
def rulesD (R : List Rl) : D := .tup (R.map ruleD)
structure RuleOk (m : Int) (r : Rl) : Prop where
  lot : Lot m r.1
  rg : 0 ≤ r.2 ∧ r.2 < m
  out : r.2 ∉ r.1
structure RulesOk (m : Int) (R : List Rl) : Prop where
  few : R.length ≤ 8
  ok : ∀ r ∈ R, RuleOk m r
@[simp] theorem atI0 {α : Type} (x : α) (xs : List α) : atI (x :: xs) 0 = some x := by simp [atI, ixN]
@[simp] theorem atI1 {α : Type} (x y : α) (xs : List α) : atI (x :: y :: xs) 1 = some y := by
  simp [atI, ixN]
  rw [if_pos (by omega)]
  rfl
@[simp] theorem noL_rule (r : Rl) : noL (ruleD r) = true := by simp [ruleD]
@[simp] theorem noLs_rules : ∀ R : List Rl, noLs (R.map ruleD) = true
  | [] => rfl
  | r :: R => by simp [noLs_rules R]
@[simp] theorem noL_rules (R : List Rl) : noL (rulesD R) = true := by simp [rulesD]
theorem okD_tupI' (ns : List Int) : okD 60 (tupI ns) = true := okD_tupI 59 ns
theorem okD_L (ns : List Int) : okD 60 (.lst (ns.map .int)) = true := by
  rw [okD_lst 59]
  exact okDs_ints 59 ns
theorem inB_tupI (i : Int) (ns : List Int) : ninD (.int i) (tupI ns) = some (.bl (!decide (i ∈ ns))) := by
  show ninD (.int i) (.tup (ns.map .int)) = _
  rw [o_ninT, inB_ints, okD_int, show okD 60 (.tup (ns.map .int)) = true from okD_tupI' ns]
  simp
theorem in_tupI (i : Int) (ns : List Int) : inD (.int i) (tupI ns) = some (.bl (decide (i ∈ ns))) := by
  show inD (.int i) (.tup (ns.map .int)) = _
  rw [o_inT, inB_ints, okD_int, show okD 60 (.tup (ns.map .int)) = true from okD_tupI' ns]
  simp
theorem nin_lst (i : Int) (ns : List Int) : ninD (.int i) (.lst (ns.map .int)) = some (.bl (!decide (i ∈ ns))) := by
  rw [o_ninL, inB_ints, okD_int, okD_L]
  simp
theorem in_lst (i : Int) (ns : List Int) : inD (.int i) (.lst (ns.map .int)) = some (.bl (decide (i ∈ ns))) := by
  rw [o_inL, inB_ints, okD_int, okD_L]
  simp
theorem v_is_rule_value (m : Int) (r : Rl) (s : Dk) (h : RuleOk m r) (hm : 0 ≤ m ∧ m ≤ 6) : g_is_rule_value [.int m, ruleD r] s = some (.bl true, s) := by
  have h1 := v_is_facts_value m r.1 s h.lot hm
  have h2 := h.rg
  have h3 : 0 ≤ r.2 ∧ r.2 ≤ m - 1 := by omega
  simp [g_is_rule_value, b_is_rule_value, ruleD, h1, v_is_between, inB_tupI, h.out, h3]
theorem vq_are_rules (m : Int) (R : List Rl) (s : Dk) (h : RulesOk m R) (hm : 0 ≤ m ∧ m ≤ 6) : q1_are_rules_value [.val (.int m), .val (rulesD R), .non] s = some (.lst (R.map fun _ => .bl true), [.val (.int m), .val (rulesD R), .non], s) := by
  unfold q1_are_rules_value
  refine (comp_map R ruleD (fun _ => true) (fun _ => .bl true) (ρ1 := [.val (.int m), .val (rulesD R), .non]) (s1 := s) (by simp [rulesD]) (by simp) (by have := h.few; rw [sizeL]; omega) (fun x hx => by simp [v_is_rule_value m x s (h.ok x hx) hm])).trans (by simp)
theorem v_are_rules (m : Int) (R : List Rl) (s : Dk) (h : RulesOk m R) (hm : 0 ≤ m ∧ m ≤ 6) : g_are_rules_value [.int m, rulesD R] s = some (.bl true, s) := by
  have ha := all_true R (fun _ => true) (fun _ _ => rfl)
  have hi : isiD [rulesD R, .ty "tuple"] = some (.bl true) := rfl
  have hl : lenD [rulesD R] = some (.int R.length) := by simp [rulesD]
  have hf : (R.length : Int) ≤ 8 := by have := h.few; omega
  simp [g_are_rules_value, b_are_rules_value, vq_are_rules m R s h hm, ha, hi, hl, hf]
theorem v_need_m (m : Int) (s : Dk) (hm : 1 ≤ m ∧ m ≤ 6) : g_need_facts_number [.int m] s = some (.non, s) := by
  simp [g_need_facts_number, b_need_facts_number, v_is_between, hm]
theorem v_need_rules (m : Int) (R : List Rl) (s : Dk) (h : RulesOk m R) (hm : 1 ≤ m ∧ m ≤ 6) : g_need_rules [.int m, rulesD R] s = some (.non, s) := by
  simp [g_need_rules, b_need_rules, v_need_m m s hm, v_are_rules m R s h ⟨by omega, hm.2⟩]
theorem v_need_lot (m : Int) (R : List Rl) (ns : List Int) (s : Dk) (h : RulesOk m R) (hm : 1 ≤ m ∧ m ≤ 6) (hn : Lot m ns) : g_need_lot_of [.int m, rulesD R, tupI ns] s = some (.non, s) := by
  simp [g_need_lot_of, b_need_lot_of, v_need_rules m R s h hm, v_is_facts_value m ns s hn ⟨by omega, hm.2⟩]
/-! ### has_all -/
def hasB (lot others : List Int) : Bool := others.all fun x => decide (x ∈ lot)
theorem bls {α : Type} (xs : List α) (f : α → Bool) : allD [.lst (xs.map fun x => .bl (f x))] = some (.bl (xs.all f)) := by
  have : xs.map (fun x => D.bl (f x)) = (xs.map f).map .bl := by rw [List.map_map]; rfl
  rw [this, c_all, List.all_map]
  rfl
theorem v_has_all (d : D) (lot ifs : List Int) (s : Dk) (hd : d = tupI lot ∨ d = .lst (lot.map .int)) (hz : ifs.length ≤ sizeLine) : g_has_all [d, tupI ifs] s = some (.bl (hasB lot ifs), s) := by
  have hin : ∀ x : Int, inD (.int x) d = some (.bl (decide (x ∈ lot))) := fun x => by
    rcases hd with rfl | rfl
    · exact in_tupI x lot
    · exact in_lst x lot
  have hq : q1_has_all [.val d, .val (tupI ifs), .non] s = some (.lst (ifs.map fun x => .bl (decide (x ∈ lot))), [.val d, .val (tupI ifs), .non], s) := by
    unfold q1_has_all
    refine (comp_map ifs .int (fun _ => true) (fun x => .bl (decide (x ∈ lot))) (ρ1 := [.val d, .val (tupI ifs), .non]) (s1 := s) (by simp [tupI]) (by simp) hz (fun x hx => by simp [hin])).trans (by simp)
  simp [g_has_all, b_has_all, hq, bls ifs (fun x => decide (x ∈ lot)), hasB]
/-! ### rounds -/
def addR (there : List Int) (r : Rl) : List Int := if r.2 ∉ there ∧ hasB there r.1 = true then there ++ [r.2] else there
def rnd (R : List Rl) (there : List Int) : List Int := R.foldl addR there
def itr (R : List Rl) : Nat → List Int → List Int
  | 0, t => t
  | k + 1, t => itr R k (rnd R t)
structure Good (m : Int) (ns : List Int) : Prop where
  nd : ns.Nodup
  rg : ∀ x ∈ ns, 0 ≤ x ∧ x < m
theorem sort_asc {ns : List Int} (h : ns.Nodup) : asc (sortI ns) := by
  have h1 := sortI_pair ns
  have h2 : (sortI ns).Nodup := (sortI_perm ns).nodup_iff.mpr h
  exact (h1.and h2).imp fun ⟨a, b⟩ => by omega
theorem Good.lot {m : Int} {ns : List Int} (h : Good m ns) : Lot m (sortI ns) := ⟨sort_asc h.nd, fun x hx => h.rg x ((sortI_perm ns).mem_iff.mp hx)⟩
theorem Good.len {m : Int} {ns : List Int} (h : Good m ns) (hm : 0 ≤ m) : (ns.length : Int) ≤ m := by
  have := h.lot.len hm
  rwa [(sortI_perm ns).length_eq] at this
theorem Lot.good {m : Int} {ns : List Int} (h : Lot m ns) : Good m ns := ⟨h.asc.imp fun h => by omega, h.rg⟩
theorem Good.add {m : Int} {ns : List Int} {r : Rl} (h : Good m ns) (hr : RuleOk m r) : Good m (addR ns r) := by
  unfold addR
  split
  · rename_i z
    refine ⟨?_, fun x hx => ?_⟩
    · rw [List.nodup_append]
      refine ⟨h.nd, by simp, fun a ha b hb e => ?_⟩
      simp at hb
      subst hb
      exact z.1 (e ▸ ha)
    · rcases List.mem_append.mp hx with hx | hx
      · exact h.rg x hx
      · simp at hx
        subst hx
        exact hr.rg
  · exact h
theorem Good.rnd {m : Int} {R : List Rl} (hR : ∀ r ∈ R, RuleOk m r) : ∀ {ns : List Int}, Good m ns → Good m (rnd R ns) := by
  induction R with
  | nil => intro ns h; exact h
  | cons r R ih =>
    intro ns h
    exact ih (fun q hq => hR q (List.mem_cons_of_mem _ hq)) (h.add (hR r List.mem_cons_self))
theorem Good.itr {m : Int} {R : List Rl} (hR : ∀ r ∈ R, RuleOk m r) : ∀ (k : Nat) {ns : List Int}, Good m ns → Good m (itr R k ns)
  | 0, _, h => h
  | k + 1, _, h => Good.itr hR k (h.rnd hR)
theorem itr_fix {R : List Rl} {t : List Int} (h : rnd R t = t) : ∀ k, itr R k t = t
  | 0 => rfl
  | k + 1 => by
    show itr R k (rnd R t) = t
    rw [h]
    exact itr_fix h k
theorem itr_add {R : List Rl} : ∀ (j k : Nat) (t : List Int), itr R (j + k) t = itr R k (itr R j t)
  | 0, k, t => by rw [Nat.zero_add]; rfl
  | j + 1, k, t => by
    rw [show j + 1 + k = (j + k) + 1 by omega]
    exact itr_add j k (rnd R t)
/-! ### words -/
theorem v_is_word (w v : Str) (d : D) (s : Dk) : g_is_word [.tup [.str w, d], .str v] s = some (.bl (w == v), s) := by
  have h1 : isiD [.str w, .ty "str"] = some (.bl true) := rfl
  simp [g_is_word, b_is_word, h1]
theorem v_no_word (ns : List Int) (d : D) (v : Str) (s : Dk) : g_is_word [.tup [tupI ns, d], .str v] s = some (.bl false, s) := by
  have h1 : isiD [tupI ns, .ty "str"] = some (.bl false) := rfl
  simp [g_is_word, b_is_word, h1]
theorem v_need_fl (m : Int) (R : List Rl) (ns : List Int) (f : Int) (s : Dk) (h : RulesOk m R) (hm : 1 ≤ m ∧ m ≤ 6) (hn : Lot m ns) (hf : 0 ≤ f ∧ f < m) : g_need_fact_and_lot [.int m, rulesD R, tupI ns, .int f] s = some (.non, s) := by
  have h2 : f ≤ m - 1 := by omega
  simp [g_need_fact_and_lot, b_need_fact_and_lot, v_need_lot m R ns s h hm hn, v_is_between, hf.1, h2]
end Q
end
section
set_option Elab.async false
set_option linter.all false
set_option maxRecDepth 100000
set_option autoImplicit false
set_option maxHeartbeats 2000000
namespace Q
open PySem PySem.Spec PyProof.Rows L2 L3
/-! ### steps_from -/
theorem noLs_int (ns : List Int) : noLs (ns.map .int) = true := noLs_ints ns
/-! ### steps that lead -/
def rat (R : List Rl) (p : Nat) : Rl := R.getD p ([], 0)
def ends (R : List Rl) (t : List Int) (ps : List Nat) : List Int := t ++ ps.map fun p => (rat R p).2
def leadB (R : List Rl) : List Int → List Nat → Bool
  | _, [] => true
  | t, p :: ps => hasB t (rat R p).1 && leadB R (t ++ [(rat R p).2]) ps
theorem ends_cons (R : List Rl) (t : List Int) (p : Nat) (ps : List Nat) : ends R t (p :: ps) = ends R (t ++ [(rat R p).2]) ps := by simp [ends]
theorem lead_snoc (R : List Rl) : ∀ (ps : List Nat) (t : List Int) (p : Nat), leadB R t (ps ++ [p]) = (leadB R t ps && hasB (ends R t ps) (rat R p).1)
  | [], t, p => by simp [leadB, ends]
  | q :: ps, t, p => by
    rw [List.cons_append]
    simp only [leadB]
    rw [lead_snoc R ps, ends_cons, Bool.and_assoc]
structure Led (R : List Rl) (lot : List Int) (ps : List Nat) (there : List Int) : Prop where
  rg : ∀ p ∈ ps, p < R.length
  ok : leadB R lot ps = true
  en : there = ends R lot ps
theorem Led.len {R : List Rl} {lot there : List Int} {ps : List Nat} (h : Led R lot ps there) : ps.length ≤ there.length := by
  rw [h.en]
  simp [ends]
theorem Led.snoc {R : List Rl} {lot there : List Int} {ps : List Nat} (h : Led R lot ps there) {p : Nat} (hp : p < R.length) (ha : hasB there (rat R p).1 = true) : Led R lot (ps ++ [p]) (there ++ [(rat R p).2]) := by
  refine ⟨fun q hq => ?_, ?_, ?_⟩
  · rcases List.mem_append.mp hq with hq | hq
    · exact h.rg q hq
    · simp at hq
      omega
  · rw [lead_snoc, h.ok, ← h.en, ha]
    rfl
  · rw [h.en]
    simp [ends]
def posD (ps : List Nat) : List D := ps.map fun p => .int (p : Nat)
/-- the frame within the rounds -/
def EnS (R : List Rl) (lot there : List Int) (new : Bool) (ρ : En) : Prop := ∃ (steps : List Nat) (a b c : Sl), ρ = [.val (rulesD R), .val (tupI lot), .own false (there.map .int), .own false (posD steps), .val (.bl new), a, b, c] ∧ Led R lot steps there ∧
  (∀ t ds, a ≠ .own t ds) ∧ (∀ t ds, b ≠ .own t ds) ∧ ∀ t ds, c ≠ .own t ds
def enumR (i : Nat) : List Rl → List (Nat × Rl)
  | [] => []
  | r :: R => (i, r) :: enumR (i + 1) R
theorem enum_map : ∀ (i : Nat) (R : List Rl), enumD i (R.map ruleD) = (enumR i R).map fun p => .tup [.int (p.1 : Nat), ruleD p.2]
  | _, [] => rfl
  | i, r :: R => by
    simp only [List.map_cons, enumD, enumR, enum_map (i + 1) R]
theorem enum_foldl {β : Type} (f : β → Rl → β) : ∀ (i : Nat) (R : List Rl) (z : β), (enumR i R).foldl (fun z p => f z p.2) z = R.foldl f z
  | _, [], _ => rfl
  | i, r :: R, z => enum_foldl f (i + 1) R (f z r)
theorem enum_mem : ∀ {i : Nat} {R : List Rl} {p : Nat × Rl}, p ∈ enumR i R → p.2 ∈ R
  | _, [], p, h => by cases h
  | i, r :: R, p, h => by
    rcases List.mem_cons.mp h with rfl | h
    · exact List.mem_cons_self
    · exact List.mem_cons_of_mem _ (enum_mem h)
theorem enum_at : ∀ {i : Nat} {R : List Rl} {p : Nat × Rl}, p ∈ enumR i R → ∃ k, p.1 = i + k ∧ R[k]? = some p.2
  | _, [], p, h => by cases h
  | i, r :: R, p, h => by
    rcases List.mem_cons.mp h with rfl | h
    · exact ⟨0, rfl, rfl⟩
    · obtain ⟨k, h1, h2⟩ := enum_at h
      exact ⟨k + 1, by omega, by simpa using h2⟩
theorem enum_rat {R : List Rl} {p : Nat × Rl} (h : p ∈ enumR 0 R) : p.1 < R.length ∧ rat R p.1 = p.2 := by
  obtain ⟨k, h1, h2⟩ := enum_at h
  rw [Nat.zero_add] at h1
  rw [h1]
  refine ⟨(List.getElem?_eq_some_iff.mp h2).1, ?_⟩
  unfold rat
  rw [List.getD_eq_getElem?_getD, h2]
  rfl
theorem thawS {a b c : Sl} (ha : ∀ t ds, a ≠ .own t ds) (x : Sl) (y z : En) : True := trivial
theorem thaw_any {b : Sl} (hb : ∀ t ds, b ≠ .own t ds) (x : Sl) (y z : En) : L3.thaw (x :: y) (b :: z) = b :: L3.thaw y z := by
  cases b with
  | own t ds => exact absurd rfl (hb t ds)
  | val d => simp
  | non => simp
theorem freeze_any {b : Sl} (hb : ∀ t ds, b ≠ .own t ds) (z : En) : L3.freeze (b :: z) = b :: L3.freeze z := by
  cases b with
  | own t ds => exact absurd rfl (hb t ds)
  | val d => simp
  | non => simp
theorem nv (d : D) : ∀ t ds, Sl.val d ≠ .own t ds := fun _ _ h => by cases h
theorem nn : ∀ t ds, Sl.non ≠ .own t ds := fun _ _ h => by cases h
theorem v_bd_steps (R : List Rl) (lot there : List Int) (new : Bool) (p : Nat × Rl) (ρ : En) (s : Dk) (hE : EnS R lot there new ρ) (hz : there.length ≤ 6) (hr : p.2.1.length ≤ 6) (hp : p.1 < R.length ∧ rat R p.1 = p.2) :
    ∃ ρ1 ρ2, tupG 2 (consG (putV 5) (consG (tupG 2 (consG (putV 6) (consG (putV 7) nilG))) nilG)) (.tup [.int (p.1 : Nat), ruleD p.2]) ρ = some ρ1 ∧ bd1_steps_from ρ1 s = some (.nx, ρ2, s) ∧ EnS R lot (addR there p.2) (new || decide (p.2.2 ∉ there ∧ hasB there p.2.1 = true)) ρ2 := by
  obtain ⟨steps, a, b, c, rfl, hs, ha, hb, hc⟩ := hE
  have h1 := v_has_all (.lst (there.map .int)) there p.2.1 s (.inr rfl) (by rw [sizeL]; omega)
  have e1 : tupG 2 (consG (putV 5) (consG (tupG 2 (consG (putV 6) (consG (putV 7) nilG))) nilG)) (.tup [.int (p.1 : Nat), ruleD p.2]) [.val (rulesD R), .val (tupI lot), .own false (there.map .int), .own false (posD steps), .val (.bl new), a, b, c] =
      some [.val (rulesD R), .val (tupI lot), .own false (there.map .int), .own false (posD steps), .val (.bl new), .val (.int p.1), .val (tupI p.2.1), .val (.int p.2.2)] := by simp [ruleD]
  by_cases hin : p.2.2 ∈ there
  · refine ⟨_, [.val (rulesD R), .val (tupI lot), .own false (there.map .int), .own false (posD steps), .val (.bl new), .val (.int p.1), .val (tupI p.2.1), .val (.int p.2.2)], e1, ?_, steps, .val (.int p.1), .val (tupI p.2.1), .val (.int p.2.2), ?_, ?_, nv _, nv _, nv _⟩
    · simp [bd1_steps_from, nin_lst, hin]
    · simp [addR, hin]
    · simp [addR, hin, hs]
  · cases hh : hasB there p.2.1 with
    | false =>
      refine ⟨_, [.val (rulesD R), .val (tupI lot), .own false (there.map .int), .own false (posD steps), .val (.bl new), .val (.int p.1), .val (tupI p.2.1), .val (.int p.2.2)], e1, ?_, steps, .val (.int p.1), .val (tupI p.2.1), .val (.int p.2.2), ?_, ?_, nv _, nv _, nv _⟩
      · simp [bd1_steps_from, nin_lst, hin, h1, hh]
      · simp [addR, hin, hh]
      · simp [addR, hin, hh, hs]
    | true =>
      have z1 : there.length < sizeLine := by rw [sizeL]; omega
      have z2 : (posD steps).length < sizeLine := by rw [sizeL]; unfold posD; rw [List.length_map]; have := hs.len; omega
      have led := hs.snoc (p := p.1) hp.1 (by rw [hp.2]; exact hh)
      rw [hp.2] at led
      refine ⟨_, [.val (rulesD R), .val (tupI lot), .own false ((there ++ [p.2.2]).map .int), .own false (posD (steps ++ [p.1])), .val (.bl true), .val (.int p.1), .val (tupI p.2.1), .val (.int p.2.2)], e1, ?_, steps ++ [p.1], .val (.int p.1), .val (tupI p.2.1), .val (.int p.2.2), ?_, ?_, nv _, nv _, nv _⟩
      · have e4 : posD (steps ++ [p.1]) = posD steps ++ [.int p.1] := by simp [posD]
        rw [e4]
        simp [bd1_steps_from, nin_lst, hin, h1, hh, z1, z2]
      · simp [addR, hin, hh]
      · simpa [addR, hin, hh] using led
/-- one round -/
theorem foldl_pair (R : List Rl) : ∀ (t : List Int) (n : Bool), R.foldl (fun (z : List Int × Bool) r => (addR z.1 r, z.2 || decide (r.2 ∉ z.1 ∧ hasB z.1 r.1 = true))) (t, n) = (rnd R t, n || decide (rnd R t ≠ t)) ∧ t.length ≤ (rnd R t).length ∧ (rnd R t ≠ t → t.length < (rnd R t).length) := by
  induction R with
  | nil => intro t n; simp [rnd]
  | cons r R ih =>
    intro t n
    rw [List.foldl_cons]
    obtain ⟨h1, h2, h3⟩ := ih (addR t r) (n || decide (r.2 ∉ t ∧ hasB t r.1 = true))
    have e : rnd (r :: R) t = rnd R (addR t r) := rfl
    rw [h1, e]
    by_cases z : r.2 ∉ t ∧ hasB t r.1 = true
    · have ea : addR t r = t ++ [r.2] := by unfold addR; rw [if_pos z]
      rw [ea] at h1 h2 h3 ⊢
      have hl : t.length < (rnd R (t ++ [r.2])).length := by
        rw [List.length_append] at h2
        simp at h2
        omega
      have hne : rnd R (t ++ [r.2]) ≠ t := fun q => by rw [q] at hl; omega
      refine ⟨?_, by omega, fun _ => hl⟩
      simp [z, hne]
    · have ea : addR t r = t := by unfold addR; rw [if_neg z]
      rw [ea] at h1 h2 h3 ⊢
      exact ⟨by simp [z], h2, h3⟩
theorem v_lp_steps (m : Int) (R : List Rl) (lot there : List Int) (new : Bool) (ρ : En) (s : Dk) (hm : 0 ≤ m ∧ m ≤ 6) (hR : RulesOk m R) (hg : Good m there) (hE : EnS R lot there new ρ) :
    ∃ ρ', lp1_steps_from ρ s = some (.nx, ρ', s) ∧ EnS R lot (rnd R there) (new || decide (rnd R there ≠ there)) ρ' := by
  have hz := hR.few
  obtain ⟨ρ', h1, h2⟩ := loop_fold (S := Dk) (s := s) (tg := tupG 2 (consG (putV 5) (consG (tupG 2 (consG (putV 6) (consG (putV 7) nilG))) nilG))) (b := bd1_steps_from) (fun p : Nat × Rl => .tup [.int (p.1 : Nat), ruleD p.2])
    (fun (z : List Int × Bool) ρ => Good m z.1 ∧ EnS R lot z.1 z.2 ρ) (fun z p => (addR z.1 p.2, z.2 || decide (p.2.2 ∉ z.1 ∧ hasB z.1 p.2.1 = true))) (enumR 0 R) (there, new) ρ ⟨hg, hE⟩ (fun p hp z ρ hz => by
      have hl := hz.1.len hm.1
      have hr := hR.ok p.2 (enum_mem hp)
      have hrl := hr.lot.len hm.1
      obtain ⟨ρ1, ρ2, q1, q2, q3⟩ := v_bd_steps R lot z.1 z.2 p ρ s hz.2 (by omega) (by omega) (enum_rat hp)
      exact ⟨ρ1, ρ2, q1, q2, hz.1.add hr, q3⟩)
  have e := enum_foldl (fun (z : List Int × Bool) r => (addR z.1 r, z.2 || decide (r.2 ∉ z.1 ∧ hasB z.1 r.1 = true))) 0 R (there, new)
  rw [e, (foldl_pair R there new).1] at h2
  refine ⟨ρ', ?_, h2.2⟩
  obtain ⟨steps, a, b, c, rfl, hs, ha, hb, hc⟩ := hE
  simp only [lp1_steps_from, d_forF, d_enumL, d_consL, d_varF, d_nilL]
  simp [rulesD, seqD, enum_map, freeze_any ha, freeze_any hb, freeze_any hc]
  exact h1
theorem v_wh_steps (m : Int) (R : List Rl) (lot : List Int) (s : Dk) (hm : 0 ≤ m ∧ m ≤ 6) (hR : RulesOk m R) : ∀ (n : Nat) (there : List Int) (ρ : En), Good m there → EnS R lot there true ρ → m - there.length + 2 ≤ (n : Int) →
    ∃ (ρ' : En) (j : Nat), whileN (truF (varF 4)) wb1_steps_from n ρ s = some (.nx, ρ', s) ∧ EnS R lot (itr R j there) false ρ' ∧ rnd R (itr R j there) = itr R j there ∧ (j : Int) ≤ m - there.length
  | 0, there, ρ, hg, _, hn => by
    have := hg.len hm.1
    omega
  | n + 1, there, ρ, hg, hE, hn => by
    have hl := hg.len hm.1
    have hE0 := hE
    obtain ⟨steps, a, b, c, rfl, hs, ha, hb, hc⟩ := hE
    have e1 : truF (varF 4) [.val (rulesD R), .val (tupI lot), .own false (there.map .int), .own false (posD steps), .val (.bl true), a, b, c] s = some (true, [.val (rulesD R), .val (tupI lot), .own false (there.map .int), .own false (posD steps), .val (.bl true), a, b, c], s) := by
      simp [thaw_any ha, thaw_any hb, thaw_any hc]
    have e2 : setF (S := Dk) false 4 (cstF (.bl false)) [.val (rulesD R), .val (tupI lot), .own false (there.map .int), .own false (posD steps), .val (.bl true), a, b, c] s = some (.nx, [.val (rulesD R), .val (tupI lot), .own false (there.map .int), .own false (posD steps), .val (.bl false), a, b, c], s) := by
      simp [thaw_any ha, thaw_any hb, thaw_any hc]
    obtain ⟨ρ2, e3, hE2⟩ := v_lp_steps m R lot there false _ s hm hR hg ⟨steps, a, b, c, rfl, hs, ha, hb, hc⟩
    have e4 : wb1_steps_from [.val (rulesD R), .val (tupI lot), .own false (there.map .int), .own false (posD steps), .val (.bl true), a, b, c] s = some (.nx, ρ2, s) := by
      unfold wb1_steps_from
      rw [d_seqF, e2]
      exact e3
    unfold whileN
    simp only [e1, e4]
    by_cases hst : rnd R there = there
    · rw [hst] at hE2
      simp only [ne_eq, not_true_eq_false, decide_false, Bool.or_false] at hE2
      cases n with
      | zero => omega
      | succ n =>
        obtain ⟨steps', a', b', c', rfl, hs', ha', hb', hc'⟩ := hE2
        have e5 : truF (varF 4) [.val (rulesD R), .val (tupI lot), .own false (there.map .int), .own false (posD steps'), .val (.bl false), a', b', c'] s = some (false, [.val (rulesD R), .val (tupI lot), .own false (there.map .int), .own false (posD steps'), .val (.bl false), a', b', c'], s) := by
          simp [thaw_any ha', thaw_any hb', thaw_any hc']
        unfold whileN
        simp only [e5]
        exact ⟨_, 0, rfl, ⟨steps', a', b', c', rfl, hs', ha', hb', hc'⟩, hst, by omega⟩
    · have hlt := (foldl_pair R there false).2.2 hst
      rw [show (false || decide (rnd R there ≠ there)) = true by simp [hst]] at hE2
      obtain ⟨ρ', j, q1, q2, q3, q4⟩ := v_wh_steps m R lot s hm hR n (rnd R there) ρ2 (hg.rnd hR.ok) hE2 (by omega)
      exact ⟨ρ', j + 1, q1, q2, q3, by omega⟩
theorem stable6 {m : Int} {R : List Rl} {lot : List Int} {j : Nat} (hm : m ≤ 6) (h : rnd R (itr R j lot) = itr R j lot) (hj : (j : Int) ≤ m - lot.length) : itr R 6 lot = itr R j lot := by
  rw [show 6 = j + (6 - j) by omega, itr_add]
  exact itr_fix h _
theorem v_steps_from (m : Int) (R : List Rl) (lot : List Int) (s : Dk) (hm : 0 ≤ m ∧ m ≤ 6) (hR : RulesOk m R) (hl : Lot m lot) : ∃ steps : List Nat, g_steps_from [rulesD R, tupI lot] s = some (.tup [.lst (posD steps), .lst ((itr R 6 lot).map .int)], s) ∧ rnd R (itr R 6 lot) = itr R 6 lot ∧ Led R lot steps (itr R 6 lot) := by
  have hll := hl.len hm.1
  obtain ⟨ρ', j, q1, q2, q3, q4⟩ := v_wh_steps m R lot s hm hR 1000 lot [.val (rulesD R), .val (tupI lot), .own false (lot.map .int), .own false (posD []), .val (.bl true), .non, .non, .non] hl.good ⟨[], .non, .non, .non, rfl, ⟨fun p h => (by cases h), rfl, by simp [ends]⟩, nn, nn, nn⟩ (by omega)
  obtain ⟨steps, a, b, c, rfl, hs, ha, hb, hc⟩ := q2
  have e6 := stable6 hm.2 q3 q4
  refine ⟨steps, ?_, by rw [e6]; exact q3, by rw [e6]; exact hs⟩
  have hw : wh1_steps_from [.val (rulesD R), .val (tupI lot), .own false (lot.map .int), .own false [], .val (.bl true), .non, .non, .non] s = some (.nx, [.val (rulesD R), .val (tupI lot), .own false ((itr R j lot).map .int), .own false (posD steps), .val (.bl false), a, b, c], s) := q1
  have hli : listD [tupI lot] = some (.lst (lot.map .int)) := rfl
  have h2 : 2 ≤ sizeLine := by rw [sizeL]; omega
  simp [g_steps_from, b_steps_from, hli, hw, e6, h2]
theorem v_closure_of (m : Int) (R : List Rl) (lot : List Int) (s : Dk) (hm : 0 ≤ m ∧ m ≤ 6) (hR : RulesOk m R) (hl : Lot m lot) : g_closure_of [rulesD R, tupI lot] s = some (tupI (sortI (itr R 6 lot)), s) := by
  obtain ⟨steps, h1, _⟩ := v_steps_from m R lot s hm hR hl
  simp [g_closure_of, b_closure_of, h1]
  rfl
theorem v_closure (m : Int) (R : List Rl) (lot : List Int) (s : Dk) (hm : 1 ≤ m ∧ m ≤ 6) (hR : RulesOk m R) (hl : Lot m lot) : g_closure [.int m, rulesD R, tupI lot] s = some (tupI (sortI (itr R 6 lot)), s) := by
  simp [g_closure, b_closure, v_need_lot m R lot s hR hm hl, v_closure_of m R lot s ⟨by omega, hm.2⟩ hR hl]
end Q
end
section
set_option Elab.async false
set_option linter.all false
set_option maxRecDepth 100000
set_option autoImplicit false
set_option maxHeartbeats 2000000
namespace Q
open PySem PySem.Spec PyProof.Rows L2 L3
theorem loop_idx {S α : Type} {tg : D → En → Option En} {b : Ss S} (c : α → D) (E : Nat → En → S → Prop) (xs : List α) (hs : ∀ i (hi : i < xs.length) ρ s, E i ρ s → ∃ ρ1 ρ2 s2, tg (c xs[i]) ρ = some ρ1 ∧ b ρ1 s = some (.nx, ρ2, s2) ∧ E (i + 1) ρ2 s2) :
    ∀ (k : Nat) (ρ : En) (s : S), k ≤ xs.length → E (xs.length - k) ρ s → ∃ ρ' s', loopF tg b ((xs.drop (xs.length - k)).map c) ρ s = some (.nx, ρ', s') ∧ E xs.length ρ' s'
  | 0, ρ, s, _, h => ⟨ρ, s, by simp [loopF], by simpa using h⟩
  | k + 1, ρ, s, hk, h => by
    have hi : xs.length - (k + 1) < xs.length := by omega
    obtain ⟨ρ1, ρ2, s2, h1, h2, h3⟩ := hs _ hi ρ s h
    rw [show xs.length - (k + 1) + 1 = xs.length - k by omega] at h3
    obtain ⟨ρ', s', h4, h5⟩ := loop_idx c E xs hs k ρ2 s2 (by omega) h3
    refine ⟨ρ', s', ?_, h5⟩
    rw [List.drop_eq_getElem_cons hi, List.map_cons]
    unfold loopF
    simp only [h1, h2]
    rw [show xs.length - (k + 1) + 1 = xs.length - k by omega]
    exact h4
theorem loop_ix {S α : Type} {tg : D → En → Option En} {b : Ss S} (c : α → D) (E : Nat → En → S → Prop) (xs : List α) (ρ : En) (s : S) (h0 : E 0 ρ s) (hs : ∀ i (hi : i < xs.length) ρ s, E i ρ s → ∃ ρ1 ρ2 s2, tg (c xs[i]) ρ = some ρ1 ∧ b ρ1 s = some (.nx, ρ2, s2) ∧ E (i + 1) ρ2 s2) :
    ∃ ρ' s', loopF tg b (xs.map c) ρ s = some (.nx, ρ', s') ∧ E xs.length ρ' s' := by
  have := loop_idx c E xs hs xs.length ρ s (Nat.le_refl _) (by simpa using h0)
  simpa using this
theorem le_mill {m : Nat} (h : m ≤ 6) : m ≤ 1000000 := by omega
def closedB (R : List Rl) (lot : List Int) : Bool := R.all fun r => decide (r.2 ∈ lot) || !hasB lot r.1
theorem v_is_closed (m : Int) (R : List Rl) (lot : List Int) (s : Dk) (hR : RulesOk m R) (hm : 0 ≤ m ∧ m ≤ 6) : g_is_closed_lot [rulesD R, tupI lot] s = some (.bl (closedB R lot), s) := by
  have hz := hR.few
  have hq : q1_is_closed_lot [.val (rulesD R), .val (tupI lot), .non, .non] s = some (.lst (R.map fun r => .bl (decide (r.2 ∈ lot) || !hasB lot r.1)), [.val (rulesD R), .val (tupI lot), .non, .non], s) := by
    unfold q1_is_closed_lot
    refine (comp_map R ruleD (fun _ => true) (fun r => .bl (decide (r.2 ∈ lot) || !hasB lot r.1)) (ρ1 := [.val (rulesD R), .val (tupI lot), .non, .non]) (s1 := s) (by simp [rulesD]) (by simp) (by rw [sizeL]; omega) (fun r hr => ?_)).trans (by simp)
    have hl := (hR.ok r hr).lot.len hm.1
    have h1 := v_has_all (tupI lot) lot r.1 s (.inl rfl) (by rw [sizeL]; omega)
    by_cases hin : r.2 ∈ lot
    · simp [ruleD, in_tupI, hin]
    · simp [ruleD, in_tupI, hin, h1]
  simp [g_is_closed_lot, b_is_closed_lot, hq, bls R (fun r => decide (r.2 ∈ lot) || !hasB lot r.1), closedB]
theorem eq_nil (ns : List Int) : eqB (.lst (ns.map .int)) (.lst []) = ns.isEmpty := by
  cases ns with
  | nil => simp [eqB, toP, toPs, PyData.eqv, PyData.eqvAll]
  | cons n ns => simp [eqB, toP, toPs, PyData.eqv, PyData.eqvAll]
theorem miss (lot others : List Int) : (others.filter fun x => !decide (x ∈ lot)).isEmpty = hasB lot others := by
  unfold hasB
  induction others with
  | nil => rfl
  | cons x xs ih =>
    by_cases h : x ∈ lot
    · simp only [List.filter_cons, h, decide_true, Bool.not_true, List.all_cons, Bool.true_and]
      exact ih
    · simp [List.filter_cons, h]
theorem eq_miss (lot others : List Int) : eqB (.lst ((others.filter fun x => !decide (x ∈ lot)).map .int)) (.lst []) = hasB lot others := by rw [eq_nil, miss]
theorem once_id {α : Type} [DecidableEq α] : ∀ {xs : List α}, xs.Nodup → once xs = xs
  | [], _ => rfl
  | x :: xs, h => by
    rw [List.nodup_cons] at h
    unfold once
    rw [if_neg h.1, once_id h.2]
theorem itr_snoc {R : List Rl} (k : Nat) (t : List Int) : itr R (k + 1) t = rnd R (itr R k t) := itr_add k 1 t
/-! ### what closures are -/
theorem has_iff {lot others : List Int} : hasB lot others = true ↔ ∀ x ∈ others, x ∈ lot := by
  unfold hasB
  rw [List.all_eq_true]
  simp
theorem addR_sub {t : List Int} {r : Rl} {x : Int} (h : x ∈ t) : x ∈ addR t r := by
  unfold addR
  split
  · exact List.mem_append_left _ h
  · exact h
theorem rnd_sub {R : List Rl} : ∀ {t : List Int} {x : Int}, x ∈ t → x ∈ rnd R t := by
  induction R with
  | nil => intro t x h; exact h
  | cons r R ih => intro t x h; exact ih (addR_sub h)
theorem itr_sub {R : List Rl} : ∀ (k : Nat) {t : List Int} {x : Int}, x ∈ t → x ∈ itr R k t
  | 0, _, _, h => h
  | k + 1, _, _, h => itr_sub k (rnd_sub h)
theorem closedB_iff {R : List Rl} {t : List Int} : closedB R t = true ↔ ∀ r ∈ R, (∀ x ∈ r.1, x ∈ t) → r.2 ∈ t := by
  unfold closedB
  rw [List.all_eq_true]
  constructor
  · intro h r hr hx
    have := h r hr
    rw [has_iff.mpr hx] at this
    simpa using this
  · intro h r hr
    cases hh : hasB t r.1 with
    | false => simp
    | true => simpa using h r hr (has_iff.mp hh)
theorem rnd_fix {R : List Rl} : ∀ {t : List Int}, closedB R t = true → rnd R t = t := by
  induction R with
  | nil => intro t _; rfl
  | cons r R ih =>
    intro t h
    have h1 : addR t r = t := by
      unfold addR
      rw [if_neg]
      rintro ⟨z1, z2⟩
      exact z1 (closedB_iff.mp h r List.mem_cons_self (has_iff.mp z2))
    show rnd R (addR t r) = t
    rw [h1]
    exact ih (closedB_iff.mpr fun q hq => closedB_iff.mp h q (List.mem_cons_of_mem _ hq))
theorem fix_closed {R : List Rl} : ∀ {t : List Int}, rnd R t = t → closedB R t = true := by
  induction R with
  | nil => intro t _; rfl
  | cons r R ih =>
    intro t h
    have h0 : rnd R (addR t r) = t := h
    by_cases z : r.2 ∉ t ∧ hasB t r.1 = true
    · have ea : addR t r = t ++ [r.2] := by unfold addR; rw [if_pos z]
      have hl := (foldl_pair R (addR t r) false).2.1
      rw [h0, ea, List.length_append] at hl
      simp at hl
      omega
    · have ea : addR t r = t := by unfold addR; rw [if_neg z]
      rw [ea] at h0
      refine closedB_iff.mpr fun q hq hx => ?_
      rcases List.mem_cons.mp hq with rfl | hq
      · refine Classical.byContradiction fun n => z ⟨n, has_iff.mpr hx⟩
      · exact closedB_iff.mp (ih h0) q hq hx
theorem addR_in {R : List Rl} {c t : List Int} {r : Rl} (hc : closedB R c = true) (hr : r ∈ R) (h : ∀ x ∈ t, x ∈ c) : ∀ x ∈ addR t r, x ∈ c := by
  unfold addR
  split
  · rename_i z
    intro x hx
    rcases List.mem_append.mp hx with hx | hx
    · exact h x hx
    · simp at hx
      subst hx
      exact closedB_iff.mp hc r hr fun y hy => h y (has_iff.mp z.2 y hy)
  · exact h
theorem rnd_in {R0 : List Rl} {c : List Int} (hc : closedB R0 c = true) : ∀ {R : List Rl} {t : List Int}, (∀ r ∈ R, r ∈ R0) → (∀ x ∈ t, x ∈ c) → ∀ x ∈ rnd R t, x ∈ c
  | [], _, _, h => h
  | r :: R, t, hr, h => rnd_in hc (R := R) (t := addR t r) (fun q hq => hr q (List.mem_cons_of_mem _ hq)) (addR_in hc (hr r List.mem_cons_self) h)
theorem itr_in {R : List Rl} {c : List Int} (hc : closedB R c = true) : ∀ (k : Nat) {t : List Int}, (∀ x ∈ t, x ∈ c) → ∀ x ∈ itr R k t, x ∈ c
  | 0, _, h => h
  | k + 1, _, h => itr_in hc k (rnd_in hc (fun _ h => h) h)
/-- the closure of a lot -/
def clo (R : List Rl) (lot : List Int) : List Int := sortI (itr R 6 lot)
theorem clo_mem {R : List Rl} {lot : List Int} {x : Int} : x ∈ clo R lot ↔ x ∈ itr R 6 lot := (sortI_perm _).mem_iff
structure CloOk (m : Int) (R : List Rl) (lot : List Int) : Prop where
  isL : Lot m (clo R lot)
  closed : closedB R (clo R lot) = true
  sub : ∀ x ∈ lot, x ∈ clo R lot
  least : ∀ c, closedB R c = true → (∀ x ∈ lot, x ∈ c) → ∀ x ∈ clo R lot, x ∈ c
theorem sort_id {ns : List Int} (h : asc ns) : sortI ns = ns := (sortI_eq (List.Perm.refl ns) (h.imp fun h => by omega)).symm
theorem cloOk {m : Int} {R : List Rl} {lot : List Int} (hm : 0 ≤ m ∧ m ≤ 6) (hR : RulesOk m R) (hl : Lot m lot) : CloOk m R lot := by
  obtain ⟨_, _, hst, _⟩ := v_steps_from m R lot ⟨[], 0, 0⟩ hm hR hl
  have hc := fix_closed hst
  refine ⟨(hl.good.itr hR.ok 6).lot, ?_, fun x hx => clo_mem.mpr (itr_sub 6 hx), fun c h1 h2 x hx => itr_in h1 6 h2 x (clo_mem.mp hx)⟩
  refine closedB_iff.mpr fun r hr hx => clo_mem.mpr (closedB_iff.mp hc r hr fun y hy => clo_mem.mp (hx y hy))
theorem clo_fix {m : Int} {R : List Rl} {lot : List Int} (h : Lot m lot) (hc : closedB R lot = true) : clo R lot = lot := by
  unfold clo
  rw [itr_fix (rnd_fix hc)]
  exact sort_id h.asc
theorem asc_ext : ∀ {a b : List Int}, asc a → asc b → (∀ x, x ∈ a ↔ x ∈ b) → a = b := by
  intro a b ha hb h
  have na : a.Nodup := ha.imp fun h => by omega
  have nb : b.Nodup := hb.imp fun h => by omega
  exact List.Perm.eq_of_pairwise (le := (· ≤ ·)) (fun x y _ _ h1 h2 => Int.le_antisymm h1 h2) (ha.imp fun h => by omega) (hb.imp fun h => by omega) ((List.perm_ext_iff_of_nodup na nb).mpr h)
end Q
end
section
set_option Elab.async false
set_option linter.all false
set_option maxRecDepth 100000
set_option autoImplicit false
set_option maxHeartbeats 2000000
namespace Q
open PySem PySem.Spec PyProof.Rows L2 L3
/-! ### closures, round by round -/
def EnC (R : List Rl) (lot found : List Int) (ρ : En) : Prop := ∃ (t a b : Sl), ρ = [.val (rulesD R), .val (tupI lot), .own false (found.map .int), t, a, b, .non] ∧ (∀ u ds, t ≠ .own u ds) ∧ (∀ u ds, a ≠ .own u ds) ∧ ∀ u ds, b ≠ .own u ds
theorem vq1__law_closure (R : List Rl) (lot found ifs : List Int) (t : Sl) (f : Int) (s : Dk) (ht : ∀ u ds, t ≠ .own u ds) (hz : ifs.length ≤ 64) :
    q1__law_closure [.val (rulesD R), .val (tupI lot), .own false (found.map .int), t, .val (tupI ifs), .val (.int f), .non] s = some (.lst ((ifs.filter fun x => !decide (x ∈ found)).map .int), [.val (rulesD R), .val (tupI lot), .own false (found.map .int), t, .val (tupI ifs), .val (.int f), .non], s) := by
  unfold q1__law_closure
  refine (comp_map ifs .int (fun x => !decide (x ∈ found)) .int (ρ1 := [.val (rulesD R), .val (tupI lot), .own false (found.map .int), t, .val (tupI ifs), .val (.int f), .non]) (s1 := s) (by simp [tupI]) (by simp) (by rw [sizeL]; omega) (fun x hx => ?_)).trans rfl
  refine ⟨[.val (rulesD R), .val (tupI lot), .own false (found.map .int), t, .val (tupI ifs), .val (.int f), .val (.int x)], [.val (rulesD R), .val (tupI lot), .own false (found.map .int), t, .val (tupI ifs), .val (.int f), .val (.int x)], by simp, by simp [nin_lst, thaw_any ht], by simp, fun _ => ⟨[.val (rulesD R), .val (tupI lot), .own false (found.map .int), t, .val (tupI ifs), .val (.int f), .val (.int x)], by simp, by simp⟩⟩
theorem bd1_lc (R : List Rl) (lot found : List Int) (r : Rl) (ρ : En) (s : Dk) (hE : EnC R lot found ρ) (hz : found.length ≤ 6) (hr : r.1.length ≤ 6) : ∃ ρ1 ρ2, tupG 2 (consG (putV 4) (consG (putV 5) nilG)) (ruleD r) ρ = some ρ1 ∧ bd1__law_closure ρ1 s = some (.nx, ρ2, s) ∧ EnC R lot (addR found r) ρ2 := by
  obtain ⟨t, a, b, rfl, ht, ha, hb⟩ := hE
  have hq := vq1__law_closure R lot found r.1 t r.2 s ht (by omega)
  refine ⟨[.val (rulesD R), .val (tupI lot), .own false (found.map .int), t, .val (tupI r.1), .val (.int r.2), .non], [.val (rulesD R), .val (tupI lot), .own false ((addR found r).map .int), t, .val (tupI r.1), .val (.int r.2), .non], by simp [ruleD], ?_, t, .val (tupI r.1), .val (.int r.2), rfl, ht, nv _, nv _⟩
  by_cases hin : r.2 ∈ found
  · simp [bd1__law_closure, nin_lst, hin, thaw_any ht, addR]
  · cases hh : hasB found r.1 with
    | false => simp [bd1__law_closure, nin_lst, hin, thaw_any ht, addR, hq, eq_miss, hh]
    | true =>
      have z1 : found.length < sizeLine := by rw [sizeL]; omega
      simp [bd1__law_closure, nin_lst, hin, thaw_any ht, addR, hq, eq_miss, hh, z1]
theorem lp1_lc (m : Int) (R : List Rl) (lot found : List Int) (ρ : En) (s : Dk) (hm : 0 ≤ m ∧ m ≤ 6) (hR : RulesOk m R) (hg : Good m found) (hE : EnC R lot found ρ) : ∃ ρ', lp1__law_closure ρ s = some (.nx, ρ', s) ∧ EnC R lot (rnd R found) ρ' ∧ Good m (rnd R found) := by
  obtain ⟨ρ', h1, h2⟩ := loop_fold (S := Dk) (s := s) (tg := tupG 2 (consG (putV 4) (consG (putV 5) nilG))) (b := bd1__law_closure) ruleD (fun z ρ => Good m z ∧ EnC R lot z ρ) addR R found ρ ⟨hg, hE⟩ (fun r hr z ρ hz => by
    have hl := hz.1.len hm.1
    have hrr := hR.ok r hr
    have hrl := hrr.lot.len hm.1
    obtain ⟨ρ1, ρ2, q1, q2, q3⟩ := bd1_lc R lot z r ρ s hz.2 (by omega) (by omega)
    exact ⟨ρ1, ρ2, q1, q2, hz.1.add hrr, q3⟩)
  refine ⟨ρ', ?_, h2.2, h2.1⟩
  obtain ⟨t, a, b, rfl, ht, ha, hb⟩ := hE
  simp [lp1__law_closure, rulesD, freeze_any ht, freeze_any ha, freeze_any hb]
  simpa [rulesD] using h1
theorem v__law_closure (m : Int) (R : List Rl) (lot : List Int) (s : Dk) (hm : 0 ≤ m ∧ m ≤ 6) (hR : RulesOk m R) (hl : Lot m lot) : g__law_closure [rulesD R, tupI lot] s = some (tupI (sortI (itr R 6 lot)), s) := by
  have := loop_ix (S := Dk) (tg := putV 3) (b := bd2__law_closure) (fun i : Nat => .int (0 + (i : Nat))) (fun k ρ s' => s' = s ∧ EnC R lot (itr R k lot) ρ ∧ Good m (itr R k lot)) (List.range 6) [.val (rulesD R), .val (tupI lot), .own false (lot.map .int), .non, .non, .non, .non] s ⟨rfl, ⟨.non, .non, .non, rfl, nn, nn, nn⟩, hl.good⟩ (fun i hi ρ s' h => by
    obtain ⟨rfl, ⟨t, a, b, rfl, ht, ha, hb⟩, hg⟩ := h
    obtain ⟨ρ', q1, q2, q3⟩ := lp1_lc m R lot (itr R i lot) [.val (rulesD R), .val (tupI lot), .own false ((itr R i lot).map .int), .val (.int (i : Nat)), a, b, .non] s' hm hR hg ⟨_, a, b, rfl, nv _, ha, hb⟩
    refine ⟨[.val (rulesD R), .val (tupI lot), .own false ((itr R i lot).map .int), .val (.int (i : Nat)), a, b, .non], ρ', s', by simp, q1, rfl, ?_, ?_⟩
    · rw [itr_snoc]; exact q2
    · rw [itr_snoc]; exact q3)
  rw [List.length_range] at this
  obtain ⟨ρ', s', h1, rfl, ⟨t, a, b, rfl, ht, ha, hb⟩, hg⟩ := this
  have hr := range_nat 6 (by omega)
  have hr : rangeD [.int 6] = some ((List.range 6).map fun i : Nat => .int (0 + (i : Nat))) := hr
  have h2 : lp2__law_closure [.val (rulesD R), .val (tupI lot), .own false (lot.map .int), .non, .non, .non, .non] s' = some (.nx, [.val (rulesD R), .val (tupI lot), .own false ((itr R 6 lot).map .int), t, a, b, .non], s') := by
    unfold lp2__law_closure
    rw [d_forF, d_rangeL, d_consL, d_cstF]
    simp only [d_nilL, hr]
    simpa using h1
  have hli : listD [tupI lot] = some (.lst (lot.map .int)) := rfl
  have hgl := hg.len hm.1
  simp [g__law_closure, b__law_closure, hli, h2, thaw_any ht, thaw_any ha, thaw_any hb]
  rfl
end Q
end
section
set_option Elab.async false
set_option linter.all false
set_option maxRecDepth 100000
set_option autoImplicit false
set_option maxHeartbeats 2000000
namespace Q
open PySem PySem.Spec PyProof.Rows L2 L3
/-! ### texts -/
theorem text_le {B : Nat} : ∀ {ts : List Str}, (∀ t ∈ ts, t.length ≤ B) → piled ts ≤ (B + 2) * ts.length
  | [], _ => by simp [piled]
  | t :: ts, h => by
    have h1 := h t List.mem_cons_self
    have h2 := text_le (ts := ts) fun x hx => h x (List.mem_cons_of_mem _ hx)
    have e : piled (t :: ts) = t.length + 2 + piled ts := by simp [piled]
    rw [e, List.length_cons, Nat.mul_add]
    omega
theorem tupleText_le {B : Nat} {ts : List Str} (h : ∀ t ∈ ts, t.length ≤ B) : (tupleText ts).length ≤ (B + 2) * ts.length + 3 := by
  have h1 := text_le h
  unfold tupleText
  rw [strLen_append, strLen_append]
  have e1 : (("(" : String) : Str).length = 1 := rfl
  have e2 : ((if ts.length == 1 then ",)" else ")" : String) : Str).length ≤ 2 := by
    split
    · exact Nat.le_refl 2
    · exact Nat.le_succ 1
  by_cases hn : ts = []
  · subst hn
    have : (Str.join ", " []).length = 0 := rfl
    omega
  · have := join_length_add ts hn
    omega
theorem int_text : ∀ i : Fin 100, (PyData.shown (.int ((i.val : Nat) : Int))).length ≤ 2 := by decide +kernel
/-- small ints -/
def smalls (ns : List Int) : Prop := ∀ x ∈ ns, 0 ≤ x ∧ x < 100
theorem shownAll_map (ds : List PyData) : PyData.shownAll ds = ds.map PyData.shown := by
  induction ds with
  | nil => simp [PyData.shownAll]
  | cons d ds ih => simp [PyData.shownAll, ih]
theorem shown_ints {ns : List Int} (h : smalls ns) : (toP (tupI ns)).shown.length ≤ 4 * ns.length + 3 := by
  have e : (toP (tupI ns)).shown = tupleText ((ns.map fun i => PyData.shown (.int i))) := by
    simp only [tupI, toP, PyData.shown, shownAll_map, toPs_map, List.map_map]
    rfl
  rw [e]
  have := tupleText_le (B := 2) (ts := ns.map fun i => PyData.shown (.int i)) (fun t ht => by
    obtain ⟨i, hi, rfl⟩ := List.mem_map.mp ht
    have hx := h i hi
    have := int_text ⟨i.toNat, by omega⟩
    have e : ((i.toNat : Nat) : Int) = i := by omega
    simp only [e] at this
    exact this)
  rw [List.length_map] at this
  exact this
theorem show_int {i : Int} (h : 0 ≤ i ∧ i < 100) : (PyData.int i).showable = true := by
  simp only [PyData.showable, decide_eq_true_eq]
  have : i.natAbs.log2 ≤ i.natAbs := Nat.log2_le_self _
  omega
theorem show_all : ∀ {ds : List PyData}, (∀ d ∈ ds, d.showable = true) → PyData.showableAll ds = true
  | [], _ => by simp [PyData.showableAll]
  | d :: ds, h => by simp [PyData.showableAll, h d List.mem_cons_self, show_all fun x hx => h x (List.mem_cons_of_mem _ hx)]
theorem show_ints {ns : List Int} (h : smalls ns) : (toP (tupI ns)).showable = true := by
  simp only [tupI, toP, PyData.showable, toPs_map]
  refine show_all fun d hd => ?_
  rw [List.map_map] at hd
  obtain ⟨i, hi, rfl⟩ := List.mem_map.mp hd
  exact show_int (h i hi)
/-- a text of a tuple whose parts have short texts -/
theorem show_tup {ds : List D} (h : ∀ d ∈ ds, (toP d).showable = true) : (toP (.tup ds)).showable = true := by
  simp only [toP, PyData.showable, toPs_map]
  refine show_all fun d hd => ?_
  obtain ⟨x, hx, rfl⟩ := List.mem_map.mp hd
  exact h x hx
theorem shown_tup {B : Nat} {ds : List D} (h : ∀ d ∈ ds, (toP d).shown.length ≤ B) : (toP (.tup ds)).shown.length ≤ (B + 2) * ds.length + 3 := by
  have e : (toP (.tup ds)).shown = tupleText (ds.map fun d => (toP d).shown) := by
    simp only [toP, PyData.shown, shownAll_map, toPs_map, List.map_map]
    rfl
  rw [e]
  have := tupleText_le (B := B) (ts := ds.map fun d => (toP d).shown) (fun t ht => by
    obtain ⟨i, hi, rfl⟩ := List.mem_map.mp ht
    exact h i hi)
  rw [List.length_map] at this
  exact this
theorem repr_ok {d : D} (h1 : okD 60 d = true) (h2 : (toP d).showable = true) (h3 : (toP d).shown.length ≤ 1000000) : reprD [d] = some (.str (toP d).shown) := by
  have : (toP d).shown.length ≤ sizeLine := by rw [sizeL]; omega
  simp [reprD, h1, h2, this]
theorem Lot.smalls {m : Int} {ns : List Int} (h : Lot m ns) (hm : m ≤ 6) : smalls ns := fun x hx => by have := h.rg x hx; omega
theorem repr_lot {m : Int} {ns : List Int} (h : Lot m ns) (hm : 0 ≤ m ∧ m ≤ 6) : reprD [tupI ns] = some (.str (toP (tupI ns)).shown) := by
  have h1 := shown_ints (h.smalls hm.2)
  have h2 := h.len hm.1
  exact repr_ok (okD_tupI' ns) (show_ints (h.smalls hm.2)) (by omega)
theorem repr_two {d : D} (h1 : okD 59 d = true) (h2 : (toP d).showable = true) (h3 : (toP d).shown.length ≤ 10000) : reprD [.tup [d, d]] = some (.str (toP (.tup [d, d])).shown) := by
  refine repr_ok ?_ (show_tup fun x hx => ?_) ?_
  · rw [okD_tup 59, okDs_cons, okDs_cons, okDs_nil, h1]
    rfl
  · simp at hx
    subst hx
    exact h2
  · have := shown_tup (B := 10000) (ds := [d, d]) (fun x hx => by
      simp at hx
      subst hx
      exact h3)
    simp only [List.length_cons, List.length_nil] at this
    omega
theorem tup2 (d : D) : 2 ≤ sizeLine := by rw [sizeL]; omega
def Pl (x : Sl) : Prop := ∀ t ds, x ≠ .own t ds
end Q
end
section
set_option Elab.async false
set_option linter.all false
set_option maxRecDepth 100000
set_option autoImplicit false
set_option maxHeartbeats 2000000
namespace Q
open PySem PySem.Spec PyProof.Rows L2 L3
/-! ### draws -/
section
variable {ρ : En} {s : Dk}
@[simp] theorem d_dkF (i : Nat) (f : Dk → Int) : dkF i f ρ s = (match ρ[i]? with | some (.val .deck) => some (.int (f s), ρ, s) | _ => none) := rfl
@[simp] theorem d_dkSetF (i : Nat) (f : Ev Dk) : dkSetF i f ρ s = (match f ρ s with | some (.int k, ρ1, s1) => (match (L3.thaw ρ ρ1)[i]? with | some (.val .deck) => some (.nx, L3.thaw ρ ρ1, { s1 with draws := k }) | _ => none) | _ => none) := rfl
@[simp] theorem d_dkAnyB (i : Nat) : dkAnyB i ρ s = (match ρ[i]? with | some (.val .deck) => some (!s.cells.isEmpty, ρ, s) | _ => none) := rfl
@[simp] theorem d_dkPopF (i : Nat) : dkPopF i ρ s = (match ρ[i]? with | some (.val .deck) => (match s.cells[s.cells.length - 1]? with | some k => some (.int k, ρ, { s with cells := s.cells.dropLast }) | none => none) | _ => none) := rfl
@[simp] theorem d_dkAppF (i : Nat) (g : EvL Dk) : dkAppF i g ρ s = (match ρ[i]? with | some (.val .deck) => (match g ρ s with | some ([.int k], ρ1, s1) => if s1.cells.length < 64 then some (.non, ρ1, { s1 with cells := s1.cells ++ [k] }) else none | _ => none) | _ => none) := rfl
end
def SI (s : Dk) : Prop := s.cells.length ≤ 64
theorem cmulL {i : Int} (h : -18446744073709551616 < i ∧ i < 18446744073709551616) (j : Int) : CMul i j := by
  unfold CMul
  left
  constructor
  · have : (-(2 ^ 64) : Int) = -18446744073709551616 := by decide
    omega
  · have : ((2 ^ 64) : Int) = 18446744073709551616 := by decide
    omega
theorem cmulR {j : Int} (h : -18446744073709551616 < j ∧ j < 18446744073709551616) (i : Int) : CMul i j := by
  unfold CMul
  right
  constructor
  · have : (-(2 ^ 64) : Int) = -18446744073709551616 := by decide
    omega
  · have : ((2 ^ 64) : Int) = 18446744073709551616 := by decide
    omega
theorem mulL {i : Int} (j : Int) (h : -18446744073709551616 < i ∧ i < 18446744073709551616) : mulD (.int i) (.int j) = some (.int (i * j)) := by rw [o_mul, if_pos (cmulL h j)]
theorem mulR (i : Int) {j : Int} (h : -18446744073709551616 < j ∧ j < 18446744073709551616) : mulD (.int i) (.int j) = some (.int (i * j)) := by rw [o_mul, if_pos (cmulR h i)]
theorem modP (i : Int) {j : Int} (h : 0 < j) : modD (.int i) (.int j) = some (.int (i % j)) := by rw [o_mod, if_pos h]
theorem divP (i : Int) {j : Int} (h : 0 < j ∧ j < 1073741824) : divD (.int i) (.int j) = some (.int (i / j)) := by rw [o_div, if_pos h]
theorem pow18 : powD (.int 10) (.int 18) = some (.int 1000000000000000000) := by
  rw [o_pow, if_pos]
  · rfl
  · unfold CPow; decide
def tl_draw : Ss Dk := (seqF (setF false 2 (binF modD (mapF int1D (consL (binF addD (binF mulD (varF 2) (cstF (.int 39373))) (cstF (.int 63))) nilL)) (cstF (.int 2147483647)))) (seqF (setF false 2 (binF modD (mapF int1D (consL (binF addD (binF addD (binF mulD (varF 2) (varF 2)) (binF mulD (cstF (.int 52713)) (dkF 0 Dk.draws))) (cstF (.int 49))) nilL)) (cstF (.int 2147483587)))) (seqF (setF false 2 (binF modD (mapF int1D (consL (binF mulD (varF 2) (cstF (.int 40692))) nilL)) (cstF (.int 2147483563)))) (retF (binF modD (mapF int1D (consL (binF divD (varF 2) (cstF (.int 64))) nilL)) (varF 1))))))
theorem tl_ok (many n : Int) (x : Sl) (s : Dk) (hx : ∀ t ds, x ≠ .own t ds) (h : 0 < many) : ∃ (r : Int) (ρ' : En), tl_draw [.val .deck, .val (.int many), .val (.int n), x] s = some (.rt (.int r), ρ', s) ∧ 0 ≤ r ∧ r < many := by
  have b2 : ∀ i : Int, 0 ≤ i % 2147483647 ∧ i % 2147483647 < 2147483647 := fun i => ⟨Int.emod_nonneg _ (by decide), Int.emod_lt_of_pos _ (by decide)⟩
  have m1 : ∀ i : Int, mulD (.int i) (.int 39373) = some (.int (i * 39373)) := fun i => mulR i (by decide)
  have m2 : ∀ i : Int, mulD (.int (i % 2147483647)) (.int (i % 2147483647)) = some (.int ((i % 2147483647) * (i % 2147483647))) := fun i => mulL _ (by have := b2 i; omega)
  have m3 : ∀ i : Int, mulD (.int 52713) (.int i) = some (.int (52713 * i)) := fun i => mulL i (by decide)
  have m4 : ∀ i : Int, mulD (.int i) (.int 40692) = some (.int (i * 40692)) := fun i => mulR i (by decide)
  have p1 : ∀ i : Int, modD (.int i) (.int 2147483647) = some (.int (i % 2147483647)) := fun i => modP i (by decide)
  have p2 : ∀ i : Int, modD (.int i) (.int 2147483587) = some (.int (i % 2147483587)) := fun i => modP i (by decide)
  have p3 : ∀ i : Int, modD (.int i) (.int 2147483563) = some (.int (i % 2147483563)) := fun i => modP i (by decide)
  have p4 : ∀ i : Int, modD (.int i) (.int many) = some (.int (i % many)) := fun i => modP i h
  have v1 : ∀ i : Int, divD (.int i) (.int 64) = some (.int (i / 64)) := fun i => divP i (by decide)
  have hth : ∀ (y : Sl) (z w : En), L3.thaw (y :: z) (x :: w) = x :: L3.thaw z w := fun y z w => thaw_any hx y z w
  refine ⟨((((((n * 39373 + 63) % 2147483647) * ((n * 39373 + 63) % 2147483647) + 52713 * s.draws + 49) % 2147483587 * 40692) % 2147483563) / 64) % many, [.val .deck, .val (.int many), .val (.int ((((((n * 39373 + 63) % 2147483647) * ((n * 39373 + 63) % 2147483647) + 52713 * s.draws + 49) % 2147483587 * 40692) % 2147483563))), x], ?_, Int.emod_nonneg _ (by omega), Int.emod_lt_of_pos _ h⟩
  simp [tl_draw, -o_mul, -o_mod, -o_div, m1, m2, m3, m4, p1, p2, p3, p4, v1, hth]
def st_A : Ss Dk := (dkSetF 0 (binF addD (dkF 0 Dk.draws) (cstF (.int 1))))
def st_B : Ss Dk := (setF false 2 (binF addD (dkF 0 Dk.mixed) (binF mulD (cstF (.int 61473)) (dkF 0 Dk.draws))))
def st_C : Ss Dk := (ifF (dkAnyB 0) (seqF (setF false 3 (dkPopF 0)) (seqF (ifF (truF (binF geD (varF 3) (binF powD (cstF (.int 10)) (cstF (.int 18))))) (seqF (exprF (dkAppF 0 (consL (binF divD (varF 3) (mapF maxD (consL (cstF (.int 2)) (consL (varF 1) nilL)))) nilL))) (retF (binF modD (mapF int1D (consL (varF 3) nilL)) (varF 1)))) skipF) (setF false 2 (binF addD (varF 2) (binF modD (mapF int1D (consL (varF 3) nilL)) (cstF (.int 2147483629))))))) skipF)
theorem draw_eq : b__law_draw = seqF st_A (seqF st_B (seqF st_C tl_draw)) := rfl
theorem dec_last {cs : List Int} (h : cs ≠ []) : ∃ c, cs[cs.length - 1]? = some c := by
  have hl : cs.length - 1 < cs.length := by
    cases cs with
    | nil => exact absurd rfl h
    | cons x r => simp
  exact ⟨_, List.getElem?_eq_getElem hl⟩
theorem A_ok (many : Int) (s : Dk) : st_A [.val .deck, .val (.int many), .non, .non] s = some (.nx, [.val .deck, .val (.int many), .non, .non], { s with draws := s.draws + 1 }) := by simp [st_A]
theorem B_ok (many : Int) (s : Dk) : ∃ n : Int, st_B [.val .deck, .val (.int many), .non, .non] s = some (.nx, [.val .deck, .val (.int many), .val (.int n), .non], s) := by
  have m0 : ∀ i : Int, mulD (.int 61473) (.int i) = some (.int (61473 * i)) := fun i => mulL i (by decide)
  exact ⟨s.mixed + 61473 * s.draws, by simp [st_B, -o_mul, m0]⟩
theorem C_ok (many n : Int) (s : Dk) (hI : SI s) (h : 0 < many ∧ many < 1000) : (∃ (n' : Int) (x : Sl) (s' : Dk), st_C [.val .deck, .val (.int many), .val (.int n), .non] s = some (.nx, [.val .deck, .val (.int many), .val (.int n'), x], s') ∧ (∀ t ds, x ≠ .own t ds) ∧ SI s') ∨
    ∃ (r : Int) (ρ' : En) (s' : Dk), st_C [.val .deck, .val (.int many), .val (.int n), .non] s = some (.rt (.int r), ρ', s') ∧ 0 ≤ r ∧ r < many ∧ SI s' := by
  have p4 : ∀ i : Int, modD (.int i) (.int many) = some (.int (i % many)) := fun i => modP i h.1
  have p5 : ∀ i : Int, modD (.int i) (.int 2147483629) = some (.int (i % 2147483629)) := fun i => modP i (by decide)
  have v2 : ∀ i : Int, divD (.int i) (.int (if 2 < many then many else 2)) = some (.int (i / (if 2 < many then many else 2))) := fun i => divP i (by split <;> omega)
  unfold SI at hI
  by_cases hc : s.cells = []
  · left
    refine ⟨n, .non, s, ?_, nn, by unfold SI; exact hI⟩
    simp [st_C, hc]
  · obtain ⟨c, hcl⟩ := dec_last hc
    have hne : s.cells.isEmpty = false := by
      cases h : s.cells with
      | nil => exact absurd h hc
      | cons x r => rfl
    have hlt : s.cells.dropLast.length < 64 := by
      have : 0 < s.cells.length := by
        cases h : s.cells with
        | nil => exact absurd h hc
        | cons x r => simp
      rw [List.length_dropLast]
      omega
    by_cases hb : (1000000000000000000 : Int) ≤ c
    · right
      refine ⟨c % many, [.val .deck, .val (.int many), .val (.int n), .val (.int c)], { s with cells := s.cells.dropLast ++ [c / (if 2 < many then many else 2)] }, ?_, Int.emod_nonneg _ (by omega), Int.emod_lt_of_pos _ h.1, by unfold SI; simp only [List.length_append, List.length_singleton]; omega⟩
      have hlt' : s.cells.length - 1 < 64 := by rw [List.length_dropLast] at hlt; exact hlt
      simp [st_C, hne, hcl, -o_pow, pow18, hb, -o_mod, -o_div, p4, v2, hlt']
    · left
      refine ⟨n + c % 2147483629, .val (.int c), { s with cells := s.cells.dropLast }, ?_, nv _, by show s.cells.dropLast.length ≤ 64; omega⟩
      simp [st_C, hne, hcl, -o_pow, pow18, hb, -o_mod, -o_div, p5]
theorem v_draw (many : Int) (s : Dk) (hI : SI s) (h : 0 < many ∧ many < 1000) : ∃ (r : Int) (s' : Dk), g__law_draw [.deck, .int many] s = some (.int r, s') ∧ 0 ≤ r ∧ r < many ∧ SI s' := by
  obtain ⟨n, hB⟩ := B_ok many { s with draws := s.draws + 1 }
  have hI' : SI { s with draws := s.draws + 1 } := hI
  rcases C_ok many n { s with draws := s.draws + 1 } hI' h with ⟨n', x, s', h1, h2, h3⟩ | ⟨r, ρ', s', h1, h2, h3, h4⟩
  · obtain ⟨r, ρ', h4, h5, h6⟩ := tl_ok many n' x s' h2 h.1
    refine ⟨r, s', ?_, h5, h6, h3⟩
    have hb : b__law_draw [.val .deck, .val (.int many), .non, .non] s = some (.rt (.int r), ρ', s') := by
      rw [draw_eq, d_seqF, A_ok]
      simp only [d_seqF, hB, h1, h4]
    simp [g__law_draw, hb]
  · refine ⟨r, s', ?_, h2, h3, h4⟩
    have hb : b__law_draw [.val .deck, .val (.int many), .non, .non] s = some (.rt (.int r), ρ', s') := by
      rw [draw_eq, d_seqF, A_ok]
      simp only [d_seqF, hB, h1]
    simp [g__law_draw, hb]
end Q
end
section
set_option Elab.async false
set_option linter.all false
set_option maxRecDepth 100000
set_option autoImplicit false
set_option maxHeartbeats 2000000
namespace Q
open PySem PySem.Spec PyProof.Rows L2 L3
/-! ### picks, lots -/
theorem atI_in {α : Type} {xs : List α} {r : Int} (h0 : 0 ≤ r) (h1 : r < xs.length) : ∃ x ∈ xs, atI xs r = some x := by
  have h2 : r.toNat < xs.length := by omega
  refine ⟨xs[r.toNat], List.getElem_mem h2, ?_⟩
  have := atI_nat (List.getElem?_eq_getElem h2)
  rwa [show ((r.toNat : Nat) : Int) = r by omega] at this
theorem v_pick (ns : List Int) (s : Dk) (hI : SI s) (h : ns ≠ [] ∧ ns.length < 1000) : ∃ (x : Int) (s' : Dk), g__law_pick [.deck, .lst (ns.map .int)] s = some (.int x, s') ∧ x ∈ ns ∧ SI s' := by
  have hl : 0 < ns.length := by
    cases ns with
    | nil => exact absurd rfl h.1
    | cons x r => simp
  obtain ⟨r, s', h1, h2, h3, h4⟩ := v_draw ns.length s hI ⟨by omega, by omega⟩
  obtain ⟨d, hd, e⟩ := atI_in (xs := ns.map D.int) h2 (by simpa using h3)
  obtain ⟨x, hx, rfl⟩ := List.mem_map.mp hd
  exact ⟨x, s', by simp [g__law_pick, b__law_pick, h1, e], hx, h4⟩
def upI (m : Nat) : List Int := (List.range m).map fun i : Nat => (i : Int)
theorem ints_lot (m : Nat) : Lot m (upI m) := by
  refine ⟨?_, fun x hx => ?_⟩
  · unfold asc upI
    rw [List.pairwise_map]
    exact List.pairwise_lt_range.imp fun h => by omega
  · obtain ⟨i, hi, rfl⟩ := List.mem_map.mp hx
    have := List.mem_range.mp hi
    omega
theorem range_ints (m : Nat) (h : m ≤ 1000000) : rangeD [.int (m : Int)] = some ((upI m).map .int) := by
  rw [range_nat m h]
  unfold upI
  rw [List.map_map]
  congr 1
  exact List.map_congr_left fun i _ => by simp
theorem lot_sub {m : Int} {a b : List Int} (h : Lot m b) (s : a.Sublist b) : Lot m a := ⟨List.Pairwise.sublist s h.asc, fun x hx => h.rg x (s.subset hx)⟩
/-- what is kept of upI -/
theorem kept_sub : ∀ {xs : List Int} {ys : List (Option D)}, PySem.Paired (fun (d : D) (o : Option D) => o = none ∨ o = some d) (xs.map .int) ys → ∃ zs : List Int, zs.Sublist xs ∧ ys.filterMap id = zs.map .int
  | [], _, .nil => ⟨[], List.Sublist.refl _, rfl⟩
  | x :: xs, _, .cons h r => by
    obtain ⟨zs, h1, h2⟩ := kept_sub r
    rcases h with rfl | rfl
    · exact ⟨zs, h1.cons x, by simp [h2]⟩
    · exact ⟨x :: zs, h1.cons_cons x, by simp [h2]⟩
theorem mem_upI {m : Nat} {x : Int} (h : 0 ≤ x ∧ x < m) : x ∈ upI m := List.mem_map.mpr ⟨x.toNat, List.mem_range.mpr (by omega), by omega⟩
theorem v_lot (m : Nat) (s : Dk) (hI : SI s) (hm : m ≤ 6) : ∃ (l : List Int) (s' : Dk), g__law_lot [.deck, .int m] s = some (tupI l, s') ∧ Lot m l ∧ SI s' := by
  obtain ⟨w, s1, h1, _, _, h2⟩ := v_draw 4 s hI (by decide)
  have hr := range_ints m (le_mill hm)
  obtain ⟨ys, s', e1, e2, e3⟩ := comp_rel (own := [3]) (it := rangeL (consL (varF 1) nilL)) (tg := putV 3) (cond := truF (binF ltD (callF g__law_draw (consL (varF 0) (consL (cstF (.int 4)) nilL))) (varF 2))) (elt := varF 3) (ρ := [.val .deck, .val (.int m), .val (.int w), .non]) (ρ1 := [.val .deck, .val (.int m), .val (.int w), .non]) (s := s1) (s1 := s1) (items := (upI m).map .int)
    SI (fun (d : D) (o : Option D) => o = none ∨ o = some d) (by simp [hr]) (by simp) h2 (by rw [sizeL]; simp [upI]; omega) (fun d hd s hs => by
      obtain ⟨x, hx, rfl⟩ := List.mem_map.mp hd
      obtain ⟨r, s2, q1, _, _, q2⟩ := v_draw 4 s hs (by decide)
      refine ⟨[.val .deck, .val (.int m), .val (.int w), .val (.int x)], by simp, ?_⟩
      by_cases hlt : r < w
      · right
        exact ⟨[.val .deck, .val (.int m), .val (.int w), .val (.int x)], s2, .int x, [.val .deck, .val (.int m), .val (.int w), .val (.int x)], s2, by simp [q1, hlt], by simp, by simp, q2, .inr rfl⟩
      · left
        exact ⟨[.val .deck, .val (.int m), .val (.int w), .val (.int x)], s2, by simp [q1, hlt], by simp, q2, .inl rfl⟩)
  obtain ⟨zs, hz, e4⟩ := kept_sub e3
  rw [e4] at e1
  have e1 : q1__law_lot [.val .deck, .val (.int m), .val (.int w), .non] s1 = some (.lst (zs.map .int), [.val .deck, .val (.int m), .val (.int w), .non], s') := e1
  refine ⟨zs, s', ?_, lot_sub (ints_lot m) hz, e2⟩
  simp [g__law_lot, b__law_lot, h1, e1]
  rfl
/-! ### rules -/
theorem left_len : ∀ m : Fin 7, ∀ f : Fin 7, f.val < m.val → ((upI m.val).filter fun x => !decide (x = ((f.val : Nat) : Int))).length = m.val - 1 := by decide +kernel
theorem erase_perm {α : Type} : ∀ {xs : List α} {i : Nat} {x : α}, xs[i]? = some x → (x :: xs.eraseIdx i).Perm xs
  | [], i, x, h => by simp at h
  | y :: xs, 0, x, h => by simp at h; subst h; exact List.Perm.refl _
  | y :: xs, i + 1, x, h => by
    have h : xs[i]? = some x := by simpa using h
    have := erase_perm h
    show (x :: y :: xs.eraseIdx i).Perm (y :: xs)
    exact (List.Perm.swap y x _).trans (this.cons y)
theorem map_erase (ns : List Int) (j : Nat) : (ns.map D.int).eraseIdx j = (ns.eraseIdx j).map D.int := by
  induction ns generalizing j with
  | nil => rfl
  | cons n ns ih => cases j with
    | zero => rfl
    | succ j => simp [List.eraseIdx, ih]
def EnR (m most f : Int) (left ifs : List Int) (ρ : En) : Prop := ∃ x : Sl, ρ = [.val .deck, .val (.int m), .val (.int most), .val (.int f), .own false (left.map .int), .own false (ifs.map .int), x, .non] ∧ ∀ t ds, x ≠ .own t ds
theorem bd_rule (m most f : Int) (left ifs : List Int) (x : Sl) (s : Dk) (hx : ∀ t ds, x ≠ .own t ds) (hI : SI s) (hl : left ≠ [] ∧ left.length ≤ 6 ∧ ifs.length ≤ 6) :
    ∃ (j : Nat) (y : Int) (s' : Dk), left[j]? = some y ∧ SI s' ∧ bd1__law_rule [.val .deck, .val (.int m), .val (.int most), .val (.int f), .own false (left.map .int), .own false (ifs.map .int), x, .non] s = some (.nx, [.val .deck, .val (.int m), .val (.int most), .val (.int f), .own false ((left.eraseIdx j).map .int), .own false ((ifs ++ [y]).map .int), x, .non], s') := by
  have hp : 0 < left.length := by
    cases left with
    | nil => exact absurd rfl hl.1
    | cons x r => simp
  obtain ⟨r, s', h1, h2, h3, h4⟩ := v_draw left.length s hI ⟨by omega, by omega⟩
  have hj : r.toNat < left.length := by omega
  refine ⟨r.toNat, left[r.toNat], s', List.getElem?_eq_getElem hj, h4, ?_⟩
  have hr : 0 ≤ r ∧ r < 9223372036854775808 := ⟨h2, by omega⟩
  have z1 : ifs.length < sizeLine := by rw [sizeL]; omega
  have hth : ∀ (y : Sl) (z w : En), L3.thaw (y :: z) (x :: w) = x :: L3.thaw z w := fun y z w => thaw_any hx y z w
  unfold bd1__law_rule
  simp [h1, hr, hj, z1, hth, map_erase]
end Q
end
section
set_option Elab.async false
set_option linter.all false
set_option maxRecDepth 100000
set_option autoImplicit false
set_option maxHeartbeats 2000000
namespace Q
open PySem PySem.Spec PyProof.Rows L2 L3
theorem upI_nd (m : Nat) : (upI m).Nodup := (ints_lot m).good.nd
theorem vq1_rule (m : Nat) (most f : Int) (s : Dk) (hm : m ≤ 6) : q1__law_rule [.val .deck, .val (.int m), .val (.int most), .val (.int f), .non, .non, .non, .non] s = some (.lst (((upI m).filter fun x => !decide (x = f)).map .int), [.val .deck, .val (.int m), .val (.int most), .val (.int f), .non, .non, .non, .non], s) := by
  have hr := range_ints m (le_mill hm)
  unfold q1__law_rule
  refine (comp_map (upI m) .int (fun x => !decide (x = f)) .int (ρ1 := [.val .deck, .val (.int m), .val (.int most), .val (.int f), .non, .non, .non, .non]) (s1 := s) (by simp [hr]) (by simp) (by rw [sizeL]; simp [upI]; omega) (fun x hx => ?_)).trans rfl
  refine ⟨[.val .deck, .val (.int m), .val (.int most), .val (.int f), .non, .non, .non, .val (.int x)], [.val .deck, .val (.int m), .val (.int most), .val (.int f), .non, .non, .non, .val (.int x)], by simp, by simp, by simp, fun _ => ⟨[.val .deck, .val (.int m), .val (.int most), .val (.int f), .non, .non, .non, .val (.int x)], by simp, by simp⟩⟩
theorem v_rule (m : Nat) (most : Int) (s : Dk) (hI : SI s) (hm : 1 ≤ m ∧ m ≤ 6) (hmo : 0 ≤ most ∧ most ≤ 5) : ∃ (r : Rl) (s' : Dk), g__law_rule [.deck, .int m, .int most] s = some (ruleD r, s') ∧ RuleOk m r ∧ SI s' := by
  obtain ⟨f, s1, h1, h2, h3, h4⟩ := v_draw m s hI ⟨by omega, by omega⟩
  have hq := vq1_rule m most f s1 hm.2
  have hl0 : ((upI m).filter fun x => !decide (x = f)).length = m - 1 := by
    have := left_len ⟨m, by omega⟩ ⟨f.toNat, by omega⟩ (by show f.toNat < m; omega)
    simp only at this
    rw [show ((f.toNat : Nat) : Int) = f by omega] at this
    exact this
  obtain ⟨t, s2, h5, h6, h7, h8⟩ := v_draw (most + 1) s1 h4 ⟨by omega, by omega⟩
  -- how many
  obtain ⟨k, hk, hk2⟩ : ∃ k : Nat, (if (m : Int) - 1 < t then (m : Int) - 1 else t) = k ∧ k ≤ m - 1 := by
    refine ⟨(if (m : Int) - 1 < t then (m : Int) - 1 else t).toNat, ?_, ?_⟩
    · split <;> omega
    · split <;> omega
  have hr := range_nat k (by omega)
  obtain ⟨ρ', s', e1, e2, x, hx, left, ifs, e3, e4, e5⟩ : ∃ ρ' s', loopF (putV 6) bd1__law_rule ((List.range k).map fun i : Nat => .int (0 + (i : Nat))) [.val .deck, .val (.int m), .val (.int most), .val (.int f), .own false (((upI m).filter fun x => !decide (x = f)).map .int), .own false [], .non, .non] s2 = some (.nx, ρ', s') ∧ SI s' ∧
      ∃ x : Sl, (∀ t ds, x ≠ .own t ds) ∧ ∃ left ifs : List Int, ρ' = [.val .deck, .val (.int m), .val (.int most), .val (.int f), .own false (left.map .int), .own false (ifs.map .int), x, .non] ∧ (ifs ++ left).Perm ((upI m).filter fun x => !decide (x = f)) ∧ ifs.length = k := by
    have := loop_ix (S := Dk) (tg := putV 6) (b := bd1__law_rule) (fun i : Nat => .int (0 + (i : Nat))) (fun i ρ s => SI s ∧ ∃ (x : Sl) (left ifs : List Int), ρ = [.val .deck, .val (.int m), .val (.int most), .val (.int f), .own false (left.map .int), .own false (ifs.map .int), x, .non] ∧ (∀ t ds, x ≠ .own t ds) ∧ (ifs ++ left).Perm ((upI m).filter fun x => !decide (x = f)) ∧ ifs.length = i) (List.range k)
      [.val .deck, .val (.int m), .val (.int most), .val (.int f), .own false (((upI m).filter fun x => !decide (x = f)).map .int), .own false [], .non, .non] s2 ⟨h8, .non, _, [], rfl, nn, by simp, rfl⟩ (fun i hi ρ s h => by
      obtain ⟨hs, x, left, ifs, rfl, hx, hp, hl⟩ := h
      have hik : i < k := by simpa using hi
      have hlen := hp.length_eq
      rw [List.length_append, hl0] at hlen
      have hne : left ≠ [] := fun z => by
        subst z
        simp at hlen
        omega
      obtain ⟨j, y, s', q1, q2, q3⟩ := bd_rule m most f left ifs (.val (.int (i : Nat))) s (nv _) hs ⟨hne, by omega, by omega⟩
      refine ⟨[.val .deck, .val (.int m), .val (.int most), .val (.int f), .own false (left.map .int), .own false (ifs.map .int), .val (.int (i : Nat)), .non], _, s', by simp, q3, q2, _, left.eraseIdx j, ifs ++ [y], rfl, nv _, ?_, by simp [hl]⟩
      rw [List.append_assoc]
      exact ((erase_perm q1).append_left ifs).trans hp)
    rw [List.length_range] at this
    obtain ⟨ρ', s', q1, q2, x, left, ifs, q3, q4, q5, q6⟩ := this
    exact ⟨ρ', s', q1, q2, x, q4, left, ifs, q3, q5, q6⟩
  rw [e3] at e1
  have e6 : lp1__law_rule [.val .deck, .val (.int m), .val (.int most), .val (.int f), .own false (((upI m).filter fun x => !decide (x = f)).map .int), .own false [], .non, .non] s1 = some (.nx, [.val .deck, .val (.int m), .val (.int most), .val (.int f), .own false (left.map .int), .own false (ifs.map .int), x, .non], s') := by
    unfold lp1__law_rule
    simp only [d_forF, d_rangeL, d_consL, d_mapF, d_callF, d_binF, d_varF, d_cstF, d_nilL, List.getElem?_cons_succ, List.getElem?_cons_zero, o_add, o_sub, h5, c_min2, hk, hr]
    simpa using e1
  have hmem : ∀ y ∈ ifs, y ∈ (upI m).filter fun x => !decide (x = f) := fun y hy => e4.mem_iff.mp (List.mem_append_left _ hy)
  have hnd0 : ((upI m).filter fun x => !decide (x = f)).Nodup := ((upI_nd m).sublist List.filter_sublist)
  have hnd : ifs.Nodup := (List.nodup_append.mp (e4.nodup_iff.mpr hnd0)).1
  have hg : Good m ifs := ⟨hnd, fun y hy => (ints_lot m).rg y (List.mem_filter.mp (hmem y hy)).1⟩
  refine ⟨(sortI ifs, f), s', ?_, ⟨hg.lot, ⟨h2, h3⟩, fun hin => ?_⟩, e2⟩
  · have z2 := tup2 .non
    have z0 : 0 ≤ sizeLine := Nat.zero_le _
    simp [g__law_rule, b__law_rule, h1, hq, z0, e6, z2, thaw_any hx]
    rfl
  · have := hmem f ((sortI_perm _).mem_iff.mp hin)
    rw [List.mem_filter] at this
    simp at this
end Q
end
section
set_option Elab.async false
set_option linter.all false
set_option maxRecDepth 100000
set_option autoImplicit false
set_option maxHeartbeats 2000000
namespace Q
open PySem PySem.Spec PyProof.Rows L2 L3
theorem some_rules {m : Int} : ∀ {xs : List D} {ys : List (Option D)}, PySem.Paired (fun (_ : D) (o : Option D) => ∃ r : Rl, RuleOk m r ∧ o = some (ruleD r)) xs ys → ∃ rs : List Rl, ys.filterMap id = rs.map ruleD ∧ rs.length = xs.length ∧ ∀ r ∈ rs, RuleOk m r
  | [], _, .nil => ⟨[], rfl, rfl, fun r h => by cases h⟩
  | x :: xs, _, .cons h r => by
    obtain ⟨rs, h1, h2, h3⟩ := some_rules r
    obtain ⟨q, hq, rfl⟩ := h
    refine ⟨q :: rs, by simp [h1], by simp [h2], fun z hz => ?_⟩
    rcases List.mem_cons.mp hz with rfl | hz
    · exact hq
    · exact h3 z hz
theorem atI_last' {α : Type} {xs : List α} (h : xs ≠ []) : ∃ x ∈ xs, atI xs (-1) = some x := by
  refine ⟨xs.getLast h, List.getLast_mem h, ?_⟩
  have := atI_last xs.dropLast (xs.getLast h)
  rwa [List.dropLast_concat_getLast] at this
theorem map_set' (rs : List Rl) (r : Rl) (j : Nat) : (rs.map ruleD).set j (ruleD r) = (rs.set j r).map ruleD := by
  rw [List.map_set]
theorem ixN0 {n : Nat} (h : 0 < n) : ixN n 0 = some 0 := by
  unfold ixN
  rw [if_pos (by omega), if_pos (by omega)]
  rfl
theorem v_rules (m : Nat) (s : Dk) (hI : SI s) (hm : 1 ≤ m ∧ m ≤ 6) : ∃ (R : List Rl) (s' : Dk), g__law_rules [.deck, .int m] s = some (rulesD R, s') ∧ RulesOk m R ∧ SI s' := by
  obtain ⟨most, s1, h1, hmo, h2⟩ := v_pick [1, 2, 2, 3, 5] s hI (by decide)
  have h1 : g__law_pick [.deck, .lst [.int 1, .int 2, .int 2, .int 3, .int 5]] s = some (.int most, s1) := h1
  have hmost : 0 ≤ most ∧ most ≤ 5 := by
    simp at hmo
    omega
  obtain ⟨t, s2, h3, h4, h5, h6⟩ := v_draw 3 s1 h2 (by decide)
  -- how many rules
  obtain ⟨many, s3, h7, h8, h9, h10⟩ : ∃ (many : Int) (s3 : Dk), iteF' (truF (binF eqD (callF g__law_draw (consL (varF 0) (consL (cstF (.int 3)) nilL))) (cstF (.int 0)))) (callF g__law_draw (consL (varF 0) (consL (cstF (.int 9)) nilL))) (callF g__law_draw (consL (varF 0) (consL (cstF (.int 5)) nilL))) [.val .deck, .val (.int m), .non, .non, .non, .non] s1 = some (.int many, [.val .deck, .val (.int m), .non, .non, .non, .non], s3) ∧ 0 ≤ many ∧ many ≤ 8 ∧ SI s3 := by
    by_cases ht : t = 0
    · obtain ⟨n, s3, q1, q2, q3, q4⟩ := v_draw 9 s2 h6 (by decide)
      exact ⟨n, s3, by simp [h3, ht, q1], q2, by omega, q4⟩
    · obtain ⟨n, s3, q1, q2, q3, q4⟩ := v_draw 5 s2 h6 (by decide)
      exact ⟨n, s3, by simp [h3, ht, q1], q2, by omega, q4⟩
  obtain ⟨k, rfl⟩ : ∃ k : Nat, many = k := ⟨many.toNat, by omega⟩
  have hk : k ≤ 8 := by omega
  have hr := range_nat k (by omega)
  obtain ⟨ys, s4, e1, e2, e3⟩ := comp_rel (own := [5]) (it := rangeL (consL (varF 3) nilL)) (tg := putV 5) (cond := yesB) (elt := callF g__law_rule (consL (varF 0) (consL (varF 1) (consL (varF 2) nilL)))) (ρ := [.val .deck, .val (.int m), .val (.int most), .val (.int k), .non, .non]) (ρ1 := [.val .deck, .val (.int m), .val (.int most), .val (.int k), .non, .non]) (s := s3) (s1 := s3) (items := (List.range k).map fun i : Nat => .int (0 + (i : Nat)))
    SI (fun (_ : D) (o : Option D) => ∃ r : Rl, RuleOk m r ∧ o = some (ruleD r)) (by simp [hr]) (by simp) h10 (by rw [sizeL]; simp; omega) (fun d hd s hs => by
      obtain ⟨i, hi, rfl⟩ := List.mem_map.mp hd
      obtain ⟨r, s', q1, q2, q3⟩ := v_rule m most s hs hm hmost
      refine ⟨[.val .deck, .val (.int m), .val (.int most), .val (.int k), .non, .val (.int (0 + (i : Nat)))], by simp, .inr ⟨[.val .deck, .val (.int m), .val (.int most), .val (.int k), .non, .val (.int (0 + (i : Nat)))], s, ruleD r, [.val .deck, .val (.int m), .val (.int most), .val (.int k), .non, .val (.int (0 + (i : Nat)))], s', by simp, by simp [q1], by simp, q3, r, q2, rfl⟩⟩)
  obtain ⟨rs, e4, e5, e6⟩ := some_rules e3
  rw [List.length_map, List.length_range] at e5
  rw [e4] at e1
  have e1 : q1__law_rules [.val .deck, .val (.int m), .val (.int most), .val (.int k), .non, .non] s3 = some (.lst (rs.map ruleD), [.val .deck, .val (.int m), .val (.int most), .val (.int k), .non, .non], s4) := e1
  have z2 := tup2 .non
  have z5 : 5 ≤ sizeLine := by rw [sizeL]; omega
  -- one of them twice
  have fin : ∃ (rs2 : List Rl) (s5 : Dk), ifF (andB (truF (binF gtD (varF 3) (cstF (.int 1)))) (truF (binF eqD (callF g__law_draw (consL (varF 0) (consL (cstF (.int 5)) nilL))) (cstF (.int 0))))) (setAtF 4 (thawF (binF ixD (varF 4) (negF (cstF (.int 1))))) (cstF (.int 0))) skipF [.val .deck, .val (.int m), .val (.int most), .val (.int k), .own false (rs.map ruleD), .non] s4 = some (.nx, [.val .deck, .val (.int m), .val (.int most), .val (.int k), .own false (rs2.map ruleD), .non], s5) ∧ rs2.length = rs.length ∧ (∀ r ∈ rs2, RuleOk m r) ∧ SI s5 := by
    by_cases hk1 : (1 : Int) < k
    · obtain ⟨u, s5, q1, _, _, q2⟩ := v_draw 5 s4 e2 (by decide)
      by_cases hu : u = 0
      · have hne : rs.map ruleD ≠ [] := fun z => by
          have := congrArg List.length z
          simp at this
          subst this
          simp at e5
          omega
        obtain ⟨d, hd, ed⟩ := atI_last' hne
        obtain ⟨r, hr', rfl⟩ := List.mem_map.mp hd
        have hl : 0 < rs.length := by omega
        refine ⟨rs.set 0 r, s5, ?_, by simp, fun z hz => ?_, q2⟩
        · simp [hk1, q1, hu, ed, ixN0 hl]
        · rcases List.mem_or_eq_of_mem_set hz with hz | rfl
          · exact e6 z hz
          · exact e6 _ hr'
      · exact ⟨rs, s5, by simp [hk1, q1, hu], rfl, e6, q2⟩
    · exact ⟨rs, s4, by simp [hk1], rfl, e6, e2⟩
  obtain ⟨rs2, s5, f1, f2, f3, f4⟩ := fin
  refine ⟨rs2, s5, ?_, ⟨by omega, f3⟩, f4⟩
  have a1 : asgF (mapF dispT (consL (callF g__law_pick (consL (varF 0) (consL (mapF dispL (consL (cstF (.int 1)) (consL (cstF (.int 2)) (consL (cstF (.int 2)) (consL (cstF (.int 3)) (consL (cstF (.int 5)) nilL)))))) nilL))) (consL (iteF' (truF (binF eqD (callF g__law_draw (consL (varF 0) (consL (cstF (.int 3)) nilL))) (cstF (.int 0)))) (callF g__law_draw (consL (varF 0) (consL (cstF (.int 9)) nilL))) (callF g__law_draw (consL (varF 0) (consL (cstF (.int 5)) nilL)))) nilL))) (tupG 2 (consG (putV 2) (consG (putV 3) nilG))) [.val .deck, .val (.int m), .non, .non, .non, .non] s = some (.nx, [.val .deck, .val (.int m), .val (.int most), .val (.int k), .non, .non], s3) := by
    simp only [d_asgF, d_mapF, d_consL, d_callF, d_varF, d_cstF, d_nilL, List.getElem?_cons_zero, c_dispL, List.length_cons, List.length_nil, z5, if_true, h1, h7]
    simp [z2]
  have a2 : setF true 4 q1__law_rules [.val .deck, .val (.int m), .val (.int most), .val (.int k), .non, .non] s3 = some (.nx, [.val .deck, .val (.int m), .val (.int most), .val (.int k), .own false (rs.map ruleD), .non], s4) := by
    simp only [d_setF, e1]
    simp
  have hb : b__law_rules [.val .deck, .val (.int m), .non, .non, .non, .non] s = some (.rt (rulesD rs2), [.val .deck, .val (.int m), .val (.int most), .val (.int k), .own false (rs2.map ruleD), .non], s5) := by
    unfold b__law_rules
    rw [d_seqF, a1]
    simp only
    rw [d_seqF, a2]
    simp only
    rw [d_seqF, f1]
    simp [rulesD]
  simp [g__law_rules, hb]
end Q
end
section
set_option Elab.async false
set_option linter.all false
set_option maxRecDepth 100000
set_option autoImplicit false
set_option maxHeartbeats 2000000
namespace Q
open PySem PySem.Spec PyProof.Rows L2 L3
/-! ### papers -/
inductive Paper where
  | steps (ps : List Nat)
  | closed (c : List Int)
def paperD : Paper → D
  | .steps ps => .tup [.str "steps", .tup (posD ps)]
  | .closed c => .tup [.str "closed", tupI c]
def PaperOk (m : Int) (n : Nat) : Paper → Prop
  | .steps ps => (∀ p ∈ ps, p < n) ∧ ps.length ≤ 8
  | .closed c => Lot m c
def holdsB (R : List Rl) (lot : List Int) (f : Int) : Paper → Bool
  | .steps ps => leadB R lot ps && decide (f ∈ ends R lot ps)
  | .closed c => closedB R c && (hasB c lot && !decide (f ∈ c))
theorem pos_ints (ps : List Nat) : posD ps = (ps.map fun p : Nat => (p : Int)).map .int := by simp [posD]
theorem pos_tup (ps : List Nat) : D.tup (posD ps) = tupI (ps.map fun p : Nat => (p : Int)) := by
  unfold tupI
  rw [pos_ints]
theorem rat_get {R : List Rl} {p : Nat} (h : p < R.length) : R[p]? = some (rat R p) := by
  unfold rat
  rw [List.getD_eq_getElem?_getD, List.getElem?_eq_getElem h]
  rfl
theorem rat_in {R : List Rl} {p : Nat} (h : p < R.length) : rat R p ∈ R := List.mem_of_getElem? (rat_get h)
theorem ix_rat {R : List Rl} {p : Nat} (h : p < R.length) : ixD (rulesD R) (.int (p : Int)) = some (ruleD (rat R p)) := by
  show atI (R.map ruleD) (p : Int) = _
  exact atI_nat (by rw [List.getElem?_map, rat_get h]; rfl)
theorem bd_lead (m : Int) (R : List Rl) (lot there : List Int) (f : Int) (St : D) (p : Nat) (s : Dk) (hm : 0 ≤ m ∧ m ≤ 6) (hR : RulesOk m R) (hp : p < R.length) (hz : there.length ≤ 100) :
    bd1_do_lead [.val (rulesD R), .val (tupI lot), .val (.int f), .val St, .own false (there.map .int), .val (.int (p : Int))] s = if hasB there (rat R p).1 then some (.nx, [.val (rulesD R), .val (tupI lot), .val (.int f), .val St, .own false ((there ++ [(rat R p).2]).map .int), .val (.int (p : Int))], s) else some (.rt (.bl false), [.val (rulesD R), .val (tupI lot), .val (.int f), .val St, .own false (there.map .int), .val (.int (p : Int))], s) := by
  have hl := (hR.ok _ (rat_in hp)).lot.len hm.1
  have e1 := ix_rat hp
  have e2 := v_has_all (.lst (there.map .int)) there (rat R p).1 s (.inr rfl) (by rw [sizeL]; omega)
  have z1 : there.length < sizeLine := by rw [sizeL]; omega
  unfold bd1_do_lead
  cases h : hasB there (rat R p).1 with
  | true =>
    rw [h] at e2
    simp [e1, ruleD, e2, z1]
  | false =>
    rw [h] at e2
    simp [e1, ruleD, e2]
theorem lp_lead (m : Int) (R : List Rl) (lot : List Int) (f : Int) (St : D) (s : Dk) (hm : 0 ≤ m ∧ m ≤ 6) (hR : RulesOk m R) : ∀ (ps : List Nat) (there : List Int) (x : Sl), Pl x → (∀ p ∈ ps, p < R.length) → there.length + ps.length ≤ 100 →
    ∃ ρ', loopF (putV 5) bd1_do_lead (posD ps) [.val (rulesD R), .val (tupI lot), .val (.int f), .val St, .own false (there.map .int), x] s = some (if leadB R there ps then .nx else .rt (.bl false), ρ', s) ∧ (leadB R there ps = true → ∃ y, Pl y ∧ ρ' = [.val (rulesD R), .val (tupI lot), .val (.int f), .val St, .own false ((ends R there ps).map .int), y])
  | [], there, x, hx, _, _ => ⟨_, rfl, fun _ => ⟨x, hx, by simp [ends]⟩⟩
  | p :: ps, there, x, hx, hp, hz => by
    rw [List.length_cons] at hz
    have e1 := bd_lead m R lot there f St p s hm hR (hp p List.mem_cons_self) (by omega)
    have e2 : putV 5 (.int (p : Int)) [.val (rulesD R), .val (tupI lot), .val (.int f), .val St, .own false (there.map .int), x] = some [.val (rulesD R), .val (tupI lot), .val (.int f), .val St, .own false (there.map .int), .val (.int (p : Int))] := by simp
    have e3 : posD (p :: ps) = .int (p : Int) :: posD ps := rfl
    rw [e3]
    unfold loopF
    simp only [e2, e1, leadB]
    by_cases h : hasB there (rat R p).1 = true
    · obtain ⟨ρ', q1, q2⟩ := lp_lead m R lot f St s hm hR ps (there ++ [(rat R p).2]) (.val (.int (p : Int))) (nv _) (fun q hq => hp q (List.mem_cons_of_mem _ hq)) (by rw [List.length_append]; simp; omega)
      rw [← ends_cons] at q2
      simp only [h, if_true, Bool.true_and]
      exact ⟨ρ', q1, q2⟩
    · have h' : hasB there (rat R p).1 = false := by simpa using h
      simp only [h', Bool.false_eq_true, if_false, Bool.false_and]
      exact ⟨_, rfl, fun z => by cases z⟩
theorem v_do_lead (m : Int) (R : List Rl) (lot : List Int) (f : Int) (ps : List Nat) (s : Dk) (hm : 0 ≤ m ∧ m ≤ 6) (hR : RulesOk m R) (hl : Lot m lot) (hp : (∀ p ∈ ps, p < R.length) ∧ ps.length ≤ 8) :
    g_do_lead [rulesD R, tupI lot, .int f, .tup (posD ps)] s = some (.bl (leadB R lot ps && decide (f ∈ ends R lot ps)), s) := by
  have hll := hl.len hm.1
  have e1 : g_are_between [.tup (posD ps), .int 0, .int ((R.length : Int) - 1)] s = some (.bl true, s) := by
    rw [pos_tup]
    refine v_are_between _ 0 _ s (fun x hx => ?_) (by rw [sizeL, List.length_map]; omega)
    obtain ⟨p, hp', rfl⟩ := List.mem_map.mp hx
    have := hp.1 p hp'
    omega
  have e2 : lenD [rulesD R] = some (.int R.length) := by simp [rulesD]
  have e3 : listD [tupI lot] = some (.lst (lot.map .int)) := rfl
  obtain ⟨ρ', q1, q2⟩ := lp_lead m R lot f (.tup (posD ps)) s hm hR ps lot .non nn hp.1 (by omega)
  have e4 : lp1_do_lead [.val (rulesD R), .val (tupI lot), .val (.int f), .val (.tup (posD ps)), .own false (lot.map .int), .non] s = some (if leadB R lot ps then .nx else .rt (.bl false), ρ', s) := by
    rw [← q1]
    simp [lp1_do_lead]
  cases h : leadB R lot ps with
  | false =>
    rw [h] at e4
    simp at e4
    simp [g_do_lead, b_do_lead, e1, e2, e3, e4]
  | true =>
    rw [h] at e4
    obtain ⟨y, hy, rfl⟩ := q2 h
    simp at e4
    have e5 := in_lst f (ends R lot ps)
    simp [g_do_lead, b_do_lead, e1, e2, e3, e4, -o_inL, e5, thaw_any hy]
theorem v_follows_holds (m : Int) (R : List Rl) (lot : List Int) (f : Int) (P : Paper) (s : Dk) (hm : 1 ≤ m ∧ m ≤ 6) (hR : RulesOk m R) (hl : Lot m lot) (hf : 0 ≤ f ∧ f < m) (hP : PaperOk m R.length P) :
    g_follows_holds [.int m, rulesD R, tupI lot, .int f, paperD P] s = some (.bl (holdsB R lot f P), s) := by
  have hm0 : 0 ≤ m ∧ m ≤ 6 := ⟨by omega, hm.2⟩
  have e1 := v_need_fl m R lot f s hR hm hl hf
  cases P with
  | steps ps =>
    have e2 := v_is_word "steps" "steps" (.tup (posD ps)) s
    have e3 := v_do_lead m R lot f ps s hm0 hR hl hP
    simp [g_follows_holds, b_follows_holds, paperD, e1, e2, e3, holdsB]
  | closed c =>
    have e2 := v_is_word "closed" "steps" (tupI c) s
    have e3 := v_is_word "closed" "closed" (tupI c) s
    have n1 : (("closed" : Str) == "steps") = false := by decide
    rw [n1] at e2
    have e4 := v_is_facts_value m c s hP hm0
    have e5 := v_is_closed m R c s hR hm0
    have e6 := v_has_all (tupI c) c lot s (.inl rfl) (by have := hl.len hm0.1; rw [sizeL]; omega)
    have e7 := inB_tupI f c
    cases h1 : closedB R c with
    | false =>
      rw [h1] at e5
      simp [g_follows_holds, b_follows_holds, paperD, e1, e2, e3, e4, e5, holdsB, h1]
    | true =>
      rw [h1] at e5
      cases h2 : hasB c lot with
      | false =>
        rw [h2] at e6
        simp [g_follows_holds, b_follows_holds, paperD, e1, e2, e3, e4, e5, e6, holdsB, h1, h2]
      | true =>
        rw [h2] at e6
        simp [g_follows_holds, b_follows_holds, paperD, e1, e2, e3, e4, e5, e6, -o_ninT, e7, holdsB, h1, h2]
theorem v_follows_turned (m : Int) (R : List Rl) (lot : List Int) (f : Int) (ns : List Int) (d : D) (s : Dk) (hm : 1 ≤ m ∧ m ≤ 6) (hR : RulesOk m R) (hl : Lot m lot) (hf : 0 ≤ f ∧ f < m) :
    g_follows_holds [.int m, rulesD R, tupI lot, .int f, .tup [tupI ns, d]] s = some (.bl false, s) := by
  have e1 := v_need_fl m R lot f s hR hm hl hf
  have e2 := fun v => v_no_word ns d v s
  simp [g_follows_holds, b_follows_holds, e1, e2]
/-- what judging gives -/
structure Judged (m : Int) (R : List Rl) (lot : List Int) (f : Int) (P : Paper) : Prop where
  ok : PaperOk m R.length P
  holds : holdsB R lot f P = true
  kind : match P with
    | .steps _ => f ∈ clo R lot
    | .closed c => f ∉ clo R lot
theorem v_judge (m : Int) (R : List Rl) (lot : List Int) (f : Int) (s : Dk) (hm : 1 ≤ m ∧ m ≤ 6) (hR : RulesOk m R) (hl : Lot m lot) (hf : 0 ≤ f ∧ f < m) :
    ∃ P, Judged m R lot f P ∧ g_judge_follows [.int m, rulesD R, tupI lot, .int f] s = some (paperD P, s) := by
  have hm0 : 0 ≤ m ∧ m ≤ 6 := ⟨by omega, hm.2⟩
  obtain ⟨steps, h1, h2, led⟩ := v_steps_from m R lot s hm0 hR hl
  have e1 := v_need_fl m R lot f s hR hm hl hf
  have e2 := in_lst f (itr R 6 lot)
  have z2 : 2 ≤ sizeLine := by rw [sizeL]; omega
  have hc := cloOk hm0 hR hl
  have hn : noLs (posD steps) = true := by rw [pos_ints]; exact noLs_ints _
  by_cases h : f ∈ itr R 6 lot
  · refine ⟨.steps steps, ⟨⟨led.rg, ?_⟩, ?_, clo_mem.mpr h⟩, ?_⟩
    · have := led.len
      have := (hl.good.itr hR.ok 6).len hm0.1
      omega
    · show (leadB R lot steps && decide (f ∈ ends R lot steps)) = true
      rw [led.ok, ← led.en]
      simp [h]
    · simp [g_judge_follows, b_judge_follows, e1, h1, -o_inL, e2, h, z2, hn, paperD]
  · refine ⟨.closed (clo R lot), ⟨hc.isL, ?_, fun z => h (clo_mem.mp z)⟩, ?_⟩
    · show (closedB R (clo R lot) && (hasB (clo R lot) lot && !decide (f ∈ clo R lot))) = true
      rw [hc.closed, has_iff.mpr hc.sub]
      simp only [Bool.true_and, Bool.not_eq_true', decide_eq_false_iff_not]
      exact fun z => h (clo_mem.mp z)
    · have e3 : tupleD [.lst ((sortI (itr R 6 lot)).map .int)] = some (tupI (clo R lot)) := rfl
      simp [g_judge_follows, b_judge_follows, e1, h1, -o_inL, e2, h, z2, hn, paperD, -c_tupL, e3]
end Q
end
section
set_option Elab.async false
set_option linter.all false
set_option maxRecDepth 100000
set_option autoImplicit false
set_option maxHeartbeats 2000000
namespace Q
open PySem PySem.Spec PyProof.Rows L2 L3
theorem ne_nil (ns : List Int) : neD (.lst (ns.map .int)) (.lst []) = some (.bl (!ns.isEmpty)) := by
  rw [o_ne, eq_nil, okD_L, show okD 60 (.lst []) = true from okD_L []]
  rfl
/-! ### tests -/
theorem v__law_is_integer (i : Int) (s : Dk) : g__law_is_integer [.int i] s = some (.bl true, s) := by
  simp [g__law_is_integer, b__law_is_integer]
theorem eqB_L (a b : List Int) : eqB (.lst (a.map .int)) (.lst (b.map .int)) = decide (a = b) := by
  have := eqv_ints a b
  simp only [eqB, toP, PyData.eqv]
  exact this
theorem v__law_is_lot {m : Int} {ns : List Int} (s : Dk) (h : Lot m ns) (hm : 0 ≤ m ∧ m ≤ 6) : g__law_is_lot [.int m, tupI ns] s = some (.bl true, s) := by
  have hl := h.len hm.1
  have hq : q1__law_is_lot [.val (.int m), .val (tupI ns), .non] s = some (.lst [], [.val (.int m), .val (tupI ns), .non], s) := by
    unfold q1__law_is_lot
    refine (comp_map ns .int (fun _ => false) .int (ρ1 := [.val (.int m), .val (tupI ns), .non]) (s1 := s) (by simp [tupI]) (by simp) (by rw [sizeL]; omega) (fun x hx => ?_)).trans (by simp)
    have hx := h.rg x hx
    refine ⟨[.val (.int m), .val (tupI ns), .val (.int x)], [.val (.int m), .val (tupI ns), .val (.int x)], by simp, by simp [v__law_is_integer, hx.1, hx.2], by simp, fun h => by cases h⟩
  have e7 : neD (.lst []) (.lst []) = some (.bl false) := by
    have := ne_nil []
    simpa using this
  have e8 : setSortD [tupI ns] = some (.lst (ns.map .int)) := by
    have := c_setTI ns (by omega)
    rw [once_id h.good.nd, sort_id h.asc] at this
    exact this
  have e9 : listD [tupI ns] = some (.lst (ns.map .int)) := rfl
  have e10 : eqD (.lst (ns.map .int)) (.lst (ns.map .int)) = some (.bl true) := by
    rw [o_eq, okD_L, eqB_L]
    simp
  have hi : isiD [tupI ns, .ty "tuple"] = some (.bl true) := rfl
  have z0 : 0 ≤ sizeLine := Nat.zero_le _
  simp [g__law_is_lot, b__law_is_lot, hq, hi, z0, -o_ne, e7, e8, e9, -o_eq, e10]
theorem eq_tupI (a b : List Int) : eqD (tupI a) (tupI b) = some (.bl (decide (a = b))) := by
  rw [o_eq, okD_tupI', okD_tupI', eqB_tupI]
  rfl
theorem closed_fix {m : Int} {R : List Rl} {c : List Int} (hm : 0 ≤ m ∧ m ≤ 6) (hR : RulesOk m R) (h : Lot m c) : closedB R c = decide (clo R c = c) := by
  have hc := cloOk hm hR h
  cases z : closedB R c with
  | true => rw [clo_fix h z]; simp
  | false =>
    have : clo R c ≠ c := fun e => by
      have := hc.closed
      rw [e, z] at this
      cases this
    simp [this]
def E5 (m : Int) (R : List Rl) (lot : List Int) (f : Int) (Pd : D) (there : List Int) (x : Sl) : En := [.val (.int m), .val (rulesD R), .val (tupI lot), .val (.int f), .val Pd, .own false (there.map .int), x, .non]
theorem vq1_paper (m : Int) (R : List Rl) (lot there : List Int) (f : Int) (Pd : D) (p : Nat) (s : Dk) (hm : 0 ≤ m ∧ m ≤ 6) (hR : RulesOk m R) (hp : p < R.length) :
    q1__law_is_paper (E5 m R lot f Pd there (.val (.int (p : Int)))) s = some (.lst (((rat R p).1.filter fun x => !decide (x ∈ there)).map .int), E5 m R lot f Pd there (.val (.int (p : Int))), s) := by
  have hl := (hR.ok _ (rat_in hp)).lot.len hm.1
  have e1 := ix_rat hp
  unfold q1__law_is_paper
  refine (comp_map (rat R p).1 .int (fun x => !decide (x ∈ there)) .int (ρ1 := E5 m R lot f Pd there (.val (.int (p : Int)))) (s1 := s) (by simp [E5, e1, ruleD, tupI]) (by simp [E5]) (by rw [sizeL]; omega) (fun x hx => ?_)).trans rfl
  refine ⟨[.val (.int m), .val (rulesD R), .val (tupI lot), .val (.int f), .val Pd, .own false (there.map .int), .val (.int (p : Int)), .val (.int x)], [.val (.int m), .val (rulesD R), .val (tupI lot), .val (.int f), .val Pd, .own false (there.map .int), .val (.int (p : Int)), .val (.int x)], by simp [E5], by simp [nin_lst], by simp [E5], fun _ => ⟨[.val (.int m), .val (rulesD R), .val (tupI lot), .val (.int f), .val Pd, .own false (there.map .int), .val (.int (p : Int)), .val (.int x)], by simp, by simp [E5]⟩⟩
theorem bd_paper (m : Int) (R : List Rl) (lot there : List Int) (f : Int) (Pd : D) (p : Nat) (s : Dk) (hm : 0 ≤ m ∧ m ≤ 6) (hR : RulesOk m R) (hp : p < R.length) (hz : there.length ≤ 100) :
    bd1__law_is_paper (E5 m R lot f Pd there (.val (.int (p : Int)))) s = if hasB there (rat R p).1 then some (.nx, E5 m R lot f Pd (there ++ [(rat R p).2]) (.val (.int (p : Int))), s) else some (.rt (.bl false), E5 m R lot f Pd there (.val (.int (p : Int))), s) := by
  have e1 := ix_rat hp
  have hq := vq1_paper m R lot there f Pd p s hm hR hp
  have z1 : there.length < sizeLine := by rw [sizeL]; omega
  have z0 : 0 ≤ sizeLine := Nat.zero_le _
  have e2 := ne_nil ((rat R p).1.filter fun x => !decide (x ∈ there))
  rw [miss] at e2
  have e3 := v__law_is_integer p s
  have hlt : (p : Int) < (R.length : Int) := by omega
  have e4 : lenD [rulesD R] = some (.int R.length) := by simp [rulesD]
  have t1 : notB (truF (callF g__law_is_integer (consL (varF 6) nilL))) (E5 m R lot f Pd there (.val (.int (p : Int)))) s = some (false, E5 m R lot f Pd there (.val (.int (p : Int))), s) := by simp [E5, e3]
  have t2 : notB (truF (chainF leD ltD (cstF (.int 0)) (varF 6) (mapF lenD (consL (varF 1) nilL)))) (E5 m R lot f Pd there (.val (.int (p : Int)))) s = some (false, E5 m R lot f Pd there (.val (.int (p : Int))), s) := by simp [E5, e4, hlt]
  have t3 : truF (binF neD q1__law_is_paper (mapF dispL nilL)) (E5 m R lot f Pd there (.val (.int (p : Int)))) s = some (!hasB there (rat R p).1, E5 m R lot f Pd there (.val (.int (p : Int))), s) := by
    rw [d_truF, d_binF, hq]
    simp only [d_mapF, d_nilL, c_dispL, List.length_nil, z0, if_true, e2, o_truB]
    simp [E5]
  unfold bd1__law_is_paper
  rw [d_seqF, d_ifF, d_orB, t1]
  simp only
  rw [d_orB, t2]
  simp only
  rw [t3]
  by_cases h : hasB there (rat R p).1 = true
  · simp only [h, Bool.not_true, d_skipF, if_true]
    simp [E5, e1, ruleD, z1]
  · have h' : hasB there (rat R p).1 = false := by simpa using h
    simp only [h', Bool.not_false, Bool.false_eq_true, if_false]
    simp
theorem lp_paper (m : Int) (R : List Rl) (lot : List Int) (f : Int) (Pd : D) (s : Dk) (hm : 0 ≤ m ∧ m ≤ 6) (hR : RulesOk m R) : ∀ (ps : List Nat) (there : List Int) (x : Sl), Pl x → (∀ p ∈ ps, p < R.length) → there.length + ps.length ≤ 100 →
    ∃ ρ', loopF (putV 6) bd1__law_is_paper (posD ps) (E5 m R lot f Pd there x) s = some (if leadB R there ps then .nx else .rt (.bl false), ρ', s) ∧ (leadB R there ps = true → ∃ y, Pl y ∧ ρ' = E5 m R lot f Pd (ends R there ps) y)
  | [], there, x, hx, _, _ => ⟨_, rfl, fun _ => ⟨x, hx, by simp [ends]⟩⟩
  | p :: ps, there, x, hx, hp, hz => by
    rw [List.length_cons] at hz
    have e1 := bd_paper m R lot there f Pd p s hm hR (hp p List.mem_cons_self) (by omega)
    have e2 : putV 6 (.int (p : Int)) (E5 m R lot f Pd there x) = some (E5 m R lot f Pd there (.val (.int (p : Int)))) := by simp [E5]
    have e3 : posD (p :: ps) = .int (p : Int) :: posD ps := rfl
    rw [e3]
    unfold loopF
    simp only [e2, e1, leadB]
    by_cases h : hasB there (rat R p).1 = true
    · obtain ⟨ρ', q1, q2⟩ := lp_paper m R lot f Pd s hm hR ps (there ++ [(rat R p).2]) (.val (.int (p : Int))) (nv _) (fun q hq => hp q (List.mem_cons_of_mem _ hq)) (by rw [List.length_append]; simp; omega)
      rw [← ends_cons] at q2
      simp only [h, if_true, Bool.true_and]
      exact ⟨ρ', q1, q2⟩
    · have h' : hasB there (rat R p).1 = false := by simpa using h
      simp only [h', Bool.false_eq_true, if_false, Bool.false_and]
      exact ⟨_, rfl, fun z => by cases z⟩
theorem vq2_paper (m : Int) (R : List Rl) (lot c : List Int) (f : Int) (s : Dk) (hl : lot.length ≤ 6) :
    q2__law_is_paper [.val (.int m), .val (rulesD R), .val (tupI lot), .val (.int f), .val (paperD (.closed c)), .non, .non, .non] s = some (.lst ((lot.filter fun x => !decide (x ∈ c)).map .int), [.val (.int m), .val (rulesD R), .val (tupI lot), .val (.int f), .val (paperD (.closed c)), .non, .non, .non], s) := by
  unfold q2__law_is_paper
  refine (comp_map lot .int (fun x => !decide (x ∈ c)) .int (ρ1 := [.val (.int m), .val (rulesD R), .val (tupI lot), .val (.int f), .val (paperD (.closed c)), .non, .non, .non]) (s1 := s) (by simp [tupI]) (by simp) (by rw [sizeL]; omega) (fun x hx => ?_)).trans rfl
  refine ⟨[.val (.int m), .val (rulesD R), .val (tupI lot), .val (.int f), .val (paperD (.closed c)), .non, .non, .val (.int x)], [.val (.int m), .val (rulesD R), .val (tupI lot), .val (.int f), .val (paperD (.closed c)), .non, .non, .val (.int x)], by simp, by simp [paperD, inB_tupI], by simp, fun _ => ⟨[.val (.int m), .val (rulesD R), .val (tupI lot), .val (.int f), .val (paperD (.closed c)), .non, .non, .val (.int x)], by simp, by simp⟩⟩
theorem eq_str (a b : Str) : eqD (.str a) (.str b) = some (.bl (a == b)) := by
  rw [o_eq, strs2_s, eqB_str]
  simp
theorem ne_str (a b : Str) : neD (.str a) (.str b) = some (.bl (!(a == b))) := by
  rw [o_ne, strs2_s, eqB_str]
  simp
theorem v_is_paper (m : Int) (R : List Rl) (lot : List Int) (f : Int) (P : Paper) (s : Dk) (hm : 0 ≤ m ∧ m ≤ 6) (hR : RulesOk m R) (hl : Lot m lot) (hP : PaperOk m R.length P) :
    g__law_is_paper [.int m, rulesD R, tupI lot, .int f, paperD P] s = some (.bl (holdsB R lot f P), s) := by
  have hll := hl.len hm.1
  have i1 : ∀ xs : List D, isiD [.tup xs, .ty "tuple"] = some (.bl true) := fun _ => rfl
  have i2 : ∀ w : Str, isiD [.str w, .ty "str"] = some (.bl true) := fun _ => rfl
  have i3 : ∀ ns : List Int, isiD [tupI ns, .ty "tuple"] = some (.bl true) := fun _ => rfl
  have e3 : listD [tupI lot] = some (.lst (lot.map .int)) := rfl
  cases P with
  | steps ps =>
    obtain ⟨ρ', q1, q2⟩ := lp_paper m R lot f (paperD (.steps ps)) s hm hR ps lot .non nn hP.1 (by have := hP.2; omega)
    have e4 : lp1__law_is_paper (E5 m R lot f (paperD (.steps ps)) lot .non) s = some (if leadB R lot ps then .nx else .rt (.bl false), ρ', s) := by
      rw [← q1]
      simp [lp1__law_is_paper, E5, paperD]
    have w1 := eq_str "steps" "steps"
    cases h : leadB R lot ps with
    | false =>
      rw [h] at e4
      simp only [E5, Bool.false_eq_true, if_false, paperD] at e4
      simp [g__law_is_paper, b__law_is_paper, paperD, i1, i2, -o_eq, w1, e3, e4, holdsB, h]
    | true =>
      rw [h] at e4
      obtain ⟨y, hy, rfl⟩ := q2 h
      simp only [E5, if_true, paperD] at e4
      have e5 := in_lst f (ends R lot ps)
      simp [g__law_is_paper, b__law_is_paper, paperD, i1, i2, -o_eq, w1, e3, e4, holdsB, h, -o_inL, e5, thaw_any hy]
  | closed c =>
    have w1 := eq_str "closed" "steps"
    rw [show (("closed" : Str) == "steps") = false by decide] at w1
    have w2 := ne_str "closed" "closed"
    have e1 := v__law_is_lot s hP hm
    have e2 := v__law_closure m R c s hm hR hP
    have e4 := in_tupI f c
    have e5 := eq_tupI (clo R c) c
    rw [← closed_fix hm hR hP] at e5
    have e6 := vq2_paper m R lot c f s (by omega)
    have e7 : eqD (.lst ((lot.filter fun x => !decide (x ∈ c)).map .int)) (.lst []) = some (.bl (hasB c lot)) := by
      rw [o_eq, okD_L, show okD 60 (.lst []) = true from okD_L [], eq_miss]
      rfl
    have z0 : 0 ≤ sizeLine := Nat.zero_le _
    have w3 : neD (.int 2) (.int 2) = some (.bl false) := by simp
    by_cases hin : f ∈ c
    · simp [g__law_is_paper, b__law_is_paper, paperD, i1, i2, i3, -o_eq, -o_ne, -o_inT, w1, w2, w3, e1, e4, hin, holdsB]
    · cases hcl : closedB R c with
      | false =>
        rw [hcl] at e5
        have e2 : g__law_closure [rulesD R, tupI c] s = some (tupI (clo R c), s) := e2
        simp [g__law_is_paper, b__law_is_paper, paperD, i1, i2, i3, -o_eq, -o_ne, -o_inT, w1, w2, w3, e1, e4, hin, e2, e5, holdsB, hcl]
      | true =>
        rw [hcl] at e5
        have e2 : g__law_closure [rulesD R, tupI c] s = some (tupI (clo R c), s) := e2
        simp only [paperD] at e6
        simp [g__law_is_paper, b__law_is_paper, paperD, i1, i2, i3, -o_eq, -o_ne, -o_inT, w1, w2, w3, e1, e4, hin, e2, e5, e6, z0, e7, holdsB, hcl]
end Q
end
section
set_option Elab.async false
set_option linter.all false
set_option maxRecDepth 100000
set_option autoImplicit false
set_option maxHeartbeats 2000000
namespace Q
open PySem PySem.Spec PyProof.Rows L2 L3
/-! ### what leads stays within -/
theorem ends_sub {R : List Rl} {c : List Int} (hc : closedB R c = true) : ∀ (ps : List Nat) (t : List Int), (∀ p ∈ ps, p < R.length) → (∀ x ∈ t, x ∈ c) → leadB R t ps = true → ∀ x ∈ ends R t ps, x ∈ c
  | [], t, _, h, _, x, hx => h x (by simpa [ends] using hx)
  | p :: ps, t, hp, h, hl, x, hx => by
    simp only [leadB, Bool.and_eq_true] at hl
    rw [ends_cons] at hx
    refine ends_sub hc ps _ (fun q hq => hp q (List.mem_cons_of_mem _ hq)) (fun y hy => ?_) hl.2 x hx
    rcases List.mem_append.mp hy with hy | hy
    · exact h y hy
    · simp at hy
      subst hy
      exact closedB_iff.mp hc _ (rat_in (hp p List.mem_cons_self)) fun z hz => h z (has_iff.mp hl.1 z hz)
theorem no_steps {m : Int} {R : List Rl} {lot : List Int} {f : Int} {ps : List Nat} (hm : 0 ≤ m ∧ m ≤ 6) (hR : RulesOk m R) (hl : Lot m lot) (hp : ∀ p ∈ ps, p < R.length) (h : f ∉ clo R lot) : holdsB R lot f (.steps ps) = false := by
  have hc := cloOk hm hR hl
  show (leadB R lot ps && decide (f ∈ ends R lot ps)) = false
  cases z : leadB R lot ps with
  | false => rfl
  | true =>
    have : f ∉ ends R lot ps := fun hf => h (ends_sub hc.closed ps lot hp hc.sub z f hf)
    simp [this]
theorem no_closed {R : List Rl} {lot : List Int} {f : Int} (h : f ∈ clo R lot) : holdsB R lot f (.closed (clo R lot)) = false := by
  show (closedB R (clo R lot) && (hasB (clo R lot) lot && !decide (f ∈ clo R lot))) = false
  simp [h]
def kw : Paper → Str
  | .steps _ => "steps"
  | .closed _ => "closed"
def due (R : List Rl) (lot : List Int) (f : Int) : Str := if f ∈ clo R lot then "steps" else "closed"
theorem Judged.due {m : Int} {R : List Rl} {lot : List Int} {f : Int} {P : Paper} (h : Judged m R lot f P) : kw P = due R lot f := by
  have k := h.kind
  unfold Q.due
  cases P with
  | steps ps => rw [if_pos k]; rfl
  | closed c => rw [if_neg k]; rfl
theorem paper_at (P : Paper) : ∃ d, paperD P = .tup [.str (kw P), d] := by
  cases P with
  | steps ps => exact ⟨_, rfl⟩
  | closed c => exact ⟨_, rfl⟩
theorem paper_turn (P : Paper) : ∃ ns, paperD P = .tup [.str (kw P), tupI ns] := by
  cases P with
  | steps ps => exact ⟨_, by rw [← pos_tup]; rfl⟩
  | closed c => exact ⟨c, rfl⟩
theorem noL_paper (P : Paper) : noL (paperD P) = true := by
  obtain ⟨ns, e⟩ := paper_turn P
  rw [e]
  simp
/-- the paper of the other kind -/
def other (R : List Rl) (lot : List Int) (f : Int) : Paper := if f ∈ clo R lot then .closed (clo R lot) else .steps (List.range R.length)
theorem other_is {m : Int} {R : List Rl} {lot : List Int} (f : Int) (hm : 0 ≤ m ∧ m ≤ 6) (hR : RulesOk m R) (hl : Lot m lot) : PaperOk m R.length (other R lot f) ∧ holdsB R lot f (other R lot f) = false := by
  unfold other
  by_cases h : f ∈ clo R lot
  · rw [if_pos h]
    exact ⟨(cloOk hm hR hl).isL, no_closed h⟩
  · rw [if_neg h]
    have hp : ∀ p ∈ List.range R.length, p < R.length := fun p hp => List.mem_range.mp hp
    exact ⟨⟨hp, by rw [List.length_range]; exact hR.few⟩, no_steps hm hR hl hp h⟩
/-! ### the law's judging -/
theorem defN_rt {n N : Nat} {body : Ss Dk} {ds : List D} {ρ ρ' : En} {s s' : Dk} {d : D} (h0 : ds.length = n) (h1 : startE N ds = ρ) (h : body ρ s = some (.rt d, ρ', s')) : defN n N body ds s = some (d, s') := by
  subst h1
  unfold defN defF
  rw [if_pos h0, h]
theorem rg_tup (n : Nat) (h : n ≤ 1000000) : rgD .tup [.int (n : Int)] = some (.tup (posD (List.range n))) := by
  have hok : RgOk 0 (n : Int) := by
    unfold RgOk
    omega
  unfold rgD
  simp only
  rw [if_pos hok]
  simp only [rngD, posD, Int.toNat_natCast]
  have : (List.range n).map (fun i : Nat => D.int (0 + (i : Nat))) = (List.range n).map fun p : Nat => D.int (p : Nat) := List.map_congr_left fun i _ => by simp
  rw [this]
def EJ (m : Int) (R : List Rl) (lot : List Int) (f : Int) (x5 x6 : Sl) : En := [.val (.int m), .val (rulesD R), .val (tupI lot), .val (.int f), .val (.str (due R lot f)), x5, x6]
theorem set_other (G : List D → Option D) (m : Int) (R : List Rl) (lot : List Int) (f : Int) (P : Paper) (x6 : Sl) (s : Dk) (h6 : Pl x6) (hm : 0 ≤ m ∧ m ≤ 6) (hR : RulesOk m R) (hl : Lot m lot) (hG : G [.int (R.length : Int)] = some (.tup (posD (List.range R.length)))) :
    setF false 6 (iteF' (truF (binF eqD (varF 4) (cstF (.str "steps")))) (mapF dispT (consL (cstF (.str "closed")) (consL (callF g__law_closure (consL (varF 1) (consL (varF 2) nilL))) nilL))) (mapF dispT (consL (cstF (.str "steps")) (consL (mapF G (consL (mapF lenD (consL (varF 1) nilL)) nilL)) nilL)))) (EJ m R lot f (.val (paperD P)) x6) s = some (.nx, EJ m R lot f (.val (paperD P)) (.val (paperD (other R lot f))), s) := by
  have e1 : g__law_closure [rulesD R, tupI lot] s = some (tupI (clo R lot), s) := v__law_closure m R lot s hm hR hl
  have e2 : lenD [rulesD R] = some (.int R.length) := by simp [rulesD]
  have z2 := tup2 .non
  have w1 := eq_str "steps" "steps"
  have w2 := eq_str "closed" "steps"
  rw [show (("closed" : Str) == "steps") = false by decide] at w2
  have hn : noLs (posD (List.range R.length)) = true := by rw [pos_ints]; exact noLs_ints _
  by_cases h : f ∈ clo R lot
  · have d1 : due R lot f = "steps" := if_pos h
    have d2 : other R lot f = .closed (clo R lot) := if_pos h
    simp [EJ, d1, d2, -o_eq, w1, e1, z2, paperD, thaw_any h6]
  · have d1 : due R lot f = "closed" := if_neg h
    have d2 : other R lot f = .steps (List.range R.length) := if_neg h
    simp [EJ, d1, d2, -o_eq, w2, e2, hG, z2, paperD, hn, thaw_any h6]
theorem bd_judged (m : Int) (R : List Rl) (lot : List Int) (f : Int) (P : Paper) (x6 : Sl) (s : Dk) (h6 : Pl x6) (hm : 1 ≤ m ∧ m ≤ 6) (hR : RulesOk m R) (hl : Lot m lot) (hf : 0 ≤ f ∧ f < m) (hP : Judged m R lot f P) :
    bd1__law_is_judged (EJ m R lot f (.val (paperD P)) x6) s = some (.nx, EJ m R lot f (.val (paperD P)) (.val (paperD (other R lot f))), s) := by
  have hm0 : 0 ≤ m ∧ m ≤ 6 := ⟨by omega, hm.2⟩
  obtain ⟨ns, ep⟩ := paper_turn P
  have e1 := v_is_paper m R lot f P s hm0 hR hl hP.ok
  rw [hP.holds] at e1
  have e2 := v_follows_holds m R lot f P s hm hR hl hf hP.ok
  rw [hP.holds] at e2
  have e3 := v_follows_turned m R lot f ns (.str (kw P)) s hm hR hl hf
  have ho := other_is f hm0 hR hl
  have e4 := v_follows_holds m R lot f (other R lot f) s hm hR hl hf ho.1
  rw [ho.2] at e4
  have w := ne_str (kw P) (kw P)
  have dd := hP.due
  have i1 : isnotD (.bl true) (.bl true) = some (.bl false) := rfl
  have i2 : isnotD (.bl false) (.bl false) = some (.bl false) := rfl
  have a1 : ifF (orB (notB (truF (callF g__law_is_paper (consL (varF 0) (consL (varF 1) (consL (varF 2) (consL (varF 3) (consL (varF 5) nilL)))))))) (truF (binF neD (binF ixD (varF 5) (cstF (.int 0))) (varF 4)))) (retF (cstF (.bl false))) skipF (EJ m R lot f (.val (paperD P)) x6) s = some (.nx, EJ m R lot f (.val (paperD P)) x6, s) := by
    have ix : ixD (paperD P) (.int 0) = some (.str (kw P)) := by rw [ep]; rfl
    simp [EJ, e1, ix, -o_ne, ← dd, w, thaw_any h6]
  have a2 : ifF (orB (truF (binF isnotD (callF g_follows_holds (consL (varF 0) (consL (varF 1) (consL (varF 2) (consL (varF 3) (consL (varF 5) nilL)))))) (cstF (.bl true)))) (truF (binF isnotD (callF g_follows_holds (catS 4 1 [0, 1, 2, 3, 4] (consL (varF 0) (consL (varF 1) (consL (varF 2) (consL (varF 3) nilL)))) (consL (turnF (varF 5)) nilL))) (cstF (.bl false))))) (retF (cstF (.bl false))) skipF (EJ m R lot f (.val (paperD P)) x6) s = some (.nx, EJ m R lot f (.val (paperD P)) x6, s) := by
    have t1 : truF (binF isnotD (callF g_follows_holds (consL (varF 0) (consL (varF 1) (consL (varF 2) (consL (varF 3) (consL (varF 5) nilL)))))) (cstF (.bl true))) (EJ m R lot f (.val (paperD P)) x6) s = some (false, EJ m R lot f (.val (paperD P)) x6, s) := by
      simp [EJ, e2, i1, thaw_any h6]
    have t2 : truF (binF isnotD (callF g_follows_holds (catS 4 1 [0, 1, 2, 3, 4] (consL (varF 0) (consL (varF 1) (consL (varF 2) (consL (varF 3) nilL)))) (consL (turnF (varF 5)) nilL))) (cstF (.bl false))) (EJ m R lot f (.val (paperD P)) x6) s = some (false, EJ m R lot f (.val (paperD P)) x6, s) := by
      simp [EJ, ep, e3, i2, thaw_any h6]
    rw [d_ifF, d_orB, t1]
    simp only [t2, d_skipF]
  have a3 := set_other (rgD .tup) m R lot f P x6 s h6 hm0 hR hl (rg_tup R.length (by have := hR.few; omega))
  have a4 : ifF (truF (binF isnotD (callF g_follows_holds (catS 0 5 [4, 3, 2, 1, 0] nilL (consL (varF 6) (consL (varF 3) (consL (varF 2) (consL (varF 1) (consL (varF 0) nilL))))))) (cstF (.bl false)))) (retF (cstF (.bl false))) skipF (EJ m R lot f (.val (paperD P)) (.val (paperD (other R lot f)))) s = some (.nx, EJ m R lot f (.val (paperD P)) (.val (paperD (other R lot f))), s) := by
    simp [EJ, e4, i2]
  unfold bd1__law_is_judged
  rw [d_seqF, a1]
  simp only
  rw [d_seqF, a2]
  simp only
  rw [d_seqF, a3]
  simp only
  exact a4
theorem v_is_judged (m : Int) (R : List Rl) (lot : List Int) (f : Int) (s : Dk) (hm : 1 ≤ m ∧ m ≤ 6) (hR : RulesOk m R) (hl : Lot m lot) (hf : 0 ≤ f ∧ f < m) : g__law_is_judged [.int m, rulesD R, tupI lot, .int f] s = some (.bl true, s) := by
  have hm0 : 0 ≤ m ∧ m ≤ 6 := ⟨by omega, hm.2⟩
  obtain ⟨P, hP, e1⟩ := v_judge m R lot f s hm hR hl hf
  have e2 : g__law_closure [rulesD R, tupI lot] s = some (tupI (clo R lot), s) := v__law_closure m R lot s hm0 hR hl
  have e3 := in_tupI f (clo R lot)
  have z2 := tup2 .non
  have b1 := bd_judged m R lot f P .non s nn hm hR hl hf hP
  have b2 := bd_judged m R lot f P (.val (paperD (other R lot f))) s (nv _) hm hR hl hf hP
  have a1 : setF false 4 (iteF' (truF (binF inD (varF 3) (callF g__law_closure (consL (varF 1) (consL (varF 2) nilL))))) (cstF (.str "steps")) (cstF (.str "closed"))) [.val (.int m), .val (rulesD R), .val (tupI lot), .val (.int f), .non, .non, .non] s = some (.nx, EJ m R lot f .non .non, s) := by
    by_cases h : f ∈ clo R lot
    · have d1 : due R lot f = "steps" := if_pos h
      simp [EJ, d1, e2, -o_inT, e3, h]
    · have d1 : due R lot f = "closed" := if_neg h
      simp [EJ, d1, e2, -o_inT, e3, h]
  have lb : loopF (putV 5) bd1__law_is_judged [paperD P, paperD P] (EJ m R lot f .non .non) s = some (.nx, EJ m R lot f (.val (paperD P)) (.val (paperD (other R lot f))), s) := by
    have p1 : putV 5 (paperD P) (EJ m R lot f .non .non) = some (EJ m R lot f (.val (paperD P)) .non) := by simp [EJ, noL_paper]
    have p2 : putV 5 (paperD P) (EJ m R lot f (.val (paperD P)) (.val (paperD (other R lot f)))) = some (EJ m R lot f (.val (paperD P)) (.val (paperD (other R lot f)))) := by simp [EJ, noL_paper]
    unfold loopF
    rw [p1]
    simp only [b1]
    unfold loopF
    rw [p2]
    simp only [b2]
    unfold loopF
    rfl
  have a2 : lp1__law_is_judged (EJ m R lot f .non .non) s = some (.nx, EJ m R lot f (.val (paperD P)) (.val (paperD (other R lot f))), s) := by
    rw [← lb]
    simp [lp1__law_is_judged, EJ, e1, z2]
  have key : b__law_is_judged [.val (.int m), .val (rulesD R), .val (tupI lot), .val (.int f), .non, .non, .non] s = some (.rt (.bl true), EJ m R lot f (.val (paperD P)) (.val (paperD (other R lot f))), s) := by
    unfold b__law_is_judged
    rw [d_seqF, a1]
    simp only
    rw [d_seqF, a2]
    simp
  exact defN_rt rfl rfl key
end Q
end
section
set_option Elab.async false
set_option linter.all false
set_option maxRecDepth 100000
set_option autoImplicit false
set_option maxHeartbeats 2000000
namespace Q
open PySem PySem.Spec PyProof.Rows L2 L3
/-- what is kept, all of lot among it -/
theorem kept_sub2 {lot : List Int} : ∀ {xs : List Int} {ys : List (Option D)}, PySem.Paired (fun (d : D) (o : Option D) => (∃ x : Int, d = .int x ∧ x ∉ lot ∧ o = none) ∨ o = some d) (xs.map .int) ys → ∃ zs : List Int, zs.Sublist xs ∧ ys.filterMap id = zs.map .int ∧ ∀ x ∈ xs, x ∈ lot → x ∈ zs
  | [], _, .nil => ⟨[], List.Sublist.refl _, rfl, fun x h => by cases h⟩
  | x :: xs, _, .cons h r => by
    obtain ⟨zs, h1, h2, h3⟩ := kept_sub2 r
    rcases h with ⟨x', e, hx, rfl⟩ | rfl
    · cases e
      refine ⟨zs, h1.cons x, by simp [h2], fun y hy hl => ?_⟩
      rcases List.mem_cons.mp hy with rfl | hy
      · exact absurd hl hx
      · exact h3 y hy hl
    · refine ⟨x :: zs, h1.cons_cons x, by simp [h2], fun y hy hl => ?_⟩
      rcases List.mem_cons.mp hy with rfl | hy
      · exact List.mem_cons_self
      · exact List.mem_cons_of_mem _ (h3 y hy hl)
/-! ### what carries over -/
theorem ends_mem {R : List Rl} {t : List Int} {ps : List Nat} {x : Int} : x ∈ ends R t ps ↔ x ∈ t ∨ x ∈ ps.map fun p => (rat R p).2 := by
  unfold ends
  exact List.mem_append
theorem lead_more {R : List Rl} : ∀ (ps : List Nat) {t t' : List Int}, (∀ x ∈ t, x ∈ t') → leadB R t ps = true → leadB R t' ps = true
  | [], _, _, _, _ => rfl
  | p :: ps, t, t', h, hl => by
    simp only [leadB, Bool.and_eq_true] at hl ⊢
    refine ⟨has_iff.mpr fun x hx => h x (has_iff.mp hl.1 x hx), lead_more ps (fun x hx => ?_) hl.2⟩
    rcases List.mem_append.mp hx with hx | hx
    · exact List.mem_append_left _ (h x hx)
    · exact List.mem_append_right _ hx
theorem rat_long {R : List Rl} (r : Rl) {p : Nat} (h : p < R.length) : rat (R ++ [r]) p = rat R p := by
  have h1 := rat_get h
  have h2 := rat_get (R := R ++ [r]) (p := p) (by rw [List.length_append]; omega)
  rw [List.getElem?_append_left h, h1] at h2
  injection h2 with h2
  exact h2.symm
theorem lead_long {R : List Rl} (r : Rl) : ∀ (ps : List Nat) (t : List Int), (∀ p ∈ ps, p < R.length) → leadB (R ++ [r]) t ps = leadB R t ps ∧ ends (R ++ [r]) t ps = ends R t ps
  | [], t, _ => ⟨rfl, rfl⟩
  | p :: ps, t, hp => by
    have e := rat_long r (hp p List.mem_cons_self)
    obtain ⟨h1, h2⟩ := lead_long r ps (t ++ [(rat R p).2]) fun q hq => hp q (List.mem_cons_of_mem _ hq)
    rw [ends_cons, ends_cons]
    simp only [leadB, e, h1, h2, and_self]
def Carry (R : List Rl) (lot : List Int) (f : Int) (P : Paper) (i : Nat) : Prop := holdsB R lot f P = false → (kw P == "steps") = decide (i = 1)
theorem carry_more {R : List Rl} {lot more : List Int} {f : Int} {P : Paper} (h : holdsB R lot f P = true) (hs : ∀ x ∈ lot, x ∈ more) : Carry R more f P 0 := by
  cases P with
  | steps ps =>
    intro z
    exfalso
    simp only [holdsB, Bool.and_eq_true, decide_eq_true_eq] at h
    have h1 := lead_more ps hs h.1
    have h2 : f ∈ ends R more ps := by
      rcases ends_mem.mp h.2 with q | q
      · exact ends_mem.mpr (.inl (hs f q))
      · exact ends_mem.mpr (.inr q)
    simp [holdsB, h1, h2] at z
  | closed c => exact fun _ => rfl
theorem carry_less {R : List Rl} {lot less : List Int} {f : Int} {P : Paper} (h : holdsB R lot f P = true) (hs : ∀ x ∈ less, x ∈ lot) : Carry R less f P 1 := by
  cases P with
  | steps ps => exact fun _ => rfl
  | closed c =>
    intro z
    exfalso
    simp only [holdsB, Bool.and_eq_true] at h
    have h2 : hasB c less = true := has_iff.mpr fun x hx => has_iff.mp h.2.1 x (hs x hx)
    simp only [holdsB, h.1, h2, h.2.2, Bool.and_self] at z
    cases z
theorem carry_long {R : List Rl} {lot : List Int} {f : Int} {P : Paper} {m : Int} (r : Rl) (hP : PaperOk m R.length P) (h : holdsB R lot f P = true) : Carry (R ++ [r]) lot f P 2 := by
  cases P with
  | steps ps =>
    intro z
    exfalso
    obtain ⟨h1, h2⟩ := lead_long r ps lot hP.1
    simp only [holdsB, h1, h2] at z h
    rw [h] at z
    cases z
  | closed c => exact fun _ => rfl
theorem carry_same {R : List Rl} {lot : List Int} {f : Int} {P : Paper} (h : holdsB R lot f P = true) (i : Nat) : Carry R lot f P i := fun z => by
  rw [h] at z
  cases z
theorem PaperOk.long {m : Int} {n k : Nat} {P : Paper} (h : PaperOk m n P) (hk : n ≤ k) : PaperOk m k P := by
  cases P with
  | steps ps => exact ⟨fun p hp => Nat.lt_of_lt_of_le (h.1 p hp) hk, h.2⟩
  | closed c => exact h
theorem repr_bl (b : Bool) : ∃ t : Str, reprD [.bl b] = some (.str t) := ⟨_, repr_ok (by cases b <;> decide) (by cases b <;> decide) (by cases b <;> decide)⟩
theorem eq_bl (a b : Bool) : eqD (.bl a) (.bl b) = some (.bl (a == b)) := by cases a <;> cases b <;> rfl
def EO (m : Int) (R : List Rl) (lot : List Int) (f : Int) (P : Paper) (more less : List Int) (Rx : List Rl) (x9 x10 x11 x12 : Sl) : En := [.val .deck, .val (.int m), .val (rulesD R), .val (tupI lot), .val (.int f), .val (paperD P), .val (tupI more), .val (tupI less), .val (rulesD Rx), x9, x10, x11, x12, .non]
theorem bd_carry (m : Int) (R : List Rl) (lot : List Int) (f : Int) (P : Paper) (more less : List Int) (Rx : List Rl) (i : Nat) (l' : List Int) (R' : List Rl) (x12 : Sl) (s : Dk) (h12 : Pl x12) (hm : 1 ≤ m ∧ m ≤ 6) (hR' : RulesOk m R') (hl' : Lot m l') (hf : 0 ≤ f ∧ f < m) (hP : PaperOk m R'.length P) (hc : Carry R' l' f P i) :
    bd1__law_carries_over (EO m R lot f P more less Rx (.val (.int i)) (.val (tupI l')) (.val (rulesD R')) x12) s = some (.nx, EO m R lot f P more less Rx (.val (.int i)) (.val (tupI l')) (.val (rulesD R')) (.val (.bl (holdsB R' l' f P))), s) := by
  have hm0 : 0 ≤ m ∧ m ≤ 6 := ⟨by omega, hm.2⟩
  have e1 := v_is_paper m R' l' f P s hm0 hR' hl' hP
  have e2 := v_follows_holds m R' l' f P s hm hR' hl' hf hP
  obtain ⟨d, ed⟩ := paper_at P
  have ix : ixD (paperD P) (.int 0) = some (.str (kw P)) := by rw [ed]; rfl
  have w := eq_str (kw P) "steps"
  obtain ⟨tx, e3⟩ := repr_bl (holdsB R' l' f P)
  have e4 := ne_str tx tx
  have a1 : setF false 12 (callF g__law_is_paper (consL (varF 1) (consL (varF 11) (consL (varF 10) (consL (varF 4) (consL (varF 5) nilL)))))) (EO m R lot f P more less Rx (.val (.int i)) (.val (tupI l')) (.val (rulesD R')) x12) s = some (.nx, EO m R lot f P more less Rx (.val (.int i)) (.val (tupI l')) (.val (rulesD R')) (.val (.bl (holdsB R' l' f P))), s) := by
    simp [EO, e1, thaw_any h12]
  have n1 : neD (.int (i : Int)) (.int 1) = some (.bl (!decide ((i : Int) = 1))) := by simp
  have a2 : ifF (andB (notB (truF (varF 12))) (truF (binF eqD (binF eqD (binF ixD (varF 5) (cstF (.int 0))) (cstF (.str "steps"))) (binF neD (varF 9) (cstF (.int 1)))))) (retF (cstF (.bl false))) skipF (EO m R lot f P more less Rx (.val (.int i)) (.val (tupI l')) (.val (rulesD R')) (.val (.bl (holdsB R' l' f P)))) s = some (.nx, EO m R lot f P more less Rx (.val (.int i)) (.val (tupI l')) (.val (rulesD R')) (.val (.bl (holdsB R' l' f P))), s) := by
    have t1 : notB (truF (varF 12)) (EO m R lot f P more less Rx (.val (.int i)) (.val (tupI l')) (.val (rulesD R')) (.val (.bl (holdsB R' l' f P)))) s = some (!holdsB R' l' f P, EO m R lot f P more less Rx (.val (.int i)) (.val (tupI l')) (.val (rulesD R')) (.val (.bl (holdsB R' l' f P))), s) := by simp [EO]
    have t2 : truF (binF eqD (binF eqD (binF ixD (varF 5) (cstF (.int 0))) (cstF (.str "steps"))) (binF neD (varF 9) (cstF (.int 1)))) (EO m R lot f P more less Rx (.val (.int i)) (.val (tupI l')) (.val (rulesD R')) (.val (.bl (holdsB R' l' f P)))) s = some ((kw P == "steps") == !decide ((i : Int) = 1), EO m R lot f P more less Rx (.val (.int i)) (.val (tupI l')) (.val (rulesD R')) (.val (.bl (holdsB R' l' f P))), s) := by
      simp only [d_truF, d_binF, d_varF, d_cstF, EO, List.getElem?_cons_succ, List.getElem?_cons_zero, ix, w, n1, eq_bl, o_truB]
      simp
    rw [d_ifF, d_andB, t1]
    by_cases hh : holdsB R' l' f P = true
    · simp only [hh, Bool.not_true, d_skipF]
    · have hh' : holdsB R' l' f P = false := by simpa using hh
      have hk := hc hh'
      have hd : decide ((i : Int) = 1) = decide (i = 1) := by
        rw [Bool.eq_iff_iff, decide_eq_true_eq, decide_eq_true_eq]
        omega
      rw [hd, hk] at t2
      have t3 : (decide (i = 1) == !decide (i = 1)) = false := by cases decide (i = 1) <;> rfl
      rw [t3] at t2
      rw [hh'] at t2 ⊢
      simp only [Bool.not_false, t2, d_skipF]
  unfold bd1__law_carries_over
  rw [d_seqF, a1]
  simp only
  rw [d_seqF, a2]
  simp only
  rw [d_ifF, d_truF]
  simp only [d_binF, d_mapF, d_callF, d_consL, d_nilL, d_varF, EO, List.getElem?_cons_succ, List.getElem?_cons_zero, e2, e3, e4, beq_self_eq_true, Bool.not_true, o_truB, d_skipF]
  simp
def E6 (m : Int) (R : List Rl) (lot : List Int) (f : Int) (P : Paper) (x6 x7 x8 : Sl) : En := [.val .deck, .val (.int m), .val (rulesD R), .val (tupI lot), .val (.int f), .val (paperD P), x6, x7, x8, .non, .non, .non, .non, .non]
theorem vq1_carry (m : Nat) (R : List Rl) (lot : List Int) (f : Int) (P : Paper) (s : Dk) (hI : SI s) (hm : m ≤ 6) (hl : Lot m lot) : ∃ (more : List Int) (s' : Dk), q1__law_carries_over (E6 m R lot f P .non .non .non) s = some (.lst (more.map .int), E6 m R lot f P .non .non .non, s') ∧ SI s' ∧ Lot m more ∧ ∀ x ∈ lot, x ∈ more := by
  have hr := range_ints m (le_mill hm)
  obtain ⟨ys, s', e1, e2, e3⟩ := comp_rel (own := [13]) (it := rangeL (consL (varF 1) nilL)) (tg := putV 13) (cond := orB (truF (binF inD (varF 13) (varF 3))) (truF (binF eqD (callF g__law_draw (consL (varF 0) (consL (cstF (.int 2)) nilL))) (cstF (.int 0))))) (elt := varF 13) (ρ := E6 m R lot f P .non .non .non) (ρ1 := E6 m R lot f P .non .non .non) (s := s) (s1 := s) (items := (upI m).map .int)
    SI (fun (d : D) (o : Option D) => (∃ x : Int, d = .int x ∧ x ∉ lot ∧ o = none) ∨ o = some d) (by simp [E6, hr]) (by simp [E6]) hI (by rw [sizeL]; simp [upI]; omega) (fun d hd s hs => by
      obtain ⟨x, hx, rfl⟩ := List.mem_map.mp hd
      refine ⟨[.val .deck, .val (.int m), .val (rulesD R), .val (tupI lot), .val (.int f), .val (paperD P), .non, .non, .non, .non, .non, .non, .non, .val (.int x)], by simp [E6], ?_⟩
      by_cases hin : x ∈ lot
      · right
        exact ⟨[.val .deck, .val (.int m), .val (rulesD R), .val (tupI lot), .val (.int f), .val (paperD P), .non, .non, .non, .non, .non, .non, .non, .val (.int x)], s, .int x, [.val .deck, .val (.int m), .val (rulesD R), .val (tupI lot), .val (.int f), .val (paperD P), .non, .non, .non, .non, .non, .non, .non, .val (.int x)], s, by simp [in_tupI, hin], by simp, by simp [E6], hs, .inr rfl⟩
      · obtain ⟨r, s2, q1, _, _, q2⟩ := v_draw 2 s hs (by decide)
        by_cases hz : r = 0
        · right
          exact ⟨[.val .deck, .val (.int m), .val (rulesD R), .val (tupI lot), .val (.int f), .val (paperD P), .non, .non, .non, .non, .non, .non, .non, .val (.int x)], s2, .int x, [.val .deck, .val (.int m), .val (rulesD R), .val (tupI lot), .val (.int f), .val (paperD P), .non, .non, .non, .non, .non, .non, .non, .val (.int x)], s2, by simp [in_tupI, hin, q1, hz], by simp, by simp [E6], q2, .inr rfl⟩
        · left
          exact ⟨[.val .deck, .val (.int m), .val (rulesD R), .val (tupI lot), .val (.int f), .val (paperD P), .non, .non, .non, .non, .non, .non, .non, .val (.int x)], s2, by simp [in_tupI, hin, q1, hz], by simp [E6], q2, .inl ⟨x, rfl, hin, rfl⟩⟩)
  obtain ⟨zs, hz, e4, e5⟩ := kept_sub2 e3
  rw [e4] at e1
  exact ⟨zs, s', e1, e2, lot_sub (ints_lot m) hz, fun x hx => e5 x (mem_upI (hl.rg x hx)) hx⟩
theorem vq2_carry (m : Nat) (R : List Rl) (lot : List Int) (f : Int) (P : Paper) (x6 : Sl) (s : Dk) (h6 : Pl x6) (hI : SI s) (hm : m ≤ 6) (hl : Lot m lot) : ∃ (less : List Int) (s' : Dk), q2__law_carries_over (E6 m R lot f P x6 .non .non) s = some (.lst (less.map .int), E6 m R lot f P x6 .non .non, s') ∧ SI s' ∧ Lot m less ∧ ∀ x ∈ less, x ∈ lot := by
  have hll := hl.len (by omega)
  obtain ⟨ys, s', e1, e2, e3⟩ := comp_rel (own := [13]) (it := itemsF (varF 3)) (tg := putV 13) (cond := truF (binF eqD (callF g__law_draw (consL (varF 0) (consL (cstF (.int 2)) nilL))) (cstF (.int 0)))) (elt := varF 13) (ρ := E6 m R lot f P x6 .non .non) (ρ1 := E6 m R lot f P x6 .non .non) (s := s) (s1 := s) (items := lot.map .int)
    SI (fun (d : D) (o : Option D) => o = none ∨ o = some d) (by simp [E6, tupI]) (by simp [E6]) hI (by rw [sizeL, List.length_map]; omega) (fun d hd s hs => by
      obtain ⟨x, hx, rfl⟩ := List.mem_map.mp hd
      refine ⟨[.val .deck, .val (.int m), .val (rulesD R), .val (tupI lot), .val (.int f), .val (paperD P), x6, .non, .non, .non, .non, .non, .non, .val (.int x)], by simp [E6], ?_⟩
      obtain ⟨r, s2, q1, _, _, q2⟩ := v_draw 2 s hs (by decide)
      by_cases hz : r = 0
      · right
        exact ⟨[.val .deck, .val (.int m), .val (rulesD R), .val (tupI lot), .val (.int f), .val (paperD P), x6, .non, .non, .non, .non, .non, .non, .val (.int x)], s2, .int x, [.val .deck, .val (.int m), .val (rulesD R), .val (tupI lot), .val (.int f), .val (paperD P), x6, .non, .non, .non, .non, .non, .non, .val (.int x)], s2, by simp [q1, hz, thaw_any h6], by simp, by simp [E6], q2, .inr rfl⟩
      · left
        exact ⟨[.val .deck, .val (.int m), .val (rulesD R), .val (tupI lot), .val (.int f), .val (paperD P), x6, .non, .non, .non, .non, .non, .non, .val (.int x)], s2, by simp [q1, hz, thaw_any h6], by simp [E6], q2, .inl rfl⟩)
  obtain ⟨zs, hz, e4⟩ := kept_sub e3
  rw [e4] at e1
  exact ⟨zs, s', e1, e2, lot_sub hl hz, fun x hx => hz.subset hx⟩
theorem add_rule (R : List Rl) (r : Rl) (h : R.length ≤ 8) : addD (rulesD R) (.tup [ruleD r]) = some (rulesD (R ++ [r])) := by
  show addD (.tup (R.map ruleD)) (.tup [ruleD r]) = _
  rw [o_addT, if_pos (by rw [sizeL, List.length_map]; simp; omega)]
  simp [rulesD]
theorem v_carries_over (m : Nat) (R : List Rl) (lot : List Int) (f : Int) (s : Dk) (hI : SI s) (hm : 1 ≤ m ∧ m ≤ 6) (hR : RulesOk m R) (hl : Lot m lot) (hf : 0 ≤ f ∧ f < m) : ∃ s' : Dk, g__law_carries_over [.deck, .int m, rulesD R, tupI lot, .int f] s = some (.bl true, s') ∧ SI s' := by
  have hm1 : 1 ≤ (m : Int) ∧ (m : Int) ≤ 6 := ⟨by omega, by omega⟩
  obtain ⟨P, hP, e1⟩ := v_judge m R lot f s hm1 hR hl hf
  obtain ⟨more, s1, e2, i1, hmore, sub1⟩ := vq1_carry m R lot f P s hI hm.2 hl
  obtain ⟨less, s2, e3, i2, hless, sub2⟩ := vq2_carry m R lot f P (.val (tupI more)) s1 (nv _) i1 hm.2 hl
  have t1 : ∀ ns : List Int, tupleD [.lst (ns.map .int)] = some (tupI ns) := fun _ => rfl
  have len : lenD [rulesD R] = some (.int R.length) := by simp [rulesD]
  have z1 : 1 ≤ sizeLine := by rw [sizeL]; omega
  have z2 := tup2 .non
  have z3 : 3 ≤ sizeLine := by rw [sizeL]; omega
  have a1 : setF false 5 (callF g_judge_follows (consL (varF 1) (consL (varF 2) (consL (varF 3) (consL (varF 4) nilL))))) [.val .deck, .val (.int m), .val (rulesD R), .val (tupI lot), .val (.int f), .non, .non, .non, .non, .non, .non, .non, .non, .non] s = some (.nx, E6 m R lot f P .non .non .non, s) := by
    simp [E6, e1, noL_paper]
  have a2 : setF false 6 (mapF tupleD (consL q1__law_carries_over nilL)) (E6 m R lot f P .non .non .non) s = some (.nx, E6 m R lot f P (.val (tupI more)) .non .non, s1) := by
    rw [d_setF, d_mapF, d_consL, e2]
    simp only [d_nilL, t1]
    simp [E6]
  have a3 : setF false 7 (mapF tupleD (consL q2__law_carries_over nilL)) (E6 m R lot f P (.val (tupI more)) .non .non) s1 = some (.nx, E6 m R lot f P (.val (tupI more)) (.val (tupI less)) .non, s2) := by
    rw [d_setF, d_mapF, d_consL, e3]
    simp only [d_nilL, t1]
    simp [E6]
  obtain ⟨Rx, s3, a4, hRx, cx, px, i3⟩ : ∃ (Rx : List Rl) (s3 : Dk), setF false 8 (iteF' (truF (binF ltD (mapF lenD (consL (varF 2) nilL)) (cstF (.int 8)))) (binF addD (varF 2) (mapF dispT (consL (callF g__law_rule (consL (varF 0) (consL (varF 1) (consL (cstF (.int 3)) nilL)))) nilL))) (varF 2)) (E6 m R lot f P (.val (tupI more)) (.val (tupI less)) .non) s2 = some (.nx, EO m R lot f P more less Rx .non .non .non .non, s3) ∧ RulesOk m Rx ∧ Carry Rx lot f P 2 ∧ PaperOk m Rx.length P ∧ SI s3 := by
    by_cases h8 : R.length < 8
    · obtain ⟨r, s3, q1, q2, q3⟩ := v_rule m 3 s2 i2 hm (by decide)
      have h8' : (R.length : Int) < 8 := by omega
      have ad := add_rule R r hR.few
      refine ⟨R ++ [r], s3, by simp [E6, EO, len, h8', q1, z1, ad], ⟨by rw [List.length_append]; simp; omega, fun q hq => ?_⟩, carry_long r hP.ok hP.holds, hP.ok.long (by rw [List.length_append]; omega), q3⟩
      rcases List.mem_append.mp hq with hq | hq
      · exact hR.ok q hq
      · simp at hq
        subst hq
        exact q2
    · have h8' : ¬ (R.length : Int) < 8 := by omega
      exact ⟨R, s2, by simp [E6, EO, len, h8'], hR, carry_same hP.holds 2, hP.ok, i2⟩
  have b0 := bd_carry m R lot f P more less Rx 0 more R .non s3 nn hm1 hR hmore hf hP.ok (carry_more hP.holds sub1)
  have b1 := bd_carry m R lot f P more less Rx 1 less R (.val (.bl (holdsB R more f P))) s3 (nv _) hm1 hR hless hf hP.ok (carry_less hP.holds sub2)
  have b2 := bd_carry m R lot f P more less Rx 2 lot Rx (.val (.bl (holdsB R less f P))) s3 (nv _) hm1 hRx hl hf px cx
  have pt : ∀ (x9 x10 x11 x12 : Sl) (i : Nat) (l' : List Int) (R' : List Rl), tupG 2 (consG (putV 9) (consG (tupG 2 (consG (putV 10) (consG (putV 11) nilG))) nilG)) (.tup [.int (i : Int), .tup [tupI l', rulesD R']]) (EO m R lot f P more less Rx x9 x10 x11 x12) = some (EO m R lot f P more less Rx (.val (.int i)) (.val (tupI l')) (.val (rulesD R')) x12) := fun x9 x10 x11 x12 i l' R' => by simp [EO]
  have lb : ∃ ρ', loopF (tupG 2 (consG (putV 9) (consG (tupG 2 (consG (putV 10) (consG (putV 11) nilG))) nilG))) bd1__law_carries_over [.tup [.int ((0 : Nat) : Int), .tup [tupI more, rulesD R]], .tup [.int ((1 : Nat) : Int), .tup [tupI less, rulesD R]], .tup [.int ((2 : Nat) : Int), .tup [tupI lot, rulesD Rx]]] (EO m R lot f P more less Rx .non .non .non .non) s3 = some (.nx, ρ', s3) := by
    unfold loopF
    rw [pt]
    simp only [b0]
    unfold loopF
    rw [pt]
    simp only [b1]
    unfold loopF
    rw [pt]
    simp only [b2]
    unfold loopF
    exact ⟨_, rfl⟩
  obtain ⟨ρ', lb⟩ := lb
  have a5 : lp1__law_carries_over (EO m R lot f P more less Rx .non .non .non .non) s3 = some (.nx, ρ', s3) := by
    rw [← lb]
    simp [lp1__law_carries_over, EO, z2, z3, enumD, seqD]
  have key : b__law_carries_over [.val .deck, .val (.int m), .val (rulesD R), .val (tupI lot), .val (.int f), .non, .non, .non, .non, .non, .non, .non, .non, .non] s = some (.rt (.bl true), ρ', s3) := by
    unfold b__law_carries_over
    rw [d_seqF, a1]
    simp only
    rw [d_seqF, a2]
    simp only
    rw [d_seqF, a3]
    simp only
    rw [d_seqF, a4]
    simp only
    rw [d_seqF, a5]
    simp
  exact ⟨s3, defN_rt rfl rfl key, i3⟩
end Q
end
section
set_option Elab.async false
set_option linter.all false
set_option maxRecDepth 100000
set_option autoImplicit false
set_option maxHeartbeats 2000000
namespace Q
open PySem PySem.Spec PyProof.Rows L2 L3
theorem upI_len (n : Nat) : (upI n).length = n := by simp [upI]
theorem upI_nat {n : Nat} {x : Int} (h : x ∈ upI n) : ∃ i : Nat, x = i ∧ i < n := by
  have := (ints_lot n).rg x h
  exact ⟨x.toNat, by omega, by omega⟩
theorem rg_list (n : Nat) (h : n ≤ 1000000) : rgD .lst [.int (n : Int)] = some (.lst ((upI n).map .int)) := by
  have hok : RgOk 0 (n : Int) := by
    unfold RgOk
    omega
  unfold rgD
  simp only
  rw [if_pos hok]
  simp only [rngD, upI, List.map_map, Int.toNat_natCast]
  have : (List.range n).map (fun i : Nat => D.int (0 + (i : Nat))) = (List.range n).map (D.int ∘ fun i : Nat => (i : Int)) := List.map_congr_left fun i _ => by simp
  rw [this]
/-- the body, whatever makes the list -/
def bo (f : List D → Option D) : Ss Dk := seqF (parF [2, 3] (consI true (mapF f (consL (varF 1) nilL)) (consI true (mapF dispL nilL) nilI))) (seqF lp1__law_order (retF (thawF (mapF tupleD (consL (varF 3) nilL)))))
theorem bo_eq : b__law_order = bo (rgD .lst) := rfl
theorem par_rg (f : List D → Option D) (d : D) (ds : List D) (s : Dk) (h : f [d] = some (.lst ds)) (hn : noLs ds = true) : parF [2, 3] (consI true (mapF f (consL (varF 1) nilL)) (consI true (mapF dispL nilL) nilI)) [.val .deck, .val d, .non, .non, .non] s = some (.nx, [.val .deck, .val d, .own false ds, .own false [], .non], s) := by
  have z0 : 0 ≤ sizeLine := Nat.zero_le _
  simp [h, z0, hn]
theorem bd_order (n : Int) (left found : List Int) (x : Sl) (s : Dk) (hx : ∀ t ds, x ≠ .own t ds) (hI : SI s) (hl : left ≠ [] ∧ left.length ≤ 8 ∧ found.length ≤ 8) :
    ∃ (j : Nat) (y : Int) (s' : Dk), left[j]? = some y ∧ SI s' ∧ bd1__law_order [.val .deck, .val (.int n), .own false (left.map .int), .own false (found.map .int), x] s = some (.nx, [.val .deck, .val (.int n), .own false ((left.eraseIdx j).map .int), .own false ((found ++ [y]).map .int), x], s') := by
  have hp : 0 < left.length := by
    cases left with
    | nil => exact absurd rfl hl.1
    | cons x r => simp
  obtain ⟨r, s', h1, h2, h3, h4⟩ := v_draw left.length s hI ⟨by omega, by omega⟩
  have hj : r.toNat < left.length := by omega
  refine ⟨r.toNat, left[r.toNat], s', List.getElem?_eq_getElem hj, h4, ?_⟩
  have hr : 0 ≤ r ∧ r < 9223372036854775808 := ⟨h2, by omega⟩
  have z1 : found.length < sizeLine := by rw [sizeL]; omega
  have hth : ∀ (y : Sl) (z w : En), L3.thaw (y :: z) (x :: w) = x :: L3.thaw z w := fun y z w => thaw_any hx y z w
  unfold bd1__law_order
  simp [h1, hr, hj, z1, hth, map_erase]
theorem lp_order (n : Nat) (s : Dk) (hI : SI s) (hn : n ≤ 8) : ∃ (x : Sl) (is : List Int) (s' : Dk), lp1__law_order [.val .deck, .val (.int n), .own false ((upI n).map .int), .own false [], .non] s = some (.nx, [.val .deck, .val (.int n), .own false [], .own false (is.map .int), x], s') ∧ is.Perm (upI n) ∧ SI s' ∧ (∀ t ds, x ≠ .own t ds) := by
  have hr := range_nat n (by omega)
  obtain ⟨ρ', s', q1, q2, x, left, found, rfl, hx, hp, hl⟩ := loop_ix (S := Dk) (tg := putV 4) (b := bd1__law_order) (fun i : Nat => .int (0 + (i : Nat))) (fun i ρ s => SI s ∧ ∃ (x : Sl) (left found : List Int), ρ = [.val .deck, .val (.int n), .own false (left.map .int), .own false (found.map .int), x] ∧ (∀ t ds, x ≠ .own t ds) ∧ (found ++ left).Perm (upI n) ∧ found.length = i) (List.range n)
      [.val .deck, .val (.int n), .own false ((upI n).map .int), .own false [], .non] s ⟨hI, .non, _, [], rfl, nn, by simp, rfl⟩ (fun i hi ρ s h => by
      obtain ⟨hs, x, left, found, rfl, hx, hp, hl⟩ := h
      have hik : i < n := by simpa using hi
      have hlen := hp.length_eq
      rw [List.length_append, upI_len] at hlen
      have hne : left ≠ [] := fun z => by
        subst z
        simp at hlen
        omega
      obtain ⟨j, y, s', q1, q2, q3⟩ := bd_order n left found (.val (.int (i : Nat))) s (nv _) hs ⟨hne, by omega, by omega⟩
      refine ⟨[.val .deck, .val (.int n), .own false (left.map .int), .own false (found.map .int), .val (.int (i : Nat))], _, s', by simp, q3, q2, _, left.eraseIdx j, found ++ [y], rfl, nv _, ?_, by simp [hl]⟩
      rw [List.append_assoc]
      exact ((erase_perm q1).append_left found).trans hp)
  rw [List.length_range] at hl
  have hlen := hp.length_eq
  rw [List.length_append, upI_len] at hlen
  have : left = [] := List.length_eq_zero_iff.mp (by omega)
  subst this
  rw [List.append_nil] at hp
  refine ⟨x, found, s', ?_, hp, q2, hx⟩
  unfold lp1__law_order
  rw [d_forF, d_rangeL, d_consL, d_varF]
  simp only [d_nilL, List.getElem?_cons_succ, List.getElem?_cons_zero, hr]
  simpa using q1
theorem bo_ok (f : List D → Option D) (n : Nat) (s : Dk) (hI : SI s) (hn : n ≤ 8) (h : f [.int n] = some (.lst ((upI n).map .int))) : ∃ (is : List Int) (ρ' : En) (s' : Dk), bo f [.val .deck, .val (.int n), .non, .non, .non] s = some (.rt (tupI is), ρ', s') ∧ is.Perm (upI n) ∧ SI s' := by
  obtain ⟨x, is, s', e2, hp, hI', hx⟩ := lp_order n s hI hn
  have e3 := par_rg f (.int n) ((upI n).map .int) s h (noLs_ints _)
  have e5 : tupleD [.lst (is.map .int)] = some (tupI is) := rfl
  refine ⟨is, [.val .deck, .val (.int n), .own false [], .own false (is.map .int), x], s', ?_, hp, hI'⟩
  unfold bo
  rw [d_seqF, e3]
  simp only
  rw [d_seqF, e2]
  simp only
  simp [thaw_any hx, -c_tupL, e5]
theorem g_order_eq : g__law_order = defN 2 5 (bo (rgD .lst)) := rfl
theorem v_order (n : Nat) (s : Dk) (hI : SI s) (hn : n ≤ 8) : ∃ (is : List Int) (s' : Dk), g__law_order [.deck, .int n] s = some (tupI is, s') ∧ is.Perm (upI n) ∧ SI s' := by
  obtain ⟨is, ρ', s', e, hp, hI'⟩ := bo_ok (rgD .lst) n s hI hn (rg_list n (by omega))
  rw [g_order_eq]
  exact ⟨is, s', defN_rt rfl rfl e, hp, hI'⟩
/-! ### the law -/
def lotsD (ls : List (List Int)) : D := .lst (ls.map tupI)
def EB (t x3 x4 x5 x6 x7 x8 x9 : Sl) : En := [.non, .val .deck, t, x3, x4, x5, x6, x7, x8, x9, .non]
def o' (is : List Int) (i : Nat) : Int := is.getD i 0
def chain (is : List Int) (k : Nat) : List Rl := (List.range k).map fun i => ([o' is i], o' is (i + 1))
theorem o_get {is : List Int} {i : Nat} (h : i < is.length) : is[i]? = some (o' is i) := by
  unfold o'
  rw [List.getD_eq_getElem?_getD, List.getElem?_eq_getElem h]
  rfl
theorem ix_o {is : List Int} {i : Nat} (h : i < is.length) : ixD (tupI is) (.int (i : Int)) = some (.int (o' is i)) := by
  show atI (is.map D.int) (i : Int) = _
  exact atI_nat (by rw [List.getElem?_map, o_get h]; rfl)
theorem ix_o1 {is : List Int} {i : Nat} (h : i + 1 < is.length) : ixD (tupI is) (.int ((i : Int) + 1)) = some (.int (o' is (i + 1))) := by
  rw [show ((i : Int) + 1) = ((i + 1 : Nat) : Int) by omega]
  exact ix_o h
theorem perm_rg {n : Nat} {is : List Int} (hp : is.Perm (upI n)) {i : Nat} (h : i < is.length) : 0 ≤ o' is i ∧ o' is i < n := by
  have : o' is i ∈ is := List.mem_of_getElem? (o_get h)
  obtain ⟨k, e, hk⟩ := upI_nat (hp.mem_iff.mp this)
  omega
theorem chain_ok {m : Nat} {is : List Int} (hm : m ≤ 6) (hp : is.Perm (upI m)) : RulesOk m (chain is (m - 1)) := by
  have hlen := hp.length_eq
  rw [upI_len] at hlen
  have hnd : is.Nodup := hp.nodup_iff.mpr (upI_nd m)
  refine ⟨by unfold chain; rw [List.length_map, List.length_range]; omega, fun r hr => ?_⟩
  obtain ⟨i, hi, rfl⟩ := List.mem_map.mp hr
  have hi := List.mem_range.mp hi
  have h1 := perm_rg hp (i := i) (by omega)
  have h2 := perm_rg hp (i := i + 1) (by omega)
  refine ⟨⟨?_, fun x hx => ?_⟩, h2, ?_⟩
  · unfold asc
    simp
  · simp at hx
    subst hx
    exact h1
  · simp
    intro e
    have a1 := o_get (is := is) (i := i) (by omega)
    have a2 := o_get (is := is) (i := i + 1) (by omega)
    rw [e, ← a1] at a2
    have := (List.getElem?_inj (by omega) hnd).mp a2
    omega
theorem vq1_law (t x6 x7 x8 x9 : Sl) (m : Nat) (is : List Int) (s : Dk) (ht : Pl t) (h6 : Pl x6) (h7 : Pl x7) (h8 : Pl x8) (h9 : Pl x9) (h5 : Sl) (h5p : Pl h5) (hm : 1 ≤ m ∧ m ≤ 6) (hp : is.Perm (upI m)) :
    q1_law (EB t (.val (.int m)) (.val (tupI is)) h5 x6 x7 x8 x9) s = some (.lst ((chain is (m - 1)).map ruleD), EB t (.val (.int m)) (.val (tupI is)) h5 x6 x7 x8 x9, s) := by
  have hlen := hp.length_eq
  rw [upI_len] at hlen
  have hr := range_nat (m - 1) (by omega)
  rw [show ((m - 1 : Nat) : Int) = (m : Int) - 1 by omega] at hr
  have z1 : 1 ≤ sizeLine := by rw [sizeL]; omega
  have z2 := tup2 .non
  unfold q1_law
  refine (comp_map (List.range (m - 1)) (fun i : Nat => .int (0 + (i : Nat))) (fun _ => true) (fun i => ruleD ([o' is i], o' is (i + 1))) (ρ1 := EB t (.val (.int m)) (.val (tupI is)) h5 x6 x7 x8 x9) (s1 := s) (by simp [EB, hr]) (by simp [EB]) (by rw [sizeL, List.length_range]; omega) (fun i hi => ?_)).trans (by simp [chain])
  have hi := List.mem_range.mp hi
  have e1 := ix_o (is := is) (i := i) (by omega)
  have e2 := ix_o1 (is := is) (i := i) (by omega)
  refine ⟨[.non, .val .deck, t, .val (.int m), .val (tupI is), h5, x6, x7, x8, x9, .val (.int (i : Int))], [.non, .val .deck, t, .val (.int m), .val (tupI is), h5, x6, x7, x8, x9, .val (.int (i : Int))], by simp [EB], by simp, (by simp), fun _ => ⟨[.non, .val .deck, t, .val (.int m), .val (tupI is), h5, x6, x7, x8, x9, .val (.int (i : Int))], ?_, by simp [EB]⟩⟩
  have rd : ruleD ([o' is i], o' is (i + 1)) = .tup [.tup [.int (o' is i)], .int (o' is (i + 1))] := rfl
  simp [e1, e2, z1, z2, rd]
theorem q2_any (G : List D → Dk → Option (D × Dk)) (t x6 x7 x8 x9 : Sl) (m : Nat) (is is2 : List Int) (C : List Rl) (s s' : Dk) (h6 : Pl x6) (h7 : Pl x7) (h8 : Pl x8) (h9 : Pl x9) (ht : Pl t) (e0 : G [.deck, .int ((m : Int) - 1)] s = some (tupI is2, s')) (hl : is2.length ≤ 8) (hin : ∀ i ∈ is2, ∃ k : Nat, i = k ∧ k < C.length) :
    compF [10] (itemsF (callF G (consL (varF 1) (consL (binF subD (varF 3) (cstF (.int 1))) nilL)))) (putV 10) yesB (binF ixD (varF 5) (varF 10)) (EB t (.val (.int m)) (.val (tupI is)) (.val (rulesD C)) x6 x7 x8 x9) s = some (.lst (is2.map fun i => ruleD (rat C i.toNat)), EB t (.val (.int m)) (.val (tupI is)) (.val (rulesD C)) x6 x7 x8 x9, s') := by
  refine (comp_map is2 .int (fun _ => true) (fun i => ruleD (rat C i.toNat)) (ρ1 := EB t (.val (.int m)) (.val (tupI is)) (.val (rulesD C)) x6 x7 x8 x9) (s1 := s') ?_ (by simp [EB]) (by rw [sizeL]; omega) (fun i hi => ?_)).trans (by simp)
  · simp [EB, e0]
    rfl
  · obtain ⟨k, rfl, hk⟩ := hin i hi
    have e2 := ix_rat hk
    refine ⟨[.non, .val .deck, t, .val (.int m), .val (tupI is), .val (rulesD C), x6, x7, x8, x9, .val (.int (k : Int))], [.non, .val .deck, t, .val (.int m), .val (tupI is), .val (rulesD C), x6, x7, x8, x9, .val (.int (k : Int))], by simp [EB], by simp, (by simp), fun _ => ⟨[.non, .val .deck, t, .val (.int m), .val (tupI is), .val (rulesD C), x6, x7, x8, x9, .val (.int (k : Int))], ?_, by simp [EB]⟩⟩
    simp [e2]
/-- rules that are drawn, or the chain in another order -/
def st_R (G : List D → Dk → Option (D × Dk)) : Ss Dk := setF false 6 (iteF' (truF (binF gtD (callF g__law_draw (consL (varF 1) (consL (cstF (.int 4)) nilL))) (cstF (.int 0)))) (callF g__law_rules (consL (varF 1) (consL (varF 3) nilL))) (mapF tupleD (consL (compF [10] (itemsF (callF G (consL (varF 1) (consL (binF subD (varF 3) (cstF (.int 1))) nilL)))) (putV 10) yesB (binF ixD (varF 5) (varF 10))) nilL)))
theorem R_ok (G : List D → Dk → Option (D × Dk)) (t x6 x7 x8 x9 : Sl) (m : Nat) (is : List Int) (s : Dk) (ht : Pl t) (h6 : Pl x6) (h7 : Pl x7) (h8 : Pl x8) (h9 : Pl x9) (hm : 1 ≤ m ∧ m ≤ 6) (hp : is.Perm (upI m)) (hI : SI s)
    (hG : ∀ (n : Nat) (s : Dk), SI s → n ≤ 8 → ∃ (is : List Int) (s' : Dk), G [.deck, .int n] s = some (tupI is, s') ∧ is.Perm (upI n) ∧ SI s') :
    ∃ (R : List Rl) (s' : Dk), st_R G (EB t (.val (.int m)) (.val (tupI is)) (.val (rulesD (chain is (m - 1)))) x6 x7 x8 x9) s = some (.nx, EB t (.val (.int m)) (.val (tupI is)) (.val (rulesD (chain is (m - 1)))) (.val (rulesD R)) x7 x8 x9, s') ∧ RulesOk m R ∧ SI s' := by
  have hc := chain_ok hm.2 hp
  obtain ⟨u, s1, e1, h0, _, i1⟩ := v_draw 4 s hI (by decide)
  by_cases hu : 0 < u
  · obtain ⟨R, s2, e2, hR, i2⟩ := v_rules m s1 i1 hm
    exact ⟨R, s2, by simp [st_R, EB, e1, hu, e2, thaw_any ht, thaw_any h6, thaw_any h7, thaw_any h8, thaw_any h9], hR, i2⟩
  · obtain ⟨is2, s2, e2, hp2, i2⟩ := hG (m - 1) s1 i1 (by omega)
    rw [show ((m - 1 : Nat) : Int) = (m : Int) - 1 by omega] at e2
    have hlen2 := hp2.length_eq
    rw [upI_len] at hlen2
    have hin : ∀ i ∈ is2, ∃ k : Nat, i = k ∧ k < (chain is (m - 1)).length := fun i hi => by
      obtain ⟨k, e, hk⟩ := upI_nat (hp2.mem_iff.mp hi)
      exact ⟨k, e, by unfold chain; rw [List.length_map, List.length_range]; exact hk⟩
    have e3 := q2_any G t x6 x7 x8 x9 m is is2 (chain is (m - 1)) s1 s2 h6 h7 h8 h9 ht e2 (by omega) hin
    have e4 : tupleD [.lst (is2.map fun i => ruleD (rat (chain is (m - 1)) i.toNat))] = some (rulesD (is2.map fun i => rat (chain is (m - 1)) i.toNat)) := by
      rw [c_tupL]
      unfold rulesD
      rw [List.map_map]
      rfl
    refine ⟨is2.map fun i => rat (chain is (m - 1)) i.toNat, s2, ?_, ⟨by rw [List.length_map]; omega, fun r hr => ?_⟩, i2⟩
    · have t1 : truF (binF gtD (callF g__law_draw (consL (varF 1) (consL (cstF (.int 4)) nilL))) (cstF (.int 0))) (EB t (.val (.int m)) (.val (tupI is)) (.val (rulesD (chain is (m - 1)))) x6 x7 x8 x9) s = some (false, EB t (.val (.int m)) (.val (tupI is)) (.val (rulesD (chain is (m - 1)))) x6 x7 x8 x9, s1) := by
        simp [EB, e1, hu, thaw_any ht, thaw_any h6, thaw_any h7, thaw_any h8, thaw_any h9]
      unfold st_R
      rw [d_setF, d_iteF, t1]
      simp only
      rw [d_mapF, d_consL, e3]
      simp only [d_nilL, e4]
      simp [EB, thaw_any ht, thaw_any h6, thaw_any h7, thaw_any h8, thaw_any h9]
    · obtain ⟨i, hi, rfl⟩ := List.mem_map.mp hr
      obtain ⟨k, rfl, hk⟩ := hin i hi
      rw [Int.toNat_natCast]
      exact hc.ok _ (rat_in hk)
theorem set_4 (G : List D → Dk → Option (D × Dk)) (t x4 x5 x6 x7 x8 x9 : Sl) (m : Nat) (is : List Int) (s s' : Dk) (ht : Pl t) (h4 : Pl x4) (h5 : Pl x5) (h6 : Pl x6) (h7 : Pl x7) (h8 : Pl x8) (h9 : Pl x9) (e : G [.deck, .int (m : Int)] s = some (tupI is, s')) :
    setF false 4 (callF G (consL (varF 1) (consL (varF 3) nilL))) (EB t (.val (.int m)) x4 x5 x6 x7 x8 x9) s = some (.nx, EB t (.val (.int m)) (.val (tupI is)) x5 x6 x7 x8 x9, s') := by
  simp [EB, e, thaw_any ht, thaw_any h4, thaw_any h5, thaw_any h6, thaw_any h7, thaw_any h8, thaw_any h9]
/-- the frame within the lots -/
def EM (t : Sl) (m : Nat) (is : List Int) (C R : List Rl) (ls : List (List Int)) (x8 x9 : Sl) : En := EB t (.val (.int m)) (.val (tupI is)) (.val (rulesD C)) (.val (rulesD R)) (.val (lotsD ls)) x8 x9
theorem EM_freeze {t x8 x9 : Sl} {m : Nat} {is : List Int} {C R : List Rl} {ls : List (List Int)} (ht : Pl t) (h8 : Pl x8) (h9 : Pl x9) : L3.freeze (EM t m is C R ls x8 x9) = EM t m is C R ls x8 x9 := by
  simp [EM, EB, freeze_any ht, freeze_any h8, freeze_any h9]
theorem lp1_ok (t : Sl) (m : Nat) (is : List Int) (C R : List Rl) (ls : List (List Int)) (lot : List Int) (x9 : Sl) (s : Dk) (ht : Pl t) (h9 : Pl x9) (hm : 1 ≤ m ∧ m ≤ 6) (hR : RulesOk m R) (hl : Lot m lot) :
    ∃ y9 : Sl, lp1_law (EM t m is C R ls (.val (tupI lot)) x9) s = some (.nx, EM t m is C R ls (.val (tupI lot)) y9, s) ∧ Pl y9 := by
  have hm1 : 1 ≤ (m : Int) ∧ (m : Int) ≤ 6 := ⟨by omega, by omega⟩
  have hr := range_nat m (by omega)
  obtain ⟨ρ', s', q1, rfl, y9, rfl, p9⟩ := loop_ix (S := Dk) (tg := putV 9) (b := bd1_law) (fun i : Nat => .int (0 + (i : Nat))) (fun _ ρ s' => s' = s ∧ ∃ y9 : Sl, ρ = EM t m is C R ls (.val (tupI lot)) y9 ∧ Pl y9) (List.range m)
      (EM t m is C R ls (.val (tupI lot)) x9) s ⟨rfl, x9, rfl, h9⟩ (fun i hi ρ s' h => by
      obtain ⟨rfl, y9, rfl, p9⟩ := h
      have hi' : i < m := by simpa using hi
      have e := v_is_judged m R lot (i : Int) s' hm1 hR hl ⟨by omega, by omega⟩
      refine ⟨EM t m is C R ls (.val (tupI lot)) (.val (.int (i : Int))), EM t m is C R ls (.val (tupI lot)) (.val (.int (i : Int))), s', by simp [EM, EB], ?_, rfl, _, rfl, nv _⟩
      simp [bd1_law, EM, EB, e, thaw_any ht])
  refine ⟨y9, ?_, p9⟩
  unfold lp1_law
  rw [d_forF]
  have : rangeL (consL (varF 3) nilL) (EM t m is C R ls (.val (tupI lot)) x9) s' = some ((List.range m).map fun i : Nat => .int (0 + (i : Nat)), EM t m is C R ls (.val (tupI lot)) x9, s') := by simp [EM, EB, hr]
  rw [this]
  simp only [EM_freeze ht (nv _) h9]
  exact q1
theorem bd2_ok (t : Sl) (m : Nat) (is : List Int) (C R : List Rl) (ls : List (List Int)) (lot : List Int) (x9 : Sl) (s : Dk) (ht : Pl t) (h9 : Pl x9) (hI : SI s) (hm : 1 ≤ m ∧ m ≤ 6) (hR : RulesOk m R) (hl : Lot m lot) :
    ∃ (y9 : Sl) (s' : Dk), bd2_law (EM t m is C R ls (.val (tupI lot)) x9) s = some (.nx, EM t m is C R ls (.val (tupI lot)) y9, s') ∧ Pl y9 ∧ SI s' := by
  obtain ⟨y9, e1, p9⟩ := lp1_ok t m is C R ls lot x9 s ht h9 hm hR hl
  obtain ⟨f, s1, e2, f0, f1, i1⟩ := v_draw m s hI ⟨by omega, by omega⟩
  obtain ⟨s2, e3, i2⟩ := v_carries_over m R lot f s1 i1 hm hR hl ⟨f0, f1⟩
  refine ⟨y9, s2, ?_, p9, i2⟩
  unfold bd2_law
  rw [d_seqF, e1]
  simp only
  simp [EM, EB, e2, e3, thaw_any ht, thaw_any p9]
theorem lp2_ok (t : Sl) (m : Nat) (is : List Int) (C R : List Rl) (ls : List (List Int)) (x8 x9 : Sl) (s : Dk) (ht : Pl t) (h8 : Pl x8) (h9 : Pl x9) (hI : SI s) (hm : 1 ≤ m ∧ m ≤ 6) (hR : RulesOk m R) (hl : ∀ l ∈ ls, Lot m l) :
    ∃ (y8 y9 : Sl) (s' : Dk), lp2_law (EM t m is C R ls x8 x9) s = some (.nx, EM t m is C R ls y8 y9, s') ∧ Pl y8 ∧ Pl y9 ∧ SI s' := by
  obtain ⟨ρ', s', q1, i1, y8, y9, rfl, p8, p9⟩ := loop_ix (S := Dk) (tg := putV 8) (b := bd2_law) tupI (fun _ ρ s' => SI s' ∧ ∃ y8 y9 : Sl, ρ = EM t m is C R ls y8 y9 ∧ Pl y8 ∧ Pl y9) ls
      (EM t m is C R ls x8 x9) s ⟨hI, x8, x9, rfl, h8, h9⟩ (fun i hi ρ s' h => by
      obtain ⟨hs, y8, y9, rfl, p8, p9⟩ := h
      obtain ⟨z9, s2, q1, q2, q3⟩ := bd2_ok t m is C R ls ls[i] y9 s' ht p9 hs hm hR (hl _ (List.getElem_mem hi))
      exact ⟨EM t m is C R ls (.val (tupI ls[i])) y9, _, s2, by simp [EM, EB], q1, q3, _, z9, rfl, nv _, q2⟩)
  refine ⟨y8, y9, s', ?_, p8, p9, i1⟩
  unfold lp2_law
  rw [d_forF]
  have : itemsF (varF 7) (EM t m is C R ls x8 x9) s = some (ls.map tupI, EM t m is C R ls x8 x9, s) := by simp [EM, EB, lotsD]
  rw [this]
  simp only [EM_freeze ht h8 h9]
  exact q1
/-- the facts that are judged to follow -/
theorem vq3_law (t : Sl) (m : Nat) (is : List Int) (C R : List Rl) (ls : List (List Int)) (lot : List Int) (x8 x9 : Sl) (s : Dk) (ht : Pl t) (h8 : Pl x8) (h9 : Pl x9) (hno : ∀ (u : Bool) (ds : List D), x9 ≠ .own u ds) (hm : 1 ≤ m ∧ m ≤ 6) (hR : RulesOk m R) (hl : Lot m lot) (h3 : atI (ls.map tupI) 3 = some (tupI lot)) :
    ∃ s' : Dk, q3_law (EM t m is C R ls x8 x9) s = some (.lst ((clo R lot).map .int), EM t m is C R ls x8 x9, s') ∧ s' = s := by
  have hm1 : 1 ≤ (m : Int) ∧ (m : Int) ≤ 6 := ⟨by omega, by omega⟩
  have hr := range_ints m (by omega)
  have hc := cloOk (m := (m : Int)) ⟨by omega, by omega⟩ hR hl
  have w : ∀ P : Paper, eqD (.str (kw P)) (.str "steps") = some (.bl (kw P == "steps")) := fun P => eq_str _ _
  refine ⟨s, ?_, rfl⟩
  unfold q3_law
  have hf : (upI m).filter (fun f => decide (f ∈ clo R lot)) = clo R lot := by
    refine asc_ext ?_ hc.isL.asc fun x => ?_
    · exact List.Pairwise.sublist List.filter_sublist (ints_lot m).asc
    · rw [List.mem_filter, decide_eq_true_eq]
      exact ⟨fun h => h.2, fun h => ⟨mem_upI (hc.isL.rg x h), h⟩⟩
  refine (comp_map (upI m) .int (fun f => decide (f ∈ clo R lot)) .int (ρ1 := EM t m is C R ls x8 x9) (s1 := s) (by simp [EM, EB, hr]) (by cases x9 with
          | own u ds => exact absurd rfl (hno u ds)
          | val d => simp [EM, EB]
          | non => simp [EM, EB]) (by rw [sizeL, upI_len]; omega) (fun f hf => ?_)).trans (by rw [hf])
  have hfr := (ints_lot m).rg f hf
  obtain ⟨P, hP, e1⟩ := v_judge m R lot f s hm1 hR hl hfr
  obtain ⟨d, ed⟩ := paper_at P
  have ix : ixD (paperD P) (.int 0) = some (.str (kw P)) := by rw [ed]; rfl
  have k : (kw P == "steps") = decide (f ∈ clo R lot) := by
    rw [hP.due]
    unfold due
    by_cases h : f ∈ clo R lot
    · rw [if_pos h]; simp [h]
    · rw [if_neg h]
      simp only [h, decide_false]
      decide
  have e2 := w P
  rw [k] at e2
  have e3 : ixD (lotsD ls) (.int 3) = some (tupI lot) := h3
  refine ⟨EM t m is C R ls x8 (.val (.int f)), EM t m is C R ls x8 (.val (.int f)), by simp [EM, EB], ?_, by simp [EM, EB], fun _ => ⟨EM t m is C R ls x8 (.val (.int f)), by simp [EM, EB], by simp [EM, EB]⟩⟩
  simp only [d_truF, d_binF, d_callF, d_consL, d_varF, d_cstF, d_nilL, EM, EB, List.getElem?_cons_succ, List.getElem?_cons_zero, e3, e1, ix, e2, o_truB]
  simp [thaw_any ht, thaw_any h8]
theorem bd3_ok (t x3 x4 x5 x6 x7 x8 x9 : Sl) (s : Dk) (ht : Pl t) (h3 : Pl x3) (h4 : Pl x4) (h5 : Pl x5) (h6 : Pl x6) (h7 : Pl x7) (h8 : Pl x8) (h9 : Pl x9) (hI : SI s) :
    ∃ (m : Nat) (is : List Int) (C R : List Rl) (ls : List (List Int)) (y8 y9 : Sl) (s' : Dk), bd3_law (EB t x3 x4 x5 x6 x7 x8 x9) s = some (.nx, EM t m is C R ls y8 y9, s') ∧ Pl y8 ∧ Pl y9 ∧ SI s' := by
  obtain ⟨mi, s1, e1, hmi, i1⟩ := v_pick [3, 1, 2, 3, 4, 4, 5, 6] s hI (by decide)
  have e1 : g__law_pick [.deck, .lst [.int 3, .int 1, .int 2, .int 3, .int 4, .int 4, .int 5, .int 6]] s = some (.int mi, s1) := e1
  obtain ⟨m, rfl, hm⟩ : ∃ m : Nat, mi = m ∧ 1 ≤ m ∧ m ≤ 6 := by
    simp at hmi
    exact ⟨mi.toNat, by omega, by omega, by omega⟩
  have hm1 : 1 ≤ (m : Int) ∧ (m : Int) ≤ 6 := ⟨by omega, by omega⟩
  obtain ⟨is, s2, e2, hp, i2⟩ := v_order m s1 i1 (by omega)
  have hlen := hp.length_eq
  rw [upI_len] at hlen
  have z8 : 8 ≤ sizeLine := by rw [sizeL]; omega
  have z4 : 4 ≤ sizeLine := by rw [sizeL]; omega
  have z1 : 1 ≤ sizeLine := by rw [sizeL]; omega
  have z0 : 0 ≤ sizeLine := Nat.zero_le _
  have a1 : setF false 3 (callF g__law_pick (consL (varF 1) (consL (mapF dispL (consL (cstF (.int 3)) (consL (cstF (.int 1)) (consL (cstF (.int 2)) (consL (cstF (.int 3)) (consL (cstF (.int 4)) (consL (cstF (.int 4)) (consL (cstF (.int 5)) (consL (cstF (.int 6)) nilL))))))))) nilL))) (EB t x3 x4 x5 x6 x7 x8 x9) s = some (.nx, EB t (.val (.int m)) x4 x5 x6 x7 x8 x9, s1) := by
    simp [EB, z8, e1, thaw_any ht, thaw_any h3, thaw_any h4, thaw_any h5, thaw_any h6, thaw_any h7, thaw_any h8, thaw_any h9]
  have a2 := set_4 g__law_order t x4 x5 x6 x7 x8 x9 m is s1 s2 ht h4 h5 h6 h7 h8 h9 e2
  have e3 := vq1_law t x6 x7 x8 x9 m is s2 ht h6 h7 h8 h9 x5 h5 hm hp
  have e4 : tupleD [.lst ((chain is (m - 1)).map ruleD)] = some (rulesD (chain is (m - 1))) := rfl
  have a3 : setF false 5 (mapF tupleD (consL q1_law nilL)) (EB t (.val (.int m)) (.val (tupI is)) x5 x6 x7 x8 x9) s2 = some (.nx, EB t (.val (.int m)) (.val (tupI is)) (.val (rulesD (chain is (m - 1)))) x6 x7 x8 x9, s2) := by
    rw [d_setF, d_mapF, d_consL, e3]
    simp only [d_nilL, e4]
    simp [EB, thaw_any ht, thaw_any h5, thaw_any h6, thaw_any h7, thaw_any h8, thaw_any h9]
  obtain ⟨R, s3, a4, hR, i3⟩ := R_ok g__law_order t x6 x7 x8 x9 m is s2 ht h6 h7 h8 h9 hm hp i2 (fun n s hs hn => v_order n s hs hn)
  obtain ⟨l1, s4, e5, hl1, i4⟩ := v_lot m s3 i3 hm.2
  obtain ⟨l2, s5, e6, hl2, i5⟩ := v_lot m s4 i4 hm.2
  have e7 : ixD (tupI is) (.int 0) = some (.int (o' is 0)) := ix_o (is := is) (i := 0) (by omega)
  have hl3 : Lot m [o' is 0] := ⟨by unfold asc; simp, fun x hx => by
    simp at hx
    subst hx
    exact perm_rg hp (by omega)⟩
  have a5 : setF false 7 (mapF dispL (consL (mapF dispT nilL) (consL (callF g__law_lot (consL (varF 1) (consL (varF 3) nilL))) (consL (callF g__law_lot (consL (varF 1) (consL (varF 3) nilL))) (consL (mapF dispT (consL (binF ixD (varF 4) (cstF (.int 0))) nilL)) nilL))))) (EB t (.val (.int m)) (.val (tupI is)) (.val (rulesD (chain is (m - 1)))) (.val (rulesD R)) x7 x8 x9) s3 = some (.nx, EM t m is (chain is (m - 1)) R [[], l1, l2, [o' is 0]] x8 x9, s5) := by
    simp [EB, EM, lotsD, e5, e6, e7, z0, z1, z4, freeze_any ht, freeze_any h7, freeze_any h8, freeze_any h9]
    exact ⟨rfl, rfl⟩
  have hall : ∀ l ∈ [[], l1, l2, [o' is 0]], Lot (m : Int) l := fun l hl => by
    simp at hl
    rcases hl with rfl | rfl | rfl | rfl
    · exact ⟨List.Pairwise.nil, fun x hx => by cases hx⟩
    · exact hl1
    · exact hl2
    · exact hl3
  obtain ⟨y8, y9, s6, a6, p8, p9, i6⟩ := lp2_ok t m is (chain is (m - 1)) R [[], l1, l2, [o' is 0]] x8 x9 s5 ht h8 h9 i5 hm hR hall
  have h3' : atI ([[], l1, l2, [o' is 0]].map tupI) 3 = some (tupI [o' is 0]) := atI_nat (j := 3) rfl
  obtain ⟨s7, e8, q8⟩ := vq3_law t m is (chain is (m - 1)) R [[], l1, l2, [o' is 0]] [o' is 0] y8 y9 s6 ht p8 p9 p9 hm hR hl3 h3'
  rw [q8] at e8
  have e9 : g_closure [.int m, rulesD R, tupI [o' is 0]] s6 = some (tupI (clo R [o' is 0]), s6) := v_closure m R [o' is 0] s6 hm1 hR hl3
  have hc := cloOk (m := (m : Int)) ⟨by omega, by omega⟩ hR hl3
  have e10 := repr_lot hc.isL ⟨by omega, by omega⟩
  have e11 : tupleD [.lst ((clo R [o' is 0]).map .int)] = some (tupI (clo R [o' is 0])) := rfl
  have e12 : ixD (lotsD [[], l1, l2, [o' is 0]]) (.int 3) = some (tupI [o' is 0]) := h3'
  have a7 : ifF (truF (binF neD (mapF reprD (consL (callF g_closure (consL (varF 3) (consL (varF 6) (consL (binF ixD (varF 7) (cstF (.int 3))) nilL)))) nilL)) (mapF reprD (consL (mapF tupleD (consL q3_law nilL)) nilL)))) (retF (cstF (.bl false))) skipF (EM t m is (chain is (m - 1)) R [[], l1, l2, [o' is 0]] y8 y9) s6 = some (.nx, EM t m is (chain is (m - 1)) R [[], l1, l2, [o' is 0]] y8 y9, s6) := by
    have v1 : mapF reprD (consL (callF g_closure (consL (varF 3) (consL (varF 6) (consL (binF ixD (varF 7) (cstF (.int 3))) nilL)))) nilL) (EM t m is (chain is (m - 1)) R [[], l1, l2, [o' is 0]] y8 y9) s6 = some (.str (toP (tupI (clo R [o' is 0]))).shown, EM t m is (chain is (m - 1)) R [[], l1, l2, [o' is 0]] y8 y9, s6) := by
      simp only [d_mapF, d_consL, d_callF, d_binF, d_varF, d_cstF, d_nilL, EM, EB, List.getElem?_cons_succ, List.getElem?_cons_zero, e12, e9, e10]
    have v2 : mapF reprD (consL (mapF tupleD (consL q3_law nilL)) nilL) (EM t m is (chain is (m - 1)) R [[], l1, l2, [o' is 0]] y8 y9) s6 = some (.str (toP (tupI (clo R [o' is 0]))).shown, EM t m is (chain is (m - 1)) R [[], l1, l2, [o' is 0]] y8 y9, s6) := by
      rw [d_mapF, d_consL, d_mapF, d_consL, e8]
      simp only [d_nilL, e11, e10]
    rw [d_ifF, d_truF, d_binF, v1]
    simp only [v2, ne_str, beq_self_eq_true, Bool.not_true, o_truB, d_skipF]
    simp [EM, EB, thaw_any ht, thaw_any p8, thaw_any p9]
  refine ⟨m, is, chain is (m - 1), R, [[], l1, l2, [o' is 0]], y8, y9, s6, ?_, p8, p9, i6⟩
  unfold bd3_law
  rw [d_seqF, a1]; simp only
  rw [d_seqF, a2]; simp only
  rw [d_seqF, a3]; simp only
  rw [show setF false 6 (iteF' (truF (binF gtD (callF g__law_draw (consL (varF 1) (consL (cstF (.int 4)) nilL))) (cstF (.int 0)))) (callF g__law_rules (consL (varF 1) (consL (varF 3) nilL))) (mapF tupleD (consL q2_law nilL))) = st_R g__law_order from rfl]
  rw [d_seqF, a4]; simp only
  rw [d_seqF, a5]; simp only
  rw [d_seqF, a6]; simp only
  exact a7
theorem law_true (s : Dk) (hI : s.cells.length ≤ 64) : ∃ ρ' s', b_law (startL 11) s = some (.rt (.bl true), ρ', s') := by
  have hr : rangeD [.int 2] = some ((List.range 2).map fun i : Nat => .int (0 + (i : Nat))) := range_nat 2 (by omega)
  obtain ⟨ρ', s', h1, h2⟩ := loop_ix (S := Dk) (tg := putV 2) (b := bd3_law) (fun i : Nat => .int (0 + (i : Nat))) (fun _ ρ s => SI s ∧ ∃ t x3 x4 x5 x6 x7 x8 x9 : Sl, ρ = EB t x3 x4 x5 x6 x7 x8 x9 ∧ Pl t ∧ Pl x3 ∧ Pl x4 ∧ Pl x5 ∧ Pl x6 ∧ Pl x7 ∧ Pl x8 ∧ Pl x9) (List.range 2) (startL 11) s ⟨hI, .non, .non, .non, .non, .non, .non, .non, .non, rfl, nn, nn, nn, nn, nn, nn, nn, nn⟩ (fun i hi ρ s h => by
    obtain ⟨hs, t, x3, x4, x5, x6, x7, x8, x9, rfl, ht, h3, h4, h5, h6, h7, h8, h9⟩ := h
    obtain ⟨m, is, C, R, ls, y8, y9, s', q1, p8, p9, q4⟩ := bd3_ok (.val (.int (0 + (i : Nat)))) x3 x4 x5 x6 x7 x8 x9 s (nv _) h3 h4 h5 h6 h7 h8 h9 hs
    exact ⟨EB (.val (.int (0 + (i : Nat)))) x3 x4 x5 x6 x7 x8 x9, _, s', by simp [EB], q1, q4, _, _, _, _, _, _, y8, y9, rfl, nv _, nv _, nv _, nv _, nv _, nv _, p8, p9⟩)
  have h3 : lp3_law (startL 11) s = some (.nx, ρ', s') := by
    unfold lp3_law
    rw [d_forF, d_rangeL, d_consL, d_cstF]
    simp only [d_nilL, hr]
    exact h1
  refine ⟨ρ', s', ?_⟩
  unfold b_law
  rw [d_seqF, h3]
  simp
end Q
theorem all_holds : PySem.Challenge.rw_bothandall_k02_whole_what_follows.Holds := law_holds Q.law_true
end
open PySem PySem.W PyProof.Rows
theorem PySem.Challenge.cw_bothandall_k02_whole_what_follows_holds : PySem.Challenge.rw_bothandall_k02_whole_what_follows.Holds := by
  exact all_holds
