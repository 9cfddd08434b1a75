import PyProof.Rows.All
import Wide.All
import OpenK.AllK
import Wide.FinOn
import PySem.Challenge.RW_bothandall_k10_least_greatest_depths_ste
import HandS.ForMost
import HandS.Walk
import HandS.Zip
import HandS.Style
import KE.GoesMore
import HandS.SortInts
import HandS.NamedTupSort
import HandS.SetFor
import HandS.Strs
import HandS.TupSets
import HandS.Deep
import HandS.TupAny
import HandS.IsInst
import HandS.TupLe
import PyProof.ReprRoads
import HandS.Conv
import HandS.HeadEnd
import HandS.HeadHook2
import HandS.DictComp
import HandS.WideBits
import HandS.Sort
import HandS.Head0
import HandS.Head1
import HandS.Head2
import HandS.HeadHook1
/-! A proof that the law holds of the given program: a layer of shallow readings (L3), printed derivations of the text (Q), and plain mathematics. Own work. -/
section
set_option Elab.async false
set_option linter.all false
set_option maxRecDepth 100000
/-! L3a: data, slots, what code computes over pure data (own work). -/
namespace L3
open PySem PySem.Spec PyProof.Rows L2
/-- pure data -/
inductive D where
  | non | bl (b : Bool) | int (i : Int) | str (x : Str) | ty (n : String) | deck
  | tup (xs : List D) | lst (xs : List D) | dic (kvs : List (Key × D)) | dit (ks : List (List Key)) (ds : List D) | rng (lo hi : Int)
  deriving Inhabited
mutual
def noL : D → Bool
  | .tup xs => noLs xs
  | .lst _ => false
  | .dic _ => false
  | .dit _ _ => false
  | .rng _ _ => false
  | _ => true
def noLs : List D → Bool
  | [] => true
  | d :: ds => noL d && noLs ds
end
/-- a slot: nothing, a value, or a list or dict that this frame owns (t: read within the running statement) -/
inductive Sl where
  | non | val (d : D) | ownD (t : Bool) (d : D)
  deriving Inhabited
abbrev Sl.own (t : Bool) (ds : List D) : Sl := .ownD t (.lst ds)
abbrev En := List Sl
def thaw : En → En → En
  | .ownD false _ :: a, .ownD _ ds :: b => .ownD false ds :: thaw a b
  | _ :: a, y :: b => y :: thaw a b
  | [], b => b
  | _ :: _, [] => []
def thawAll : En → En
  | .ownD _ ds :: a => .ownD false ds :: thawAll a
  | x :: a => x :: thawAll a
  | [] => []
def freeze : En → En
  | .ownD true ds :: a => .val ds :: freeze a
  | x :: a => x :: freeze a
  | [] => []
theorem thaw_length : ∀ (a b : En), (thaw a b).length = b.length
  | [], b => by simp [thaw]
  | _ :: _, [] => by simp [thaw]
  | .ownD false _ :: a, .ownD _ _ :: b => by simp [thaw, thaw_length a b]
  | .ownD false _ :: a, .non :: b => by simp [thaw, thaw_length a b]
  | .ownD false _ :: a, .val _ :: b => by simp [thaw, thaw_length a b]
  | .ownD true _ :: a, _ :: b => by simp [thaw, thaw_length a b]
  | .non :: a, _ :: b => by simp [thaw, thaw_length a b]
  | .val _ :: a, _ :: b => by simp [thaw, thaw_length a b]
theorem thawAll_get : ∀ (a : En) (i : Nat), (thawAll a)[i]? = (a[i]?).map fun x => match x with | .ownD _ ds => .ownD false ds | x => x
  | [], _ => by simp [thawAll]
  | .ownD _ _ :: a, 0 => by simp [thawAll]
  | .non :: a, 0 => by simp [thawAll]
  | .val _ :: a, 0 => by simp [thawAll]
  | .ownD _ _ :: a, i + 1 => by simp [thawAll, thawAll_get a i]
  | .non :: a, i + 1 => by simp [thawAll, thawAll_get a i]
  | .val _ :: a, i + 1 => by simp [thawAll, thawAll_get a i]
theorem freeze_get : ∀ (a : En) (i : Nat), (freeze a)[i]? = (a[i]?).map fun x => match x with | .ownD true ds => .val ds | x => x
  | [], _ => by simp [freeze]
  | .ownD true _ :: a, 0 => by simp [freeze]
  | .ownD false _ :: a, 0 => by simp [freeze]
  | .non :: a, 0 => by simp [freeze]
  | .val _ :: a, 0 => by simp [freeze]
  | .ownD true _ :: a, i + 1 => by simp [freeze, freeze_get a i]
  | .ownD false _ :: a, i + 1 => by simp [freeze, freeze_get a i]
  | .non :: a, i + 1 => by simp [freeze, freeze_get a i]
  | .val _ :: a, i + 1 => by simp [freeze, freeze_get a i]
theorem thaw_get : ∀ (a b : En) (i : Nat), (thaw a b)[i]? = (b[i]?).map fun y => match a[i]?, y with | some (.ownD false _), .ownD _ ds => .ownD false ds | _, y => y
  | [], b, i => by cases h : b[i]? <;> simp [thaw, h]
  | _ :: _, [], _ => by simp [thaw]
  | .ownD false _ :: a, .ownD _ _ :: b, 0 => by simp [thaw]
  | .ownD false _ :: a, .non :: b, 0 => by simp [thaw]
  | .ownD false _ :: a, .val _ :: b, 0 => by simp [thaw]
  | .ownD true _ :: a, y :: b, 0 => by simp [thaw]
  | .non :: a, y :: b, 0 => by simp [thaw]
  | .val _ :: a, y :: b, 0 => by simp [thaw]
  | .ownD false _ :: a, .ownD _ _ :: b, i + 1 => by simp [thaw, thaw_get a b i]
  | .ownD false _ :: a, .non :: b, i + 1 => by simp [thaw, thaw_get a b i]
  | .ownD false _ :: a, .val _ :: b, i + 1 => by simp [thaw, thaw_get a b i]
  | .ownD true _ :: a, y :: b, i + 1 => by simp [thaw, thaw_get a b i]
  | .non :: a, y :: b, i + 1 => by simp [thaw, thaw_get a b i]
  | .val _ :: a, y :: b, i + 1 => by simp [thaw, thaw_get a b i]
theorem thawAll_length (a : En) : (thawAll a).length = a.length := by
  induction a with
  | nil => rfl
  | cons x a ih => cases x <;> simp [thawAll, ih]
theorem freeze_length (a : En) : (freeze a).length = a.length := by
  induction a with
  | nil => rfl
  | cons x a ih =>
    cases x with
    | ownD t ds => cases t <;> simp [freeze, ih]
    | _ => simp [freeze, ih]
end L3
end
section
set_option Elab.async false
set_option linter.all false
set_option maxRecDepth 100000
set_option autoImplicit false
/-! L3b: how data lie in the abstract heap; the frame's relation (own work). -/
namespace L3
open PySem PySem.Spec PyProof.Rows L2
mutual
inductive Rep (K : PySem.W.Frag) (tk : Addr) (H : Hp) (av : Addr → Prop) : V → D → Prop
  | non : Rep K tk H av .non .non
  | bl (b : Bool) : Rep K tk H av (.bl b) (.bl b)
  | int (i : Int) : Rep K tk H av (.int i) (.int i)
  | str (x : Str) : Rep K tk H av (.str x) (.str x)
  | ty (n : String) : Rep K tk H av (.ty n) (.ty n)
  | deck : Rep K tk H av (.ref tk) .deck
  | tup {a : Addr} {xs : List V} {ds : List D} : SqT K H a xs → RepL K tk H av xs ds → Rep K tk H av (.ref a) (.tup ds)
  | lst {a : Addr} {xs : List V} {ds : List D} : H a = some (.lst xs) → ¬ av a → RepL K tk H av xs ds → Rep K tk H av (.ref a) (.lst ds)
  | dic {a : Addr} {kvs : List (Key × V)} {kds : List (Key × D)} : H a = some (.dK kvs) → ¬ av a → RepK K tk H av kvs kds → Rep K tk H av (.ref a) (.dic kds)
  | dit {a : Addr} {ks : List (List Key)} {vs : List V} {ds : List D} : H a = some (.dT (ks.zip vs)) → ¬ av a → ks.length = vs.length → RepL K tk H av vs ds → Rep K tk H av (.ref a) (.dit ks ds)
  | rng {a : Addr} {lo hi : Int} : H a = some (.rng lo hi) → ¬ av a → Rep K tk H av (.ref a) (.rng lo hi)
inductive RepL (K : PySem.W.Frag) (tk : Addr) (H : Hp) (av : Addr → Prop) : List V → List D → Prop
  | nil : RepL K tk H av [] []
  | cons {v : V} {vs : List V} {d : D} {ds : List D} : Rep K tk H av v d → RepL K tk H av vs ds → RepL K tk H av (v :: vs) (d :: ds)
inductive RepK (K : PySem.W.Frag) (tk : Addr) (H : Hp) (av : Addr → Prop) : List (Key × V) → List (Key × D) → Prop
  | nil : RepK K tk H av [] []
  | cons {k : Key} {v : V} {vs : List (Key × V)} {d : D} {ds : List (Key × D)} : Rep K tk H av v d → RepK K tk H av vs ds → RepK K tk H av ((k, v) :: vs) ((k, d) :: ds)
end
section
variable {K : PySem.W.Frag} {tk : Addr} {H H' : Hp} {av av' : Addr → Prop}
mutual
/-- carried to another heap and another set of addresses to be avoided -/
theorem Rep.carry (hT : ∀ a xs, SqT K H a xs → SqT K H' a xs) (hL : ∀ a xs, H a = some (.lst xs) → ¬ av a → H' a = some (.lst xs) ∧ ¬ av' a) (hD : ∀ a o, H a = some o → ¬ av a → H' a = some o ∧ ¬ av' a) : ∀ {v : V} {d : D}, Rep K tk H av v d → Rep K tk H' av' v d
  | _, _, .non => .non
  | _, _, .bl b => .bl b
  | _, _, .int i => .int i
  | _, _, .str x => .str x
  | _, _, .ty n => .ty n
  | _, _, .deck => .deck
  | _, _, .tup h r => .tup (hT _ _ h) (RepL.carry hT hL hD r)
  | _, _, .lst h n r => .lst (hL _ _ h n).1 (hL _ _ h n).2 (RepL.carry hT hL hD r)
  | _, _, .dic h n r => .dic (hD _ _ h n).1 (hD _ _ h n).2 (RepK.carry hT hL hD r)
  | _, _, .dit h n l r => .dit (hD _ _ h n).1 (hD _ _ h n).2 l (RepL.carry hT hL hD r)
  | _, _, .rng h n => .rng (hD _ _ h n).1 (hD _ _ h n).2
theorem RepL.carry (hT : ∀ a xs, SqT K H a xs → SqT K H' a xs) (hL : ∀ a xs, H a = some (.lst xs) → ¬ av a → H' a = some (.lst xs) ∧ ¬ av' a) (hD : ∀ a o, H a = some o → ¬ av a → H' a = some o ∧ ¬ av' a) : ∀ {vs : List V} {ds : List D}, RepL K tk H av vs ds → RepL K tk H' av' vs ds
  | _, _, .nil => .nil
  | _, _, .cons h r => .cons (Rep.carry hT hL hD h) (RepL.carry hT hL hD r)
theorem RepK.carry (hT : ∀ a xs, SqT K H a xs → SqT K H' a xs) (hL : ∀ a xs, H a = some (.lst xs) → ¬ av a → H' a = some (.lst xs) ∧ ¬ av' a) (hD : ∀ a o, H a = some o → ¬ av a → H' a = some o ∧ ¬ av' a) : ∀ {vs : List (Key × V)} {ds : List (Key × D)}, RepK K tk H av vs ds → RepK K tk H' av' vs ds
  | _, _, .nil => .nil
  | _, _, .cons h r => .cons (Rep.carry hT hL hD h) (RepK.carry hT hL hD r)
end
mutual
/-- list-free data touch no avoided address -/
theorem Rep.free : ∀ {v : V} {d : D}, Rep K tk H av v d → noL d = true → Rep K tk H av' v d
  | _, _, .non, _ => .non
  | _, _, .bl b, _ => .bl b
  | _, _, .int i, _ => .int i
  | _, _, .str x, _ => .str x
  | _, _, .ty n, _ => .ty n
  | _, _, .deck, _ => .deck
  | _, _, .tup h r, e => .tup h (RepL.free r (by simpa [noL] using e))
  | _, _, .lst _ _ _, e => by simp [noL] at e
  | _, _, .dic _ _ _, e => by simp [noL] at e
  | _, _, .dit _ _ _ _, e => by simp [noL] at e
  | _, _, .rng _ _, e => by simp [noL] at e
theorem RepL.free : ∀ {vs : List V} {ds : List D}, RepL K tk H av vs ds → noLs ds = true → RepL K tk H av' vs ds
  | _, _, .nil, _ => .nil
  | _, _, .cons h r, e => by
    simp only [noLs, Bool.and_eq_true] at e
    exact .cons (Rep.free h e.1) (RepL.free r e.2)
end
theorem RepK.free : ∀ {vs : List (Key × V)} {ds : List (Key × D)}, RepK K tk H av vs ds → (ds.all fun kv => noL kv.2) = true → RepK K tk H av' vs ds
  | _, _, .nil, _ => .nil
  | _, _, .cons h r, e => by
    simp only [List.all_cons, Bool.and_eq_true] at e
    exact .cons (Rep.free h e.1) (RepK.free r e.2)
/-- an object and what it is -/
def RepO (K : PySem.W.Frag) (tk : Addr) (H : Hp) (av : Addr → Prop) (o : HO) : D → Prop
  | .lst ds => ∃ xs, o = .lst xs ∧ RepL K tk H av xs ds
  | .dic kds => ∃ kvs, o = .dK kvs ∧ RepK K tk H av kvs kds
  | .dit ks ds => ∃ vs, o = .dT (ks.zip vs) ∧ ks.length = vs.length ∧ RepL K tk H av vs ds
  | _ => False
def boxD : D → Bool
  | .lst _ => true
  | .dic _ => true
  | .dit _ _ => true
  | _ => false
/-- a container of data without lists -/
def noLb : D → Bool
  | .lst ds => noLs ds
  | .dic kds => kds.all fun kv => noL kv.2
  | .dit _ ds => noLs ds
  | _ => false
theorem RepO.free {o : HO} {d : D} (h : RepO K tk H av o d) (e : noLb d = true) : RepO K tk H av' o d := by
  cases d with
  | lst ds => obtain ⟨xs, e1, r⟩ := h; exact ⟨xs, e1, r.free e⟩
  | dic kds => obtain ⟨kvs, e1, r⟩ := h; exact ⟨kvs, e1, r.free e⟩
  | dit ks ds => obtain ⟨vs, e1, e2, r⟩ := h; exact ⟨vs, e1, e2, r.free e⟩
  | _ => exact h.elim
theorem RepO.rep {o : HO} {d : D} {a : Addr} (h : RepO K tk H av o d) (e : H a = some o) (n : ¬ av a) : Rep K tk H av (.ref a) d := by
  cases d with
  | lst ds => obtain ⟨xs, rfl, r⟩ := h; exact .lst e n r
  | dic kds => obtain ⟨kvs, rfl, r⟩ := h; exact .dic e n r
  | dit ks ds => obtain ⟨vs, rfl, e2, r⟩ := h; exact .dit e n e2 r
  | _ => exact h.elim
theorem RepO.mut {o : HO} {d : D} (h : RepO K tk H av o d) : Mut (some o) := by
  cases d with
  | lst ds => obtain ⟨xs, rfl, r⟩ := h; trivial
  | dic kds => obtain ⟨kvs, rfl, r⟩ := h; trivial
  | dit ks ds => obtain ⟨vs, rfl, e2, r⟩ := h; trivial
  | _ => exact h.elim
theorem RepO.box {o : HO} {d : D} (h : RepO K tk H av o d) : boxD d = true := by
  cases d with
  | lst ds => rfl
  | dic kds => rfl
  | dit ks ds => rfl
  | _ => exact h.elim
theorem RepL.length : ∀ {vs : List V} {ds : List D}, RepL K tk H av vs ds → vs.length = ds.length
  | _, _, .nil => rfl
  | _, _, .cons _ r => by simp [RepL.length r]
theorem RepL.append : ∀ {vs ws : List V} {ds es : List D}, RepL K tk H av vs ds → RepL K tk H av ws es → RepL K tk H av (vs ++ ws) (ds ++ es)
  | _, _, _, _, .nil, s => s
  | _, _, _, _, .cons h r, s => .cons h (RepL.append r s)
theorem RepL.get : ∀ {vs : List V} {ds : List D} {i : Nat} {d : D}, RepL K tk H av vs ds → ds[i]? = some d → ∃ v, vs[i]? = some v ∧ Rep K tk H av v d
  | _, _, _, _, .nil, e => by simp at e
  | _, _, 0, _, .cons h _, e => by simp at e; subst e; exact ⟨_, rfl, h⟩
  | _, _, i + 1, d, .cons _ r, e => by
    obtain ⟨v, h1, h2⟩ := RepL.get (i := i) (d := d) r (by simpa using e)
    exact ⟨v, by simpa using h1, h2⟩
theorem RepL.get' : ∀ {vs : List V} {ds : List D} {i : Nat} {v : V}, RepL K tk H av vs ds → vs[i]? = some v → ∃ d, ds[i]? = some d ∧ Rep K tk H av v d
  | _, _, _, _, .nil, e => by simp at e
  | _, _, 0, _, .cons h _, e => by simp at e; subst e; exact ⟨_, rfl, h⟩
  | _, _, i + 1, d, .cons _ r, e => by
    obtain ⟨v, h1, h2⟩ := RepL.get' (i := i) r (by simpa using e)
    exact ⟨v, by simpa using h1, h2⟩
theorem RepL.set : ∀ {vs : List V} {ds : List D} {v : V} {d : D} (i : Nat), RepL K tk H av vs ds → Rep K tk H av v d → RepL K tk H av (vs.set i v) (ds.set i d)
  | _, _, _, _, _, .nil, _ => .nil
  | _, _, _, _, 0, .cons _ r, h => .cons h r
  | _, _, _, _, i + 1, .cons q r, h => .cons q (RepL.set i r h)
theorem RepL.take : ∀ {vs : List V} {ds : List D} (n : Nat), RepL K tk H av vs ds → RepL K tk H av (vs.take n) (ds.take n)
  | _, _, 0, _ => .nil
  | _, _, _ + 1, .nil => .nil
  | _, _, n + 1, .cons h r => .cons h (RepL.take n r)
theorem RepL.drop : ∀ {vs : List V} {ds : List D} (n : Nat), RepL K tk H av vs ds → RepL K tk H av (vs.drop n) (ds.drop n)
  | _, _, 0, r => r
  | _, _, _ + 1, .nil => .nil
  | _, _, n + 1, .cons _ r => RepL.drop n r
theorem RepL.erase : ∀ {vs : List V} {ds : List D} (i : Nat), RepL K tk H av vs ds → RepL K tk H av (vs.eraseIdx i) (ds.eraseIdx i)
  | _, _, _, .nil => .nil
  | _, _, 0, .cons _ r => r
  | _, _, i + 1, .cons h r => .cons h (RepL.erase i r)
theorem RepL.dropLast {vs : List V} {ds : List D} (h : RepL K tk H av vs ds) : RepL K tk H av vs.dropLast ds.dropLast := by
  rw [List.dropLast_eq_take, List.dropLast_eq_take, h.length]
  exact h.take _
theorem RepL.reverse : ∀ {vs : List V} {ds : List D}, RepL K tk H av vs ds → RepL K tk H av vs.reverse ds.reverse
  | _, _, .nil => .nil
  | _, _, .cons h r => by
    rw [List.reverse_cons, List.reverse_cons]
    exact (RepL.reverse r).append (.cons h .nil)
theorem RepL.mem {vs : List V} {ds : List D} (h : RepL K tk H av vs ds) {v : V} (hv : v ∈ vs) : ∃ d ∈ ds, Rep K tk H av v d := by
  obtain ⟨i, hi⟩ := List.getElem?_of_mem hv
  obtain ⟨d, e, r⟩ := h.get' hi
  exact ⟨d, List.mem_of_getElem? e, r⟩
theorem Rd.there {a : Addr} {u : HO} (h : Rd H a u) : H a ≠ none := by
  rcases h with h | ⟨o, h⟩ <;> rw [h] <;> simp
theorem Rep.mono (m : ∀ a, av' a → av a) {v : V} {d : D} (h : Rep K tk H av v d) : Rep K tk H av' v d := h.carry (fun _ _ z => z) (fun a _ z n => ⟨z, fun q => n (m a q)⟩) fun a _ z n => ⟨z, fun q => n (m a q)⟩
theorem RepK.mono (m : ∀ a, av' a → av a) {v : List (Key × V)} {d : List (Key × D)} (h : RepK K tk H av v d) : RepK K tk H av' v d := h.carry (fun _ _ z => z) (fun a _ z n => ⟨z, fun q => n (m a q)⟩) fun a _ z n => ⟨z, fun q => n (m a q)⟩
theorem RepL.mono (m : ∀ a, av' a → av a) {v : List V} {d : List D} (h : RepL K tk H av v d) : RepL K tk H av' v d := h.carry (fun _ _ z => z) (fun a _ z n => ⟨z, fun q => n (m a q)⟩) fun a _ z n => ⟨z, fun q => n (m a q)⟩
theorem RepO.mono (m : ∀ a, av' a → av a) {o : HO} {d : D} (h : RepO K tk H av o d) : RepO K tk H av' o d := by
  cases d with
  | lst ds => obtain ⟨xs, e1, r⟩ := h; exact ⟨xs, e1, r.mono m⟩
  | dic kds => obtain ⟨kvs, e1, r⟩ := h; exact ⟨kvs, e1, r.mono m⟩
  | dit ks ds => obtain ⟨vs, e1, e2, r⟩ := h; exact ⟨vs, e1, e2, r.mono m⟩
  | _ => exact h.elim
/-- only addresses that are tracked matter among the avoided ones -/
theorem Rep.mono' (m : ∀ a, H a ≠ none → av' a → av a) {v : V} {d : D} (h : Rep K tk H av v d) : Rep K tk H av' v d := h.carry (fun _ _ z => z) (fun a _ z n => ⟨z, fun q => n (m a (by rw [z]; simp) q)⟩) fun a _ z n => ⟨z, fun q => n (m a (by rw [z]; simp) q)⟩
theorem RepL.mono' (m : ∀ a, H a ≠ none → av' a → av a) {v : List V} {d : List D} (h : RepL K tk H av v d) : RepL K tk H av' v d := h.carry (fun _ _ z => z) (fun a _ z n => ⟨z, fun q => n (m a (by rw [z]; simp) q)⟩) fun a _ z n => ⟨z, fun q => n (m a (by rw [z]; simp) q)⟩
/-- heaps that agree on what is tracked and not written -/
theorem Rep.kept {wr : Addr → Prop} (k : ∀ a o, H a = some o → ¬ wr a → H' a = some o) (hw : ∀ a, wr a → av a) (hm : ∀ a, wr a → ∃ o, H a = some o ∧ Mut (some o)) {v : V} {d : D} (h : Rep K tk H av v d) : Rep K tk H' av v d := by
  refine h.carry (fun a xs z => ?_) (fun a xs z n => ?_) fun a kvs z n => ⟨k _ _ z fun q => n (hw a q), n⟩
  · rcases z with z | z
    · have nw : ¬ wr a := fun q => by
        obtain ⟨o, e, m⟩ := hm a q
        rcases z with z | ⟨ob, z⟩ <;> (have z := z; simp only [e] at z; cases z; exact m)
      rcases z with z | ⟨o, z⟩
      · exact .inl (.inl (k _ _ z nw))
      · exact .inl (.inr ⟨o, k _ _ z nw⟩)
    · exact .inr z
  · exact ⟨k _ _ z fun q => n (hw a q), n⟩
theorem RepL.kept {wr : Addr → Prop} (k : ∀ a o, H a = some o → ¬ wr a → H' a = some o) (hw : ∀ a, wr a → av a) (hm : ∀ a, wr a → ∃ o, H a = some o ∧ Mut (some o)) : ∀ {vs : List V} {ds : List D}, RepL K tk H av vs ds → RepL K tk H' av vs ds
  | _, _, .nil => .nil
  | _, _, .cons h r => .cons (h.kept k hw hm) (RepL.kept k hw hm r)
theorem RepK.kept {wr : Addr → Prop} (k : ∀ a o, H a = some o → ¬ wr a → H' a = some o) (hw : ∀ a, wr a → av a) (hm : ∀ a, wr a → ∃ o, H a = some o ∧ Mut (some o)) : ∀ {vs : List (Key × V)} {ds : List (Key × D)}, RepK K tk H av vs ds → RepK K tk H' av vs ds
  | _, _, .nil => .nil
  | _, _, .cons h r => .cons (h.kept k hw hm) (RepK.kept k hw hm r)
theorem RepO.kept {wr : Addr → Prop} (k : ∀ a o, H a = some o → ¬ wr a → H' a = some o) (hw : ∀ a, wr a → av a) (hm : ∀ a, wr a → ∃ o, H a = some o ∧ Mut (some o)) {o : HO} {d : D} (h : RepO K tk H av o d) : RepO K tk H' av o d := by
  cases d with
  | lst ds => obtain ⟨xs, e1, r⟩ := h; exact ⟨xs, e1, r.kept k hw hm⟩
  | dic kds => obtain ⟨kvs, e1, r⟩ := h; exact ⟨kvs, e1, r.kept k hw hm⟩
  | dit ks ds => obtain ⟨vs, e1, e2, r⟩ := h; exact ⟨vs, e1, e2, r.kept k hw hm⟩
  | _ => exact h.elim
theorem RepO.same (k : Same H H') {o : HO} {d : D} (h : RepO K tk H av o d) : RepO K tk H' av o d := h.kept (wr := fun _ => False) (fun a o e _ => k a o e) (fun _ z => z.elim) fun _ z => z.elim
theorem Rep.same (k : Same H H') {v : V} {d : D} (h : Rep K tk H av v d) : Rep K tk H' av v d := h.kept (wr := fun _ => False) (fun a o e _ => k a o e) (fun _ z => z.elim) fun _ z => z.elim
theorem RepL.same (k : Same H H') {v : List V} {d : List D} (h : RepL K tk H av v d) : RepL K tk H' av v d := h.kept (wr := fun _ => False) (fun a o e _ => k a o e) (fun _ z => z.elim) fun _ z => z.elim
end
theorem same_upd {H : Hp} {p : Addr} {o : HO} (h : H p = none) : Same H (upd H p o) := fun b x e => by
  rw [upd_ne (ne_of_none e h)]
  exact e
/-- the world beside the frames: a state, the addresses that bear it, the token's address -/
structure Wd (S : Type) where
  rel : S → Hp → Prop
  own : Addr → Prop
  tok : Addr
  has : ∀ {s H a}, rel s H → own a → ∃ o, H a = some o ∧ Mut (some o)
  stay : ∀ {s H H'}, rel s H → (∀ a o, own a → H a = some o → H' a = some o) → rel s H'
def lockA (σ : L2.St) (ρ : En) (a : Addr) : Prop := ∃ (i : Nat) (t : Bool) (ds : D), ρ[i]? = some (.ownD t ds) ∧ σ[i]? = some (some (.ref a))
def ownA (σ : L2.St) (ρ : En) (a : Addr) : Prop := ∃ (i : Nat) (ds : D), ρ[i]? = some (.ownD false ds) ∧ σ[i]? = some (some (.ref a))
/-- a value that waits, what it is, the lists of this frame that it may be -/
structure Pd where
  v : V
  d : D
  ex : Addr → Prop
structure Fx (S : Type) where
  K : PySem.W.Frag
  W : Wd S
  H0 : Hp
  O : Addr → Prop
section
variable {S : Type}
abbrev Acc := List (Addr × D)
def avL (R : Fx S) (A : Acc) (σ : L2.St) (ρ : En) (a : Addr) : Prop := R.O a ∨ R.W.own a ∨ lockA σ ρ a ∨ a ∈ A.map (·.1)
def avO (R : Fx S) (A : Acc) (σ : L2.St) (ρ : En) (a : Addr) : Prop := R.O a ∨ R.W.own a ∨ ownA σ ρ a ∨ a ∈ A.map (·.1)
structure Rel (R : Fx S) (A : Acc) (P : List Pd) (σ : L2.St) (H : Hp) (ρ : En) (s : S) : Prop where
  len : ρ.length = σ.length
  wd : R.W.rel s H
  ent : ∀ a o, R.H0 a = some o → ¬ R.W.own a → H a = some o
  out : ∀ a, R.O a → R.H0 a ≠ none
  wout : ∀ a, R.W.own a → R.H0 a ≠ none
  val : ∀ (i : Nat) (d : D), ρ[i]? = some (.val d) → ∃ v, σ[i]? = some (some v) ∧ Rep R.K R.W.tok H (avL R A σ ρ) v d
  lst : ∀ (i : Nat) (t : Bool) (ds : D), ρ[i]? = some (.ownD t ds) → ∃ a o, σ[i]? = some (some (.ref a)) ∧ H a = some o ∧ RepO R.K R.W.tok H (avL R A σ ρ) o ds ∧ R.H0 a = none
  acc : ∀ a ds, (a, ds) ∈ A → ∃ o, H a = some o ∧ RepO R.K R.W.tok H (avL R A σ ρ) o ds ∧ R.H0 a = none
  inj : ∀ (i j : Nat) (t u : Bool) (ds es : D) (a : Addr), ρ[i]? = some (.ownD t ds) → ρ[j]? = some (.ownD u es) → σ[i]? = some (some (.ref a)) → σ[j]? = some (some (.ref a)) → i = j
  injA : ∀ a, lockA σ ρ a → a ∉ A.map (·.1)
  ndA : (A.map (·.1)).Nodup
  pen : ∀ p ∈ P, Rep R.K R.W.tok H (fun a => avL R A σ ρ a ∧ ¬ p.ex a) p.v p.d
  pex : ∀ p ∈ P, ∀ a, avO R A σ ρ a → ¬ p.ex a
  pet : ∀ p ∈ P, ∀ a, p.ex a → H a ≠ none
variable {R : Fx S} {A : Acc} {P : List Pd} {σ : L2.St} {H H' : Hp} {ρ : En} {s s' : S}
theorem own_lock {a : Addr} (h : ownA σ ρ a) : lockA σ ρ a := let ⟨i, ds, h1, h2⟩ := h; ⟨i, false, ds, h1, h2⟩
theorem avO_avL {a : Addr} (h : avO R A σ ρ a) : avL R A σ ρ a := by
  rcases h with h | h | h | h
  · exact .inl h
  · exact .inr (.inl h)
  · exact .inr (.inr (.inl (own_lock h)))
  · exact .inr (.inr (.inr h))
theorem Rel.lockT (r : Rel R A P σ H ρ s) {a : Addr} (h : lockA σ ρ a) : (∃ o, H a = some o ∧ Mut (some o)) ∧ R.H0 a = none := by
  obtain ⟨i, t, ds, h1, h2⟩ := h
  obtain ⟨b, o, e, hH, ro, h0⟩ := r.lst i t ds h1
  rw [h2] at e; cases e
  exact ⟨⟨o, hH, ro.mut⟩, h0⟩
theorem Rel.lstL (r : Rel R A P σ H ρ s) (i : Nat) (t : Bool) (ds : List D) (e : ρ[i]? = some (.own t ds)) : ∃ a xs, σ[i]? = some (some (.ref a)) ∧ H a = some (.lst xs) ∧ RepL R.K R.W.tok H (avL R A σ ρ) xs ds ∧ R.H0 a = none := by
  obtain ⟨a, o, h1, h2, ⟨xs, rfl, h3⟩, h4⟩ := r.lst i t _ e
  exact ⟨a, xs, h1, h2, h3, h4⟩
theorem Rel.accT (r : Rel R A P σ H ρ s) {a : Addr} (h : a ∈ A.map (·.1)) : (∃ o, H a = some o ∧ Mut (some o)) ∧ R.H0 a = none := by
  obtain ⟨⟨b, ds⟩, hm, rfl⟩ := List.mem_map.mp h
  obtain ⟨o, h1, ro, h2⟩ := r.acc b ds hm
  exact ⟨⟨o, h1, ro.mut⟩, h2⟩
theorem Rel.outT (r : Rel R A P σ H ρ s) {a : Addr} (h : R.O a) : H a ≠ none := by
  by_cases hw : R.W.own a
  · obtain ⟨o, e, _⟩ := R.W.has r.wd hw
    rw [e]; simp
  · cases e : R.H0 a with
    | none => exact absurd e (r.out a h)
    | some o => rw [r.ent a o e hw]; simp
/-- avoided addresses are tracked -/
theorem Rel.avT (r : Rel R A P σ H ρ s) {a : Addr} (h : avL R A σ ρ a) : H a ≠ none := by
  rcases h with h | h | h | h
  · exact r.outT h
  · obtain ⟨o, e, _⟩ := R.W.has r.wd h
    rw [e]; simp
  · obtain ⟨⟨xs, e, _⟩, _⟩ := r.lockT h
    rw [e]; simp
  · obtain ⟨⟨xs, e, _⟩, _⟩ := r.accT h
    rw [e]; simp
/-- the frame is kept where all but the world is -/
theorem Rel.kept (r : Rel R A P σ H ρ s) (k : ∀ a o, H a = some o → ¬ R.W.own a → H' a = some o) (w : R.W.rel s' H') : Rel R A P σ H' ρ s' := by
  have hm : ∀ a, R.W.own a → ∃ o, H a = some o ∧ Mut (some o) := fun a h => R.W.has r.wd h
  have hw : ∀ a, R.W.own a → avL R A σ ρ a := fun a h => .inr (.inl h)
  have nl : ∀ a, R.H0 a = none → ¬ R.W.own a := fun a h q => r.wout a q h
  refine ⟨r.len, w, fun a o e n => k a o (r.ent a o e n) n, r.out, r.wout, fun i d e => ?_, fun i t ds e => ?_, fun a ds e => ?_, r.inj, r.injA, r.ndA, fun p hp => ?_, r.pex, fun p hp a e => ?_⟩
  · obtain ⟨v, h1, h2⟩ := r.val i d e
    exact ⟨v, h1, h2.kept k hw hm⟩
  · obtain ⟨a, xs, h1, h2, h3, h4⟩ := r.lst i t ds e
    exact ⟨a, xs, h1, k _ _ h2 (nl a h4), h3.kept k hw hm, h4⟩
  · obtain ⟨xs, h2, h3, h4⟩ := r.acc a ds e
    exact ⟨xs, k _ _ h2 (nl a h4), h3.kept k hw hm, h4⟩
  · exact (r.pen p hp).kept k (fun a h => ⟨hw a h, r.pex p hp a (.inr (.inl h))⟩) hm
  · have q := r.pet p hp a e
    by_cases hw' : R.W.own a
    · obtain ⟨o, e', _⟩ := R.W.has w hw'
      rw [e']; simp
    · cases z : H a with
      | none => exact absurd z q
      | some o => rw [k a o z hw']; simp
theorem Rel.same (r : Rel R A P σ H ρ s) (k : Same H H') : Rel R A P σ H' ρ s := r.kept (fun a o e _ => k a o e) (R.W.stay r.wd fun a o _ e => k a o e)
theorem Rel.tail {p : Pd} (r : Rel R A (p :: P) σ H ρ s) : Rel R A P σ H ρ s :=
  ⟨r.len, r.wd, r.ent, r.out, r.wout, r.val, r.lst, r.acc, r.inj, r.injA, r.ndA, fun q hq => r.pen q (List.mem_cons_of_mem _ hq), fun q hq => r.pex q (List.mem_cons_of_mem _ hq), fun q hq => r.pet q (List.mem_cons_of_mem _ hq)⟩
theorem Rel.push {p : Pd} (r : Rel R A P σ H ρ s) (h : Rep R.K R.W.tok H (fun a => avL R A σ ρ a ∧ ¬ p.ex a) p.v p.d) (hx : ∀ a, avO R A σ ρ a → ¬ p.ex a) (ht : ∀ a, p.ex a → H a ≠ none) : Rel R A (p :: P) σ H ρ s :=
  ⟨r.len, r.wd, r.ent, r.out, r.wout, r.val, r.lst, r.acc, r.inj, r.injA, r.ndA, fun q hq => by
    rcases List.mem_cons.mp hq with rfl | hq
    · exact h
    · exact r.pen q hq, fun q hq => by
    rcases List.mem_cons.mp hq with rfl | hq
    · exact hx
    · exact r.pex q hq, fun q hq => by
    rcases List.mem_cons.mp hq with rfl | hq
    · exact ht
    · exact r.pet q hq⟩
theorem Rel.head {p : Pd} (r : Rel R A (p :: P) σ H ρ s) : Rep R.K R.W.tok H (fun a => avL R A σ ρ a ∧ ¬ p.ex a) p.v p.d := r.pen p List.mem_cons_self
theorem Rel.hex {p : Pd} (r : Rel R A (p :: P) σ H ρ s) : ∀ a, avO R A σ ρ a → ¬ p.ex a := r.pex p List.mem_cons_self
/-- a value that waits, over what all avoid that is not lent -/
theorem Rel.headO {p : Pd} (r : Rel R A (p :: P) σ H ρ s) : Rep R.K R.W.tok H (avO R A σ ρ) p.v p.d := r.head.mono fun a h => ⟨avO_avL h, r.hex a h⟩
end
end L3
end
section
set_option Elab.async false
set_option linter.all false
set_option maxRecDepth 100000
set_option autoImplicit false
/-! L3c: expressions over pure data (own work). -/
namespace L3
open PySem PySem.Spec PyProof.Rows L2
abbrev Ev (S : Type) := En → S → Option (D × En × S)
abbrev EvL (S : Type) := En → S → Option (List D × En × S)
abbrev EvB (S : Type) := En → S → Option (Bool × En × S)
def noEx : Addr → Prop := fun _ => False
section
variable {S : Type} {R : Fx S} {A : Acc} {P : List Pd} {σ : L2.St} {H H' : Hp} {ρ ρ' : En} {s s' : S}
/-! ### the frame's relation under the steps of evaluation -/
theorem lockA_iff {ρ ρ' : En} (h : ∀ (i : Nat), (∃ t ds, ρ[i]? = some (.ownD t ds)) ↔ ∃ t ds, ρ'[i]? = some (.ownD t ds)) (a : Addr) : lockA σ ρ a ↔ lockA σ ρ' a := by
  constructor
  · rintro ⟨i, t, ds, h1, h2⟩
    obtain ⟨t', ds', e⟩ := (h i).mp ⟨t, ds, h1⟩
    exact ⟨i, t', ds', e, h2⟩
  · rintro ⟨i, t, ds, h1, h2⟩
    obtain ⟨t', ds', e⟩ := (h i).mpr ⟨t, ds, h1⟩
    exact ⟨i, t', ds', e, h2⟩
theorem avL_congr {ρ ρ' : En} (h : ∀ a, lockA σ ρ a ↔ lockA σ ρ' a) (a : Addr) : avL R A σ ρ a ↔ avL R A σ ρ' a := by
  unfold avL; rw [h a]
/-- the marks of the own lists changed alone -/
theorem Rel.marks {P' : List Pd} (r : Rel R A P σ H ρ s) (hl : ρ'.length = ρ.length)
    (hv : ∀ (i : Nat) d, ρ'[i]? = some (.val d) → ρ[i]? = some (.val d)) (ho : ∀ (i : Nat) t ds, ρ'[i]? = some (.ownD t ds) → ∃ t', ρ[i]? = some (.ownD t' ds))
    (hb : ∀ (i : Nat) t ds, ρ[i]? = some (.ownD t ds) → ∃ t', ρ'[i]? = some (.ownD t' ds))
    (hpen : ∀ p ∈ P', Rep R.K R.W.tok H (fun a => avL R A σ ρ a ∧ ¬ p.ex a) p.v p.d) (hpex : ∀ p ∈ P', ∀ a, avO R A σ ρ' a → ¬ p.ex a) (hpet : ∀ p ∈ P', ∀ a, p.ex a → H a ≠ none) : Rel R A P' σ H ρ' s := by
  have lk : ∀ a, lockA σ ρ a ↔ lockA σ ρ' a := lockA_iff fun i => ⟨fun ⟨t, ds, e⟩ => let ⟨t', e'⟩ := hb i t ds e; ⟨t', ds, e'⟩, fun ⟨t, ds, e⟩ => let ⟨t', e'⟩ := ho i t ds e; ⟨t', ds, e'⟩⟩
  have av : ∀ a, avL R A σ ρ' a → avL R A σ ρ a := fun a => (avL_congr lk a).mpr
  refine ⟨hl.trans r.len, r.wd, r.ent, r.out, r.wout, fun i d e => ?_, fun i t ds e => ?_, fun a ds e => ?_, fun i j t u ds es a e1 e2 e3 e4 => ?_, fun a h => r.injA a ((lk a).mpr h), r.ndA, fun p hp => (hpen p hp).mono fun a h => ⟨av a h.1, h.2⟩, hpex, hpet⟩
  · obtain ⟨v, h1, h2⟩ := r.val i d (hv i d e)
    exact ⟨v, h1, h2.mono av⟩
  · obtain ⟨t', e'⟩ := ho i t ds e
    obtain ⟨a, xs, h1, h2, h3, h4⟩ := r.lst i t' ds e'
    exact ⟨a, xs, h1, h2, h3.mono av, h4⟩
  · obtain ⟨xs, h1, h2, h3⟩ := r.acc a ds e
    exact ⟨xs, h1, h2.mono av, h3⟩
  · obtain ⟨t', e1'⟩ := ho i t ds e1
    obtain ⟨u', e2'⟩ := ho j u es e2
    exact r.inj i j _ _ _ _ a e1' e2' e3 e4
/-- a list-free value has come: what was the frame's own ahead of it is so again -/
theorem Rel.thaw {v : V} {d : D} {ex : Addr → Prop} (r0 : ∀ p ∈ P, ∀ a, avO R A σ ρ a → ¬ p.ex a) (r : Rel R A (⟨v, d, ex⟩ :: P) σ H ρ' s) (hd : noL d = true) : Rel R A (⟨v, d, noEx⟩ :: P) σ H (thaw ρ ρ') s := by
  refine r.marks (thaw_length _ _) (fun i d e => ?_) (fun i t ds e => ?_) (fun i t ds e => ?_) (fun p hp => ?_) (fun p hp a ha => ?_) fun p hp a ha => ?_
  · rw [thaw_get] at e
    cases h : ρ'[i]? with
    | none => rw [h] at e; simp at e
    | some y =>
      rw [h] at e
      simp only [Option.map_some, Option.some.injEq] at e
      split at e
      · cases e
      · rw [e]
  · rw [thaw_get] at e
    cases h : ρ'[i]? with
    | none => rw [h] at e; simp at e
    | some y =>
      rw [h] at e
      simp only [Option.map_some, Option.some.injEq] at e
      split at e
      · rename_i t' ds' _
        cases e
        exact ⟨_, rfl⟩
      · exact ⟨t, by rw [e]⟩
  · rw [thaw_get, e]
    simp only [Option.map_some, Option.some.injEq]
    split
    · rename_i t' ds' q1 q2
      cases q2
      exact ⟨_, rfl⟩
    · exact ⟨_, rfl⟩
  · rcases List.mem_cons.mp hp with rfl | hp
    · exact (r.head.free hd)
    · exact r.tail.pen p hp
  · rcases List.mem_cons.mp hp with rfl | hp
    · exact fun z => z
    · rcases ha with ha | ha | ha | ha
      · exact r.tail.pex p hp a (.inl ha)
      · exact r.tail.pex p hp a (.inr (.inl ha))
      · obtain ⟨i, ds, h1, h2⟩ := ha
        rw [thaw_get] at h1
        cases h : ρ'[i]? with
        | none => rw [h] at h1; simp at h1
        | some y =>
          rw [h] at h1
          simp only [Option.map_some, Option.some.injEq] at h1
          split at h1
          · exact r0 p hp a (.inr (.inr (.inl ⟨i, _, by assumption, h2⟩)))
          · subst h1
            exact r.tail.pex p hp a (.inr (.inr (.inl ⟨i, ds, h, h2⟩)))
      · exact r.tail.pex p hp a (.inr (.inr (.inr ha)))
  · rcases List.mem_cons.mp hp with rfl | hp
    · exact ha.elim
    · exact r.tail.pet p hp a ha
/-- an own list is read -/
theorem Rel.lend {i : Nat} {t : Bool} {ds : D} (r : Rel R A P σ H ρ s) (hi : ρ[i]? = some (.ownD t ds)) :
    ∃ a, σ[i]? = some (some (.ref a)) ∧ Rel R A (⟨.ref a, ds, fun b => b = a⟩ :: P) σ H (ρ.set i (.ownD true ds)) s := by
  obtain ⟨a, xs, h1, h2, h3, h4⟩ := r.lst i t ds hi
  have hlt : i < ρ.length := (List.getElem?_eq_some_iff.mp hi).1
  refine ⟨a, h1, ?_⟩
  have own' : ∀ b, avO R A σ (ρ.set i (.ownD true ds)) b → avO R A σ ρ b ∧ b ≠ a := fun b hb => by
    rcases hb with hb | hb | hb | hb
    · exact ⟨.inl hb, fun e => by subst e; exact r.out b hb h4⟩
    · exact ⟨.inr (.inl hb), fun e => by subst e; exact r.wout b hb h4⟩
    · obtain ⟨j, es, e1, e2⟩ := hb
      by_cases hj : i = j
      · subst hj
        rw [List.getElem?_set_self hlt] at e1
        cases e1
      · rw [List.getElem?_set_ne hj] at e1
        refine ⟨.inr (.inr (.inl ⟨j, es, e1, e2⟩)), fun e => ?_⟩
        subst e
        exact hj (r.inj i j _ _ _ _ b hi e1 h1 e2)
    · refine ⟨.inr (.inr (.inr hb)), fun e => ?_⟩
      subst e
      exact r.injA b ⟨i, t, ds, hi, h1⟩ hb
  refine r.marks (by simp) (fun j d e => ?_) (fun j u es e => ?_) (fun j u es e => ?_) (fun p hp => ?_) (fun p hp b hb => ?_) fun p hp b hb => ?_
  · by_cases hj : i = j
    · subst hj
      rw [List.getElem?_set_self hlt] at e
      cases e
    · rwa [List.getElem?_set_ne hj] at e
  · by_cases hj : i = j
    · subst hj
      rw [List.getElem?_set_self hlt] at e
      cases e
      exact ⟨t, hi⟩
    · rw [List.getElem?_set_ne hj] at e
      exact ⟨u, e⟩
  · by_cases hj : i = j
    · subst hj
      rw [hi] at e
      cases e
      exact ⟨true, by rw [List.getElem?_set_self hlt]⟩
    · exact ⟨u, by rw [List.getElem?_set_ne hj]; exact e⟩
  · rcases List.mem_cons.mp hp with rfl | hp
    · exact (h3.mono fun b hb => hb.1).rep h2 (fun z => z.2 rfl)
    · exact r.pen p hp
  · rcases List.mem_cons.mp hp with rfl | hp
    · exact (own' b hb).2
    · exact r.pex p hp b (own' b hb).1
  · rcases List.mem_cons.mp hp with rfl | hp
    · have e : b = a := hb
      rw [e, h2]; simp
    · exact r.pet p hp b hb
/-- a slot that is a value -/
theorem Rel.readV {i : Nat} {d : D} (r : Rel R A P σ H ρ s) (hi : ρ[i]? = some (.val d)) : ∃ v, σ[i]? = some (some v) ∧ Rel R A (⟨v, d, noEx⟩ :: P) σ H ρ s := by
  obtain ⟨v, h1, h2⟩ := r.val i d hi
  exact ⟨v, h1, r.push (h2.mono fun a h => h.1) (fun _ _ z => z) fun _ z => z.elim⟩
/-- an own list is written -/
theorem Rel.writeO {i : Nat} {ds ds' : D} {o' : HO} (r : Rel R A P σ H ρ s) (hi : ρ[i]? = some (.ownD false ds)) {a : Addr} (ha : σ[i]? = some (some (.ref a)))
    (hx : RepO R.K R.W.tok H (avL R A σ ρ) o' ds') : Rel R A P σ (upd H a o') (ρ.set i (.ownD false ds')) s := by
  obtain ⟨b, xs, h1, h2, h3, h4⟩ := r.lst i false ds hi
  rw [ha] at h1; cases h1
  have hlt : i < ρ.length := (List.getElem?_eq_some_iff.mp hi).1
  have k : ∀ b o, H b = some o → ¬ b = a → (upd H a o') b = some o := fun b o e n => by rw [upd_ne n]; exact e
  have hm : ∀ b, b = a → ∃ o, H b = some o ∧ Mut (some o) := fun b e => by subst e; exact ⟨_, h2, h3.mut⟩
  have hla : lockA σ ρ a := ⟨i, false, ds, hi, ha⟩
  have hw : ∀ b, b = a → avL R A σ ρ b := fun b e => by subst e; exact .inr (.inr (.inl hla))
  have own : ∀ (j : Nat) t es, (ρ.set i (.ownD false ds'))[j]? = some (.ownD t es) → (j = i ∧ t = false ∧ es = ds') ∨ (j ≠ i ∧ ρ[j]? = some (.ownD t es)) := fun j t es e => by
    by_cases hj : i = j
    · subst hj
      rw [List.getElem?_set_self hlt] at e
      cases e
      exact .inl ⟨rfl, rfl, rfl⟩
    · rw [List.getElem?_set_ne hj] at e
      exact .inr ⟨fun z => hj z.symm, e⟩
  have lk : ∀ b, lockA σ ρ b ↔ lockA σ (ρ.set i (.ownD false ds')) b := lockA_iff fun j => by
    by_cases hj : i = j
    · subst hj
      rw [List.getElem?_set_self hlt, hi]
      exact ⟨fun _ => ⟨_, _, rfl⟩, fun _ => ⟨_, _, rfl⟩⟩
    · rw [List.getElem?_set_ne hj]
  have av : ∀ b, avL R A σ (ρ.set i (.ownD false ds')) b → avL R A σ ρ b := fun b => (avL_congr lk b).mpr
  refine ⟨by rw [List.length_set]; exact r.len, R.W.stay r.wd fun b o hb e => ?_, fun b o e n => ?_, r.out, r.wout, fun j d e => ?_, fun j t es e => ?_, fun b es e => ?_, fun j1 j2 t u es1 es2 b e1 e2 e3 e4 => ?_, fun b hb => r.injA b ((lk b).mpr hb), r.ndA, fun p hp => ?_, fun p hp b hb => ?_, fun p hp b hb => ?_⟩
  · exact k b o e fun z => by subst z; exact r.wout b hb h4
  · exact k b o (r.ent b o e n) fun z => by subst z; rw [h4] at e; cases e
  · have hj : i ≠ j := fun z => by
      subst z
      rw [List.getElem?_set_self hlt] at e
      cases e
    rw [List.getElem?_set_ne hj] at e
    obtain ⟨v, q1, q2⟩ := r.val j d e
    exact ⟨v, q1, (q2.kept k hw hm).mono av⟩
  · rcases own j t es e with ⟨rfl, rfl, rfl⟩ | ⟨hj, e'⟩
    · exact ⟨a, o', ha, upd_same, (hx.kept k hw hm).mono av, h4⟩
    · obtain ⟨b, ys, q1, q2, q3, q4⟩ := r.lst j t es e'
      refine ⟨b, ys, q1, k b _ q2 fun z => ?_, (q3.kept k hw hm).mono av, q4⟩
      subst z
      exact hj (r.inj j i _ _ _ _ b e' hi q1 ha)
  · obtain ⟨ys, q1, q2, q3⟩ := r.acc b es e
    refine ⟨ys, k b _ q1 fun z => ?_, (q2.kept k hw hm).mono av, q3⟩
    subst z
    exact r.injA b hla (List.mem_map_of_mem e)
  · have o1 : ∃ t' es', ρ[j1]? = some (.ownD t' es') := by
      rcases own j1 t es1 e1 with ⟨rfl, _, _⟩ | ⟨_, e⟩
      · exact ⟨_, _, hi⟩
      · exact ⟨_, _, e⟩
    have o2 : ∃ t' es', ρ[j2]? = some (.ownD t' es') := by
      rcases own j2 u es2 e2 with ⟨rfl, _, _⟩ | ⟨_, e⟩
      · exact ⟨_, _, hi⟩
      · exact ⟨_, _, e⟩
    obtain ⟨_, _, o1⟩ := o1
    obtain ⟨_, _, o2⟩ := o2
    exact r.inj j1 j2 _ _ _ _ b o1 o2 e3 e4
  · have nx : ¬ p.ex a := r.pex p hp a (.inr (.inr (.inl ⟨i, ds, hi, ha⟩)))
    exact ((r.pen p hp).kept k (fun b e => by subst e; exact ⟨hw _ rfl, nx⟩) hm).mono fun b h => ⟨av b h.1, h.2⟩
  · refine r.pex p hp b ?_
    rcases hb with hb | hb | hb | hb
    · exact .inl hb
    · exact .inr (.inl hb)
    · obtain ⟨j, es, e1, e2⟩ := hb
      rcases own j _ es e1 with ⟨rfl, _, _⟩ | ⟨_, e⟩
      · exact .inr (.inr (.inl ⟨_, _, hi, e2⟩))
      · exact .inr (.inr (.inl ⟨_, _, e, e2⟩))
    · exact .inr (.inr (.inr hb))
  · by_cases hb' : b = a
    · subst hb'; rw [upd_same]; simp
    · rw [upd_ne hb']; exact r.pet p hp b hb
theorem Rel.write {i : Nat} {ds ds' : List D} {xs' : List V} (r : Rel R A P σ H ρ s) (hi : ρ[i]? = some (.own false ds)) {a : Addr} (ha : σ[i]? = some (some (.ref a)))
    (hx : RepL R.K R.W.tok H (avL R A σ ρ) xs' ds') : Rel R A P σ (upd H a (.lst xs')) (ρ.set i (.own false ds')) s := r.writeO hi ha ⟨xs', rfl, hx⟩
end
end L3
end
section
set_option Elab.async false
set_option linter.all false
set_option maxRecDepth 100000
set_option autoImplicit false
/-! L3d: expressions, tests, argument lists over pure data: how a reading follows (own work). -/
namespace L3
open PySem PySem.Spec PyProof.Rows L2
section
variable {S : Type}
def thawF (f : Ev S) : Ev S := fun ρ s => (f ρ s).map fun (d, ρ', s') => (d, if noL d then thaw ρ ρ' else ρ', s')
def FreshAt (R : Fx S) (A : Acc) (P : List Pd) (σ : L2.St) (H' : Hp) (ρ' : En) (s' : S) (v : V) (d : D) (ex : Addr → Prop) : Prop :=
  boxD d = true → ∃ (p : Addr) (o : HO) (H1 : Hp), v = .ref p ∧ H1 p = none ∧ H' = upd H1 p o ∧ Rel R A P σ H1 ρ' s' ∧ RepO R.K R.W.tok H1 (fun a => avL R A σ ρ' a ∧ ¬ ex a) o d ∧ (∀ a, avO R A σ ρ' a → ¬ ex a) ∧ ∀ a, ex a → H1 a ≠ none
/-- the reading of an expression that computes f -/
def SE (K : PySem.W.Frag) (W : Wd S) (fr : Bool) (f : Ev S) : TE := fun σ H Q => ∃ (H0 : Hp) (O : Addr → Prop) (A : Acc) (P : List Pd) (ρ : En) (s : S) (d : D) (ρ' : En) (s' : S),
  Rel ⟨K, W, H0, O⟩ A P σ H ρ s ∧ f ρ s = some (d, ρ', s') ∧
    ∀ (v : V) (H' : Hp) (ex : Addr → Prop), Rel ⟨K, W, H0, O⟩ A (⟨v, d, ex⟩ :: P) σ H' ρ' s' → (fr = true → FreshAt ⟨K, W, H0, O⟩ A P σ H' ρ' s' v d ex) → Q v H'
def SB (K : PySem.W.Frag) (W : Wd S) (f : EvB S) : TT := fun σ H Q => ∃ (H0 : Hp) (O : Addr → Prop) (A : Acc) (P : List Pd) (ρ : En) (s : S) (b : Bool) (ρ' : En) (s' : S),
  Rel ⟨K, W, H0, O⟩ A P σ H ρ s ∧ f ρ s = some (b, ρ', s') ∧ ∀ H', Rel ⟨K, W, H0, O⟩ A P σ H' ρ' s' → Q b H'
def SL (K : PySem.W.Frag) (W : Wd S) (f : EvL S) : TA := fun σ H Q => ∃ (H0 : Hp) (O : Addr → Prop) (A : Acc) (P : List Pd) (ρ : En) (s : S) (ds : List D) (ρ' : En) (s' : S),
  Rel ⟨K, W, H0, O⟩ A P σ H ρ s ∧ f ρ s = some (ds, ρ', s') ∧
    ∀ (vs : List V) (H' : Hp) (ex : Addr → Prop), Rel ⟨K, W, H0, O⟩ A P σ H' ρ' s' → RepL K W.tok H' (fun a => avL ⟨K, W, H0, O⟩ A σ ρ' a ∧ ¬ ex a) vs ds → (∀ a, avO ⟨K, W, H0, O⟩ A σ ρ' a → ¬ ex a) → (∀ a, ex a → H' a ≠ none) → Q vs H'
variable {X : Cx} {W : Wd S} {e a b : Expr} {es : List Expr} {pos : Pos}
theorem _root_.L2.PE.imp {t t' : TE} (h : PE X e t) (i : ∀ σ H Q, t' σ H Q → t σ H Q) : PE X e t' := ⟨fun pins s σ H Q I q => h.run pins s σ H Q I (i σ H Q q)⟩
theorem _root_.L2.PT.imp {t t' : TT} (h : PT X e t) (i : ∀ σ H Q, t' σ H Q → t σ H Q) : PT X e t' := ⟨fun pins s σ H Q I q => h.run pins s σ H Q I (i σ H Q q)⟩
theorem _root_.L2.PA.imp {t t' : TA} (h : PA X es t) (i : ∀ σ H Q, t' σ H Q → t σ H Q) : PA X es t' := ⟨fun pos pins s σ H Q I q => h.run pos pins s σ H Q I (i σ H Q q)⟩
theorem SE.mono {K : PySem.W.Frag} {f : Ev S} {σ : L2.St} {H : Hp} {Q : VK} {fr : Bool} (h : SE K W false f σ H Q) : SE K W fr f σ H Q := by
  obtain ⟨H0, O, A, P, ρ, s, d, ρ', s', r, e, q⟩ := h
  exact ⟨H0, O, A, P, ρ, s, d, ρ', s', r, e, fun v H' ex r' _ => q v H' ex r' fun z => Bool.noConfusion z⟩
theorem se_weak {f : Ev S} {fr : Bool} (h : PE X e (SE X.K W fr f)) : PE X e (SE X.K W false f) := h.imp fun σ H Q q => q.mono
theorem se_thaw {f : Ev S} {fr : Bool} (h : PE X e (SE X.K W fr f)) : PE X e (SE X.K W fr (thawF f)) := by
  refine h.imp fun σ H Q q => ?_
  obtain ⟨H0, O, A, P, ρ, s, d, ρ', s', r, e, q⟩ := q
  unfold thawF at e
  cases h : f ρ s with
  | none => rw [h] at e; simp at e
  | some z =>
    obtain ⟨d1, ρ1, s1⟩ := z
    rw [h] at e
    simp only [Option.map_some, Option.some.injEq, Prod.mk.injEq] at e
    obtain ⟨rfl, e2, rfl⟩ := e
    refine ⟨H0, O, A, P, ρ, s, d1, ρ1, s1, r, h, fun v H' ex r' hf => ?_⟩
    by_cases hd : noL d1 = true
    · rw [if_pos hd] at e2
      subst e2
      refine q v H' noEx (Rel.thaw r.pex r' hd) fun _ z => ?_
      cases d1 <;> simp [noL, boxD] at hd z
    · rw [if_neg hd] at e2
      subst e2
      exact q v H' ex r' hf
/-! ### by values -/
def FreshV (K : PySem.W.Frag) (tk : Addr) (H H' : Hp) (av : Addr → Prop) (v : V) (d : D) : Prop := boxD d = true → ∃ (p : Addr) (o : HO), v = .ref p ∧ H p = none ∧ H' = upd H p o ∧ RepO K tk H av o d
/-- what a by-value operation hands on -/
def VQ (K : PySem.W.Frag) (tk : Addr) (H : Hp) (av : Addr → Prop) (d : D) (Q : VK) : Prop := ∀ v H', Same H H' → Rep K tk H' av v d → FreshV K tk H H' av v d → Q v H'
def V2 (K : PySem.W.Frag) (tk : Addr) (r : R2) (f : D → D → Option D) : Prop := ∀ (H : Hp) (av : Addr → Prop) (x y : V) (dx dy d : D) (Q : VK), (∀ a, av a → H a ≠ none) → Rep K tk H av x dx → Rep K tk H av y dy → f dx dy = some d → VQ K tk H av d Q → r x y H Q
def VC (K : PySem.W.Frag) (tk : Addr) (r : List V → Hp → VK → Prop) (f : List D → Option D) : Prop := ∀ (H : Hp) (av : Addr → Prop) (xs : List V) (ds : List D) (d : D) (Q : VK), (∀ a, av a → H a ≠ none) → RepL K tk H av xs ds → f ds = some d → VQ K tk H av d Q → r xs H Q
theorem VQ.val {K : PySem.W.Frag} {tk : Addr} {H : Hp} {av : Addr → Prop} {d : D} {Q : VK} (h : VQ K tk H av d Q) {v : V} (r : Rep K tk H av v d) (n : ∀ ds, d ≠ .lst ds) (n2 : boxD d = false := by rfl) : Q v H := h v H (Same.refl H) r fun e => by rw [n2] at e; cases e
theorem VQ.tup {K : PySem.W.Frag} {tk : Addr} {H : Hp} {av : Addr → Prop} {ds : List D} {Q : VK} (h : VQ K tk H av (.tup ds) Q) {xs : List V} (r : RepL K tk H av xs ds) {p : Addr} (hp : H p = none) : Q (.ref p) (upd H p (.tup xs)) :=
  h _ _ (same_upd hp) (.tup (.inl (.inl upd_same)) (r.same (same_upd hp))) fun e => Bool.noConfusion e
theorem VQ.lst {K : PySem.W.Frag} {tk : Addr} {H : Hp} {av : Addr → Prop} {ds : List D} {Q : VK} (h : VQ K tk H av (.lst ds) Q) (hav : ∀ a, av a → H a ≠ none) {xs : List V} (r : RepL K tk H av xs ds) {p : Addr} (hp : H p = none) : Q (.ref p) (upd H p (.lst xs)) :=
  h _ _ (same_upd hp) (.lst upd_same (fun z => hav p z hp) (r.same (same_upd hp))) fun e => ⟨p, _, rfl, hp, rfl, xs, rfl, r⟩
theorem VQ.box {K : PySem.W.Frag} {tk : Addr} {H : Hp} {av : Addr → Prop} {d : D} {Q : VK} (h : VQ K tk H av d Q) (hav : ∀ a, av a → H a ≠ none) {o : HO} (r : RepO K tk H av o d) {p : Addr} (hp : H p = none) : Q (.ref p) (upd H p o) :=
  h _ _ (same_upd hp) ((r.same (same_upd hp)).rep upd_same (fun z => hav p z hp)) fun e => ⟨p, o, rfl, hp, rfl, r⟩
theorem fin_val {R : Fx S} {A : Acc} {P : List Pd} {σ : L2.St} {H : Hp} {ρ : En} {s : S} {d : D} {Q : VK} {fr : Bool} {ex : Addr → Prop} (r : Rel R A P σ H ρ s) (hx : ∀ a, avO R A σ ρ a → ¬ ex a) (ht : ∀ a, ex a → H a ≠ none)
    (hq : ∀ (v : V) (H' : Hp) (ex : Addr → Prop), Rel R A (⟨v, d, ex⟩ :: P) σ H' ρ s → (fr = true → FreshAt R A P σ H' ρ s v d ex) → Q v H') : VQ R.K R.W.tok H (fun a => avL R A σ ρ a ∧ ¬ ex a) d Q := fun v H' k rv fv => by
  have r' := r.same k
  refine hq v H' ex (r'.push rv hx fun a h => ?_) fun _ e => ?_
  · cases z : H a with
    | none => exact absurd z (ht a h)
    | some o => rw [k a o z]; simp
  · obtain ⟨p, xs, e1, e2, e3, e4⟩ := fv e
    exact ⟨p, xs, H, e1, e2, e3, r, e4, hx, ht⟩
/-! ### names, constants -/
def varF (i : Nat) : Ev S := fun ρ s => match ρ[i]? with
  | some (.val d) => some (d, ρ, s)
  | some (.ownD _ ds) => some (ds, ρ.set i (.ownD true ds), s)
  | _ => none
theorem se_var {i : Nat} {x : Str} (hN : X.N[i]? = some x) (hv : Vis X.env.scope x) (hd : (x == ("__debug__" : Str)) = false) (hcd : (x == ("__classdict__" : Str)) = false) : PE X (.Name x pos) (SE X.K W false (varF i)) := by
  refine (pe_var hN hv hd hcd).imp fun σ H Q q => ?_
  obtain ⟨H0, O, A, P, ρ, s, d, ρ', s', r, e, q⟩ := q
  unfold varF at e
  split at e
  · cases e
    rename_i d hi
    obtain ⟨v, h1, h2⟩ := r.readV hi
    exact ⟨v, h1, q v H noEx h2 fun z => Bool.noConfusion z⟩
  · cases e
    rename_i t ds hi
    obtain ⟨a, h1, h2⟩ := r.lend hi
    exact ⟨_, h1, q _ H _ h2 fun z => Bool.noConfusion z⟩
  · cases e
def cstF (d : D) : Ev S := fun ρ s => some (d, ρ, s)
theorem se_cst {v : V} {d : D} (hv : ∀ H av, Rep X.K W.tok H av v d) (h : PE X e (tC v)) : PE X e (SE X.K W false (cstF d)) := by
  refine h.imp fun σ H Q q => ?_
  obtain ⟨H0, O, A, P, ρ, s, d', ρ', s', r, e, q⟩ := q
  cases e
  exact q v H noEx (r.push (hv H _) (fun _ _ z => z) fun _ z => z.elim) fun z => Bool.noConfusion z
/-! ### two operands -/
def binF (f : D → D → Option D) (fa fb : Ev S) : Ev S := fun ρ s => do
  let (x, ρ, s) ← fa ρ s
  let (y, ρ, s) ← fb ρ s
  let d ← f x y
  some (d, ρ, s)
theorem binF_some {f : D → D → Option D} {fa fb : Ev S} {ρ ρ' : En} {s s' : S} {d : D} (h : binF f fa fb ρ s = some (d, ρ', s')) : ∃ x ρ1 s1 y, fa ρ s = some (x, ρ1, s1) ∧ fb ρ1 s1 = some (y, ρ', s') ∧ f x y = some d := by
  unfold binF at h
  cases h1 : fa ρ s with
  | none => rw [h1] at h; simp at h
  | some z =>
    obtain ⟨x, ρ1, s1⟩ := z
    rw [h1] at h
    simp only [Option.bind_eq_bind, Option.bind_some] at h
    cases h2 : fb ρ1 s1 with
    | none => rw [h2] at h; simp at h
    | some z =>
      obtain ⟨y, ρ2, s2⟩ := z
      rw [h2] at h
      simp only [Option.bind_some] at h
      cases h3 : f x y with
      | none => rw [h3] at h; simp at h
      | some d' =>
        rw [h3] at h
        simp only [Option.bind_some, Option.some.injEq, Prod.mk.injEq] at h
        obtain ⟨rfl, rfl, rfl⟩ := h
        exact ⟨x, ρ1, s1, y, rfl, h2, h3⟩
theorem two_val {r : R2} {f : D → D → Option D} {fa fb : Ev S} {fr fr1 fr2 : Bool} (hv : V2 X.K W.tok r f) {σ : L2.St} {H : Hp} {Q : VK} (h : SE X.K W fr (binF f fa fb) σ H Q) : tOp r (SE X.K W fr1 fa) (SE X.K W fr2 fb) σ H Q := by
  obtain ⟨H0, O, A, P, ρ, s, d, ρ', s', r0, e, q⟩ := h
  obtain ⟨x, ρ1, s1, y, e1, e2, e3⟩ := binF_some e
  refine ⟨H0, O, A, P, ρ, s, x, ρ1, s1, r0, e1, fun v H1 ex1 r1 _ => ?_⟩
  refine ⟨H0, O, A, _, ρ1, s1, y, ρ', s', r1, e2, fun w H2 ex2 r2 _ => ?_⟩
  have hx : ∀ a, avO ⟨X.K, W, H0, O⟩ A σ ρ' a → ¬ (ex1 a ∨ ex2 a) := fun a h z => z.elim (r2.tail.hex a h) (r2.hex a h)
  have ht : ∀ a, (ex1 a ∨ ex2 a) → H2 a ≠ none := fun a z => z.elim (r2.tail.pet _ List.mem_cons_self a) (r2.pet _ List.mem_cons_self a)
  refine hv H2 (fun a => avL ⟨X.K, W, H0, O⟩ A σ ρ' a ∧ ¬ (ex1 a ∨ ex2 a)) v w x y d Q (fun a h => r2.avT h.1) ?_ ?_ e3 (fin_val r2.tail.tail hx ht q)
  · exact r2.tail.head.mono fun a h => ⟨h.1, fun z => h.2 (.inl z)⟩
  · exact r2.head.mono fun a h => ⟨h.1, fun z => h.2 (.inr z)⟩
theorem se_bin {op : Operator} {r : R2} {f : D → D → Option D} {fa fb : Ev S} {fr1 fr2 : Bool} (ho : OpR X (binaryOp op) r) (hv : V2 X.K W.tok r f) (ha : PE X a (SE X.K W fr1 fa)) (hb : PE X b (SE X.K W fr2 fb)) :
    PE X (.BinOp a op b pos) (SE X.K W true (binF f fa fb)) := (pe_op ho ha hb).imp fun σ H Q q => two_val hv q
theorem se_cmp {op : CmpOp} {r : R2} {f : D → D → Option D} {fa fb : Ev S} {fr1 fr2 : Bool} (ho : OpR X (compareOp op) r) (hv : V2 X.K W.tok r f) (ha : PE X a (SE X.K W fr1 fa)) (hb : PE X b (SE X.K W fr2 fb)) (hm : behindInMarks op b = false) :
    PE X (.Compare a [op] [b] pos) (SE X.K W true (binF f fa fb)) := (pe_cmpR ho ha hb hm).imp fun σ H Q q => two_val hv q
theorem se_ix {r : R2} {f : D → D → Option D} {fa fb : Ev S} {fr1 fr2 : Bool} (ho : IxR X r) (hv : V2 X.K W.tok r f) (ha : PE X a (SE X.K W fr1 fa)) (hb : PE X b (SE X.K W fr2 fb)) (hs : PlainIx b) :
    PE X (.Subscript a b pos) (SE X.K W false (binF f fa fb)) := (pe_ix ho ha hb hs).imp fun σ H Q q => two_val hv q
/-! ### argument lists -/
def nilL : EvL S := fun ρ s => some ([], ρ, s)
def consL (f : Ev S) (g : EvL S) : EvL S := fun ρ s => do
  let (x, ρ, s) ← f ρ s
  let (xs, ρ, s) ← g ρ s
  some (x :: xs, ρ, s)
theorem consL_some {f : Ev S} {g : EvL S} {ρ ρ' : En} {s s' : S} {ds : List D} (h : consL f g ρ s = some (ds, ρ', s')) : ∃ x ρ1 s1 xs, f ρ s = some (x, ρ1, s1) ∧ g ρ1 s1 = some (xs, ρ', s') ∧ ds = x :: xs := by
  unfold consL at h
  cases h1 : f ρ s with
  | none => rw [h1] at h; simp at h
  | some z =>
    obtain ⟨x, ρ1, s1⟩ := z
    rw [h1] at h
    simp only [Option.bind_eq_bind, Option.bind_some] at h
    cases h2 : g ρ1 s1 with
    | none => rw [h2] at h; simp at h
    | some z =>
      obtain ⟨y, ρ2, s2⟩ := z
      rw [h2] at h
      simp only [Option.bind_some, Option.some.injEq, Prod.mk.injEq] at h
      obtain ⟨rfl, rfl, rfl⟩ := h
      exact ⟨x, ρ1, s1, y, rfl, h2, rfl⟩
theorem sl_nil : PA X [] (SL X.K W nilL) := pa_nil.imp fun σ H Q q => by
  obtain ⟨H0, O, A, P, ρ, s, ds, ρ', s', r, e, q⟩ := q
  cases e
  exact q [] H noEx r .nil (fun _ _ z => z) fun _ z => z.elim
theorem sl_cons {f : Ev S} {g : EvL S} {fr : Bool} (he : PE X e (SE X.K W fr f)) (hr : PA X es (SL X.K W g)) (hs : starEach (e :: es) X.env = (false, eval e X.env) :: starEach es X.env) : PA X (e :: es) (SL X.K W (consL f g)) :=
  (pa_cons he hr hs).imp fun σ H Q q => by
    obtain ⟨H0, O, A, P, ρ, s, ds, ρ', s', r0, e, q⟩ := q
    obtain ⟨x, ρ1, s1, xs, e1, e2, rfl⟩ := consL_some e
    refine ⟨H0, O, A, P, ρ, s, x, ρ1, s1, r0, e1, fun v H1 ex1 r1 _ => ?_⟩
    refine ⟨H0, O, A, _, ρ1, s1, xs, ρ', s', r1, e2, fun vs H2 ex2 r2 rl hx ht => ?_⟩
    refine q (v :: vs) H2 (fun a => ex1 a ∨ ex2 a) r2.tail (.cons (r2.head.mono fun a h => ⟨h.1, fun z => h.2 (.inl z)⟩) (rl.mono fun a h => ⟨h.1, fun z => h.2 (.inr z)⟩)) (fun a h z => z.elim (r2.hex a h) (hx a h)) fun a z => z.elim (r2.pet _ List.mem_cons_self a) (ht a)
def mapF (f : List D → Option D) (g : EvL S) : Ev S := fun ρ s => do
  let (xs, ρ, s) ← g ρ s
  let d ← f xs
  some (d, ρ, s)
theorem mapF_some {f : List D → Option D} {g : EvL S} {ρ ρ' : En} {s s' : S} {d : D} (h : mapF f g ρ s = some (d, ρ', s')) : ∃ xs, g ρ s = some (xs, ρ', s') ∧ f xs = some d := by
  unfold mapF at h
  cases h1 : g ρ s with
  | none => rw [h1] at h; simp at h
  | some z =>
    obtain ⟨x, ρ1, s1⟩ := z
    rw [h1] at h
    simp only [Option.bind_eq_bind, Option.bind_some] at h
    cases h3 : f x with
    | none => rw [h3] at h; simp at h
    | some d' =>
      rw [h3] at h
      simp only [Option.bind_some, Option.some.injEq, Prod.mk.injEq] at h
      obtain ⟨rfl, rfl, rfl⟩ := h
      exact ⟨x, rfl, h3⟩
theorem list_val {r : List V → Hp → VK → Prop} {f : List D → Option D} {g : EvL S} {fr : Bool} (hv : VC X.K W.tok r f) {σ : L2.St} {H : Hp} {Q : VK} (h : SE X.K W fr (mapF f g) σ H Q) : SL X.K W g σ H fun vs H1 => r vs H1 Q := by
  obtain ⟨H0, O, A, P, ρ, s, d, ρ', s', r0, e, q⟩ := h
  obtain ⟨ds, e1, e2⟩ := mapF_some e
  refine ⟨H0, O, A, P, ρ, s, ds, ρ', s', r0, e1, fun vs H1 ex r1 rl hx ht => ?_⟩
  exact hv H1 _ vs ds d Q (fun a h => r1.avT h.1) rl e2 (fin_val r1 hx ht q)
/-- a call of a built-in function, of a built-in class -/
theorem se_callB {id : String} {x : Str} {r : List V → Hp → VK → Prop} {f : List D → Option D} {g : EvL S} {p : Pos} (hc : CallR X (.builtin id) r) (hv : VC X.K W.tok r f) (hg : Gl X x) (hm : X.mg x = none) (hb : bootBuiltins x = some (.builtin id)) (ha : PA X (e :: es) (SL X.K W g))
    (hn : x ≠ "__name__") (hdb : (x == ("__debug__" : Str)) = false) (he : starEach (e :: es) X.env = (false, eval e X.env) :: starEach es X.env) (hpl : (backTo pos (starEach es X.env)).any (·.1) = false) :
    PE X (.Call (.Name x p) (e :: es) [] pos) (SE X.K W true (mapF f g)) := (pe_callB hc hg hm hb ha hn hdb he hpl).imp fun σ H Q q => list_val hv q
theorem se_callT {T : String} {x : Str} {r : List V → Hp → VK → Prop} {f : List D → Option D} {g : EvL S} {p : Pos} (hc : CallR X (.type T) r) (hv : VC X.K W.tok r f) (hg : Gl X x) (hm : X.mg x = none) (hb : bootBuiltins x = some (.type T)) (ha : PA X (e :: es) (SL X.K W g))
    (hn : x ≠ "__name__") (hdb : (x == ("__debug__" : Str)) = false) (he : starEach (e :: es) X.env = (false, eval e X.env) :: starEach es X.env) (hpl : (backTo pos (starEach es X.env)).any (·.1) = false) :
    PE X (.Call (.Name x p) (e :: es) [] pos) (SE X.K W true (mapF f g)) := (pe_callTy hc hg hm hb ha hn hdb he hpl).imp fun σ H Q q => list_val hv q
/-- displays -/
def dispT (ds : List D) : Option D := if ds.length ≤ sizeLine then some (.tup ds) else none
def dispL (ds : List D) : Option D := if ds.length ≤ sizeLine then some (.lst ds) else none
theorem se_tup {k : Nat} {g : EvL S} (ha : PA X es (SL X.K W g)) : PE X (.Tuple es k pos) (SE X.K W false (mapF dispT g)) := (pe_tup ha).imp fun σ H Q q => by
  refine list_val (r := fun xs H1 Q => xs.length ≤ sizeLine ∧ ∀ p, H1 p = none → Q (.ref p) (upd H1 p (.tup xs))) (fun H av xs ds d Q hav rl e hq => ?_) q
  unfold dispT at e
  split at e
  · rename_i hz
    cases e
    exact ⟨by rw [rl.length]; exact hz, fun p hp => hq.tup rl hp⟩
  · cases e
theorem se_lst {g : EvL S} (ha : PA X es (SL X.K W g)) : PE X (.List es pos) (SE X.K W true (mapF dispL g)) := (pe_lst ha).imp fun σ H Q q => by
  refine list_val (r := fun xs H1 Q => xs.length ≤ sizeLine ∧ ∀ p, H1 p = none → Q (.ref p) (upd H1 p (.lst xs))) (fun H av xs ds d Q hav rl e hq => ?_) q
  unfold dispL at e
  split at e
  · rename_i hz
    cases e
    exact ⟨by rw [rl.length]; exact hz, fun p hp => hq.lst hav rl hp⟩
  · cases e
end
end L3
end
section
set_option Elab.async false
set_option linter.all false
set_option maxRecDepth 100000
set_option autoImplicit false
/-! L3e: the frame's relation under stores, freezing, gathered lists (own work). -/
namespace L3
open PySem PySem.Spec PyProof.Rows L2
section
variable {S : Type} {R : Fx S} {A : Acc} {P : List Pd} {σ : L2.St} {H H' : Hp} {ρ ρ' : En} {s s' : S}
/-- marks set back without a value -/
theorem Rel.thaw0 (r0 : ∀ p ∈ P, ∀ a, avO R A σ ρ a → ¬ p.ex a) (r : Rel R A P σ H ρ' s) : Rel R A P σ H (L3.thaw ρ ρ') s :=
  (Rel.thaw (v := .non) (d := .non) (ex := noEx) r0 (r.push .non (fun _ _ z => z) fun _ z => z.elim) rfl).tail
theorem freeze_own {ρ : En} {i : Nat} {t : Bool} {ds : D} (e : (freeze ρ)[i]? = some (.ownD t ds)) : t = false ∧ ρ[i]? = some (.ownD false ds) := by
  rw [freeze_get] at e
  cases h : ρ[i]? with
  | none => rw [h] at e; simp at e
  | some y =>
    rw [h] at e
    cases y with
    | non => simp at e
    | val d => simp at e
    | ownD u es =>
      cases u with
      | true => simp at e
      | false =>
        simp at e
        obtain ⟨rfl, rfl⟩ := e
        exact ⟨rfl, rfl⟩
theorem freeze_lock {a : Addr} : lockA σ (freeze ρ) a → ownA σ ρ a := by
  rintro ⟨i, t, ds, e1, e2⟩
  obtain ⟨_, e⟩ := freeze_own e1
  exact ⟨i, ds, e, e2⟩
theorem freeze_avL {a : Addr} (h : avL R A σ (freeze ρ) a) : avO R A σ ρ a := by
  rcases h with h | h | h | h
  · exact .inl h
  · exact .inr (.inl h)
  · exact .inr (.inr (.inl (freeze_lock h)))
  · exact .inr (.inr (.inr h))
theorem freeze_avO {a : Addr} (h : avO R A σ (freeze ρ) a) : avO R A σ ρ a := freeze_avL (avO_avL h)
/-- what is lent is given away -/
theorem Rel.freeze (r : Rel R A P σ H ρ s) : Rel R A P σ H (L3.freeze ρ) s := by
  have av : ∀ a, avL R A σ (L3.freeze ρ) a → avL R A σ ρ a := fun a h => avO_avL (freeze_avL h)
  refine ⟨by rw [freeze_length]; exact r.len, r.wd, r.ent, r.out, r.wout, fun i d e => ?_, fun i t ds e => ?_, fun a ds e => ?_, fun i j t u ds es a e1 e2 e3 e4 => ?_, fun a h => r.injA a (own_lock (freeze_lock h)), r.ndA, fun p hp => (r.pen p hp).mono fun a h => ⟨av a h.1, h.2⟩, fun p hp a h => r.pex p hp a (freeze_avO h), r.pet⟩
  · rw [freeze_get] at e
    cases h : ρ[i]? with
    | none => rw [h] at e; simp at e
    | some y =>
      rw [h] at e
      cases y with
      | non => simp at e
      | val d' =>
        simp at e
        subst e
        obtain ⟨v, h1, h2⟩ := r.val i d' h
        exact ⟨v, h1, h2.mono av⟩
      | ownD u es =>
        cases u with
        | false => simp at e
        | true =>
          simp at e
          subst e
          obtain ⟨a, xs, h1, h2, h3, h4⟩ := r.lst i true es h
          refine ⟨_, h1, (h3.mono av).rep h2 (fun z => ?_)⟩
          rcases freeze_avL z with q | q | q | q
          · exact r.out a q h4
          · exact r.wout a q h4
          · obtain ⟨j, fs, e1, e2⟩ := q
            have := r.inj i j _ _ _ _ a h e1 h1 e2
            subst this
            rw [h] at e1; cases e1
          · exact r.injA a ⟨i, true, es, h, h1⟩ q
  · obtain ⟨rfl, e'⟩ := freeze_own e
    obtain ⟨a, xs, h1, h2, h3, h4⟩ := r.lst i _ ds e'
    exact ⟨a, xs, h1, h2, h3.mono av, h4⟩
  · obtain ⟨xs, h1, h2, h3⟩ := r.acc a ds e
    exact ⟨xs, h1, h2.mono av, h3⟩
  · obtain ⟨_, e1'⟩ := freeze_own e1
    obtain ⟨_, e2'⟩ := freeze_own e2
    exact r.inj i j _ _ _ _ a e1' e2' e3 e4
/-! ### stores -/
theorem set_own {i j : Nat} {y : Sl} {t : Bool} {ds : D} (hy : ∀ t ds, y ≠ .ownD t ds) (e : (ρ.set i y)[j]? = some (.ownD t ds)) : j ≠ i ∧ ρ[j]? = some (.ownD t ds) := by
  by_cases hj : i = j
  · subst hj
    by_cases hlt : i < ρ.length
    · rw [List.getElem?_set_self hlt] at e
      exact absurd (Option.some.inj e) (hy _ _)
    · rw [List.getElem?_eq_none (by simpa using hlt)] at e; cases e
  · rw [List.getElem?_set_ne hj] at e
    exact ⟨fun z => hj z.symm, e⟩
/-- a slot turned to what is no own list -/
theorem Rel.slotN {i : Nat} {y : Sl} {x : Option V} (r : Rel R A P σ H ρ s) (hy : ∀ t ds, y ≠ .ownD t ds)
    (hv : ∀ d, y = .val d → ∃ v, x = some v ∧ Rep R.K R.W.tok H (avL R A σ ρ) v d) : Rel R A P (σ.set i x) H (ρ.set i y) s := by
  have lk : ∀ a, lockA (σ.set i x) (ρ.set i y) a → lockA σ ρ a := by
    rintro a ⟨j, t, ds, e1, e2⟩
    obtain ⟨hj, e⟩ := set_own hy e1
    rw [List.getElem?_set_ne (Ne.symm hj)] at e2
    exact ⟨j, t, ds, e, e2⟩
  have ow : ∀ a, ownA (σ.set i x) (ρ.set i y) a → ownA σ ρ a := by
    rintro a ⟨j, ds, e1, e2⟩
    obtain ⟨hj, e⟩ := set_own hy e1
    rw [List.getElem?_set_ne (Ne.symm hj)] at e2
    exact ⟨j, ds, e, e2⟩
  have av : ∀ a, avL R A (σ.set i x) (ρ.set i y) a → avL R A σ ρ a := fun a h => h.elim .inl fun h => h.elim (fun h => .inr (.inl h)) fun h => h.elim (fun h => .inr (.inr (.inl (lk a h)))) fun h => .inr (.inr (.inr h))
  have ao : ∀ a, avO R A (σ.set i x) (ρ.set i y) a → avO R A σ ρ a := fun a h => h.elim .inl fun h => h.elim (fun h => .inr (.inl h)) fun h => h.elim (fun h => .inr (.inr (.inl (ow a h)))) fun h => .inr (.inr (.inr h))
  refine ⟨by rw [List.length_set, List.length_set]; exact r.len, r.wd, r.ent, r.out, r.wout, fun j d e => ?_, fun j t ds e => ?_, fun a ds e => ?_, fun j k t u ds es a e1 e2 e3 e4 => ?_, fun a h => r.injA a (lk a h), r.ndA, fun p hp => (r.pen p hp).mono fun a h => ⟨av a h.1, h.2⟩, fun p hp a h => r.pex p hp a (ao a h), r.pet⟩
  · by_cases hj : i = j
    · subst hj
      by_cases hlt : i < ρ.length
      · rw [List.getElem?_set_self hlt] at e
        obtain ⟨v, e1, e2⟩ := hv d (Option.some.inj e)
        subst e1
        exact ⟨v, by rw [List.getElem?_set_self (by rw [← r.len]; exact hlt)], e2.mono av⟩
      · rw [List.getElem?_eq_none (by simpa using hlt)] at e; cases e
    · rw [List.getElem?_set_ne hj] at e
      obtain ⟨v, h1, h2⟩ := r.val j d e
      exact ⟨v, by rw [List.getElem?_set_ne hj]; exact h1, h2.mono av⟩
  · obtain ⟨hj, e'⟩ := set_own hy e
    obtain ⟨a, xs, h1, h2, h3, h4⟩ := r.lst j t ds e'
    exact ⟨a, xs, by rw [List.getElem?_set_ne (Ne.symm hj)]; exact h1, h2, h3.mono av, h4⟩
  · obtain ⟨xs, h1, h2, h3⟩ := r.acc a ds e
    exact ⟨xs, h1, h2.mono av, h3⟩
  · obtain ⟨hj, e1'⟩ := set_own hy e1
    obtain ⟨hk, e2'⟩ := set_own hy e2
    rw [List.getElem?_set_ne (Ne.symm hj)] at e3
    rw [List.getElem?_set_ne (Ne.symm hk)] at e4
    exact r.inj j k _ _ _ _ a e1' e2' e3 e4
theorem Rel.storeV {i : Nat} {v : V} {d : D} (r : Rel R A P σ H ρ s) (h : Rep R.K R.W.tok H (avL R A σ ρ) v d) : Rel R A P (σ.set i (some v)) H (ρ.set i (.val d)) s :=
  r.slotN (fun _ _ e => nomatch e) fun d' e => by cases e; exact ⟨v, rfl, h⟩
theorem Rel.fresh0 (r : Rel R A P σ H ρ s) {p : Addr} (hp : H p = none) : R.H0 p = none := by
  cases e : R.H0 p with
  | none => rfl
  | some o =>
    by_cases hw : R.W.own p
    · obtain ⟨o', e', _⟩ := R.W.has r.wd hw
      rw [hp] at e'; cases e'
    · have := r.ent p o e hw
      rw [hp] at this; cases this
theorem Rep.more {K : PySem.W.Frag} {tk : Addr} {av av' : Addr → Prop} {p : Addr} {o : HO} (hp : H p = none) (m : ∀ a, av' a → av a ∨ a = p) {v : V} {d : D} (h : Rep K tk H av v d) : Rep K tk (upd H p o) av' v d := by
  refine (h.mono' (av' := av') fun a t z => ?_).same (same_upd hp)
  rcases m a z with q | q
  · exact q
  · rw [q] at t; exact absurd hp t
theorem RepL.more {K : PySem.W.Frag} {tk : Addr} {av av' : Addr → Prop} {p : Addr} {o : HO} (hp : H p = none) (m : ∀ a, av' a → av a ∨ a = p) {v : List V} {d : List D} (h : RepL K tk H av v d) : RepL K tk (upd H p o) av' v d := by
  refine (h.mono' (av' := av') fun a t z => ?_).same (same_upd hp)
  rcases m a z with q | q
  · exact q
  · rw [q] at t; exact absurd hp t
theorem RepK.more {K : PySem.W.Frag} {tk : Addr} {av av' : Addr → Prop} {p : Addr} {o : HO} (hp : H p = none) (m : ∀ a, av' a → av a ∨ a = p) : ∀ {v : List (Key × V)} {d : List (Key × D)}, RepK K tk H av v d → RepK K tk (upd H p o) av' v d
  | _, _, .nil => .nil
  | _, _, .cons h r => .cons (h.more hp m) (RepK.more hp m r)
/-- a new list is a name's own -/
theorem RepO.more {K : PySem.W.Frag} {tk : Addr} {av av' : Addr → Prop} {p : Addr} {o : HO} (hp : H p = none) (m : ∀ a, av' a → av a ∨ a = p) {v : HO} {d : D} (h : RepO K tk H av v d) : RepO K tk (upd H p o) av' v d := by
  cases d with
  | lst ds => obtain ⟨xs, e1, r⟩ := h; exact ⟨xs, e1, r.more hp m⟩
  | dic kds =>
    obtain ⟨kvs, e1, r⟩ := h
    exact ⟨kvs, e1, r.more hp m⟩
  | dit ks ds => obtain ⟨vs, e1, e2, r⟩ := h; exact ⟨vs, e1, e2, r.more hp m⟩
  | _ => exact h.elim
theorem Rel.storeOwnO {i : Nat} {p : Addr} {o : HO} {ds : D} (r : Rel R A P σ H ρ s) (hi : i < ρ.length) (hp : H p = none) (hx : RepO R.K R.W.tok H (avL R A σ ρ) o ds) :
    Rel R A P (σ.set i (some (.ref p))) (upd H p o) (ρ.set i (.ownD false ds)) s := by
  have hi' : i < σ.length := by rw [← r.len]; exact hi
  have own : ∀ (j : Nat) t es, (ρ.set i (.ownD false ds))[j]? = some (.ownD t es) → (j = i ∧ t = false ∧ es = ds) ∨ (j ≠ i ∧ ρ[j]? = some (.ownD t es)) := fun j t es e => by
    by_cases hj : i = j
    · subst hj
      rw [List.getElem?_set_self hi] at e
      cases e
      exact .inl ⟨rfl, rfl, rfl⟩
    · rw [List.getElem?_set_ne hj] at e
      exact .inr ⟨fun z => hj z.symm, e⟩
  have lk : ∀ a, lockA (σ.set i (some (.ref p))) (ρ.set i (.ownD false ds)) a → lockA σ ρ a ∨ a = p := by
    rintro a ⟨j, t, es, e1, e2⟩
    rcases own j t es e1 with ⟨rfl, _, _⟩ | ⟨hj, e⟩
    · rw [List.getElem?_set_self hi'] at e2
      cases e2
      exact .inr rfl
    · rw [List.getElem?_set_ne (Ne.symm hj)] at e2
      exact .inl ⟨j, t, es, e, e2⟩
  have ow : ∀ a, ownA (σ.set i (some (.ref p))) (ρ.set i (.ownD false ds)) a → ownA σ ρ a ∨ a = p := by
    rintro a ⟨j, es, e1, e2⟩
    rcases own j _ es e1 with ⟨rfl, _, _⟩ | ⟨hj, e⟩
    · rw [List.getElem?_set_self hi'] at e2
      cases e2
      exact .inr rfl
    · rw [List.getElem?_set_ne (Ne.symm hj)] at e2
      exact .inl ⟨j, es, e, e2⟩
  have av : ∀ a, avL R A (σ.set i (some (.ref p))) (ρ.set i (.ownD false ds)) a → avL R A σ ρ a ∨ a = p := fun a h => h.elim (fun h => .inl (.inl h)) fun h => h.elim (fun h => .inl (.inr (.inl h))) fun h => h.elim (fun h => (lk a h).imp (fun h => .inr (.inr (.inl h))) id) fun h => .inl (.inr (.inr (.inr h)))
  have ao : ∀ a, avO R A (σ.set i (some (.ref p))) (ρ.set i (.ownD false ds)) a → avO R A σ ρ a ∨ a = p := fun a h => h.elim (fun h => .inl (.inl h)) fun h => h.elim (fun h => .inl (.inr (.inl h))) fun h => h.elim (fun h => (ow a h).imp (fun h => .inr (.inr (.inl h))) id) fun h => .inl (.inr (.inr (.inr h)))
  have k := same_upd (o := o) hp
  refine ⟨by rw [List.length_set, List.length_set]; exact r.len, R.W.stay r.wd fun a o _ e => k a o e, fun a o e n => k a o (r.ent a o e n), r.out, r.wout, fun j d e => ?_, fun j t es e => ?_, fun a es e => ?_, fun j l t u es fs a e1 e2 e3 e4 => ?_, fun a h => ?_, r.ndA, fun q hq => (r.pen q hq).more hp fun a h => (av a h.1).imp (fun z => ⟨z, h.2⟩) id, fun q hq a h => ?_, fun q hq a h => ?_⟩
  · have hj : i ≠ j := fun z => by
      subst z
      rw [List.getElem?_set_self hi] at e
      cases e
    rw [List.getElem?_set_ne hj] at e
    obtain ⟨v, h1, h2⟩ := r.val j d e
    exact ⟨v, by rw [List.getElem?_set_ne hj]; exact h1, h2.more hp av⟩
  · rcases own j t es e with ⟨rfl, rfl, rfl⟩ | ⟨hj, e'⟩
    · exact ⟨p, o, by rw [List.getElem?_set_self hi'], upd_same, hx.more hp av, r.fresh0 hp⟩
    · obtain ⟨a, ys, h1, h2, h3, h4⟩ := r.lst j t es e'
      exact ⟨a, ys, by rw [List.getElem?_set_ne (Ne.symm hj)]; exact h1, k _ _ h2, h3.more hp av, h4⟩
  · obtain ⟨ys, h1, h2, h3⟩ := r.acc a es e
    exact ⟨ys, k _ _ h1, h2.more hp av, h3⟩
  · rcases own j t es e1 with ⟨rfl, _, _⟩ | ⟨hj, e1'⟩ <;> rcases own l u fs e2 with ⟨rfl, _, _⟩ | ⟨hl, e2'⟩
    · rfl
    · rw [List.getElem?_set_self hi'] at e3
      cases e3
      rw [List.getElem?_set_ne (Ne.symm hl)] at e4
      obtain ⟨⟨ys, q, _⟩, _⟩ := r.lockT ⟨l, u, fs, e2', e4⟩
      rw [hp] at q; cases q
    · rw [List.getElem?_set_self hi'] at e4
      cases e4
      rw [List.getElem?_set_ne (Ne.symm hj)] at e3
      obtain ⟨⟨ys, q, _⟩, _⟩ := r.lockT ⟨j, t, es, e1', e3⟩
      rw [hp] at q; cases q
    · rw [List.getElem?_set_ne (Ne.symm hj)] at e3
      rw [List.getElem?_set_ne (Ne.symm hl)] at e4
      exact r.inj j l _ _ _ _ a e1' e2' e3 e4
  · rcases lk a h with q | q
    · exact r.injA a q
    · subst q
      intro hm
      obtain ⟨⟨ys, z, _⟩, _⟩ := r.accT hm
      rw [hp] at z; cases z
  · rcases ao a h with z | z
    · exact r.pex q hq a z
    · subst z
      exact fun z => r.pet q hq a z hp
  · have := r.pet q hq a h
    by_cases ha : a = p
    · subst ha; rw [upd_same]; simp
    · rw [upd_ne ha]; exact this
theorem Rel.storeOwn {i : Nat} {p : Addr} {xs : List V} {ds : List D} (r : Rel R A P σ H ρ s) (hi : i < ρ.length) (hp : H p = none) (hx : RepL R.K R.W.tok H (avL R A σ ρ) xs ds) :
    Rel R A P (σ.set i (some (.ref p))) (upd H p (.lst xs)) (ρ.set i (.own false ds)) s := r.storeOwnO hi hp ⟨xs, rfl, hx⟩
/-! ### a list that is gathered -/
theorem Rel.accNewO {p : Addr} {o : HO} {d : D} (r : Rel R A P σ H ρ s) (hp : H p = none) (hx : RepO R.K R.W.tok H (avL R A σ ρ) o d) : Rel R ((p, d) :: A) P σ (upd H p o) ρ s := by
  have k := same_upd (o := o) hp
  have av : ∀ a, avL R ((p, d) :: A) σ ρ a → avL R A σ ρ a ∨ a = p := fun a h => h.elim (fun h => .inl (.inl h)) fun h => h.elim (fun h => .inl (.inr (.inl h))) fun h => h.elim (fun h => .inl (.inr (.inr (.inl h)))) fun h => by
    rcases List.mem_cons.mp h with h | h
    · exact .inr h
    · exact .inl (.inr (.inr (.inr h)))
  have ao : ∀ a, avO R ((p, d) :: A) σ ρ a → avO R A σ ρ a ∨ a = p := fun a h => h.elim (fun h => .inl (.inl h)) fun h => h.elim (fun h => .inl (.inr (.inl h))) fun h => h.elim (fun h => .inl (.inr (.inr (.inl h)))) fun h => by
    rcases List.mem_cons.mp h with h | h
    · exact .inr h
    · exact .inl (.inr (.inr (.inr h)))
  have np : p ∉ A.map (·.1) := fun hm => by
    obtain ⟨⟨ys, z, _⟩, _⟩ := r.accT hm
    rw [hp] at z; cases z
  refine ⟨r.len, R.W.stay r.wd fun a o _ e => k a o e, fun a o e n => k a o (r.ent a o e n), r.out, r.wout, fun j d e => ?_, fun j t es e => ?_, fun a es e => ?_, r.inj, fun a h => ?_, ?_, fun q hq => (r.pen q hq).more hp fun a h => (av a h.1).imp (fun z => ⟨z, h.2⟩) id, fun q hq a h => ?_, fun q hq a h => ?_⟩
  · obtain ⟨v, h1, h2⟩ := r.val j d e
    exact ⟨v, h1, h2.more hp av⟩
  · obtain ⟨a, ys, h1, h2, h3, h4⟩ := r.lst j t es e
    exact ⟨a, ys, h1, k _ _ h2, h3.more hp av, h4⟩
  · rcases List.mem_cons.mp e with e | e
    · cases e
      exact ⟨o, upd_same, hx.more hp av, r.fresh0 hp⟩
    · obtain ⟨ys, h1, h2, h3⟩ := r.acc a es e
      exact ⟨ys, k _ _ h1, h2.more hp av, h3⟩
  · intro hm
    rcases List.mem_cons.mp hm with z | z
    · have z : a = p := z
      subst z
      obtain ⟨⟨ys, z, _⟩, _⟩ := r.lockT h
      rw [hp] at z; cases z
    · exact r.injA a h z
  · show ((p, d) :: A |>.map (·.1)).Nodup
    rw [List.map_cons, List.nodup_cons]
    exact ⟨np, r.ndA⟩
  · rcases ao a h with z | z
    · exact r.pex q hq a z
    · subst z
      exact fun z => r.pet q hq a z hp
  · have := r.pet q hq a h
    by_cases ha : a = p
    · subst ha; rw [upd_same]; simp
    · rw [upd_ne ha]; exact this
theorem Rel.accNew {p : Addr} (r : Rel R A P σ H ρ s) (hp : H p = none) : Rel R ((p, .lst []) :: A) P σ (upd H p (.lst [])) ρ s := r.accNewO hp ⟨[], rfl, .nil⟩
/-- the gathered list is written -/
theorem Rel.accSetO {p : Addr} {ds ds' : D} {o' : HO} (r : Rel R ((p, ds) :: A) P σ H ρ s) (hx : RepO R.K R.W.tok H (avL R ((p, ds) :: A) σ ρ) o' ds') : Rel R ((p, ds') :: A) P σ (upd H p o') ρ s := by
  obtain ⟨xs, hp, ro, h0⟩ := r.acc p ds List.mem_cons_self
  have k : ∀ b o, H b = some o → ¬ b = p → (upd H p o') b = some o := fun b o e n => by rw [upd_ne n]; exact e
  have hm : ∀ b, b = p → ∃ o, H b = some o ∧ Mut (some o) := fun b e => by subst e; exact ⟨_, hp, ro.mut⟩
  have hpl : avO R ((p, ds) :: A) σ ρ p := .inr (.inr (.inr List.mem_cons_self))
  have hw : ∀ b, b = p → avL R ((p, ds) :: A) σ ρ b := fun b e => by subst e; exact avO_avL hpl
  have nl : ∀ b, lockA σ ρ b → ¬ b = p := fun b h e => by subst e; exact r.injA b h List.mem_cons_self
  have nd := r.ndA
  rw [List.map_cons, List.nodup_cons] at nd
  refine ⟨r.len, R.W.stay r.wd fun b o hb e => k b o e fun z => by subst z; exact r.wout b hb h0, fun b o e n => k b o (r.ent b o e n) fun z => (by subst z; rw [h0] at e; exact nomatch e), r.out, r.wout, fun j d e => ?_, fun j t es e => ?_, fun a es e => ?_, r.inj, r.injA, r.ndA, fun q hq => ?_, r.pex, fun q hq a h => ?_⟩
  · obtain ⟨v, h1, h2⟩ := r.val j d e
    exact ⟨v, h1, h2.kept k hw hm⟩
  · obtain ⟨a, ys, h1, h2, h3, h4⟩ := r.lst j t es e
    exact ⟨a, ys, h1, k _ _ h2 (nl a ⟨j, t, es, e, h1⟩), h3.kept k hw hm, h4⟩
  · rcases List.mem_cons.mp e with e | e
    · cases e
      exact ⟨o', upd_same, hx.kept k hw hm, h0⟩
    · obtain ⟨ys, h1, h2, h3⟩ := r.acc a es (List.mem_cons_of_mem _ e)
      have ne : ¬ a = p := fun z => by rw [z] at e; exact nd.1 (List.mem_map_of_mem (f := (·.1)) e)
      exact ⟨ys, k _ _ h1 ne, h2.kept k hw hm, h3⟩
  · exact (r.pen q hq).kept k (fun b e => by subst e; exact ⟨hw _ rfl, r.pex q hq _ hpl⟩) hm
  · have := r.pet q hq a h
    by_cases ha : a = p
    · subst ha; rw [upd_same]; simp
    · rw [upd_ne ha]; exact this
theorem Rel.accSet {p : Addr} {ds ds' : List D} {xs' : List V} (r : Rel R ((p, .lst ds) :: A) P σ H ρ s) (hx : RepL R.K R.W.tok H (avL R ((p, .lst ds) :: A) σ ρ) xs' ds') : Rel R ((p, .lst ds') :: A) P σ (upd H p (.lst xs')) ρ s := r.accSetO ⟨xs', rfl, hx⟩
def less (H : Hp) (p : Addr) : Hp := fun b => if b = p then none else H b
theorem less_ne {p b : Addr} (h : b ≠ p) : less H p b = H b := by unfold less; rw [if_neg h]
theorem less_self {p : Addr} : less H p p = none := by unfold less; rw [if_pos rfl]
theorem less_upd {p : Addr} {o : HO} (h : H p = some o) : upd (less H p) p o = H := by
  funext b
  by_cases hb : b = p
  · subst hb; rw [upd_same, h]
  · rw [upd_ne hb, less_ne hb]
/-- the gathered list is handed on: the heap without it -/
theorem Rel.accOutO {p : Addr} {ds : D} (r : Rel R ((p, ds) :: A) P σ H ρ s) : ∃ o, H p = some o ∧ Rel R A P σ (less H p) ρ s ∧ RepO R.K R.W.tok (less H p) (avL R A σ ρ) o ds := by
  obtain ⟨xs, hp, hx, h0⟩ := r.acc p ds List.mem_cons_self
  have hpl : avO R ((p, ds) :: A) σ ρ p := .inr (.inr (.inr List.mem_cons_self))
  have k : ∀ b o, H b = some o → ¬ b = p → less H p b = some o := fun b o e n => by rw [less_ne n]; exact e
  have hm : ∀ b, b = p → ∃ o, H b = some o ∧ Mut (some o) := fun b e => by subst e; exact ⟨_, hp, hx.mut⟩
  have hw : ∀ b, b = p → avL R ((p, ds) :: A) σ ρ b := fun b e => by subst e; exact avO_avL hpl
  have av : ∀ a, avL R A σ ρ a → avL R ((p, ds) :: A) σ ρ a := fun a h => h.elim .inl fun h => h.elim (fun h => .inr (.inl h)) fun h => h.elim (fun h => .inr (.inr (.inl h))) fun h => .inr (.inr (.inr (List.mem_cons_of_mem _ h)))
  have ao : ∀ a, avO R A σ ρ a → avO R ((p, ds) :: A) σ ρ a := fun a h => h.elim .inl fun h => h.elim (fun h => .inr (.inl h)) fun h => h.elim (fun h => .inr (.inr (.inl h))) fun h => .inr (.inr (.inr (List.mem_cons_of_mem _ h)))
  have nl : ∀ b, lockA σ ρ b → ¬ b = p := fun b h e => by subst e; exact r.injA b h List.mem_cons_self
  have nd := r.ndA
  rw [List.map_cons, List.nodup_cons] at nd
  refine ⟨xs, hp, ⟨r.len, R.W.stay r.wd fun b o hb e => k b o e fun z => by subst z; exact r.wout b hb h0, fun b o e n => k b o (r.ent b o e n) fun z => (by subst z; rw [h0] at e; exact nomatch e), r.out, r.wout, fun j d e => ?_, fun j t es e => ?_, fun a es e => ?_, r.inj, fun a h q => r.injA a h (List.mem_cons_of_mem _ q), nd.2, fun q hq => ?_, fun q hq a h => r.pex q hq a (ao a h), fun q hq a h => ?_⟩, (hx.kept k hw hm).mono av⟩
  · obtain ⟨v, h1, h2⟩ := r.val j d e
    exact ⟨v, h1, (h2.kept k hw hm).mono av⟩
  · obtain ⟨a, ys, h1, h2, h3, h4⟩ := r.lst j t es e
    exact ⟨a, ys, h1, k _ _ h2 (nl a ⟨j, t, es, e, h1⟩), (h3.kept k hw hm).mono av, h4⟩
  · obtain ⟨ys, h1, h2, h3⟩ := r.acc a es (List.mem_cons_of_mem _ e)
    have ne : ¬ a = p := fun z => by rw [z] at e; exact nd.1 (List.mem_map_of_mem (f := (·.1)) e)
    exact ⟨ys, k _ _ h1 ne, (h2.kept k hw hm).mono av, h3⟩
  · exact ((r.pen q hq).kept k (fun b e => by subst e; exact ⟨hw _ rfl, r.pex q hq _ hpl⟩) hm).mono fun a h => ⟨av a h.1, h.2⟩
  · have := r.pet q hq a h
    by_cases ha : a = p
    · subst ha; exact absurd h (r.pex q hq a hpl)
    · rw [less_ne ha]; exact this
theorem Rel.accOut {p : Addr} {ds : List D} (r : Rel R ((p, .lst ds) :: A) P σ H ρ s) : ∃ xs, H p = some (.lst xs) ∧ Rel R A P σ (less H p) ρ s ∧ RepL R.K R.W.tok (less H p) (avL R A σ ρ) xs ds := by
  obtain ⟨o, h1, r', xs, rfl, rl⟩ := r.accOutO
  exact ⟨xs, h1, r', rl⟩
/-! ### slots set aside -/
def wipeE (ρ : En) : List Nat → En
  | [] => ρ
  | v :: vs => (wipeE ρ vs).set v .non
theorem wipeE_length (ρ : En) : ∀ vs : List Nat, (wipeE ρ vs).length = ρ.length
  | [] => rfl
  | v :: vs => by unfold wipeE; rw [List.length_set, wipeE_length ρ vs]
theorem wipeE_out {i : Nat} : ∀ {vs : List Nat}, i ∉ vs → (wipeE ρ vs)[i]? = ρ[i]?
  | [], _ => rfl
  | v :: vs, h => by
    unfold wipeE
    have h1 : v ≠ i := fun e => h (by simp [e])
    rw [List.getElem?_set_ne h1]
    exact wipeE_out fun z => h (List.mem_cons_of_mem _ z)
theorem Rel.wipe (r : Rel R A P σ H ρ s) : ∀ vs : List Nat, Rel R A P (L2.wipe σ vs) H (wipeE ρ vs) s
  | [] => r
  | _ :: vs => (r.wipe vs).slotN (fun _ _ e => nomatch e) fun _ e => nomatch e
/-- the slots vs set back to what they were in ρ0 -/
def backE (ρ0 : En) : List Nat → En → En
  | [], ρ => ρ
  | v :: vs, ρ => backE ρ0 vs (ρ.set v (ρ0.getD v .non))
def backS (σ0 : L2.St) : List Nat → L2.St → L2.St
  | [], σ => σ
  | v :: vs, σ => backS σ0 vs (σ.set v (σ0.getD v none))
theorem backS_eq {σ0 : L2.St} : ∀ {vs : List Nat} {σ : L2.St}, σ.length = σ0.length → (∀ i, i ∉ vs → σ[i]? = σ0[i]?) → backS σ0 vs σ = σ0
  | [], σ, hl, h => List.ext_getElem? fun i => h i (by simp)
  | v :: vs, σ, hl, h => by
    unfold backS
    refine backS_eq (by simpa using hl) fun i hi => ?_
    by_cases hv : v = i
    · subst hv
      by_cases hlt : v < σ.length
      · rw [List.getElem?_set_self hlt, List.getD_eq_getElem?_getD]
        have : v < σ0.length := by omega
        rw [List.getElem?_eq_getElem this]; rfl
      · rw [List.getElem?_eq_none (by simpa using hlt), List.getElem?_eq_none (by omega)]
    · rw [List.getElem?_set_ne hv]
      exact h i (by simp only [List.mem_cons, not_or]; exact ⟨fun e => hv e.symm, hi⟩)
/-- what waits for the slots vs -/
def pendE (ρ : En) (σ : L2.St) : List Nat → List Pd
  | [] => []
  | v :: vs => match ρ[v]?, σ[v]? with
    | some (.val d), some (some x) => ⟨x, d, noEx⟩ :: pendE ρ σ vs
    | _, _ => pendE ρ σ vs
theorem Rel.pendOwn (r : Rel R A P σ H ρ s) : ∀ vs : List Nat, Rel R A (pendE ρ σ vs ++ P) σ H ρ s
  | [] => r
  | v :: vs => by
    unfold pendE
    split
    · rename_i d x h1 h2
      obtain ⟨u, e1, e2⟩ := r.val v d h1
      rw [h2] at e1; cases e1
      exact (r.pendOwn vs).push (e2.mono fun a h => h.1) (fun _ _ z => z) fun _ z => z.elim
    · exact r.pendOwn vs
theorem Rel.back {ρ0 : En} {σ0 : L2.St} (hval : ∀ (v : Nat) d, ρ0[v]? = some (.val d) → ∃ x, σ0[v]? = some (some x)) : ∀ {vs : List Nat} {σ : L2.St} {ρ : En}, (∀ v ∈ vs, ∀ t ds, ρ0[v]? ≠ some (.ownD t ds)) →
    Rel R A (pendE ρ0 σ0 vs ++ P) σ H ρ s → Rel R A P (backS σ0 vs σ) H (backE ρ0 vs ρ) s
  | [], σ, ρ, _, r => r
  | v :: vs, σ, ρ, ho, r => by
    unfold backS backE
    refine Rel.back hval (fun w hw => ho w (List.mem_cons_of_mem _ hw)) ?_
    have hv := ho v List.mem_cons_self
    unfold pendE at r
    cases h : ρ0[v]? with
    | none =>
      have e1 : ρ0.getD v .non = .non := by rw [List.getD_eq_getElem?_getD, h]; rfl
      rw [e1]
      rw [h] at r
      exact Rel.slotN r (fun _ _ e => nomatch e) fun _ e => nomatch e
    | some y =>
      have e1 : ρ0.getD v .non = y := by rw [List.getD_eq_getElem?_getD, h]; rfl
      rw [e1]
      cases y with
      | non =>
        rw [h] at r
        exact Rel.slotN r (fun _ _ e => nomatch e) fun _ e => nomatch e
      | ownD t ds => exact absurd h (hv t ds)
      | val d =>
        obtain ⟨x, hx⟩ := hval v d h
        rw [h, hx] at r
        have r : Rel R A (⟨x, d, noEx⟩ :: (pendE ρ0 σ0 vs ++ P)) σ H ρ s := r
        have e2 : σ0.getD v none = some x := by rw [List.getD_eq_getElem?_getD, hx]; rfl
        rw [e2]
        exact r.tail.slotN (fun _ _ e => nomatch e) fun d' e => by
          cases e
          exact ⟨x, rfl, r.head.mono fun a h => ⟨h, fun z => z⟩⟩
end
end L3
end
section
set_option Elab.async false
set_option linter.all false
set_option maxRecDepth 100000
set_option autoImplicit false
/-! L3f: tests, and/or/not, chains, calls of defs, a frame's own lists (own work). -/
namespace L3
open PySem PySem.Spec PyProof.Rows L2
section
variable {S : Type} {X : Cx} {W : Wd S} {e a b c : Expr} {es : List Expr} {pos : Pos}
/-! ### tests -/
def truD : D → Option Bool
  | .non => some false
  | .bl b => some b
  | .int i => some (i != 0)
  | .tup xs => some (!xs.isEmpty)
  | .lst xs => some (!xs.isEmpty)
  | .dic xs => some (!xs.isEmpty)
  | _ => none
def truF (f : Ev S) : EvB S := fun ρ s => match f ρ s with
  | some (d, ρ', s') => match truD d with
    | some b => some (b, thaw ρ ρ', s')
    | none => none
  | none => none
theorem truF_some {f : Ev S} {ρ ρ' : En} {s s' : S} {b : Bool} (h : truF f ρ s = some (b, ρ', s')) : ∃ d ρ1, f ρ s = some (d, ρ1, s') ∧ truD d = some b ∧ ρ' = thaw ρ ρ1 := by
  unfold truF at h
  cases h1 : f ρ s with
  | none => rw [h1] at h; cases h
  | some z =>
    obtain ⟨d, ρ1, s1⟩ := z
    rw [h1] at h
    simp only at h
    cases h2 : truD d with
    | none => rw [h2] at h; cases h
    | some k =>
      rw [h2] at h
      cases h
      exact ⟨d, ρ1, rfl, h2, rfl⟩
theorem repK_len {K : PySem.W.Frag} {tk : Addr} {H : Hp} {av : Addr → Prop} : ∀ {kvs : List (Key × V)} {ds : List (Key × D)}, RepK K tk H av kvs ds → kvs.isEmpty = ds.isEmpty
  | _, _, .nil => rfl
  | _, _, .cons _ _ => rfl
theorem repL_empty {K : PySem.W.Frag} {tk : Addr} {H : Hp} {av : Addr → Prop} : ∀ {xs : List V} {ds : List D}, RepL K tk H av xs ds → xs.isEmpty = ds.isEmpty
  | _, _, .nil => rfl
  | _, _, .cons _ _ => rfl
theorem tru_rep {K : PySem.W.Frag} {tk : Addr} {H : Hp} {av : Addr → Prop} {v : V} {d : D} {k : Bool} (r : Rep K tk H av v d) (h : truD d = some k) : TruV K v H k := by
  cases r with
  | non => cases h; rfl
  | bl b => cases h; rfl
  | int i => cases h; rfl
  | str x => cases h
  | ty n => cases h
  | deck => cases h
  | tup q r => cases h; exact .inr (.inl ⟨_, q, by rw [repL_empty r]⟩)
  | lst q _ r => cases h; exact .inl ⟨_, .inl (.inl q), by rw [repL_empty r]⟩
  | dic q _ r => cases h; exact .inr (.inr ⟨_, q, by rw [repK_len r]⟩)
  | dit q _ _ r => cases h
  | rng _ _ => cases h
theorem truQ {f : Ev S} {fr fr' : Bool} {σ : L2.St} {H : Hp} {Q : Bool → Hp → Prop} (h : SB X.K W (truF f) σ H Q) : SE X.K W fr f σ H fun x H1 => ∃ k, TruV X.K x H1 k ∧ Q k H1 := by
  obtain ⟨H0, O, A, P, ρ, s, b, ρ', s', r, e, q⟩ := h
  obtain ⟨d, ρ1, e1, e2, rfl⟩ := truF_some e
  refine ⟨H0, O, A, P, ρ, s, d, ρ1, s', r, e1, fun v H' ex r' _ => ⟨b, tru_rep r'.head e2, q H' (Rel.thaw0 r.pex r'.tail)⟩⟩
theorem sb_val {f : Ev S} {fr : Bool} (h : PE X e (SE X.K W fr f)) (he : ∀ whole, isTrue e X.env whole = (do let v ← whole; standAt e.pos; holding [v] (truthy v))) : PT X e (SB X.K W (truF f)) :=
  (pt_truth h he).imp fun σ H Q q => truQ (fr' := true) q
/-- the operations that give a truth value -/
def isB (f : D → D → Option D) : Prop := ∀ x y d, f x y = some d → ∃ k, d = .bl k
theorem sb_cmp {op : CmpOp} {r : R2} {f : D → D → Option D} {fa fb : Ev S} {fr1 fr2 : Bool} (ho : OpR X (compareOp op) r) (hv : V2 X.K W.tok r f) (hf : isB f) (ha : PE X a (SE X.K W fr1 fa)) (hb : PE X b (SE X.K W fr2 fb)) (hm : behindInMarks op b = false) :
    PT X (.Compare a [op] [b] pos) (SB X.K W (truF (binF f fa fb))) := (pt_cmpR ho ha hb hm).imp fun σ H Q q => by
  obtain ⟨H0, O, A, P, ρ, s, k, ρ', s', r, e, q⟩ := q
  obtain ⟨d, ρ1, e1, e2, rfl⟩ := truF_some e
  refine two_val (fr := false) hv ⟨H0, O, A, P, ρ, s, d, ρ1, s', r, e1, fun v H' ex r' _ => ?_⟩
  obtain ⟨_, _, _, _, _, _, e3⟩ := binF_some e1
  obtain ⟨k', rfl⟩ := hf _ _ _ e3
  cases e2
  have rv := r'.head
  have ev : v = .bl k := by cases rv; rfl
  exact ⟨k, ev, q H' (Rel.thaw0 r.pex r'.tail)⟩
def andB (ta tb : EvB S) : EvB S := fun ρ s => match ta ρ s with
  | some (true, ρ', s') => tb ρ' s'
  | some (false, ρ', s') => some (false, ρ', s')
  | none => none
def orB (ta tb : EvB S) : EvB S := fun ρ s => match ta ρ s with
  | some (false, ρ', s') => tb ρ' s'
  | some (true, ρ', s') => some (true, ρ', s')
  | none => none
def notB (ta : EvB S) : EvB S := fun ρ s => match ta ρ s with
  | some (k, ρ', s') => some (!k, ρ', s')
  | none => none
theorem SB.and {K : PySem.W.Frag} {ta tb : EvB S} {σ : L2.St} {H : Hp} {Q : Bool → Hp → Prop} (h : SB K W (andB ta tb) σ H Q) : tAnd (SB K W ta) (SB K W tb) σ H Q := by
  obtain ⟨H0, O, A, P, ρ, s, k, ρ', s', r, e, q⟩ := h
  unfold andB at e
  split at e
  · rename_i ρ1 s1 h1
    exact ⟨H0, O, A, P, ρ, s, true, ρ1, s1, r, h1, fun H1 r1 => iteT ⟨H0, O, A, P, ρ1, s1, k, ρ', s', r1, e, q⟩⟩
  · rename_i ρ1 s1 h1
    cases e
    exact ⟨H0, O, A, P, ρ, s, false, _, _, r, h1, fun H1 r1 => iteF (q H1 r1)⟩
  · cases e
theorem SB.or {K : PySem.W.Frag} {ta tb : EvB S} {σ : L2.St} {H : Hp} {Q : Bool → Hp → Prop} (h : SB K W (orB ta tb) σ H Q) : tOr (SB K W ta) (SB K W tb) σ H Q := by
  obtain ⟨H0, O, A, P, ρ, s, k, ρ', s', r, e, q⟩ := h
  unfold orB at e
  split at e
  · rename_i ρ1 s1 h1
    exact ⟨H0, O, A, P, ρ, s, false, ρ1, s1, r, h1, fun H1 r1 => iteF ⟨H0, O, A, P, ρ1, s1, k, ρ', s', r1, e, q⟩⟩
  · rename_i ρ1 s1 h1
    cases e
    exact ⟨H0, O, A, P, ρ, s, true, _, _, r, h1, fun H1 r1 => iteT (q H1 r1)⟩
  · cases e
theorem SB.not {K : PySem.W.Frag} {ta : EvB S} {σ : L2.St} {H : Hp} {Q : Bool → Hp → Prop} (h : SB K W (notB ta) σ H Q) : tNot (SB K W ta) σ H Q := by
  obtain ⟨H0, O, A, P, ρ, s, k, ρ', s', r, e, q⟩ := h
  unfold notB at e
  split at e
  · rename_i k1 ρ1 s1 h1
    cases e
    exact ⟨H0, O, A, P, ρ, s, k1, _, _, r, h1, q⟩
  · cases e
theorem _root_.L2.PW.imp {t t' : TT} (h : PW X e t) (i : ∀ σ H Q, t' σ H Q → t σ H Q) : PW X e t' := ⟨fun wh pins s σ H Q I q => h.run wh pins s σ H Q I (i σ H Q q)⟩
theorem sb_not {ta : EvB S} (ha : PT X a (SB X.K W ta)) : PT X (.UnaryOp .Not a pos) (SB X.K W (notB ta)) := (pt_not ha).imp fun σ H Q q => q.not
theorem sb_and {ta tb : EvB S} {rest : List Expr} (ha : PT X a (SB X.K W ta)) (hb : PW X (.BoolOp .And (b :: rest) pos) (SB X.K W tb)) : PW X (.BoolOp .And (a :: b :: rest) pos) (SB X.K W (andB ta tb)) := (pw_and ha hb).imp fun σ H Q q => q.and
theorem sb_or {ta tb : EvB S} {rest : List Expr} (ha : PT X a (SB X.K W ta)) (hb : PW X (.BoolOp .Or (b :: rest) pos) (SB X.K W tb)) : PW X (.BoolOp .Or (a :: b :: rest) pos) (SB X.K W (orB ta tb)) := (pw_or ha hb).imp fun σ H Q q => q.or
/-! ### and, or, not as values; a if t else b -/
def andF (fa fb : Ev S) : Ev S := fun ρ s => match fa ρ s with
  | some (.bl true, ρ', s') => fb ρ' s'
  | some (.bl false, ρ', s') => some (.bl false, ρ', s')
  | _ => none
def orF (fa fb : Ev S) : Ev S := fun ρ s => match fa ρ s with
  | some (.bl false, ρ', s') => fb ρ' s'
  | some (.bl true, ρ', s') => some (.bl true, ρ', s')
  | _ => none
def notF (fa : Ev S) : Ev S := fun ρ s => match fa ρ s with
  | some (.bl k, ρ', s') => some (.bl (!k), ρ', s')
  | _ => none
def iteF' (t : EvB S) (fa fb : Ev S) : Ev S := fun ρ s => match t ρ s with
  | some (true, ρ', s') => fa ρ' s'
  | some (false, ρ', s') => fb ρ' s'
  | none => none
theorem se_and {fa fb : Ev S} {rest : List Expr} {fr1 fr2 : Bool} (ha : PE X a (SE X.K W fr1 fa)) (hb : PE X (.BoolOp .And (b :: rest) pos) (SE X.K W fr2 fb)) : PE X (.BoolOp .And (a :: b :: rest) pos) (SE X.K W false (andF fa fb)) := (pe_and ha hb).imp fun σ H Q q => by
  obtain ⟨H0, O, A, P, ρ, s, d, ρ', s', r, e, q⟩ := q
  unfold andF at e
  split at e
  · rename_i ρ1 s1 h1
    refine ⟨H0, O, A, P, ρ, s, .bl true, ρ1, s1, r, h1, fun v H1 ex r1 _ => ⟨true, by cases r1.head; rfl, iteT ⟨H0, O, A, P, ρ1, s1, d, ρ', s', r1.tail, e, fun v H' ex r' _ => q v H' ex r' fun z => Bool.noConfusion z⟩⟩⟩
  · rename_i ρ1 s1 h1
    cases e
    refine ⟨H0, O, A, P, ρ, s, .bl false, _, _, r, h1, fun v H1 ex r1 _ => ⟨false, by cases r1.head; rfl, iteF (q (.bl false) H1 noEx (r1.tail.push (.bl _) (fun _ _ z => z) fun _ z => z.elim) fun z => Bool.noConfusion z)⟩⟩
  · cases e
theorem se_or {fa fb : Ev S} {rest : List Expr} {fr1 fr2 : Bool} (ha : PE X a (SE X.K W fr1 fa)) (hb : PE X (.BoolOp .Or (b :: rest) pos) (SE X.K W fr2 fb)) : PE X (.BoolOp .Or (a :: b :: rest) pos) (SE X.K W false (orF fa fb)) := (pe_or ha hb).imp fun σ H Q q => by
  obtain ⟨H0, O, A, P, ρ, s, d, ρ', s', r, e, q⟩ := q
  unfold orF at e
  split at e
  · rename_i ρ1 s1 h1
    refine ⟨H0, O, A, P, ρ, s, .bl false, ρ1, s1, r, h1, fun v H1 ex r1 _ => ⟨false, by cases r1.head; rfl, iteF ⟨H0, O, A, P, ρ1, s1, d, ρ', s', r1.tail, e, fun v H' ex r' _ => q v H' ex r' fun z => Bool.noConfusion z⟩⟩⟩
  · rename_i ρ1 s1 h1
    cases e
    refine ⟨H0, O, A, P, ρ, s, .bl true, _, _, r, h1, fun v H1 ex r1 _ => ⟨true, by cases r1.head; rfl, iteT (q (.bl true) H1 noEx (r1.tail.push (.bl _) (fun _ _ z => z) fun _ z => z.elim) fun z => Bool.noConfusion z)⟩⟩
  · cases e
theorem se_not {fa : Ev S} {fr1 : Bool} (ha : PE X a (SE X.K W fr1 fa)) : PE X (.UnaryOp .Not a pos) (SE X.K W false (notF fa)) := (pe_not ha).imp fun σ H Q q => by
  obtain ⟨H0, O, A, P, ρ, s, d, ρ', s', r, e, q⟩ := q
  unfold notF at e
  split at e
  · rename_i k ρ1 s1 h1
    cases e
    exact ⟨H0, O, A, P, ρ, s, .bl k, _, _, r, h1, fun v H1 ex r1 _ => ⟨k, by cases r1.head; rfl, q _ H1 noEx (r1.tail.push (.bl _) (fun _ _ z => z) fun _ z => z.elim) fun z => Bool.noConfusion z⟩⟩
  · cases e
theorem se_ite {t : EvB S} {fa fb : Ev S} {fr1 fr2 : Bool} (ht : PT X c (SB X.K W t)) (ha : PE X a (SE X.K W fr1 fa)) (hb : PE X b (SE X.K W fr2 fb)) : PE X (.IfExp c a b pos) (SE X.K W (fr1 && fr2) (iteF' t fa fb)) := (pe_ifExp ht ha hb).imp fun σ H Q q => by
  obtain ⟨H0, O, A, P, ρ, s, d, ρ', s', r, e, q⟩ := q
  unfold iteF' at e
  split at e
  · rename_i ρ1 s1 h1
    refine ⟨H0, O, A, P, ρ, s, true, ρ1, s1, r, h1, fun H1 r1 => iteT ⟨H0, O, A, P, ρ1, s1, d, ρ', s', r1, e, fun v H' ex r' f => q v H' ex r' fun z => f ?_⟩⟩
    cases fr1 <;> simp_all
  · rename_i ρ1 s1 h1
    refine ⟨H0, O, A, P, ρ, s, false, ρ1, s1, r, h1, fun H1 r1 => iteF ⟨H0, O, A, P, ρ1, s1, d, ρ', s', r1, e, fun v H' ex r' f => q v H' ex r' fun z => f ?_⟩⟩
    cases fr1 <;> simp_all
  · cases e
/-! ### a op b op' c -/
def chainF (f g : D → D → Option D) (fa fb fc : Ev S) : Ev S := fun ρ s => do
  let (x, ρ, s) ← fa ρ s
  let (y, ρ, s) ← fb ρ s
  match f x y with
  | some (.bl true) => do
    let (z, ρ, s) ← fc ρ s
    let d ← g y z
    some (d, ρ, s)
  | some (.bl false) => some (.bl false, ρ, s)
  | _ => none
theorem chainF_some {f g : D → D → Option D} {fa fb fc : Ev S} {ρ ρ' : En} {s s' : S} {d : D} (h : chainF f g fa fb fc ρ s = some (d, ρ', s')) : ∃ x ρ1 s1 y ρ2 s2, fa ρ s = some (x, ρ1, s1) ∧ fb ρ1 s1 = some (y, ρ2, s2) ∧
    ((f x y = some (.bl true) ∧ ∃ z, fc ρ2 s2 = some (z, ρ', s') ∧ g y z = some d) ∨ (f x y = some (.bl false) ∧ d = .bl false ∧ ρ' = ρ2 ∧ s' = s2)) := by
  unfold chainF at h
  cases h1 : fa ρ s with
  | none => rw [h1] at h; simp at h
  | some z =>
    obtain ⟨x, ρ1, s1⟩ := z
    rw [h1] at h
    simp only [Option.bind_eq_bind, Option.bind_some] at h
    cases h2 : fb ρ1 s1 with
    | none => rw [h2] at h; simp at h
    | some z =>
      obtain ⟨y, ρ2, s2⟩ := z
      rw [h2] at h
      simp only [Option.bind_some] at h
      refine ⟨x, ρ1, s1, y, ρ2, s2, rfl, h2, ?_⟩
      split at h
      · rename_i e
        left
        refine ⟨e, ?_⟩
        cases h3 : fc ρ2 s2 with
        | none => rw [h3] at h; simp at h
        | some z =>
          obtain ⟨z, ρ3, s3⟩ := z
          rw [h3] at h
          simp only [Option.bind_some] at h
          cases h4 : g y z with
          | none => rw [h4] at h; simp at h
          | some d' =>
            rw [h4] at h
            simp only [Option.bind_some, Option.some.injEq, Prod.mk.injEq] at h
            obtain ⟨rfl, rfl, rfl⟩ := h
            exact ⟨z, rfl, h4⟩
      · rename_i e
        right
        cases h
        exact ⟨e, rfl, rfl, rfl⟩
      · cases h
theorem chain_val {r r' : R2} {f g : D → D → Option D} {fa fb fc : Ev S} {fr fr1 fr2 fr3 : Bool} (hv : V2 X.K W.tok r f) (hv' : V2 X.K W.tok r' g) {σ : L2.St} {H : Hp} {Q : VK} (h : SE X.K W fr (chainF f g fa fb fc) σ H Q) (hfr : fr = false) :
    tChain r r' (SE X.K W fr1 fa) (SE X.K W fr2 fb) (SE X.K W fr3 fc) σ H Q := by
  subst hfr
  obtain ⟨H0, O, A, P, ρ, s, d, ρ', s', r0, e, q⟩ := h
  obtain ⟨x, ρ1, s1, y, ρ2, s2, e1, e2, e3⟩ := chainF_some e
  refine ⟨H0, O, A, P, ρ, s, x, ρ1, s1, r0, e1, fun v H1 ex1 r1 _ => ?_⟩
  refine ⟨H0, O, A, _, ρ1, s1, y, ρ2, s2, r1, e2, fun w H2 ex2 r2 _ => ?_⟩
  have hx : ∀ a, avO ⟨X.K, W, H0, O⟩ A σ ρ2 a → ¬ (ex1 a ∨ ex2 a) := fun a h z => z.elim (r2.tail.hex a h) (r2.hex a h)
  have ht : ∀ a, (ex1 a ∨ ex2 a) → H2 a ≠ none := fun a z => z.elim (r2.tail.pet _ List.mem_cons_self a) (r2.pet _ List.mem_cons_self a)
  have rx : Rep X.K W.tok H2 (fun a => avL ⟨X.K, W, H0, O⟩ A σ ρ2 a ∧ ¬ (ex1 a ∨ ex2 a)) v x := r2.tail.head.mono fun a h => ⟨h.1, fun z => h.2 (.inl z)⟩
  have ry : Rep X.K W.tok H2 (fun a => avL ⟨X.K, W, H0, O⟩ A σ ρ2 a ∧ ¬ (ex1 a ∨ ex2 a)) w y := r2.head.mono fun a h => ⟨h.1, fun z => h.2 (.inr z)⟩
  rcases e3 with ⟨e3, z, e4, e5⟩ | ⟨e3, rfl, rfl, rfl⟩
  · refine hv H2 _ v w x y _ _ (fun a h => r2.avT h.1) rx ry e3 fun u H3 k3 ru _ => ⟨true, by cases ru; rfl, iteT ?_⟩
    have r3 : Rel ⟨X.K, W, H0, O⟩ A (⟨w, y, ex2⟩ :: P) σ H3 ρ2 s2 := by
      have := r2.same k3
      exact this.tail.tail.push this.head this.hex fun a h => this.pet _ List.mem_cons_self a h
    refine ⟨H0, O, A, _, ρ2, s2, z, ρ', s', r3, e4, fun u' H4 ex4 r4 _ => ?_⟩
    have hx4 : ∀ a, avO ⟨X.K, W, H0, O⟩ A σ ρ' a → ¬ (ex2 a ∨ ex4 a) := fun a h z => z.elim (r4.tail.hex a h) (r4.hex a h)
    have ht4 : ∀ a, (ex2 a ∨ ex4 a) → H4 a ≠ none := fun a z => z.elim (r4.tail.pet _ List.mem_cons_self a) (r4.pet _ List.mem_cons_self a)
    refine hv' H4 (fun a => avL ⟨X.K, W, H0, O⟩ A σ ρ' a ∧ ¬ (ex2 a ∨ ex4 a)) w u' y z d Q (fun a h => r4.avT h.1) (r4.tail.head.mono fun a h => ⟨h.1, fun z => h.2 (.inl z)⟩) (r4.head.mono fun a h => ⟨h.1, fun z => h.2 (.inr z)⟩) e5 (fin_val (fr := false) r4.tail.tail hx4 ht4 q)
  · refine hv H2 _ v w x y _ _ (fun a h => r2.avT h.1) rx ry e3 fun u H3 k3 ru _ => ⟨false, by cases ru; rfl, iteF ?_⟩
    exact q (.bl false) H3 noEx ((r2.tail.tail.same k3).push (.bl _) (fun _ _ z => z) fun _ z => z.elim) fun z => Bool.noConfusion z
theorem se_chain {op op' : CmpOp} {r r' : R2} {f g : D → D → Option D} {fa fb fc : Ev S} {fr1 fr2 fr3 : Bool} (ho : OpR X (compareOp op) r) (ho' : OpR X (compareOp op') r') (hv : V2 X.K W.tok r f) (hv' : V2 X.K W.tok r' g)
    (ha : PE X a (SE X.K W fr1 fa)) (hb : PE X b (SE X.K W fr2 fb)) (hc : PE X c (SE X.K W fr3 fc)) (hm : lastMarks [op, op'] [b, c] = false) : PE X (.Compare a [op, op'] [b, c] pos) (SE X.K W false (chainF f g fa fb fc)) :=
  (pe_chain ho ho' ha hb hc hm).imp fun σ H Q q => chain_val hv hv' q rfl
theorem sb_chain {op op' : CmpOp} {r r' : R2} {f g : D → D → Option D} {fa fb fc : Ev S} {fr1 fr2 fr3 : Bool} (ho : OpR X (compareOp op) r) (ho' : OpR X (compareOp op') r') (hv : V2 X.K W.tok r f) (hv' : V2 X.K W.tok r' g) (hg : isB g)
    (ha : PE X a (SE X.K W fr1 fa)) (hb : PE X b (SE X.K W fr2 fb)) (hc : PE X c (SE X.K W fr3 fc)) (hm : lastMarks [op, op'] [b, c] = false) : PT X (.Compare a [op, op'] [b, c] pos) (SB X.K W (truF (chainF f g fa fb fc))) :=
  (pt_chain ho ho' ha hb hc hm).imp fun σ H Q q => by
    obtain ⟨H0, O, A, P, ρ, s, k, ρ', s', r, e, q⟩ := q
    obtain ⟨d, ρ1, e1, e2, rfl⟩ := truF_some e
    refine chain_val (fr := false) hv hv' ⟨H0, O, A, P, ρ, s, d, ρ1, s', r, e1, fun v H' ex r' _ => ?_⟩ rfl
    have hd : ∃ k, d = .bl k := by
      obtain ⟨_, _, _, _, _, _, _, _, e3⟩ := chainF_some e1
      rcases e3 with ⟨_, _, _, e5⟩ | ⟨_, rfl, _, _⟩
      · exact hg _ _ _ e5
      · exact ⟨_, rfl⟩
    obtain ⟨k', rfl⟩ := hd
    cases e2
    exact ⟨k, by cases r'.head; rfl, q H' (Rel.thaw0 r.pex r'.tail)⟩
/-! ### calls of defs -/
/-- what a def promises that computes G over pure data -/
def spF (K : PySem.W.Frag) (W : Wd S) (n : Nat) (G : List D → S → Option (D × S)) : Sp := fun vs H Q _ => vs.length = n ∧ ∃ (O : Addr → Prop) (ds : List D) (s : S) (d : D) (s' : S), (∀ a, O a → H a ≠ none) ∧ W.rel s H ∧ RepL K W.tok H (fun a => O a ∨ W.own a) vs ds ∧ G ds s = some (d, s') ∧
  ∀ v H', (∀ a o, H a = some o → ¬ W.own a → H' a = some o) → W.rel s' H' → Rep K W.tok H' (fun a => O a ∨ W.own a) v d → Q v H'
theorem spF.imp {K : PySem.W.Frag} {n : Nat} {G G' : List D → S → Option (D × S)} (h : ∀ ds s d s', G' ds s = some (d, s') → G ds s = some (d, s')) {vs : List V} {H : Hp} {Q : VK} {E : XK} (q : spF K W n G' vs H Q E) : spF K W n G vs H Q E := by
  obtain ⟨hn, O, ds, s, d, s', h1, h2, h3, h4, h5⟩ := q
  exact ⟨hn, O, ds, s, d, s', h1, h2, h3, h _ _ _ _ h4, h5⟩
def callF (G : List D → S → Option (D × S)) (g : EvL S) : Ev S := fun ρ s => match g ρ s with
  | some (xs, ρ', s') => match G xs s' with
    | some (d, s2) => some (d, ρ', s2)
    | none => none
  | none => none
theorem callF_some {G : List D → S → Option (D × S)} {g : EvL S} {ρ ρ' : En} {s s' : S} {d : D} (h : callF G g ρ s = some (d, ρ', s')) : ∃ xs s1, g ρ s = some (xs, ρ', s1) ∧ G xs s1 = some (d, s') := by
  unfold callF at h
  split at h
  · rename_i xs ρ1 s1 h1
    split at h
    · rename_i d1 s2 h2
      cases h
      exact ⟨xs, s1, h1, h2⟩
    · cases h
  · cases h
/-- the arguments in a def's order, with the defaults -/
def permL (p : List D → List D) (g : EvL S) : EvL S := fun ρ s => (g ρ s).map fun (xs, ρ', s') => (p xs, ρ', s')
theorem call_val {n : Nat} {G : List D → S → Option (D × S)} {E : XK} {R : Fx S} {A : Acc} {P : List Pd} {σ : L2.St} {H : Hp} {ρ : En} {s s' : S} {d : D} {vs : List V} {ds : List D} {ex : Addr → Prop} {Q : VK}
    (hn : vs.length = n) (r : Rel R A P σ H ρ s) (rl : RepL R.K R.W.tok H (fun a => avL R A σ ρ a ∧ ¬ ex a) vs ds) (hx : ∀ a, avO R A σ ρ a → ¬ ex a) (hG : G ds s = some (d, s'))
    (q : ∀ (v : V) (H' : Hp) (ex : Addr → Prop), Rel R A (⟨v, d, ex⟩ :: P) σ H' ρ s' → Q v H') : spF R.K R.W n G vs H Q E := by
  have hT : ∀ a, avO R A σ ρ a → H a ≠ none := fun a h => r.avT (avO_avL h)
  refine ⟨hn, avO R A σ ρ, ds, s, d, s', hT, r.wd, rl.mono fun a h => ?_, hG, fun v H' k w rv => ?_⟩
  · rcases h with h | h
    · exact ⟨avO_avL h, hx a h⟩
    · exact ⟨.inr (.inl h), hx a (.inr (.inl h))⟩
  · refine q v H' (fun a => lockA σ ρ a ∧ ¬ avO R A σ ρ a) ((r.kept k w).push (rv.mono fun a h => ?_) (fun a h z => z.2 h) fun a h => ?_)
    · by_cases z : avO R A σ ρ a
      · exact .inl z
      · rcases h.1 with y | y | y | y
        · exact .inl (.inl y)
        · exact .inr y
        · exact absurd ⟨y, z⟩ h.2
        · exact .inl (.inr (.inr (.inr y)))
    · obtain ⟨⟨xs, e, _⟩, h0⟩ := r.lockT h.1
      have nw : ¬ R.W.own a := fun z => r.wout a z h0
      rw [k a _ e nw]; simp
theorem se_call {k n : Nat} {f : Addr} {fd : FuncData} {ps : List Str} {x : Str} {p : Pos} {G : List D → S → Option (D × S)} {g : EvL S} {dvs : List V} {dsV : List Value} {dfl : List D}
    (F : FnOk X.prog X.w X.K X.mg X.base CX0 k f fd ps (spF X.K W n G)) (hr : Room k X.A) (hg : Gl X x) (hm : X.mg x = some (.ref f)) (hk : PySem.W.keepIn X.K (.ref f) = true) (hb : Binds X.K fd ps dsV) (hd : Vals dvs dsV)
    (hdf : ∀ H av, RepL X.K W.tok H av dvs dfl) (ha : PA X (e :: es) (SL X.K W g)) (hl : ∀ ρ s xs ρ' s', g ρ s = some (xs, ρ', s') → xs.length + dfl.length = n) (hdb : (x == ("__debug__" : Str)) = false)
    (he : starEach (e :: es) X.env = (false, eval e X.env) :: starEach es X.env) (hpl : (backTo pos (starEach es X.env)).any (·.1) = false) :
    PE X (.Call (.Name x p) (e :: es) [] pos) (SE X.K W false (callF G (permL (· ++ dfl) g))) := (pe_call F hr hg hm hk hb hd pass0 ha hdb he hpl).imp fun σ H Q q => by
  obtain ⟨H0, O, A, P, ρ, s, d, ρ', s', r, e, q⟩ := q
  obtain ⟨ys, s1, e1, e2⟩ := callF_some e
  unfold permL at e1
  cases h : g ρ s with
  | none => rw [h] at e1; simp at e1
  | some z =>
    obtain ⟨xs, ρ2, s2⟩ := z
    rw [h] at e1
    simp only [Option.map_some, Option.some.injEq, Prod.mk.injEq] at e1
    obtain ⟨rfl, rfl, rfl⟩ := e1
    refine ⟨H0, O, A, P, ρ, s, xs, ρ2, s2, r, h, fun vs H1 ex r1 rl hx ht => ?_⟩
    refine call_val (R := ⟨X.K, W, H0, O⟩) ?_ r1 (rl.append (hdf H1 _)) hx e2 fun v H' ex r' => q v H' ex r' fun z => Bool.noConfusion z
    rw [List.length_append, rl.length, (hdf H1 (fun _ => True)).length]
    exact hl _ _ _ _ _ h
end
end L3
end
section
set_option Elab.async false
set_option linter.all false
set_option maxRecDepth 100000
set_option autoImplicit false
/-! L3g: targets, what is walked, statements over pure data (own work). -/
namespace L3
open PySem PySem.Spec PyProof.Rows L2
section
variable {S : Type} {R : Fx S} {A A' : Acc} {P P' : List Pd} {σ : L2.St} {H H' : Hp} {ρ ρ' : En} {s s' : S}
theorem Rel.sub (r : Rel R A P σ H ρ s) (h : ∀ p ∈ P', p ∈ P) : Rel R A P' σ H ρ s :=
  ⟨r.len, r.wd, r.ent, r.out, r.wout, r.val, r.lst, r.acc, r.inj, r.injA, r.ndA, fun q hq => r.pen q (h q hq), fun q hq => r.pex q (h q hq), fun q hq => r.pet q (h q hq)⟩
theorem Rel.permA (r : Rel R A P σ H ρ s) (h : A'.Perm A) : Rel R A' P σ H ρ s := by
  have hm : ∀ a, a ∈ A'.map (·.1) ↔ a ∈ A.map (·.1) := fun a => (h.map (·.1)).mem_iff
  have av : ∀ a, avL R A' σ ρ a → avL R A σ ρ a := fun a z => by
    unfold avL at z ⊢; rw [hm a] at z; exact z
  have ao : ∀ a, avO R A' σ ρ a → avO R A σ ρ a := fun a z => by
    unfold avO at z ⊢; rw [hm a] at z; exact z
  refine ⟨r.len, r.wd, r.ent, r.out, r.wout, fun i d e => ?_, fun i t ds e => ?_, fun a ds e => ?_, r.inj, fun a z q => r.injA a z ((hm a).mp q), (h.map (·.1)).nodup_iff.mpr r.ndA, fun p hp => (r.pen p hp).mono fun a z => ⟨av a z.1, z.2⟩, fun p hp a z => r.pex p hp a (ao a z), r.pet⟩
  · obtain ⟨v, h1, h2⟩ := r.val i d e
    exact ⟨v, h1, h2.mono av⟩
  · obtain ⟨a, xs, h1, h2, h3, h4⟩ := r.lst i t ds e
    exact ⟨a, xs, h1, h2, h3.mono av, h4⟩
  · obtain ⟨xs, h1, h2, h3⟩ := r.acc a ds (h.mem_iff.mp e)
    exact ⟨xs, h1, h2.mono av, h3⟩
/-- a gathered list becomes a name's own -/
theorem Rel.accOwn {i : Nat} {p : Addr} {ds : D} (r : Rel R ((p, ds) :: A) P σ H ρ s) (hi : i < ρ.length) : Rel R A P (σ.set i (some (.ref p))) H (ρ.set i (.ownD false ds)) s := by
  obtain ⟨xs, hp, r', rl⟩ := r.accOutO
  have := r'.storeOwnO hi less_self rl
  rwa [less_upd hp] at this
/-! ### one value stored -/
def putV (i : Nat) (d : D) (ρ : En) : Option En := if i < ρ.length then some ((if noL d then ρ else freeze ρ).set i (.val d)) else none
theorem Rel.putV {i : Nat} {v : V} {d : D} {ex : Addr → Prop} (r : Rel R A (⟨v, d, ex⟩ :: P) σ H ρ s) (h : L3.putV i d ρ = some ρ') : Rel R A P (σ.set i (some v)) H ρ' s := by
  unfold L3.putV at h
  split at h
  · cases h
    by_cases hd : noL d = true
    · rw [if_pos hd]
      exact r.tail.storeV (r.head.free hd)
    · rw [if_neg hd]
      exact r.tail.freeze.storeV (r.headO.mono fun a z => freeze_avL z)
  · cases h
def pds : List V → List D → (Addr → Prop) → List Pd
  | v :: vs, d :: ds, ex => ⟨v, d, ex⟩ :: pds vs ds ex
  | _, _, _ => []
theorem Rel.pushL {ex : Addr → Prop} (hx : ∀ a, avO R A σ ρ a → ¬ ex a) (ht : ∀ a, ex a → H a ≠ none) (r : Rel R A P σ H ρ s) : ∀ {vs : List V} {ds : List D}, RepL R.K R.W.tok H (fun a => avL R A σ ρ a ∧ ¬ ex a) vs ds → Rel R A (pds vs ds ex ++ P) σ H ρ s
  | _, _, .nil => r
  | _, _, .cons h rl => (Rel.pushL hx ht r rl).push h hx ht
theorem Rel.popL {ex : Addr → Prop} : ∀ {vs : List V} {ds : List D}, vs.length = ds.length → Rel R A (pds vs ds ex ++ P) σ H ρ s → RepL R.K R.W.tok H (fun a => avL R A σ ρ a ∧ ¬ ex a) vs ds ∧ Rel R A P σ H ρ s
  | [], [], _, r => ⟨.nil, r⟩
  | v :: vs, d :: ds, e, r => by
    have r : Rel R A (⟨v, d, ex⟩ :: (pds vs ds ex ++ P)) σ H ρ s := r
    obtain ⟨h1, h2⟩ := Rel.popL (vs := vs) (ds := ds) (by simpa using e) r.tail
    exact ⟨.cons r.head h1, h2⟩
  | [], _ :: _, e, _ => by simp at e
  | _ :: _, [], e, _ => by simp at e
theorem Rel.exL {ex : Addr → Prop} {v : V} {vs : List V} {d : D} {ds : List D} (r : Rel R A (pds (v :: vs) (d :: ds) ex ++ P) σ H ρ s) : (∀ a, avO R A σ ρ a → ¬ ex a) ∧ ∀ a, ex a → H a ≠ none :=
  ⟨r.pex ⟨v, d, ex⟩ (by simp [pds]), r.pet ⟨v, d, ex⟩ (by simp [pds])⟩
end
section
variable {S : Type} {X : Cx} {W : Wd S} {e a b c : Expr} {es : List Expr} {pos : Pos}
/-! ### targets -/
/-- the reading of a target that stores by f, in the slots vs alone -/
def SG (K : PySem.W.Frag) (W : Wd S) (vs : List Nat) (f : D → En → Option En) : TG := fun v σ H Q => ∃ (H0 : Hp) (O : Addr → Prop) (A : Acc) (P : List Pd) (ρ : En) (s : S) (d : D) (ex : Addr → Prop) (ρ' : En),
  Rel ⟨K, W, H0, O⟩ A (⟨v, d, ex⟩ :: P) σ H ρ s ∧ f d ρ = some ρ' ∧ ∀ σ', Rel ⟨K, W, H0, O⟩ A P σ' H ρ' s → (∀ i, i ∉ vs → σ'[i]? = σ[i]?) → σ'.length = σ.length → Q σ' H
def SGs (K : PySem.W.Frag) (W : Wd S) (vs : List Nat) (f : List D → En → Option En) : TGs := fun us σ H Q => ∃ (H0 : Hp) (O : Addr → Prop) (A : Acc) (P : List Pd) (ρ : En) (s : S) (ds : List D) (ex : Addr → Prop) (ρ' : En),
  us.length = ds.length ∧ Rel ⟨K, W, H0, O⟩ A (pds us ds ex ++ P) σ H ρ s ∧ f ds ρ = some ρ' ∧ ∀ σ', Rel ⟨K, W, H0, O⟩ A P σ' H ρ' s → (∀ i, i ∉ vs → σ'[i]? = σ[i]?) → σ'.length = σ.length → Q σ' H
theorem _root_.L2.PG.imp {t t' : TG} (h : PG X e t) (i : ∀ v σ H Q, t' v σ H Q → t v σ H Q) : PG X e t' := ⟨fun pins s σ H v u Q I r q => h.run pins s σ H v u Q I r (i v σ H Q q)⟩
theorem _root_.L2.PGs.imp {t t' : TGs} (h : PGs X es t) (i : ∀ v σ H Q, t' v σ H Q → t v σ H Q) : PGs X es t' := ⟨fun pins s σ H v u Q I r q => h.run pins s σ H v u Q I r (i v σ H Q q)⟩
theorem sg_name {i : Nat} {x : Str} (hN : X.N.Nodup) (hi : X.N[i]? = some x) (hx : Loc X.env.scope x) (hf : X.fn x = true ∨ X.env.scope.names.lookup x = some .local) : PG X (.Name x pos) (SG X.K W [i] (putV i)) :=
  (pg_name hN hi hx hf).imp fun v σ H Q q => by
    obtain ⟨H0, O, A, P, ρ, s, d, ex, ρ', r, e, q⟩ := q
    refine q _ (r.putV e) (fun j hj => ?_) (by simp)
    exact List.getElem?_set_ne fun z => hj (by simp [z])
def nilG : List D → En → Option En := fun ds ρ => match ds with
  | [] => some ρ
  | _ => none
def consG (f : D → En → Option En) (g : List D → En → Option En) : List D → En → Option En := fun ds ρ => match ds with
  | d :: r => (f d ρ).bind fun ρ' => g r ρ'
  | [] => none
theorem sgs_nil : PGs X [] (SGs X.K W [] nilG) := pgs_nil.imp fun us σ H Q q => by
  obtain ⟨H0, O, A, P, ρ, s, ds, ex, ρ', hl, r, e, q⟩ := q
  cases ds with
  | nil =>
    cases e
    cases us with
    | nil => exact ⟨rfl, q σ r (fun _ _ => rfl) rfl⟩
    | cons _ _ => simp at hl
  | cons _ _ => cases e
theorem sgs_cons {f : D → En → Option En} {g : List D → En → Option En} {vs ws : List Nat} (h1 : PG X e (SG X.K W vs f)) (h2 : PGs X es (SGs X.K W ws g))
    (hs : (assignEach (e :: es) X.env).map (·.2) = assign e X.env :: (assignEach es X.env).map (·.2)) : PGs X (e :: es) (SGs X.K W (vs ++ ws) (consG f g)) := (pgs_cons h1 h2 hs).imp fun us σ H Q q => by
  obtain ⟨H0, O, A, P, ρ, s, ds, ex, ρ', hl, r, e, q⟩ := q
  cases ds with
  | nil => cases e
  | cons d ds =>
    cases us with
    | nil => simp at hl
    | cons v us =>
      have e : (f d ρ).bind (fun ρ1 => g ds ρ1) = some ρ' := e
      cases h : f d ρ with
      | none => rw [h] at e; simp at e
      | some ρ1 =>
        rw [h] at e
        simp only [Option.bind_some] at e
        refine ⟨v, us, rfl, H0, O, A, pds us ds ex ++ P, ρ, s, d, ex, ρ1, r, h, fun σ1 r1 k1 l1 => ?_⟩
        refine ⟨H0, O, A, P, ρ1, s, ds, ex, ρ', by simpa using hl, r1, e, fun σ2 r2 k2 l2 => q σ2 r2 (fun i hi => ?_) (l2.trans l1)⟩
        rw [k2 i fun z => hi (List.mem_append_right _ z), k1 i fun z => hi (List.mem_append_left _ z)]
def tupG (n : Nat) (g : List D → En → Option En) : D → En → Option En := fun d ρ => match d with
  | .tup ds => if ds.length = n then g ds ρ else none
  | _ => none
theorem sg_tup {k n : Nat} {g : List D → En → Option En} {vs : List Nat} (hc : X.calm = true) (h : PGs X es (SGs X.K W vs g)) (hn : (assignEach es X.env).length = n) (hst : (assignEach es X.env).findIdx? (·.1) = none) : PG X (.Tuple es k pos) (SG X.K W vs (tupG n g)) :=
  (pg_tup hc h hn hst).imp fun v σ H Q q => by
    obtain ⟨H0, O, A, P, ρ, s, d, ex, ρ', r, e, q⟩ := q
    unfold tupG at e
    split at e
    · rename_i ds
      split at e
      · rename_i hl
        have rh := r.head
        cases rh with
        | tup hs rl => exact ⟨_, _, rfl, hs, by rw [rl.length]; exact hl, H0, O, A, P, ρ, s, ds, ex, ρ', rl.length, Rel.pushL r.hex (fun a => r.pet _ List.mem_cons_self a) r.tail rl, e, q⟩
      · cases e
    · cases e
/-! ### what is walked -/
def ItOk (K : PySem.W.Frag) (tk : Addr) (J : It) (items : List D) (vs : List V) (ds : List D) : Prop := ∃ (G : Hp → Prop) (Y : Nat → Hp → V → Hp → Prop), Walk J items.length G Y ∧ (∀ H av, RepL K tk H av vs ds → G H) ∧
  ∀ (i : Nat) (H : Hp) (x : V) (H' : Hp) (av : Addr → Prop) (d : D), (∀ a, av a → H a ≠ none) → RepL K tk H av vs ds → Y i H x H' → items[i]? = some d → Same H H' ∧ Rep K tk H' av x d
def SI (K : PySem.W.Frag) (W : Wd S) (g : EvL S) : TI := fun σ H Q => ∃ (H0 : Hp) (O : Addr → Prop) (A : Acc) (P : List Pd) (ρ : En) (s : S) (items : List D) (ρ' : En) (s' : S),
  Rel ⟨K, W, H0, O⟩ A P σ H ρ s ∧ g ρ s = some (items, ρ', s') ∧
    ∀ (J : It) (H' : Hp) (vs : List V) (ds : List D) (ex : Addr → Prop), Rel ⟨K, W, H0, O⟩ A P σ H' ρ' s' → RepL K W.tok H' (fun a => avL ⟨K, W, H0, O⟩ A σ ρ' a ∧ ¬ ex a) vs ds → (∀ a, avO ⟨K, W, H0, O⟩ A σ ρ' a → ¬ ex a) → (∀ a, ex a → H' a ≠ none) → ItOk K W.tok J items vs ds → Q J H'
variable {tg : Expr}
theorem _root_.L2.PI.imp {t t' : TI} (h : PI X tg e t) (i : ∀ σ H Q, t' σ H Q → t σ H Q) : PI X tg e t' := ⟨fun pins s σ H Q I q => h.run pins s σ H Q I (i σ H Q q)⟩
def itemsF (f : Ev S) : EvL S := fun ρ s => match f ρ s with
  | some (.lst ds, ρ', s') => some (ds, ρ', s')
  | some (.tup ds, ρ', s') => some (ds, ρ', s')
  | _ => none
theorem itOk_list {K : PySem.W.Frag} {tk p : Addr} {items : List D} {xs : List V} {H0 : Hp} {av0 : Addr → Prop} (h : H0 p = some (.lst xs)) (rl : RepL K tk H0 av0 xs items) : ItOk K tk (Itl K p) items [.ref p] [.lst items] := by
  refine ⟨fun H => ∃ ys, ys.length = items.length ∧ H p = some (.lst ys), fun i H x H' => H' = H ∧ ∃ ys, H p = some (.lst ys) ∧ ys[i]? = some x, ⟨fun i H hi hg => ?_, fun H hg => ?_, fun i H x H' hi hg y => ?_⟩, fun H av r => ?_, fun i H x H' av d hav r y e => ?_⟩
  · obtain ⟨ys, e, hp⟩ := hg
    have hi' : i < ys.length := by rw [e]; exact hi
    exact ⟨ys, ys[i], .inl (.inl hp), by simp [hi']⟩
  · obtain ⟨ys, e, hp⟩ := hg
    exact ⟨ys, .inl (.inl hp), by omega⟩
  · obtain ⟨ys, e, hp⟩ := hg
    exact ⟨y.1, ys, hp, y.2 ys (.inl (.inl hp))⟩
  · cases r with
    | cons r _ =>
      cases r with
      | lst hp _ rl => exact ⟨_, rl.length, hp⟩
  · obtain ⟨rfl, ys, hp, hx⟩ := y
    refine ⟨Same.refl _, ?_⟩
    cases r with
    | cons r _ =>
      cases r with
      | lst hp' _ rl =>
        rw [hp] at hp'; cases hp'
        obtain ⟨d', e', r'⟩ := rl.get' hx
        rw [e] at e'; cases e'
        exact r'
theorem sqT_fun {K : PySem.W.Frag} {p : Addr} {xs : List V} (h : ∀ H, SqT K H p xs → True) : True := trivial
theorem si_val {f : Ev S} {fr : Bool} (he : PE X e (SE X.K W fr f)) : PI X tg e (SI X.K W (itemsF f)) := by
  refine ⟨fun pins s σ H Q I q => ?_⟩
  obtain ⟨H0, O, A, P, ρ, s1, items, ρ', s', r, e1, q⟩ := q
  unfold itemsF at e1
  split at e1
  · rename_i ds ρ1 s2 h
    cases e1
    refine (pi_list he).run pins s σ H Q I ⟨H0, O, A, P, ρ, s1, _, _, _, r, h, fun v H' ex r' _ => ?_⟩
    have rh := r'.head
    cases rh with
    | lst hp hn rl =>
      exact ⟨_, rfl, ⟨_, .inl (.inl hp)⟩, q _ H' [_] [.lst items] ex r'.tail (.cons (.lst hp hn rl) .nil) r'.hex (fun a => r'.pet _ List.mem_cons_self a) (itOk_list hp rl)⟩
  · rename_i ds ρ1 s2 h
    cases e1
    refine (pi_tup he).run pins s σ H Q I ⟨H0, O, A, P, ρ, s1, _, _, _, r, h, fun v H' ex r' _ => ?_⟩
    have rh := r'.head
    cases rh with
    | tup hp rl =>
      rename_i p xs _
      refine ⟨_, rfl, ⟨_, hp⟩, q _ H' [.ref p] [.tup items] ex r'.tail (.cons (.tup hp rl) .nil) r'.hex (fun a => r'.pet _ List.mem_cons_self a) ?_⟩
      refine ⟨fun H => ∃ ys, ys.length = items.length ∧ SqT X.K H p ys, fun i H x H' => H' = H ∧ ∀ ys, SqT X.K H p ys → ys[i]? = some x, ⟨fun i H hi hg => ?_, fun H hg => ?_, fun i H x H' hi hg y => y⟩, fun H av r => ?_, fun i H x H' av d hav r y e => ?_⟩
      · obtain ⟨ys, e, hp⟩ := hg
        have hi' : i < ys.length := by rw [e]; exact hi
        exact ⟨ys, ys[i], hp, by simp [hi']⟩
      · obtain ⟨ys, e, hp⟩ := hg
        exact ⟨ys, hp, by omega⟩
      · cases r with
        | cons r _ =>
          cases r with
          | tup hp rl => exact ⟨_, rl.length, hp⟩
      · obtain ⟨rfl, y⟩ := y
        refine ⟨Same.refl _, ?_⟩
        cases r with
        | cons r _ =>
          cases r with
          | tup hp' rl =>
            obtain ⟨d', e', r'⟩ := rl.get' (y _ hp')
            rw [e] at e'; cases e'
            exact r'
  · cases e1
def rngD (lo : Int) (n : Nat) : List D := (List.range n).map fun i => .int (lo + (i : Nat))
theorem rngD_length (lo : Int) (n : Nat) : (rngD lo n).length = n := by simp [rngD]
theorem rngD_get {lo : Int} {n i : Nat} {d : D} (h : (rngD lo n)[i]? = some d) : d = .int (lo + (i : Nat)) := by
  unfold rngD at h
  rw [List.getElem?_map] at h
  by_cases hi : i < n
  · rw [List.getElem?_range hi] at h
    simpa using h.symm
  · rw [List.getElem?_eq_none (by simpa using hi)] at h; simp at h
theorem itOk_rng {K : PySem.W.Frag} {tk : Addr} {lo : Int} {n : Nat} {vs : List V} {ds : List D} : ItOk K tk (Itr lo n) (rngD lo n) vs ds := by
  refine ⟨fun _ => True, YFn fun i => .int (lo + i), ?_, fun _ _ _ => trivial, fun i H x H' av d hav r y e => ?_⟩
  · rw [rngD_length]; exact walk_range
  · obtain ⟨rfl, rfl⟩ := y
    rw [rngD_get e]
    exact ⟨Same.refl _, .int _⟩
def rangeD : List D → Option (List D)
  | [.int j] => if j.natAbs ≤ 1000000 then some (rngD 0 j.toNat) else none
  | [.int i, .int j] => if i.natAbs ≤ 1000000 ∧ j.natAbs ≤ 1000000 then some (rngD i (j - i).toNat) else none
  | _ => none
def rangeL (g : EvL S) : EvL S := fun ρ s => match g ρ s with
  | some (ds, ρ', s') => match rangeD ds with
    | some xs => some (xs, ρ', s')
    | none => none
  | none => none
theorem si_range1 {p : Pos} {g : EvL S} (hg : Gl X "range") (hm : X.mg "range" = none) (ha : PA X [a] (SL X.K W g)) (hs : starEach [a] X.env = [(false, eval a X.env)]) (hl : ∀ ρ s xs ρ' s', g ρ s = some (xs, ρ', s') → xs.length = 1) : PI X tg (.Call (.Name "range" p) [a] [] pos) (SI X.K W (rangeL g)) :=
  (pi_range1 hg hm ha hs).imp fun σ H Q q => by
    obtain ⟨H0, O, A, P, ρ, s1, items, ρ', s', r, e1, q⟩ := q
    unfold rangeL at e1
    split at e1
    · rename_i ds ρ1 s2 h
      split at e1
      · rename_i xs h2
        cases e1
        refine ⟨H0, O, A, P, ρ, s1, ds, _, _, r, h, fun vs H' ex r' rl hx ht => ?_⟩
        have l1 := hl _ _ _ _ _ h
        unfold rangeD at h2
        split at h2
        · split at h2
          · rename_i hb
            cases h2
            cases rl with
            | cons r1 rl =>
              cases rl
              cases r1
              exact ⟨_, rfl, by omega, by omega, q _ H' [] [] ex r' .nil hx ht itOk_rng⟩
          · cases h2
        · simp at l1
        · cases h2
      · cases e1
    · cases e1
theorem si_range2 {p : Pos} {g : EvL S} (hg : Gl X "range") (hm : X.mg "range" = none) (ha : PA X [a, b] (SL X.K W g)) (hs : starEach [a, b] X.env = [(false, eval a X.env), (false, eval b X.env)]) (hs2 : starEach [b] X.env = [(false, eval b X.env)])
    (hl : ∀ ρ s xs ρ' s', g ρ s = some (xs, ρ', s') → xs.length = 2) : PI X tg (.Call (.Name "range" p) [a, b] [] pos) (SI X.K W (rangeL g)) :=
  (pi_range2 hg hm ha hs hs2).imp fun σ H Q q => by
    obtain ⟨H0, O, A, P, ρ, s1, items, ρ', s', r, e1, q⟩ := q
    unfold rangeL at e1
    split at e1
    · rename_i ds ρ1 s2 h
      split at e1
      · rename_i xs h2
        cases e1
        refine ⟨H0, O, A, P, ρ, s1, ds, _, _, r, h, fun vs H' ex r' rl hx ht => ?_⟩
        have l1 := hl _ _ _ _ _ h
        unfold rangeD at h2
        split at h2
        · simp at l1
        · split at h2
          · rename_i hb
            cases h2
            cases rl with
            | cons r1 rl =>
              cases rl with
              | cons r2 rl =>
                cases rl
                cases r1
                cases r2
                exact ⟨_, _, rfl, ⟨by omega, by omega, by omega, by omega⟩, q _ H' [] [] ex r' .nil hx ht itOk_rng⟩
          · cases h2
        · cases h2
      · cases e1
    · cases e1
end
end L3
end
section
set_option Elab.async false
set_option linter.all false
set_option maxRecDepth 100000
set_option autoImplicit false
/-! L3h0: enumerate over a tuple, walked by a for or a comprehension (own work). -/
namespace L3
open PySem PySem.Spec PyProof.Rows L2
abbrev tupIter (t : Addr) : Obj := { cls := .type "tuple_iterator", data := .fields #[.ref t, .int 0 0] }
abbrev enumObj (n : Addr) : Obj := { cls := .type "enumerate", data := .fields #[.none, .bool false, .ref n, rawInt 0, .none, .none] }
theorem meets_enumT (t : Addr) (items : Array Value) :
    Meets (Builtin.«enumerate.__new__» ⟨[.type "enumerate", .ref t], []⟩) (fun _ R s => s.heap.IsTuple t items ∧ R (.ok (.ret (.ref (s.heap.push (tupIter t)).objs.size))) { s with heap := (s.heap.push (tupIter t)).push (enumObj s.heap.objs.size) }) :=
  .of_wp fun prog w A R s z => by
    obtain ⟨hp, g, d, tk, os⟩ := s
    obtain ⟨hT, hR⟩ := z
    have sub := sub_enumerate
    have it : ∀ {A' : Around} {E : Value → Shared → Prop} {Q : Value → Shared → Prop}, Q (.ref hp.objs.size) ⟨hp.push (tupIter t), g, d, tk, os⟩ → wpAny (model prog w) A' (pyIter (.ref t)) Q E ⟨hp, g, d, tk, os⟩ :=
      fun q => wpAny_pyIter_tuple hT q
    wp_walk using it
    refine wpAny_stack_any fun _ => wpAny_pure ?_
    split
    · rename_i c _ _ _ _ _
      cases (c == Value.type "enumerate") <;> (wp_walk using it; exact ⟨_, rfl, hR⟩)
    · wp_walk using it
      exact ⟨_, rfl, hR⟩
section
variable {prog : Program} {w : World} {A : Around} {E : Value → Shared → Prop} {s : Shared}
theorem call_enumT {t : Addr} {items : Array Value} {Q : Value → Shared → Prop} (hT : s.heap.IsTuple t items)
    (h : ∀ h', IsEnum h' (s.heap.objs.size + 1) s.heap.objs.size 0 .none → h'.IsTupleIter s.heap.objs.size t 0 → h'.IsTuple t items → (∀ b o, s.heap.get? b = some o → h'.get? b = some o) → Q (.ref (s.heap.objs.size + 1)) { s with heap := h' }) :
    wpAny (model prog w) A (call (.type "enumerate") [.ref t]) Q E s := by
  refine callType_new F.called_enumerate (by decide) (F.typeCall_enumerate_1 _) (F.newCall_enumerate_1 _) (fun obj => F.args_object_init_2 obj _) F.entry_enumerate_new (meets_enumT t items) ⟨hT, ?_⟩
  have z1 : (s.heap.push (tupIter t)).objs.size = s.heap.objs.size + 1 := Heap.size_push ..
  show _ ∧ _
  rw [z1]
  have he : IsEnum ((s.heap.push (tupIter t)).push (enumObj s.heap.objs.size)) (s.heap.objs.size + 1) s.heap.objs.size 0 .none := by
    have q := Heap.get?_push_size (s.heap.push (tupIter t)) (o := enumObj s.heap.objs.size) rfl
    rw [z1] at q
    exact q
  have k : ∀ b o, s.heap.get? b = some o → ((s.heap.push (tupIter t)).push (enumObj s.heap.objs.size)).get? b = some o := fun b o x => Heap.get?_push_of_some _ (Heap.get?_push_of_some _ x)
  exact ⟨⟨_, he, rfl⟩, h _ he ⟨_, Heap.get?_push_of_some _ (Heap.get?_push_size _ rfl), rfl, rfl⟩ (hT.at fun o e => k t o e) k⟩
end
/-- the tuple at a, each item in a new pair with its place -/
def IteT (K : PySem.W.Frag) (a : Addr) : It :=
  ⟨fun i H => ∃ (xs : List V) (x : V), SqT K H a xs ∧ xs[i]? = some x, fun i H v H' => ∃ T x, v = .ref T ∧ H T = none ∧ H' = upd H T (.tup [.int (i : Nat), x]) ∧ ∀ xs, SqT K H a xs → xs[i]? = some x, fun i H => ∃ xs : List V, SqT K H a xs ∧ xs.length ≤ i⟩
theorem turn_enumT {P : Program} {w : World} {K : PySem.W.Frag} {elts : List Expr} {kk : Nat} {tpos : Pos} (a e it : Addr) (hai : a ≠ it) (hae : a ≠ e) :
    Turn P w K (.Tuple elts kk tpos) (IteT K a) [e, it] e (fun i h => (∃ old, IsEnum h e it ((i : Nat) : Int) old) ∧ h.IsTupleIter it a i ∧ e ≠ it) where
  mem := List.mem_cons_self
  obj := fun i h st b hb => by
    obtain ⟨⟨_, he⟩, ⟨o, ho, _, hd⟩, _⟩ := st
    rcases List.mem_cons.mp hb with rfl | hb
    · exact ⟨_, he, fun v q => nomatch q⟩
    · rw [List.mem_singleton.mp hb]
      exact ⟨o, ho, fun v q => by rw [hd] at q; exact nomatch q⟩
  keep := fun i h h' st k => ⟨let ⟨old, he⟩ := st.1; ⟨old, k e List.mem_cons_self _ he⟩, st.2.1.at fun o q => k it (List.mem_cons_of_mem _ List.mem_cons_self) o q, st.2.2⟩
  item := by
    rintro X rfl rfl rfl hc i pins s σ H E I hf ⟨⟨old, he⟩, hit, hne⟩ ⟨xs, x, hq, hx⟩
    obtain ⟨its, rv, p, hz⟩ := I.tuple hq
    obtain ⟨u, hu, ru⟩ := rv.get hx
    have hel : e < s.heap.objs.size := Heap.lt_size he
    have hil : it < s.heap.objs.size := by obtain ⟨_, q, _⟩ := hit; exact Heap.lt_size q
    have hT : s.heap.IsTuple a its.toArray := p
    have hlt : i < its.toArray.size := by
      obtain ⟨h1, _⟩ := List.getElem?_eq_some_iff.mp hu
      simpa using h1
    refine wpAny_pyNext_enum_itemD (i := i) (Draws.tuple (A := X.A.in1) (show X.A.in1.handled = none from I.ok.hd hc) it a hai its.toArray) he ⟨hit, hT⟩ hlt hne (by simp [hne, Ne.symm hae]) fun y h' tk hy ho hst hN hsz hk => ?_
    have ey : y = u := by
      have : its[i]? = some y := by simpa using hy
      rw [hu] at this; exact (Option.some.inj this).symm
    subst ey
    refine ⟨_, rfl, wpAny_letOwnedTupleGo_enum (s := { s with heap := h', toks := tk + 1 }) ho fun h2 he2 sb => ?_⟩
    have hN2 : h2.get? s.heap.objs.size = some { cls := .type "tuple", data := .seq #[.int i tk, y] } := (sb.2 _ (Nat.ne_of_gt hel)).trans hN
    have new : ObjOk X.prog X.w (upd H s.heap.objs.size (.tup [.int (i : Nat), x])) h2 s.heap.objs.size (.tup [.int (i : Nat), x]) :=
      ⟨by show 2 ≤ sizeLine; decide, [.int i tk, y], .cons ⟨_, rfl⟩ (.cons ru .nil), ⟨_, hN2, rfl, _, rfl⟩⟩
    have kb : ∀ b ob, b ∉ [e, it] → s.heap.get? b = some ob → h2.get? b = some ob := fun b ob hb q => by
      have b1 : b ≠ e := fun z => hb (by simp [z])
      have b2 : b ≠ it := fun z => hb (by simp [z])
      exact (sb.2 b b1).trans (hk b ob b1 b2 q)
    have I1 : Inv X pins σ (upd H s.heap.objs.size (.tup [.int (i : Nat), x])) { s with heap := h2, toks := tk + 1 } := I.turnedNew (ch := [e, it]) kb hf (Nat.le_refl _) new
    have he2 : IsEnum h2 e it ((i : Int) + 1) y := by simpa using he2
    have ei : ((i + 1 : Nat) : Int) = (i : Int) + 1 := by omega
    refine ⟨.ref s.heap.objs.size, _, I1, rfl, ⟨_, x, rfl, I.hok.fresh (Nat.le_refl _), rfl, fun ys hy => by rw [I.tuple_inj hy hq]; exact hx⟩, ⟨⟨y, by rw [ei]; exact he2⟩, hst.1.at fun o q => (sb.2 it (Ne.symm hne)).trans q, hne⟩, fun b hb => ?_⟩
    have hb' : b < s.heap.objs.size := by
      rcases List.mem_cons.mp hb with rfl | hb
      · exact hel
      · rw [List.mem_singleton.mp hb]; exact hil
    rw [upd_ne (Nat.ne_of_lt hb')]
    exact (hf b hb).1
  done := by
    rintro X rfl rfl rfl hc i pins s σ H E I hf ⟨⟨old, he⟩, hit, hne⟩ ⟨xs, hq, hx⟩
    obtain ⟨its, rv, p, hz⟩ := I.tuple hq
    have hT : s.heap.IsTuple a its.toArray := p
    have hl := rv.length
    obtain ⟨f0, f1, f2, f3, f4, f5⟩ := hf it (by simp)
    have fin : ∀ h', Heap.ExtBut it s.heap h' → (none : Option Value) = none ∧ Inv X pins σ H { s with heap := h' } := fun h' eb => ⟨rfl, I.turned (t' := s.toks) (fun b o hb q => eb b o hb q) f0 f1 f3 f4 f5⟩
    have hT := hT
    have hnone : its.toArray[i]? = none := by simp; omega
    have hI : s.TypeIs (.ref e) "enumerate" := ⟨_, he, rfl⟩
    unfold pyNext
    refine wpAny_bind (wpAny_attempt (wpAny_callSpecial?_slot (name := Str.ofString "__next__") hI F.slot_enumerate_next
      (wpAny_call_entry F.slot_enumerate_next hI F.entry_enumerate_next ?_ (F.args_enumerate_next_1 _))))
    show wpAny _ _ (field (.ref e) 2 >>= _) _ _ _
    refine wpAny_bind (wpAny_field he rfl (x := .ref it) rfl ?_)
    refine wpAny_bind (wpAny_nextOf_tuple_end (I.ok.hd hc) hit hT hnone fun h' x he' hx' => ?_)
    obtain ⟨o, ho, hcl⟩ := hx'
    refine wpAny_bind (wpAny_isInstance (T := "StopIteration") (b := true) ⟨o, ho, hcl⟩ isSubtype_stop ?_)
    exact wpAny_pure (fin _ he')
  self := fun A i s Q E st h => let ⟨⟨_, he⟩, _⟩ := st; wpAny_pyIter_enum he h
def iEnumA (K : PySem.W.Frag) (ta : TA) : TI := fun σ H R => ta σ H fun vs H1 => ∃ a xs, vs = [.ref a] ∧ ((SqL K H1 a xs ∧ R (Ite K a) H1) ∨ (SqT K H1 a xs ∧ R (IteT K a) H1))
theorem pi_enumA {X : Cx} {e : Expr} {ta : TA} {p pos tpos : Pos} {elts : List Expr} {kk : Nat} (hg : Gl X "enumerate") (hm : X.mg "enumerate" = none) (ha : PA X [e] ta) (hs : starEach [e] X.env = [(false, eval e X.env)]) :
    PI X (.Tuple elts kk tpos) (.Call (.Name "enumerate" p) [e] [] pos) (iEnumA X.K ta) := by
  refine ⟨fun pins s σ H R I h => ?_⟩
  have hpl : (backTo pos (starEach ([] : List Expr) X.env)).any (·.1) = false := rfl
  refine Call_ (ld_blt I hg hm boot_enumerate (PyProof.Rows.callWith_type1 (thn (ha.run pos pins s σ H _ I h) fun us s1 ⟨vs, H1, I1, r1, a, xs, ex, q⟩ => ?_) hs hpl))
  subst ex
  cases r1 with
  | cons r rr =>
    cases rr
    cases r
    have fr : ∀ b, b = s1.heap.objs.size + 1 ∨ b = s1.heap.objs.size → s1.heap.objs.size ≤ b := fun b z => by
      rcases z with z | z
      · rw [z]; exact Nat.le_succ _
      · rw [z]; exact Nat.le_refl _
    rcases q with ⟨hq, q⟩ | ⟨hq, q⟩
    · obtain ⟨its, rv, p', hz⟩ := I1.list hq
      refine call_enumerate_list p'.isList fun h' he hit hsz hk => wpAny_pyIter_enum he ?_
      have I2 : Inv X pins σ H1 { s1 with heap := h' } := I1.kept (t' := s1.toks) hk
      refine ⟨s1.heap.objs.size + 1, [s1.heap.objs.size + 1, s1.heap.objs.size], _, _, H1, rfl, I2, turn_enum a (s1.heap.objs.size + 1) s1.heap.objs.size, ⟨⟨.none, he⟩, hit, Nat.succ_ne_self _⟩, fun b hb => ?_, q⟩
      have hle := fr b (by simpa using hb)
      exact I1.fpOk hle (I1.hok.fresh hle)
    · obtain ⟨its, rv, p', hz⟩ := I1.tuple hq
      have hT : s1.heap.IsTuple a its.toArray := p'
      have hal : a < s1.heap.objs.size := p'.lt
      refine call_enumT hT fun h' he hit _ hk => wpAny_pyIter_enum he ?_
      have I2 : Inv X pins σ H1 { s1 with heap := h' } := I1.kept (t' := s1.toks) hk
      refine ⟨s1.heap.objs.size + 1, [s1.heap.objs.size + 1, s1.heap.objs.size], _, _, H1, rfl, I2, turn_enumT a (s1.heap.objs.size + 1) s1.heap.objs.size (Nat.ne_of_lt hal) (Nat.ne_of_lt (Nat.lt_succ_of_lt hal)), ⟨⟨.none, he⟩, hit, Nat.succ_ne_self _⟩, fun b hb => ?_, q⟩
      have hle := fr b (by simpa using hb)
      exact I1.fpOk hle (I1.hok.fresh hle)
end L3
end
section
set_option Elab.async false
set_option linter.all false
set_option maxRecDepth 100000
set_option autoImplicit false
/-! L3h: zip, enumerate, list comprehensions over pure data (own work). -/
namespace L3
open PySem PySem.Spec PyProof.Rows L2
section
variable {S : Type} {X : Cx} {W : Wd S} {e a b c tg : Expr} {es : List Expr} {pos : Pos}
theorem repL1 {K : PySem.W.Frag} {tk : Addr} {H : Hp} {av : Addr → Prop} {x : V} {d : D} (r : RepL K tk H av [x] [d]) : Rep K tk H av x d := by cases r with | cons r _ => exact r
theorem repL2 {K : PySem.W.Frag} {tk : Addr} {H : Hp} {av : Addr → Prop} {x y : V} {d e : D} (r : RepL K tk H av [x, y] [d, e]) : Rep K tk H av x d ∧ Rep K tk H av y e := by
  cases r with
  | cons r q => exact ⟨r, repL1 q⟩
/-- a new pair -/
theorem pair_rep {K : PySem.W.Frag} {tk T : Addr} {H : Hp} {av : Addr → Prop} {x y : V} {d e : D} (hT : H T = none) (rx : Rep K tk H av x d) (ry : Rep K tk H av y e) : Same H (upd H T (.tup [x, y])) ∧ Rep K tk (upd H T (.tup [x, y])) av (.ref T) (.tup [d, e]) := by
  have k := same_upd (o := .tup [x, y]) hT
  exact ⟨k, .tup (.inl (.inl upd_same)) (.cons (rx.same k) (.cons (ry.same k) .nil))⟩
def enumD (i : Nat) : List D → List D
  | [] => []
  | d :: ds => .tup [.int (i : Nat), d] :: enumD (i + 1) ds
theorem enumD_length : ∀ (i : Nat) (ds : List D), (enumD i ds).length = ds.length
  | _, [] => rfl
  | i, _ :: ds => by simp [enumD, enumD_length (i + 1) ds]
theorem enumD_get : ∀ {i : Nat} {ds : List D} {j : Nat} {d : D}, (enumD i ds)[j]? = some d → ∃ e, ds[j]? = some e ∧ d = .tup [.int ((i + j : Nat) : Int), e]
  | i, [], j, d, h => by simp [enumD] at h
  | i, e :: ds, 0, d, h => by
    simp [enumD] at h
    exact ⟨e, rfl, by rw [← h]; rfl⟩
  | i, e :: ds, j + 1, d, h => by
    simp only [enumD, List.getElem?_cons_succ] at h
    obtain ⟨e', h1, h2⟩ := enumD_get h
    exact ⟨e', by simpa using h1, by rw [h2, show i + 1 + j = i + (j + 1) by omega]⟩
def seqD : D → Option (List D)
  | .lst ds => some ds
  | .tup ds => some ds
  | _ => none
def enumL (g : EvL S) : EvL S := fun ρ s => match g ρ s with
  | some ([d], ρ', s') => match seqD d with
    | some ds => some (enumD 0 ds, ρ', s')
    | none => none
  | _ => none
theorem si_enum {p tpos : Pos} {elts : List Expr} {kk : Nat} {g : EvL S} (hg : Gl X "enumerate") (hm : X.mg "enumerate" = none) (ha : PA X [a] (SL X.K W g)) (hs : starEach [a] X.env = [(false, eval a X.env)]) :
    PI X (.Tuple elts kk tpos) (.Call (.Name "enumerate" p) [a] [] pos) (SI X.K W (enumL g)) := (pi_enumA hg hm ha hs).imp fun σ H Q q => by
  obtain ⟨H0, O, A, P, ρ, s1, items, ρ', s', r, e1, q⟩ := q
  unfold enumL at e1
  split at e1
  · rename_i d ρ1 s2 h
    split at e1
    · rename_i ds hd
      cases e1
      refine ⟨H0, O, A, P, ρ, s1, _, _, _, r, h, fun vs H' ex r' rl hx ht => ?_⟩
      cases d with
      | lst es =>
        cases hd
        cases rl with
        | cons rl1 rl2 =>
          cases rl2
          have rl1' := rl1
          cases rl1 with
          | lst hp hn rl =>
            rename_i p xs
            refine ⟨p, xs, rfl, .inl ⟨.inl (.inl hp), q _ H' [.ref p] [.lst ds] ex r' (.cons rl1' .nil) hx ht ?_⟩⟩
            refine ⟨fun H => ∃ ys, ys.length = ds.length ∧ H p = some (.lst ys), (Ite X.K p).yld, ⟨fun i H hi hg => ?_, fun H hg => ?_, fun _ _ _ _ _ _ y => y⟩, fun H av r => ?_, fun i H x H' av d hav r y e => ?_⟩
            · obtain ⟨ys, e, hp⟩ := hg
              have hi' : i < ys.length := by rw [e]; rwa [enumD_length] at hi
              exact ⟨ys, ys[i], .inl (.inl hp), by simp [hi']⟩
            · obtain ⟨ys, e, hp⟩ := hg
              exact ⟨ys, .inl (.inl hp), by rw [enumD_length]; omega⟩
            · cases repL1 r with
              | lst hp _ rl => exact ⟨_, rl.length, hp⟩
            · obtain ⟨T, u, rfl, hT, rfl, hu⟩ := y
              obtain ⟨e0, h1, rfl⟩ := enumD_get e
              cases repL1 r with
              | lst hp' _ rl =>
                obtain ⟨d', h2, r'⟩ := rl.get' (hu _ (.inl (.inl hp')))
                rw [h1] at h2; cases h2
                have e0 : ((0 + i : Nat) : Int) = (i : Nat) := by omega
                rw [e0]
                exact pair_rep hT (.int _) r'
      | tup es =>
        cases hd
        cases rl with
        | cons rl1 rl2 =>
          cases rl2
          have rl1' := rl1
          cases rl1 with
          | tup hp rl =>
            rename_i p xs
            refine ⟨p, xs, rfl, .inr ⟨hp, q _ H' [.ref p] [.tup ds] ex r' (.cons rl1' .nil) hx ht ?_⟩⟩
            refine ⟨fun H => ∃ ys, ys.length = ds.length ∧ SqT X.K H p ys, (IteT X.K p).yld, ⟨fun i H hi hg => ?_, fun H hg => ?_, fun _ _ _ _ _ _ y => y⟩, fun H av r => ?_, fun i H x H' av d hav r y e => ?_⟩
            · obtain ⟨ys, e, hp⟩ := hg
              have hi' : i < ys.length := by rw [e]; rwa [enumD_length] at hi
              exact ⟨ys, ys[i], hp, by simp [hi']⟩
            · obtain ⟨ys, e, hp⟩ := hg
              exact ⟨ys, hp, by rw [enumD_length]; omega⟩
            · cases repL1 r with
              | tup hp rl => exact ⟨_, rl.length, hp⟩
            · obtain ⟨T, u, rfl, hT, rfl, hu⟩ := y
              obtain ⟨e0, h1, rfl⟩ := enumD_get e
              cases repL1 r with
              | tup hp' rl =>
                obtain ⟨d', h2, r'⟩ := rl.get' (hu _ hp')
                rw [h1] at h2; cases h2
                have e0 : ((0 + i : Nat) : Int) = (i : Nat) := by omega
                rw [e0]
                exact pair_rep hT (.int _) r'
      | _ => cases hd
    · cases e1
  · cases e1
def zipD : List D → List D → List D
  | d :: ds, e :: es => .tup [d, e] :: zipD ds es
  | _, _ => []
theorem zipD_length : ∀ (ds es : List D), (zipD ds es).length = min ds.length es.length
  | [], _ => by simp [zipD]
  | _ :: _, [] => by simp [zipD]
  | _ :: ds, _ :: es => by simp only [zipD, List.length_cons, zipD_length ds es]; omega
theorem zipD_get : ∀ {ds es : List D} {j : Nat} {d : D}, (zipD ds es)[j]? = some d → ∃ x y, ds[j]? = some x ∧ es[j]? = some y ∧ d = .tup [x, y]
  | [], _, j, d, h => by simp [zipD] at h
  | _ :: _, [], j, d, h => by simp [zipD] at h
  | x :: ds, y :: es, 0, d, h => by
    simp [zipD] at h
    exact ⟨x, y, rfl, rfl, h.symm⟩
  | x :: ds, y :: es, j + 1, d, h => by
    simp only [zipD, List.getElem?_cons_succ] at h
    obtain ⟨x', y', h1, h2, h3⟩ := zipD_get h
    exact ⟨x', y', by simpa using h1, by simpa using h2, h3⟩
def zipL (g : EvL S) : EvL S := fun ρ s => match g ρ s with
  | some ([.lst ds, .lst es], ρ', s') => some (zipD ds es, ρ', s')
  | some ([.tup ds, .tup es], ρ', s') => some (zipD ds es, ρ', s')
  | _ => none
theorem si_zip {p tpos : Pos} {elts : List Expr} {kk : Nat} {g : EvL S} (hg : Gl X "zip") (hm : X.mg "zip" = none) (ha : PA X [a, b] (SL X.K W g)) (hs : starEach [a, b] X.env = (false, eval a X.env) :: starEach [b] X.env) (hpl : (backTo pos (starEach [b] X.env)).any (·.1) = false) :
    PI X (.Tuple elts kk tpos) (.Call (.Name "zip" p) [a, b] [] pos) (SI X.K W (zipL g)) := (RZ.pi_zipA hg hm ha hs hpl).imp fun σ H Q q => by
  obtain ⟨H0, O, A, P, ρ, s1, items, ρ', s', r, e1, q⟩ := q
  unfold zipL at e1
  split at e1
  · rename_i ds es ρ1 s2 h
    cases e1
    refine ⟨H0, O, A, P, ρ, s1, _, _, _, r, h, fun vs H' ex r' rl hx ht => ?_⟩
    have rl0 := rl
    cases rl with
    | cons rl1 rl2 =>
      cases rl2 with
      | cons rl2 rl3 =>
        cases rl3
        cases rl1 with
        | lst hp hn rl =>
          rename_i p xs
          cases rl2 with
          | lst hp' hn' rl' =>
            rename_i p' xs'
            refine ⟨p, p', xs, xs', rfl, .inl ⟨.inl (.inl hp), .inl (.inl hp'), q _ H' _ _ ex r' rl0 hx ht ?_⟩⟩
            refine ⟨fun H => ∃ ys zs, ys.length = ds.length ∧ zs.length = es.length ∧ H p = some (.lst ys) ∧ H p' = some (.lst zs), (Itz X.K p p').yld, ⟨fun i H hi hg => ?_, fun H hg => ?_, fun _ _ _ _ _ _ y => y⟩, fun H av r => ?_, fun i H x H' av d hav r y e => ?_⟩
            · obtain ⟨ys, zs, e1, e2, q1, q2⟩ := hg
              rw [zipD_length] at hi
              have h1 : i < ys.length := by omega
              have h2 : i < zs.length := by omega
              exact ⟨ys, zs, ys[i], zs[i], .inl (.inl q1), .inl (.inl q2), by simp [h1], by simp [h2]⟩
            · obtain ⟨ys, zs, e1, e2, q1, q2⟩ := hg
              exact ⟨ys, zs, .inl (.inl q1), .inl (.inl q2), by rw [zipD_length]; omega⟩
            · obtain ⟨r1, r2⟩ := repL2 r
              cases r1 with
              | lst q1 _ l1 =>
                cases r2 with
                | lst q2 _ l2 => exact ⟨_, _, l1.length, l2.length, q1, q2⟩
            · obtain ⟨T, u, w, rfl, hT, rfl, hu, hw⟩ := y
              obtain ⟨x1, y1, g1, g2, rfl⟩ := zipD_get e
              obtain ⟨r1, r2⟩ := repL2 r
              cases r1 with
              | lst q1 _ l1 =>
                cases r2 with
                | lst q2 _ l2 =>
                  obtain ⟨d1, k1, t1⟩ := l1.get' (hu _ (.inl (.inl q1)))
                  obtain ⟨d2, k2, t2⟩ := l2.get' (hw _ (.inl (.inl q2)))
                  rw [g1] at k1; cases k1
                  rw [g2] at k2; cases k2
                  exact pair_rep hT t1 t2
  · rename_i ds es ρ1 s2 h
    cases e1
    refine ⟨H0, O, A, P, ρ, s1, _, _, _, r, h, fun vs H' ex r' rl hx ht => ?_⟩
    have rl0 := rl
    cases rl with
    | cons rl1 rl2 =>
      cases rl2 with
      | cons rl2 rl3 =>
        cases rl3
        cases rl1 with
        | tup hp rl =>
          rename_i p xs
          cases rl2 with
          | tup hp' rl' =>
            rename_i p' xs'
            refine ⟨p, p', xs, xs', rfl, .inr ⟨hp, hp', q _ H' _ _ ex r' rl0 hx ht ?_⟩⟩
            refine ⟨fun H => ∃ ys zs, ys.length = ds.length ∧ zs.length = es.length ∧ SqT X.K H p ys ∧ SqT X.K H p' zs, (RZ.ItzT X.K p p').yld, ⟨fun i H hi hg => ?_, fun H hg => ?_, fun _ _ _ _ _ _ y => y⟩, fun H av r => ?_, fun i H x H' av d hav r y e => ?_⟩
            · obtain ⟨ys, zs, e1, e2, q1, q2⟩ := hg
              rw [zipD_length] at hi
              have h1 : i < ys.length := by omega
              have h2 : i < zs.length := by omega
              exact ⟨ys, zs, ys[i], zs[i], q1, q2, by simp [h1], by simp [h2]⟩
            · obtain ⟨ys, zs, e1, e2, q1, q2⟩ := hg
              exact ⟨ys, zs, q1, q2, by rw [zipD_length]; omega⟩
            · obtain ⟨r1, r2⟩ := repL2 r
              cases r1 with
              | tup q1 l1 =>
                cases r2 with
                | tup q2 l2 => exact ⟨_, _, l1.length, l2.length, q1, q2⟩
            · obtain ⟨T, u, w, rfl, hT, rfl, hu, hw⟩ := y
              obtain ⟨x1, y1, g1, g2, rfl⟩ := zipD_get e
              obtain ⟨r1, r2⟩ := repL2 r
              cases r1 with
              | tup q1 l1 =>
                cases r2 with
                | tup q2 l2 =>
                  obtain ⟨d1, k1, t1⟩ := l1.get' (hu _ q1)
                  obtain ⟨d2, k2, t2⟩ := l2.get' (hw _ q2)
                  rw [g1] at k1; cases k1
                  rw [g2] at k2; cases k2
                  exact pair_rep hT t1 t2
  · cases e1
/-! ### list comprehensions -/
def yesB : EvB S := fun ρ s => some (true, ρ, s)
def turns (own : List Nat) (tg : D → En → Option En) (cond : EvB S) (elt : Ev S) : List D → List D → En → S → Option (List D × En × S)
  | [], acc, ρ, s => some (acc, ρ, s)
  | d :: ds, acc, ρ, s => match tg d (wipeE ρ own) with
    | some ρ1 => match cond ρ1 s with
      | some (true, ρ2, s2) => match elt ρ2 s2 with
        | some (y, ρ3, s3) => if acc.length < sizeLine then turns own tg cond elt ds (acc ++ [y]) (if noL y then ρ3 else freeze ρ3) s3 else none
        | none => none
      | some (false, ρ2, s2) => turns own tg cond elt ds acc ρ2 s2
      | none => none
    | none => none
def noOwn (own : List Nat) (ρ : En) : Bool := own.all fun i => match ρ[i]? with
  | some (.ownD _ _) => false
  | _ => true
def compF (own : List Nat) (it : EvL S) (tg : D → En → Option En) (cond : EvB S) (elt : Ev S) : Ev S := fun ρ s => match it ρ s with
  | some (items, ρ1, s1) => if noOwn own ρ1 then match turns own tg cond elt items [] ρ1 s1 with
      | some (acc, ρ2, s2) => some (.lst acc, backE ρ1 own (wipeE ρ2 own), s2)
      | none => none
    else none
  | none => none
theorem wipe_ext {σ σ' : L2.St} : ∀ {vs : List Nat}, σ.length = σ'.length → (∀ i, i ∉ vs → σ[i]? = σ'[i]?) → wipe σ vs = wipe σ' vs := by
  intro vs hl h
  refine List.ext_getElem? fun i => ?_
  by_cases hi : i ∈ vs
  · have key : ∀ (τ : L2.St) (ws : List Nat), i ∈ ws → (wipe τ ws)[i]? = if i < τ.length then some none else none := by
      intro τ ws
      induction ws with
      | nil => intro z; simp at z
      | cons v ws ih =>
        intro z
        show ((wipe τ ws).set v none)[i]? = _
        by_cases hv : v = i
        · subst hv
          by_cases hlt : v < τ.length
          · rw [List.getElem?_set_self (by rw [wipe_length]; exact hlt), if_pos hlt]
          · rw [List.getElem?_eq_none (by rw [List.length_set, wipe_length]; omega), if_neg hlt]
        · rw [List.getElem?_set_ne hv]
          exact ih (by rcases List.mem_cons.mp z with z | z; exact absurd z.symm hv; exact z)
    rw [key σ vs hi, key σ' vs hi, hl]
  · rw [wipe_out hi, wipe_out hi, h i hi]
theorem wipe_wipe {σ : L2.St} {vs : List Nat} : wipe (wipe σ vs) vs = wipe σ vs := wipe_ext (wipe_length _ _) fun i hi => wipe_out hi
theorem comp_val {own gs : List Nat} {fit : EvL S} {ftg : D → En → Option En} {fc : EvB S} {fe : Ev S} {fr fr' : Bool} {K : PySem.W.Frag} (hgs : ∀ i ∈ gs, i ∈ own) {σ : L2.St} {H : Hp} {Q : VK} (h : SE K W fr (compF own fit ftg fc fe) σ H Q) :
    tLc (SI K W fit) (SG K W gs ftg) (SB K W fc) (SE K W fr' fe) own σ H Q := by
  obtain ⟨H0, O, A, P, ρ, s, d, ρ', s', r0, e, q⟩ := h
  unfold compF at e
  split at e
  · rename_i items ρ1 s1 h1
    split at e
    · rename_i hno
      split at e
      · rename_i acc ρ2 s2 h2
        cases e
        refine ⟨H0, O, A, P, ρ, s, items, ρ1, s1, r0, h1, fun J H1 vs ds ex r1 rl hx ht ok => ?_⟩
        obtain ⟨G, Y, wk, hG, hY⟩ := ok
        intro D hD
        have hval : ∀ (v : Nat) d, ρ1[v]? = some (.val d) → ∃ x, σ[v]? = some (some x) := fun v d e => let ⟨x, e1, _⟩ := r1.val v d e; ⟨x, e1⟩
        have hown : ∀ v ∈ own, ∀ t ds, ρ1[v]? ≠ some (.ownD t ds) := fun v hv t ds z => by
          have := List.all_eq_true.mp hno v hv
          rw [z] at this
          exact Bool.false_ne_true this
        have hl : vs.length = ds.length := rl.length
        -- what waits through the loop
        have r2 : Rel ⟨K, W, H0, O⟩ A (⟨.non, .non, ex⟩ :: (pds vs ds ex ++ (pendE ρ1 σ own ++ P))) σ H1 ρ1 s1 :=
          (Rel.pushL hx ht (r1.pendOwn own) rl).push .non hx ht
        have r3 := (r2.accNew (p := D) hD).wipe own
        refine lc_it wk (fun i H => ∃ ρi si acci, Rel ⟨K, W, H0, O⟩ ((D, .lst acci) :: A) (⟨.non, .non, ex⟩ :: (pds vs ds ex ++ (pendE ρ1 σ own ++ P))) (wipe σ own) H (wipeE ρi own) si ∧ turns own ftg fc fe (items.drop i) acci ρi si = some (acc, ρ2, s')) ?_ ?_ ?_ ?_
        · exact ⟨ρ1, s1, [], r3, h2⟩
        · rintro i H _ ⟨ρi, si, acci, ri, _⟩
          exact hG H _ (Rel.popL hl ri.tail).1
        · rintro i x H H' hi ⟨ρi, si, acci, ri, ti⟩ y
          have hid : items[i]? = some items[i] := List.getElem?_eq_getElem hi
          have hdrop : items.drop i = items[i] :: items.drop (i + 1) := List.drop_eq_getElem_cons hi
          rw [hdrop] at ti
          obtain ⟨rlI, _⟩ := Rel.popL hl ri.tail
          obtain ⟨k, rx⟩ := hY i H x H' _ _ (fun a z => ri.avT z.1) rlI y hid
          have ri' := ri.same k
          have rp := ri'.push (p := ⟨x, items[i], ex⟩) rx ri'.hex fun a z => ri'.pet _ List.mem_cons_self a z
          unfold turns at ti
          split at ti
          · rename_i ρa ha
            refine ⟨H0, O, _, _, _, si, items[i], ex, ρa, rp, ha, fun σ2 r4 k4 l4 => ⟨?_, ?_⟩⟩
            · have := wipe_ext (σ := σ2) (σ' := wipe σ own) (vs := own) l4 fun j hj => k4 j fun z => hj (hgs j z)
              rw [this, wipe_wipe]
            · have w2 : wipe σ2 own = wipe σ own := by
                have := wipe_ext (σ := σ2) (σ' := wipe σ own) (vs := own) l4 fun j hj => k4 j fun z => hj (hgs j z)
                rw [this, wipe_wipe]
              split at ti
              · rename_i ρb sb hb
                split at ti
                · rename_i y ρc sc hc
                  split at ti
                  · rename_i hz
                    refine ⟨H0, O, _, _, ρa, si, true, ρb, sb, r4, hb, fun H5 r5 => iteT ?_⟩
                    refine ⟨H0, O, _, _, ρb, sb, y, ρc, sc, r5, hc, fun v H6 ex6 r6 _ => ?_⟩
                    have fin : ∀ ρd, Rel ⟨K, W, H0, O⟩ ((D, .lst acci) :: A) (⟨.non, .non, ex⟩ :: (pds vs ds ex ++ (pendE ρ1 σ own ++ P))) σ2 H6 ρd sc → Rep K W.tok H6 (avL ⟨K, W, H0, O⟩ ((D, .lst acci) :: A) σ2 ρd) v y → turns own ftg fc fe (items.drop (i + 1)) (acci ++ [y]) ρd sc = some (acc, ρ2, s') →
                        ∃ acc', H6 D = some (.lst acc') ∧ acc'.length < sizeLine ∧ ∃ ρi si acci, Rel ⟨K, W, H0, O⟩ ((D, .lst acci) :: A) (⟨.non, .non, ex⟩ :: (pds vs ds ex ++ (pendE ρ1 σ own ++ P))) (wipe σ own) (upd H6 D (.lst (acc' ++ [v]))) (wipeE ρi own) si ∧ turns own ftg fc fe (items.drop (i + 1)) acci ρi si = some (acc, ρ2, s') := fun ρd rd ry td => by
                      obtain ⟨_, hp, ⟨xs, rfl, hxs⟩, _⟩ := rd.acc D _ List.mem_cons_self
                      refine ⟨xs, hp, by rw [hxs.length]; exact hz, ρd, sc, acci ++ [y], ?_, td⟩
                      have := (rd.accSet (xs' := xs ++ [v]) (ds' := acci ++ [y]) (hxs.append (.cons ry .nil))).wipe own
                      rwa [w2] at this
                    by_cases hy : noL y = true
                    · rw [if_pos hy] at ti
                      exact fin ρc r6.tail (r6.head.free hy) ti
                    · rw [if_neg hy] at ti
                      exact fin (freeze ρc) r6.tail.freeze (r6.headO.mono fun a z => freeze_avL z) ti
                  · cases ti
                · cases ti
              · rename_i ρb sb hb
                refine ⟨H0, O, _, _, ρa, si, false, ρb, sb, r4, hb, fun H5 r5 => iteF ?_⟩
                have := r5.wipe own
                rw [w2] at this
                exact ⟨ρb, sb, acci, this, ti⟩
              · cases ti
          · cases ti
        · rintro H ⟨ρi, si, acci, ri, ti⟩
          rw [List.drop_length] at ti
          cases ti
          obtain ⟨xs, hp, r5, rl5⟩ := ri.accOut
          have r6 : Rel ⟨K, W, H0, O⟩ A (pendE ρ1 σ own ++ P) (wipe σ own) (less H D) (wipeE ρ2 own) s' := (Rel.popL hl r5.tail).2
          have r7 := Rel.back hval hown r6
          rw [backS_eq (wipe_length _ _) fun i hi => wipe_out hi] at r7
          have hlk : ∀ a, lockA σ (backE ρ1 own (wipeE ρ2 own)) a → lockA (wipe σ own) (wipeE ρ2 own) a := by
            rintro a ⟨i, t, es, e1, e2⟩
            have bk : ∀ (vs : List Nat) (τ : En), (∀ v ∈ vs, ∀ t ds, ρ1[v]? ≠ some (.ownD t ds)) → (backE ρ1 vs τ)[i]? = some (.ownD t es) → i ∉ vs ∧ τ[i]? = some (.ownD t es) := by
              intro vs
              induction vs with
              | nil => intro τ _ z; exact ⟨by simp, z⟩
              | cons v vs ih =>
                intro τ ho z
                obtain ⟨h1, h2⟩ := ih _ (fun w hw => ho w (List.mem_cons_of_mem _ hw)) z
                obtain ⟨h3, h4⟩ := set_own (fun t ds z => by
                  have hv := ho v List.mem_cons_self
                  rw [List.getD_eq_getElem?_getD] at z
                  cases h : ρ1[v]? with
                  | none => rw [h] at z; exact nomatch z
                  | some y => rw [h] at z; exact hv t ds (by rw [h]; exact congrArg some z)) h2
                exact ⟨by simp only [List.mem_cons, not_or]; exact ⟨h3, h1⟩, h4⟩
            obtain ⟨h1, h2⟩ := bk own _ hown e1
            exact ⟨i, t, es, h2, by rw [wipe_out h1]; exact e2⟩
          have rl6 : RepL K W.tok (less H D) (fun a => avL ⟨K, W, H0, O⟩ A σ (backE ρ1 own (wipeE ρ2 own)) a ∧ ¬ noEx a) xs acc := rl5.mono fun a z => by
            rcases z.1 with z | z | z | z
            · exact .inl z
            · exact .inr (.inl z)
            · exact .inr (.inr (.inl (hlk a z)))
            · exact .inr (.inr (.inr z))
          have eH : upd (less H D) D (.lst xs) = H := less_upd hp
          have fin := fin_val (fr := fr) r7 (fun a _ (z : noEx a) => z) (fun a (z : noEx a) => z.elim) q
          have := VQ.lst fin (fun a z => r7.avT z.1) rl6 (p := D) less_self
          rwa [eH] at this
      · cases e
    · cases e
  · cases e
theorem se_comp {own : List (Str × Nat)} {gs : List Nat} {elt iter : Expr} {ifs : List Expr} {scope : Scope} {fit : EvL S} {ftg : D → En → Option En} {fc : EvB S} {fe : Ev S} {fr : Bool} (hc : X.calm = true) (hN : X.N.Nodup) (hi : PI X tg iter (SI X.K W fit)) (ok : BlkOk X.N X.env.scope scope own)
    (hg : ∀ (s : Shared) (H : Hp) (C : Addr) (cl : List (Str × Addr)) (fp : List Addr), PG (X.blk s H scope (compEnvC scope cl C X.env) fp) tg (SG X.K W gs ftg)) (hgs : ∀ i ∈ gs, i ∈ own.map (·.2))
    (ht : ∀ (s : Shared) (H : Hp) (C : Addr) (cl : List (Str × Addr)) (fp : List Addr), PTs (X.blk s H scope (compEnvC scope cl C X.env) fp) ifs (SB X.K W fc))
    (he : ∀ (s : Shared) (H : Hp) (C : Addr) (cl : List (Str × Addr)) (fp : List Addr), PE (X.blk s H scope (compEnvC scope cl C X.env) fp) elt (SE X.K W fr fe)) (hs : ∀ x, foldedSetIterable iter X.env x = pure x) :
    PE X (.ListComp elt [⟨tg, iter, ifs, 0⟩] scope pos) (SE X.K W true (compF (own.map (·.2)) fit ftg fc fe)) := (pe_lc hc hN hi ok hg ht he hs).imp fun σ H Q q => comp_val hgs q
theorem sbs_nil : PTs X [] (SB X.K W yesB) := ⟨fun pins s σ H Q I q => pts_nil.run pins s σ H Q I (by
  obtain ⟨H0, O, A, P, ρ, s1, k, ρ', s', r, e, q⟩ := q
  cases e
  exact q H r)⟩
theorem sbs_one {f : EvB S} (h : PT X c (SB X.K W f)) : PTs X [c] (SB X.K W f) := pts_one h
end
end L3
end
section
set_option Elab.async false
set_option linter.all false
set_option maxRecDepth 100000
set_option autoImplicit false
/-! L3i: a frame's own lists changed; statements, loops, defs over pure data (own work). -/
namespace L3
open PySem PySem.Spec PyProof.Rows L2
inductive Out where
  | nx | bk | ct | rt (d : D)
  deriving Inhabited
abbrev Ss (S : Type) := En → S → Option (Out × En × S)
section
variable {S : Type} {X : Cx} {W : Wd S} {e a b c tg : Expr} {es : List Expr} {pos : Pos}
/-! ### own lists -/
def appendF (i : Nat) (g : EvL S) : Ev S := fun ρ s => match ρ[i]? with
  | some (.ownD _ (.lst _)) => match g ρ s with
    | some ([y], ρ1, s1) => match ρ1[i]? with
      | some (.ownD false (.lst ds)) => if ds.length < sizeLine then some (.non, (if noL y then ρ1 else freeze ρ1).set i (.own false (ds ++ [y])), s1) else none
      | _ => none
    | _ => none
  | _ => none
theorem tyList {K : PySem.W.Frag} {H : Hp} {p : Addr} {xs : List V} (h : H p = some (.lst xs)) : tyV K "list" (.ref p) H := .inl ⟨rfl, _, .inl (.inl h)⟩
theorem freeze_set_own {ρ : En} {i : Nat} {ds : List D} (h : ρ[i]? = some (.own false ds)) : (freeze ρ)[i]? = some (.own false ds) := by rw [freeze_get, h]; rfl
theorem se_append {i : Nat} {x : Str} {px pa : Pos} {g : EvL S} (hx : PE X (.Name x px) (tVar i)) (ha : PA X [e] (SL X.K W g)) (hbase : attributeBase (.Name x px) "append" X.env (eval (.Name x px) X.env) = eval (.Name x px) X.env)
    (hfew : ((backTo pos (starEach [e] X.env)).all (fun x => !x.1) && (backToKw pos (keywordEach [] X.env)).all (fun x => x.1.isSome) && decide (([e] : List Expr).length + ([] : List Keyword).length + (if ([] : List Keyword).isEmpty then 0 else 1) < 30)) = true)
    (hline : (pa.endLine == pos.line) = true) (hs : starEach [e] X.env = (false, eval e X.env) :: starEach [] X.env) : PE X (.Call (.Attribute (.Name x px) "append" pa) [e] [] pos) (SE X.K W false (appendF i g)) :=
  (pe_bm PySem.F.plainAttrs_list PySem.F.slot_list_append PySem.F.type_list_append mt_append hx ha hbase hfew hline hs rfl).imp fun σ H Q q => by
    obtain ⟨H0, O, A, P, ρ, s, d, ρ', s', r, e, q⟩ := q
    unfold appendF at e
    split at e
    · rename_i t0 ds0 h0
      obtain ⟨p, xs0, hp, hH, _, _⟩ := r.lstL i _ _ h0
      refine ⟨_, hp, tyList hH, ?_⟩
      split at e
      · rename_i y ρ1 s1 h1
        split at e
        · rename_i ds h2
          split at e
          · rename_i hz
            cases e
            refine ⟨H0, O, A, P, ρ, s, [y], ρ1, _, r, h1, fun vs H1 ex r1 rl hx ht => ?_⟩
            cases rl with
            | cons ry rl =>
              rename_i v vs
              cases rl
              obtain ⟨p', xs, hp', hH', hxs, _⟩ := r1.lstL i _ _ h2
              rw [hp] at hp'; cases hp'
              refine ⟨p, xs, v, rfl, rfl, hH', by rw [hxs.length]; exact hz, ?_⟩
              have fin : ∀ ρd, Rel ⟨X.K, W, H0, O⟩ A P σ H1 ρd s' → ρd[i]? = some (.own false ds) → Rep X.K W.tok H1 (avL ⟨X.K, W, H0, O⟩ A σ ρd) v y → Rel ⟨X.K, W, H0, O⟩ A (⟨.non, .non, noEx⟩ :: P) σ (upd H1 p (.lst (xs ++ [v]))) (ρd.set i (.own false (ds ++ [y]))) s' := fun ρd rd hd ry => by
                obtain ⟨p2, xs2, hp2, hH2, hxs2, _⟩ := rd.lstL i _ _ hd
                rw [hp] at hp2; cases hp2
                rw [hH'] at hH2; cases hH2
                exact (rd.write hd hp (hxs2.append (.cons ry .nil))).push .non (fun _ _ z => z) fun _ z => z.elim
              by_cases hy : noL y = true
              · rw [if_pos hy] at q
                exact q .non _ noEx (fin ρ1 r1 h2 (ry.free hy)) fun z => Bool.noConfusion z
              · rw [if_neg hy] at q
                refine q .non _ noEx (fin (freeze ρ1) r1.freeze (freeze_set_own h2) (ry.mono fun a z => ?_)) fun z => Bool.noConfusion z
                have := freeze_avL z
                exact ⟨avO_avL this, hx a this⟩
          · cases e
        · cases e
      · cases e
    · cases e
def popF (i : Nat) : Ev S := fun ρ s => match ρ[i]? with
  | some (.ownD false (.lst ds)) => match ds[ds.length - 1]? with
    | some y => some (y, ρ.set i (.own false ds.dropLast), s)
    | none => none
  | _ => none
theorem popped {R : Fx S} {A : Acc} {P : List Pd} {σ : L2.St} {H : Hp} {ρ : En} {s : S} {i : Nat} {p : Addr} {xs' : List V} {ds ds' : List D} {v : V} {y : D} (r : Rel R A P σ H ρ s) (hi : ρ[i]? = some (.own false ds)) (hp : σ[i]? = some (some (.ref p)))
    (rx : RepL R.K R.W.tok H (avL R A σ ρ) xs' ds') (ry : Rep R.K R.W.tok H (avL R A σ ρ) v y) : Rel R A (⟨v, y, noEx⟩ :: P) σ (upd H p (.lst xs')) (ρ.set i (.own false ds')) s := by
  have r1 := r.push (p := ⟨v, y, noEx⟩) (ry.mono fun a h => h.1) (fun _ _ z => z) fun _ z => z.elim
  exact r1.write hi hp rx
theorem se_pop {i : Nat} {x : Str} {px pa : Pos} (hx : PE X (.Name x px) (tVar i)) (hbase : attributeBase (.Name x px) "pop" X.env (eval (.Name x px) X.env) = eval (.Name x px) X.env) (hline : (pa.endLine == pos.line) = true) :
    PE X (.Call (.Attribute (.Name x px) "pop" pa) [] [] pos) (SE X.K W false (popF i)) :=
  (pe_bm0 PySem.F.plainAttrs_list PySem.F.slot_list_pop PySem.F.type_list_pop mt_pop hx hbase hline).imp fun σ H Q q => by
    obtain ⟨H0, O, A, P, ρ, s, d, ρ', s', r, e, q⟩ := q
    unfold popF at e
    split at e
    · rename_i ds h0
      split at e
      · rename_i y h1
        cases e
        obtain ⟨p, xs, hp, hH, hxs, _⟩ := r.lstL i _ _ h0
        obtain ⟨v, hv, rv⟩ := hxs.get h1
        refine ⟨_, hp, tyList hH, p, xs, v, rfl, rfl, hH, by rw [hxs.length]; exact hv, ?_⟩
        exact q v _ noEx (popped r h0 hp hxs.dropLast rv) fun z => Bool.noConfusion z
      · cases e
    · cases e
def popAtF (i : Nat) (g : EvL S) : Ev S := fun ρ s => match ρ[i]? with
  | some (.ownD _ (.lst _)) => match g ρ s with
    | some ([.int j], ρ1, s1) => match ρ1[i]? with
      | some (.ownD false (.lst ds)) => if 0 ≤ j ∧ j < 2 ^ 63 then match ds[j.toNat]? with
          | some y => some (y, ρ1.set i (.own false (ds.eraseIdx j.toNat)), s1)
          | none => none
        else none
      | _ => none
    | _ => none
  | _ => none
theorem seqIx {j : Int} {n : Nat} (h0 : 0 ≤ j) (h : j.toNat < n) : seqIndex? j n = some j.toNat := by
  have : ixN n j = some j.toNat := by
    unfold ixN
    rw [if_pos h0, if_pos (by omega)]
  exact (ixN_seq this).1
theorem se_popAt {i : Nat} {x : Str} {px pa : Pos} {g : EvL S} (hx : PE X (.Name x px) (tVar i)) (ha : PA X [e] (SL X.K W g)) (hbase : attributeBase (.Name x px) "pop" X.env (eval (.Name x px) X.env) = eval (.Name x px) X.env)
    (hfew : ((backTo pos (starEach [e] X.env)).all (fun x => !x.1) && (backToKw pos (keywordEach [] X.env)).all (fun x => x.1.isSome) && decide (([e] : List Expr).length + ([] : List Keyword).length + (if ([] : List Keyword).isEmpty then 0 else 1) < 30)) = true)
    (hline : (pa.endLine == pos.line) = true) (hs : starEach [e] X.env = (false, eval e X.env) :: starEach [] X.env) : PE X (.Call (.Attribute (.Name x px) "pop" pa) [e] [] pos) (SE X.K W false (popAtF i g)) :=
  (pe_bm PySem.F.plainAttrs_list PySem.F.slot_list_pop PySem.F.type_list_pop mt_popAt hx ha hbase hfew hline hs rfl).imp fun σ H Q q => by
    obtain ⟨H0, O, A, P, ρ, s, d, ρ', s', r, e, q⟩ := q
    unfold popAtF at e
    split at e
    · rename_i t0 ds0 h0
      obtain ⟨p, xs0, hp, hH, _, _⟩ := r.lstL i _ _ h0
      refine ⟨_, hp, tyList hH, ?_⟩
      split at e
      · rename_i j ρ1 s1 h1
        split at e
        · rename_i ds h2
          split at e
          · rename_i hj
            split at e
            · rename_i y h3
              cases e
              refine ⟨H0, O, A, P, ρ, s, [.int j], ρ1, _, r, h1, fun vs H1 ex r1 rl hx ht => ?_⟩
              cases rl with
              | cons ry rl =>
                cases rl
                cases ry
                obtain ⟨p', xs, hp', hH', hxs, _⟩ := r1.lstL i _ _ h2
                rw [hp] at hp'; cases hp'
                obtain ⟨v, hv, rv⟩ := hxs.get h3
                have hlt : j.toNat < xs.length := (List.getElem?_eq_some_iff.mp hv).1
                refine ⟨p, xs, j, j.toNat, v, rfl, rfl, hH', by omega, hj.2, seqIx hj.1 hlt, hv, ?_⟩
                exact q v _ noEx (popped r1 h2 hp (hxs.erase _) rv) fun z => Bool.noConfusion z
            · cases e
          · cases e
        · cases e
      · cases e
    · cases e
/-! ### statements -/
def OutOk (R : Fx S) (P : List Pd) (E : Ends) (o : Out) (ρ' : En) (s' : S) : Prop := match o with
  | .nx => ∀ σ' H', Rel R [] P σ' H' ρ' s' → E.nx σ' H'
  | .bk => ∀ σ' H', Rel R [] P σ' H' ρ' s' → E.bk σ' H'
  | .ct => ∀ σ' H', Rel R [] P σ' H' ρ' s' → E.ct σ' H'
  | .rt d => ∀ (v : V) (σ' : L2.St) (H' : Hp) (ex : Addr → Prop), Rel R [] (⟨v, d, ex⟩ :: P) σ' H' ρ' s' → E.rt v H'
def SS (K : PySem.W.Frag) (W : Wd S) (g : Ss S) : TS := fun E σ H => ∃ (H0 : Hp) (O : Addr → Prop) (P : List Pd) (ρ : En) (s : S) (o : Out) (ρ' : En) (s' : S), Rel ⟨K, W, H0, O⟩ [] P σ H ρ s ∧ g ρ s = some (o, ρ', s') ∧ OutOk ⟨K, W, H0, O⟩ P E o ρ' s'
variable {st : Stmt} {sts : List Stmt}
theorem _root_.L2.PS.imp {t t' : TS} (h : PS X st t) (i : ∀ E σ H, t' E σ H → t E σ H) : PS X st t' := ⟨fun pins s σ H E I q => h.run pins s σ H E I (i E σ H q)⟩
theorem _root_.L2.PSs.imp {t t' : TS} (h : PSs X sts t) (i : ∀ E σ H, t' E σ H → t E σ H) : PSs X sts t' := ⟨fun pins s σ H E I q => h.run pins s σ H E I (i E σ H q)⟩
def skipF : Ss S := fun ρ s => some (.nx, ρ, s)
def seqF (g h : Ss S) : Ss S := fun ρ s => match g ρ s with
  | some (.nx, ρ', s') => h ρ' s'
  | r => r
theorem sss_nil : PSs X [] (SS X.K W skipF) := pss_nil.imp fun E σ H q => by
  obtain ⟨H0, O, P, ρ, s, o, ρ', s', r, e, q⟩ := q
  cases e
  exact q σ H r
theorem sss_cons {g h : Ss S} (h1 : PS X st (SS X.K W g)) (h2 : PSs X sts (SS X.K W h)) : PSs X (st :: sts) (SS X.K W (seqF g h)) := (pss_cons h1 h2).imp fun E σ H q => by
  obtain ⟨H0, O, P, ρ, s, o, ρ', s', r, e, q⟩ := q
  unfold seqF at e
  split at e
  · rename_i ρ1 s1 h1
    exact ⟨H0, O, P, ρ, s, .nx, ρ1, s1, r, h1, fun σ1 H1 r1 => ⟨H0, O, P, ρ1, s1, o, ρ', s', r1, e, q⟩⟩
  · rename_i hne
    refine ⟨H0, O, P, ρ, s, o, ρ', s', r, e, ?_⟩
    cases o with
    | nx => exact absurd e (hne ρ' s')
    | bk => exact q
    | ct => exact q
    | rt d => exact q
theorem sss_one {g : Ss S} (h1 : PS X st (SS X.K W g)) : PSs X [st] (SS X.K W g) := pss_one h1
theorem ss_pass : PS X (.Pass pos) (SS X.K W skipF) := ps_pass.imp fun E σ H q => by
  obtain ⟨H0, O, P, ρ, s, o, ρ', s', r, e, q⟩ := q
  cases e
  exact q σ H r
def brkF : Ss S := fun ρ s => some (.bk, ρ, s)
def cntF : Ss S := fun ρ s => some (.ct, ρ, s)
theorem ss_break : PS X (.Break pos) (SS X.K W brkF) := ps_break.imp fun E σ H q => by
  obtain ⟨H0, O, P, ρ, s, o, ρ', s', r, e, q⟩ := q
  cases e
  exact q σ H r
theorem ss_continue : PS X (.Continue pos) (SS X.K W cntF) := ps_continue.imp fun E σ H q => by
  obtain ⟨H0, O, P, ρ, s, o, ρ', s', r, e, q⟩ := q
  cases e
  exact q σ H r
def nevF : Ss S := fun _ _ => none
theorem ss_never : PS X st (SS X.K W nevF) := ps_never.imp fun E σ H q => by
  obtain ⟨H0, O, P, ρ, s, o, ρ', s', r, e, q⟩ := q
  cases e
def exprF (f : Ev S) : Ss S := fun ρ s => match f ρ s with
  | some (_, ρ', s') => some (.nx, thaw ρ ρ', s')
  | none => none
theorem ss_expr {f : Ev S} {fr : Bool} (he : PE X e (SE X.K W fr f)) (hs : swapsWith e none pos.line X.env = pure false) : PS X (.Expr e pos) (SS X.K W (exprF f)) := (ps_expr he hs).imp fun E σ H q => by
  obtain ⟨H0, O, P, ρ, s, o, ρ', s', r, e, q⟩ := q
  unfold exprF at e
  split at e
  · rename_i d ρ1 s1 h1
    cases e
    exact ⟨H0, O, [], P, ρ, s, d, ρ1, _, r, h1, fun v H' ex r' _ => q σ H' (Rel.thaw0 r.pex r'.tail)⟩
  · cases e
def retF (f : Ev S) : Ss S := fun ρ s => match f ρ s with
  | some (d, ρ', s') => some (.rt d, ρ', s')
  | none => none
theorem ss_ret {f : Ev S} {fr : Bool} (he : PE X e (SE X.K W fr f)) : PS X (.Return (some e) pos) (SS X.K W (retF f)) := (ps_ret he).imp fun E σ H q => by
  obtain ⟨H0, O, P, ρ, s, o, ρ', s', r, e, q⟩ := q
  unfold retF at e
  split at e
  · rename_i d ρ1 s1 h1
    cases e
    exact ⟨H0, O, [], P, ρ, s, d, ρ', _, r, h1, fun v H' ex r' _ => q v σ H' ex r'⟩
  · cases e
def retNF : Ss S := fun ρ s => some (.rt .non, ρ, s)
theorem ss_retN : PS X (.Return none pos) (SS X.K W retNF) := ps_retN.imp fun E σ H q => by
  obtain ⟨H0, O, P, ρ, s, o, ρ', s', r, e, q⟩ := q
  cases e
  exact q .non σ H noEx (r.push .non (fun _ _ z => z) fun _ z => z.elim)
def ifF (t : EvB S) (g h : Ss S) : Ss S := fun ρ s => match t ρ s with
  | some (true, ρ', s') => g ρ' s'
  | some (false, ρ', s') => h ρ' s'
  | none => none
theorem ss_if {t : EvB S} {g h : Ss S} {x y : List Stmt} (hc : PT X c (SB X.K W t)) (h1 : PSs X x (SS X.K W g)) (h2 : PSs X y (SS X.K W h)) : PS X (.If c x y pos) (SS X.K W (ifF t g h)) := (ps_if hc h1 h2).imp fun E σ H q => by
  obtain ⟨H0, O, P, ρ, s, o, ρ', s', r, e, q⟩ := q
  unfold ifF at e
  split at e
  · rename_i ρ1 s1 h1
    exact ⟨H0, O, [], P, ρ, s, true, ρ1, s1, r, h1, fun H1 r1 => iteT ⟨H0, O, P, ρ1, s1, o, ρ', s', r1, e, q⟩⟩
  · rename_i ρ1 s1 h1
    exact ⟨H0, O, [], P, ρ, s, false, ρ1, s1, r, h1, fun H1 r1 => iteF ⟨H0, O, P, ρ1, s1, o, ρ', s', r1, e, q⟩⟩
  · cases e
theorem noLb_box {d : D} (h : noLb d = true) : boxD d = true := by cases d <;> first | rfl | cases h
/-- name = e -/
def setF (fr : Bool) (i : Nat) (f : Ev S) : Ss S := fun ρ s => match f ρ s with
  | some (d, ρ', s') => if (fr && noLb d) = true then (if i < ρ'.length then some (.nx, (thaw ρ ρ').set i (.ownD false d), s') else none)
    else (putV i d (if noL d then thaw ρ ρ' else ρ')).map fun ρ2 => (.nx, ρ2, s')
  | none => none
theorem setF_val {fr : Bool} {i : Nat} {f : Ev S} {K : PySem.W.Frag} {E : Ends} {σ : L2.St} {H : Hp} (h : SS K W (setF fr i f) E σ H) : tAsg (SE K W fr f) (gName i) E σ H := by
  obtain ⟨H0, O, P, ρ, s, o, ρ', s', r, e, q⟩ := h
  unfold setF at e
  split at e
  · rename_i d ρ1 s1 h1
    refine ⟨H0, O, [], P, ρ, s, d, ρ1, s1, r, h1, fun v H' ex r' hf => ?_⟩
    show E.nx (σ.set i (some v)) H'
    have gen : ∀ ρ2, putV i d (if noL d then L3.thaw ρ ρ1 else ρ1) = some ρ2 → Rel ⟨K, W, H0, O⟩ [] P (σ.set i (some v)) H' ρ2 s1 := fun ρ2 hp => by
      by_cases hd : noL d = true
      · rw [if_pos hd] at hp
        exact (Rel.thaw r.pex r' hd).putV hp
      · rw [if_neg hd] at hp
        exact r'.putV hp
    split at e
    · rename_i hn
      rw [Bool.and_eq_true] at hn
      split at e
      · rename_i hi
        cases e
        obtain ⟨p, xs, H1, ev, hp, eH, r1, rl, hx, ht⟩ := hf hn.1 (noLb_box hn.2)
        subst ev
        subst eH
        have r2 := Rel.thaw0 r.pex r1
        exact q _ _ (r2.storeOwnO (by rw [thaw_length]; exact hi) hp (rl.free hn.2))
      · cases e
    · cases h2 : putV i d (if noL d then L3.thaw ρ ρ1 else ρ1) with
      | none => rw [h2] at e; cases e
      | some ρ2 =>
        rw [h2] at e
        cases e
        exact q _ _ (gen _ h2)
  · cases e
theorem ss_set {i : Nat} {x : Str} {f : Ev S} {fr : Bool} {px : Pos} (hN : X.N.Nodup) (hi : X.N[i]? = some x) (hx : Loc X.env.scope x) (he : PE X e (SE X.K W fr f)) (hs : swapsWith e (some (.Name x px)) pos.line X.env = pure false) (hf : X.fn x = true ∨ X.env.scope.names.lookup x = some .local) :
    PS X (.Assign [.Name x px] e pos) (SS X.K W (setF fr i f)) := (ps_set hN hi hx he hs hf).imp fun E σ H q => setF_val q
theorem ss_setComp {i : Nat} {x : Str} {px cpos : Pos} {own : List (Str × Nat)} {gs : List Nat} {elt iter : Expr} {ifs : List Expr} {scope : Scope} {fit : EvL S} {ftg : D → En → Option En} {fc : EvB S} {fe : Ev S} {fr : Bool} (hc : X.calm = true) (hN : X.N.Nodup) (hy : X.N[i]? = some x)
    (hyl : X.env.scope.names.lookup x = some .local) (hsw : swapsWith (.ListComp elt [⟨tg, iter, ifs, 0⟩] scope cpos) (some (.Name x px)) pos.line X.env = pure true) (hi : PI X tg iter (SI X.K W fit)) (ok : BlkOk X.N X.env.scope scope own)
    (hg : ∀ (s : Shared) (H : Hp) (C : Addr) (cl : List (Str × Addr)) (fp : List Addr), PG (X.blk s H scope (compEnvC scope cl C X.env) fp) tg (SG X.K W gs ftg)) (hgs : ∀ i ∈ gs, i ∈ own.map (·.2))
    (ht : ∀ (s : Shared) (H : Hp) (C : Addr) (cl : List (Str × Addr)) (fp : List Addr), PTs (X.blk s H scope (compEnvC scope cl C X.env) fp) ifs (SB X.K W fc))
    (he : ∀ (s : Shared) (H : Hp) (C : Addr) (cl : List (Str × Addr)) (fp : List Addr), PE (X.blk s H scope (compEnvC scope cl C X.env) fp) elt (SE X.K W fr fe)) (hs : ∀ x, foldedSetIterable iter X.env x = pure x) :
    PS X (.Assign [.Name x px] (.ListComp elt [⟨tg, iter, ifs, 0⟩] scope cpos) pos) (SS X.K W (setF true i (compF (own.map (·.2)) fit ftg fc fe))) := (ps_setLc hc hN hy hyl hsw hi ok hg ht he hs).imp fun E σ H q => by
  have h := setF_val q
  exact comp_val hgs h
/-- target = e, the target a tuple of names -/
def asgF (f : Ev S) (g : D → En → Option En) : Ss S := fun ρ s => match f ρ s with
  | some (d, ρ', s') => match g d (if noL d then thaw ρ ρ' else ρ') with
    | some ρ2 => some (.nx, ρ2, s')
    | none => none
  | none => none
theorem ss_asg {f : Ev S} {g : D → En → Option En} {vs : List Nat} {fr : Bool} (he : PE X e (SE X.K W fr f)) (hg : PG X tg (SG X.K W vs g)) (hs : swapsWithSole [tg] e pos.line X.env = pure false) (hw : swappedStores [tg] e X.env = pure none)
    (h1 : (assignEach [tg] X.env).map (·.2) = [assign tg X.env]) : PS X (.Assign [tg] e pos) (SS X.K W (asgF f g)) := (ps_asg he hg hs hw h1).imp fun E σ H q => by
  obtain ⟨H0, O, P, ρ, s, o, ρ', s', r, e, q⟩ := q
  unfold asgF at e
  split at e
  · rename_i d ρ1 s1 h1
    split at e
    · rename_i ρ2 h2
      cases e
      refine ⟨H0, O, [], P, ρ, s, d, ρ1, _, r, h1, fun v H' ex r' _ => ?_⟩
      by_cases hd : noL d = true
      · rw [if_pos hd] at h2
        exact ⟨H0, O, [], P, _, _, d, _, ρ', Rel.thaw r.pex r' hd, h2, fun σ' r2 _ _ => q σ' H' r2⟩
      · rw [if_neg hd] at h2
        exact ⟨H0, O, [], P, _, _, d, ex, ρ', r', h2, fun σ' r2 _ _ => q σ' H' r2⟩
    · cases e
  · cases e
/-! ### loops -/
def loopF (tg : D → En → Option En) (body : Ss S) : List D → En → S → Option (Out × En × S)
  | [], ρ, s => some (.nx, ρ, s)
  | d :: ds, ρ, s => match tg d ρ with
    | some ρ1 => match body ρ1 s with
      | some (.nx, ρ2, s2) => loopF tg body ds ρ2 s2
      | some (.ct, ρ2, s2) => loopF tg body ds ρ2 s2
      | some (.bk, ρ2, s2) => some (.nx, ρ2, s2)
      | some (.rt d, ρ2, s2) => some (.rt d, ρ2, s2)
      | none => none
    | none => none
def forF (tg : D → En → Option En) (it : EvL S) (body : Ss S) : Ss S := fun ρ s => match it ρ s with
  | some (items, ρ1, s1) => loopF tg body items (freeze ρ1) s1
  | none => none
theorem loopF_out {tg : D → En → Option En} {body : Ss S} : ∀ {items : List D} {ρ ρ' : En} {s s' : S} {o : Out}, loopF tg body items ρ s = some (o, ρ', s') → o = .nx ∨ ∃ d, o = .rt d
  | [], ρ, ρ', s, s', o, h => by cases h; exact .inl rfl
  | d :: ds, ρ, ρ', s, s', o, h => by
    unfold loopF at h
    split at h
    · split at h
      · exact loopF_out h
      · exact loopF_out h
      · cases h; exact .inl rfl
      · cases h; exact .inr ⟨_, rfl⟩
      · cases h
    · cases h
theorem ss_for {it : Expr} {body : List Stmt} {fit : EvL S} {ftg : D → En → Option En} {gs : List Nat} {fb : Ss S} (hp : PassesOwn (model X.prog X.w) X.A X.env X.xe) (hc : X.calm = true) (hi : PI X tg it (SI X.K W fit)) (hg : PG X tg (SG X.K W gs ftg)) (hb : PSs X body (SS X.K W fb))
    (hs : ∀ x, foldedSetIterable it X.env x = pure x) : PS X (.For tg it body [] pos) (SS X.K W (forF ftg fit fb)) := (ps_for hp hc hi hg hb hs).imp fun E σ H q => by
  obtain ⟨H0, O, P, ρ, s, o, ρ', s', r0, e, q⟩ := q
  unfold forF at e
  split at e
  · rename_i items ρ1 s1 h1
    refine ⟨H0, O, [], P, ρ, s, items, ρ1, s1, r0, h1, fun J H1 vs ds ex r1 rl hx ht ok => ?_⟩
    obtain ⟨G, Y, wk, hG, hY⟩ := ok
    have hl : vs.length = ds.length := rl.length
    have r2 : Rel ⟨X.K, W, H0, O⟩ [] (⟨.non, .non, ex⟩ :: (pds vs ds ex ++ P)) σ H1 (freeze ρ1) s1 := ((Rel.pushL hx ht r1 rl).push .non hx ht).freeze
    have fin : o = .nx → ∀ σ' H', Rel ⟨X.K, W, H0, O⟩ [] (⟨.non, .non, ex⟩ :: (pds vs ds ex ++ P)) σ' H' ρ' s' → E.nx σ' H' := fun eo σ' H' r => by
      subst eo
      exact q σ' H' (r.sub fun p hp => List.mem_cons_of_mem _ (List.mem_append_right _ hp))
    refine for_it wk (fun i σ' H => ∃ ρi si, Rel ⟨X.K, W, H0, O⟩ [] (⟨.non, .non, ex⟩ :: (pds vs ds ex ++ P)) σ' H ρi si ∧ loopF ftg fb (items.drop i) ρi si = some (o, ρ', s')) ?_ ?_ ?_ ?_
    · exact ⟨_, s1, r2, e⟩
    · rintro i σ' H _ ⟨ρi, si, ri, _⟩
      exact hG H _ (Rel.popL hl ri.tail).1
    · rintro i x σ' H H' hi ⟨ρi, si, ri, ti⟩ y
      have hid : items[i]? = some items[i] := List.getElem?_eq_getElem hi
      rw [List.drop_eq_getElem_cons hi] at ti
      obtain ⟨rlI, _⟩ := Rel.popL hl ri.tail
      obtain ⟨k, rx⟩ := hY i H x H' _ _ (fun a z => ri.avT z.1) rlI y hid
      have ri' := ri.same k
      have rp := ri'.push (p := ⟨x, items[i], ex⟩) rx ri'.hex fun a z => ri'.pet _ List.mem_cons_self a z
      unfold loopF at ti
      split at ti
      · rename_i ρa ha
        refine ⟨H0, O, [], _, _, si, items[i], ex, ρa, rp, ha, fun σ2 r4 _ _ => ?_⟩
        split at ti
        · rename_i ρb sb hb
          exact ⟨H0, O, _, ρa, si, .nx, ρb, sb, r4, hb, fun σ3 H3 r5 => ⟨ρb, sb, r5, ti⟩⟩
        · rename_i ρb sb hb
          exact ⟨H0, O, _, ρa, si, .ct, ρb, sb, r4, hb, fun σ3 H3 r5 => ⟨ρb, sb, r5, ti⟩⟩
        · rename_i ρb sb hb
          cases ti
          exact ⟨H0, O, _, ρa, si, .bk, _, _, r4, hb, fun σ3 H3 r5 => fin rfl σ3 H3 r5⟩
        · rename_i d ρb sb hb
          cases ti
          refine ⟨H0, O, _, ρa, si, .rt d, _, _, r4, hb, fun v σ3 H3 ex3 r5 => ?_⟩
          exact q v σ3 H3 ex3 (r5.sub fun p hp => by
            rcases List.mem_cons.mp hp with rfl | hp
            · exact List.mem_cons_self
            · exact List.mem_cons_of_mem _ (List.mem_cons_of_mem _ (List.mem_append_right _ hp)))
        · cases ti
      · cases ti
    · rintro σ' H ⟨ρi, si, ri, ti⟩
      rw [List.drop_length] at ti
      cases ti
      exact fin rfl σ' H ri
  · cases e
def whileN (t : EvB S) (body : Ss S) : Nat → En → S → Option (Out × En × S)
  | 0, _, _ => none
  | n + 1, ρ, s => match t ρ s with
    | some (false, ρ1, s1) => some (.nx, ρ1, s1)
    | some (true, ρ1, s1) => match body ρ1 s1 with
      | some (.nx, ρ2, s2) => whileN t body n ρ2 s2
      | some (.ct, ρ2, s2) => whileN t body n ρ2 s2
      | some (.bk, ρ2, s2) => some (.nx, ρ2, s2)
      | some (.rt d, ρ2, s2) => some (.rt d, ρ2, s2)
      | none => none
    | none => none
/-- while, at most n turns -/
def whileF (n : Nat) (t : EvB S) (body : Ss S) : Ss S := whileN t body n
theorem ss_while {n : Nat} {body : List Stmt} {t : EvB S} {fb : Ss S} (hp : PassesOwn (model X.prog X.w) X.A X.env X.xe) (hc : PT X c (SB X.K W t)) (hb : PSs X body (SS X.K W fb)) : PS X (.While c body [] pos) (SS X.K W (whileF n t fb)) := (ps_while hp hc hb).imp fun E σ H q => by
  obtain ⟨H0, O, P, ρ, s, o, ρ', s', r0, e, q⟩ := q
  refine ⟨fun m σ H => ∃ ρ s, Rel ⟨X.K, W, H0, O⟩ [] P σ H ρ s ∧ whileN t fb m ρ s = some (o, ρ', s'), ⟨n, ρ, s, r0, e⟩, ?_⟩
  rintro m σ1 H1 ⟨ρ1, s1, r1, e1⟩
  cases m with
  | zero => cases e1
  | succ m =>
    unfold whileN at e1
    split at e1
    · rename_i ρ2 s2 h2
      cases e1
      exact ⟨H0, O, [], P, ρ1, s1, false, _, _, r1, h2, fun H2 r2 => iteF (q σ1 H2 r2)⟩
    · rename_i ρ2 s2 h2
      refine ⟨H0, O, [], P, ρ1, s1, true, ρ2, s2, r1, h2, fun H2 r2 => iteT ⟨fun σ H => ∃ ρ s, Rel ⟨X.K, W, H0, O⟩ [] P σ H ρ s ∧ whileN t fb m ρ s = some (o, ρ', s'), fun σ' H' h => ⟨m, Nat.lt_succ_self m, h⟩, ?_⟩⟩
      split at e1
      · rename_i ρ3 s3 h3
        exact ⟨H0, O, P, ρ2, s2, .nx, ρ3, s3, r2, h3, fun σ3 H3 r3 => ⟨ρ3, s3, r3, e1⟩⟩
      · rename_i ρ3 s3 h3
        exact ⟨H0, O, P, ρ2, s2, .ct, ρ3, s3, r2, h3, fun σ3 H3 r3 => ⟨ρ3, s3, r3, e1⟩⟩
      · rename_i ρ3 s3 h3
        cases e1
        exact ⟨H0, O, P, ρ2, s2, .bk, _, _, r2, h3, fun σ3 H3 r3 => q σ3 H3 r3⟩
      · rename_i d ρ3 s3 h3
        cases e1
        exact ⟨H0, O, P, ρ2, s2, .rt d, _, _, r2, h3, fun v σ3 H3 ex r3 => q v σ3 H3 ex r3⟩
      · cases e1
    · cases e1
/-! ### a def -/
def startE (n : Nat) (ds : List D) : En := ds.map .val ++ List.replicate (n - ds.length) .non
def defF (n : Nat) (body : Ss S) : List D → S → Option (D × S) := fun ds s => match body (startE n ds) s with
  | some (.rt d, _, s') => some (d, s')
  | some (.nx, _, s') => some (.non, s')
  | _ => none
theorem start_own {n i : Nat} {ds : List D} {es : D} {t : Bool} (h : (startE n ds)[i]? = some (.ownD t es)) : False := by
  unfold startE at h
  by_cases hi : i < ds.length
  · rw [List.getElem?_append_left (by simpa using hi), List.getElem?_map] at h
    cases z : ds[i]? with
    | none => rw [z] at h; simp at h
    | some d => rw [z] at h; simp at h
  · rw [List.getElem?_append_right (by simpa using hi)] at h
    rw [List.getElem?_replicate] at h
    split at h
    · simp at h
    · simp at h
theorem start_val {n i : Nat} {ds : List D} {d : D} (h : (startE n ds)[i]? = some (.val d)) : ds[i]? = some d := by
  unfold startE at h
  by_cases hi : i < ds.length
  · rw [List.getElem?_append_left (by simpa using hi), List.getElem?_map] at h
    cases z : ds[i]? with
    | none => rw [z] at h; simp at h
    | some d' => rw [z] at h; simp at h; rw [h]
  · rw [List.getElem?_append_right (by simpa using hi)] at h
    rw [List.getElem?_replicate] at h
    split at h <;> simp at h
theorem def_val {K : PySem.W.Frag} {n : Nat} {N : List Str} {body : Ss S} {vs : List V} {H : Hp} {Q : VK} {E : XK} (hN : n ≤ N.length) (h : spF K W n (defF N.length body) vs H Q E) : SS K W body { nx := fun _ H' => Q .non H', rt := Q } (L2.start N vs) H := by
  obtain ⟨hn, O, ds, s, d, s', hO, hw, rl, hG, q⟩ := h
  have hl := rl.length
  have r : Rel ⟨K, W, H, O⟩ [] [] (L2.start N vs) H (startE N.length ds) s := by
    have nolock : ∀ a, ¬ lockA (L2.start N vs) (startE N.length ds) a := fun a ⟨i, t, es, e, _⟩ => start_own e
    refine ⟨?_, hw, fun a o e _ => e, hO, fun a z => ?_, fun i d e => ?_, fun i t es e => (start_own e).elim, fun a es e => (by simp at e), fun i j t u es fs a e => (start_own e).elim, fun a z => (nolock a z).elim, List.nodup_nil, fun p hp => (by simp at hp), fun p hp => (by simp at hp), fun p hp => (by simp at hp)⟩
    · unfold L2.start startE
      simp [hl]
    · obtain ⟨o, e, _⟩ := W.has hw z
      show H a ≠ none
      rw [e]; simp
    · obtain ⟨v, h1, h2⟩ := rl.get (start_val e)
      refine ⟨v, ?_, h2.mono fun a z => ?_⟩
      · unfold L2.start
        have hi : i < vs.length := (List.getElem?_eq_some_iff.mp h1).1
        rw [List.getElem?_append_left (by simpa using hi), List.getElem?_map, h1]
        rfl
      · rcases z with z | z | z | z
        · exact .inl z
        · exact .inr z
        · exact (nolock a z).elim
        · simp at z
  have fin : ∀ (v : V) (σ' : L2.St) (H' : Hp) (ρ' : En) (ex : Addr → Prop), Rel ⟨K, W, H, O⟩ [] (⟨v, d, ex⟩ :: []) σ' H' ρ' s' → Q v H' := fun v σ' H' ρ' ex r' =>
    q v H' (fun a o e n => r'.ent a o e n) r'.wd (r'.headO.mono fun a z => by
      rcases z with z | z
      · exact .inl z
      · exact .inr (.inl z))
  unfold defF at hG
  split at hG
  · rename_i d' ρ' s2 h1
    cases hG
    exact ⟨H, O, [], _, s, .rt d, ρ', _, r, h1, fun v σ' H' ex r' => fin v σ' H' ρ' ex r'⟩
  · rename_i ρ' s2 h1
    cases hG
    exact ⟨H, O, [], _, s, .nx, ρ', _, r, h1, fun σ' H' r' => fin .non σ' H' ρ' noEx (r'.push .non (fun _ _ z => z) fun _ z => z.elim)⟩
  · cases hG
/-- THE RULE for a def whose body computes g -/
theorem fn_def {P : Program} {w : World} {K : PySem.W.Frag} {mg : Str → Option Value} {base : Heap} {x qual : Str} {st : Stmt} {f : Addr} {fd : FuncData} {N ps : List Str} {k n : Nat} {g : Ss S} (F : Fun K x qual st f fd) (C : FnScope N ps (defScope st)) (hn : ps.length = n) (hN : n ≤ N.length)
    (hb : ∀ (cdv : Value) (A : Around) (outer : List Env) (s : Shared) (H : Hp) (E : XK), Room k (A.deeper (envOfC qual (defScope st) s.heap.objs.size f cdv)) → PSs (cxOf CX0 P w K mg base N qual (defScope st) f cdv A outer s H E).nox (defBody st) (SS K W g)) :
    FnOk P w K mg base CX0 (k + 1) f fd ps (spF K W n (defF N.length g)) :=
  F.ok C (fun vs H Q E h => h.1.trans hn.symm) fun cdv A outer s H vs Q E hr h => ⟨_, hb cdv A outer s H E hr, def_val hN h⟩
end
end L3
end
section
set_option Elab.async false
set_option linter.all false
set_option maxRecDepth 100000
set_option autoImplicit false
/-! L3r: defs that may ask for repr: the caller's side keeps that no repr is under way (own work). -/
namespace L3
open PySem PySem.Spec PyProof.Rows L2
/-- room, and no repr under way -/
structure RoomG (k : Nat) (A : Around) : Prop where
  rm : Room k A
  gd : A.guards = some []
theorem RoomG.mono {j k : Nat} {A : Around} (r : RoomG k A) (h : j ≤ k) : RoomG j A := ⟨r.rm.mono h, r.gd⟩
theorem RoomG.deeper {k : Nat} {A : Around} (r : RoomG (k + 1) A) (en : Env) : RoomG k (A.deeper en) := ⟨r.rm.deeper en, r.gd⟩
theorem RoomG.hu {k : Nat} {A : Around} (r : RoomG k A) : A.units + 65 < cLine := by
  have := r.rm.un
  omega
theorem RoomG.hu0 {k : Nat} {A : Around} (r : RoomG k A) : A.units + 64 < cLine := by
  have := r.rm.un
  omega
section
variable {P : Program} {w : World} {K : PySem.W.Frag} {mg : Str → Option Value} {base : Heap}
structure FnG (P : Program) (w : World) (K : PySem.W.Frag) (mg : Str → Option Value) (base : Heap) (k : Nat) (f : Addr) (fd : FuncData) (ps : List Str) (sp : Sp) : Prop where
  lng : ∀ us H Q E, sp us H Q E → us.length = ps.length
  go : ∀ (A : Around) (stk : List Env) (st : Shared) (H : Hp) (ar : Args) (ws : List Value) (us : List V) (Q : VK) (E : XK), RoomG k A → Env0 P w K mg base A stk st H → BindsTo st fd ar (ps.zip ws) → Vals us ws → sp us H Q E →
    codeAny (model P w) A (.call (.ref f) ar) (CR CX0 stk P w H st Q E) st
theorem FnG.mono {j k : Nat} {f : Addr} {fd : FuncData} {ps : List Str} {sp : Sp} (F : FnG P w K mg base j f fd ps sp) (h : j ≤ k) : FnG P w K mg base k f fd ps sp := ⟨F.lng, fun A stk st H ar ws us Q E rm => F.go A stk st H ar ws us Q E (rm.mono h)⟩
theorem FnG.imp {k : Nat} {f : Addr} {fd : FuncData} {ps : List Str} {sp sp' : Sp} (F : FnG P w K mg base k f fd ps sp) (h : ∀ us H Q E, sp' us H Q E → sp us H Q E) : FnG P w K mg base k f fd ps sp' :=
  ⟨fun us H Q E q => F.lng us H Q E (h _ _ _ _ q), fun A stk st H ar ws us Q E rm e0 hb hv q => F.go A stk st H ar ws us Q E rm e0 hb hv (h _ _ _ _ q)⟩
theorem FnG.of {k : Nat} {f : Addr} {fd : FuncData} {ps : List Str} {sp : Sp} (F : FnOk P w K mg base CX0 k f fd ps sp) : FnG P w K mg base k f fd ps sp := ⟨F.len, fun A stk st H ar ws us Q E rm e0 hb hv q => F.run A stk st H ar ws us Q E rm.rm e0 hb hv q⟩
/-- a def by its body -/
theorem okG {x qual : Str} {stm : Stmt} {f : Addr} {fd : FuncData} {N ps : List Str} {k : Nat} {sp : Sp} (F : Fun K x qual stm f fd) (C : FnScope N ps (defScope stm)) (lng : ∀ us H Q E, sp us H Q E → us.length = ps.length)
    (hb : ∀ (cdv : Value) (A : Around) (stk : List Env) (st : Shared) (H : Hp) (us : List V) (Q : VK) (E : XK), RoomG k (A.deeper (envOfC qual (defScope stm) st.heap.objs.size f cdv)) → sp us H Q E →
      ∃ t, PSs (cxOf CX0 P w K mg base N qual (defScope stm) f cdv A stk st H E).nox (defBody stm) t ∧ t { nx := fun _ H' => Q .non H', rt := Q } (start N us) H) : FnG P w K mg base (k + 1) f fd ps sp := by
  obtain ⟨oc, od, kV, dc, pm, an, cdv, ct, osl, rfl, look, codeOk⟩ := F.ex
  constructor
  · exact lng
  intro A stk st H ar ws us Q E rm e0 hbd rv hsp
  have inSt : K.In st.heap := e0.mod.kin.keeps fun c ob z => (e0.bs c ob z).1
  have noLim : st.heap.NoLimit := e0.mod.nolimit.keeps fun c ob z => (e0.bs c ob z).1
  refine codeAny_call_function rm.rm.depth (inSt _ _ look) rfl C.co C.gen rfl (PySem.W.codeRec_of inSt codeOk) (hbd _ _ _ _ ?_)
  have places : ∀ y ∈ ps.zip ws, (defScope stm).names.lookup y.1 = some .local ∨ ((defScope stm).names.lookup y.1 = some .cell ∧ ((cellsFrom (st.heap.objs.size + 1) (defScope stm).names []).lookup y.1).isSome = true) := by
    rintro ⟨nme, vl⟩ hy
    rcases C.par nme (List.of_mem_zip hy).1 with z | z
    · exact .inl z
    · exact .inr ⟨z, PySem.W.cellsFrom_some _ _ _ (.inl z)⟩
  refine wpAny_newFunctionEnv_cells C.kind places fun en hen st1 inc => ?_
  subst hen
  refine ⟨noLim.keeps inc.toInCall.keep, codeAny_func ?_⟩
  obtain ⟨t, bodyOk, q⟩ := hb cdv A stk st H us Q E (rm.deeper _) hsp
  have J0 := inv_start (P := P) (CX := CX0) (N := N) (E := E) C rm.rm.hd e0 (lng _ _ _ _ hsp) rv inc
  refine wpAny_mono (bodyOk.nox.run [] st1 (start N us) H _ J0 q) (fun fl st2 res => ?_) fun er st2 res => res
  cases fl with
  | ret u =>
    obtain ⟨v, σ', H', J, r, z⟩ := res
    exact ⟨v, H', J.os, J.bare, J.base, J.hok, r, z⟩
  | next =>
    obtain ⟨σ', H', J, z⟩ := res
    exact ⟨.non, H', J.os, J.bare, J.base, J.hok, rfl, z⟩
  | brk =>
    obtain ⟨_, _, _, z⟩ := res
    exact z.elim
  | cont =>
    obtain ⟨_, _, _, z⟩ := res
    exact z.elim
end
section
variable {X : Cx} {k : Nat} {f : Addr} {fd : FuncData} {ps ks : List Str} {sp : Sp} {x : Str} {p pos : Pos} {e : Expr} {es : List Expr} {kws : List Keyword} {t tk : TA} {g : List Value → List Value → List Value} {gV : List V → List V → List V}
/-- the callee runs, its arguments bound in any way -/
theorem goG {pins : List (Addr × Obj)} {σ : L2.St} {H : Hp} {st : Shared} {Q : VK} {pa : List Value} {kw : List (Str × Value)} {ws : List Value} {us : List V} (F : FnG X.prog X.w X.K X.mg X.base k f fd ps sp) (rm : RoomG k X.A) (hb : BindsTo st fd ⟨pa, kw⟩ (ps.zip ws))
    (J : Inv X pins σ H st) (rv : Vals us ws) (h : sp us H Q E0) : wpAny (model X.prog X.w) X.A (call (.ref f) pa kw) (EP X pins σ Q) X.xe st := by
  refine wpAny_call (codeAny_mono (F.go X.A X.stack st H ⟨pa, kw⟩ ws us Q E0 rm J.env0 hb rv h) fun rs st2 z => ?_)
  match rs, z with
  | .ok (.ret u), z => exact J.after z
  | .error er, z => exact z.elim
  | .ok .next, z => exact z.elim
  | .ok .brk, z => exact z.elim
  | .ok .cont, z => exact z.elim
/-- f(e, ..): the defaults behind -/
theorem pe_callG {ds : List Value} {dvs : List V} (F : FnG X.prog X.w X.K X.mg X.base k f fd ps sp) (rm : RoomG k X.A) (hg : Gl X x) (hm : X.mg x = some (.ref f)) (hk : PySem.W.keepIn X.K (.ref f) = true) (hb : Binds X.K fd ps ds) (hd : Vals dvs ds)
    (ha : PA X (e :: es) t) (hdb : (x == ("__debug__" : Str)) = false) (he : starEach (e :: es) X.env = (false, eval e X.env) :: starEach es X.env) (hpl : (backTo pos (starEach es X.env)).any (·.1) = false) :
    PE X (.Call (.Name x p) (e :: es) [] pos) (tCall sp dvs E0 t) := by
  constructor
  intro pins st σ H Q J h
  refine wpAny_Call_Name_kw (ld_glob J hg hm ?_ hdb)
  refine PySem.W.callWith_K (h₀ := X.base) J.ok.mod.kin hk (thn (ha.run pos pins st σ H _ J h) fun ws st1 z => ?_) he hpl
  obtain ⟨us, H1, J1, rv, q⟩ := z
  have rv2 : Vals (us ++ dvs) (ws ++ ds) := rv.append hd
  refine ⟨J1.kIn, goG F rm (hb st1 ws J1.kIn ?_) J1 rv2 q⟩
  rw [← rv2.length]
  exact F.lng _ _ _ _ q
/-- f(e, .., k = v, ..) -/
theorem pe_callKG (F : FnG X.prog X.w X.K X.mg X.base k f fd ps sp) (rm : RoomG k X.A) (hg : Gl X x) (hm : X.mg x = some (.ref f)) (hk : PySem.W.keepIn X.K (.ref f) = true) (hb : KBinds X.K fd ps ks g gV)
    (ha : PA X (e :: es) t) (hkw : PK X kws tk) (hall : (backToKw pos (keywordEach kws X.env)).all (·.1.isSome) = true) (hks : (backToKw pos (keywordEach kws X.env)).filterMap (·.1) = ks)
    (hdb : (x == ("__debug__" : Str)) = false) (he : starEach (e :: es) X.env = (false, eval e X.env) :: starEach es X.env)
    (hpl : ((backTo pos (starEach (e :: es) X.env)).any (·.1) || (backToKw pos (keywordEach kws X.env)).any (·.1.isNone)) = false) :
    PE X (.Call (.Name x p) (e :: es) kws pos) (tCallK sp gV E0 t tk) := by
  constructor
  intro pins st σ H Q J h
  refine wpAny_Call_Name_kw (ld_glob J hg hm ?_ hdb)
  refine PySem.W.callWith_KW (h₀ := X.base) J.ok.mod.kin hk hall (thn (ha.run pos pins st σ H _ J h) fun ws st1 z => ?_) hpl he
  obtain ⟨us, H1, J1, rv, q⟩ := z
  refine thn (hkw.run pos pins st1 σ H1 _ J1 q) fun zs st2 z => ?_
  obtain ⟨ys, H2, J2, rz, q2⟩ := z
  rw [hks]
  have rv2 := hb.rel rv rz
  refine ⟨J2.kIn, goG F rm (hb.to st2 ws zs J2.kIn ?_) J2 rv2 q2⟩
  rw [← rv2.length]
  exact F.lng _ _ _ _ q2
/-- f(k = v, ..) -/
theorem pe_callKG0 (F : FnG X.prog X.w X.K X.mg X.base k f fd ps sp) (rm : RoomG k X.A) (hg : Gl X x) (hm : X.mg x = some (.ref f)) (hk : PySem.W.keepIn X.K (.ref f) = true) (hb : KBinds X.K fd ps ks g gV)
    (hkw : PK X kws tk) (hall : (backToKw pos (keywordEach kws X.env)).all (·.1.isSome) = true) (hks : (backToKw pos (keywordEach kws X.env)).filterMap (·.1) = ks)
    (hdb : (x == ("__debug__" : Str)) = false) (hpl : ((backToKw pos (keywordEach kws X.env)).any (·.1.isNone)) = false) :
    PE X (.Call (.Name x p) [] kws pos) (tCallK sp gV E0 tNil tk) := by
  constructor
  intro pins st σ H Q J h
  refine wpAny_Call_Name_kw (ld_glob J hg hm ?_ hdb)
  refine PySem.W.callWith_KW0 (h₀ := X.base) J.ok.mod.kin hk hall (thn (hkw.run pos pins st σ H _ J h) fun zs st2 z => ?_) hpl
  obtain ⟨ys, H2, J2, rz, q2⟩ := z
  rw [hks]
  have rv2 := hb.rel .nil rz
  refine ⟨J2.kIn, goG F rm (hb.to st2 [] zs J2.kIn ?_) J2 rv2 q2⟩
  rw [← rv2.length]
  exact F.lng _ _ _ _ q2
end
end L3
end
section
set_option Elab.async false
set_option linter.all false
set_option maxRecDepth 100000
set_option autoImplicit false
/-! L3t: calls of promised defs over pure data, by position and by name (own work). -/
namespace L3
open PySem PySem.Spec PyProof.Rows L2
section
variable {S : Type} {X : Cx} {W : Wd S} {e a b c : Expr} {es : List Expr} {pos : Pos}
/-- what FnG says of a def that computes G -/
abbrev FnD (X : Cx) (W : Wd S) (k : Nat) (f : Addr) (fd : FuncData) (ps : List Str) (n : Nat) (G : List D → S → Option (D × S)) : Prop := FnG X.prog X.w X.K X.mg X.base k f fd ps (spF X.K W n G)
theorem se_callG {k n : Nat} {f : Addr} {fd : FuncData} {ps : List Str} {x : Str} {p : Pos} {G : List D → S → Option (D × S)} {g : EvL S} {dvs : List V} {dsV : List Value} {dfl : List D}
    (F : FnD X W k f fd ps n G) (hr : RoomG k X.A) (hg : Gl X x) (hm : X.mg x = some (.ref f)) (hk : PySem.W.keepIn X.K (.ref f) = true) (hb : Binds X.K fd ps dsV) (hd : Vals dvs dsV)
    (hdf : ∀ H av, RepL X.K W.tok H av dvs dfl) (ha : PA X (e :: es) (SL X.K W g)) (hl : (e :: es).length + dfl.length = n) (hlg : ∀ ρ s xs ρ' s', g ρ s = some (xs, ρ', s') → xs.length = (e :: es).length) (hdb : (x == ("__debug__" : Str)) = false)
    (he : starEach (e :: es) X.env = (false, eval e X.env) :: starEach es X.env) (hpl : (backTo pos (starEach es X.env)).any (·.1) = false) :
    PE X (.Call (.Name x p) (e :: es) [] pos) (SE X.K W false (callF G (permL (· ++ dfl) g))) := (pe_callG F hr hg hm hk hb hd ha hdb he hpl).imp fun σ H Q q => by
  obtain ⟨H0, O, A, P, ρ, s, d, ρ', s', r, e, q⟩ := q
  obtain ⟨ys, s1, e1, e2⟩ := callF_some e
  unfold permL at e1
  cases h : g ρ s with
  | none => rw [h] at e1; simp at e1
  | some z =>
    obtain ⟨xs, ρ2, s2⟩ := z
    rw [h] at e1
    simp only [Option.map_some, Option.some.injEq, Prod.mk.injEq] at e1
    obtain ⟨rfl, rfl, rfl⟩ := e1
    refine ⟨H0, O, A, P, ρ, s, xs, ρ2, s2, r, h, fun vs H1 ex r1 rl hx ht => ?_⟩
    refine call_val (R := ⟨X.K, W, H0, O⟩) ?_ r1 (rl.append (hdf H1 _)) hx e2 fun v H' ex r' => q v H' ex r' fun z => Bool.noConfusion z
    rw [List.length_append, rl.length, (hdf H1 (fun _ => True)).length, hlg _ _ _ _ _ h, hl]
/-! ### keywords -/
theorem _root_.L2.PK.imp {kws : List Keyword} {t t' : TA} (h : PK X kws t) (i : ∀ σ H Q, t' σ H Q → t σ H Q) : PK X kws t' := ⟨fun pos pins s σ H Q I q => h.run pos pins s σ H Q I (i σ H Q q)⟩
theorem nil_val {K : PySem.W.Frag} {σ : L2.St} {H : Hp} {Q : List V → Hp → Prop} (h : SL K W nilL σ H Q) : tNil σ H Q := by
  obtain ⟨H0, O, A, P, ρ, s, ds, ρ', s', r, e, q⟩ := h
  cases e
  exact q [] H noEx r .nil (fun _ _ z => z) fun _ z => z.elim
theorem cons_val {f : Ev S} {g : EvL S} {fr : Bool} {K : PySem.W.Frag} {σ : L2.St} {H : Hp} {Q : List V → Hp → Prop} (q : SL K W (consL f g) σ H Q) : tCons (SE K W fr f) (SL K W g) σ H Q := by
  obtain ⟨H0, O, A, P, ρ, s, ds, ρ', s', r0, e, q⟩ := q
  obtain ⟨x, ρ1, s1, xs, e1, e2, rfl⟩ := consL_some e
  refine ⟨H0, O, A, P, ρ, s, x, ρ1, s1, r0, e1, fun v H1 ex1 r1 _ => ?_⟩
  refine ⟨H0, O, A, _, ρ1, s1, xs, ρ', s', r1, e2, fun vs H2 ex2 r2 rl hx ht => ?_⟩
  refine q (v :: vs) H2 (fun a => ex1 a ∨ ex2 a) r2.tail (.cons (r2.head.mono fun a h => ⟨h.1, fun z => h.2 (.inl z)⟩) (rl.mono fun a h => ⟨h.1, fun z => h.2 (.inr z)⟩)) (fun a h z => z.elim (r2.hex a h) (hx a h)) fun a z => z.elim (r2.pet _ List.mem_cons_self a) (ht a)
theorem sk_nil : PK X [] (SL X.K W nilL) := pk_nil.imp fun σ H Q q => nil_val q
theorem sk_cons {f : Ev S} {g : EvL S} {fr : Bool} {nm : Option Str} {kp : Pos} {kws : List Keyword} (he : PE X e (SE X.K W fr f)) (hr : PK X kws (SL X.K W g)) : PK X (⟨nm, e, kp⟩ :: kws) (SL X.K W (consL f g)) := (pk_cons he hr).imp fun σ H Q q => cons_val q
def catL (g h : EvL S) (gD : List D → List D → List D) : EvL S := fun ρ s => match g ρ s with
  | some (xs, ρ1, s1) => match h ρ1 s1 with
    | some (ys, ρ2, s2) => some (gD xs ys, ρ2, s2)
    | none => none
  | none => none
theorem catL_some {g h : EvL S} {gD : List D → List D → List D} {ρ ρ' : En} {s s' : S} {zs : List D} (e : catL g h gD ρ s = some (zs, ρ', s')) : ∃ xs ρ1 s1 ys, g ρ s = some (xs, ρ1, s1) ∧ h ρ1 s1 = some (ys, ρ', s') ∧ zs = gD xs ys := by
  unfold catL at e
  split at e
  · rename_i xs ρ1 s1 h1
    split at e
    · rename_i ys ρ2 s2 h2
      cases e
      exact ⟨xs, ρ1, s1, ys, h1, h2, rfl⟩
    · cases e
  · cases e
theorem callK_val {k n : Nat} {G : List D → S → Option (D × S)} {g h : EvL S} {gV : List V → List V → List V} {gD : List D → List D → List D} {K : PySem.W.Frag}
    (hgv : ∀ H av vs ds zs es, RepL K W.tok H av vs ds → RepL K W.tok H av zs es → RepL K W.tok H av (gV vs zs) (gD ds es)) (hn : ∀ ρ s xs ρ' s', catL g h gD ρ s = some (xs, ρ', s') → xs.length = n) {σ : L2.St} {H : Hp} {Q : VK} (q : SE K W false (callF G (catL g h gD)) σ H Q) :
    tCallK (spF K W n G) gV E0 (SL K W g) (SL K W h) σ H Q := by
  obtain ⟨H0, O, A, P, ρ, s, d, ρ', s', r, e, q⟩ := q
  obtain ⟨zs, s1, e1, e2⟩ := callF_some e
  have hz := hn _ _ _ _ _ e1
  obtain ⟨xs, ρ1, s2, ys, e3, e4, rfl⟩ := catL_some e1
  refine ⟨H0, O, A, P, ρ, s, xs, ρ1, s2, r, e3, fun vs H1 ex1 r1 rl1 hx1 ht1 => ?_⟩
  have r2 : Rel ⟨K, W, H0, O⟩ A (⟨.non, .non, ex1⟩ :: (pds vs xs ex1 ++ P)) σ H1 ρ1 s2 := (Rel.pushL hx1 ht1 r1 rl1).push .non hx1 ht1
  refine ⟨H0, O, A, _, ρ1, s2, ys, ρ', s1, r2, e4, fun ws H2 ex2 r3 rl2 hx2 ht2 => ?_⟩
  obtain ⟨rl1', r4⟩ := Rel.popL rl1.length r3.tail
  have rl := hgv H2 (fun a => avL ⟨K, W, H0, O⟩ A σ ρ' a ∧ ¬ (ex1 a ∨ ex2 a)) _ _ _ _ (rl1'.mono fun a z => ⟨z.1, fun y => z.2 (.inl y)⟩) (rl2.mono fun a z => ⟨z.1, fun y => z.2 (.inr y)⟩)
  refine call_val (R := ⟨K, W, H0, O⟩) (rl.length.trans hz) r4 rl (fun a h z => z.elim (r3.hex a h) (hx2 a h)) e2 fun v H' ex r' => q v H' ex r' fun z => Bool.noConfusion z
theorem se_callK {k n : Nat} {f : Addr} {fd : FuncData} {ps ks : List Str} {x : Str} {p : Pos} {G : List D → S → Option (D × S)} {g h : EvL S} {kws : List Keyword} {gA : List Value → List Value → List Value} {gV : List V → List V → List V} {gD : List D → List D → List D}
    (F : FnD X W k f fd ps n G) (hr : RoomG k X.A) (hg : Gl X x) (hm : X.mg x = some (.ref f)) (hk : PySem.W.keepIn X.K (.ref f) = true) (hb : KBinds X.K fd ps ks gA gV)
    (hgv : ∀ H av vs ds zs es, RepL X.K W.tok H av vs ds → RepL X.K W.tok H av zs es → RepL X.K W.tok H av (gV vs zs) (gD ds es)) (hn : ∀ ρ s xs ρ' s', catL g h gD ρ s = some (xs, ρ', s') → xs.length = n)
    (ha : PA X (e :: es) (SL X.K W g)) (hkw : PK X kws (SL X.K W h)) (hall : (backToKw pos (keywordEach kws X.env)).all (·.1.isSome) = true) (hks : (backToKw pos (keywordEach kws X.env)).filterMap (·.1) = ks)
    (hdb : (x == ("__debug__" : Str)) = false) (he : starEach (e :: es) X.env = (false, eval e X.env) :: starEach es X.env)
    (hpl : ((backTo pos (starEach (e :: es) X.env)).any (·.1) || (backToKw pos (keywordEach kws X.env)).any (·.1.isNone)) = false) :
    PE X (.Call (.Name x p) (e :: es) kws pos) (SE X.K W false (callF G (catL g h gD))) := (pe_callKG F hr hg hm hk hb ha hkw hall hks hdb he hpl).imp fun σ H Q q => callK_val (k := k) hgv hn q
theorem se_callK0 {k n : Nat} {f : Addr} {fd : FuncData} {ps ks : List Str} {x : Str} {p : Pos} {G : List D → S → Option (D × S)} {h : EvL S} {kws : List Keyword} {gA : List Value → List Value → List Value} {gV : List V → List V → List V} {gD : List D → List D → List D}
    (F : FnD X W k f fd ps n G) (hr : RoomG k X.A) (hg : Gl X x) (hm : X.mg x = some (.ref f)) (hk : PySem.W.keepIn X.K (.ref f) = true) (hb : KBinds X.K fd ps ks gA gV)
    (hgv : ∀ H av vs ds zs es, RepL X.K W.tok H av vs ds → RepL X.K W.tok H av zs es → RepL X.K W.tok H av (gV vs zs) (gD ds es)) (hn : ∀ ρ s xs ρ' s', catL nilL h gD ρ s = some (xs, ρ', s') → xs.length = n)
    (hkw : PK X kws (SL X.K W h)) (hall : (backToKw pos (keywordEach kws X.env)).all (·.1.isSome) = true) (hks : (backToKw pos (keywordEach kws X.env)).filterMap (·.1) = ks)
    (hdb : (x == ("__debug__" : Str)) = false) (hpl : ((backToKw pos (keywordEach kws X.env)).any (·.1.isNone)) = false) :
    PE X (.Call (.Name x p) [] kws pos) (SE X.K W false (callF G (catL nilL h gD))) := (pe_callKG0 F hr hg hm hk hb hkw hall hks hdb hpl).imp fun σ H Q q => by
  obtain ⟨vs, z⟩ : ∃ t, tCallK (spF X.K W n G) gV E0 (SL X.K W nilL) (SL X.K W h) σ H Q := ⟨callK_val (k := k) hgv hn q, callK_val (k := k) hgv hn q⟩
  exact nil_val z
/-- THE RULE for a def whose body computes g, which may ask for repr -/
theorem fn_defG {P : Program} {w : World} {K : PySem.W.Frag} {mg : Str → Option Value} {base : Heap} {x qual : Str} {st : Stmt} {f : Addr} {fd : FuncData} {N ps : List Str} {k n : Nat} {g : Ss S} (F : Fun K x qual st f fd) (C : FnScope N ps (defScope st)) (hn : ps.length = n) (hN : n ≤ N.length)
    (hb : ∀ (cdv : Value) (A : Around) (outer : List Env) (s : Shared) (H : Hp) (E : XK), RoomG k (A.deeper (envOfC qual (defScope st) s.heap.objs.size f cdv)) → PSs (cxOf CX0 P w K mg base N qual (defScope st) f cdv A outer s H E).nox (defBody st) (SS K W g)) :
    FnG P w K mg base (k + 1) f fd ps (spF K W n (defF N.length g)) :=
  okG F C (fun vs H Q E h => h.1.trans hn.symm) fun cdv A outer s H vs Q E hr h => ⟨_, hb cdv A outer s H E hr, def_val hN h⟩
end
end L3
end
section
set_option Elab.async false
set_option linter.all false
set_option maxRecDepth 100000
set_option autoImplicit false
set_option maxHeartbeats 2000000
/-! L3s: sorted(xs) of tuples of ints, of any lengths, any number (own work). -/
namespace L3
open PySem PySem.Spec PyProof.Rows L2
/-- v is a tuple of the ints ns -/
def IsTI (h : Heap) (v : Value) (ns : List Int) : Prop := ∃ a o xs n, v = .ref a ∧ h.get? a = some o ∧ o.cls = .type "tuple" ∧ o.data = .seq xs n ∧ IntsAre xs.toList ns
theorem IsTI.keeps {h h' : Heap} {v : Value} {ns : List Int} (x : IsTI h v ns) (k : ∀ b o, h.get? b = some o → o.cls = .type "tuple" → h'.get? b = some o) : IsTI h' v ns := by
  obtain ⟨a, o, xs, n, e, ho, hc, hd, hi⟩ := x
  exact ⟨a, o, xs, n, e, k a o ho hc, hc, hd, hi⟩
theorem lexLt_irr : ∀ ns : List Int, HT.lexLt ns ns = false
  | [] => rfl
  | x :: r => by rw [HT.lexLt_cons, if_pos rfl]; exact lexLt_irr r
theorem lexLt_asym : ∀ {ns ms : List Int}, HT.lexLt ns ms = true → HT.lexLt ms ns = false
  | [], [], h => by simp [HT.lexLt_nil_nil] at h
  | [], _ :: _, _ => rfl
  | _ :: _, [], h => by simp [HT.lexLt_cons_nil] at h
  | x :: r, y :: q, h => by
    rw [HT.lexLt_cons] at h ⊢
    by_cases e : x = y
    · rw [if_pos e] at h
      rw [if_pos e.symm]
      exact lexLt_asym h
    · rw [if_neg e] at h
      rw [if_neg (Ne.symm e)]
      have := of_decide_eq_true h
      exact decide_eq_false (by omega)
theorem lexLt_tri : ∀ {ns ms : List Int}, HT.lexLt ns ms = false → HT.lexLt ms ns = false → ns = ms
  | [], [], _, _ => rfl
  | [], _ :: _, h, _ => by simp [HT.lexLt_nil_cons] at h
  | _ :: _, [], _, h => by simp [HT.lexLt_nil_cons] at h
  | x :: r, y :: q, h, h' => by
    rw [HT.lexLt_cons] at h h'
    by_cases e : x = y
    · rw [if_pos e] at h
      rw [if_pos e.symm] at h'
      rw [e, lexLt_tri h h']
    · rw [if_neg e] at h
      rw [if_neg (Ne.symm e)] at h'
      have := of_decide_eq_false h
      have := of_decide_eq_false h'
      omega
/-- not below is transitive -/
theorem lexLt_tr : ∀ {a b c : List Int}, HT.lexLt b a = false → HT.lexLt c b = false → HT.lexLt c a = false
  | _, _, [], h1, h2 => by
    rename_i a b
    cases b with
    | nil => exact h1
    | cons y q => simp [HT.lexLt_nil_cons] at h2
  | [], [], z :: t, _, h2 => by simp [HT.lexLt_cons_nil]
  | [], y :: q, z :: t, _, _ => by simp [HT.lexLt_cons_nil]
  | x :: r, [], z :: t, h1, _ => by simp [HT.lexLt_nil_cons] at h1
  | x :: r, y :: q, z :: t, h1, h2 => by
    rw [HT.lexLt_cons] at h1 h2 ⊢
    by_cases e1 : y = x <;> by_cases e2 : z = y
    · rw [if_pos e1] at h1; rw [if_pos e2] at h2; rw [if_pos (e2.trans e1)]
      exact lexLt_tr h1 h2
    · rw [if_neg e2] at h2
      have := of_decide_eq_false h2
      rw [if_neg (by omega)]
      exact decide_eq_false (by omega)
    · rw [if_neg e1] at h1
      have := of_decide_eq_false h1
      rw [if_neg (by omega)]
      exact decide_eq_false (by omega)
    · rw [if_neg e1] at h1; rw [if_neg e2] at h2
      have := of_decide_eq_false h1
      have := of_decide_eq_false h2
      rw [if_neg (by omega)]
      exact decide_eq_false (by omega)
theorem swo_ti (k : Value → List Int) : SrtO.Swo fun v u => HT.lexLt (k v) (k u) := ⟨fun x y h => lexLt_asym h, fun x y z h1 h2 => lexLt_tr h1 h2⟩
section
variable {prog : Program} {w : World} {A : Around} {E : Value → Shared → Prop} {s : Shared}
theorem oneLt_tup {a b : Addr} {oa ob : Obj} {xs ys : Array Value} {n m : Nat} {ns ms : List Int} {Q : Bool → Shared → Prop} (c : Bool) (hu : A.units < cLine) (ha : s.heap.get? a = some oa) (ca : oa.cls = .type "tuple") (da : oa.data = .seq xs n) (ia : IntsAre xs.toList ns)
    (hb : s.heap.get? b = some ob) (cb : ob.cls = .type "tuple") (db : ob.data = .seq ys m) (ib : IntsAre ys.toList ms) (h : Q (HT.lexLt ns ms) s) : wpAny (model prog w) A (oneLt' c (.ref a) (.ref b)) Q E s := by
  cases c with
  | false => exact PySem.W.kat_one _ _ (HT.lt_tupInts ⟨oa, ha, ca, n, da⟩ ⟨ob, hb, cb, m, db⟩ ia ib hu (show PySem.W.BoolBack Q (.bool (HT.lexLt ns ms)) s from h))
  | true =>
    rw [oneLt'_eq]
    simp only [if_true]
    refine wpAny_bind (wpAny_cRoomFor hu ?_)
    obtain ⟨cls, dd, data, sl⟩ := oa
    obtain ⟨cls2, dd2, data2, sl2⟩ := ob
    simp only at ca da cb db
    subst ca da cb db
    refine wpAny_bind (wpAny_callSpecialIfBound?_slot (T := "tuple") ⟨_, ha, rfl⟩ PySem.F.slot_tuple_lt ?_)
    refine call_meets PySem.F.slot_tuple_lt ⟨_, ha, rfl⟩ PySem.F.entry_tuple_lt (PySem.F.args_tuple_lt_2 _ _) (HT.tuple_lt_ints a b xs ys n m dd dd2 sl sl2 ns ms ia ib) ⟨ha, hb, ?_⟩
    exact wpAny_truthy_bool h
theorem lex_go {c b fin : Bool} {Q : Bool → Shared → Prop} : ∀ {xs ys : List Value} {ns ms : List Int} (i : Nat), IntsAre xs ns → IntsAre ys ms → fin = decide (ns.length < ms.length) → Q (HT.lexLt ns ms) s → PySem.W.KatLex prog w A b fin Q (xs.zip ys) i s
  | _, _, _, _, i, .nil, .nil, hf, h => by
    subst hf
    exact PySem.W.kat_nil h
  | _, _, _, _, i, .nil, .cons _ _ _, hf, h => by
    subst hf
    refine PySem.W.kat_nil ?_
    simpa [HT.lexLt_nil_cons] using h
  | _, _, _, _, i, .cons _ _ _, .nil, hf, h => by
    subst hf
    refine PySem.W.kat_nil ?_
    simpa [HT.lexLt_cons_nil] using h
  | _, _, _, _, i, .cons p t hx, .cons q u hy, hf, h => by
    refine PySem.W.kat_cons (wpAny_eqBool_int ?_)
    rw [HT.lexLt_cons] at h
    by_cases e : p = q
    · rw [if_pos e] at h
      rw [e, beq_self_eq_true]
      refine PySem.W.kat_yes (lex_go (c := c) (i + 1) hx hy ?_ h)
      rw [hf]
      simp
    · rw [if_neg e] at h
      rw [show (p == q) = false from beq_eq_false_iff_ne.mpr e]
      refine PySem.W.kat_no ?_
      cases (b && i == 0) with
      | true => exact oneLt_int h
      | false => exact PySem.W.kat_one _ _ (PyProof.Rows.lt_int (Q := PySem.W.BoolBack Q) h)
theorem ti_cmp {vs : List Value} {k : Value → List Int} (κ : SortKind) (hκ : κ = general' ∨ κ = oneType' ∨ ∃ b, κ = tuples' b) (hu : A.units < cLine) (hv : ∀ v ∈ vs, IsTI s.heap v (k v)) : SrtO.Cmp prog w A s κ (fun p => p.1 ∈ vs) (SrtO.lt2 fun v u => HT.lexLt (k v) (k u)) := by
  intro p q hp hq
  show wpAny (model prog w) A (keyLt' κ p.1 q.1) (fun r s' => s' = s ∧ r = HT.lexLt (k p.1) (k q.1)) (fun _ _ => False) s
  have h1 := hv _ hp
  have h2 := hv _ hq
  generalize k p.1 = ns at h1 ⊢
  generalize k q.1 = ms at h2 ⊢
  obtain ⟨a, oa, xs, n, e, ha, ca, da, ia⟩ := h1
  obtain ⟨b, ob, ys, m, e', hb, cb, db, ib⟩ := h2
  rw [e, e']
  rcases hκ with rfl | rfl | ⟨c, rfl⟩
  · exact oneLt_tup false hu ha ca da ia hb cb db ib ⟨rfl, rfl⟩
  · exact oneLt_tup true hu ha ca da ia hb cb db ib ⟨rfl, rfl⟩
  · refine PySem.W.kat_lt ha da hb db ?_
    have l1 := ia.length
    have l2 := ib.length
    rw [Array.length_toList] at l1 l2
    exact lex_go (c := true) 0 ia ib (by rw [l1, l2]) ⟨rfl, rfl⟩
theorem firsts_go : ∀ {vs : List Value} {k : Value → List Int}, (∀ v ∈ vs, IsTI s.heap v (k v)) → ∃ fs : List (Option Value), fs.length = vs.length ∧ (∀ f ∈ fs, ∀ x, f = some x → ∃ i t, x = Value.int i t) ∧
    ∀ (Q : List (Option Value) → Shared → Prop) (E : Value → Shared → Prop), Q fs s → wpAny (model prog w) A (vs.mapM firstOfTuple') Q E s
  | [], k, _ => ⟨[], rfl, fun f hf => by simp at hf, fun Q E h => by rw [List.mapM_nil]; exact wpAny_pure h⟩
  | v :: vs, k, hv => by
    obtain ⟨a, o, xs, n, e, ho, hc, hd, hi⟩ := hv v List.mem_cons_self
    obtain ⟨fs, hl, hf, hw⟩ := firsts_go (vs := vs) (k := k) fun u hu => hv u (List.mem_cons_of_mem _ hu)
    refine ⟨xs[0]? :: fs, by simp [hl], fun f hm x hx => ?_, fun Q E h => ?_⟩
    · rcases List.mem_cons.mp hm with rfl | hm
      · have hx' : xs.toList[0]? = some x := by rw [← Array.getElem?_toList] at hx; exact hx
        exact hi.all x (List.mem_of_getElem? hx')
      · exact hf f hm x hx
    · rw [List.mapM_cons]
      refine wpAny_bind ?_
      rw [PySem.W.kas_first_eq, e]
      refine wpAny_bind (PySem.W.Looks.here (show PySem.W.Looks (model prog w) s.heap (typeOf (.ref a)) o.cls from (PySem.W.Looks.ld ho).andThen .now) ?_)
      rw [hc, if_neg (by first | decide | simp)]
      refine wpAny_bind (listItems_at ho hd (wpAny_pure ?_))
      exact wpAny_bind (hw _ _ (wpAny_pure h))
theorem ti_kind {vs : List Value} {k : Value → List Int} (h2 : 2 ≤ vs.length) (hv : ∀ v ∈ vs, IsTI s.heap v (k v)) : ∃ κ, (κ = general' ∨ κ = oneType' ∨ ∃ b, κ = tuples' b) ∧
    ∀ (Q : SortKind → Shared → Prop) (E : Value → Shared → Prop), Q κ s → wpAny (model prog w) A (keyKind' vs.toArray) Q E s := by
  obtain ⟨fs, hl, hf, hw⟩ := firsts_go (prog := prog) (w := w) (A := A) hv
  have hty : ∀ v ∈ vs, ∀ (E : Value → Shared → Prop) (Q' : Value → Shared → Prop), Q' (.type "tuple") s → wpAny (model prog w) A (typeOf v) Q' E s := fun v hm E Q' q => by
    obtain ⟨a, o, xs, n, e, ho, hc, hd, hi⟩ := hv v hm
    rw [e]
    refine PySem.W.Looks.here (show PySem.W.Looks (model prog w) s.heap (typeOf (.ref a)) o.cls from (PySem.W.Looks.ld ho).andThen .now) ?_
    rw [hc]
    exact q
  by_cases hall : (fs.toArray.all fun x => x.isSome) = true
  · have hT : ∀ v ∈ (fs.toArray.filterMap id).toList, ∀ (E : Value → Shared → Prop) (Q' : Value → Shared → Prop), Q' (.type "int") s → wpAny (model prog w) A (typeOf v) Q' E s := fun v hv E Q' q => by
      have hv' : some v ∈ fs := by
        rw [Array.toList_filterMap] at hv
        obtain ⟨x, hx, e⟩ := List.mem_filterMap.mp hv
        have e : x = some v := e
        rw [e] at hx
        simpa using hx
      obtain ⟨i, t, rfl⟩ := hf _ hv' v rfl
      exact wpAny_pure q
    have e1 : (fs.toArray.filterMap id).mapM typeOf = (do let l ← ((fs.toArray.filterMap id).toList).mapM typeOf; pure l.toArray) := by
      conv => lhs; rw [← Array.toArray_toList (xs := fs.toArray.filterMap id)]
      rw [List.mapM_toArray, map_eq_pure_bind]
    have key : ∃ b, ∀ (Q : SortKind → Shared → Prop) (E : Value → Shared → Prop), Q (tuples' b) s → wpAny (model prog w) A (do rule "list.sort.keys-are-tuples"; return tuples' ((← oneTypeOnly' (fs.toArray.filterMap id)).any (· != .type "tuple"))) Q E s := by
      refine ⟨(match (List.map (fun _ => Value.type "int") (fs.toArray.filterMap id).toList).toArray[0]? with
        | some t => if (List.map (fun _ => Value.type "int") (fs.toArray.filterMap id).toList).toArray.all (· == t) then some t else none
        | none => (none : Option Value)).any (· != Value.type "tuple"), fun Q E q => ?_⟩
      refine wpAny_bind (wpAny_rule ?_)
      rw [oneTypeOnly'_eq, e1]
      refine wpAny_bind (wpAny_bind (wpAny_bind (PySem.W.kas_mapM (r := Value.type "int") _ (fun v hv Q' q => hT v hv _ Q' q) (wpAny_pure ?_))))
      split
      · rename_i t ht
        simp only [ht] at q
        split
        · rename_i h3
          rw [if_pos h3] at q
          exact wpAny_pure (wpAny_pure q)
        · rename_i h3
          rw [if_neg h3] at q
          exact wpAny_pure (wpAny_pure q)
      · rename_i ht
        simp only [ht] at q
        exact wpAny_pure (wpAny_pure q)
    obtain ⟨b, hb⟩ := key
    refine ⟨tuples' b, .inr (.inr ⟨b, rfl⟩), fun Q E q => ?_⟩
    rw [kat_kind_eq, List.mapM_toArray, map_eq_pure_bind]
    refine wpAny_bind (wpAny_bind (hw _ _ (wpAny_pure ?_)))
    rw [if_pos hall]
    exact hb Q E q
  · by_cases h0 : (fs.toArray[0]?.bind id).isSome = true
    · refine ⟨general', .inl rfl, fun Q E q => ?_⟩
      rw [kat_kind_eq, List.mapM_toArray, map_eq_pure_bind]
      refine wpAny_bind (wpAny_bind (hw _ _ (wpAny_pure ?_)))
      rw [if_neg hall, if_pos h0]
      exact wpAny_pure q
    · refine ⟨oneType', .inr (.inl rfl), fun Q E q => ?_⟩
      rw [kat_kind_eq, List.mapM_toArray, map_eq_pure_bind]
      refine wpAny_bind (wpAny_bind (hw _ _ (wpAny_pure ?_)))
      rw [if_neg hall, if_neg h0]
      rw [oneTypeOnly'_eq, List.mapM_toArray, map_eq_pure_bind]
      refine wpAny_bind (wpAny_bind (wpAny_bind (PySem.W.kas_mapM (r := Value.type "tuple") _ (fun v hm Q' q => hty v hm _ Q' q) (wpAny_pure ?_))))
      match vs, h2 with
      | v1 :: v2 :: rest, _ =>
        have hall2 : ((List.map (fun _ => Value.type "tuple") (v1 :: v2 :: rest)).toArray.all fun x => x == Value.type "tuple") = true := by
          simp only [List.all_toArray, List.all_map, List.all_eq_true]
          intro _ _
          rfl
        have h1 : (List.map (fun _ => Value.type "tuple") (v1 :: v2 :: rest)).toArray[0]? = some (Value.type "tuple") := rfl
        rw [h1]
        simp only [hall2, if_true]
        exact wpAny_pure (wpAny_pure q)
end
/-- sorted(xs), xs a list of tuples of ints -/
def rSortedTI (K : PySem.W.Frag) : List V → Hp → VK → Prop := fun vs H Q => ∃ (a : Addr) (xs : List V) (k : V → List Int), vs = [V.ref a] ∧ SqL K H a xs ∧ (∀ x ∈ xs, ∃ t, x = V.ref t ∧ SqT K H t ((k x).map V.int)) ∧
  ∀ ys p, ys.Perm xs → ys.Pairwise (fun x y => HT.lexLt (k y) (k x) = false) → H p = none → Q (.ref p) (upd H p (.lst ys))
theorem cr_sortedTI {X : Cx} (hu : X.A.units + 64 < cLine) : CallR X (.builtin "sorted") (rSortedTI X.K) := by
  intro pins s σ H vs us Q I r h
  obtain ⟨a, xs, k, rfl, hs, hx, q⟩ := h
  obtain ⟨its, rv, hl, hz⟩ := I.list hs
  rw [Vals.ref1 r]
  obtain ⟨e1, e2⟩ := refs_back rv fun x m => by
    obtain ⟨t, e, _⟩ := hx x m
    exact ⟨t, e⟩
  have hti : ∀ v ∈ its, IsTI s.heap v (k (backV v)) := fun v hv => by
    obtain ⟨t, rfl⟩ := e2 v hv
    have hm : V.ref t ∈ xs := by rw [e1]; exact List.mem_map.mpr ⟨_, hv, rfl⟩
    obtain ⟨t', e, ht⟩ := hx _ hm
    cases e
    obtain ⟨its2, r2, ⟨o, ho, hc, n, hd⟩, _⟩ := I.tuple ht
    exact ⟨t, o, its2.toArray, n, rfl, ho, hc, hd, r2.ints⟩
  refine SrtO.sorted_ord (swo_ti fun u => k (backV u)) hl.isList (by rw [← rv.length]; exact hz) (fun h2 h₁ a' ho' kp h' kp' => ?_) fun out h1 h2 => ?_
  · have hti' : ∀ v ∈ its, IsTI h' v (k (backV v)) := fun v hv => (hti v hv).keeps fun b o ho hc => kp' b o (kp b o ho).1 (kp b o ho).2
    obtain ⟨κ, hκ, hw⟩ := ti_kind (prog := X.prog) (w := X.w) (A := X.A.in1.in1) (s := { s with heap := h' }) h2 hti'
    exact ⟨κ, hw, ti_cmp (s := { s with heap := h' }) κ hκ (by show X.A.units + 1 + 1 < cLine; omega) hti'⟩
  · obtain ⟨ep, he'⟩ := PyProof.Rows.sortedAll_at s.heap its out.toArray
    have h3 : ∀ u ∈ out, ∃ a, u = Value.ref a := fun u hu => e2 u (h2.perm.mem_iff.mp hu)
    have hp : (out.map backV).Perm xs := by rw [e1]; exact h2.perm.map backV
    have hlen : (out.map backV).length ≤ sizeLine := by rw [hp.length_eq]; exact hz
    refine ⟨.ref _, upd H (s.heap.objs.size + 1) (.lst (out.map backV)), I.laid (t' := s.toks) (fun _ _ => PyProof.Rows.sortedAll_old) (Nat.le_succ _) ⟨hlen, out, ep, vals_back h3, he'⟩, rfl, q _ _ hp (List.pairwise_map.mpr h1) (I.hok.fresh (Nat.le_succ _))⟩
end L3
end
section
set_option Elab.async false
set_option linter.all false
set_option maxRecDepth 100000
set_option autoImplicit false
/-! L3u: set(xs) of a list of ints, its members known (own work). -/
namespace L3
open PySem PySem.Spec PyProof.Rows L2
/-- the set that is made first -/
abbrev emptyO (w : World) : Obj := { cls := .type "set", dict := none, data := .set #[] 0 (.fresh 0 0 (!w.params.followText "set-order")) }
section
variable {P : Program} {w : World} {A : Around} {E : Value → Shared → Prop} {st : Shared}
set_option maxHeartbeats 3200000 in
theorem call_set_listI {p : Addr} {xs : Array Value} (zs : List Int) {Q : Value → Shared → Prop} (calmA : A.handled = none) (isL : st.heap.IsList p xs) (areI : IntsAre xs.toList zs) (few : zs.length + 1 < scanBound)
    (fin : ∀ (hp : Heap) (tk n : Nat), SetR w hp st.heap.objs.size (fun j => decide (j ∈ zs)) n → n ≤ zs.length → (∀ b o, st.heap.get? b = some o → hp.get? b = some o) → Q (.ref st.heap.objs.size) { st with heap := hp, toks := tk }) :
    wpAny (model P w) A (call (.type "set") [.ref p]) Q E st := by
  have size : xs.size = zs.length := by
    have z := IntsAre.length areI
    rwa [Array.length_toList] at z
  obtain ⟨cc, tl, mro⟩ := F.called_set.mro
  have made := F.called_set.made
  have subs := F.called_set.sub
  refine wpAny_call (codeAny_of_tree ?_)
  show wpAny _ _ (callAny (.type "set") _) _ _ _
  refine wpAny_pure ⟨Code.quiet_builtin _ (by decide +kernel), codeAny_builtin F.entry_type_call ?_⟩
  rw [Around.under_plain (weight_type_call_type "set" [.ref p] []) rfl]
  have noTy := F.called_set.notType
  have canC := F.called_set.canCreate
  have tyC := F.typeCall_set_1 (.ref p)
  repeat (any_goals (first | assumption | wp_step))
  refine codeAny_mono (code_set_led1 (.ref p) (E := E) (Q₁ := fun ob st1 => ob = .ref st.heap.objs.size ∧ st1 = { st with heap := st.heap.push (emptyO w) }) ⟨rfl, rfl⟩) fun r st1 res => ?_
  match r, res with
  | .error e, res => exact res
  | .ok .next, res => exact res.elim
  | .ok .brk, res => exact res.elim
  | .ok .cont, res => exact res.elim
  | .ok (.ret ob), res =>
    obtain ⟨rfl, rfl⟩ := res
    have atS : (st.heap.push (emptyO w)).get? st.heap.objs.size = some (emptyO w) := Heap.get?_push_size _ rfl
    have tyS : Shared.TypeIs { st with heap := st.heap.push (emptyO w) } (.ref st.heap.objs.size) "set" := ⟨_, atS, rfl⟩
    have ini := F.called_set.init.lookup
    have inb := F.called_set.init.bind (.ref st.heap.objs.size)
    repeat (any_goals (first | assumption | wp_step))
    refine codeAny_mono (codeAny_call_builtin (R := wants (fun r st2 => r = .none ∧ ∃ hp tk n, st2 = { st with heap := hp, toks := tk } ∧ SetR w hp st.heap.objs.size (fun j => decide (j ∈ zs)) n ∧ n ≤ zs.length ∧
      (∀ b o, st.heap.get? b = some o → hp.get? b = some o)) E) F.called_set.init.plain F.entry_set_init (check_set_init_1 tyS ?_)) fun r2 st2 res2 => ?_
    · obtain ⟨⟨kls, dd, dat, sls⟩, atL, e1, nl, e2⟩ := isL
      simp only at e1 e2
      subst e1; subst e2
      have atL2 : (st.heap.push (emptyO w)).get? p = some { cls := .type "list", dict := dd, data := .seq xs nl, slots := sls } := Heap.get?_push_of_some _ atL
      have sub1 := F.sub_list_set
      have sub2 := F.sub_list_frozenset
      have noD : (Value.type "list" == Value.type "dict") = false := by decide
      have isL2 : (st.heap.push (emptyO w)).IsList p xs := ⟨_, atL2, rfl, nl, rfl⟩
      unfold Builtin.«set.__init__» noKeywords Builtin.Frozenset.updateFrom
      generalize hIt : pyIter = IT
      wp_walk
      subst hIt
      refine wpAny_pyIter_list isL2 ?_
      refine wpAny_bind (wpAny_runValue ?_)
      have pLt : p < st.heap.objs.size := Heap.lt_size atL
      have calm3 : A.in1.in1.in1.handled = none := by simp [calmA]
      have pNe : p ≠ (st.heap.push (emptyO w)).objs.size := by
        rw [Heap.size_push]
        exact fun z => absurd pLt (by rw [z]; exact Nat.not_lt.mpr (Nat.le_succ _))
      have sFar : st.heap.objs.size ∉ [(st.heap.push (emptyO w)).objs.size, p] := by
        rw [Heap.size_push]
        simp only [List.mem_cons, List.not_mem_nil, or_false, not_or]
        exact ⟨fun z => Nat.succ_ne_self _ z.symm, fun z => Nat.lt_irrefl _ (z ▸ pLt)⟩
      have vals : ∀ (i : Nat) (v : Value), xs[i]? = some v → ∃ k t, zs[i]? = some k ∧ v = .int k t := fun i v hv => by
        have lt : i < zs.length := by rw [← size]; exact (Array.getElem?_eq_some_iff.mp hv).1
        obtain ⟨t, e⟩ := PyProof.Rows.IntsAre.int_at areI i v (by rw [Array.getElem?_toList]; exact hv)
        exact ⟨zs[i], t, List.getElem?_eq_getElem lt, by rw [e, List.getD_eq_getElem?_getD, List.getElem?_eq_getElem lt]; rfl⟩
      refine set_update_ints ((Walks.list calm3 _ p pNe xs).toS) st.heap.objs.size sFar zs size few vals (xs.size - 0) 0 _ (by omega) (Nat.zero_le _) ⟨⟨_, Heap.get?_push_size _ rfl, rfl, rfl⟩, (isL2.push _)⟩
        ⟨0, Nat.le_refl 0, setR_new_at (Heap.get?_push_of_some _ atS)⟩ fun st3 n moved hn isR => ?_
      obtain ⟨hp, g2, d2, tk2, os2⟩ := st3
      have q1 : g2 = st.gens := moved.gens
      have q2 : d2 = st.drawn := moved.drawn
      have q3 : os2 = st.os := moved.os
      subst q1; subst q2; subst q3
      show wpAny _ _ _ _ _ _
      refine wpAny_pure ?_
      show wpAny _ _ (ret Value.none) _ _ _
      rw [size] at hn
      refine wpAny_pure ⟨rfl, hp, tk2, n, rfl, isR, hn, fun b o ob => ?_⟩
      have lt := Heap.lt_size ob
      refine moved.heap b o ?_ (Heap.get?_push_of_some _ (Heap.get?_push_of_some _ ob))
      simp only [List.mem_cons, List.not_mem_nil, or_false, not_or]
      rw [Heap.size_push]
      exact ⟨fun z => Nat.lt_irrefl _ (z ▸ lt), fun z => absurd lt (by rw [z]; exact Nat.not_lt.mpr (Nat.le_succ _))⟩
    · match r2, res2 with
      | .error e, res2 => exact res2
      | .ok .next, res2 => exact res2.elim
      | .ok .brk, res2 => exact res2.elim
      | .ok .cont, res2 => exact res2.elim
      | .ok (.ret r), res2 =>
        obtain ⟨rfl, hp, tk, n, rfl, isR, hn, keep⟩ := res2
        repeat (any_goals (first | assumption | wp_step))
        exact fin _ _ _ isR hn keep
set_option maxHeartbeats 3200000 in
theorem call_set_tupI {p : Addr} {xs : Array Value} (zs : List Int) {Q : Value → Shared → Prop} (calmA : A.handled = none) (isL : Heap.IsTuple st.heap p xs) (areI : IntsAre xs.toList zs) (few : zs.length + 1 < scanBound)
    (fin : ∀ (hp : Heap) (tk n : Nat), SetR w hp st.heap.objs.size (fun j => decide (j ∈ zs)) n → n ≤ zs.length → (∀ b o, st.heap.get? b = some o → hp.get? b = some o) → Q (.ref st.heap.objs.size) { st with heap := hp, toks := tk }) :
    wpAny (model P w) A (call (.type "set") [.ref p]) Q E st := by
  have size : xs.size = zs.length := by
    have z := IntsAre.length areI
    rwa [Array.length_toList] at z
  obtain ⟨cc, tl, mro⟩ := F.called_set.mro
  have made := F.called_set.made
  have subs := F.called_set.sub
  refine wpAny_call (codeAny_of_tree ?_)
  show wpAny _ _ (callAny (.type "set") _) _ _ _
  refine wpAny_pure ⟨Code.quiet_builtin _ (by decide +kernel), codeAny_builtin F.entry_type_call ?_⟩
  rw [Around.under_plain (weight_type_call_type "set" [.ref p] []) rfl]
  have noTy := F.called_set.notType
  have canC := F.called_set.canCreate
  have tyC := F.typeCall_set_1 (.ref p)
  repeat (any_goals (first | assumption | wp_step))
  refine codeAny_mono (code_set_led1 (.ref p) (E := E) (Q₁ := fun ob st1 => ob = .ref st.heap.objs.size ∧ st1 = { st with heap := st.heap.push (emptyO w) }) ⟨rfl, rfl⟩) fun r st1 res => ?_
  match r, res with
  | .error e, res => exact res
  | .ok .next, res => exact res.elim
  | .ok .brk, res => exact res.elim
  | .ok .cont, res => exact res.elim
  | .ok (.ret ob), res =>
    obtain ⟨rfl, rfl⟩ := res
    have atS : (st.heap.push (emptyO w)).get? st.heap.objs.size = some (emptyO w) := Heap.get?_push_size _ rfl
    have tyS : Shared.TypeIs { st with heap := st.heap.push (emptyO w) } (.ref st.heap.objs.size) "set" := ⟨_, atS, rfl⟩
    have ini := F.called_set.init.lookup
    have inb := F.called_set.init.bind (.ref st.heap.objs.size)
    repeat (any_goals (first | assumption | wp_step))
    refine codeAny_mono (codeAny_call_builtin (R := wants (fun r st2 => r = .none ∧ ∃ hp tk n, st2 = { st with heap := hp, toks := tk } ∧ SetR w hp st.heap.objs.size (fun j => decide (j ∈ zs)) n ∧ n ≤ zs.length ∧
      (∀ b o, st.heap.get? b = some o → hp.get? b = some o)) E) F.called_set.init.plain F.entry_set_init (check_set_init_1 tyS ?_)) fun r2 st2 res2 => ?_
    · obtain ⟨⟨kls, dd, dat, sls⟩, atL, e1, nl, e2⟩ := isL
      simp only at e1 e2
      subst e1; subst e2
      have atL2 : (st.heap.push (emptyO w)).get? p = some { cls := .type "tuple", dict := dd, data := .seq xs nl, slots := sls } := Heap.get?_push_of_some _ atL
      have sub1 := F.sub_tuple_set
      have sub2 := F.sub_tuple_frozenset
      have noD : (Value.type "tuple" == Value.type "dict") = false := by decide
      have isL2 : (st.heap.push (emptyO w)).IsTuple p xs := ⟨_, atL2, rfl, nl, rfl⟩
      unfold Builtin.«set.__init__» noKeywords Builtin.Frozenset.updateFrom
      generalize hIt : pyIter = IT
      wp_walk
      subst hIt
      refine wpAny_pyIter_tuple isL2 ?_
      refine wpAny_bind (wpAny_runValue ?_)
      have pLt : p < st.heap.objs.size := Heap.lt_size atL
      have calm3 : A.in1.in1.in1.handled = none := by simp [calmA]
      have pNe : p ≠ (st.heap.push (emptyO w)).objs.size := by
        rw [Heap.size_push]
        exact fun z => absurd pLt (by rw [z]; exact Nat.not_lt.mpr (Nat.le_succ _))
      have sFar : st.heap.objs.size ∉ [(st.heap.push (emptyO w)).objs.size, p] := by
        rw [Heap.size_push]
        simp only [List.mem_cons, List.not_mem_nil, or_false, not_or]
        exact ⟨fun z => Nat.succ_ne_self _ z.symm, fun z => Nat.lt_irrefl _ (z ▸ pLt)⟩
      have vals : ∀ (i : Nat) (v : Value), xs[i]? = some v → ∃ k t, zs[i]? = some k ∧ v = .int k t := fun i v hv => by
        have lt : i < zs.length := by rw [← size]; exact (Array.getElem?_eq_some_iff.mp hv).1
        obtain ⟨t, e⟩ := PyProof.Rows.IntsAre.int_at areI i v (by rw [Array.getElem?_toList]; exact hv)
        exact ⟨zs[i], t, List.getElem?_eq_getElem lt, by rw [e, List.getD_eq_getElem?_getD, List.getElem?_eq_getElem lt]; rfl⟩
      refine set_update_ints ((Walks.tuple calm3 _ p pNe xs).toS) st.heap.objs.size sFar zs size few vals (xs.size - 0) 0 _ (by omega) (Nat.zero_le _) ⟨⟨_, Heap.get?_push_size _ rfl, rfl, rfl⟩, (isL2.push _)⟩
        ⟨0, Nat.le_refl 0, setR_new_at (Heap.get?_push_of_some _ atS)⟩ fun st3 n moved hn isR => ?_
      obtain ⟨hp, g2, d2, tk2, os2⟩ := st3
      have q1 : g2 = st.gens := moved.gens
      have q2 : d2 = st.drawn := moved.drawn
      have q3 : os2 = st.os := moved.os
      subst q1; subst q2; subst q3
      show wpAny _ _ _ _ _ _
      refine wpAny_pure ?_
      show wpAny _ _ (ret Value.none) _ _ _
      rw [size] at hn
      refine wpAny_pure ⟨rfl, hp, tk2, n, rfl, isR, hn, fun b o ob => ?_⟩
      have lt := Heap.lt_size ob
      refine moved.heap b o ?_ (Heap.get?_push_of_some _ (Heap.get?_push_of_some _ ob))
      simp only [List.mem_cons, List.not_mem_nil, or_false, not_or]
      rw [Heap.size_push]
      exact ⟨fun z => Nat.lt_irrefl _ (z ▸ lt), fun z => absurd lt (by rw [z]; exact Nat.not_lt.mpr (Nat.le_succ _))⟩
    · match r2, res2 with
      | .error e, res2 => exact res2
      | .ok .next, res2 => exact res2.elim
      | .ok .brk, res2 => exact res2.elim
      | .ok .cont, res2 => exact res2.elim
      | .ok (.ret r), res2 =>
        obtain ⟨rfl, hp, tk, n, rfl, isR, hn, keep⟩ := res2
        repeat (any_goals (first | assumption | wp_step))
        exact fin _ _ _ isR hn keep
end
section
variable {X : Cx}
/-- set(xs), xs a list of ints -/
def rSetLI (K : PySem.W.Frag) (w : World) : List V → Hp → VK → Prop := fun xs H Q => ∃ (a : Addr) (zs : List Int), xs = [V.ref a] ∧ SqL K H a (zs.map V.int) ∧ zs.length + 1 < scanBound ∧
  ∀ p n, H p = none → n ≤ zs.length → Q (.ref p) (upd H p (SetO w p (fun j => decide (j ∈ zs)) n))
theorem cr_setLI (hc : X.calm = true) : CallR X (.type "set") (rSetLI X.K X.w) := by
  intro pins st σ H vs us Q J rv h
  obtain ⟨a, zs, rfl, hs, few, q⟩ := h
  obtain ⟨its, rI, hl, hz⟩ := J.list hs
  rw [Vals.ref1 rv]
  refine call_set_listI zs (J.ok.hd hc) hl.isList (by simpa using rI.ints) few fun hp tk n isR hn keep => ?_
  exact ⟨.ref st.heap.objs.size, upd H st.heap.objs.size (SetO X.w st.heap.objs.size (fun j => decide (j ∈ zs)) n), J.laid (t' := tk) keep (Nat.le_refl _) (setO_new isR), rfl, q _ n (J.hok.fresh (Nat.le_refl _)) hn⟩
/-- set(xs), xs a tuple of ints -/
def rSetTI (K : PySem.W.Frag) (w : World) : List V → Hp → VK → Prop := fun xs H Q => ∃ (a : Addr) (zs : List Int), xs = [V.ref a] ∧ SqT K H a (zs.map V.int) ∧ zs.length + 1 < scanBound ∧
  ∀ p n, H p = none → n ≤ zs.length → Q (.ref p) (upd H p (SetO w p (fun j => decide (j ∈ zs)) n))
theorem cr_setTI (hc : X.calm = true) : CallR X (.type "set") (rSetTI X.K X.w) := by
  intro pins st σ H vs us Q J rv h
  obtain ⟨a, zs, rfl, hs, few, q⟩ := h
  obtain ⟨its, rI, hl, hz⟩ := J.tuple hs
  rw [Vals.ref1 rv]
  refine call_set_tupI zs (J.ok.hd hc) hl (by simpa using rI.ints) few fun hp tk n isR hn keep => ?_
  exact ⟨.ref st.heap.objs.size, upd H st.heap.objs.size (SetO X.w st.heap.objs.size (fun j => decide (j ∈ zs)) n), J.laid (t' := tk) keep (Nat.le_refl _) (setO_new isR), rfl, q _ n (J.hok.fresh (Nat.le_refl _)) hn⟩
end
end L3
end
section
set_option Elab.async false
set_option linter.all false
set_option maxRecDepth 100000
set_option autoImplicit false
/-! L3v: sorted of a set of tuples of ints, of any lengths (own work). -/
namespace L3
open PySem PySem.Spec PyProof.Rows L2
section
variable {P : Program} {w : World} {A : Around} {E : Value → Shared → Prop} {s : Shared}
def keyOfL (L : List (Addr × List Int)) (v : Value) : List Int := ((L.find? fun q => decide (Value.ref q.1 = v)).map (·.2)).getD []
theorem keyOfL_at {h : Heap} {L : List (Addr × List Int)} (ht : ∀ p ∈ L, IsT P w h p.2 p.1) {q : Addr × List Int} (hq : q ∈ L) : keyOfL L (.ref q.1) = q.2 := by
  unfold keyOfL
  cases z : L.find? fun r => decide (Value.ref r.1 = Value.ref q.1) with
  | none =>
    have := List.find?_eq_none.mp z q hq
    simp at this
  | some r =>
    have h1 := List.mem_of_find?_eq_some z
    have h2 := List.find?_some z
    simp only [decide_eq_true_eq, Value.ref.injEq] at h2
    have a1 := ht r h1
    have a2 := ht q hq
    rw [h2] at a1
    exact a1.inj a2
theorem isTI_of {h : Heap} {k : List Int} {b : Addr} (x : IsT P w h k b) : IsTI h (.ref b) k := by
  obtain ⟨o, items, n, ho, hc, hd, hi⟩ := x
  exact ⟨b, o, items, n, rfl, ho, hc, hd, ints_of_items hi⟩
theorem sorted_setTI {a : Addr} {L : List (Addr × List Int)} {es : Array (Int × Value)} {ep : Nat} {t : SetTable} {Q : Value → Shared → Prop} (R : SetTR P w s.heap a L es ep t) (calmA : A.handled = none) (hu : A.units + 64 < cLine)
    (fin : ∀ st2 p (out : Array Value) (c : Nat), (∀ b o, s.heap.get? b = some o → st2.heap.get? b = some o) → st2.gens = s.gens → st2.os = s.os → s.heap.objs.size ≤ p →
      st2.heap.get? p = some (seqObj "list" out c) → out.toList.Perm (L.map fun q => Value.ref q.1) → out.toList.Pairwise (fun u v => HT.lexLt (keyOfL L v) (keyOfL L u) = false) → Q (.ref p) st2) :
    wpAny (model P w) A (call (.builtin "sorted") [.ref a]) Q E s := by
  obtain ⟨ob, atA, exact1, data⟩ := R.ob
  have size := R.size
  have few := R.few
  refine Calls.call_function_entry kind_sorted plain_sorted entry_sorted (args_sorted1 _) ?_
  unfold Builtin.«sorted»
  refine wpAny_bind (m := checkCount "sorted" 1 1 _) (wpAny_pure ?_)
  refine wpAny_bind (collect_set (A := A.in1) calmA ⟨ob, atA, exact1.1, data⟩ R.fits (by unfold scanBound; omega) R.tab.ris R.led fun st1 vs keep1 grow1 g1 o1 perm1 => ?_)
  have rows : es.toList.map (·.2) = L.map fun q => Value.ref q.1 := by
    rw [R.rows]
    unfold rowsOf
    rw [List.map_map]
    rfl
  rw [rows] at perm1
  have vlen : vs.length < 64 := by rw [perm1.length_eq, List.length_map]; exact few
  have vsz : vs.length ≤ sizeLine := by rw [sizeLine_eq]; omega
  refine wpAny_bind (wpAny_newList ?_ vsz)
  have atN : (st1.heap.push (seqObj "list" vs.toArray 0)).get? st1.heap.objs.size = some (seqObj "list" vs.toArray 0) := Heap.get?_push_size _ rfl
  have ti : ∀ v ∈ vs, IsTI (st1.heap.push (seqObj "list" vs.toArray 0)) v (keyOfL L v) := fun v hv => by
    obtain ⟨q, hq, e⟩ := List.mem_map.mp (perm1.mem_iff.mp hv)
    rw [← e, keyOfL_at R.tup hq]
    exact isTI_of (isT_keep (R.tup q hq) fun b u z => Heap.get?_push_of_some _ (keep1 b u z))
  refine wpAny_bind (wpAny_holding (wpAny_call_entry slot_list_sort ⟨_, atN, rfl⟩ entry_list_sort (SrtO.list_sort_ord (swo_ti fun v => keyOfL L v) atN vsz (fun h2 h' kp' => ?_) fun out hs hb => ⟨_, rfl, ?_⟩) (args_list_sort _)))
  · have ti' : ∀ v ∈ vs, IsTI h' v (keyOfL L v) := fun v hv => (ti v hv).keeps fun b o ho hc => kp' b o (fun z => by subst z; rw [atN] at ho; cases ho; exact absurd (show Value.type "list" = Value.type "tuple" from hc) (by decide)) ho
    obtain ⟨κ, hκ, hw⟩ := ti_kind (prog := P) (w := w) (A := A.in1.in1) (s := { st1 with heap := h' }) h2 ti'
    exact ⟨κ, hw, ti_cmp (s := { st1 with heap := h' }) κ hκ (by show A.units + 1 + 1 < cLine; omega) ti'⟩
  · obtain ⟨c, hc⟩ := sortedHeap_at (vs := vs) (out := out.toArray) atN
    refine wpAny_pure ⟨_, rfl, fin _ st1.heap.objs.size out.toArray c (fun b u e => ?_) g1 o1 grow1 hc (hb.perm.trans perm1) hs⟩
    have z := keep1 b u e
    have lt := Heap.lt_size z
    show (sortedHeap (st1.heap.push (seqObj "list" vs.toArray 0)) st1.heap.objs.size vs out.toArray).get? b = some u
    rw [sortedHeap_old (Nat.ne_of_lt lt) (by rw [size_push']; exact Nat.lt_succ_of_lt lt)]
    exact Heap.get?_push_of_some _ z
end
section
variable {X : Cx}
def rSortedSTI (K : PySem.W.Frag) (P : Program) (w : World) : List V → Hp → VK → Prop := fun vs H Q => ∃ (a : Addr) (L : List (Addr × List Int)), vs = [V.ref a] ∧ H a = some (SetTO P w a L) ∧ (∀ p ∈ L, SqT K H p.1 (p.2.map V.int)) ∧
  ∀ (L2 : List (Addr × List Int)) (p : Addr), L2.Perm L → (L.map (·.2)).Nodup → L2.Pairwise (fun q r => HT.lexLt r.2 q.2 = false) → H p = none → Q (.ref p) (upd H p (.lst (L2.map fun q => V.ref q.1)))
theorem unref {L : List (Addr × List Int)} : ∀ {us : List Value}, (∀ u ∈ us, u ∈ L.map fun q => Value.ref q.1) → ∃ L2 : List (Addr × List Int), us = L2.map (fun q => Value.ref q.1) ∧ ∀ q ∈ L2, q ∈ L
  | [], _ => ⟨[], rfl, fun q hq => by cases hq⟩
  | u :: us, h => by
    obtain ⟨q, hq, e⟩ := List.mem_map.mp (h u List.mem_cons_self)
    obtain ⟨L2, e2, h2⟩ := unref (us := us) fun v hv => h v (List.mem_cons_of_mem _ hv)
    refine ⟨q :: L2, by rw [List.map_cons, e, e2], fun r hr => ?_⟩
    rcases List.mem_cons.mp hr with rfl | hr
    · exact hq
    · exact h2 r hr
theorem cr_sortedSTI (hc : X.calm = true) (hu : X.A.units + 64 < cLine) : CallR X (.builtin "sorted") (rSortedSTI X.K X.prog X.w) := by
  intro pins st σ H vs us Q J rv h
  obtain ⟨a, L, rfl, ha, hk, q⟩ := h
  have R0 : SetT0 X.prog X.w st.heap a L := (J.hok a _ ha).1
  obtain ⟨es, ep, t, R⟩ := R0.full fun p hp => J.isT (hk p hp)
  rw [Vals.ref1 rv]
  refine sorted_setTI R (J.ok.hd hc) hu fun st2 p out c keep g o grow atP perm pw => ?_
  obtain ⟨L2, e2, sub⟩ := unref (us := out.toList) fun u hu => perm.mem_iff.mp hu
  have one : ∀ q ∈ L, ∀ r ∈ L, q.1 = r.1 → q = r := fun q hq r hr e => Prod.ext e (by
    have z := keyOfL_at R.tup hq
    rw [e, keyOfL_at R.tup hr] at z
    exact z.symm)
  have ndL : L.Nodup := nodup_of_map R.nd
  have ndV : (L.map fun q => Value.ref q.1).Nodup := List.pairwise_map.mpr (List.Pairwise.imp_of_mem (fun {q r} hq hr hne e => hne (one q hq r hr (by injection e))) ndL)
  rw [e2] at perm pw
  have nd2 : L2.Nodup := nodup_of_map (perm.nodup_iff.mpr ndV)
  have pL : L2.Perm L := (List.perm_ext_iff_of_nodup nd2 ndL).mpr fun q => ⟨sub q, fun hq => by
    obtain ⟨r, hr, e⟩ := List.mem_map.mp (perm.mem_iff.mpr (List.mem_map.mpr ⟨q, hq, rfl⟩))
    rw [← one r (sub r hr) q hq (by injection e)]
    exact hr⟩
  have pw2 : L2.Pairwise (fun q r => HT.lexLt r.2 q.2 = false) := List.Pairwise.imp_of_mem (fun {q r} hq hr z => by
    rw [keyOfL_at R.tup (sub q hq), keyOfL_at R.tup (sub r hr)] at z
    exact z) (List.pairwise_map.mp pw)
  have few2 : L2.length < 64 := by rw [pL.length_eq]; exact R.few
  have hlen : (L2.map fun q => V.ref q.1).length ≤ sizeLine := by
    rw [List.length_map, sizeLine_eq]
    omega
  have noP : H p = none := J.hok.fresh grow
  have vals2 : Vals (L2.map fun q => V.ref q.1) out.toList := by rw [e2]; exact vals_of_refs L2
  have same : st2 = { st with heap := st2.heap, gens := st2.gens, drawn := st2.drawn, toks := st2.toks } := by
    cases st2; cases st; cases o; rfl
  rw [same]
  exact ⟨.ref p, upd H p (.lst (L2.map fun q => V.ref q.1)), J.call (ch := []) (Un.laid keep grow noP) (J.hok.laid keep grow ⟨hlen, out.toList, c, vals2, atP⟩) (by rw [g]; exact J.bare) (fun _ z => nomatch z), rfl, q L2 p pL R.nd pw2 noP⟩
end
end L3
end
section
set_option Elab.async false
set_option linter.all false
set_option maxRecDepth 100000
set_option autoImplicit false
/-! L3j: operations by value over pure data (own work). -/
namespace L3
open PySem PySem.Spec PyProof.Rows L2
/-! ### as data of the library -/
mutual
def toP : D → PyData
  | .non => .none
  | .bl b => .bool b
  | .int i => .int i
  | .str x => .str x
  | .tup xs => .tuple (toPs xs)
  | .lst xs => .list (toPs xs)
  | .ty _ => .none
  | .deck => .none
  | .dic _ => .none
  | .dit _ _ => .none
  | .rng _ _ => .none
def toPs : List D → List PyData
  | [] => []
  | d :: ds => toP d :: toPs ds
end
mutual
/-- plain data, nested less than n deep -/
def okD : Nat → D → Bool
  | n + 1, .tup xs => okDs n xs
  | n + 1, .lst xs => okDs n xs
  | 0, .tup _ => false
  | 0, .lst _ => false
  | _, .ty _ => false
  | _, .deck => false
  | _, .dic _ => false
  | _, .dit _ _ => false
  | _, .rng _ _ => false
  | _, .non => true
  | _, .bl _ => true
  | _, .int _ => true
  | _, .str x => PyData.strOk x
def okDs : Nat → List D → Bool
  | _, [] => true
  | n, d :: ds => okD n d && okDs n ds
end
theorem toPs_map : ∀ ds : List D, toPs ds = ds.map toP
  | [] => rfl
  | d :: ds => by rw [toPs, toPs_map ds]; rfl
mutual
theorem ok_lay : ∀ (n : Nat) (d : D), okD n d = true → (toP d).canLay0 = true ∧ (toP d).depth ≤ n
  | n + 1, .tup xs, h => by
    obtain ⟨h1, h2⟩ := ok_lays n xs h
    exact ⟨by simpa [toP, PyData.canLay0] using h1, by simp only [toP, PyData.depth]; omega⟩
  | n + 1, .lst xs, h => by
    obtain ⟨h1, h2⟩ := ok_lays n xs h
    exact ⟨by simpa [toP, PyData.canLay0] using h1, by simp only [toP, PyData.depth]; omega⟩
  | 0, .tup _, h => by simp [okD] at h
  | 0, .lst _, h => by simp [okD] at h
  | n, .non, _ => ⟨by simp [toP, PyData.canLay0], by simp [toP, PyData.depth]⟩
  | n, .bl _, _ => ⟨by simp [toP, PyData.canLay0], by simp [toP, PyData.depth]⟩
  | n, .int _, _ => ⟨by simp [toP, PyData.canLay0], by simp [toP, PyData.depth]⟩
  | n, .str _, h => ⟨by cases n <;> simpa [toP, PyData.canLay0, okD] using h, by simp [toP, PyData.depth]⟩
  | n, .ty _, h => by cases n <;> simp [okD] at h
  | n, .deck, h => by cases n <;> simp [okD] at h
  | n, .dic _, h => by cases n <;> simp [okD] at h
  | n, .dit _ _, h => by cases n <;> simp [okD] at h
  | n, .rng _ _, h => by cases n <;> simp [okD] at h
theorem ok_lays : ∀ (n : Nat) (ds : List D), okDs n ds = true → PyData.canLayAll0 (toPs ds) = true ∧ PyData.depthAll (toPs ds) ≤ n
  | n, [], _ => ⟨by simp [toPs, PyData.canLayAll0], by simp [toPs, PyData.depthAll]⟩
  | n, d :: ds, h => by
    simp only [okDs, Bool.and_eq_true] at h
    obtain ⟨h1, h2⟩ := ok_lay n d h.1
    obtain ⟨h3, h4⟩ := ok_lays n ds h.2
    exact ⟨by simp [toPs, PyData.canLayAll0, h1, h3], by simp only [toPs, PyData.depthAll]; omega⟩
end
theorem ok_shaped {n : Nat} {d : D} (h : okD n d = true) (hn : n ≤ 64) : SeqAt.shaped (toP d) = true := by
  obtain ⟨h1, h2⟩ := ok_lay n d h
  unfold SeqAt.shaped
  rw [h1]
  simp only [Bool.true_and, decide_eq_true_eq]
  omega
section
variable {K : PySem.W.Frag} {tk : Addr} {H : Hp} {av : Addr → Prop}
mutual
theorem rep_dp : ∀ {n : Nat} {v : V} {d : D}, Rep K tk H av v d → okD n d = true → Dp K H v (toP d)
  | _, _, _, .non, _ => .non
  | _, _, _, .bl b, _ => .bl b
  | _, _, _, .int i, _ => .int i
  | _, _, _, .str x, _ => .str x
  | n, _, _, .ty m, h => by cases n <;> simp [okD] at h
  | n, _, _, .deck, h => by cases n <;> simp [okD] at h
  | 0, _, _, .tup _ _, h => by simp [okD] at h
  | 0, _, _, .lst _ _ _, h => by simp [okD] at h
  | n + 1, _, _, .tup q r, h => .tup q (rep_dps r h)
  | n + 1, _, _, .lst q _ r, h => .lst (.inl (.inl q)) (rep_dps r h)
  | n, _, _, .dic _ _ _, h => by cases n <;> simp [okD] at h
  | n, _, _, .dit _ _ _ _, h => by cases n <;> simp [okD] at h
  | n, _, _, .rng _ _, h => by cases n <;> simp [okD] at h
theorem rep_dps : ∀ {n : Nat} {vs : List V} {ds : List D}, RepL K tk H av vs ds → okDs n ds = true → DpAll K H vs (toPs ds)
  | _, _, _, .nil, _ => .nil
  | n, _, _, .cons q r, h => by
    simp only [okDs, Bool.and_eq_true] at h
    exact .cons (rep_dp q h.1) (rep_dps r h.2)
end
end
/-! ### an operation with its reading -/
def OpV (X : Cx) (tk : Addr) (g : Value → Value → Sem Value) (f : D → D → Option D) : Prop := ∃ r, OpR X g r ∧ V2 X.K tk r f
def CaV (X : Cx) (tk : Addr) (g : Value) (f : List D → Option D) : Prop := ∃ r, CallR X g r ∧ VC X.K tk r f
section
variable {X : Cx} {tk : Addr}
def intD (f : Int → Int → Option D) : D → D → Option D
  | .int i, .int j => f i j
  | _, _ => none
theorem intD_some {f : Int → Int → Option D} {x y d : D} (h : intD f x y = some d) : ∃ i j, x = .int i ∧ y = .int j ∧ f i j = some d := by
  unfold intD at h
  split at h
  · exact ⟨_, _, rfl, rfl, h⟩
  · cases h
/-- sum, joined lists, joined tuples -/
def addD : D → D → Option D
  | .int i, .int j => some (.int (i + j))
  | .lst xs, .lst ys => if xs.length + ys.length ≤ sizeLine then some (.lst (xs ++ ys)) else none
  | .tup xs, .tup ys => if xs.length + ys.length ≤ sizeLine then some (.tup (xs ++ ys)) else none
  | _, _ => none
theorem ov_add : OpV X tk (binaryOp .Add) addD := by
  refine ⟨_, (op_add.or op_cat).or op_catA, fun H av x y dx dy d Q hav rx ry e q => ?_⟩
  unfold addD at e
  split at e
  · rename_i i j
    cases e
    cases rx
    cases ry
    exact .inl (.inl ⟨i, j, rfl, rfl, q.val (.int _) fun _ z => by cases z⟩)
  · split at e
    · rename_i hz
      cases e
      cases rx with
      | lst h1 n1 r1 =>
        cases ry with
        | lst h2 n2 r2 => exact .inl (.inr ⟨_, _, _, _, rfl, rfl, h1, h2, by rw [r1.length, r2.length]; exact hz, fun p hp => q.lst hav (r1.append r2) hp⟩)
    · cases e
  · rename_i ds es
    split at e
    · rename_i hz
      cases e
      cases rx with
      | tup h1 r1 =>
        cases ry with
        | tup h2 r2 =>
          refine .inr ⟨_, _, _, _, rfl, rfl, h1, h2, by rw [r1.length, r2.length]; exact hz, fun e => ?_, fun _ e => ?_, fun _ _ p hp => q.tup (r1.append r2) hp⟩
          · subst e
            cases r1
            exact q.val (.tup h2 r2) fun _ z => by cases z
          · subst e
            cases r2
            rw [List.append_nil] at q
            exact q.val (.tup h1 r1) fun _ z => by cases z
    · cases e
  · cases e
theorem rep_nobox {K : PySem.W.Frag} {tk : Addr} {v : V} {d : D} (h : ∀ H av, Rep K tk H av v d) : boxD d = false := by
  have := h (fun _ => none) (fun _ => True)
  cases this with
  | lst _ n _ => exact (n trivial).elim
  | dic _ n _ => exact (n trivial).elim
  | dit _ n _ _ => exact (n trivial).elim
  | _ => rfl
theorem ov_int {g : Value → Value → Sem Value} {C : Int → Int → Prop} {h : Int → Int → V} {f : Int → Int → Option D} (ho : OpR X g (rI C h)) (hf : ∀ i j d, f i j = some d → C i j ∧ (∀ H av, Rep X.K tk H av (h i j) d) ∧ ∀ ds, d ≠ .lst ds) : OpV X tk g (intD f) := by
  refine ⟨_, ho, fun H av x y dx dy d Q hav rx ry e q => ?_⟩
  obtain ⟨i, j, rfl, rfl, e⟩ := intD_some e
  obtain ⟨h1, h2, h3⟩ := hf i j d e
  cases rx
  cases ry
  exact ⟨i, j, rfl, rfl, h1, q.val (h2 H av) h3 (rep_nobox h2)⟩
theorem ov_int0 {g : Value → Value → Sem Value} {h : Int → Int → V} {f : Int → Int → Option D} (ho : OpR X g (rI0 h)) (hf : ∀ i j d, f i j = some d → (∀ H av, Rep X.K tk H av (h i j) d) ∧ ∀ ds, d ≠ .lst ds) : OpV X tk g (intD f) := by
  refine ⟨_, ho, fun H av x y dx dy d Q hav rx ry e q => ?_⟩
  obtain ⟨i, j, rfl, rfl, e⟩ := intD_some e
  obtain ⟨h2, h3⟩ := hf i j d e
  cases rx
  cases ry
  exact ⟨i, j, rfl, rfl, q.val (h2 H av) h3 (rep_nobox h2)⟩
def subD : D → D → Option D := intD fun i j => some (.int (i - j))
theorem ov_sub : OpV X tk (binaryOp .Sub) subD := ov_int0 op_sub fun i j d e => by cases e; exact ⟨fun _ _ => .int _, fun _ z => by cases z⟩
instance (i j : Int) : Decidable (CMul i j) := by unfold CMul; exact inferInstance
def mulD : D → D → Option D := intD fun i j => if CMul i j then some (.int (i * j)) else none
theorem ov_mul : OpV X tk (binaryOp .Mult) mulD := ov_int op_mul fun i j d e => by
  split at e
  · rename_i h
    cases e
    exact ⟨h, fun _ _ => .int _, fun _ z => by cases z⟩
  · cases e
def divD : D → D → Option D := intD fun i j => if 0 < j ∧ j < 1073741824 then some (.int (i / j)) else none
theorem ov_div : OpV X tk (binaryOp .FloorDiv) divD := ov_int op_fdiv fun i j d e => by
  split at e
  · rename_i h
    cases e
    exact ⟨h, fun _ _ => .int _, fun _ z => by cases z⟩
  · cases e
def modD : D → D → Option D := intD fun i j => if 0 < j then some (.int (i % j)) else none
theorem ov_mod : OpV X tk (binaryOp .Mod) modD := ov_int op_mod fun i j d e => by
  split at e
  · rename_i h
    cases e
    exact ⟨h, fun _ _ => .int _, fun _ z => by cases z⟩
  · cases e
instance (i j : Int) : Decidable (CPow i j) := by unfold CPow; exact inferInstance
def powD : D → D → Option D := intD fun i j => if CPow i j then some (.int (i ^ j.toNat)) else none
theorem ov_pow : OpV X tk (binaryOp .Pow) powD := ov_int op_pow fun i j d e => by
  split at e
  · rename_i h
    cases e
    exact ⟨h, fun _ _ => .int _, fun _ z => by cases z⟩
  · cases e
def shlD : D → D → Option D := intD fun i j => if CPow i j then some (.int (i * 2 ^ j.toNat)) else none
theorem ov_shl : OpV X tk (binaryOp .LShift) shlD := ov_int op_shl fun i j d e => by
  split at e
  · rename_i h
    cases e
    exact ⟨h, fun _ _ => .int _, fun _ z => by cases z⟩
  · cases e
def shrD : D → D → Option D := intD fun i j => if 0 ≤ j then some (.int (i / 2 ^ j.toNat)) else none
theorem ov_shr : OpV X tk (binaryOp .RShift) shrD := ov_int op_shr fun i j d e => by
  split at e
  · rename_i h
    cases e
    exact ⟨h, fun _ _ => .int _, fun _ z => by cases z⟩
  · cases e
def bandD : D → D → Option D := intD fun i j => some (.int (Builtin.bitAnd i j))
theorem ov_band : OpV X tk (binaryOp .BitAnd) bandD := ov_int0 op_and fun i j d e => by cases e; exact ⟨fun _ _ => .int _, fun _ z => by cases z⟩
def borD : D → D → Option D := intD fun i j => some (.int (Builtin.bitOr i j))
theorem ov_bor : OpV X tk (binaryOp .BitOr) borD := ov_int0 op_or fun i j d e => by cases e; exact ⟨fun _ _ => .int _, fun _ z => by cases z⟩
def bxorD : D → D → Option D := intD fun i j => some (.int (Builtin.bitXor i j))
theorem ov_bxor : OpV X tk (binaryOp .BitXor) bxorD := ov_int0 op_xor fun i j d e => by cases e; exact ⟨fun _ _ => .int _, fun _ z => by cases z⟩
def ltD : D → D → Option D := intD fun i j => some (.bl (decide (i < j)))
theorem ov_lt : OpV X tk (compareOp .Lt) ltD := ov_int0 op_lt fun i j d e => by cases e; exact ⟨fun _ _ => .bl _, fun _ z => by cases z⟩
def leD : D → D → Option D := intD fun i j => some (.bl (decide (i ≤ j)))
theorem ov_le : OpV X tk (compareOp .LtE) leD := ov_int0 op_le fun i j d e => by cases e; exact ⟨fun _ _ => .bl _, fun _ z => by cases z⟩
def gtD : D → D → Option D := intD fun i j => some (.bl (decide (j < i)))
theorem ov_gt : OpV X tk (compareOp .Gt) gtD := ov_int0 op_gt fun i j d e => by cases e; exact ⟨fun _ _ => .bl _, fun _ z => by cases z⟩
def geD : D → D → Option D := intD fun i j => some (.bl (decide (j ≤ i)))
theorem ov_ge : OpV X tk (compareOp .GtE) geD := ov_int0 op_ge fun i j d e => by cases e; exact ⟨fun _ _ => .bl _, fun _ z => by cases z⟩
/-- == of data -/
def eqB (x y : D) : Bool := PyData.eqv (toP x) (toP y)
def strs2 : D → D → Bool
  | .str _, .str _ => true
  | _, _ => false
def eqD (x y : D) : Option D := if (okD 60 x && okD 60 y) || strs2 x y then some (.bl (eqB x y)) else none
def neD (x y : D) : Option D := if (okD 60 x && okD 60 y) || strs2 x y then some (.bl (!eqB x y)) else none
theorem strs2_some {x y : D} (h : strs2 x y = true) : ∃ a b, x = .str a ∧ y = .str b := by
  unfold strs2 at h
  split at h
  · exact ⟨_, _, rfl, rfl⟩
  · cases h
theorem str_eqB (a b : Str) : decide (V.str a = V.str b) = eqB (.str a) (.str b) := by
  rw [dec_str]
  simp [eqB, toP, PyData.eqv]
theorem ov_eq (hu : X.A.units + 64 < cLine) : OpV X tk (compareOp .Eq) eqD := by
  refine ⟨_, (op_eqD hu).or op_eq, fun H av x y dx dy d Q hav rx ry e q => ?_⟩
  unfold eqD at e
  split at e
  · rename_i h
    cases e
    rw [Bool.or_eq_true, Bool.and_eq_true] at h
    rcases h with h | h
    · exact .inl ⟨_, _, rep_dp rx h.1, rep_dp ry h.2, ok_shaped h.1 (by decide), ok_shaped h.2 (by decide), q.val (.bl _) fun _ z => by cases z⟩
    · obtain ⟨a, b, rfl, rfl⟩ := strs2_some h
      cases rx
      cases ry
      exact .inr ⟨rfl, by rw [str_eqB]; exact q.val (.bl _) fun _ z => by cases z⟩
  · cases e
theorem ov_ne (hu : X.A.units + 64 < cLine) : OpV X tk (compareOp .NotEq) neD := by
  refine ⟨_, (op_neD hu).or op_ne, fun H av x y dx dy d Q hav rx ry e q => ?_⟩
  unfold neD at e
  split at e
  · rename_i h
    cases e
    rw [Bool.or_eq_true, Bool.and_eq_true] at h
    rcases h with h | h
    · exact .inl ⟨_, _, rep_dp rx h.1, rep_dp ry h.2, ok_shaped h.1 (by decide), ok_shaped h.2 (by decide), q.val (.bl _) fun _ z => by cases z⟩
    · obtain ⟨a, b, rfl, rfl⟩ := strs2_some h
      cases rx
      cases ry
      exact .inr ⟨rfl, by rw [str_eqB]; exact q.val (.bl _) fun _ z => by cases z⟩
  · cases e
/-- x in a tuple of data -/
def rInTup (K : PySem.W.Frag) (neg : Bool) : R2 := fun x y H Q => ∃ d ds, Dp K H x d ∧ Dp K H y (.tuple ds) ∧ SeqAt.shaped d = true ∧ SeqAt.shaped (.tuple ds) = true ∧ Q (.bl (if neg then !(ds.any fun z => PyData.eqv z d) else ds.any fun z => PyData.eqv z d)) H
theorem op_inTup (hu : X.A.units + 65 < cLine) : OpR X (compareOp .In) (rInTup X.K false) := by
  intro pins st σ H x y v u Q J rx ry h
  obtain ⟨d, ds, hd, he, sd, se, q⟩ := h
  obtain ⟨as, r1⟩ := Dp.reads J d x v hd rx
  obtain ⟨bs, r2⟩ := Dp.reads J (.tuple ds) y u he ry
  exact SeqAt.in_tuple_reads r2 r1 (by simpa [PyData.canLay0] using SeqAt.canLay_of_shaped se) (SeqAt.canLay_of_shaped sd) (room_in_shaped sd hu) ⟨.bl _, H, J, rfl, q⟩
theorem op_ninTup (hu : X.A.units + 65 < cLine) : OpR X (compareOp .NotIn) (rInTup X.K true) := by
  intro pins st σ H x y v u Q J rx ry h
  obtain ⟨d, ds, hd, he, sd, se, q⟩ := h
  obtain ⟨as, r1⟩ := Dp.reads J d x v hd rx
  obtain ⟨bs, r2⟩ := Dp.reads J (.tuple ds) y u he ry
  exact SeqAt.notIn_tuple_reads r2 r1 (by simpa [PyData.canLay0] using SeqAt.canLay_of_shaped se) (SeqAt.canLay_of_shaped sd) (room_in_shaped sd hu) ⟨.bl _, H, J, rfl, q⟩
def inB (x : D) (ys : List D) : Bool := ys.any fun z => eqB z x
def inD (x y : D) : Option D := match seqD y with
  | some ys => if okD 60 x && okD 60 y then some (.bl (inB x ys)) else none
  | none => none
def ninD (x y : D) : Option D := match seqD y with
  | some ys => if okD 60 x && okD 60 y then some (.bl (!inB x ys)) else none
  | none => none
theorem any_toPs (ys : List D) (x : D) : ((toPs ys).any fun z => PyData.eqv z (toP x)) = inB x ys := by
  rw [toPs_map, List.any_map]
  rfl
theorem ov_in (hu : X.A.units + 65 < cLine) : OpV X tk (compareOp .In) inD := by
  refine ⟨_, (op_inD hu).or (op_inTup hu), fun H av x y dx dy d Q hav rx ry e q => ?_⟩
  unfold inD at e
  split at e
  · rename_i ys hs
    split at e
    · rename_i h
      rw [Bool.and_eq_true] at h
      cases e
      cases dy with
      | lst zs =>
        cases hs
        exact .inl ⟨_, _, rep_dp rx h.1, rep_dp ry h.2, ok_shaped h.1 (by decide), ok_shaped h.2 (by decide), by rw [any_toPs]; exact q.val (.bl _) fun _ z => by cases z⟩
      | tup zs =>
        cases hs
        exact .inr ⟨_, _, rep_dp rx h.1, rep_dp ry h.2, ok_shaped h.1 (by decide), ok_shaped h.2 (by decide), by rw [any_toPs]; exact q.val (.bl _) fun _ z => by cases z⟩
      | _ => cases hs
    · cases e
  · cases e
theorem ov_nin (hu : X.A.units + 65 < cLine) : OpV X tk (compareOp .NotIn) ninD := by
  refine ⟨_, (op_notInD hu).or (op_ninTup hu), fun H av x y dx dy d Q hav rx ry e q => ?_⟩
  unfold ninD at e
  split at e
  · rename_i ys hs
    split at e
    · rename_i h
      rw [Bool.and_eq_true] at h
      cases e
      cases dy with
      | lst zs =>
        cases hs
        exact .inl ⟨_, _, rep_dp rx h.1, rep_dp ry h.2, ok_shaped h.1 (by decide), ok_shaped h.2 (by decide), by rw [any_toPs]; exact q.val (.bl _) fun _ z => by cases z⟩
      | tup zs =>
        cases hs
        exact .inr ⟨_, _, rep_dp rx h.1, rep_dp ry h.2, ok_shaped h.1 (by decide), ok_shaped h.2 (by decide), by rw [any_toPs]; exact q.val (.bl _) fun _ z => by cases z⟩
      | _ => cases hs
    · cases e
  · cases e
/-- they give truth values -/
theorem isB_int {f : Int → Int → Option D} (h : ∀ i j d, f i j = some d → ∃ k, d = .bl k) : isB (intD f) := fun x y d e => let ⟨i, j, _, _, e⟩ := intD_some e; h i j d e
theorem isB_lt : isB ltD := isB_int fun _ _ _ e => by cases e; exact ⟨_, rfl⟩
theorem isB_le : isB leD := isB_int fun _ _ _ e => by cases e; exact ⟨_, rfl⟩
theorem isB_gt : isB gtD := isB_int fun _ _ _ e => by cases e; exact ⟨_, rfl⟩
theorem isB_ge : isB geD := isB_int fun _ _ _ e => by cases e; exact ⟨_, rfl⟩
theorem isB_eq : isB eqD := fun x y d e => by
  unfold eqD at e
  split at e
  · cases e; exact ⟨_, rfl⟩
  · cases e
theorem isB_ne : isB neD := fun x y d e => by
  unfold neD at e
  split at e
  · cases e; exact ⟨_, rfl⟩
  · cases e
theorem isB_in : isB inD := fun x y d e => by
  unfold inD at e
  split at e
  · split at e
    · cases e; exact ⟨_, rfl⟩
    · cases e
  · cases e
theorem isB_nin : isB ninD := fun x y d e => by
  unfold ninD at e
  split at e
  · split at e
    · cases e; exact ⟨_, rfl⟩
    · cases e
  · cases e
/-! ### calls -/
theorem repL1' {K : PySem.W.Frag} {tk : Addr} {H : Hp} {av : Addr → Prop} {xs : List V} {d : D} (r : RepL K tk H av xs [d]) : ∃ v, xs = [v] ∧ Rep K tk H av v d := by
  cases r with
  | cons r q =>
    cases q
    exact ⟨_, rfl, r⟩
def seq1 (f : List D → Option D) : List D → Option D
  | [.lst xs] => f xs
  | [.tup xs] => f xs
  | _ => none
def lenD : List D → Option D := seq1 fun xs => some (.int xs.length)
theorem cv_len : CaV X tk (.builtin "len") lenD := by
  refine ⟨_, call_len_seq, fun H av xs ds d Q hav rl e q => ?_⟩
  unfold lenD seq1 at e
  split at e
  · cases e
    obtain ⟨v, rfl, r⟩ := repL1' rl
    cases r with
    | lst hp _ r => exact ⟨_, _, rfl, .inl (.inl (.inl hp)), by rw [r.length]; exact q.val (.int _) fun _ z => by cases z⟩
  · cases e
    obtain ⟨v, rfl, r⟩ := repL1' rl
    cases r with
    | tup hp r => exact ⟨_, _, rfl, .inr hp, by rw [r.length]; exact q.val (.int _) fun _ z => by cases z⟩
  · cases e
end
end L3
end
section
set_option Elab.async false
set_option linter.all false
set_option maxRecDepth 100000
set_option autoImplicit false
/-! L3k: calls of built-ins, subscripts, slices over pure data (own work). -/
namespace L3
open PySem PySem.Spec PyProof.Rows L2
section
variable {X : Cx} {tk : Addr}
theorem CaV.or {g : Value} {f f' F : List D → Option D} (h : CaV X tk g f) (h' : CaV X tk g f') (o : ∀ ds d, F ds = some d → f ds = some d ∨ f' ds = some d) : CaV X tk g F := by
  obtain ⟨r, c, v⟩ := h
  obtain ⟨r', c', v'⟩ := h'
  refine ⟨_, c.or c', fun H av xs ds d Q hav rl e q => ?_⟩
  rcases o ds d e with z | z
  · exact .inl (v H av xs ds d Q hav rl z q)
  · exact .inr (v' H av xs ds d Q hav rl z q)
/-! ### tuple, list -/
def tupleD : List D → Option D := seq1 fun xs => some (.tup xs)
theorem cv_tuple : CaV X tk (.type "tuple") tupleD := by
  refine ⟨_, call_tuple_of, fun H av xs ds d Q hav rl e q => ?_⟩
  unfold tupleD seq1 at e
  split at e
  · cases e
    obtain ⟨v, rfl, r⟩ := repL1' rl
    cases r with
    | lst hp _ r => exact ⟨_, _, rfl, .inl ⟨.inl (.inl hp), fun p hp => q.tup r hp⟩⟩
  · cases e
    obtain ⟨v, rfl, r⟩ := repL1' rl
    cases r with
    | tup hp r => exact ⟨_, _, rfl, .inr ⟨hp, q.val (.tup hp r) fun _ z => by cases z⟩⟩
  · cases e
def listD : List D → Option D := seq1 fun xs => some (.lst xs)
theorem cv_list : CaV X tk (.type "list") listD := by
  refine ⟨_, call_list_of, fun H av xs ds d Q hav rl e q => ?_⟩
  unfold listD seq1 at e
  split at e
  · cases e
    obtain ⟨v, rfl, r⟩ := repL1' rl
    cases r with
    | lst hp _ r => exact ⟨_, _, rfl, .inl (.inl (.inl hp)), fun p hp => q.lst hav r hp⟩
  · cases e
    obtain ⟨v, rfl, r⟩ := repL1' rl
    cases r with
    | tup hp r => exact ⟨_, _, rfl, .inr hp, fun p hp => q.lst hav r hp⟩
  · cases e
/-! ### lists of one kind -/
def intsD : List D → Option (List Int)
  | [] => some []
  | .int i :: ds => (intsD ds).map (i :: ·)
  | _ => none
def boolsD : List D → Option (List Bool)
  | [] => some []
  | .bl i :: ds => (boolsD ds).map (i :: ·)
  | _ => none
def tupsD : List D → Option (List (List Int))
  | [] => some []
  | .tup xs :: ds => match intsD xs with
    | some ns => (tupsD ds).map (ns :: ·)
    | none => none
  | _ => none
theorem intsD_some : ∀ {ds : List D} {ns : List Int}, intsD ds = some ns → ds = ns.map .int
  | [], ns, h => by cases h; rfl
  | .int i :: ds, ns, h => by
    unfold intsD at h
    cases z : intsD ds with
    | none => rw [z] at h; cases h
    | some ms =>
      rw [z] at h
      cases h
      rw [intsD_some z]
      rfl
theorem intsD_map : ∀ ns : List Int, intsD (ns.map .int) = some ns
  | [] => rfl
  | n :: ns => by
    show (intsD (ns.map .int)).map (n :: ·) = _
    rw [intsD_map ns]
    rfl
theorem boolsD_some : ∀ {ds : List D} {ns : List Bool}, boolsD ds = some ns → ds = ns.map .bl
  | [], ns, h => by cases h; rfl
  | .bl i :: ds, ns, h => by
    unfold boolsD at h
    cases z : boolsD ds with
    | none => rw [z] at h; cases h
    | some ms =>
      rw [z] at h
      cases h
      rw [boolsD_some z]
      rfl
theorem boolsD_map : ∀ ns : List Bool, boolsD (ns.map .bl) = some ns
  | [] => rfl
  | n :: ns => by
    show (boolsD (ns.map .bl)).map (n :: ·) = _
    rw [boolsD_map ns]
    rfl
def tupI (ns : List Int) : D := .tup (ns.map .int)
theorem tupsD_some : ∀ {ds : List D} {ks : List (List Int)}, tupsD ds = some ks → ds = ks.map tupI
  | [], ns, h => by cases h; rfl
  | .tup xs :: ds, ks, h => by
    unfold tupsD at h
    cases y : intsD xs with
    | none => rw [y] at h; cases h
    | some ns =>
      rw [y] at h
      cases z : tupsD ds with
      | none => simp only [z] at h; cases h
      | some ms =>
        simp only [z] at h
        cases h
        rw [tupsD_some z, intsD_some y]
        rfl
theorem tupsD_map : ∀ ks : List (List Int), tupsD (ks.map tupI) = some ks
  | [] => rfl
  | k :: ks => by
    show (match intsD (k.map .int) with | some ns => (tupsD (ks.map tupI)).map (ns :: ·) | none => none) = _
    rw [intsD_map, tupsD_map ks]
    rfl
section
variable {K : PySem.W.Frag} {H : Hp} {av : Addr → Prop}
theorem rep_ints : ∀ {ns : List Int} {xs : List V}, RepL K tk H av xs (ns.map .int) → xs = ns.map .int
  | [], _, .nil => rfl
  | n :: ns, _, .cons h r => by
    cases h
    rw [rep_ints r]
    rfl
theorem ints_rep : ∀ (ns : List Int), RepL K tk H av (ns.map .int) (ns.map .int)
  | [] => .nil
  | n :: ns => .cons (.int n) (ints_rep ns)
theorem rep_bools : ∀ {ns : List Bool} {xs : List V}, RepL K tk H av xs (ns.map .bl) → xs = ns.map .bl
  | [], _, .nil => rfl
  | n :: ns, _, .cons h r => by
    cases h
    rw [rep_bools r]
    rfl
/-- tuples of ints lie as addresses with their keys -/
theorem rep_tups : ∀ {ks : List (List Int)} {xs : List V}, RepL K tk H av xs (ks.map tupI) → ∃ L : List (Addr × List Int), xs = L.map (fun p => V.ref p.1) ∧ L.map (·.2) = ks ∧ ∀ p ∈ L, SqT K H p.1 (p.2.map V.int)
  | [], _, .nil => ⟨[], rfl, rfl, fun p h => by cases h⟩
  | k :: ks, _, .cons h r => by
    obtain ⟨L, e1, e2, e3⟩ := rep_tups r
    have h : Rep K tk H av _ (.tup (k.map .int)) := h
    cases h with
    | tup hq rl =>
      rename_i a xs
      rw [rep_ints rl] at hq
      refine ⟨(a, k) :: L, by rw [List.map_cons, e1], by rw [List.map_cons, e2], fun p hp => ?_⟩
      rcases List.mem_cons.mp hp with rfl | hp
      · exact hq
      · exact e3 p hp
theorem tups_rep : ∀ {L : List (Addr × List Int)}, (∀ p ∈ L, SqT K H p.1 (p.2.map V.int)) → RepL K tk H av (L.map fun p => V.ref p.1) ((L.map (·.2)).map tupI)
  | [], _ => .nil
  | p :: L, h => .cons (.tup (h p List.mem_cons_self) (ints_rep _)) (tups_rep fun q hq => h q (List.mem_cons_of_mem _ hq))
end
/-! ### all, any, sum -/
def allD : List D → Option D
  | [.lst xs] => (boolsD xs).map fun bs => .bl (bs.all id)
  | _ => none
theorem cv_all (hc : X.calm = true) : CaV X tk (.builtin "all") allD := by
  refine ⟨_, cr_all hc, fun H av xs ds d Q hav rl e q => ?_⟩
  unfold allD at e
  split at e
  · rename_i ys
    cases z : boolsD ys with
    | none => rw [z] at e; cases e
    | some bs =>
      rw [z] at e
      cases e
      rw [boolsD_some z] at rl
      obtain ⟨v, rfl, r⟩ := repL1' rl
      cases r with
      | lst hp _ r =>
        rw [rep_bools r] at hp
        exact ⟨_, bs, rfl, .inl (.inl hp), q.val (.bl _) fun _ z => by cases z⟩
  · cases e
def anyD : List D → Option D
  | [.lst xs] => (boolsD xs).map fun bs => .bl (bs.any id)
  | _ => none
theorem cv_any (hc : X.calm = true) : CaV X tk (.builtin "any") anyD := by
  refine ⟨_, cr_any hc, fun H av xs ds d Q hav rl e q => ?_⟩
  unfold anyD at e
  split at e
  · rename_i ys
    cases z : boolsD ys with
    | none => rw [z] at e; cases e
    | some bs =>
      rw [z] at e
      cases e
      rw [boolsD_some z] at rl
      obtain ⟨v, rfl, r⟩ := repL1' rl
      cases r with
      | lst hp _ r =>
        rw [rep_bools r] at hp
        exact ⟨_, bs, rfl, .inl (.inl hp), q.val (.bl _) fun _ z => by cases z⟩
  · cases e
def sumD : List D → Option D
  | [.lst xs] => (intsD xs).map fun ns => .int ns.sum
  | _ => none
theorem cv_sum (hc : X.calm = true) : CaV X tk (.builtin "sum") sumD := by
  refine ⟨_, cr_sum hc, fun H av xs ds d Q hav rl e q => ?_⟩
  unfold sumD at e
  split at e
  · rename_i ys
    cases z : intsD ys with
    | none => rw [z] at e; cases e
    | some bs =>
      rw [z] at e
      cases e
      rw [intsD_some z] at rl
      obtain ⟨v, rfl, r⟩ := repL1' rl
      cases r with
      | lst hp _ r =>
        rw [rep_ints r] at hp
        exact ⟨_, bs, rfl, .inl (.inl hp), q.val (.int _) fun _ z => by cases z⟩
  · cases e
/-! ### min, max -/
def minD : List D → Option D
  | [.int i, .int j] => some (.int (if j < i then j else i))
  | [.lst xs] => match intsD xs with
    | some (n :: ns) => some (.int (ns.foldl min n))
    | _ => none
  | _ => none
def maxD : List D → Option D
  | [.int i, .int j] => some (.int (if j > i then j else i))
  | [.lst xs] => match intsD xs with
    | some (n :: ns) => some (.int (ns.foldl max n))
    | _ => none
  | _ => none
theorem foldl_min : ∀ (ns : List Int) (n : Int), ns.foldl min n ∈ n :: ns ∧ ∀ y ∈ n :: ns, ns.foldl min n ≤ y
  | [], n => ⟨List.mem_cons_self, fun y h => by simp at h; subst h; exact Int.le_refl _⟩
  | m :: ns, n => by
    obtain ⟨h1, h2⟩ := foldl_min ns (min n m)
    refine ⟨?_, fun y hy => ?_⟩
    · show ns.foldl min (min n m) ∈ _
      rcases List.mem_cons.mp h1 with h | h
      · rw [h]
        by_cases z : n ≤ m
        · rw [show min n m = n by omega]; exact List.mem_cons_self
        · rw [show min n m = m by omega]; exact List.mem_cons_of_mem _ List.mem_cons_self
      · exact List.mem_cons_of_mem _ (List.mem_cons_of_mem _ h)
    · show ns.foldl min (min n m) ≤ y
      have h3 := h2 (min n m) List.mem_cons_self
      rcases List.mem_cons.mp hy with rfl | hy
      · omega
      · rcases List.mem_cons.mp hy with rfl | hy
        · omega
        · exact h2 y (List.mem_cons_of_mem _ hy)
theorem foldl_max : ∀ (ns : List Int) (n : Int), ns.foldl max n ∈ n :: ns ∧ ∀ y ∈ n :: ns, y ≤ ns.foldl max n
  | [], n => ⟨List.mem_cons_self, fun y h => by simp at h; subst h; exact Int.le_refl _⟩
  | m :: ns, n => by
    obtain ⟨h1, h2⟩ := foldl_max ns (max n m)
    refine ⟨?_, fun y hy => ?_⟩
    · show ns.foldl max (max n m) ∈ _
      rcases List.mem_cons.mp h1 with h | h
      · rw [h]
        by_cases z : m ≤ n
        · rw [show max n m = n by omega]; exact List.mem_cons_self
        · rw [show max n m = m by omega]; exact List.mem_cons_of_mem _ List.mem_cons_self
      · exact List.mem_cons_of_mem _ (List.mem_cons_of_mem _ h)
    · show y ≤ ns.foldl max (max n m)
      have h3 := h2 (max n m) List.mem_cons_self
      rcases List.mem_cons.mp hy with rfl | hy
      · omega
      · rcases List.mem_cons.mp hy with rfl | hy
        · omega
        · exact h2 y (List.mem_cons_of_mem _ hy)
theorem cv_min (hc : X.calm = true) : CaV X tk (.builtin "min") minD := by
  refine ⟨_, (call_min2 hc).or (cr_min hc), fun H av xs ds d Q hav rl e q => ?_⟩
  unfold minD at e
  split at e
  · cases e
    cases rl with
    | cons r1 rl =>
      obtain ⟨v, rfl, r2⟩ := repL1' rl
      cases r1
      cases r2
      exact .inl ⟨_, _, rfl, q.val (.int _) fun _ z => by cases z⟩
  · rename_i ys
    split at e
    · rename_i n ns z
      cases e
      rw [intsD_some z] at rl
      obtain ⟨v, rfl, r⟩ := repL1' rl
      cases r with
      | lst hp _ r =>
        rw [rep_ints r] at hp
        obtain ⟨h1, h2⟩ := foldl_min ns n
        refine .inr ⟨_, n :: ns, rfl, .inl (.inl hp), by simp, fun m hm hle => ?_⟩
        have : m = ns.foldl min n := Int.le_antisymm (hle _ h1) (h2 m hm)
        rw [this]
        exact q.val (.int _) fun _ z => by cases z
    · cases e
  · cases e
theorem cv_max (hc : X.calm = true) : CaV X tk (.builtin "max") maxD := by
  refine ⟨_, (call_max2 hc).or (cr_max hc), fun H av xs ds d Q hav rl e q => ?_⟩
  unfold maxD at e
  split at e
  · cases e
    cases rl with
    | cons r1 rl =>
      obtain ⟨v, rfl, r2⟩ := repL1' rl
      cases r1
      cases r2
      exact .inl ⟨_, _, rfl, q.val (.int _) fun _ z => by cases z⟩
  · rename_i ys
    split at e
    · rename_i n ns z
      cases e
      rw [intsD_some z] at rl
      obtain ⟨v, rfl, r⟩ := repL1' rl
      cases r with
      | lst hp _ r =>
        rw [rep_ints r] at hp
        obtain ⟨h1, h2⟩ := foldl_max ns n
        refine .inr ⟨_, n :: ns, rfl, .inl (.inl hp), by simp, fun m hm hle => ?_⟩
        have : m = ns.foldl max n := Int.le_antisymm (h2 m hm) (hle _ h1)
        rw [this]
        exact q.val (.int _) fun _ z => by cases z
    · cases e
  · cases e
def int1D : List D → Option D
  | [.int i] => some (.int i)
  | [.bl k] => some (.int (if k then 1 else 0))
  | _ => none
theorem cv_int : CaV X tk (.type "int") int1D := by
  refine ⟨_, call_int1, fun H av xs ds d Q hav rl e q => ?_⟩
  unfold int1D at e
  split at e
  · cases e
    obtain ⟨v, rfl, r⟩ := repL1' rl
    cases r
    exact .inl ⟨_, rfl, q.val (.int _) fun _ z => by cases z⟩
  · cases e
    obtain ⟨v, rfl, r⟩ := repL1' rl
    cases r
    exact .inr ⟨_, rfl, q.val (.int _) fun _ z => by cases z⟩
  · cases e
/-! ### isinstance -/
def tyN : D → Option String
  | .non => some "NoneType"
  | .bl _ => some "bool"
  | .int _ => some "int"
  | .str _ => some "str"
  | .tup _ => some "tuple"
  | .lst _ => some "list"
  | .dic _ => some "dict"
  | _ => none
def isiTy (a b : String) : Option Bool :=
  if b = "int" then (if a = "int" ∨ a = "bool" then some true else some false)
  else if b = "bool" ∨ b = "str" ∨ b = "tuple" ∨ b = "list" ∨ b = "dict" then some (decide (a = b)) else none
def isiD : List D → Option D
  | [x, .ty n] => match tyN x with
    | some a => (isiTy a n).map .bl
    | none => none
  | _ => none
def kitT : List (String × String × Bool) := (["NoneType", "bool", "int", "str", "tuple", "list", "dict"].flatMap fun a => ["int", "bool", "str", "tuple", "list", "dict"].map fun b => (a, b, decide (a = b) || (decide (b = "int") && decide (a = "bool"))))
theorem kitT_ok : (kitT.all fun t => decide (kitB t.1 t.2.1 = some t.2.2)) = true := by decide +kernel
theorem isi_kit {a b : String} {k : Bool} (ha : a ∈ ["NoneType", "bool", "int", "str", "tuple", "list", "dict"]) (h : isiTy a b = some k) : kitB a b = some k := by
  have hb : b ∈ ["int", "bool", "str", "tuple", "list", "dict"] ∧ k = (decide (a = b) || (decide (b = "int") && decide (a = "bool"))) := by
    unfold isiTy at h
    split at h
    · rename_i e
      subst e
      refine ⟨by simp, ?_⟩
      split at h
      · rename_i e
        cases h
        rcases e with e | e <;> subst e <;> rfl
      · rename_i e
        cases h
        simp only [not_or] at e
        simp [e.1, e.2]
    · rename_i e
      split at h
      · rename_i e2
        cases h
        refine ⟨by simp only [List.mem_cons, List.not_mem_nil, or_false]; exact .inr e2, by simp [e]⟩
      · cases h
  have hm : (a, b, k) ∈ kitT := by
    unfold kitT
    rw [List.mem_flatMap]
    exact ⟨a, ha, List.mem_map.mpr ⟨b, hb.1, by rw [hb.2]⟩⟩
  have := List.all_eq_true.mp kitT_ok _ hm
  simpa using this
theorem rep_ty {K : PySem.W.Frag} {H : Hp} {av : Addr → Prop} {v : V} {d : D} {a : String} (r : Rep K tk H av v d) (h : tyN d = some a) : TyX K H v (.type a) ∧ a ∈ ["NoneType", "bool", "int", "str", "tuple", "list", "dict"] := by
  cases r with
  | non => cases h; exact ⟨.base .non, by simp⟩
  | bl b => cases h; exact ⟨.base (.bl b), by simp⟩
  | int i => cases h; exact ⟨.base (.int i), by simp⟩
  | str x => cases h; exact ⟨.base (.str x), by simp⟩
  | ty n => cases h
  | deck => cases h
  | tup q r =>
    cases h
    refine ⟨?_, by simp⟩
    rcases q with q | q
    · rcases q with q | ⟨o, q⟩
      · exact .base (.tup q)
      · exact .fTuple q
    · obtain ⟨o, its, n, h1, h2, h3⟩ := q
      first
        | exact .kTuple h1 h2
        | exact .kTuple h1 h2.1
        | exact .kTuple (by assumption) (by assumption)
  | lst q _ r => cases h; exact ⟨.base (.lst q), by simp⟩
  | dic q _ r => cases h; exact ⟨.base (.dK q), by simp⟩
  | dit q _ _ _ => cases h
  | rng _ _ => cases h
theorem cv_isi : CaV X tk (.builtin "isinstance") isiD := by
  refine ⟨_, call_isi, fun H av xs ds d Q hav rl e q => ?_⟩
  unfold isiD at e
  split at e
  · rename_i x n
    split at e
    · rename_i a ha
      cases z : isiTy a n with
      | none => rw [z] at e; cases e
      | some k =>
        rw [z] at e
        cases e
        cases rl with
        | cons r1 rl =>
          obtain ⟨v, rfl, r2⟩ := repL1' rl
          cases r2
          obtain ⟨h1, h2⟩ := rep_ty r1 ha
          exact ⟨_, _, _, _, k, rfl, .ty n, h1, kit_ty (isi_kit h2 z), q.val (.bl _) fun _ z => by cases z⟩
    · cases e
  · cases e
end
end L3
end
section
set_option Elab.async false
set_option linter.all false
set_option maxRecDepth 100000
set_option autoImplicit false
/-! L3l: sorted, sets sorted, repr; the rules in short (own work). -/
namespace L3
open PySem PySem.Spec PyProof.Rows L2
/-! ### orders -/
def leI (a b : Int) : Bool := decide (a ≤ b)
def sortI (ns : List Int) : List Int := ns.mergeSort leI
theorem sortI_perm (ns : List Int) : (sortI ns).Perm ns := List.mergeSort_perm _ _
theorem sortI_pair (ns : List Int) : (sortI ns).Pairwise (· ≤ ·) := (List.pairwise_mergeSort (le := leI) (fun a b c h1 h2 => by
  unfold leI at *
  simp only [decide_eq_true_eq] at *
  omega) (fun a b => by
  unfold leI
  simp only [Bool.or_eq_true, decide_eq_true_eq]
  omega) ns).imp fun h => by simpa [leI] using h
theorem sortI_eq {ns ms : List Int} (hp : ms.Perm ns) (hs : ms.Pairwise (· ≤ ·)) : ms = sortI ns :=
  List.Perm.eq_of_pairwise (fun a b _ _ h1 h2 => Int.le_antisymm h1 h2) hs (sortI_pair ns) (hp.trans (sortI_perm ns).symm)
def leT (a b : List Int) : Bool := !HT.lexLt b a
theorem leT_total (a b : List Int) : (leT a b || leT b a) = true := by
  unfold leT
  cases z : HT.lexLt b a with
  | false => rfl
  | true => rw [lexLt_asym z]; rfl
theorem leT_trans (a b c : List Int) (h1 : leT a b = true) (h2 : leT b c = true) : leT a c = true := by
  unfold leT at *
  simp only [Bool.not_eq_true'] at *
  induction a generalizing b c with
  | nil => cases c <;> rfl
  | cons x a ih =>
    cases b with
    | nil => cases h1
    | cons y b =>
      cases c with
      | nil => cases h2
      | cons z c =>
        rw [HT.lexLt_cons] at *
        by_cases e1 : y = x
        · subst e1
          rw [if_pos rfl] at h1
          by_cases e2 : z = y
          · subst e2
            rw [if_pos rfl] at h2 ⊢
            exact ih b c h1 h2
          · rw [if_neg e2] at h2 ⊢
            exact h2
        · rw [if_neg e1] at h1
          simp only [decide_eq_false_iff_not] at h1
          by_cases e2 : z = y
          · subst e2
            rw [if_neg e1]
            simp only [decide_eq_false_iff_not]
            omega
          · rw [if_neg e2] at h2
            simp only [decide_eq_false_iff_not] at h2
            rw [if_neg (by omega)]
            simp only [decide_eq_false_iff_not]
            omega
def sortT (ks : List (List Int)) : List (List Int) := ks.mergeSort leT
theorem sortT_perm (ks : List (List Int)) : (sortT ks).Perm ks := List.mergeSort_perm _ _
theorem sortT_pair (ks : List (List Int)) : (sortT ks).Pairwise fun a b => HT.lexLt b a = false := (List.pairwise_mergeSort (le := leT) leT_trans leT_total ks).imp fun h => by simpa [leT] using h
theorem sortT_eq {ks ms : List (List Int)} (hp : ms.Perm ks) (hs : ms.Pairwise fun a b => HT.lexLt b a = false) : ms = sortT ks :=
  List.Perm.eq_of_pairwise (fun a b _ _ h1 h2 => lexLt_tri h2 h1) hs (sortT_pair ks) (hp.trans (sortT_perm ks).symm)
/-- each once -/
def once {α : Type} [DecidableEq α] : List α → List α
  | [] => []
  | x :: xs => if x ∈ xs then once xs else x :: once xs
theorem mem_once {α : Type} [DecidableEq α] {a : α} : ∀ {xs : List α}, a ∈ once xs ↔ a ∈ xs
  | [] => Iff.rfl
  | x :: xs => by
    unfold once
    have ih := mem_once (a := a) (xs := xs)
    split
    · rename_i h
      rw [ih]
      constructor
      · exact List.mem_cons_of_mem _
      · intro q
        rcases List.mem_cons.mp q with rfl | q
        · exact h
        · exact q
    · rw [List.mem_cons, List.mem_cons, ih]
theorem once_nodup {α : Type} [DecidableEq α] : ∀ xs : List α, (once xs).Nodup
  | [] => List.nodup_nil
  | x :: xs => by
    unfold once
    split
    · exact once_nodup xs
    · rename_i h
      exact List.nodup_cons.mpr ⟨fun z => h (mem_once.mp z), once_nodup xs⟩
section
variable {X : Cx} {tk : Addr}
/-! ### sorted -/
def sortD : List D → Option D
  | [.lst xs] => match intsD xs with
    | some ns => some (.lst ((sortI ns).map .int))
    | none => (tupsD xs).map fun ks => .lst ((sortT ks).map tupI)
  | _ => none
theorem sqT_same {K : PySem.W.Frag} {H H' : Hp} (k : Same H H') {a : Addr} {xs : List V} (h : SqT K H a xs) : SqT K H' a xs := by
  rcases h with h | h
  · rcases h with h | ⟨o, h⟩
    · exact .inl (.inl (k _ _ h))
    · exact .inl (.inr ⟨o, k _ _ h⟩)
  · exact .inr h
/-- as sorted of tuples of ints, told by addresses with keys -/
def rSortedTL (K : PySem.W.Frag) : List V → Hp → VK → Prop := fun vs H Q => ∃ (a : Addr) (L : List (Addr × List Int)), vs = [V.ref a] ∧ SqL K H a (L.map fun q => V.ref q.1) ∧ (∀ q ∈ L, SqT K H q.1 (q.2.map V.int)) ∧
  ∀ (L2 : List (Addr × List Int)) (p : Addr), L2.Perm L → L2.Pairwise (fun q r => HT.lexLt r.2 q.2 = false) → H p = none → Q (.ref p) (upd H p (.lst (L2.map fun q => V.ref q.1)))
def keyV (L : List (Addr × List Int)) : V → List Int
  | .ref a => ((L.find? fun q => decide (q.1 = a)).map (·.2)).getD []
  | _ => []
def pairV (L : List (Addr × List Int)) : V → Addr × List Int
  | .ref a => (a, keyV L (.ref a))
  | _ => (0, [])
theorem cr_sortedTL (hu : X.A.units + 64 < cLine) : CallR X (.builtin "sorted") (rSortedTL X.K) := by
  intro pins st σ H vs us Q J rv h
  obtain ⟨a, L, rfl, hs, hk, q⟩ := h
  have key : ∀ p ∈ L, keyV L (.ref p.1) = p.2 := fun p hp => by
    show ((L.find? fun q => decide (q.1 = p.1)).map (·.2)).getD [] = p.2
    cases z : L.find? fun r => decide (r.1 = p.1) with
    | none =>
      have := List.find?_eq_none.mp z p hp
      simp at this
    | some r =>
      have h1 := List.mem_of_find?_eq_some z
      have h2 := List.find?_some z
      simp only [decide_eq_true_eq] at h2
      have a1 := J.isT (hk r h1)
      have a2 := J.isT (hk p hp)
      rw [h2] at a1
      exact a1.inj a2
  have back : L.map (fun q => pairV L (V.ref q.1)) = L := by
    have : L.map (fun q => pairV L (V.ref q.1)) = L.map id := List.map_congr_left fun p hp => by
      show (p.1, keyV L (.ref p.1)) = p
      rw [key p hp]
    rw [this, List.map_id]
  refine cr_sortedTI hu pins st σ H _ us Q J rv ⟨a, _, keyV L, rfl, hs, fun x hx => ?_, fun ys p hp hpw hno => ?_⟩
  · obtain ⟨p, hp, rfl⟩ := List.mem_map.mp hx
    exact ⟨p.1, rfl, by rw [key p hp]; exact hk p hp⟩
  · have e1 : ys = (ys.map (pairV L)).map fun q => V.ref q.1 := by
      rw [List.map_map]
      have : ys.map ((fun q : Addr × List Int => V.ref q.1) ∘ pairV L) = ys.map id := List.map_congr_left fun y hy => by
        obtain ⟨p, hp, rfl⟩ := List.mem_map.mp (hp.mem_iff.mp hy)
        rfl
      rw [this, List.map_id]
    have e2 : (ys.map (pairV L)).Perm L := by
      have := hp.map (pairV L)
      rw [List.map_map] at this
      exact this.trans (by rw [show (pairV L ∘ fun q : Addr × List Int => V.ref q.1) = fun q => pairV L (V.ref q.1) from rfl, back])
    have e3 : (ys.map (pairV L)).Pairwise fun q r => HT.lexLt r.2 q.2 = false := List.pairwise_map.mpr (List.Pairwise.imp_of_mem (fun {x y} hx hy z => by
      obtain ⟨p1, h1, rfl⟩ := List.mem_map.mp (hp.mem_iff.mp hx)
      obtain ⟨p2, h2, rfl⟩ := List.mem_map.mp (hp.mem_iff.mp hy)
      exact z) hpw)
    rw [e1]
    exact q _ p e2 e3 hno
theorem cv_sorted (hu : X.A.units + 64 < cLine) : CaV X tk (.builtin "sorted") sortD := by
  refine ⟨_, cr_sortedI.or (cr_sortedTL hu), fun H av xs ds d Q hav rl e q => ?_⟩
  unfold sortD at e
  split at e
  · rename_i ys
    obtain ⟨v, rfl, r⟩ := repL1' rl
    cases r with
    | lst hp _ r =>
      split at e
      · rename_i ns z
        cases e
        rw [intsD_some z] at r
        rw [rep_ints r] at hp
        refine .inl ⟨_, ns, rfl, .inl (.inl hp), fun ms p h1 h2 hno => ?_⟩
        rw [sortI_eq h1 h2]
        exact q.lst hav (ints_rep _) hno
      · cases z : tupsD ys with
        | none => rw [z] at e; cases e
        | some ks =>
          rw [z] at e
          cases e
          rw [tupsD_some z] at r
          obtain ⟨L, e1, e2, e3⟩ := rep_tups r
          rw [e1] at hp
          refine .inr ⟨_, L, rfl, .inl (.inl hp), e3, fun L2 p h1 h2 hno => ?_⟩
          have h3 : L2.map (·.2) = sortT ks := sortT_eq (by rw [← e2]; exact h1.map _) (List.pairwise_map.mpr h2)
          have := tups_rep (tk := tk) (av := av) (K := X.K) (H := H) (L := L2) fun p hp => e3 p (h1.mem_iff.mp hp)
          rw [h3] at this
          exact q.lst hav this hno
  · cases e
/-! ### by value, the outcome not new -/
def VQn (K : PySem.W.Frag) (tk : Addr) (H : Hp) (av : Addr → Prop) (d : D) (Q : VK) : Prop := ∀ v H', Same H H' → Rep K tk H' av v d → Q v H'
def VCn (K : PySem.W.Frag) (tk : Addr) (r : List V → Hp → VK → Prop) (f : List D → Option D) : Prop := ∀ (H : Hp) (av : Addr → Prop) (xs : List V) (ds : List D) (d : D) (Q : VK), (∀ a, av a → H a ≠ none) → RepL K tk H av xs ds → f ds = some d → VQn K tk H av d Q → r xs H Q
def V2n (K : PySem.W.Frag) (tk : Addr) (r : R2) (f : D → D → Option D) : Prop := ∀ (H : Hp) (av : Addr → Prop) (x y : V) (dx dy d : D) (Q : VK), (∀ a, av a → H a ≠ none) → Rep K tk H av x dx → Rep K tk H av y dy → f dx dy = some d → VQn K tk H av d Q → r x y H Q
end
section
variable {S : Type} {X : Cx} {W : Wd S} {e a b c : Expr} {es : List Expr} {pos : Pos}
theorem fin_valn {R : Fx S} {A : Acc} {P : List Pd} {σ : L2.St} {H : Hp} {ρ : En} {s : S} {d : D} {Q : VK} {ex : Addr → Prop} (r : Rel R A P σ H ρ s) (hx : ∀ a, avO R A σ ρ a → ¬ ex a) (ht : ∀ a, ex a → H a ≠ none)
    (hq : ∀ (v : V) (H' : Hp) (ex : Addr → Prop), Rel R A (⟨v, d, ex⟩ :: P) σ H' ρ s → Q v H') : VQn R.K R.W.tok H (fun a => avL R A σ ρ a ∧ ¬ ex a) d Q := fun v H' k rv => by
  refine hq v H' ex ((r.same k).push rv hx fun a h => ?_)
  cases z : H a with
  | none => exact absurd z (ht a h)
  | some o => rw [k a o z]; simp
theorem list_valn {r : List V → Hp → VK → Prop} {f : List D → Option D} {g : EvL S} (hv : VCn X.K W.tok r f) {σ : L2.St} {H : Hp} {Q : VK} (h : SE X.K W false (mapF f g) σ H Q) : SL X.K W g σ H fun vs H1 => r vs H1 Q := by
  obtain ⟨H0, O, A, P, ρ, s, d, ρ', s', r0, e, q⟩ := h
  obtain ⟨ds, e1, e2⟩ := mapF_some e
  refine ⟨H0, O, A, P, ρ, s, ds, ρ', s', r0, e1, fun vs H1 ex r1 rl hx ht => ?_⟩
  exact hv H1 _ vs ds d Q (fun a h => r1.avT h.1) rl e2 (fin_valn r1 hx ht fun v H' ex r => q v H' ex r fun z => Bool.noConfusion z)
theorem two_valn {r : R2} {f : D → D → Option D} {fa fb : Ev S} {fr1 fr2 : Bool} (hv : V2n X.K W.tok r f) {σ : L2.St} {H : Hp} {Q : VK} (h : SE X.K W false (binF f fa fb) σ H Q) : tOp r (SE X.K W fr1 fa) (SE X.K W fr2 fb) σ H Q := by
  obtain ⟨H0, O, A, P, ρ, s, d, ρ', s', r0, e, q⟩ := h
  obtain ⟨x, ρ1, s1, y, e1, e2, e3⟩ := binF_some e
  refine ⟨H0, O, A, P, ρ, s, x, ρ1, s1, r0, e1, fun v H1 ex1 r1 _ => ?_⟩
  refine ⟨H0, O, A, _, ρ1, s1, y, ρ', s', r1, e2, fun w H2 ex2 r2 _ => ?_⟩
  refine hv H2 (fun a => avL ⟨X.K, W, H0, O⟩ A σ ρ' a ∧ ¬ (ex1 a ∨ ex2 a)) v w x y d Q (fun a h => r2.avT h.1) ?_ ?_ e3 (fin_valn r2.tail.tail (fun a h z => z.elim (r2.tail.hex a h) (r2.hex a h)) (fun a z => z.elim (r2.tail.pet _ List.mem_cons_self a) (r2.pet _ List.mem_cons_self a)) fun v H' ex r => q v H' ex r fun z => Bool.noConfusion z)
  · exact r2.tail.head.mono fun a h => ⟨h.1, fun z => h.2 (.inl z)⟩
  · exact r2.head.mono fun a h => ⟨h.1, fun z => h.2 (.inr z)⟩
/-! ### sorted(set(xs)) -/
def setSortD : List D → Option D
  | [.lst xs] => if xs.length < 64 then match intsD xs with
      | some ns => some (.lst ((sortI (once ns)).map .int))
      | none => (tupsD xs).map fun ks => .lst ((sortT (once ks)).map tupI)
    else none
  | [.tup xs] => if xs.length < 64 then match intsD xs with
      | some ns => some (.lst ((sortI (once ns)).map .int))
      | none => none
    else none
  | _ => none
theorem sortedSetV {tk : Addr} : VCn X.K tk (fun vs H Q => ((rSetLI X.K X.w vs H fun v H1 => rSortedSet X.w [v] H1 Q) ∨ rSetOfT X.K X.prog X.w vs H fun v H1 => rSortedSTI X.K X.prog X.w [v] H1 Q) ∨ rSetTI X.K X.w vs H fun v H1 => rSortedSet X.w [v] H1 Q) setSortD := by
  intro H av xs ds d Q hav rl e q
  unfold setSortD at e
  split at e
  · rename_i ys
    split at e
    · rename_i few
      obtain ⟨v, rfl, r⟩ := repL1' rl
      cases r with
      | lst hp _ r =>
        split at e
        · rename_i ns z
          cases e
          have el := congrArg List.length (intsD_some z)
          rw [List.length_map] at el
          rw [intsD_some z] at r
          rw [rep_ints r] at hp
          refine .inl (.inl ⟨_, ns, rfl, .inl (.inl hp), by unfold scanBound; omega, fun p n hno hn => ?_⟩)
          refine ⟨p, _, n, rfl, upd_same, by omega, fun ms p2 h1 h2 h3 hno2 => ?_⟩
          have k1 := same_upd (o := SetO X.w p (fun j => decide (j ∈ ns)) n) hno
          have k2 := same_upd (o := .lst (ms.map V.int)) hno2
          have hm : ms = sortI (once ns) := by
            refine sortI_eq ?_ (h1.imp fun h => Int.le_of_lt h)
            refine (List.perm_ext_iff_of_nodup (h1.imp fun h => Int.ne_of_lt h) (once_nodup ns)).mpr fun k => ?_
            rw [h2 k, mem_once, decide_eq_true_eq]
          rw [← hm] at q
          refine q _ _ (k1.trans k2) (.lst upd_same (fun z => ?_) (ints_rep ms))
          have z2 := hav _ z
          cases y : H p2 with
          | none => exact z2 y
          | some o => rw [k1 _ _ y] at hno2; cases hno2
        · cases z : tupsD ys with
          | none => rw [z] at e; cases e
          | some ks =>
            rw [z] at e
            cases e
            have el := congrArg List.length (tupsD_some z)
            rw [List.length_map] at el
            rw [tupsD_some z] at r
            obtain ⟨L0, e1, e2, e3⟩ := rep_tups r
            rw [e1] at hp
            have el2 := congrArg List.length e2
            rw [List.length_map] at el2
            refine .inl (.inr ⟨_, L0, rfl, .inl (.inl hp), e3, by omega, fun p L hno h1 h2 => ?_⟩)
            have k1 := same_upd (o := SetTO X.prog X.w p L) hno
            refine ⟨p, L, rfl, upd_same, fun r hr => sqT_same k1 (e3 r (h1 r hr)), fun L2 p2 h3 h4 h5 hno2 => ?_⟩
            have k2 := same_upd (o := .lst (L2.map fun q => V.ref q.1)) hno2
            have hm : L2.map (·.2) = sortT (once ks) := by
              refine sortT_eq ?_ (List.pairwise_map.mpr h5)
              refine (List.perm_ext_iff_of_nodup ((h3.map (·.2)).nodup_iff.mpr h4) (once_nodup ks)).mpr fun k => ?_
              rw [mem_once, ← e2]
              constructor
              · intro hk
                obtain ⟨r, hr, rfl⟩ := List.mem_map.mp hk
                exact List.mem_map.mpr ⟨r, h1 r (h3.mem_iff.mp hr), rfl⟩
              · intro hk
                obtain ⟨r, hr, rfl⟩ := List.mem_map.mp hk
                exact ((h3.map (·.2)).mem_iff).mpr (h2 r hr)
            have rp := tups_rep (tk := tk) (av := av) (K := X.K) (H := upd (upd H p (SetTO X.prog X.w p L)) p2 (.lst (L2.map fun q => V.ref q.1))) (L := L2) fun r hr => sqT_same k2 (sqT_same k1 (e3 r (h1 r (h3.mem_iff.mp hr))))
            rw [hm] at rp
            refine q _ _ (k1.trans k2) (.lst upd_same (fun z => ?_) rp)
            have z2 := hav _ z
            cases y : H p2 with
            | none => exact z2 y
            | some o => rw [k1 _ _ y] at hno2; cases hno2
    · cases e
  · rename_i ys
    split at e
    · rename_i few
      obtain ⟨v, rfl, r⟩ := repL1' rl
      cases r with
      | tup hp r =>
        split at e
        · rename_i ns z
          cases e
          have el := congrArg List.length (intsD_some z)
          rw [List.length_map] at el
          rw [intsD_some z] at r
          rw [rep_ints r] at hp
          refine .inr ⟨_, ns, rfl, hp, by unfold scanBound; omega, fun p n hno hn => ?_⟩
          refine ⟨p, _, n, rfl, upd_same, by omega, fun ms p2 h1 h2 h3 hno2 => ?_⟩
          have k1 := same_upd (o := SetO X.w p (fun j => decide (j ∈ ns)) n) hno
          have k2 := same_upd (o := .lst (ms.map V.int)) hno2
          have hm : ms = sortI (once ns) := by
            refine sortI_eq ?_ (h1.imp fun h => Int.le_of_lt h)
            refine (List.perm_ext_iff_of_nodup (h1.imp fun h => Int.ne_of_lt h) (once_nodup ns)).mpr fun k => ?_
            rw [h2 k, mem_once, decide_eq_true_eq]
          rw [← hm] at q
          refine q _ _ (k1.trans k2) (.lst upd_same (fun z => ?_) (ints_rep ms))
          have z2 := hav _ z
          cases y : H p2 with
          | none => exact z2 y
          | some o => rw [k1 _ _ y] at hno2; cases hno2
        · cases e
    · cases e
  · cases e
end
end L3
end
section
set_option Elab.async false
set_option linter.all false
set_option maxRecDepth 100000
set_option autoImplicit false
/-! L3m: the rules in short; subscripts, slices, repr, list(range()) (own work). -/
namespace L3
open PySem PySem.Spec PyProof.Rows L2
section
variable {S : Type} {X : Cx} {W : Wd S} {e a b c : Expr} {es : List Expr} {pos p p1 : Pos}
theorem se_op {op : Operator} {f : D → D → Option D} {fa fb : Ev S} {fr1 fr2 : Bool} (o : OpV X W.tok (binaryOp op) f) (ha : PE X a (SE X.K W fr1 fa)) (hb : PE X b (SE X.K W fr2 fb)) : PE X (.BinOp a op b pos) (SE X.K W true (binF f fa fb)) :=
  let ⟨_, h, v⟩ := o; se_bin h v ha hb
theorem se_cm {op : CmpOp} {f : D → D → Option D} {fa fb : Ev S} {fr1 fr2 : Bool} (o : OpV X W.tok (compareOp op) f) (ha : PE X a (SE X.K W fr1 fa)) (hb : PE X b (SE X.K W fr2 fb)) (hm : behindInMarks op b = false) : PE X (.Compare a [op] [b] pos) (SE X.K W true (binF f fa fb)) :=
  let ⟨_, h, v⟩ := o; se_cmp h v ha hb hm
theorem sb_cm {op : CmpOp} {f : D → D → Option D} {fa fb : Ev S} {fr1 fr2 : Bool} (o : OpV X W.tok (compareOp op) f) (hf : isB f) (ha : PE X a (SE X.K W fr1 fa)) (hb : PE X b (SE X.K W fr2 fb)) (hm : behindInMarks op b = false) : PT X (.Compare a [op] [b] pos) (SB X.K W (truF (binF f fa fb))) :=
  let ⟨_, h, v⟩ := o; sb_cmp h v hf ha hb hm
theorem se_ch {op op' : CmpOp} {f g : D → D → Option D} {fa fb fc : Ev S} {fr1 fr2 fr3 : Bool} (o : OpV X W.tok (compareOp op) f) (o' : OpV X W.tok (compareOp op') g) (ha : PE X a (SE X.K W fr1 fa)) (hb : PE X b (SE X.K W fr2 fb)) (hc : PE X c (SE X.K W fr3 fc)) (hm : lastMarks [op, op'] [b, c] = false) :
    PE X (.Compare a [op, op'] [b, c] pos) (SE X.K W false (chainF f g fa fb fc)) :=
  let ⟨_, h, v⟩ := o; let ⟨_, h', v'⟩ := o'; se_chain h h' v v' ha hb hc hm
theorem sb_ch {op op' : CmpOp} {f g : D → D → Option D} {fa fb fc : Ev S} {fr1 fr2 fr3 : Bool} (o : OpV X W.tok (compareOp op) f) (o' : OpV X W.tok (compareOp op') g) (hg : isB g) (ha : PE X a (SE X.K W fr1 fa)) (hb : PE X b (SE X.K W fr2 fb)) (hc : PE X c (SE X.K W fr3 fc)) (hm : lastMarks [op, op'] [b, c] = false) :
    PT X (.Compare a [op, op'] [b, c] pos) (SB X.K W (truF (chainF f g fa fb fc))) :=
  let ⟨_, h, v⟩ := o; let ⟨_, h', v'⟩ := o'; sb_chain h h' v v' hg ha hb hc hm
theorem se_cB {id : String} {x : Str} {f : List D → Option D} {g : EvL S} (o : CaV X W.tok (.builtin id) f) (hg : Gl X x) (hm : X.mg x = none) (hb : bootBuiltins x = some (.builtin id)) (ha : PA X (e :: es) (SL X.K W g)) (hn : x ≠ "__name__") (hdb : (x == ("__debug__" : Str)) = false)
    (he : starEach (e :: es) X.env = (false, eval e X.env) :: starEach es X.env) (hpl : (backTo pos (starEach es X.env)).any (·.1) = false) : PE X (.Call (.Name x p) (e :: es) [] pos) (SE X.K W true (mapF f g)) :=
  let ⟨_, h, v⟩ := o; se_callB h v hg hm hb ha hn hdb he hpl
theorem se_cT {T : String} {x : Str} {f : List D → Option D} {g : EvL S} (o : CaV X W.tok (.type T) f) (hg : Gl X x) (hm : X.mg x = none) (hb : bootBuiltins x = some (.type T)) (ha : PA X (e :: es) (SL X.K W g)) (hn : x ≠ "__name__") (hdb : (x == ("__debug__" : Str)) = false)
    (he : starEach (e :: es) X.env = (false, eval e X.env) :: starEach es X.env) (hpl : (backTo pos (starEach es X.env)).any (·.1) = false) : PE X (.Call (.Name x p) (e :: es) [] pos) (SE X.K W true (mapF f g)) :=
  let ⟨_, h, v⟩ := o; se_callT h v hg hm hb ha hn hdb he hpl
/-- sorted(set(x)) -/
theorem se_sortedSet {g : EvL S} (hc : X.calm = true) (hu : X.A.units + 64 < cLine) (hg1 : Gl X "sorted") (hm1 : X.mg "sorted" = none) (hb1 : bootBuiltins "sorted" = some (.builtin "sorted")) (hg2 : Gl X "set") (hm2 : X.mg "set" = none) (hb2 : bootBuiltins "set" = some (.type "set"))
    (ha : PA X [e] (SL X.K W g)) (he : starEach [e] X.env = (false, eval e X.env) :: starEach [] X.env) {p2 q2 : Pos}
    (he2 : starEach [.Call (.Name "set" p2) [e] [] q2] X.env = (false, eval (.Call (.Name "set" p2) [e] [] q2) X.env) :: starEach [] X.env) :
    PE X (.Call (.Name "sorted" p) [.Call (.Name "set" p2) [e] [] q2] [] pos) (SE X.K W false (mapF setSortD g)) :=
  (pe_callB (cr_sortedSet hc |>.or (cr_sortedSTI hc hu)) hg1 hm1 hb1 (pa_cons (pe_callTy (((cr_setLI hc).or (cr_setOfT hc hu)).or (cr_setTI hc)) hg2 hm2 hb2 ha (by decide) (by decide) he rfl) pa_nil he2) (by decide) (by decide) he2 rfl).imp fun σ H Q q => by
    obtain ⟨H0, O, A, P, ρ, s, d, ρ', s', r, e1, k⟩ := list_valn sortedSetV q
    refine ⟨H0, O, A, P, ρ, s, d, ρ', s', r, e1, fun vs H' ex r' rl hx ht => ?_⟩
    rcases k vs H' ex r' rl hx ht with (z | z) | z
    · left
      left
      obtain ⟨a, zs, h1, h2, h3, h4⟩ := z
      exact ⟨a, zs, h1, h2, h3, fun p n hp hn => .inl (h4 p n hp hn)⟩
    · left
      right
      obtain ⟨l, ks, h1, h2, h3, h4, h5⟩ := z
      exact ⟨l, ks, h1, h2, h3, h4, fun a L ha h6 h7 => .inr (h5 a L ha h6 h7)⟩
    · right
      obtain ⟨a, zs, h1, h2, h3, h4⟩ := z
      exact ⟨a, zs, h1, h2, h3, fun p n hp hn => .inl (h4 p n hp hn)⟩
/-! ### subscripts -/
def ixD : D → D → Option D
  | .lst xs, .int i => atI xs i
  | .tup xs, .int i => atI xs i
  | _, _ => none
theorem atI_rep {K : PySem.W.Frag} {tk : Addr} {H : Hp} {av : Addr → Prop} {vs : List V} {ds : List D} {i : Int} {d : D} (r : RepL K tk H av vs ds) (h : atI ds i = some d) : ∃ v, atI vs i = some v ∧ Rep K tk H av v d := by
  unfold atI at *
  rw [r.length]
  cases z : ixN ds.length i with
  | none => rw [z] at h; cases h
  | some j =>
    rw [z] at h
    exact r.get h
theorem v_ix {tk : Addr} : V2n X.K tk (rIx X.K) ixD := by
  intro H av x y dx dy d Q hav rx ry e q
  unfold ixD at e
  split at e
  · cases rx with
    | lst hp n r =>
      cases ry
      obtain ⟨v, h1, h2⟩ := atI_rep r e
      exact .inl ⟨_, _, _, v, rfl, rfl, .inl (.inl hp), h1, q v H (Same.refl _) h2⟩
  · cases rx with
    | tup hp r =>
      cases ry
      obtain ⟨v, h1, h2⟩ := atI_rep r e
      exact .inr (.inl ⟨_, _, _, v, rfl, rfl, hp, h1, q v H (Same.refl _) h2⟩)
  · cases e
theorem se_at {fa fb : Ev S} {fr1 fr2 : Bool} (ha : PE X a (SE X.K W fr1 fa)) (hb : PE X b (SE X.K W fr2 fb)) (hs : PlainIx b) : PE X (.Subscript a b pos) (SE X.K W false (binF ixD fa fb)) := (pe_ix ix_seq ha hb hs).imp fun σ H Q q => two_valn v_ix q
/-- -x -/
def negF (f : Ev S) : Ev S := fun ρ s => match f ρ s with
  | some (.int i, ρ', s') => some (.int (-i), ρ', s')
  | _ => none
theorem se_neg {fa : Ev S} {fr : Bool} (ha : PE X a (SE X.K W fr fa)) : PE X (.UnaryOp .USub a pos) (SE X.K W false (negF fa)) := (pe_un un_neg ha).imp fun σ H Q q => by
  obtain ⟨H0, O, A, P, ρ, s, d, ρ', s', r, e, q⟩ := q
  unfold negF at e
  split at e
  · rename_i i ρ1 s1 h1
    cases e
    refine ⟨H0, O, A, P, ρ, s, .int i, _, _, r, h1, fun v H' ex r' _ => ?_⟩
    have hv : v = .int i := by cases r'.head; rfl
    exact ⟨i, hv, q _ H' noEx (r'.tail.push (.int _) (fun _ _ z => z) fun _ z => z.elim) fun z => Bool.noConfusion z⟩
  · cases e
/-! ### slices -/
abbrev EvO (S : Type) := En → S → Option (Option Int × En × S)
def SO (K : PySem.W.Frag) (W : Wd S) (g : EvO S) : TO := fun σ H Q => ∃ (H0 : Hp) (O : Addr → Prop) (A : Acc) (P : List Pd) (ρ : En) (s : S) (k : Option Int) (ρ' : En) (s' : S), Rel ⟨K, W, H0, O⟩ A P σ H ρ s ∧ g ρ s = some (k, ρ', s') ∧ ∀ H', Rel ⟨K, W, H0, O⟩ A P σ H' ρ' s' → Q k H'
theorem _root_.L2.PO.imp {o : Option Expr} {t t' : TO} (h : PO X o t) (i : ∀ σ H Q, t' σ H Q → t σ H Q) : PO X o t' := ⟨fun pins s σ H Q I q => h.run pins s σ H Q I (i σ H Q q)⟩
def noO : EvO S := fun ρ s => some (none, ρ, s)
def someO (f : Ev S) : EvO S := fun ρ s => match f ρ s with
  | some (.int i, ρ', s') => some (some i, ρ', s')
  | _ => none
theorem so_none : PO X none (SO X.K W noO) := po_none.imp fun σ H Q q => by
  obtain ⟨H0, O, A, P, ρ, s, k, ρ', s', r, e, q⟩ := q
  cases e
  exact q H r
theorem so_some {f : Ev S} {fr : Bool} (h : PE X e (SE X.K W fr f)) : PO X (some e) (SO X.K W (someO f)) := (po_some h).imp fun σ H Q q => by
  obtain ⟨H0, O, A, P, ρ, s, k, ρ', s', r, e, q⟩ := q
  unfold someO at e
  split at e
  · rename_i i ρ1 s1 h1
    cases e
    refine ⟨H0, O, A, P, ρ, s, .int i, _, _, r, h1, fun v H' ex r' _ => ⟨i, by cases r'.head; rfl, q H' r'.tail⟩⟩
  · cases e
def cutD (xs : List D) (lo hi : Option Int) : List D := (xs.drop (HT.sIx xs.length 0 lo)).take (HT.sIx xs.length xs.length hi - HT.sIx xs.length 0 lo)
def sliceD : D → Option Int → Option Int → Option D
  | .lst xs, lo, hi => some (.lst (cutD xs lo hi))
  | .tup xs, lo, hi => some (.tup (cutD xs lo hi))
  | _, _, _ => none
theorem cut_rep {K : PySem.W.Frag} {tk : Addr} {H : Hp} {av : Addr → Prop} {vs : List V} {ds : List D} (r : RepL K tk H av vs ds) (lo hi : Option Int) : RepL K tk H av (cutV vs lo hi) (cutD ds lo hi) := by
  unfold cutV cutD
  rw [r.length]
  exact (r.drop _).take _
theorem cut_whole {xs : List D} {lo hi : Option Int} (h : HT.sIx xs.length 0 lo = 0 ∧ HT.sIx xs.length xs.length hi = xs.length) : cutD xs lo hi = xs := by
  unfold cutD
  rw [h.1, h.2]
  simp
def sliceF (f : Ev S) (lo hi : EvO S) : Ev S := fun ρ s => match f ρ s with
  | some (x, ρ1, s1) => match lo ρ1 s1 with
    | some (l, ρ2, s2) => match hi ρ2 s2 with
      | some (u, ρ3, s3) => match sliceD x l u with
        | some d => some (d, ρ3, s3)
        | none => none
      | none => none
    | none => none
  | none => none
theorem se_slice {lo hi : Option Expr} {f : Ev S} {fl fh : EvO S} {fr : Bool} {p2 : Pos} (he : PE X e (SE X.K W fr f)) (hl : PO X lo (SO X.K W fl)) (hh : PO X hi (SO X.K W fh)) : PE X (.Subscript e (.Slice lo hi none p2) pos) (SE X.K W true (sliceF f fl fh)) :=
  (pe_slice (sl_list.or sl_tupA) he hl hh).imp fun σ H Q q => by
    obtain ⟨H0, O, A, P, ρ, s, d, ρ', s', r, e, q⟩ := q
    unfold sliceF at e
    split at e
    · rename_i x ρ1 s1 h1
      split at e
      · rename_i l ρ2 s2 h2
        split at e
        · rename_i u ρ3 s3 h3
          split at e
          · rename_i d' h4
            cases e
            refine ⟨H0, O, A, P, ρ, s, x, ρ1, s1, r, h1, fun v H1 ex r1 _ => ⟨H0, O, A, _, ρ1, s1, l, ρ2, s2, r1, h2, fun H2 r2 => ⟨H0, O, A, _, ρ2, s2, u, _, _, r2, h3, fun H3 r3 => ?_⟩⟩⟩
            have fin := fin_val (fr := true) r3.tail r3.hex (fun a h => r3.pet _ List.mem_cons_self a h) q
            have rv := r3.head
            have hav : ∀ a, (avL ⟨X.K, W, H0, O⟩ A σ ρ' a ∧ ¬ ex a) → H3 a ≠ none := fun a h => r3.avT h.1
            unfold sliceD at h4
            split at h4
            · cases h4
              cases rv with
              | lst hp n rl => exact .inl ⟨_, _, rfl, .inl (.inl hp), fun p hp => fin.lst hav (cut_rep rl l u) hp⟩
            · cases h4
              cases rv with
              | tup hp rl =>
                refine .inr ⟨_, _, rfl, hp, fun w => ?_, fun w p hp => fin.tup (cut_rep rl l u) hp⟩
                rw [rl.length] at w
                rw [cut_whole w] at fin
                exact fin.val (.tup hp rl) fun _ z => by cases z
            · cases h4
          · cases e
        · cases e
      · cases e
    · cases e
/-! ### a class as a value; list(range()) -/
theorem se_ty {x : Str} {T : String} (hg : Gl X x) (hm : X.mg x = none) (hv : bootBuiltins x = some (.type T)) (hn : x ≠ "__name__") (hd : (x == ("__debug__" : Str)) = false) : PE X (.Name x pos) (SE X.K W false (cstF (.ty T))) :=
  se_cst (v := .ty T) (fun _ _ => .ty T) (pe_bltn hg hm hv rfl hn hd)
theorem rgV_rep {K : PySem.W.Frag} {tk : Addr} {H : Hp} {av : Addr → Prop} (a b : Int) : RepL K tk H av (rgV a b) (rngD a (b - a).toNat) := by
  have : ∀ ns : List Nat, RepL K tk H av (ns.map fun i : Nat => V.int (a + (i : Nat))) (ns.map fun i : Nat => D.int (a + (i : Nat))) := by
    intro ns
    induction ns with
    | nil => exact .nil
    | cons n ns ih => exact .cons (.int _) ih
  exact this _
instance (a b : Int) : Decidable (RgOk a b) := by unfold RgOk; exact inferInstance
def rgD (h : List D → D) : List D → Option D
  | [.int j] => if RgOk 0 j then some (h (rngD 0 j.toNat)) else none
  | [.int i, .int j] => if RgOk i j then some (h (rngD i (j - i).toNat)) else none
  | _ => none
theorem se_listRg1 {fa : Ev S} {fr : Bool} {p2 q2 : Pos} (hc : X.calm = true) (hg : Gl X "list") (hm : X.mg "list" = none) (hg2 : Gl X "range") (hm2 : X.mg "range" = none) (ha : PE X a (SE X.K W fr fa)) (na : starEach [a] X.env = (false, eval a X.env) :: starEach [] X.env)
    (nb : starEach [.Call (.Name "range" p2) [a] [] q2] X.env = (false, eval (.Call (.Name "range" p2) [a] [] q2) X.env) :: starEach [] X.env) : PE X (.Call (.Name "list" p) [.Call (.Name "range" p2) [a] [] q2] [] pos) (SE X.K W true (mapF (rgD .lst) (consL fa nilL))) :=
  (pe_listRg hc hg hm (prg_1 hg2 hm2 ha na) nb).imp fun σ H Q q => by
    obtain ⟨H0, O, A, P, ρ, s, d, ρ', s', r, e, q⟩ := q
    obtain ⟨ds, e1, e2⟩ := mapF_some e
    obtain ⟨x, ρ1, s1, xs, e3, e4, rfl⟩ := consL_some e1
    cases e4
    unfold rgD at e2
    split at e2
    · rename_i j hx
      cases hx
      split at e2
      · rename_i ok
        cases e2
        refine ⟨H0, O, A, P, ρ, s, .int j, ρ', s', r, e3, fun v H' ex r' _ => ?_⟩
        have fin := fin_val (fr := true) r'.tail r'.hex (fun a h => r'.pet _ List.mem_cons_self a h) q
        have rl := rgV_rep (K := X.K) (tk := W.tok) (H := H') (av := fun a => avL ⟨X.K, W, H0, O⟩ A σ ρ' a ∧ ¬ ex a) 0 j
        rw [Int.sub_zero] at rl
        exact ⟨j, by cases r'.head; rfl, ok, fun p hp => fin.lst (fun a h => r'.avT h.1) rl hp⟩
      · cases e2
    · rename_i hx; cases hx
    · cases e2
theorem se_listRg2 {fa fb : Ev S} {fr1 fr2 : Bool} {p2 q2 : Pos} (hc : X.calm = true) (hg : Gl X "list") (hm : X.mg "list" = none) (hg2 : Gl X "range") (hm2 : X.mg "range" = none) (ha : PE X a (SE X.K W fr1 fa)) (hb : PE X b (SE X.K W fr2 fb)) (na : starEach [a, b] X.env = (false, eval a X.env) :: starEach [b] X.env) (na2 : starEach [b] X.env = (false, eval b X.env) :: starEach [] X.env) (hpl : (backTo q2 (starEach [b] X.env)).any (·.1) = false)
    (nb : starEach [.Call (.Name "range" p2) [a, b] [] q2] X.env = (false, eval (.Call (.Name "range" p2) [a, b] [] q2) X.env) :: starEach [] X.env) : PE X (.Call (.Name "list" p) [.Call (.Name "range" p2) [a, b] [] q2] [] pos) (SE X.K W true (mapF (rgD .lst) (consL fa (consL fb nilL)))) :=
  (pe_listRg hc hg hm (prg_2 hg2 hm2 ha hb na na2 hpl) nb).imp fun σ H Q q => by
    obtain ⟨H0, O, A, P, ρ, s, d, ρ', s', r, e, q⟩ := q
    obtain ⟨ds, e1, e2⟩ := mapF_some e
    obtain ⟨x, ρ1, s1, xs, e3, e4, rfl⟩ := consL_some e1
    obtain ⟨y, ρ2, s2, ys, e5, e6, rfl⟩ := consL_some e4
    cases e6
    unfold rgD at e2
    split at e2
    · rename_i hx; cases hx
    · rename_i i j hx
      cases hx
      split at e2
      · rename_i ok
        cases e2
        refine ⟨H0, O, A, P, ρ, s, .int i, ρ1, s1, r, e3, fun v H' ex r' _ => ⟨H0, O, A, _, _, _, .int j, ρ', s', r', e5, fun w H2 ex2 r2 _ => ?_⟩⟩
        have hx : ∀ a, avO ⟨X.K, W, H0, O⟩ A σ ρ' a → ¬ ex2 a := r2.hex
        have fin := fin_val (fr := true) r2.tail.tail r2.hex (fun a h => r2.pet _ List.mem_cons_self a h) q
        exact ⟨i, j, by cases r2.tail.head; rfl, by cases r2.head; rfl, ok, fun p hp => fin.lst (fun a h => r2.avT h.1) (rgV_rep i j) hp⟩
      · cases e2
    · cases e2
/-! ### repr -/
def reprD : List D → Option D
  | [d] => if okD 60 d && (toP d).showable && decide ((toP d).shown.length ≤ sizeLine) then some (.str (toP d).shown) else none
  | _ => none
def rRepr (K : PySem.W.Frag) : List V → Hp → VK → Prop := fun xs H Q => ∃ v d, xs = [v] ∧ Dp K H v d ∧ SeqAt.shaped d = true ∧ d.showable = true ∧ d.shown.length ≤ sizeLine ∧ Q (.str d.shown) H
theorem cr_repr (hg : X.A.guards = some []) (hu : X.A.units + 65 < cLine) : CallR X (.builtin "repr") (rRepr X.K) := by
  intro pins st σ H xs us Q J rv h
  obtain ⟨v, d, rfl, hd, sh, sw, sz, q⟩ := h
  obtain ⟨u, rfl, ru⟩ := vals1 rv
  cases hd with
  | non =>
    cases ru
    exact PySem.P.repr_of_none ⟨.str _, H, J.tok _, ⟨_, rfl⟩, by simpa [PyData.shown] using q⟩
  | bl b =>
    cases ru
    exact PySem.P.repr_of_bool ⟨.str _, H, J.tok _, ⟨_, rfl⟩, by simpa [PyData.shown] using q⟩
  | int i =>
    obtain ⟨t, rfl⟩ := ru
    exact PySem.P.repr_of_int (by simpa [PyData.showable] using sw) ⟨.str _, H, J.tok _, ⟨_, rfl⟩, by simpa [PyData.shown] using q⟩
  | str x =>
    obtain ⟨t, rfl⟩ := ru
    exact PySem.P.repr_of_str (hsz := by simpa [PyData.shown] using sz) ⟨.str _, H, J.tok _, ⟨_, rfl⟩, by simpa [PyData.shown] using q⟩
  | lst hs hds =>
    obtain ⟨as, r1⟩ := Dp.reads J _ _ _ (.lst hs hds) ru
    cases ru
    refine PySem.repr_of_reads' r1 sw (PyData.noDict_hsm (PyData.hasDict_of_canLay _ (SeqAt.canLay_of_shaped sh))) hg ?_ (fun _ _ z => z) (fun h' t tk hk => ⟨.str _, H, J.kept hk, ⟨_, rfl⟩, q⟩) sz
    have := SeqAt.depth_of_shaped sh
    omega
  | tup hs hds =>
    obtain ⟨as, r1⟩ := Dp.reads J _ _ _ (.tup hs hds) ru
    cases ru
    refine PySem.repr_of_reads' r1 sw (PyData.noDict_hsm (PyData.hasDict_of_canLay _ (SeqAt.canLay_of_shaped sh))) hg ?_ (fun _ _ z => z) (fun h' t tk hk => ⟨.str _, H, J.kept hk, ⟨_, rfl⟩, q⟩) sz
    have := SeqAt.depth_of_shaped sh
    omega
theorem cv_repr {tk : Addr} (hg : X.A.guards = some []) (hu : X.A.units + 65 < cLine) : CaV X tk (.builtin "repr") reprD := by
  refine ⟨_, cr_repr hg hu, fun H av xs ds d Q hav rl e q => ?_⟩
  unfold reprD at e
  split at e
  · rename_i x
    split at e
    · rename_i h
      simp only [Bool.and_eq_true, decide_eq_true_eq] at h
      cases e
      obtain ⟨v, rfl, r⟩ := repL1' rl
      exact ⟨v, _, rfl, rep_dp r h.1.1, ok_shaped h.1.1 (by decide), h.1.2, h.2, q.val (.str _) fun _ z => by cases z⟩
    · cases e
  · cases e
end
end L3
end
section
set_option Elab.async false
set_option linter.all false
set_option maxRecDepth 100000
set_option autoImplicit false
/-! L3n: names set side by side; an item of an own list set (own work). -/
namespace L3
open PySem PySem.Spec PyProof.Rows L2
section
variable {S : Type}
abbrev EvI (S : Type) := En → S → Option (List (Bool × D) × En × S)
/-- how values wait that are to be set: new lists gathered, others pending -/
inductive Mt : Acc → List Pd → List V → List (Bool × D) → Prop
  | nil : Mt [] [] [] []
  | pend {A : Acc} {P : List Pd} {vs : List V} {its : List (Bool × D)} (v : V) (d : D) (ex : Addr → Prop) : Mt A P vs its → Mt A (P ++ [⟨v, d, ex⟩]) (v :: vs) ((false, d) :: its)
  | own {A : Acc} {P : List Pd} {vs : List V} {its : List (Bool × D)} (p : Addr) (ds : D) : Mt A P vs its → Mt (A ++ [(p, ds)]) P (.ref p :: vs) ((true, ds) :: its)
def SLI (K : PySem.W.Frag) (W : Wd S) (f : EvI S) : TA := fun σ H Q => ∃ (H0 : Hp) (O : Addr → Prop) (A : Acc) (P : List Pd) (ρ : En) (s : S) (its : List (Bool × D)) (ρ' : En) (s' : S),
  Rel ⟨K, W, H0, O⟩ A P σ H ρ s ∧ f ρ s = some (its, ρ', s') ∧ ∀ (vs : List V) (H' : Hp) (A2 : Acc) (P2 : List Pd), Rel ⟨K, W, H0, O⟩ (A2 ++ A) (P2 ++ P) σ H' ρ' s' → Mt A2 P2 vs its → Q vs H'
variable {X : Cx} {W : Wd S} {e a b c : Expr} {es : List Expr} {pos : Pos}
def nilI : EvI S := fun ρ s => some ([], ρ, s)
def consI (fr : Bool) (f : Ev S) (g : EvI S) : EvI S := fun ρ s => match f ρ s with
  | some (d, ρ1, s1) => if (fr && noLb d) = true then match g (thaw ρ ρ1) s1 with
          | some (its, ρ2, s2) => some ((true, d) :: its, ρ2, s2)
          | none => none
    else match g (if noL d then thaw ρ ρ1 else ρ1) s1 with
      | some (its, ρ2, s2) => some ((false, d) :: its, ρ2, s2)
      | none => none
  | none => none
theorem sli_nil : PA X [] (SLI X.K W nilI) := pa_nil.imp fun σ H Q q => by
  obtain ⟨H0, O, A, P, ρ, s, its, ρ', s', r, e, q⟩ := q
  cases e
  exact q [] H [] [] r .nil
theorem consI_val {K : PySem.W.Frag} {fr : Bool} {f : Ev S} {g : EvI S} {σ : L2.St} {H : Hp} {Q : List V → Hp → Prop} (q : SLI K W (consI fr f g) σ H Q) : tCons (SE K W fr f) (SLI K W g) σ H Q := by
  obtain ⟨H0, O, A, P, ρ, s, its, ρ', s', r, e, q⟩ := q
  unfold consI at e
  split at e
  · rename_i d ρ1 s1 h1
    refine ⟨H0, O, A, P, ρ, s, d, ρ1, s1, r, h1, fun v H1 ex r1 hf => ?_⟩
    have pend : ∀ ρa its2, Rel ⟨K, W, H0, O⟩ A (⟨v, d, ex⟩ :: P) σ H1 ρa s1 → g ρa s1 = some (its2, ρ', s') → its = (false, d) :: its2 → SLI K W g σ H1 fun vs H2 => Q (v :: vs) H2 := fun ρa its2 ra hg hi => by
      refine ⟨H0, O, A, _, ρa, s1, its2, ρ', s', ra, hg, fun vs H2 A2 P2 r2 m => ?_⟩
      subst hi
      exact q (v :: vs) H2 A2 (P2 ++ [⟨v, d, ex⟩]) (by rw [List.append_assoc]; exact r2) (.pend v d ex m)
    split at e
    · rename_i hn
      rw [Bool.and_eq_true] at hn
      split at e
      · rename_i its2 ρ2 s2 h2
        cases e
        obtain ⟨p, xs, H0', ev, hp, eH, r2, rl, hx, ht⟩ := hf hn.1 (noLb_box hn.2)
        subst ev
        subst eH
        have r3 := (Rel.thaw0 r.pex r2).accNewO hp (rl.free hn.2)
        refine ⟨H0, O, _, P, _, s1, its2, _, _, r3, h2, fun vs H2 A2 P2 r4 m => ?_⟩
        exact q _ H2 (A2 ++ [(p, d)]) P2 (by rw [List.append_assoc]; exact r4) (.own p d m)
      · cases e
    · split at e
      · rename_i its2 ρ2 s2 h2
        cases e
        by_cases hd : noL d = true
        · rw [if_pos hd] at h2
          have r3 := Rel.thaw r.pex r1 hd
          refine ⟨H0, O, A, _, _, s1, its2, _, _, r3, h2, fun vs H2 A2 P2 r2 m => ?_⟩
          exact q (v :: vs) H2 A2 (P2 ++ [⟨v, d, noEx⟩]) (by rw [List.append_assoc]; exact r2) (.pend v d noEx m)
        · rw [if_neg hd] at h2
          exact pend ρ1 its2 r1 h2 rfl
      · cases e
  · cases e
theorem sli_cons {fr : Bool} {f : Ev S} {g : EvI S} (he : PE X e (SE X.K W fr f)) (hr : PA X es (SLI X.K W g)) (hs : starEach (e :: es) X.env = (false, eval e X.env) :: starEach es X.env) : PA X (e :: es) (SLI X.K W (consI fr f g)) :=
  (pa_cons he hr hs).imp fun σ H Q q => consI_val q
def putI : List Nat → List (Bool × D) → En → Option En
  | [], [], ρ => some ρ
  | i :: is, (true, d) :: its, ρ => if i < ρ.length then putI is its (ρ.set i (.ownD false d)) else none
  | i :: is, (false, d) :: its, ρ => (putV i d ρ).bind (putI is its)
  | _, _, _ => none
def setAll : L2.St → List Nat → List V → L2.St
  | σ, i :: is, v :: vs => setAll (σ.set i (some v)) is vs
  | σ, _, _ => σ
theorem putI_ok {R : Fx S} {A : Acc} {P : List Pd} {H : Hp} {s : S} : ∀ {is : List Nat} {A2 : Acc} {P2 : List Pd} {vs : List V} {its : List (Bool × D)} {σ : L2.St} {ρ ρ' : En}, Mt A2 P2 vs its → Rel R (A2 ++ A) (P2 ++ P) σ H ρ s → putI is its ρ = some ρ' → Rel R A P (setAll σ is vs) H ρ' s
  | [], _, _, _, _, σ, ρ, ρ', .nil, r, e => by cases e; exact r
  | [], _, _, _, _, σ, ρ, ρ', .pend v d ex m, r, e => by cases e
  | [], _, _, _, _, σ, ρ, ρ', .own p ds m, r, e => by cases e
  | i :: is, _, _, _, _, σ, ρ, ρ', .nil, r, e => by cases e
  | i :: is, A2, _, _, _, σ, ρ, ρ', .pend (P := P2) (vs := vs) (its := its) v d ex m, r, e => by
    have e : (putV i d ρ).bind (putI is its) = some ρ' := e
    cases h : putV i d ρ with
    | none => rw [h] at e; cases e
    | some ρ1 =>
      rw [h] at e
      have e : putI is its ρ1 = some ρ' := e
      have r1 : Rel R (A2 ++ A) (⟨v, d, ex⟩ :: (P2 ++ P)) σ H ρ s := r.sub fun q hq => by
        rw [List.append_assoc]
        rcases List.mem_cons.mp hq with rfl | hq
        · exact List.mem_append_right _ List.mem_cons_self
        · rcases List.mem_append.mp hq with hq | hq
          · exact List.mem_append_left _ hq
          · exact List.mem_append_right _ (List.mem_cons_of_mem _ hq)
      exact putI_ok (is := is) m (r1.putV h) e
  | i :: is, _, P2, _, _, σ, ρ, ρ', .own (A := A2) (vs := vs) (its := its) p ds m, r, e => by
    have e : (if i < ρ.length then putI is its (ρ.set i (.ownD false ds)) else none) = some ρ' := e
    split at e
    · rename_i hi
      have r1 : Rel R ((p, ds) :: (A2 ++ A)) (P2 ++ P) σ H ρ s := r.permA (by
        rw [List.append_assoc]
        exact (List.perm_middle (a := (p, ds)) (l₁ := A2) (l₂ := A)).symm)
      exact putI_ok (is := is) m (r1.accOwn hi) e
    · cases e
theorem putI_cons {i : Nat} {is : List Nat} {it : Bool × D} {its : List (Bool × D)} {ρ ρ' : En} (h : putI (i :: is) (it :: its) ρ = some ρ') : ∃ ρ1, putI is its ρ1 = some ρ' := by
  obtain ⟨k, d⟩ := it
  have gen : (putV i d ρ).bind (putI is its) = some ρ' → ∃ ρ1, putI is its ρ1 = some ρ' := fun h => by
    cases z : putV i d ρ with
    | none => rw [z] at h; cases h
    | some ρ1 => rw [z] at h; exact ⟨ρ1, h⟩
  cases k with
  | false => exact gen h
  | true =>
    have h : (if i < ρ.length then putI is its (ρ.set i (.ownD false d)) else none) = some ρ' := h
    split at h
    · exact ⟨_, h⟩
    · cases h
def parF (is : List Nat) (f : EvI S) : Ss S := fun ρ s => match f ρ s with
  | some (its, ρ', s') => (putI is its ρ').map fun ρ2 => (.nx, ρ2, s')
  | none => none
theorem par_val {K : PySem.W.Frag} {is : List Nat} {f : EvI S} {E : Ends} {σ : L2.St} {H : Hp} (h : SS K W (parF is f) E σ H) : SLI K W f σ H fun vs H' => vs.length = is.length ∧ E.nx (setAll σ is vs) H' := by
  obtain ⟨H0, O, P, ρ, s, o, ρ', s', r, e, q⟩ := h
  unfold parF at e
  split at e
  · rename_i its ρ1 s1 h1
    cases h2 : putI is its ρ1 with
    | none => rw [h2] at e; cases e
    | some ρ2 =>
      rw [h2] at e
      cases e
      refine ⟨H0, O, [], P, ρ, s, its, ρ1, _, r, h1, fun vs H' A2 P2 r2 m => ⟨?_, q _ H' (putI_ok (A := []) (P := P) m r2 h2)⟩⟩
      have lens : ∀ {A : Acc} {P : List Pd} {vs : List V} {its : List (Bool × D)}, Mt A P vs its → vs.length = its.length := by
        intro A P vs its m
        induction m with
        | nil => rfl
        | pend v d ex m ih => simp [ih]
        | own p ds m ih => simp [ih]
      have leni : ∀ {is : List Nat} {its : List (Bool × D)} {ρ ρ' : En}, putI is its ρ = some ρ' → is.length = its.length := by
        intro is
        induction is with
        | nil =>
          intro its ρ ρ' h
          cases its with
          | nil => rfl
          | cons _ _ => cases h
        | cons i is ih =>
          intro its ρ ρ' h
          cases its with
          | nil => cases h
          | cons it its =>
            obtain ⟨ρ1, z⟩ := putI_cons h
            simp [ih z]
      rw [lens m, leni h2]
  · cases e
theorem ss_par2 {i j : Nat} {x y : Str} {f : EvI S} {px py pt : Pos} {kt k2 : Nat} {pt2 : Pos} (hc : X.calm = true) (hN : X.N.Nodup) (hi : X.N[i]? = some x) (hj : X.N[j]? = some y) (hij : i ≠ j)
    (hx : X.env.scope.names.lookup x = some .local) (hy : X.env.scope.names.lookup y = some .local) (ha : PA X [a, b] (SLI X.K W f))
    (hw : swappedStores [.Tuple [.Name x px, .Name y py] kt pt] (.Tuple [a, b] k2 pt2) X.env = pure (some [x, y]))
    (hs : swapsWithSole [.Tuple [.Name x px, .Name y py] kt pt] (.Tuple [a, b] k2 pt2) pos.line X.env = pure false) :
    PS X (.Assign [.Tuple [.Name x px, .Name y py] kt pt] (.Tuple [a, b] k2 pt2) pos) (SS X.K W (parF [i, j] f)) := (ps_par hc hN hi hj hij hx hy ha hw hs).imp fun E σ H q => by
  obtain ⟨H0, O, A, P, ρ, s, its, ρ', s', r, e, k⟩ := par_val q
  refine ⟨H0, O, A, P, ρ, s, its, ρ', s', r, e, fun vs H' A2 P2 r2 m => ?_⟩
  obtain ⟨hl, z⟩ := k vs H' A2 P2 r2 m
  match vs, hl, z with
  | [v, w], _, z => exact ⟨v, w, rfl, z⟩
theorem ss_par3 {i j l : Nat} {x y z : Str} {f : EvI S} {px py pz pt : Pos} {kt k2 : Nat} {pt2 : Pos} (hc : X.calm = true) (hN : X.N.Nodup) (hi : X.N[i]? = some x) (hj : X.N[j]? = some y) (hl : X.N[l]? = some z) (hij : i ≠ j) (hil : i ≠ l) (hjl : j ≠ l)
    (hx : X.env.scope.names.lookup x = some .local) (hy : X.env.scope.names.lookup y = some .local) (hz : X.env.scope.names.lookup z = some .local) (ha : PA X [a, b, c] (SLI X.K W f))
    (hw : swappedStores [.Tuple [.Name x px, .Name y py, .Name z pz] kt pt] (.Tuple [a, b, c] k2 pt2) X.env = pure (some [x, y, z]))
    (hs : swapsWithSole [.Tuple [.Name x px, .Name y py, .Name z pz] kt pt] (.Tuple [a, b, c] k2 pt2) pos.line X.env = pure false) :
    PS X (.Assign [.Tuple [.Name x px, .Name y py, .Name z pz] kt pt] (.Tuple [a, b, c] k2 pt2) pos) (SS X.K W (parF [i, j, l] f)) := (ps_par3 hc hN hi hj hl hij hil hjl hx hy hz ha hw hs).imp fun E σ H q => by
  obtain ⟨H0, O, A, P, ρ, s, its, ρ', s', r, e, k⟩ := par_val q
  refine ⟨H0, O, A, P, ρ, s, its, ρ', s', r, e, fun vs H' A2 P2 r2 m => ?_⟩
  obtain ⟨hl, z⟩ := k vs H' A2 P2 r2 m
  match vs, hl, z with
  | [u, v, w], _, z => exact ⟨u, v, w, rfl, z⟩
/-! ### x[i] = e, x an own list -/
def setAtF (i : Nat) (f g : Ev S) : Ss S := fun ρ s => match f ρ s with
  | some (d, ρ1, s1) => match ρ1[i]? with
    | some (.ownD _ (.lst _)) => match g (if noL d then thaw ρ ρ1 else ρ1) s1 with
      | some (.int k, ρ2, s2) => match ρ2[i]? with
        | some (.ownD false (.lst ds)) => match ixN ds.length k with
          | some j => some (.nx, (if noL d then ρ2 else freeze ρ2).set i (.own false (ds.set j d)), s2)
          | none => none
        | _ => none
      | _ => none
    | _ => none
  | none => none
theorem ss_setAt {i : Nat} {x : Str} {px : Pos} {f g : Ev S} {fr1 fr2 : Bool} (hx : PE X (.Name x px) (tVar i)) (he : PE X e (SE X.K W fr1 f)) (hg : PE X a (SE X.K W fr2 g))
    (ha : ∀ v, assign (.Subscript (.Name x px) a pos) X.env v = (do
      let ov ← holding [v] (eval (.Name x px) X.env)
      let iv ← holding [v, ov] (eval a X.env)
      standAt pos
      holding [v, ov, iv] (setItem ov iv v)
      release [v, ov, iv] []))
    {p2 : Pos} (hs : swapsWithSole [.Subscript (.Name x px) a pos] e p2.line X.env = pure false) (hw : swappedStores [.Subscript (.Name x px) a pos] e X.env = pure none)
    (h1 : (assignEach [.Subscript (.Name x px) a pos] X.env).map (·.2) = [assign (.Subscript (.Name x px) a pos) X.env]) :
    PS X (.Assign [.Subscript (.Name x px) a pos] e p2) (SS X.K W (setAtF i f g)) := (ps_asg he (pg_sub hx hg set_list ha) hs hw h1).imp fun E σ H q => by
  obtain ⟨H0, O, P, ρ, s, o, ρ', s', r, e, q⟩ := q
  unfold setAtF at e
  split at e
  · rename_i d ρ1 s1 h1
    refine ⟨H0, O, [], P, ρ, s, d, ρ1, s1, r, h1, fun v H1 ex r1 _ => ?_⟩
    split at e
    · rename_i t0 ds0 h2
      split at e
      · rename_i k ρ2 s2 h3
        split at e
        · rename_i ds h4
          split at e
          · rename_i j hj
            cases e
            obtain ⟨ex', r1'⟩ : ∃ ex', Rel ⟨X.K, W, H0, O⟩ [] (⟨v, d, ex'⟩ :: P) σ H1 (if noL d then L3.thaw ρ ρ1 else ρ1) s1 := by
              by_cases hd : noL d = true
              · rw [if_pos hd]
                exact ⟨_, Rel.thaw r.pex r1 hd⟩
              · rw [if_neg hd]
                exact ⟨_, r1⟩
            obtain ⟨p0, xs0, hp0, _, _, _⟩ := r1.lstL i _ _ h2
            refine ⟨_, hp0, H0, O, [], _, _, s1, .int k, ρ2, _, r1', h3, fun w H2 ex2 r2 _ => ?_⟩
            obtain ⟨p, xs, hp, hH, hxs, _⟩ := r2.lstL i _ _ h4
            rw [hp0] at hp
            cases hp
            refine ⟨p0, xs, k, j, rfl, by cases r2.head; rfl, hH, by rw [hxs.length]; exact hj, ?_⟩
            have r3 := r2.tail
            have fin : ∀ ρd, Rel ⟨X.K, W, H0, O⟩ [] P σ H2 ρd s' → ρd[i]? = some (.own false ds) → Rep X.K W.tok H2 (avL ⟨X.K, W, H0, O⟩ [] σ ρd) v d → E.nx σ (upd H2 p0 (.lst (xs.set j v))) → True := fun _ _ _ _ _ => trivial
            have go : ∀ ρd, Rel ⟨X.K, W, H0, O⟩ [] P σ H2 ρd s' → ρd[i]? = some (.own false ds) → Rep X.K W.tok H2 (avL ⟨X.K, W, H0, O⟩ [] σ ρd) v d → Rel ⟨X.K, W, H0, O⟩ [] P σ (upd H2 p0 (.lst (xs.set j v))) (ρd.set i (.own false (ds.set j d))) s' := fun ρd rd hd ry => by
              obtain ⟨p2, xs2, hp2, hH2, hxs2, _⟩ := rd.lstL i _ _ hd
              rw [hp0] at hp2; cases hp2
              rw [hH] at hH2; cases hH2
              exact rd.write hd hp0 (hxs2.set j ry)
            by_cases hd : noL d = true
            · rw [if_pos hd] at q
              exact q σ _ (go ρ2 r3.tail h4 (r3.head.free hd))
            · rw [if_neg hd] at q
              exact q σ _ (go (L3.freeze ρ2) r3.tail.freeze (freeze_set_own h4) (r3.headO.mono fun a z => freeze_avL z))
          · cases e
        · cases e
      · cases e
    · cases e
  · cases e
end
end L3
end
section
set_option Elab.async false
set_option linter.all false
set_option maxRecDepth 100000
set_option autoImplicit false
/-! L3o: the deck of a law: a dict with its list of cells, as a state (own work). -/
namespace L3
open PySem PySem.Spec PyProof.Rows L2
structure Dk where
  cells : List Int
  mixed : Int
  draws : Int
abbrev kM : Key := .inr "mixed"
def dkV (kc kd : Str) (c : Addr) (s : Dk) : List (Key × V) := [(.inr kc, .ref c), (kM, .int s.mixed), (.inr kd, .int s.draws)]
def dW (kc kd : Str) (T c : Addr) : Wd Dk where
  rel s H := H T = some (.dK (dkV kc kd c s)) ∧ H c = some (.lst (s.cells.map .int)) ∧ s.cells.length ≤ 64
  own a := a = T ∨ a = c
  tok := T
  has := fun {s H a} h o => by
    rcases o with rfl | rfl
    · exact ⟨_, h.1, trivial⟩
    · exact ⟨_, h.2.1, trivial⟩
  stay := fun {s H H'} h k => ⟨k _ _ (.inl rfl) h.1, k _ _ (.inr rfl) h.2.1, h.2.2⟩
/-- the keys are three -/
structure KeyOk (kc kd : Str) : Prop where
  cm : (Sum.inr kc : Key) ≠ kM
  cd : (Sum.inr kc : Key) ≠ .inr kd
  md : kM ≠ (.inr kd : Key)
section
variable {kc kd : Str} {T c : Addr} {s : Dk}
theorem dk_c : valV (dkV kc kd c s) (.inr kc) = some (.ref c) := valV_pos rfl
theorem dk_m (ok : KeyOk kc kd) : valV (dkV kc kd c s) kM = some (.int s.mixed) := (valV_neg ok.cm).trans (valV_pos rfl)
theorem dk_d (ok : KeyOk kc kd) : valV (dkV kc kd c s) (.inr kd) = some (.int s.draws) := (valV_neg ok.cd).trans ((valV_neg ok.md).trans (valV_pos rfl))
theorem dk_put (ok : KeyOk kc kd) (i : Int) : putK (dkV kc kd c s) (.inr kd) (.int i) = dkV kc kd c { s with draws := i } := by
  have h1 := ok.cd
  have h2 := ok.md
  unfold putK dkV
  simp [h1, h2]
end
theorem dk_apart {kc kd : Str} {T c : Addr} {s : Dk} {H : Hp} (h : (dW kc kd T c).rel s H) : c ≠ T := fun e => by
  subst e
  have h1 := h.1
  rw [h.2.1] at h1
  cases h1
variable {X : Cx} {kc kd : Str} {T c : Addr} {e : Expr} {pos px p1 p2 p3 : Pos} {x : Str} {i : Nat}
/-- deck[k], an int -/
def dkF (i : Nat) (sel : Dk → Int) : Ev Dk := fun ρ s => match ρ[i]? with
  | some (.val .deck) => some (.int (sel s), ρ, s)
  | _ => none
theorem deckAt {R : Fx Dk} {A : Acc} {P : List Pd} {σ : L2.St} {H : Hp} {ρ : En} {s : Dk} (hW : R.W = dW kc kd T c) (r : Rel R A P σ H ρ s) (hi : ρ[i]? = some (.val .deck)) : σ[i]? = some (some (.ref T)) := by
  obtain ⟨v, h1, h2⟩ := r.val i _ hi
  cases h2
  rw [h1, hW]
  rfl
theorem se_dk {k : Str} {sel : Dk → Int} {j : Nat} (hu : X.A.units + 65 < cLine) (hv : ∀ s, valV (dkV kc kd c s) (.inr k) = some (.int (sel s))) (hx : PE X (.Name x px) (tVar i)) (hs : NoSl (.Constant (.str k) j p1)) :
    PE X (.Subscript (.Name x px) (.Constant (.str k) j p1) pos) (SE X.K (dW kc kd T c) false (dkF i sel)) := (pe_dget (by omega) hx pe_str hs).imp fun σ H Q q => by
  obtain ⟨H0, O, A, P, ρ, s, d, ρ', s', r, e, q⟩ := q
  unfold dkF at e
  split at e
  · rename_i hi
    cases e
    refine ⟨_, deckAt rfl r hi, T, .int (sel s), rfl, ?_, q _ H noEx (r.push (.int _) (fun _ _ z => z) fun _ z => z.elim) fun z => Bool.noConfusion z⟩
    have := DGet.k (k := .inr k) r.wd.1
    rwa [hv] at this
  · cases e
/-- deck[kd] = e -/
def dkSetF (i : Nat) (f : Ev Dk) : Ss Dk := fun ρ s => match f ρ s with
  | some (.int k, ρ1, s1) => match (thaw ρ ρ1)[i]? with
    | some (.val .deck) => some (.nx, thaw ρ ρ1, { s1 with draws := k })
    | _ => none
  | _ => none
theorem ss_dkSet {f : Ev Dk} {fr : Bool} {j : Nat} (ok : KeyOk kc kd) (hu : X.A.units + 65 < cLine) (hx : PE X (.Name x px) (tVar i)) (he : PE X e (SE X.K (dW kc kd T c) fr f)) (hs : swapsWith e (some (.Subscript (.Name x px) (.Constant (.str kd) j p1) p2)) pos.line X.env = pure false) :
    PS X (.Assign [.Subscript (.Name x px) (.Constant (.str kd) j p1) p2] e pos) (SS X.K (dW kc kd T c) (dkSetF i f)) := (ps_dput (by omega) hx pe_str he hs).imp fun E σ H q => by
  obtain ⟨H0, O, P, ρ, s, o, ρ', s', r, e, q⟩ := q
  unfold dkSetF at e
  split at e
  · rename_i k ρ1 s1 h1
    split at e
    · rename_i hi
      cases e
      refine ⟨H0, O, [], P, ρ, s, .int k, ρ1, s1, r, h1, fun v H1 ex r1 _ => ?_⟩
      have hv : v = .int k := by cases r1.head; rfl
      subst hv
      have r2 := Rel.thaw0 r.pex r1.tail
      refine ⟨_, deckAt rfl r2 hi, T, _, rfl, .inl ⟨_, .inr kd, r2.wd.1, rfl, by show 3 < sizeLine; rw [sizeLine_eq]; omega, rfl⟩, q _ _ ?_⟩
      rw [dk_put ok]
      refine r2.kept (fun a o h n => ?_) ⟨upd_same, ?_, r2.wd.2.2⟩
      · rw [upd_ne (fun z => n (.inl z))]; exact h
      · rw [upd_ne (dk_apart r2.wd)]; exact r2.wd.2.1
    · cases e
  · cases e
/-- deck[kc] != [] -/
def dkAnyB (i : Nat) : EvB Dk := fun ρ s => match ρ[i]? with
  | some (.val .deck) => some (!s.cells.isEmpty, ρ, s)
  | _ => none
theorem ints_dp {K : PySem.W.Frag} {H : Hp} : ∀ ns : List Int, DpAll K H (ns.map .int) (ns.map .int)
  | [] => .nil
  | n :: ns => .cons (.int n) (ints_dp ns)
theorem ints_lay : ∀ ns : List Int, PyData.canLayAll0 (ns.map .int) = true ∧ PyData.depthAll (ns.map .int) = 0
  | [] => ⟨by simp [PyData.canLayAll0], by simp [PyData.depthAll]⟩
  | n :: ns => by
    obtain ⟨h1, h2⟩ := ints_lay ns
    exact ⟨by simp [PyData.canLayAll0, PyData.canLay0, h1], by simp [PyData.depthAll, PyData.depth, h2]⟩
theorem ints_shaped (ns : List Int) : SeqAt.shaped (.list (ns.map .int)) = true := by
  obtain ⟨h1, h2⟩ := ints_lay ns
  unfold SeqAt.shaped
  simp [PyData.canLay0, h1, PyData.depth, h2]
theorem sb_dkAny {j : Nat} (hu : X.A.units + 65 < cLine) (hx : PE X (.Name x px) (tVar i)) (hs : NoSl (.Constant (.str kc) j p1)) (hm : behindInMarks .NotEq (.List [] p3) = false) :
    PT X (.Compare (.Subscript (.Name x px) (.Constant (.str kc) j p1) p2) [.NotEq] [.List [] p3] pos) (SB X.K (dW kc kd T c) (dkAnyB i)) := (pt_cmpR (op_neD (by omega)) (pe_dget (by omega) hx pe_str hs) (pe_lst pa_nil) hm).imp fun σ H Q q => by
  obtain ⟨H0, O, A, P, ρ, s, b, ρ', s', r, e, q⟩ := q
  unfold dkAnyB at e
  split at e
  · rename_i hi
    cases e
    have g := DGet.k (k := .inr kc) r.wd.1
    rw [dk_c] at g
    refine ⟨_, deckAt rfl r hi, T, .ref c, rfl, g, Nat.zero_le _, fun p hp => ?_⟩
    have k := same_upd (o := .lst []) hp
    refine ⟨.list (s.cells.map .int), .list [], .lst (.inl (.inl (k _ _ r.wd.2.1))) (ints_dp _), .lst (.inl (.inl upd_same)) .nil, ints_shaped _, ints_shaped [], _, ?_, q _ (r.same k)⟩
    cases s.cells with
    | nil => simp [PyData.eqv, PyData.eqvAll]
    | cons n ns => simp [PyData.eqv, PyData.eqvAll]
  · cases e
/-- deck[kc].pop() -/
def dkPopF (i : Nat) : Ev Dk := fun ρ s => match ρ[i]? with
  | some (.val .deck) => match s.cells[s.cells.length - 1]? with
    | some k => some (.int k, ρ, { s with cells := s.cells.dropLast })
    | none => none
  | _ => none
theorem se_dkPop {j : Nat} {pa : Pos} (hu : X.A.units + 65 < cLine) (hx : PE X (.Name x px) (tVar i)) (hs : NoSl (.Constant (.str kc) j p1))
    (hbase : attributeBase (.Subscript (.Name x px) (.Constant (.str kc) j p1) p2) "pop" X.env (eval (.Subscript (.Name x px) (.Constant (.str kc) j p1) p2) X.env) = eval (.Subscript (.Name x px) (.Constant (.str kc) j p1) p2) X.env) (hline : (pa.endLine == pos.line) = true) :
    PE X (.Call (.Attribute (.Subscript (.Name x px) (.Constant (.str kc) j p1) p2) "pop" pa) [] [] pos) (SE X.K (dW kc kd T c) false (dkPopF i)) :=
  (pe_bm0 PySem.F.plainAttrs_list PySem.F.slot_list_pop PySem.F.type_list_pop mt_pop (pe_dget (by omega) hx pe_str hs) hbase hline).imp fun σ H Q q => by
    obtain ⟨H0, O, A, P, ρ, s, d, ρ', s', r, e, q⟩ := q
    unfold dkPopF at e
    split at e
    · rename_i hi
      split at e
      · rename_i k hk
        cases e
        have g := DGet.k (k := .inr kc) r.wd.1
        rw [dk_c] at g
        refine ⟨_, deckAt rfl r hi, T, .ref c, rfl, g, tyList r.wd.2.1, c, _, .int k, rfl, rfl, r.wd.2.1, by rw [List.getElem?_map, List.length_map, hk]; rfl, ?_⟩
        have w' : (dW kc kd T c).rel { s with cells := s.cells.dropLast } (upd H c (.lst ((s.cells.map V.int).dropLast))) := by
          refine ⟨?_, ?_, ?_⟩
          · rw [upd_ne (dk_apart r.wd).symm]; exact r.wd.1
          · rw [upd_same, ← List.map_dropLast]
          · have h3 := r.wd.2.2
            show s.cells.dropLast.length ≤ 64
            rw [List.length_dropLast]
            omega
        have r2 := r.kept (H' := upd H c (.lst ((s.cells.map V.int).dropLast))) (fun a o h n => by rw [upd_ne (fun z => n (.inr z))]; exact h) w'
        exact q _ _ noEx (r2.push (.int _) (fun _ _ z => z) fun _ z => z.elim) fun z => Bool.noConfusion z
      · cases e
    · cases e
/-- deck[kc].append(e) -/
def dkAppF (i : Nat) (g : EvL Dk) : Ev Dk := fun ρ s => match ρ[i]? with
  | some (.val .deck) => match g ρ s with
    | some ([.int k], ρ1, s1) => if s1.cells.length < 64 then some (.non, ρ1, { s1 with cells := s1.cells ++ [k] }) else none
    | _ => none
  | _ => none
theorem se_dkApp {j : Nat} {pa : Pos} {g : EvL Dk} (hu : X.A.units + 65 < cLine) (hx : PE X (.Name x px) (tVar i)) (hs : NoSl (.Constant (.str kc) j p1)) (ha : PA X [e] (SL X.K (dW kc kd T c) g))
    (hbase : attributeBase (.Subscript (.Name x px) (.Constant (.str kc) j p1) p2) "append" X.env (eval (.Subscript (.Name x px) (.Constant (.str kc) j p1) p2) X.env) = eval (.Subscript (.Name x px) (.Constant (.str kc) j p1) p2) X.env)
    (hfew : ((backTo pos (starEach [e] X.env)).all (fun x => !x.1) && (backToKw pos (keywordEach [] X.env)).all (fun x => x.1.isSome) && decide (([e] : List Expr).length + ([] : List Keyword).length + (if ([] : List Keyword).isEmpty then 0 else 1) < 30)) = true)
    (hline : (pa.endLine == pos.line) = true) (hst : starEach [e] X.env = (false, eval e X.env) :: starEach [] X.env) :
    PE X (.Call (.Attribute (.Subscript (.Name x px) (.Constant (.str kc) j p1) p2) "append" pa) [e] [] pos) (SE X.K (dW kc kd T c) false (dkAppF i g)) :=
  (pe_bm PySem.F.plainAttrs_list PySem.F.slot_list_append PySem.F.type_list_append mt_append (pe_dget (by omega) hx pe_str hs) ha hbase hfew hline hst rfl).imp fun σ H Q q => by
    obtain ⟨H0, O, A, P, ρ, s, d, ρ', s', r, e, q⟩ := q
    unfold dkAppF at e
    split at e
    · rename_i hi
      split at e
      · rename_i k ρ1 s1 h1
        split at e
        · rename_i hz
          cases e
          have gg := DGet.k (k := .inr kc) r.wd.1
          rw [dk_c] at gg
          refine ⟨_, deckAt rfl r hi, T, .ref c, rfl, gg, tyList r.wd.2.1, ?_⟩
          refine ⟨H0, O, A, P, ρ, s, [.int k], ρ', s1, r, h1, fun vs H1 ex r1 rl hx ht => ?_⟩
          obtain ⟨v, rfl, rv⟩ := repL1' rl
          cases rv
          refine ⟨c, _, .int k, rfl, rfl, r1.wd.2.1, by rw [List.length_map]; exact Nat.lt_of_lt_of_le hz (by rw [sizeLine_eq]; omega), ?_⟩
          have w' : (dW kc kd T c).rel { s1 with cells := s1.cells ++ [k] } (upd H1 c (.lst (s1.cells.map V.int ++ [V.int k]))) := by
            refine ⟨?_, ?_, ?_⟩
            · rw [upd_ne (dk_apart r1.wd).symm]; exact r1.wd.1
            · rw [upd_same, List.map_append]; rfl
            · show (s1.cells ++ [k]).length ≤ 64
              rw [List.length_append]
              exact hz
          have r2 := r1.kept (H' := upd H1 c (.lst (s1.cells.map V.int ++ [V.int k]))) (fun a o h n => by rw [upd_ne (fun z => n (.inr z))]; exact h) w'
          exact q _ _ noEx (r2.push .non (fun _ _ z => z) fun _ z => z.elim) fun z => Bool.noConfusion z
        · cases e
      · cases e
    · cases e
end L3
end
section
set_option Elab.async false
set_option linter.all false
set_option maxRecDepth 100000
set_option autoImplicit false
set_option maxHeartbeats 2000000
/-! L3q: a law's end for defs that may ask for repr (own work). -/
namespace L3
open PySem PySem.Spec PyProof.Rows L2
/-- the heap in which nothing but the script is tracked -/
def scriptH (sv : Addr) (vs : List Value) (ns : List Int) : Hp := fun b => if b = sv then some (.frz { cls := .type "list", data := .seq vs.toArray } (.lst (ns.map V.int))) else none
theorem law_goG {P : Program} {w : World} {K : PySem.W.Frag} {mg mb : Str → Option Value} {k : Nat} {lawA sv : Addr} {fd : FuncData} {x : Str} {sp : Sp} {st : Shared} {vs : List Value} {ns : List Int}
    (inK : K.In st.heap) (nsG : st.heap.Ns mainGlobals mg) (nsB : st.heap.Ns builtinsNs mb) (bOk : ∀ x : Str, x ≠ "__name__" → mb x = bootBuiltins x) (noLim : st.heap.NoLimit) (noGen : st.gens = #[])
    (atSv : st.heap.get? sv = some { cls := .type "list", data := .seq vs.toArray }) (areI : IntsAre vs ns) (short : ns.length ≤ sizeLine) (rm : RoomG k callerA)
    (F : ∀ base : Heap, K.In base → base.Ns mainGlobals mg → FnG P w K mg base k lawA fd [x] sp) (hb : ∀ (s : Shared) (u : Value), BindsTo s fd ⟨[u], []⟩ [(x, u)])
    (hsp : ∀ H : Hp, Only H → SqL K H sv (ns.map V.int) → sp [.ref sv] H (fun v _ => v = .bl true) fun _ _ _ => False) :
    codeAny (model P w) callerA (.call (.ref lawA) ⟨[.ref sv], []⟩) (fun r st2 => r = .ok (.ret (.bool true)) ∧ OldK st.heap st2.heap ∧ st2.os = st.os ∧ AllBare st2.gens) st := by
  have lens := areI.length
  have valsI := vals_ints areI
  have core : ∀ H : Hp, Only H → SqL K H sv (ns.map V.int) → HOk P w H st.heap → (∀ b, H b ≠ none → b = sv) → (H sv ≠ none → K.lookup sv = none) →
      codeAny (model P w) callerA (.call (.ref lawA) ⟨[.ref sv], []⟩) (fun r st2 => r = .ok (.ret (.bool true)) ∧ OldK st.heap st2.heap ∧ st2.os = st.os ∧ AllBare st2.gens) st := by
    intro H only isS okH atOne notK
    have dictsFree : ∀ {b : Addr} {o : Obj} {es : Array DictEntry} {n : Nat}, st.heap.get? b = some o → o.data = .dict es n → H b = none := by
      intro b o es n atB isD
      cases z : H b with
      | none => rfl
      | some u =>
        have eb := atOne b (by rw [z]; simp)
        subst eb
        rw [atSv] at atB
        cases atB
        exact nomatch isD
    have keepNs : ∀ {b : Addr} {m : Str → Option Value}, st.heap.Ns b m → (hidT st.heap H).Ns b m := by
      rintro b m ⟨o, es, n, atB, isD, rest⟩
      exact ⟨o, es, n, hidT_get atB (dictsFree atB isD), isD, rest⟩
    have inBase : K.In (hidT st.heap H) := by
      intro b o look
      refine hidT_get (inK b o look) ?_
      cases z : H b with
      | none => rfl
      | some u =>
        have eb := atOne b (by rw [z]; simp)
        subst eb
        rw [notK (by rw [z]; simp)] at look
        cases look
    obtain ⟨mc, l1, l2⟩ := noLim
    have modOk : Mod K mg (hidT st.heap H) := ⟨inBase, keepNs nsG, ⟨mb, keepNs nsB, bOk⟩, mc, keepNs l1, l2⟩
    have env0 : Env0 P w K mg (hidT st.heap H) callerA [] st H := ⟨rfl, modOk, fun b o z => of_hidT z, Nat.le_of_eq (hidT_size _ _), trivial, fun b hb => (List.not_mem_nil hb).elim, okH, .of_eq noGen⟩
    refine codeAny_mono ((F _ inBase (keepNs nsG)).go callerA [] st H ⟨[.ref sv], []⟩ [.ref sv] [.ref sv] _ _ rm env0 (hb st (.ref sv)) (.cons rfl .nil) (hsp H only isS)) fun r st2 res => ?_
    match r, res with
    | .error er, res => exact res.elim
    | .ok .next, res => exact res.elim
    | .ok .brk, res => exact res.elim
    | .ok .cont, res => exact res.elim
    | .ok (.ret u), res =>
      obtain ⟨v, H', sameOs, bare2, un, okH2, ru, isT⟩ := res
      have isT : v = .bl true := isT
      subst isT
      have eu : u = Value.bool true := ru
      subst eu
      refine ⟨rfl, OldK.of_keep fun b o atB => ?_, sameOs, bare2⟩
      cases z : H b with
      | none => exact un.keep b o atB z (fun q => (List.not_mem_nil q).elim) (by simp)
      | some t =>
        rcases only b with q | ⟨ob, xs, q⟩
        · rw [z] at q; cases q
        · obtain ⟨k1, _⟩ := okH b _ q
          obtain ⟨k2, _⟩ := okH2 b _ (un.frzs b ob _ q)
          rw [atB] at k1
          cases k1
          exact k2
  cases look : K.lookup sv with
  | some o =>
    have atO := inK sv o look
    rw [atSv] at atO
    cases atO
    refine core (fun _ => none) (fun _ => .inl rfl) (.inr ⟨_, vs.toArray, _, look, rfl, rfl, rfl, ?_, by simpa using valsI⟩) (fun b u z => nomatch z) (fun b z => absurd rfl z) fun z => absurd rfl z
    rw [List.size_toArray, lens]
    exact short
  | none =>
    have here : scriptH sv vs ns sv = some (.frz { cls := .type "list", data := .seq vs.toArray } (.lst (ns.map V.int))) := if_pos rfl
    have away : ∀ {b : Addr}, b ≠ sv → scriptH sv vs ns b = none := fun h => if_neg h
    refine core (scriptH sv vs ns) (fun b => ?_) (.inl (.inr ⟨_, here⟩)) (fun b u z => ?_) (fun b z => ?_) fun _ => look
    · by_cases eb : b = sv
      · subst eb; exact .inr ⟨_, _, here⟩
      · exact .inl (away eb)
    · by_cases eb : b = sv
      · subst eb
        rw [here] at z
        cases z
        exact ⟨atSv, by rw [List.length_map]; exact short, vs, _, valsI, atSv⟩
      · rw [away eb] at z; cases z
    · by_cases eb : b = sv
      · exact eb
      · exact absurd (away eb) z
theorem walk_G {l : PySem.W.OpenLaw} {n k : Nat} {q : Program} {loose : List Str} {XP : (Str → Option Value) → Heap → Prop} {YP : World → Heap → Prop} {d : DefRec} {x : Str}
    (hm : l.most = some n) (hz : n ≤ sizeLine) (noDef : d.params.defaults = []) (rm : RoomG k callerA)
    (F : ∀ (w : World) (mg : Str → Option Value) (lawA : Addr) (h : Heap), YP w h → h.Ns mainGlobals mg → mg d.name = some (.ref lawA) →
      ∃ (K : PySem.W.Frag) (fd : FuncData) (sp : Sp), K.In h ∧ (∀ (s : Shared) (u : Value), BindsTo s fd ⟨[u], []⟩ [(x, u)]) ∧
        (∀ (H : Hp) (a : Addr) (ns : List Int), ns.length ≤ n → Only H → SqL K H a (ns.map V.int) → sp [.ref a] H (fun v _ => v = .bl true) fun _ _ _ => False) ∧
        ∀ base : Heap, K.In base → base.Ns mainGlobals mg → FnG l.prog w K mg base k lawA fd [x] sp) :
    PySem.W.WalkO q loose XP YP l.row.toRowW d [] (fun f vs => PySem.call f vs) := by
  refine Att.attach_call hm noDef fun w s0 st mg mb lawA o pm cd doc a vs ns G Y atO isF code isG atS areI short noGen => ?_
  obtain ⟨K, fd, sp, inK, hb, hsp, hF⟩ := F w mg lawA _ Y G.T.g isG
  exact law_goG inK G.T.g G.T.b G.T.builtins G.T.nolimit noGen atS areI (Nat.le_trans short hz) rm hF hb fun H only isS => hsp H a ns short only isS
theorem roomG_caller {k : Nat} (h : Room k callerA) : RoomG k callerA := ⟨h, rfl⟩
end L3
end
section
set_option Elab.async false
set_option linter.all false
set_option maxRecDepth 100000
set_option autoImplicit false
/-! L3w: short words for printed derivations (own work). -/
namespace L3
open PySem PySem.Spec PyProof.Rows L2
section
variable {S : Type}
/-- a def's meaning: n arguments, N slots -/
def defN (n N : Nat) (body : Ss S) : List D → S → Option (D × S) := fun ds s => if ds.length = n then defF N body ds s else none
theorem defN_len {n N : Nat} {body : Ss S} {ds : List D} {s : S} {r : D × S} (h : defN n N body ds s = some r) : ds.length = n := by
  unfold defN at h
  split at h
  · assumption
  · cases h
/-- a def of the text that keeps what G says -/
structure Got (P : Program) (w : World) (K : PySem.W.Frag) (mg : Str → Option Value) (base : Heap) (W : Wd S) (x : Str) (stm : Stmt) (k n : Nat) (ps : List Str) (G : List D → S → Option (D × S)) : Prop where
  ex : ∃ fd, FunD K x x (defArgs stm) (defBody stm) (defScope stm) [] [] (He.ga K x) fd ∧ FnG P w K mg base k (He.ga K x) fd ps (spF K W n G)
  mgx : mg x = some (.ref (He.ga K x))
  len : ∀ ds s r, G ds s = some r → ds.length = n
theorem okGD {P : Program} {w : World} {K : PySem.W.Frag} {mg : Str → Option Value} {base : Heap} {x qual : Str} {stm : Stmt} {f : Addr} {fd : FuncData} {N ps : List Str} {k : Nat} {sp : Sp} {dvs : List V} {kws : List (Str × V)} (F : FunD K x qual (defArgs stm) (defBody stm) (defScope stm) dvs kws f fd) (C : FnScope N ps (defScope stm)) (lng : ∀ us H Q E, sp us H Q E → us.length = ps.length)
    (hb : ∀ (cdv : Value) (A : Around) (stk : List Env) (st : Shared) (H : Hp) (us : List V) (Q : VK) (E : XK), RoomG k (A.deeper (envOfC qual (defScope stm) st.heap.objs.size f cdv)) → sp us H Q E →
      ∃ t, PSs (cxOf CX0 P w K mg base N qual (defScope stm) f cdv A stk st H E).nox (defBody stm) t ∧ t { nx := fun _ H' => Q .non H', rt := Q } (start N us) H) : FnG P w K mg base (k + 1) f fd ps sp := by
  obtain ⟨oc, od, dV, kV, dc, pm, an, cdv, ct, osl, rfl, look, codeOk, _, _⟩ := F.ex
  constructor
  · exact lng
  intro A stk st H ar ws us Q E rm e0 hbd rv hsp
  have inSt : K.In st.heap := e0.mod.kin.keeps fun c ob z => (e0.bs c ob z).1
  have noLim : st.heap.NoLimit := e0.mod.nolimit.keeps fun c ob z => (e0.bs c ob z).1
  refine codeAny_call_function rm.rm.depth (inSt _ _ look) rfl C.co C.gen rfl (PySem.W.codeRec_of inSt codeOk) (hbd _ _ _ _ ?_)
  have places : ∀ y ∈ ps.zip ws, (defScope stm).names.lookup y.1 = some .local ∨ ((defScope stm).names.lookup y.1 = some .cell ∧ ((cellsFrom (st.heap.objs.size + 1) (defScope stm).names []).lookup y.1).isSome = true) := by
    rintro ⟨nme, vl⟩ hy
    rcases C.par nme (List.of_mem_zip hy).1 with z | z
    · exact .inl z
    · exact .inr ⟨z, PySem.W.cellsFrom_some _ _ _ (.inl z)⟩
  refine wpAny_newFunctionEnv_cells C.kind places fun en hen st1 inc => ?_
  subst hen
  refine ⟨noLim.keeps inc.toInCall.keep, codeAny_func ?_⟩
  obtain ⟨t, bodyOk, q⟩ := hb cdv A stk st H us Q E (rm.deeper _) hsp
  have J0 := inv_start (P := P) (CX := CX0) (N := N) (E := E) C rm.rm.hd e0 (lng _ _ _ _ hsp) rv inc
  refine wpAny_mono (bodyOk.nox.run [] st1 (start N us) H _ J0 q) (fun fl st2 res => ?_) fun er st2 res => res
  cases fl with
  | ret u =>
    obtain ⟨v, σ', H', J, r, z⟩ := res
    exact ⟨v, H', J.os, J.bare, J.base, J.hok, r, z⟩
  | next =>
    obtain ⟨σ', H', J, z⟩ := res
    exact ⟨.non, H', J.os, J.bare, J.base, J.hok, rfl, z⟩
  | brk =>
    obtain ⟨_, _, _, z⟩ := res
    exact z.elim
  | cont =>
    obtain ⟨_, _, _, z⟩ := res
    exact z.elim
/-- THE RULE for a printed def -/
theorem got {P : Program} {w : World} {K : PySem.W.Frag} {mg : Str → Option Value} {base : Heap} {W : Wd S} {x : Str} {stm : Stmt} {N ps : List Str} {k n : Nat} {g : Ss S} (F : ∃ fd, FunD K x x (defArgs stm) (defBody stm) (defScope stm) [] [] (He.ga K x) fd) (hm : mg x = some (.ref (He.ga K x)))
    (C : FnScope N ps (defScope stm)) (hn : ps.length = n) (hN : n ≤ N.length)
    (hb : ∀ (f : Addr) (cdv : Value) (A : Around) (outer : List Env) (s : Shared) (H : Hp) (E : XK), RoomG k (A.deeper (envOfC x (defScope stm) s.heap.objs.size f cdv)) → PSs (cxOf CX0 P w K mg base N x (defScope stm) f cdv A outer s H E).nox (defBody stm) (SS K W g)) :
    Got P w K mg base W x stm (k + 1) n ps (defN n N.length g) := by
  obtain ⟨fd, F⟩ := F
  refine ⟨⟨fd, F, ?_⟩, hm, fun ds s r h => defN_len h⟩
  refine okGD F C (fun vs H Q E h => h.1.trans hn.symm) fun cdv A outer s H vs Q E hr h => ⟨_, hb _ cdv A outer s H E hr, def_val hN (spF.imp (fun ds s d s' z => ?_) h)⟩
  unfold defN at z
  split at z
  · exact z
  · cases z
variable {X : Cx} {W : Wd S} {e a b c : Expr} {es : List Expr} {pos p : Pos}
/-- values picked by their places -/
def sel {α : Type} (ix : List Nat) (xs : List α) : List α := match ix with
  | [] => []
  | i :: ix => match xs[i]? with
    | some x => x :: sel ix xs
    | none => sel ix xs
theorem sel_rep {K : PySem.W.Frag} {tk : Addr} {H : Hp} {av : Addr → Prop} {vs : List V} {ds : List D} (r : RepL K tk H av vs ds) : ∀ ix : List Nat, RepL K tk H av (sel ix vs) (sel ix ds)
  | [] => .nil
  | i :: ix => by
    unfold sel
    cases h : ds[i]? with
    | none =>
      have : vs[i]? = none := by
        rw [List.getElem?_eq_none_iff] at h ⊢
        rw [r.length]
        exact h
      rw [this]
      exact sel_rep r ix
    | some d =>
      obtain ⟨v, h1, h2⟩ := r.get h
      rw [h1]
      exact .cons h2 (sel_rep r ix)
theorem sel_vals {vs : List V} {us : List Value} (r : Vals vs us) : ∀ ix : List Nat, Vals (sel ix vs) (sel ix us)
  | [] => .nil
  | i :: ix => by
    unfold sel
    cases h : vs[i]? with
    | none =>
      have : us[i]? = none := by
        rw [List.getElem?_eq_none_iff] at h ⊢
        rw [← r.length]
        exact h
      rw [this]
      exact sel_vals r ix
    | some d =>
      obtain ⟨v, h1, h2⟩ := r.get h
      rw [h1]
      exact .cons h2 (sel_vals r ix)
/-- f(e, ..), f a printed def -/
theorem callD {k n : Nat} {x : Str} {stm : Stmt} {ps : List Str} {G : List D → S → Option (D × S)} {g : EvL S} (o : Got X.prog X.w X.K X.mg X.base W x stm k n ps G) (hr : RoomG k X.A) (hg : Gl X x)
    (hbd : ∀ (kV doc pm : Value) (an : Option Addr) (cdv ct : Value) (us : List Value), us.length = ps.length → bindArgs (PySem.W.fnOf x x (defArgs stm) (defBody stm) (defScope stm) .none kV doc pm an cdv ct) ⟨us, []⟩ = pure (ps.zip us))
    (ha : PA X (e :: es) (SL X.K W g)) (hdb : (x == ("__debug__" : Str)) = false) (he : starEach (e :: es) X.env = (false, eval e X.env) :: starEach es X.env) (hpl : (backTo pos (starEach es X.env)).any (·.1) = false) :
    PE X (.Call (.Name x p) (e :: es) [] pos) (SE X.K W false (callF G g)) := by
  obtain ⟨fd, F, FG⟩ := o.ex
  refine (pe_callG FG hr hg o.mgx F.kp (F.bindsN hbd) .nil ha hdb he hpl).imp fun σ H Q q => ?_
  obtain ⟨H0, O, A, P, ρ, s, d, ρ', s', r, e, q⟩ := q
  obtain ⟨ys, s1, e1, e2⟩ := callF_some e
  refine ⟨H0, O, A, P, ρ, s, ys, ρ', s1, r, e1, fun vs H1 ex r1 rl hx ht => ?_⟩
  show spF X.K W n G (vs ++ []) H1 Q E0
  rw [List.append_nil]
  exact call_val (R := ⟨X.K, W, H0, O⟩) (rl.length.trans (o.len _ _ _ e2)) r1 rl hx e2 fun v H' ex r' => q v H' ex r' fun z => Bool.noConfusion z
def tCallS (nu nw : Nat) (ix : List Nat) (sp : Sp) (t tk : TA) : TE := fun σ H Q => t σ H fun vs H1 => tk σ H1 fun zs H2 => vs.length = nu ∧ zs.length = nw ∧ sp (sel ix (vs ++ zs)) H2 Q E0
/-- f(e, .., k = v, ..), f(k = v, ..) -/
theorem pe_callS {k nu nw : Nat} {ix : List Nat} {x : Str} {f : Addr} {fd : FuncData} {ps ks : List Str} {sp : Sp} {kws : List Keyword} {t tk : TA} (F : FnG X.prog X.w X.K X.mg X.base k f fd ps sp) (rm : RoomG k X.A) (hg : Gl X x) (hm : X.mg x = some (.ref f)) (hk : PySem.W.keepIn X.K (.ref f) = true)
    (hb : ∀ (s : Shared) (us ws : List Value), us.length = nu → ws.length = nw → X.K.In s.heap → BindsTo s fd ⟨us, ks.zip ws⟩ (ps.zip (sel ix (us ++ ws)))) (ha : PA X (e :: es) t) (hkw : PK X kws tk) (hall : (backToKw pos (keywordEach kws X.env)).all (·.1.isSome) = true) (hks : (backToKw pos (keywordEach kws X.env)).filterMap (·.1) = ks)
    (hdb : (x == ("__debug__" : Str)) = false) (he : starEach (e :: es) X.env = (false, eval e X.env) :: starEach es X.env) (hpl : ((backTo pos (starEach (e :: es) X.env)).any (·.1) || (backToKw pos (keywordEach kws X.env)).any (·.1.isNone)) = false) :
    PE X (.Call (.Name x p) (e :: es) kws pos) (tCallS nu nw ix sp t tk) := by
  constructor
  intro pins st σ H Q J h
  refine wpAny_Call_Name_kw (ld_glob J hg hm ?_ hdb)
  refine PySem.W.callWith_KW (h₀ := X.base) J.ok.mod.kin hk hall (thn (ha.run pos pins st σ H _ J h) fun ws st1 z => ?_) hpl he
  obtain ⟨us, H1, J1, rv, q⟩ := z
  refine thn (hkw.run pos pins st1 σ H1 _ J1 q) fun zs st2 z => ?_
  obtain ⟨ys, H2, J2, rz, h1, h2, q2⟩ := z
  rw [hks]
  exact ⟨J2.kIn, goG F rm (hb st2 ws zs (by rw [← rv.length]; exact h1) (by rw [← rz.length]; exact h2) J2.kIn) J2 (sel_vals (rv.append rz) ix) q2⟩
theorem pe_callS0 {k nw : Nat} {ix : List Nat} {x : Str} {f : Addr} {fd : FuncData} {ps ks : List Str} {sp : Sp} {kws : List Keyword} {tk : TA} (F : FnG X.prog X.w X.K X.mg X.base k f fd ps sp) (rm : RoomG k X.A) (hg : Gl X x) (hm : X.mg x = some (.ref f)) (hk : PySem.W.keepIn X.K (.ref f) = true)
    (hb : ∀ (s : Shared) (us ws : List Value), us.length = 0 → ws.length = nw → X.K.In s.heap → BindsTo s fd ⟨us, ks.zip ws⟩ (ps.zip (sel ix (us ++ ws)))) (hkw : PK X kws tk) (hall : (backToKw pos (keywordEach kws X.env)).all (·.1.isSome) = true) (hks : (backToKw pos (keywordEach kws X.env)).filterMap (·.1) = ks)
    (hdb : (x == ("__debug__" : Str)) = false) (hpl : ((backToKw pos (keywordEach kws X.env)).any (·.1.isNone)) = false) :
    PE X (.Call (.Name x p) [] kws pos) (tCallS 0 nw ix sp tNil tk) := by
  constructor
  intro pins st σ H Q J h
  refine wpAny_Call_Name_kw (ld_glob J hg hm ?_ hdb)
  refine PySem.W.callWith_KW0 (h₀ := X.base) J.ok.mod.kin hk hall (thn (hkw.run pos pins st σ H _ J h) fun zs st2 z => ?_) hpl
  obtain ⟨ys, H2, J2, rz, h1, h2, q2⟩ := z
  rw [hks]
  exact ⟨J2.kIn, goG F rm (hb st2 [] zs rfl (by rw [← rz.length]; exact h2) J2.kIn) J2 (sel_vals rz ix) q2⟩
/-- positional values, then those of the keywords, picked -/
def catS (nu nw : Nat) (ix : List Nat) (g h : EvL S) : EvL S := fun ρ s => match g ρ s with
  | some (xs, ρ1, s1) => match h ρ1 s1 with
    | some (ys, ρ2, s2) => if xs.length = nu ∧ ys.length = nw then some (sel ix (xs ++ ys), ρ2, s2) else none
    | none => none
  | none => none
theorem callS_val {nu nw n : Nat} {ix : List Nat} {G : List D → S → Option (D × S)} {g h : EvL S} {K : PySem.W.Frag} (hn : ∀ ds s r, G ds s = some r → ds.length = n) {σ : L2.St} {H : Hp} {Q : VK} (q : SE K W false (callF G (catS nu nw ix g h)) σ H Q) :
    tCallS nu nw ix (spF K W n G) (SL K W g) (SL K W h) σ H Q := by
  obtain ⟨H0, O, A, P, ρ, s, d, ρ', s', r, e, q⟩ := q
  obtain ⟨zs, s1, e1, e2⟩ := callF_some e
  have hz := hn _ _ _ e2
  unfold catS at e1
  split at e1
  · rename_i xs ρ1 s2 e3
    split at e1
    · rename_i ys ρ2 s3 e4
      split at e1
      · rename_i hl
        cases e1
        refine ⟨H0, O, A, P, ρ, s, xs, ρ1, s2, r, e3, fun vs H1 ex1 r1 rl1 hx1 ht1 => ?_⟩
        have r2 : Rel ⟨K, W, H0, O⟩ A (⟨.non, .non, ex1⟩ :: (pds vs xs ex1 ++ P)) σ H1 ρ1 s2 := (Rel.pushL hx1 ht1 r1 rl1).push .non hx1 ht1
        refine ⟨H0, O, A, _, ρ1, s2, ys, ρ', s1, r2, e4, fun ws H2 ex2 r3 rl2 hx2 ht2 => ?_⟩
        obtain ⟨rl1', r4⟩ := Rel.popL rl1.length r3.tail
        have rl := sel_rep ((rl1'.mono fun a (z : avL ⟨K, W, H0, O⟩ A σ ρ' a ∧ ¬ (ex1 a ∨ ex2 a)) => ⟨z.1, fun y => z.2 (.inl y)⟩).append (rl2.mono fun a z => ⟨z.1, fun y => z.2 (.inr y)⟩)) ix
        refine ⟨rl1.length.trans hl.1, rl2.length.trans hl.2, ?_⟩
        exact call_val (R := ⟨K, W, H0, O⟩) (rl.length.trans hz) r4 rl (fun a h z => z.elim (r3.hex a h) (hx2 a h)) e2 fun v H' ex r' => q v H' ex r' fun z => Bool.noConfusion z
      · cases e1
    · cases e1
  · cases e1
theorem bindsS {K : PySem.W.Frag} {x : Str} {stm : Stmt} {f : Addr} {fd : FuncData} {ps ks : List Str} {nu nw : Nat} {ix : List Nat} (F : FunD K x x (defArgs stm) (defBody stm) (defScope stm) [] [] f fd)
    (h : ∀ (kV doc pm : Value) (an : Option Addr) (cdv ct : Value) (us ws : List Value), us.length = nu → ws.length = nw → bindArgs (PySem.W.fnOf x x (defArgs stm) (defBody stm) (defScope stm) .none kV doc pm an cdv ct) ⟨us, ks.zip ws⟩ = pure (ps.zip (sel ix (us ++ ws)))) (s : Shared) (us ws : List Value) (h1 : us.length = nu) (h2 : ws.length = nw) (_ : K.In s.heap) :
    BindsTo s fd ⟨us, ks.zip ws⟩ (ps.zip (sel ix (us ++ ws))) := by
  obtain ⟨oc, od, dV, kV, doc, pm, an, cdv, ct, osl, rfl, lk, hcd, hD, hK⟩ := F.ex
  rcases hD with ⟨_, rfl⟩ | ⟨e, _⟩
  · exact .of_eq (h kV doc pm an cdv ct us ws h1 h2)
  · exact absurd rfl e
theorem callK {k n : Nat} {x : Str} {stm : Stmt} {ps : List Str} {G : List D → S → Option (D × S)} {g h : EvL S} {kws : List Keyword} (nu nw : Nat) (ix : List Nat) (ks : List Str) (o : Got X.prog X.w X.K X.mg X.base W x stm k n ps G) (hr : RoomG k X.A) (hg : Gl X x)
    (hbd : ∀ (kV doc pm : Value) (an : Option Addr) (cdv ct : Value) (us ws : List Value), us.length = nu → ws.length = nw → bindArgs (PySem.W.fnOf x x (defArgs stm) (defBody stm) (defScope stm) .none kV doc pm an cdv ct) ⟨us, ks.zip ws⟩ = pure (ps.zip (sel ix (us ++ ws))))
    (ha : PA X (e :: es) (SL X.K W g)) (hkw : PK X kws (SL X.K W h)) (hall : (backToKw pos (keywordEach kws X.env)).all (·.1.isSome) = true) (hks : (backToKw pos (keywordEach kws X.env)).filterMap (·.1) = ks)
    (hdb : (x == ("__debug__" : Str)) = false) (he : starEach (e :: es) X.env = (false, eval e X.env) :: starEach es X.env) (hpl : ((backTo pos (starEach (e :: es) X.env)).any (·.1) || (backToKw pos (keywordEach kws X.env)).any (·.1.isNone)) = false) :
    PE X (.Call (.Name x p) (e :: es) kws pos) (SE X.K W false (callF G (catS nu nw ix g h))) := by
  obtain ⟨fd, F, FG⟩ := o.ex
  exact (pe_callS FG hr hg o.mgx F.kp (bindsS F hbd) ha hkw hall hks hdb he hpl).imp fun σ H Q q => callS_val o.len q
theorem callK0 {k n : Nat} {x : Str} {stm : Stmt} {ps : List Str} {G : List D → S → Option (D × S)} {h : EvL S} {kws : List Keyword} (nw : Nat) (ix : List Nat) (ks : List Str) (o : Got X.prog X.w X.K X.mg X.base W x stm k n ps G) (hr : RoomG k X.A) (hg : Gl X x)
    (hbd : ∀ (kV doc pm : Value) (an : Option Addr) (cdv ct : Value) (us ws : List Value), us.length = 0 → ws.length = nw → bindArgs (PySem.W.fnOf x x (defArgs stm) (defBody stm) (defScope stm) .none kV doc pm an cdv ct) ⟨us, ks.zip ws⟩ = pure (ps.zip (sel ix (us ++ ws))))
    (hkw : PK X kws (SL X.K W h)) (hall : (backToKw pos (keywordEach kws X.env)).all (·.1.isSome) = true) (hks : (backToKw pos (keywordEach kws X.env)).filterMap (·.1) = ks)
    (hdb : (x == ("__debug__" : Str)) = false) (hpl : ((backToKw pos (keywordEach kws X.env)).any (·.1.isNone)) = false) :
    PE X (.Call (.Name x p) [] kws pos) (SE X.K W false (callF G (catS 0 nw ix nilL h))) := by
  obtain ⟨fd, F, FG⟩ := o.ex
  refine (pe_callS0 FG hr hg o.mgx F.kp (bindsS F hbd) hkw hall hks hdb hpl).imp fun σ H Q q => ?_
  have z : tCallS 0 nw ix (spF X.K W n G) (SL X.K W nilL) (SL X.K W h) σ H Q := callS_val o.len q
  exact nil_val z
/-! ### names -/
theorem ev (i : Nat) {x : Str} (hN : X.N[i]? = some x := by rfl) (hv : Vis X.env.scope x := by first | exact Or.inl rfl | exact Or.inr (Or.inl rfl) | exact Or.inr (Or.inr rfl)) (hd : (x == ("__debug__" : Str)) = false := by decide) (hcd : (x == ("__classdict__" : Str)) = false := by decide) :
    PE X (.Name x pos) (SE X.K W false (varF i)) := se_var hN hv hd hcd
theorem eInt {i : Int} {j : Nat} : PE X (.Constant (.int i) j pos) (SE X.K W false (cstF (.int i))) := se_cst (fun _ _ => .int i) pe_int
theorem eStr {i : Str} {j : Nat} : PE X (.Constant (.str i) j pos) (SE X.K W false (cstF (.str i))) := se_cst (fun _ _ => .str i) pe_str
theorem eBl {i : Bool} {j : Nat} : PE X (.Constant (.bool i) j pos) (SE X.K W false (cstF (.bl i))) := se_cst (fun _ _ => .bl i) pe_bl
theorem eNon {j : Nat} : PE X (.Constant .none j pos) (SE X.K W false (cstF .non)) := se_cst (fun _ _ => .non) pe_non
/-- a module's own int -/
theorem eGlo {x : Str} {i : Int} (hg : Gl X x) (hm : ∃ t, X.mg x = some (.int i t)) (hd : (x == ("__debug__" : Str)) = false) : PE X (.Name x pos) (SE X.K W false (cstF (.int i))) := by
  obtain ⟨t, ht⟩ := hm
  exact se_cst (v := .int i) (fun _ _ => .int i) (pe_glob hg ht ⟨t, rfl⟩ hd)
theorem eOne {op : BoolOp} {f : Ev S} {fr : Bool} (h : PE X e (SE X.K W fr f)) : PE X (.BoolOp op [e] pos) (SE X.K W fr f) := pe_one h
theorem si_rng1 {tg : Expr} {f : Ev S} {fr : Bool} (hg : Gl X "range") (hm : X.mg "range" = none) (ha : PE X a (SE X.K W fr f)) (hs : starEach [a] X.env = [(false, eval a X.env)]) : PI X tg (.Call (.Name "range" p) [a] [] pos) (SI X.K W (rangeL (consL f nilL))) :=
  si_range1 hg hm (sl_cons ha sl_nil hs) hs fun ρ s xs ρ' s' h => by
    obtain ⟨x, ρ1, s1, ys, _, h2, rfl⟩ := consL_some h
    cases h2
    rfl
theorem si_rng2 {tg : Expr} {f g : Ev S} {fr fr2 : Bool} (hg : Gl X "range") (hm : X.mg "range" = none) (ha : PE X a (SE X.K W fr f)) (hb : PE X b (SE X.K W fr2 g)) (hs : starEach [a, b] X.env = [(false, eval a X.env), (false, eval b X.env)]) (hs2 : starEach [b] X.env = [(false, eval b X.env)]) :
    PI X tg (.Call (.Name "range" p) [a, b] [] pos) (SI X.K W (rangeL (consL f (consL g nilL)))) :=
  si_range2 hg hm (sl_cons ha (sl_cons hb sl_nil hs2) (hs.trans (by rw [hs2]))) hs hs2 fun ρ s xs ρ' s' h => by
    obtain ⟨x, ρ1, s1, ys, _, h2, rfl⟩ := consL_some h
    obtain ⟨y, ρ2, s2, zs, _, h3, rfl⟩ := consL_some h2
    cases h3
    rfl
end
theorem b_len : bootBuiltins "len" = some (.builtin "len") := by decide +kernel
theorem b_all : bootBuiltins "all" = some (.builtin "all") := by decide +kernel
theorem b_any : bootBuiltins "any" = some (.builtin "any") := by decide +kernel
theorem b_sum : bootBuiltins "sum" = some (.builtin "sum") := by decide +kernel
theorem b_min : bootBuiltins "min" = some (.builtin "min") := by decide +kernel
theorem b_max : bootBuiltins "max" = some (.builtin "max") := by decide +kernel
theorem b_sorted : bootBuiltins "sorted" = some (.builtin "sorted") := by decide +kernel
theorem b_isinstance : bootBuiltins "isinstance" = some (.builtin "isinstance") := by decide +kernel
theorem b_repr : bootBuiltins "repr" = some (.builtin "repr") := by decide +kernel
theorem b_tuple : bootBuiltins "tuple" = some (.type "tuple") := by decide +kernel
theorem b_list : bootBuiltins "list" = some (.type "list") := by decide +kernel
theorem b_set : bootBuiltins "set" = some (.type "set") := by decide +kernel
theorem b_int : bootBuiltins "int" = some (.type "int") := by decide +kernel
theorem b_bool : bootBuiltins "bool" = some (.type "bool") := by decide +kernel
theorem b_str : bootBuiltins "str" = some (.type "str") := by decide +kernel
theorem b_dict : bootBuiltins "dict" = some (.type "dict") := by decide +kernel
end L3
end
section
set_option Elab.async false
set_option linter.all false
set_option maxRecDepth 100000
set_option autoImplicit false
/-! L3x: how a law's deck is made (own work). -/
namespace L3
open PySem PySem.Spec PyProof.Rows L2
abbrev rInt1 : List V → Hp → VK → Prop := fun xs H Q => (∃ i, xs = [.int i] ∧ Q (.int i) H) ∨ ∃ k, xs = [.bl k] ∧ Q (.int (if k then 1 else 0)) H
abbrev rLiO (K : PySem.W.Frag) : List V → Hp → VK → Prop := fun xs H Q => ∃ p ys, xs = [.ref p] ∧ (SqL K H p ys ∨ SqT K H p ys) ∧ ∀ l, H l = none → Q (.ref l) (upd H l (.lst ys))
abbrev rModP : R2 := rI (fun _ j => 0 < j) fun i j => .int (i % j)
abbrev rAddI : R2 := rI0 fun i j => .int (i + j)
abbrev rMulI : R2 := rI CMul fun i j => .int (i * j)
abbrev tCut (K : PySem.W.Frag) : TE := tSl (rSlL K) (tVar 0) tNoPart (tPart (tC (.int 63)))
def tMix (c1 c2 c4 : Int) (iM iC : Nat) (t3 : TE) : TS := tAsg (tOp rModP (tCB rInt1 (tCons (tOp rAddI (tOp rAddI (tOp rMulI (tVar iM) (tC (.int c1))) (tOp rModP (tCB rInt1 (tCons (tVar iC) tNil)) (tC (.int c2)))) t3) tNil)) (tC (.int c4))) (gName iM)
def tDeckA (K : PySem.W.Frag) (kc kd : Str) (c0 c1 c2 c3 c4 : Int) : TS :=
  tSeq (tAsg (tC (.int c0)) (gName 1)) (tSeq (tFor (iList K (tCut K)) (gName 2) (tMix c1 c2 c4 1 2 (tC (.int c3))))
    (tRet (tDisp [(tC (.str kc), tRevL K (tCB (rLiO K) (tCons (tCut K) tNil))), (tC (.str "mixed"), tVar 1), (tC (.str kd), tC (.int 0))])))
def spDeck (K : PySem.W.Frag) (kc kd : Str) : Sp := fun vs H Q _ => ∃ (a : Addr) (ns : List Int), vs = [.ref a] ∧ SqL K H a (ns.map .int) ∧ ns.length ≤ 63 ∧ ∀ H' T c s, Same H H' → H T = none → H c = none → (dW kc kd T c).rel s H' → Q (.ref T) H'
theorem merge_dk {kc kd : Str} (ok : KeyOk kc kd) (c : Addr) (s : Dk) : mergeK [] (dkV kc kd c s) = dkV kc kd c s := by
  have h1 := ok.cm
  have h2 := ok.cd
  have h3 := ok.md
  unfold mergeK dkV
  simp [putK, h1, h2, h3]
def cutI (ns : List Int) : List Int := ns.take 63
theorem cut_ints (ns : List Int) : cutV (ns.map V.int) none (some 63) = (cutI ns).map V.int := by
  unfold cutV cutI
  rw [HT.sIx_none, show (some (63 : Int)) = some ((63 : Nat) : Int) from rfl, HT.sIx_nat]
  rw [List.drop_zero, Nat.sub_zero, List.length_map, List.map_take]
  by_cases h : ns.length ≤ 63
  · rw [Nat.min_eq_right h, List.take_of_length_le (by rw [List.length_map]; exact Nat.le_refl _), List.take_of_length_le (by rw [List.length_map]; exact h)]
  · rw [Nat.min_eq_left (by omega)]
theorem deck_val {K : PySem.W.Frag} {kc kd : Str} {c0 c1 c2 c3 c4 : Int} (ok : KeyOk kc kd) (h1 : -(2 ^ 64) < c1 ∧ c1 < 2 ^ 64) (h2 : 0 < c2) (h4 : 0 < c4) {x y z : Str} {vs : List V} {H : Hp} {Q : VK} {E : XK} (h : spDeck K kc kd vs H Q E) :
    tDeckA K kc kd c0 c1 c2 c3 c4 { nx := fun _ H' => Q .non H', rt := Q } (start [x, y, z] vs) H := by
  obtain ⟨a, ns, rfl, hS, hn, q⟩ := h
  refine ⟨.ref a, rfl, 63, rfl, a, ns.map V.int, rfl, hS, fun p hp => ⟨p, rfl, ⟨_, .inl (.inl upd_same)⟩, ?_⟩⟩
  rw [cut_ints]
  have k1 := same_upd (o := .lst ((cutI ns).map V.int)) hp
  have wl : Walk (Itl K p) ((cutI ns).map V.int).length (fun H => SqL K H p ((cutI ns).map V.int)) (YAt ((cutI ns).map V.int)) := walk_list
  refine for_it wl (fun i σ' H' => ∃ m y2, σ' = [some (.ref a), some (.int m), y2] ∧ H' = upd H p (.lst ((cutI ns).map V.int))) ⟨c0, none, rfl, rfl⟩ (fun i σ' H' _ h => ?_) (fun i v σ' H' H2 hi h y => ?_) fun σ' H' h => ?_
  · obtain ⟨m, y2, _, rfl⟩ := h
    exact .inl (.inl upd_same)
  · obtain ⟨m, y2, rfl, rfl⟩ := h
    obtain ⟨rfl, hx⟩ := y
    obtain ⟨zz, _, rfl⟩ : ∃ zz, zz ∈ cutI ns ∧ V.int zz = v := by
      have := List.mem_of_getElem? hx
      exact List.mem_map.mp this
    exact ⟨_, rfl, _, _, rfl, rfl, .inr h1, _, rfl, .inl ⟨zz, rfl, _, _, rfl, rfl, h2, _, _, rfl, rfl, _, _, rfl, rfl, .inl ⟨_, rfl, _, _, rfl, rfl, h4, _, _, rfl, rfl⟩⟩⟩
  · obtain ⟨m, y2, rfl, rfl⟩ := h
    intro T hT
    have k2 := k1.trans (same_upd (o := .dK []) hT)
    refine ⟨.ref a, rfl, 63, rfl, a, ns.map V.int, rfl, k2.seq hS, fun p3 hp3 => ⟨p3, _, rfl, .inl (.inl (.inl upd_same)), fun p4 hp4 => ⟨p4, _, rfl, .inl (.inl upd_same), fun c hc => ?_⟩⟩⟩
    rw [cut_ints]
    have k3 := same_upd (o := .lst ((cutI ns).map V.int)) hp3
    rw [cut_ints] at hp4 hc
    have k4 := same_upd (o := .lst ((cutI ns).map V.int)) hp4
    have k5 := same_upd (o := .lst ((cutI ns).map V.int).reverse) hc
    have kk := k3.trans (k4.trans k5)
    have atT := kk _ _ (upd_same (H := upd H p (.lst ((cutI ns).map V.int))) (a := T) (o := .dK []))
    have nT : H T = none := k1.free hT
    have nc : H c = none := k2.free ((k3.trans k4).free hc)
    refine ⟨_, rfl, atT, dkV kc kd c ⟨(cutI ns).reverse, m, 0⟩, rfl, by show 3 ≤ 15; omega, ?_⟩
    rw [merge_dk ok]
    have ncT : c ≠ T := fun e => by
      subst e
      have := (k3.trans k4) _ _ (upd_same (H := upd H p (.lst ((cutI ns).map V.int))) (a := c) (o := .dK []))
      rw [hc] at this
      cases this
    refine q _ T c ⟨(cutI ns).reverse, m, 0⟩ (fun b o e => ?_) nT nc ⟨upd_same, ?_, ?_⟩
    · have hb : b ≠ T := ne_of_none e nT
      rw [upd_ne hb]
      exact kk _ _ (k2 _ _ e)
    · rw [upd_ne ncT, upd_same, List.map_reverse]
    · show (cutI ns).reverse.length ≤ 64
      rw [List.length_reverse]
      unfold cutI
      rw [List.length_take]
      omega
/-! ### the law's body behind the deck -/
def startL (n : Nat) : En := (List.replicate n Sl.non).set 1 (.val .deck)
theorem startL_val {n i : Nat} {d : D} (h : (startL n)[i]? = some (.val d)) : i = 1 ∧ d = .deck := by
  unfold startL at h
  by_cases hi : 1 = i
  · subst hi
    by_cases hn : 1 < (List.replicate n Sl.non).length
    · rw [List.getElem?_set_self hn] at h
      cases h
      exact ⟨rfl, rfl⟩
    · rw [List.getElem?_eq_none (by rw [List.length_set]; omega)] at h
      cases h
  · rw [List.getElem?_set_ne hi, List.getElem?_replicate] at h
    split at h <;> cases h
theorem startL_own {n i : Nat} {t : Bool} {ds : D} (h : (startL n)[i]? = some (.ownD t ds)) : False := by
  unfold startL at h
  by_cases hi : 1 = i
  · subst hi
    by_cases hn : 1 < (List.replicate n Sl.non).length
    · rw [List.getElem?_set_self hn] at h
      cases h
    · rw [List.getElem?_eq_none (by rw [List.length_set]; omega)] at h
      cases h
  · rw [List.getElem?_set_ne hi, List.getElem?_replicate] at h
    split at h <;> cases h
theorem law_start {K : PySem.W.Frag} {kc kd : Str} {T c : Addr} {g : Ss Dk} {σ : L2.St} {H : Hp} {s s' : Dk} {ρ' : En} {Q : VK} {N : L2.St → Hp → Prop} (w : (dW kc kd T c).rel s H) (hσ : σ[1]? = some (some (.ref T))) (hg : g (startL σ.length) s = some (.rt (.bl true), ρ', s')) (hQ : ∀ H, Q (.bl true) H) :
    SS K (dW kc kd T c) g { nx := N, rt := Q } σ H := by
  have nolock : ∀ a, ¬ lockA σ (startL σ.length) a := fun a ⟨i, t, ds, e, _⟩ => startL_own e
  refine ⟨H, fun _ => False, [], startL σ.length, s, _, ρ', s', ⟨by unfold startL; simp, w, fun a o e _ => e, fun a z => z.elim, fun a z => ?_, fun i d e => ?_, fun i t ds e => (startL_own e).elim, fun a ds e => (List.not_mem_nil e).elim, fun i j t u ds es a e => (startL_own e).elim, fun a z => (nolock a z).elim, List.nodup_nil, fun p hp => (List.not_mem_nil hp).elim, fun p hp => (List.not_mem_nil hp).elim, fun p hp => (List.not_mem_nil hp).elim⟩, hg, fun v σ' H' ex r => ?_⟩
  · obtain ⟨o, e, _⟩ := (dW kc kd T c).has w z
    show H a ≠ none
    rw [e]
    simp
  · obtain ⟨rfl, rfl⟩ := startL_val e
    exact ⟨_, hσ, .deck⟩
  · have hv : v = .bl true := by cases r.head; rfl
    subst hv
    exact hQ H'
def spLaw (K : PySem.W.Frag) : Sp := fun vs H Q _ => ∃ (a : Addr) (ns : List Int), vs = [.ref a] ∧ SqL K H a (ns.map .int) ∧ ns.length ≤ 63 ∧ ∀ H', Q (.bl true) H'
theorem pss_ex {X : Cx} {sts : List Stmt} {ι : Type} {t : ι → TS} (h : ∀ i, PSs X sts (t i)) : PSs X sts (fun E σ H => ∃ i, t i E σ H) := ⟨fun pins s σ H E I ⟨i, q⟩ => (h i).run pins s σ H E I q⟩
theorem law_val {K : PySem.W.Frag} {kc kd : Str} {x y : Str} {N : List Str} {g : Ss Dk} {vs : List V} {H : Hp} {Q : VK} {E : XK} (hg : ∀ s : Dk, s.cells.length ≤ 64 → ∃ ρ' s', g (startL (N.length + 2)) s = some (.rt (.bl true), ρ', s')) (h : spLaw K vs H Q E) :
    tSeq (tAsg (tCall (spDeck K kc kd) [] E0 (tCons (tVar 0) tNil)) (gName 1)) (fun E σ H => ∃ i : Addr × Addr, SS K (dW kc kd i.1 i.2) g E σ H) { nx := fun _ H' => Q .non H', rt := Q } (start (x :: y :: N) vs) H := by
  obtain ⟨a, ns, rfl, hS, hn, q⟩ := h
  refine ⟨.ref a, rfl, a, ns, rfl, hS, hn, fun H' T c s _ _ _ w => ⟨(T, c), ?_⟩⟩
  obtain ⟨ρ', s', e⟩ := hg s w.2.2
  refine law_start (ρ' := ρ') (s' := s') w rfl ?_ q
  have : ((start (x :: y :: N) [V.ref a]).set 1 (some (V.ref T))).length = N.length + 2 := by
    unfold L2.start
    simp
  rw [this]
  exact e
end L3
end
section
set_option Elab.async false
set_option linter.all false
set_option maxRecDepth 100000
set_option autoImplicit false
/-! L3y: what the meanings give: rules for plain mathematics (own work). -/
namespace L3
open PySem PySem.Spec PyProof.Rows L2
section
variable {S : Type}
@[simp] theorem thaw_nil (b : En) : thaw [] b = b := by cases b <;> rfl
@[simp] theorem thaw_val (x : Sl) (a : En) (d : D) (b : En) : thaw (x :: a) (.val d :: b) = .val d :: thaw a b := by cases x with
  | ownD t ds => cases t <;> rfl
  | _ => rfl
@[simp] theorem thaw_non (x : Sl) (a : En) (b : En) : thaw (x :: a) (.non :: b) = .non :: thaw a b := by cases x with
  | ownD t ds => cases t <;> rfl
  | _ => rfl
@[simp] theorem thaw_own (ds es : D) (t : Bool) (a b : En) : thaw (.ownD false ds :: a) (.ownD t es :: b) = .ownD false es :: thaw a b := rfl
@[simp] theorem thaw_vo (d : D) (es : D) (t : Bool) (a b : En) : thaw (.val d :: a) (.ownD t es :: b) = .ownD t es :: thaw a b := rfl
@[simp] theorem thaw_no (es : D) (t : Bool) (a b : En) : thaw (.non :: a) (.ownD t es :: b) = .ownD t es :: thaw a b := rfl
@[simp] theorem thaw_tt (ds es : D) (t : Bool) (a b : En) : thaw (.ownD true ds :: a) (.ownD t es :: b) = .ownD t es :: thaw a b := rfl
@[simp] theorem freeze_nil : freeze [] = [] := rfl
@[simp] theorem freeze_val (d : D) (a : En) : freeze (.val d :: a) = .val d :: freeze a := rfl
@[simp] theorem freeze_non (a : En) : freeze (.non :: a) = .non :: freeze a := rfl
@[simp] theorem freeze_of (ds : D) (a : En) : freeze (.ownD false ds :: a) = .ownD false ds :: freeze a := rfl
@[simp] theorem freeze_ot (ds : D) (a : En) : freeze (.ownD true ds :: a) = .val ds :: freeze a := rfl
/-! ### lists in slots -/
theorem backE_wipe (ρ : En) : ∀ vs : List Nat, backE ρ vs (wipeE ρ vs) = ρ := by
  have key : ∀ (vs : List Nat) (τ : En), τ.length = ρ.length → (∀ i, i ∉ vs → τ[i]? = ρ[i]?) → backE ρ vs τ = ρ := by
    intro vs
    induction vs with
    | nil =>
      intro τ hl h
      exact List.ext_getElem? fun i => h i (by simp)
    | cons v vs ih =>
      intro τ hl h
      show backE ρ vs (τ.set v (ρ.getD v .non)) = ρ
      refine ih _ (by rw [List.length_set]; exact hl) fun i hi => ?_
      by_cases e : v = i
      · subst e
        by_cases hv : v < τ.length
        · rw [List.getElem?_set_self hv, List.getD_eq_getElem?_getD, List.getElem?_eq_getElem (by omega)]
          rfl
        · rw [List.getElem?_eq_none (by rw [List.length_set]; omega), List.getElem?_eq_none (by omega)]
      · rw [List.getElem?_set_ne e]
        exact h i (by simp only [List.mem_cons, not_or]; exact ⟨fun z => e z.symm, hi⟩)
  intro vs
  exact key vs _ (wipeE_length ρ vs) fun i hi => wipeE_out hi
/-- a comprehension whose turns leave all but its own slots: what comes, turn by turn -/
theorem turns_rel {own : List Nat} {tg : D → En → Option En} {cond : EvB S} {elt : Ev S} {B : En} (Inv : S → Prop) (R : D → Option D → Prop) :
    ∀ (items : List D), (∀ d ∈ items, ∀ s, Inv s → ∃ ρ1, tg d B = some ρ1 ∧ ((∃ ρ2 s2, cond ρ1 s = some (false, ρ2, s2) ∧ wipeE ρ2 own = B ∧ Inv s2 ∧ R d none) ∨
      ∃ ρ2 s2 y ρ3 s3, cond ρ1 s = some (true, ρ2, s2) ∧ elt ρ2 s2 = some (y, ρ3, s3) ∧ wipeE (if noL y then ρ3 else freeze ρ3) own = B ∧ Inv s3 ∧ R d (some y))) →
    ∀ (acc : List D) (ρ : En) (s : S), wipeE ρ own = B → Inv s → acc.length + items.length ≤ sizeLine → ∃ ys ρ' s', turns own tg cond elt items acc ρ s = some (acc ++ ys.filterMap id, ρ', s') ∧ wipeE ρ' own = B ∧ Inv s' ∧ PySem.Paired R items ys
  | [], _, acc, ρ, s, hB, hI, _ => ⟨[], ρ, s, by simp [turns], hB, hI, .nil⟩
  | d :: ds, h, acc, ρ, s, hB, hI, hz => by
    obtain ⟨ρ1, h1, h2⟩ := h d List.mem_cons_self s hI
    have hz' : acc.length + (ds.length + 1) ≤ sizeLine := hz
    unfold turns
    rw [hB, h1]
    rcases h2 with ⟨ρ2, s2, h3, h4, h5, h6⟩ | ⟨ρ2, s2, y, ρ3, s3, h3, h4, h5, h6, h7⟩
    · simp only [h3]
      obtain ⟨ys, ρ', s', e1, e2, e3, e4⟩ := turns_rel Inv R ds (fun x hx => h x (List.mem_cons_of_mem _ hx)) acc ρ2 s2 h4 h5 (by omega)
      exact ⟨none :: ys, ρ', s', by rw [e1]; simp, e2, e3, .cons h6 e4⟩
    · simp only [h3, h4]
      rw [if_pos (by omega)]
      obtain ⟨ys, ρ', s', e1, e2, e3, e4⟩ := turns_rel Inv R ds (fun x hx => h x (List.mem_cons_of_mem _ hx)) (acc ++ [y]) _ s3 h5 h6 (by rw [List.length_append]; simp; omega)
      exact ⟨some y :: ys, ρ', s', by rw [e1]; simp, e2, e3, .cons h7 e4⟩
theorem comp_rel {own : List Nat} {it : EvL S} {tg : D → En → Option En} {cond : EvB S} {elt : Ev S} {ρ ρ1 : En} {s s1 : S} {items : List D} (Inv : S → Prop) (R : D → Option D → Prop) (hi : it ρ s = some (items, ρ1, s1)) (hno : noOwn own ρ1 = true) (hI : Inv s1) (hz : items.length ≤ sizeLine)
    (h : ∀ d ∈ items, ∀ s, Inv s → ∃ ρ2, tg d (wipeE ρ1 own) = some ρ2 ∧ ((∃ ρ3 s2, cond ρ2 s = some (false, ρ3, s2) ∧ wipeE ρ3 own = wipeE ρ1 own ∧ Inv s2 ∧ R d none) ∨
      ∃ ρ3 s2 y ρ4 s3, cond ρ2 s = some (true, ρ3, s2) ∧ elt ρ3 s2 = some (y, ρ4, s3) ∧ wipeE (if noL y then ρ4 else freeze ρ4) own = wipeE ρ1 own ∧ Inv s3 ∧ R d (some y))) :
    ∃ ys s', compF own it tg cond elt ρ s = some (.lst (ys.filterMap id), ρ1, s') ∧ Inv s' ∧ PySem.Paired R items ys := by
  obtain ⟨ys, ρ', s', e1, e2, e3, e4⟩ := turns_rel Inv R items h [] ρ1 s1 rfl hI (by simpa using hz)
  refine ⟨ys, s', ?_, e3, e4⟩
  unfold compF
  rw [hi]
  simp only [hno, if_true]
  rw [e1]
  simp only [List.nil_append]
  rw [e2, backE_wipe]
/-- a comprehension that leaves the state: a test and an item, by functions -/
theorem comp_fn {own : List Nat} {it : EvL S} {tg : D → En → Option En} {cond : EvB S} {elt : Ev S} {ρ ρ1 : En} {s s1 : S} {items : List D} (p : D → Bool) (f : D → D) (hi : it ρ s = some (items, ρ1, s1)) (hno : noOwn own ρ1 = true) (hz : items.length ≤ sizeLine)
    (h : ∀ d ∈ items, ∃ ρ2 ρ3, tg d (wipeE ρ1 own) = some ρ2 ∧ cond ρ2 s1 = some (p d, ρ3, s1) ∧ (p d = false → wipeE ρ3 own = wipeE ρ1 own) ∧ (p d = true → ∃ ρ4, elt ρ3 s1 = some (f d, ρ4, s1) ∧ wipeE (if noL (f d) then ρ4 else freeze ρ4) own = wipeE ρ1 own)) :
    compF own it tg cond elt ρ s = some (.lst ((items.filter p).map f), ρ1, s1) := by
  obtain ⟨ys, s', e1, e2, e3⟩ := comp_rel (S := S) (fun s => s = s1) (fun d o => o = if p d then some (f d) else none) hi hno rfl hz (fun d hd s hs => by
    subst hs
    obtain ⟨ρ2, ρ3, h1, h2, h3, h4⟩ := h d hd
    refine ⟨ρ2, h1, ?_⟩
    cases z : p d with
    | false => rw [z] at h2; exact .inl ⟨ρ3, _, h2, h3 z, rfl, by simp⟩
    | true =>
      rw [z] at h2
      obtain ⟨ρ4, h5, h6⟩ := h4 z
      exact .inr ⟨ρ3, _, f d, ρ4, _, h2, h5, h6, rfl, by simp⟩)
  subst e2
  rw [e1]
  have : ∀ {is : List D} {ys : List (Option D)}, PySem.Paired (fun d o => o = if p d then some (f d) else none) is ys → ys.filterMap id = (is.filter p).map f := by
    intro is ys q
    induction q with
    | nil => rfl
    | @cons d o is ys h1 h2 ih =>
      subst h1
      cases z : p d with
      | true => simp [z, ih]
      | false => simp [z, ih]
  rw [this e3]
/-- a comprehension over what is c x, x in xs -/
theorem turns_map {α : Type} {own : List Nat} {tg : D → En → Option En} {cond : EvB S} {elt : Ev S} {B : En} {s : S} (c : α → D) (p : α → Bool) (f : α → D) :
    ∀ (xs : List α), (∀ x ∈ xs, ∃ ρ2 ρ3, tg (c x) B = some ρ2 ∧ cond ρ2 s = some (p x, ρ3, s) ∧ (p x = false → wipeE ρ3 own = B) ∧ (p x = true → ∃ ρ4, elt ρ3 s = some (f x, ρ4, s) ∧ wipeE (if noL (f x) then ρ4 else freeze ρ4) own = B)) →
    ∀ (acc : List D) (ρ : En), wipeE ρ own = B → acc.length + xs.length ≤ sizeLine → ∃ ρ', turns own tg cond elt (xs.map c) acc ρ s = some (acc ++ (xs.filter p).map f, ρ', s) ∧ wipeE ρ' own = B
  | [], _, acc, ρ, hB, _ => ⟨ρ, by simp [turns], hB⟩
  | x :: xs, h, acc, ρ, hB, hz => by
    obtain ⟨ρ2, ρ3, h1, h2, h3, h4⟩ := h x List.mem_cons_self
    have hz' : acc.length + (xs.length + 1) ≤ sizeLine := hz
    rw [List.map_cons]
    unfold turns
    rw [hB, h1]
    simp only [h2]
    cases z : p x with
    | false =>
      simp only
      obtain ⟨ρ', e1, e2⟩ := turns_map c p f xs (fun y hy => h y (List.mem_cons_of_mem _ hy)) acc ρ3 (h3 z) (by omega)
      exact ⟨ρ', by rw [e1]; simp [z], e2⟩
    | true =>
      obtain ⟨ρ4, h5, h6⟩ := h4 z
      simp only [h5]
      rw [if_pos (by omega)]
      obtain ⟨ρ', e1, e2⟩ := turns_map c p f xs (fun y hy => h y (List.mem_cons_of_mem _ hy)) (acc ++ [f x]) _ h6 (by rw [List.length_append]; simp; omega)
      exact ⟨ρ', by rw [e1]; simp [z], e2⟩
theorem comp_map {α : Type} {own : List Nat} {it : EvL S} {tg : D → En → Option En} {cond : EvB S} {elt : Ev S} {ρ ρ1 : En} {s s1 : S} (xs : List α) (c : α → D) (p : α → Bool) (f : α → D) (hi : it ρ s = some (xs.map c, ρ1, s1)) (hno : noOwn own ρ1 = true) (hz : xs.length ≤ sizeLine)
    (h : ∀ x ∈ xs, ∃ ρ2 ρ3, tg (c x) (wipeE ρ1 own) = some ρ2 ∧ cond ρ2 s1 = some (p x, ρ3, s1) ∧ (p x = false → wipeE ρ3 own = wipeE ρ1 own) ∧ (p x = true → ∃ ρ4, elt ρ3 s1 = some (f x, ρ4, s1) ∧ wipeE (if noL (f x) then ρ4 else freeze ρ4) own = wipeE ρ1 own)) :
    compF own it tg cond elt ρ s = some (.lst ((xs.filter p).map f), ρ1, s1) := by
  obtain ⟨ρ', e1, e2⟩ := turns_map c p f xs h [] ρ1 rfl (by simpa using hz)
  unfold compF
  rw [hi]
  simp only [hno, if_true]
  rw [e1]
  simp only [List.nil_append]
  rw [e2, backE_wipe]
/-! ### == and in of ints, of tuples of ints -/
@[simp] theorem eqB_int (i j : Int) : eqB (.int i) (.int j) = decide (i = j) := by
  simp only [eqB, toP, PyData.eqv]
  by_cases h : i = j
  · simp [h]
  · simp [h]
theorem eqv_ints : ∀ a b : List Int, PyData.eqvAll (toPs (a.map .int)) (toPs (b.map .int)) = decide (a = b)
  | [], [] => by simp [toPs, PyData.eqvAll]
  | [], _ :: _ => by simp [toPs, PyData.eqvAll]
  | _ :: _, [] => by simp [toPs, PyData.eqvAll]
  | x :: a, y :: b => by
    simp only [List.map_cons, toPs, PyData.eqvAll, eqv_ints a b, toP, PyData.eqv]
    by_cases h : x = y
    · simp [h]
    · simp [h]
@[simp] theorem eqB_tupI (a b : List Int) : eqB (tupI a) (tupI b) = decide (a = b) := by
  simp only [eqB, tupI, toP, PyData.eqv, eqv_ints]
@[simp] theorem inB_ints (i : Int) (ns : List Int) : inB (.int i) (ns.map .int) = decide (i ∈ ns) := by
  unfold inB
  rw [List.any_map]
  induction ns with
  | nil => simp
  | cons n ns ih =>
    simp only [List.any_cons, ih, Function.comp, eqB_int, List.mem_cons]
    by_cases h : n = i
    · simp [h]
    · simp [h, Ne.symm h]
@[simp] theorem inB_tups (k : List Int) (ks : List (List Int)) : inB (tupI k) (ks.map tupI) = decide (k ∈ ks) := by
  unfold inB
  rw [List.any_map]
  induction ks with
  | nil => simp
  | cons n ks ih =>
    simp only [List.any_cons, ih, Function.comp, eqB_tupI, List.mem_cons]
    by_cases h : n = k
    · simp [h]
    · simp [h, Ne.symm h]
@[simp] theorem okDs_ints (n : Nat) : ∀ ns : List Int, okDs n (ns.map .int) = true
  | [] => by simp [okDs]
  | x :: ns => by cases n <;> simp [okDs, okD, okDs_ints _ ns]
@[simp] theorem okD_tupI (n : Nat) (ns : List Int) : okD (n + 1) (tupI ns) = true := by simp [tupI, okD]
@[simp] theorem okDs_tups (n : Nat) : ∀ ks : List (List Int), okDs (n + 1) (ks.map tupI) = true
  | [] => by simp [okDs]
  | x :: ks => by simp [okDs, okDs_tups n ks]
@[simp] theorem noLs_ints : ∀ ns : List Int, noLs (ns.map .int) = true
  | [] => rfl
  | _ :: ns => by simp [noLs, noL, noLs_ints ns]
@[simp] theorem noL_tupI (ns : List Int) : noL (tupI ns) = true := by simp [tupI, noL]
@[simp] theorem noLs_tups : ∀ ks : List (List Int), noLs (ks.map tupI) = true
  | [] => rfl
  | _ :: ks => by simp [noLs, noLs_tups ks]
@[simp] theorem noL_int (i : Int) : noL (.int i) = true := rfl
@[simp] theorem noL_bl (i : Bool) : noL (.bl i) = true := rfl
@[simp] theorem noL_non : noL .non = true := rfl
@[simp] theorem noL_deck : noL .deck = true := rfl
@[simp] theorem noL_str (x : Str) : noL (.str x) = true := rfl
@[simp] theorem noL_lst (x : List D) : noL (.lst x) = false := rfl
@[simp] theorem noL_tup (x : List D) : noL (.tup x) = noLs x := rfl
@[simp] theorem noLs_nil : noLs [] = true := rfl
@[simp] theorem noLs_cons (d : D) (ds : List D) : noLs (d :: ds) = (noL d && noLs ds) := rfl
@[simp] theorem okDs_nil (n : Nat) : okDs n [] = true := by cases n <;> simp [okDs]
@[simp] theorem okDs_cons (n : Nat) (d : D) (ds : List D) : okDs n (d :: ds) = (okD n d && okDs n ds) := by cases n <;> simp [okDs]
@[simp] theorem okD_int (n : Nat) (i : Int) : okD n (.int i) = true := by cases n <;> simp [okD]
@[simp] theorem okD_bl (n : Nat) (i : Bool) : okD n (.bl i) = true := by cases n <;> simp [okD]
@[simp] theorem okD_non (n : Nat) : okD n .non = true := by cases n <;> simp [okD]
@[simp] theorem okD_tup (n : Nat) (ds : List D) : okD (n + 1) (.tup ds) = okDs n ds := by simp [okD]
@[simp] theorem okD_lst (n : Nat) (ds : List D) : okD (n + 1) (.lst ds) = okDs n ds := by simp [okD]
/-- a loop that goes by a function -/
theorem loop_fold {α β : Type} {tg : D → En → Option En} {b : Ss S} {s : S} (c : α → D) (E : β → En → Prop) (f : β → α → β) : ∀ (xs : List α) (z : β) (ρ : En), E z ρ →
    (∀ x ∈ xs, ∀ z ρ, E z ρ → ∃ ρ1 ρ2, tg (c x) ρ = some ρ1 ∧ b ρ1 s = some (.nx, ρ2, s) ∧ E (f z x) ρ2) → ∃ ρ', loopF tg b (xs.map c) ρ s = some (.nx, ρ', s) ∧ E (xs.foldl f z) ρ'
  | [], z, ρ, h, _ => ⟨ρ, rfl, h⟩
  | x :: xs, z, ρ, h, hs => by
    obtain ⟨ρ1, ρ2, h1, h2, h3⟩ := hs x List.mem_cons_self z ρ h
    obtain ⟨ρ', h4, h5⟩ := loop_fold c E f xs (f z x) ρ2 h3 fun y hy => hs y (List.mem_cons_of_mem _ hy)
    refine ⟨ρ', ?_, h5⟩
    rw [List.map_cons]
    unfold loopF
    simp only [h1, h2]
    exact h4
/-- a loop that keeps what is so -/
theorem loop_keep {tg : D → En → Option En} {b : Ss S} (I : List D → En → S → Prop) : ∀ (ds : List D) (ρ : En) (s : S), I ds ρ s →
    (∀ d ds ρ s, I (d :: ds) ρ s → ∃ ρ1 ρ2 s2, tg d ρ = some ρ1 ∧ b ρ1 s = some (.nx, ρ2, s2) ∧ I ds ρ2 s2) → ∃ ρ' s', loopF tg b ds ρ s = some (.nx, ρ', s') ∧ I [] ρ' s'
  | [], ρ, s, h, _ => ⟨ρ, s, rfl, h⟩
  | d :: ds, ρ, s, h, hs => by
    obtain ⟨ρ1, ρ2, s2, h1, h2, h3⟩ := hs d ds ρ s h
    obtain ⟨ρ', s', h4, h5⟩ := loop_keep I ds ρ2 s2 h3 hs
    refine ⟨ρ', s', ?_, h5⟩
    unfold loopF
    simp only [h1, h2]
    exact h4
/-! ### one step each -/
variable {ρ : En} {s : S}
@[simp] theorem d_defN (n N : Nat) (b : Ss S) (ds : List D) : defN n N b ds s = if ds.length = n then defF N b ds s else none := rfl
@[simp] theorem d_defF (N : Nat) (b : Ss S) (ds : List D) : defF N b ds s = (match b (startE N ds) s with | some (.rt d, _, s') => some (d, s') | some (.nx, _, s') => some (.non, s') | _ => none) := rfl
@[simp] theorem d_startE (N : Nat) (ds : List D) : startE N ds = ds.map .val ++ List.replicate (N - ds.length) .non := rfl
@[simp] theorem d_skipF : skipF ρ s = some (.nx, ρ, s) := rfl
@[simp] theorem d_nevF : nevF ρ s = none := rfl
@[simp] theorem d_seqF (g h : Ss S) : seqF g h ρ s = (match g ρ s with | some (.nx, ρ', s') => h ρ' s' | r => r) := rfl
@[simp] theorem d_retF (f : Ev S) : retF f ρ s = (match f ρ s with | some (d, ρ', s') => some (.rt d, ρ', s') | none => none) := rfl
@[simp] theorem d_retNF : retNF ρ s = some (.rt .non, ρ, s) := rfl
@[simp] theorem d_exprF (f : Ev S) : exprF f ρ s = (match f ρ s with | some (_, ρ', s') => some (.nx, thaw ρ ρ', s') | none => none) := rfl
@[simp] theorem d_ifF (c : EvB S) (g h : Ss S) : ifF c g h ρ s = (match c ρ s with | some (true, ρ', s') => g ρ' s' | some (false, ρ', s') => h ρ' s' | none => none) := rfl
@[simp] theorem noLb_lst (ds : List D) : noLb (.lst ds) = noLs ds := rfl
@[simp] theorem noLb_dic (ds : List (Key × D)) : noLb (.dic ds) = ds.all fun kv => noL kv.2 := rfl
@[simp] theorem noLb_dit (ks : List (List Key)) (ds : List D) : noLb (.dit ks ds) = noLs ds := rfl
@[simp] theorem noLb_tup (ds : List D) : noLb (.tup ds) = false := rfl
@[simp] theorem noLb_int (i : Int) : noLb (.int i) = false := rfl
@[simp] theorem noLb_bl (b : Bool) : noLb (.bl b) = false := rfl
@[simp] theorem noLb_non : noLb .non = false := rfl
@[simp] theorem noLb_str (x : Str) : noLb (.str x) = false := rfl
@[simp] theorem d_setFt (i : Nat) (f : Ev S) : setF true i f ρ s = (match f ρ s with
  | some (d, ρ', s') => if noLb d = true then (if i < ρ'.length then some (.nx, (thaw ρ ρ').set i (.ownD false d), s') else none)
    else ((putV i d (if noL d then thaw ρ ρ' else ρ')).map (fun ρ2 => (.nx, ρ2, s')))
  | none => none) := rfl
@[simp] theorem d_setFf (i : Nat) (f : Ev S) : setF false i f ρ s = (match f ρ s with
  | some (d, ρ', s') => ((putV i d (if noL d then thaw ρ ρ' else ρ')).map (fun ρ2 => (.nx, ρ2, s')))
  | none => none) := rfl
@[simp] theorem d_asgF (f : Ev S) (g : D → En → Option En) : asgF f g ρ s = (match f ρ s with
  | some (d, ρ', s') => match g d (if noL d then thaw ρ ρ' else ρ') with
    | some ρ2 => some (.nx, ρ2, s')
    | none => none
  | none => none) := rfl
@[simp] theorem d_putV (i : Nat) (d : D) : putV i d ρ = if i < ρ.length then some ((if noL d then ρ else freeze ρ).set i (.val d)) else none := rfl
@[simp] theorem d_nilG : nilG [] ρ = some ρ := rfl
@[simp] theorem d_consG (f : D → En → Option En) (g : List D → En → Option En) (d : D) (ds : List D) : consG f g (d :: ds) ρ = (f d ρ).bind fun ρ' => g ds ρ' := rfl
@[simp] theorem d_tupG (n : Nat) (g : List D → En → Option En) (ds : List D) : tupG n g (.tup ds) ρ = if ds.length = n then g ds ρ else none := rfl
@[simp] theorem d_varF (i : Nat) : varF i ρ s = (match ρ[i]? with | some (.val d) => some (d, ρ, s) | some (.ownD _ ds) => some (ds, ρ.set i (.ownD true ds), s) | _ => none) := rfl
@[simp] theorem d_cstF (d : D) : cstF d ρ s = some (d, ρ, s) := rfl
@[simp] theorem d_thawF (f : Ev S) : thawF f ρ s = (f ρ s).map fun (d, ρ', s') => (d, if noL d then thaw ρ ρ' else ρ', s') := rfl
@[simp] theorem d_binF (o : D → D → Option D) (f g : Ev S) : binF o f g ρ s = (match f ρ s with | some (x, ρ1, s1) => (match g ρ1 s1 with | some (y, ρ2, s2) => (match o x y with | some d => some (d, ρ2, s2) | none => none) | none => none) | none => none) := by
  unfold binF
  cases f ρ s with
  | none => rfl
  | some z =>
    obtain ⟨x, ρ1, s1⟩ := z
    simp only [Option.bind_eq_bind, Option.bind_some]
    cases g ρ1 s1 with
    | none => rfl
    | some z =>
      obtain ⟨y, ρ2, s2⟩ := z
      simp only [Option.bind_some]
      cases o x y <;> rfl
@[simp] theorem d_chainF (o o' : D → D → Option D) (f g h : Ev S) : chainF o o' f g h ρ s = (match f ρ s with | some (x, ρ1, s1) => (match g ρ1 s1 with | some (y, ρ2, s2) => (match o x y with | some (.bl true) => (match h ρ2 s2 with | some (z, ρ3, s3) => (match o' y z with | some d => some (d, ρ3, s3) | none => none) | none => none) | some (.bl false) => some (.bl false, ρ2, s2) | _ => none) | none => none) | none => none) := by
  unfold chainF
  cases f ρ s with
  | none => rfl
  | some z =>
    obtain ⟨x, ρ1, s1⟩ := z
    simp only [Option.bind_eq_bind, Option.bind_some]
    cases g ρ1 s1 with
    | none => rfl
    | some z =>
      obtain ⟨y, ρ2, s2⟩ := z
      simp only [Option.bind_some]
      cases o x y with
      | none => rfl
      | some d =>
        cases d with
        | bl b =>
          cases b with
          | false => rfl
          | true =>
            simp only
            cases h ρ2 s2 with
            | none => rfl
            | some z =>
              obtain ⟨w, ρ3, s3⟩ := z
              simp only [Option.bind_some]
              cases o' y w <;> rfl
        | _ => rfl
@[simp] theorem d_andF (f g : Ev S) : andF f g ρ s = (match f ρ s with | some (.bl true, ρ', s') => g ρ' s' | some (.bl false, ρ', s') => some (.bl false, ρ', s') | _ => none) := rfl
@[simp] theorem d_orF (f g : Ev S) : orF f g ρ s = (match f ρ s with | some (.bl false, ρ', s') => g ρ' s' | some (.bl true, ρ', s') => some (.bl true, ρ', s') | _ => none) := rfl
@[simp] theorem d_notF (f : Ev S) : notF f ρ s = (match f ρ s with | some (.bl k, ρ', s') => some (.bl (!k), ρ', s') | _ => none) := rfl
@[simp] theorem d_negF (f : Ev S) : negF f ρ s = (match f ρ s with | some (.int k, ρ', s') => some (.int (-k), ρ', s') | _ => none) := rfl
@[simp] theorem d_iteF (c : EvB S) (f g : Ev S) : iteF' c f g ρ s = (match c ρ s with | some (true, ρ', s') => f ρ' s' | some (false, ρ', s') => g ρ' s' | none => none) := rfl
@[simp] theorem d_truF (f : Ev S) : truF f ρ s = (match f ρ s with | some (d, ρ', s') => (match truD d with | some b => some (b, thaw ρ ρ', s') | none => none) | none => none) := rfl
@[simp] theorem d_andB (f g : EvB S) : andB f g ρ s = (match f ρ s with | some (true, ρ', s') => g ρ' s' | some (false, ρ', s') => some (false, ρ', s') | none => none) := rfl
@[simp] theorem d_orB (f g : EvB S) : orB f g ρ s = (match f ρ s with | some (false, ρ', s') => g ρ' s' | some (true, ρ', s') => some (true, ρ', s') | none => none) := rfl
@[simp] theorem d_notB (f : EvB S) : notB f ρ s = (match f ρ s with | some (k, ρ', s') => some (!k, ρ', s') | none => none) := rfl
@[simp] theorem d_yesB : yesB ρ s = some (true, ρ, s) := rfl
@[simp] theorem d_nilL : nilL ρ s = some ([], ρ, s) := rfl
@[simp] theorem d_consL (f : Ev S) (g : EvL S) : consL f g ρ s = (match f ρ s with | some (x, ρ1, s1) => (match g ρ1 s1 with | some (xs, ρ2, s2) => some (x :: xs, ρ2, s2) | none => none) | none => none) := by
  unfold consL
  cases f ρ s with
  | none => rfl
  | some z =>
    obtain ⟨x, ρ1, s1⟩ := z
    simp only [Option.bind_eq_bind, Option.bind_some]
    cases g ρ1 s1 <;> rfl
@[simp] theorem d_mapF (o : List D → Option D) (g : EvL S) : mapF o g ρ s = (match g ρ s with | some (xs, ρ1, s1) => (match o xs with | some d => some (d, ρ1, s1) | none => none) | none => none) := by
  unfold mapF
  cases g ρ s with
  | none => rfl
  | some z =>
    obtain ⟨x, ρ1, s1⟩ := z
    simp only [Option.bind_eq_bind, Option.bind_some]
    cases o x <;> rfl
@[simp] theorem d_callF (G : List D → S → Option (D × S)) (g : EvL S) : callF G g ρ s = (match g ρ s with | some (xs, ρ', s') => (match G xs s' with | some (d, s2) => some (d, ρ', s2) | none => none) | none => none) := rfl
@[simp] theorem d_catS (nu nw : Nat) (ix : List Nat) (g h : EvL S) : catS nu nw ix g h ρ s = (match g ρ s with | some (xs, ρ1, s1) => (match h ρ1 s1 with | some (ys, ρ2, s2) => if xs.length = nu ∧ ys.length = nw then some (sel ix (xs ++ ys), ρ2, s2) else none | none => none) | none => none) := rfl
@[simp] theorem d_sel_nil {α : Type} (xs : List α) : sel [] xs = [] := rfl
@[simp] theorem d_sel_cons {α : Type} (i : Nat) (ix : List Nat) (xs : List α) : sel (i :: ix) xs = (match xs[i]? with | some x => x :: sel ix xs | none => sel ix xs) := rfl
@[simp] theorem d_itemsF (f : Ev S) : itemsF f ρ s = (match f ρ s with | some (.lst ds, ρ', s') => some (ds, ρ', s') | some (.tup ds, ρ', s') => some (ds, ρ', s') | _ => none) := rfl
@[simp] theorem d_rangeL (g : EvL S) : rangeL g ρ s = (match g ρ s with | some (ds, ρ', s') => (match rangeD ds with | some xs => some (xs, ρ', s') | none => none) | none => none) := rfl
@[simp] theorem d_enumL (g : EvL S) : enumL g ρ s = (match g ρ s with | some ([d], ρ', s') => (match seqD d with | some ds => some (enumD 0 ds, ρ', s') | none => none) | _ => none) := rfl
@[simp] theorem d_zipL (g : EvL S) : zipL g ρ s = (match g ρ s with | some ([.lst ds, .lst es], ρ', s') => some (zipD ds es, ρ', s') | some ([.tup ds, .tup es], ρ', s') => some (zipD ds es, ρ', s') | _ => none) := rfl
@[simp] theorem d_noO : noO ρ s = some (none, ρ, s) := rfl
@[simp] theorem d_someO (f : Ev S) : someO f ρ s = (match f ρ s with | some (.int i, ρ', s') => some (some i, ρ', s') | _ => none) := rfl
@[simp] theorem d_sliceF (f : Ev S) (lo hi : EvO S) : sliceF f lo hi ρ s = (match f ρ s with | some (x, ρ1, s1) => (match lo ρ1 s1 with | some (l, ρ2, s2) => (match hi ρ2 s2 with | some (u, ρ3, s3) => (match sliceD x l u with | some d => some (d, ρ3, s3) | none => none) | none => none) | none => none) | none => none) := rfl
@[simp] theorem d_forF (tg : D → En → Option En) (it : EvL S) (b : Ss S) : forF tg it b ρ s = (match it ρ s with | some (items, ρ1, s1) => loopF tg b items (freeze ρ1) s1 | none => none) := rfl
@[simp] theorem d_nilI : nilI ρ s = some ([], ρ, s) := rfl
@[simp] theorem d_consIt (f : Ev S) (g : EvI S) : consI true f g ρ s = (match f ρ s with
  | some (d, ρ1, s1) => if noLb d = true then match g (thaw ρ ρ1) s1 with
          | some (its, ρ2, s2) => some ((true, d) :: its, ρ2, s2)
          | none => none
    else match g (if noL d then thaw ρ ρ1 else ρ1) s1 with
      | some (its, ρ2, s2) => some ((false, d) :: its, ρ2, s2)
      | none => none
  | none => none) := rfl
@[simp] theorem d_consIf (f : Ev S) (g : EvI S) : consI false f g ρ s = (match f ρ s with
  | some (d, ρ1, s1) => match g (if noL d then thaw ρ ρ1 else ρ1) s1 with
      | some (its, ρ2, s2) => some ((false, d) :: its, ρ2, s2)
      | none => none
  | none => none) := rfl
@[simp] theorem d_parF (is : List Nat) (f : EvI S) : parF is f ρ s = (match f ρ s with | some (its, ρ', s') => (putI is its ρ').map fun ρ2 => (.nx, ρ2, s') | none => none) := rfl
@[simp] theorem d_putI0 : putI [] [] ρ = some ρ := rfl
@[simp] theorem d_putIt (i : Nat) (is : List Nat) (d : D) (its : List (Bool × D)) : putI (i :: is) ((true, d) :: its) ρ = if i < ρ.length then putI is its (ρ.set i (.ownD false d)) else none := rfl
@[simp] theorem d_putIf (i : Nat) (is : List Nat) (d : D) (its : List (Bool × D)) : putI (i :: is) ((false, d) :: its) ρ = (putV i d ρ).bind (putI is its) := rfl
@[simp] theorem d_appendF (i : Nat) (g : EvL S) : appendF i g ρ s = (match ρ[i]? with
  | some (.ownD _ (.lst _)) => match g ρ s with
    | some ([y], ρ1, s1) => match ρ1[i]? with
      | some (.ownD false (.lst ds)) => if ds.length < sizeLine then some (.non, (if noL y then ρ1 else freeze ρ1).set i (.own false (ds ++ [y])), s1) else none
      | _ => none
    | _ => none
  | _ => none) := rfl
@[simp] theorem d_popAtF (i : Nat) (g : EvL S) : popAtF i g ρ s = (match ρ[i]? with
  | some (.ownD _ (.lst _)) => match g ρ s with
    | some ([.int j], ρ1, s1) => match ρ1[i]? with
      | some (.ownD false (.lst ds)) => if 0 ≤ j ∧ j < 2 ^ 63 then match ds[j.toNat]? with
          | some y => some (y, ρ1.set i (.own false (ds.eraseIdx j.toNat)), s1)
          | none => none
        else none
      | _ => none
    | _ => none
  | _ => none) := rfl
@[simp] theorem d_popF (i : Nat) : popF i ρ s = (match ρ[i]? with
  | some (.ownD false (.lst ds)) => match ds[ds.length - 1]? with
    | some y => some (y, ρ.set i (.own false ds.dropLast), s)
    | none => none
  | _ => none) := rfl
@[simp] theorem d_setAtF (i : Nat) (f g : Ev S) : setAtF i f g ρ s = (match f ρ s with
  | some (d, ρ1, s1) => match ρ1[i]? with
    | some (.ownD _ (.lst _)) => match g (if noL d then thaw ρ ρ1 else ρ1) s1 with
      | some (.int k, ρ2, s2) => match ρ2[i]? with
        | some (.ownD false (.lst ds)) => match ixN ds.length k with
          | some j => some (.nx, (if noL d then ρ2 else freeze ρ2).set i (.own false (ds.set j d)), s2)
          | none => none
        | _ => none
      | _ => none
    | _ => none
  | none => none) := rfl
@[simp] theorem d_wipe0 : wipeE ρ [] = ρ := rfl
@[simp] theorem d_wipe1 (v : Nat) (vs : List Nat) : wipeE ρ (v :: vs) = (wipeE ρ vs).set v .non := rfl
@[simp] theorem d_noOwn (own : List Nat) : noOwn own ρ = own.all fun i => (match ρ[i]? with | some (.ownD _ _) => false | _ => true) := rfl
end
@[simp] theorem o_add (i j : Int) : addD (.int i) (.int j) = some (.int (i + j)) := rfl
@[simp] theorem o_sub (i j : Int) : subD (.int i) (.int j) = some (.int (i - j)) := rfl
@[simp] theorem o_lt (i j : Int) : ltD (.int i) (.int j) = some (.bl (decide (i < j))) := rfl
@[simp] theorem o_le (i j : Int) : leD (.int i) (.int j) = some (.bl (decide (i ≤ j))) := rfl
@[simp] theorem o_gt (i j : Int) : gtD (.int i) (.int j) = some (.bl (decide (j < i))) := rfl
@[simp] theorem o_ge (i j : Int) : geD (.int i) (.int j) = some (.bl (decide (j ≤ i))) := rfl
@[simp] theorem o_mod (i j : Int) : modD (.int i) (.int j) = if 0 < j then some (.int (i % j)) else none := rfl
@[simp] theorem o_div (i j : Int) : divD (.int i) (.int j) = if 0 < j ∧ j < 1073741824 then some (.int (i / j)) else none := rfl
@[simp] theorem o_mul (i j : Int) : mulD (.int i) (.int j) = if CMul i j then some (.int (i * j)) else none := rfl
@[simp] theorem o_pow (i j : Int) : powD (.int i) (.int j) = if CPow i j then some (.int (i ^ j.toNat)) else none := rfl
@[simp] theorem o_addT (a b : List D) : addD (.tup a) (.tup b) = if a.length + b.length ≤ sizeLine then some (.tup (a ++ b)) else none := rfl
@[simp] theorem o_addL (a b : List D) : addD (.lst a) (.lst b) = if a.length + b.length ≤ sizeLine then some (.lst (a ++ b)) else none := rfl
@[simp] theorem o_eq (x y : D) : eqD x y = if (okD 60 x && okD 60 y) || strs2 x y then some (.bl (eqB x y)) else none := rfl
@[simp] theorem o_ne (x y : D) : neD x y = if (okD 60 x && okD 60 y) || strs2 x y then some (.bl (!eqB x y)) else none := rfl
@[simp] theorem strs2_s (a b : Str) : strs2 (.str a) (.str b) = true := rfl
@[simp] theorem eqB_str (a b : Str) : eqB (.str a) (.str b) = (a == b) := by simp [eqB, toP, PyData.eqv]
@[simp] theorem o_inL (x : D) (ys : List D) : inD x (.lst ys) = if okD 60 x && okD 60 (.lst ys) then some (.bl (inB x ys)) else none := rfl
@[simp] theorem o_inT (x : D) (ys : List D) : inD x (.tup ys) = if okD 60 x && okD 60 (.tup ys) then some (.bl (inB x ys)) else none := rfl
@[simp] theorem o_ninL (x : D) (ys : List D) : ninD x (.lst ys) = if okD 60 x && okD 60 (.lst ys) then some (.bl (!inB x ys)) else none := rfl
@[simp] theorem o_ninT (x : D) (ys : List D) : ninD x (.tup ys) = if okD 60 x && okD 60 (.tup ys) then some (.bl (!inB x ys)) else none := rfl
@[simp] theorem o_ixL (xs : List D) (i : Int) : ixD (.lst xs) (.int i) = atI xs i := rfl
@[simp] theorem o_ixT (xs : List D) (i : Int) : ixD (.tup xs) (.int i) = atI xs i := rfl
@[simp] theorem o_slL (xs : List D) (lo hi : Option Int) : sliceD (.lst xs) lo hi = some (.lst (cutD xs lo hi)) := rfl
@[simp] theorem o_slT (xs : List D) (lo hi : Option Int) : sliceD (.tup xs) lo hi = some (.tup (cutD xs lo hi)) := rfl
@[simp] theorem o_truB (b : Bool) : truD (.bl b) = some b := rfl
@[simp] theorem o_truL (xs : List D) : truD (.lst xs) = some (!xs.isEmpty) := rfl
@[simp] theorem o_truT (xs : List D) : truD (.tup xs) = some (!xs.isEmpty) := rfl
@[simp] theorem o_truI (i : Int) : truD (.int i) = some (i != 0) := rfl
@[simp] theorem c_lenL (xs : List D) : lenD [.lst xs] = some (.int xs.length) := rfl
@[simp] theorem c_lenT (xs : List D) : lenD [.tup xs] = some (.int xs.length) := rfl
@[simp] theorem c_tupL (xs : List D) : tupleD [.lst xs] = some (.tup xs) := rfl
@[simp] theorem c_tupT (xs : List D) : tupleD [.tup xs] = some (.tup xs) := rfl
@[simp] theorem c_lisL (xs : List D) : listD [.lst xs] = some (.lst xs) := rfl
@[simp] theorem c_lisT (xs : List D) : listD [.tup xs] = some (.lst xs) := rfl
@[simp] theorem c_dispT (xs : List D) : dispT xs = if xs.length ≤ sizeLine then some (.tup xs) else none := rfl
@[simp] theorem c_dispL (xs : List D) : dispL xs = if xs.length ≤ sizeLine then some (.lst xs) else none := rfl
@[simp] theorem c_int1 (i : Int) : int1D [.int i] = some (.int i) := rfl
@[simp] theorem c_min2 (i j : Int) : minD [.int i, .int j] = some (.int (if j < i then j else i)) := rfl
@[simp] theorem c_max2 (i j : Int) : maxD [.int i, .int j] = some (.int (if j > i then j else i)) := rfl
@[simp] theorem c_all (bs : List Bool) : allD [.lst (bs.map .bl)] = some (.bl (bs.all id)) := by
  unfold allD
  simp only [boolsD_map]
  rfl
@[simp] theorem c_sortI (ns : List Int) : sortD [.lst (ns.map .int)] = some (.lst ((sortI ns).map .int)) := by
  unfold sortD
  simp only [intsD_map]
theorem intsD_tups : ∀ {ks : List (List Int)}, ks ≠ [] → intsD (ks.map tupI) = none
  | [], h => absurd rfl h
  | _ :: _, _ => rfl
@[simp] theorem c_sortT (ks : List (List Int)) : sortD [.lst (ks.map tupI)] = some (.lst ((sortT ks).map tupI)) := by
  cases ks with
  | nil => simp [sortD, intsD, sortI, sortT]
  | cons k ks =>
    unfold sortD
    simp only [intsD_tups (List.cons_ne_nil k ks), tupsD_map]
    rfl
theorem c_setI (ns : List Int) (h : ns.length < 64) : setSortD [.lst (ns.map .int)] = some (.lst ((sortI (once ns)).map .int)) := by
  unfold setSortD
  simp only [List.length_map, h, if_true, intsD_map]
theorem c_setTI (ns : List Int) (h : ns.length < 64) : setSortD [.tup (ns.map .int)] = some (.lst ((sortI (once ns)).map .int)) := by
  unfold setSortD
  simp only [List.length_map, h, if_true, intsD_map]
theorem c_setT (ks : List (List Int)) (h : ks.length < 64) : setSortD [.lst (ks.map tupI)] = some (.lst ((sortT (once ks)).map tupI)) := by
  unfold setSortD
  simp only [List.length_map, h, if_true]
  cases ks with
  | nil => simp [intsD, sortI, sortT, once]
  | cons k ks =>
    simp only [intsD_tups (List.cons_ne_nil k ks), tupsD_map]
    rfl
@[simp] theorem c_isiTT (xs : List D) : isiD [.tup xs, .ty "tuple"] = some (.bl true) := rfl
@[simp] theorem c_isiII (i : Int) : isiD [.int i, .ty "int"] = some (.bl true) := rfl
@[simp] theorem c_isiIB (i : Int) : isiD [.int i, .ty "bool"] = some (.bl false) := rfl
theorem c_range (j : Int) : rangeD [.int j] = if j.natAbs ≤ 1000000 then some (rngD 0 j.toNat) else none := rfl
theorem c_range2 (i j : Int) : rangeD [.int i, .int j] = if i.natAbs ≤ 1000000 ∧ j.natAbs ≤ 1000000 then some (rngD i (j - i).toNat) else none := rfl
@[simp] theorem filter_tt {α : Type} (xs : List α) : xs.filter (fun _ => true) = xs := by simp
theorem range_nat (n : Nat) (h : n ≤ 1000000) : rangeD [.int (n : Int)] = some ((List.range n).map fun i : Nat => .int (0 + (i : Nat))) := by
  rw [c_range, if_pos (by omega)]
  rfl
theorem sizeL : sizeLine = 16777216 := sizeLine_eq
end L3
end
section
set_option Elab.async false
set_option linter.all false
set_option maxRecDepth 100000
set_option autoImplicit false
/-! L3p: more words: is, tuple(range()), reversed slices (own work). -/
namespace L3
open PySem PySem.Spec PyProof.Rows L2
section
variable {X : Cx} {tk : Addr}
def isNonD : D → Bool
  | .non => true
  | _ => false
theorem rep_non {K : PySem.W.Frag} {H : Hp} {av : Addr → Prop} {v : V} {d : D} (r : Rep K tk H av v d) : decide (v = .non) = isNonD d := by
  cases r <;> simp [isNonD]
def isD : D → D → Option D
  | x, .non => some (.bl (isNonD x))
  | .bl a, .bl b => some (.bl (decide (a = b)))
  | _, _ => none
def isnotD : D → D → Option D
  | x, .non => some (.bl (!isNonD x))
  | .bl a, .bl b => some (.bl (!decide (a = b)))
  | _, _ => none
theorem ov_is : OpV X tk (compareOp .Is) isD := by
  refine ⟨_, op_isN.or op_is_bl, fun H av x y dx dy d Q hav rx ry e q => ?_⟩
  unfold isD at e
  split at e
  · cases e
    cases ry
    exact .inl ⟨rfl, by rw [rep_non rx]; exact q.val (.bl _) fun _ z => by cases z⟩
  · cases e
    cases rx
    cases ry
    exact .inr ⟨_, _, rfl, rfl, q.val (.bl _) fun _ z => by cases z⟩
  · cases e
theorem ov_isnot : OpV X tk (compareOp .IsNot) isnotD := by
  refine ⟨_, op_notN.or op_isnot_bl, fun H av x y dx dy d Q hav rx ry e q => ?_⟩
  unfold isnotD at e
  split at e
  · cases e
    cases ry
    exact .inl ⟨rfl, by rw [rep_non rx]; exact q.val (.bl _) fun _ z => by cases z⟩
  · cases e
    cases rx
    cases ry
    exact .inr ⟨_, _, rfl, rfl, q.val (.bl _) fun _ z => by cases z⟩
  · cases e
theorem isB_is : isB isD := fun x y d e => by
  unfold isD at e
  split at e
  · cases e; exact ⟨_, rfl⟩
  · cases e; exact ⟨_, rfl⟩
  · cases e
theorem isB_isnot : isB isnotD := fun x y d e => by
  unfold isnotD at e
  split at e
  · cases e; exact ⟨_, rfl⟩
  · cases e; exact ⟨_, rfl⟩
  · cases e
end
section
variable {S : Type} {X : Cx} {W : Wd S} {e a b c : Expr} {es : List Expr} {pos p p1 : Pos}
theorem se_tupRg1 {fa : Ev S} {fr : Bool} {p2 q2 : Pos} (hc : X.calm = true) (hg : Gl X "tuple") (hm : X.mg "tuple" = none) (hg2 : Gl X "range") (hm2 : X.mg "range" = none) (ha : PE X a (SE X.K W fr fa)) (na : starEach [a] X.env = (false, eval a X.env) :: starEach [] X.env)
    (nb : starEach [.Call (.Name "range" p2) [a] [] q2] X.env = (false, eval (.Call (.Name "range" p2) [a] [] q2) X.env) :: starEach [] X.env) : PE X (.Call (.Name "tuple" p) [.Call (.Name "range" p2) [a] [] q2] [] pos) (SE X.K W true (mapF (rgD .tup) (consL fa nilL))) :=
  (pe_tupRg hc hg hm (prg_1 hg2 hm2 ha na) nb).imp fun σ H Q q => by
    obtain ⟨H0, O, A, P, ρ, s, d, ρ', s', r, e, q⟩ := q
    obtain ⟨ds, e1, e2⟩ := mapF_some e
    obtain ⟨x, ρ1, s1, xs, e3, e4, rfl⟩ := consL_some e1
    cases e4
    unfold rgD at e2
    split at e2
    · rename_i j hx
      cases hx
      split at e2
      · rename_i ok
        cases e2
        refine ⟨H0, O, A, P, ρ, s, .int j, ρ', s', r, e3, fun v H' ex r' _ => ?_⟩
        have fin := fin_val (fr := true) r'.tail r'.hex (fun a h => r'.pet _ List.mem_cons_self a h) q
        have rl := rgV_rep (K := X.K) (tk := W.tok) (H := H') (av := fun a => avL ⟨X.K, W, H0, O⟩ A σ ρ' a ∧ ¬ ex a) 0 j
        rw [Int.sub_zero] at rl
        exact ⟨j, by cases r'.head; rfl, ok, fun p hp => fin.tup rl hp⟩
      · cases e2
    · rename_i hx; cases hx
    · cases e2
end
end L3
end
section
set_option Elab.async false
set_option linter.all false
set_option maxRecDepth 100000
set_option autoImplicit false
/-! L3z: tuples and lists turned round (own work). -/
namespace L3
open PySem PySem.Spec PyProof.Rows L2 HT
section
variable {prog : Program} {w : World} {A : Around} {E : Value → Shared → Prop} {s : Shared}
theorem turned_parts {sl : Addr} {v : Value} {n : Nat} {Q : Int × Int × Nat → Shared → Prop} (hs : s.heap.IsSliceOf sl .none .none v) (pv : IsPart v (some (-1)))
    (h : Q ((n : Int) - 1, -1, n) s) : wpAny (model prog w) A (Builtin.Slice.sliceApplied (.ref sl) (pure (n : Int))) Q E s := by
  obtain ⟨os, hos, hcs, hds⟩ := id hs
  have ad : Builtin.Slice.sliceAdjust none none (-1) (n : Int) = ((n : Int) - 1, -1) := rfl
  have pl : Builtin.Slice.slicePlaces ((n : Int) - 1) (-1) (-1) = n := by
    unfold Builtin.Slice.slicePlaces
    have h1 : ¬ (-1 : Int) > 0 := by omega
    simp only [h1, if_false, show (- -1 : Int) = 1 by omega, Int.ediv_one]
    split <;> omega
  unfold Builtin.Slice.sliceApplied Builtin.Slice.sliceFields
  refine wpAny_bind (wpAny_bind (wpAny_field hos hds (x := .none) rfl (wpAny_bind (wpAny_field hos hds (x := .none) rfl (wpAny_bind (wpAny_field hos hds (x := v) rfl (wpAny_pure ?_)))))))
  refine wpAny_bind (slicePart_ pv ?_)
  show wpAny _ _ (if ((-1 : Int) == 0) = true then _ else _) _ _ s
  rw [if_neg (by decide)]
  refine wpAny_bind (slicePart_none (wpAny_bind (slicePart_none (wpAny_bind (wpAny_pure ?_)))))
  show wpAny _ _ (match Builtin.Slice.sliceAdjust none none (-1) (n : Int) with | (lo, hi) => pure (lo, (-1 : Int), Builtin.Slice.slicePlaces lo hi (-1))) _ _ s
  rw [ad]
  show wpAny _ _ (pure ((n : Int) - 1, (-1 : Int), Builtin.Slice.slicePlaces ((n : Int) - 1) (-1) (-1))) _ _ s
  rw [pl]
  exact wpAny_pure h
theorem fm_same {α β : Type} {f g : α → Option β} : ∀ {l : List α}, (∀ x ∈ l, f x = g x) → l.filterMap f = l.filterMap g
  | [], _ => rfl
  | x :: l, h => by
    rw [List.filterMap_cons, List.filterMap_cons, h x List.mem_cons_self, fm_same fun y hy => h y (List.mem_cons_of_mem _ hy)]
theorem turned_pick (xs : Array Value) : ((List.range xs.size).filterMap fun (m : Nat) => xs[(((xs.size : Int) - 1) + (m : Int) * (-1)).toNat]?).toArray = xs.toList.reverse.toArray := by
  have e : (List.range xs.size).filterMap (fun (m : Nat) => xs[(((xs.size : Int) - 1) + (m : Int) * (-1)).toNat]?) = ((List.range xs.size).map fun k => xs.size - 1 - k).filterMap (xs[·]?) := by
    rw [List.filterMap_map]
    refine fm_same fun m hm => ?_
    have := List.mem_range.mp hm
    have e2 : (((xs.size : Int) - 1) + (m : Int) * (-1)).toNat = xs.size - 1 - m := by omega
    rw [e2]
    rfl
  rw [e, PySem.W.krv_range, List.filterMap_reverse, PySem.W.krv_all]
theorem tuple_turned {t sl : Addr} {items : Array Value} {v : Value} {Q : Value → Shared → Prop} (ht : IsTup s.heap t items) (hs : s.heap.IsSliceOf sl .none .none v) (pv : IsPart v (some (-1)))
    (h : Q (.ref s.heap.objs.size) { s with heap := s.heap.push { cls := .type "tuple", data := .seq items.toList.reverse.toArray } })
    (hsz : items.size ≤ sizeLine) : wpAny (model prog w) A (getItem (.ref t) (.ref sl)) Q E s := by
  have htake : sizeOk (.seq items.toList.reverse.toArray) := by
    show items.toList.reverse.toArray.size ≤ sizeLine
    rw [List.size_toArray, List.length_reverse, Array.length_toList]
    omega
  obtain ⟨os, hos, hcs, hds⟩ := id hs
  have hTs : s.TypeIs (.ref sl) "slice" := ⟨os, hos, hcs⟩
  unfold getItem
  try with_reducible refine wpAny_holding ?_
  first | refine wpAny_bind (wpAny_pure ?_) | skip
  refine wpAny_bind (wpAny_sequenceKey ht.typeIs (by decide) ?_)
  refine wpAny_bind (wpAny_callSpecial?_slot (name := Str.ofString "__getitem__") ht.typeIs PyProof.Rows.slot_tuple_getitem
    (wpAny_call_entry PyProof.Rows.slot_tuple_getitem ht.typeIs entry_tuple_getitem ?_ (args_tuple_getitem _ _)))
  show wpAny _ _ (Builtin.Tuple.tupleItemsOf (.ref t) >>= _) _ _ s
  refine wpAny_bind (tupleItemsOf_ ht ?_)
  refine wpAny_bind (wpAny_typeOf hTs ?_)
  rw [if_pos (by decide)]
  refine wpAny_bind (turned_parts hs pv ?_)
  have hno : ¬ ((((items.size : Int) - 1) == 0 && (-1 : Int) == 1 && items.size == items.size) = true) := by
    intro q
    rw [Bool.and_eq_true, Bool.and_eq_true] at q
    exact absurd (eq_of_beq q.1.2) (by decide)
  show wpAny _ _ (if (((items.size : Int) - 1) == 0 && (-1 : Int) == 1 && items.size == items.size) = true then _ else _) _ _ s
  rw [if_neg hno, turned_pick]
  first
    | exact wpAny_bind (m := Builtin.Tuple.tupleExact _) (wpAny_newObj_type (wpAny_pure ⟨_, rfl, wpAny_pure h⟩) htake)
    | exact wpAny_bind (m := Builtin.Tuple.tupleExact _) (wpAny_newObj_type (wpAny_bind (wpAny_pure (wpAny_pure ⟨_, rfl, wpAny_pure h⟩))) htake)
    | exact wpAny_bind (wpAny_bind (m := Builtin.Tuple.tupleExact _) (wpAny_newObj_type (wpAny_pure (wpAny_pure ⟨_, rfl, wpAny_pure h⟩)) htake))
    | exact wpAny_bind (wpAny_bind (m := Builtin.Tuple.tupleExact _) (wpAny_newObj_type (wpAny_pure ⟨_, rfl, wpAny_pure h⟩) htake))
end
def tTurn (K : PySem.W.Frag) (te : TE) : TE := fun σ H Q => te σ H fun x H1 => (∃ a xs, x = .ref a ∧ SqL K H1 a xs ∧ ∀ p, H1 p = none → Q (.ref p) (upd H1 p (.lst xs.reverse))) ∨
  ∃ a xs, x = .ref a ∧ SqT K H1 a xs ∧ ∀ p, H1 p = none → Q (.ref p) (upd H1 p (.tup xs.reverse))
theorem pe_turn {X : Cx} {e : Expr} {te : TE} {k : Nat} {p1 p2 p3 pos : Pos} (he : PE X e te) : PE X (.Subscript e (.Slice none none (some (.UnaryOp .USub (.Constant (.int 1) k p1) p2)) p3) pos) (tTurn X.K te) := by
  refine ⟨fun pins s σ H Q I h => ?_⟩
  refine Subscript_ (thn (he.run pins s σ H _ I h) fun v s1 ⟨x, H1, I1, r1, q1⟩ => ?_)
  have hst : PO X (some (.UnaryOp .USub (.Constant (.int 1) k p1) p2)) (tPart (tUn (rU fun i => .int (-i)) (tC (.int 1)))) := po_some (pe_un un_neg pe_int)
  refine wpAny_Slice (thn (po_none.run pins s1 σ H1 (fun o H2 => o = none ∧ H2 = H1) I1 ⟨rfl, rfl⟩) fun vl s2 ⟨l, H2, I2, pl, el, e2⟩ => ?_)
  subst el e2
  refine thn (po_none.run pins s2 σ H2 (fun o H3 => o = none ∧ H3 = H2) I2 ⟨rfl, rfl⟩) fun vu s3 ⟨u, H3, I3, pu, eu, e3⟩ => ?_
  subst eu e3
  refine thn (hst.run pins s3 σ H3 (fun o H4 => o = some (-1) ∧ H4 = H3) I3 ⟨1, rfl, -1, rfl, rfl, rfl⟩) fun vs s4 ⟨o, H4, I4, ps, eo, e4⟩ => ?_
  subst eo e4
  have I5 : Inv X pins σ H4 { s4 with heap := s4.heap.push { cls := .type "slice", data := .fields #[vl, vu, vs] } } := I4.kept (t' := s4.toks) fun b ob q => Heap.get?_push_of_some _ q
  rcases q1 with ⟨a, xs, ex, hx, q⟩ | ⟨a, xs, ex, hx, q⟩
  · subst ex
    cases r1
    obtain ⟨its, r, ht, hz⟩ := I5.list hx
    have hlen := r.length
    show wpAny (model X.prog X.w) X.A (subscriptTail e (.Slice none none (some (.UnaryOp .USub (.Constant (.int 1) k p1) p2)) p3) (.ref a) (.ref s4.heap.objs.size)) (EP X pins σ Q) X.xe { s4 with heap := s4.heap.push { cls := .type "slice", data := .fields #[vl, vu, vs] } }
    refine tail_any (ops := [.ref a, .ref s4.heap.objs.size]) ht.isList.typeIs (PySem.slot_list_getitem.lookup) ?_ (by with_unfolding_all rfl)
    refine wpAny_getItem_list_slice ht.isList (Heap.IsSliceOf.new _ vl vu vs) pl pu ps (by decide) ?_ (by rw [List.size_toArray]; omega)
    rw [PySem.W.krv_pick]
    refine ⟨.ref _, _, I5.laid (t' := s4.toks) (o := .lst xs.reverse) (fun b ob q => Heap.get?_push_of_some _ q) (Nat.le_refl _) ?_, rfl, q _ (I5.hok.fresh (Nat.le_refl _))⟩
    exact ⟨by rw [List.length_reverse]; exact hz, _, 0, r.reverse, Heap.get?_push_size _ rfl⟩
  · subst ex
    cases r1
    cases pl
    cases pu
    obtain ⟨its, r, ht, hz⟩ := I5.tuple hx
    have hlen : its.toArray.size = xs.length := by rw [List.size_toArray]; exact r.length.symm
    show wpAny (model X.prog X.w) X.A (subscriptTail e (.Slice none none (some (.UnaryOp .USub (.Constant (.int 1) k p1) p2)) p3) (.ref a) (.ref s4.heap.objs.size)) (EP X pins σ Q) X.xe { s4 with heap := s4.heap.push { cls := .type "slice", data := .fields #[.none, .none, vs] } }
    refine tail_any (ops := [.ref a, .ref s4.heap.objs.size]) ht.typeIs (PyProof.Rows.slot_tuple_getitem.lookup) ?_ (by with_unfolding_all rfl)
    refine tuple_turned ht (Heap.IsSliceOf.new _ .none .none vs) ps ?_ (by rw [hlen]; exact hz)
    refine ⟨.ref _, _, I5.laid (t' := s4.toks) (o := .tup xs.reverse) (fun b ob q => Heap.get?_push_of_some _ q) (Nat.le_refl _) ?_, rfl, q _ (I5.hok.fresh (Nat.le_refl _))⟩
    exact ⟨by rw [List.length_reverse]; exact hz, _, r.reverse, IsTup.new _ _⟩
section
variable {S : Type} {X : Cx} {W : Wd S} {e : Expr}
def turnF (f : Ev S) : Ev S := fun ρ s => match f ρ s with
  | some (.lst xs, ρ', s') => some (.lst xs.reverse, ρ', s')
  | some (.tup xs, ρ', s') => some (.tup xs.reverse, ρ', s')
  | _ => none
theorem se_turn {f : Ev S} {fr : Bool} {k : Nat} {p1 p2 p3 pos : Pos} (he : PE X e (SE X.K W fr f)) : PE X (.Subscript e (.Slice none none (some (.UnaryOp .USub (.Constant (.int 1) k p1) p2)) p3) pos) (SE X.K W true (turnF f)) :=
  (pe_turn he).imp fun σ H Q q => by
    obtain ⟨H0, O, A, P, ρ, s, d, ρ', s', r, e, q⟩ := q
    unfold turnF at e
    split at e
    · rename_i xs ρ1 s1 h1
      cases e
      refine ⟨H0, O, A, P, ρ, s, _, _, _, r, h1, fun v H1 ex r1 _ => ?_⟩
      have fin := fin_val (fr := true) r1.tail r1.hex (fun a h => r1.pet _ List.mem_cons_self a h) q
      have rv := r1.head
      have hav : ∀ a, (avL ⟨X.K, W, H0, O⟩ A σ ρ' a ∧ ¬ ex a) → H1 a ≠ none := fun a h => r1.avT h.1
      cases rv with
      | lst hp n rl => exact .inl ⟨_, _, rfl, .inl (.inl hp), fun p hp => fin.lst hav rl.reverse hp⟩
    · rename_i xs ρ1 s1 h1
      cases e
      refine ⟨H0, O, A, P, ρ, s, _, _, _, r, h1, fun v H1 ex r1 _ => ?_⟩
      have fin := fin_val (fr := true) r1.tail r1.hex (fun a h => r1.pet _ List.mem_cons_self a h) q
      have rv := r1.head
      cases rv with
      | tup hp rl => exact .inr ⟨_, _, rfl, hp, fun p hp => fin.tup rl.reverse hp⟩
    · cases e
@[simp] theorem d_turnF {ρ : En} {s : S} (f : Ev S) : turnF f ρ s = (match f ρ s with
  | some (.lst xs, ρ', s') => some (.lst xs.reverse, ρ', s')
  | some (.tup xs, ρ', s') => some (.tup xs.reverse, ρ', s')
  | _ => none) := rfl
end
end L3
end
section
set_option Elab.async false
set_option linter.all false
set_option maxRecDepth 100000
set_option autoImplicit false
/-! L3za: dicts that are made by a comprehension, looked up and asked (own work). -/
namespace L3
open PySem PySem.Spec PyProof.Rows L2
/-! ### keys -/
def keyD : D → Option Key
  | .int i => some (.inl i)
  | .str x => some (.inr x)
  | _ => none
def getK (kvs : List (Key × D)) (k : Key) : Option D := (kvs.find? fun kv => decide (kv.1 = k)).map (·.2)
def setK (kvs : List (Key × D)) (k : Key) (d : D) : List (Key × D) :=
  if (kvs.any fun kv => decide (kv.1 = k)) = true then kvs.map (fun kv => if kv.1 = k then (kv.1, d) else kv) else kvs ++ [(k, d)]
section
variable {K : PySem.W.Frag} {tk : Addr} {H : Hp} {av : Addr → Prop}
theorem key_rep {v : V} {d : D} {k : Key} (r : Rep K tk H av v d) (h : keyD d = some k) : v = kV k := by
  cases d with
  | int i => cases h; cases r; rfl
  | str x => cases h; cases r; rfl
  | _ => cases h
theorem RepK.length : ∀ {vs : List (Key × V)} {ds : List (Key × D)}, RepK K tk H av vs ds → vs.length = ds.length
  | _, _, .nil => rfl
  | _, _, .cons _ r => by simp [RepK.length r]
theorem RepK.keys : ∀ {vs : List (Key × V)} {ds : List (Key × D)}, RepK K tk H av vs ds → vs.map (·.1) = ds.map (·.1)
  | _, _, .nil => rfl
  | _, _, .cons _ r => by simp [RepK.keys r]
theorem any_keys {α : Type} (k : Key) (xs : List (Key × α)) : (xs.any fun kv => decide (kv.1 = k)) = (xs.map (·.1)).any fun q => decide (q = k) := by
  rw [List.any_map]
  rfl
theorem RepK.any {vs : List (Key × V)} {ds : List (Key × D)} (r : RepK K tk H av vs ds) (k : Key) : (vs.any fun kv => decide (kv.1 = k)) = (ds.any fun kv => decide (kv.1 = k)) := by
  rw [any_keys, any_keys, r.keys]
theorem RepK.append : ∀ {vs ws : List (Key × V)} {ds es : List (Key × D)}, RepK K tk H av vs ds → RepK K tk H av ws es → RepK K tk H av (vs ++ ws) (ds ++ es)
  | _, _, _, _, .nil, s => s
  | _, _, _, _, .cons h r, s => .cons h (RepK.append r s)
theorem RepK.setMap {v : V} {d : D} (k : Key) (h : Rep K tk H av v d) : ∀ {vs : List (Key × V)} {ds : List (Key × D)}, RepK K tk H av vs ds →
    RepK K tk H av (vs.map fun kv => if kv.1 = k then (kv.1, v) else kv) (ds.map fun kv => if kv.1 = k then (kv.1, d) else kv)
  | _, _, .nil => .nil
  | (k', _) :: _, _, .cons q r => by
    rw [List.map_cons, List.map_cons]
    by_cases e : k' = k
    · simp only [e, if_true]
      exact .cons h (RepK.setMap k h r)
    · simp only [e, if_false]
      exact .cons q (RepK.setMap k h r)
theorem RepK.put {vs : List (Key × V)} {ds : List (Key × D)} {v : V} {d : D} (r : RepK K tk H av vs ds) (k : Key) (h : Rep K tk H av v d) : RepK K tk H av (putK vs k v) (setK ds k d) := by
  unfold putK setK
  rw [r.any k]
  split
  · exact r.setMap k h
  · exact r.append (.cons h .nil)
theorem RepK.get (k : Key) : ∀ {vs : List (Key × V)} {ds : List (Key × D)}, RepK K tk H av vs ds → (getK ds k = none ∧ valV vs k = none) ∨ ∃ v d, getK ds k = some d ∧ valV vs k = some v ∧ Rep K tk H av v d
  | _, _, .nil => .inl ⟨rfl, rfl⟩
  | (k', v) :: vs, (_, d) :: ds, .cons q r => by
    by_cases e : k' = k
    · exact .inr ⟨v, d, by simp [getK, e], by simp [valV, e], q⟩
    · have h := RepK.get k r
      have e1 : getK ((k', d) :: ds) k = getK ds k := by simp [getK, e]
      have e2 : valV ((k', v) :: vs) k = valV vs k := by simp [valV, e]
      rw [e1, e2]
      exact h
end
/-! ### what needs no heap -/
def flatD : D → Bool
  | .non => true
  | .bl _ => true
  | .int _ => true
  | .str _ => true
  | .ty _ => true
  | _ => false
theorem flat_rep {K : PySem.W.Frag} {tk : Addr} {H H' : Hp} {av av' : Addr → Prop} {v : V} {d : D} (h : flatD d = true) (r : Rep K tk H av v d) : Rep K tk H' av' v d := by
  cases r with
  | non => exact .non
  | bl b => exact .bl b
  | int i => exact .int i
  | str x => exact .str x
  | ty n => exact .ty n
  | _ => simp [flatD] at h
def flats (kds : List (Key × D)) : Prop := ∀ kv ∈ kds, flatD kv.2 = true
theorem flats_rep {K : PySem.W.Frag} {tk : Addr} {H H' : Hp} {av av' : Addr → Prop} : ∀ {vs : List (Key × V)} {ds : List (Key × D)}, flats ds → RepK K tk H av vs ds → RepK K tk H' av' vs ds
  | _, _, _, .nil => .nil
  | _, _, h, .cons q r => .cons (flat_rep (h _ List.mem_cons_self) q) (flats_rep (fun kv m => h kv (List.mem_cons_of_mem _ m)) r)
theorem flats_put {kds : List (Key × D)} {k : Key} {d : D} (h : flats kds) (hd : flatD d = true) : flats (setK kds k d) := by
  intro kv m
  unfold setK at m
  split at m
  · obtain ⟨q, hq, rfl⟩ := List.mem_map.mp m
    split
    · exact hd
    · exact h q hq
  · rcases List.mem_append.mp m with m | m
    · exact h kv m
    · simp at m
      subst m
      exact hd
/-! ### a dict that is being made: within, the frame's surroundings hold it -/
section
variable {S : Type} {R : Fx S} {A : Acc} {P : List Pd} {σ : L2.St} {H : Hp} {ρ : En} {s : S}
def Fx.dict (R : Fx S) (p : Addr) (kvs : List (Key × V)) : Fx S := ⟨R.K, R.W, upd R.H0 p (.dK kvs), fun a => R.O a ∨ a = p⟩
theorem Rel.dNew {p : Addr} {kvs : List (Key × V)} (r : Rel R A P σ H ρ s) (hp : H p = none) : Rel (R.dict p kvs) A P σ (upd H p (.dK kvs)) ρ s := by
  have k := same_upd (o := .dK kvs) hp
  have av : ∀ a, avL (R.dict p kvs) A σ ρ a → avL R A σ ρ a ∨ a = p := fun a h => h.elim (fun h => h.elim (fun h => .inl (.inl h)) .inr) fun h => .inl (.inr h)
  have ao : ∀ a, avO (R.dict p kvs) A σ ρ a → avO R A σ ρ a ∨ a = p := fun a h => h.elim (fun h => h.elim (fun h => .inl (.inl h)) .inr) fun h => .inl (.inr h)
  have np : ∀ {a : Addr} {o : HO}, H a = some o → a ≠ p := fun e z => by
    subst z
    rw [hp] at e
    cases e
  refine ⟨r.len, R.W.stay r.wd fun a o _ e => k a o e, fun a o e n => ?_, fun a h => ?_, fun a h => ?_, fun j d e => ?_, fun j t es e => ?_, fun a es e => ?_, r.inj, r.injA, r.ndA, fun q hq => (r.pen q hq).more hp fun a h => (av a h.1).imp (fun z => ⟨z, h.2⟩) id, fun q hq a h => ?_, fun q hq a h => ?_⟩
  · by_cases ha : a = p
    · subst ha
      rw [upd_same]
      have e : upd R.H0 a (.dK kvs) a = some o := e
      rwa [upd_same] at e
    · have e : upd R.H0 p (.dK kvs) a = some o := e
      rw [upd_ne ha] at e ⊢
      exact r.ent a o e n
  · show upd R.H0 p (.dK kvs) a ≠ none
    rcases h with h | h
    · by_cases ha : a = p
      · subst ha; rw [upd_same]; simp
      · rw [upd_ne ha]; exact r.out a h
    · subst h; rw [upd_same]; simp
  · show upd R.H0 p (.dK kvs) a ≠ none
    by_cases ha : a = p
    · subst ha; rw [upd_same]; simp
    · rw [upd_ne ha]; exact r.wout a h
  · obtain ⟨v, h1, h2⟩ := r.val j d e
    exact ⟨v, h1, h2.more hp av⟩
  · obtain ⟨a, ys, h1, h2, h3, h4⟩ := r.lst j t es e
    exact ⟨a, ys, h1, k _ _ h2, h3.more hp av, (upd_ne (np h2)).trans h4⟩
  · obtain ⟨ys, h1, h2, h3⟩ := r.acc a es e
    exact ⟨ys, k _ _ h1, h2.more hp av, (upd_ne (np h1)).trans h3⟩
  · rcases ao a h with z | z
    · exact r.pex q hq a z
    · subst z
      exact fun z => r.pet q hq a z hp
  · have := r.pet q hq a h
    by_cases ha : a = p
    · subst ha; rw [upd_same]; simp
    · rw [upd_ne ha]; exact this
theorem Rel.dAt {p : Addr} {kvs : List (Key × V)} (r : Rel (R.dict p kvs) A P σ H ρ s) (hw : ¬ R.W.own p) : H p = some (.dK kvs) := r.ent p _ upd_same hw
theorem Rel.dSet {p : Addr} {kvs kvs' : List (Key × V)} (r : Rel (R.dict p kvs) A P σ H ρ s) (hw : ¬ R.W.own p) : Rel (R.dict p kvs') A P σ (upd H p (.dK kvs')) ρ s := by
  have hp := r.dAt hw
  have k : ∀ b o, H b = some o → ¬ b = p → (upd H p (.dK kvs')) b = some o := fun b o e n => by rw [upd_ne n]; exact e
  have hm : ∀ b, b = p → ∃ o, H b = some o ∧ Mut (some o) := fun b e => by subst e; exact ⟨_, hp, trivial⟩
  have hpo : avO (R.dict p kvs) A σ ρ p := .inl (.inr rfl)
  have hw' : ∀ b, b = p → avL (R.dict p kvs) A σ ρ b := fun b e => by subst e; exact avO_avL hpo
  have nl : ∀ {b : Addr}, (R.dict p kvs).H0 b = none → ¬ b = p := fun h e => by
    subst e
    rw [show (R.dict _ kvs).H0 _ = some (.dK kvs) from upd_same] at h
    cases h
  have h0 : ∀ {b : Addr}, (R.dict p kvs).H0 b = none → (R.dict p kvs').H0 b = none := fun h => by
    have n := nl h
    show upd R.H0 p (.dK kvs') _ = none
    rw [upd_ne n]
    have : upd R.H0 p (.dK kvs) _ = none := h
    rwa [upd_ne n] at this
  refine ⟨r.len, R.W.stay r.wd fun b o hb e => k b o e fun z => by subst z; exact hw hb, fun b o e n => ?_, fun b h => ?_, fun b h => ?_, fun j d e => ?_, fun j t es e => ?_, fun a es e => ?_, r.inj, r.injA, r.ndA, fun q hq => ?_, r.pex, fun q hq a h => ?_⟩
  · have e : upd R.H0 p (.dK kvs') b = some o := e
    by_cases hb : b = p
    · subst hb
      rw [upd_same] at e ⊢
      exact e
    · rw [upd_ne hb] at e ⊢
      exact r.ent b o ((upd_ne hb).trans e) n
  · show upd R.H0 p (.dK kvs') b ≠ none
    by_cases hb : b = p
    · subst hb; rw [upd_same]; simp
    · rw [upd_ne hb]
      have : upd R.H0 p (.dK kvs) b ≠ none := r.out b h
      rwa [upd_ne hb] at this
  · show upd R.H0 p (.dK kvs') b ≠ none
    by_cases hb : b = p
    · subst hb; rw [upd_same]; simp
    · rw [upd_ne hb]
      have : upd R.H0 p (.dK kvs) b ≠ none := r.wout b h
      rwa [upd_ne hb] at this
  · obtain ⟨v, h1, h2⟩ := r.val j d e
    exact ⟨v, h1, h2.kept k hw' hm⟩
  · obtain ⟨a, ys, h1, h2, h3, h4⟩ := r.lst j t es e
    exact ⟨a, ys, h1, k _ _ h2 (nl h4), h3.kept k hw' hm, h0 h4⟩
  · obtain ⟨ys, h1, h2, h3⟩ := r.acc a es e
    exact ⟨ys, k _ _ h1 (nl h3), h2.kept k hw' hm, h0 h3⟩
  · exact (r.pen q hq).kept k (fun b e => by subst e; exact ⟨hw' _ rfl, r.pex q hq _ hpo⟩) hm
  · have := r.pet q hq a h
    by_cases ha : a = p
    · subst ha; rw [upd_same]; simp
    · rw [upd_ne ha]; exact this
theorem Rel.dOut {p : Addr} {kvs : List (Key × V)} (r : Rel (R.dict p kvs) A P σ H ρ s) (h0 : R.H0 p = none) (ho : ∀ a, R.O a → R.H0 a ≠ none) (hwo : ∀ a, R.W.own a → R.H0 a ≠ none) : H p = some (.dK kvs) ∧ Rel R A P σ H ρ s ∧ ¬ avL R A σ ρ p := by
  have hw : ¬ R.W.own p := fun h => hwo p h h0
  have av : ∀ a, avL R A σ ρ a → avL (R.dict p kvs) A σ ρ a := fun a h => h.elim (fun h => .inl (.inl h)) .inr
  have ao : ∀ a, avO R A σ ρ a → avO (R.dict p kvs) A σ ρ a := fun a h => h.elim (fun h => .inl (.inl h)) .inr
  have nl : ∀ {b : Addr}, (R.dict p kvs).H0 b = none → ¬ b = p := fun h e => by
    subst e
    rw [show (R.dict _ kvs).H0 _ = some (.dK kvs) from upd_same] at h
    cases h
  have h0' : ∀ {b : Addr}, (R.dict p kvs).H0 b = none → R.H0 b = none := fun h => by
    have : upd R.H0 p (.dK kvs) _ = none := h
    rwa [upd_ne (nl h)] at this
  refine ⟨r.dAt hw, ⟨r.len, r.wd, fun b o e n => ?_, ho, hwo, fun j d e => ?_, fun j t es e => ?_, fun a es e => ?_, r.inj, r.injA, r.ndA, fun q hq => (r.pen q hq).mono fun a h => ⟨av a h.1, h.2⟩, fun q hq a h => r.pex q hq a (ao a h), r.pet⟩, fun h => ?_⟩
  · have hb : b ≠ p := fun z => by
      subst z
      rw [h0] at e
      cases e
    exact r.ent b o ((upd_ne hb).trans e) n
  · obtain ⟨v, h1, h2⟩ := r.val j d e
    exact ⟨v, h1, h2.mono av⟩
  · obtain ⟨a, ys, h1, h2, h3, h4⟩ := r.lst j t es e
    exact ⟨a, ys, h1, h2, h3.mono av, h0' h4⟩
  · obtain ⟨ys, h1, h2, h3⟩ := r.acc a es e
    exact ⟨ys, h1, h2.mono av, h0' h3⟩
  · rcases h with h | h | h | h
    · exact ho p h h0
    · exact hw h
    · exact nl (r.lockT h).2 rfl
    · exact nl (r.accT h).2 rfl
end
/-! ### {k: v for ..} -/
section
variable {S : Type} {X : Cx} {W : Wd S} {e a b c tg : Expr} {es : List Expr} {pos p : Pos}
def turnsK (own : List Nat) (tg : D → En → Option En) (cond : EvB S) (fk fv : Ev S) : List D → List (Key × D) → En → S → Option (List (Key × D) × En × S)
  | [], acc, ρ, s => some (acc, ρ, s)
  | d :: ds, acc, ρ, s => match tg d (wipeE ρ own) with
    | some ρ1 => match cond ρ1 s with
      | some (true, ρ2, s2) => match fk ρ2 s2 with
        | some (x, ρ3, s3) => match keyD x with
          | some k => match fv ρ3 s3 with
            | some (y, ρ4, s4) => if flatD y = true ∧ acc.length < sizeLine then turnsK own tg cond fk fv ds (setK acc k y) ρ4 s4 else none
            | none => none
          | none => none
        | none => none
      | some (false, ρ2, s2) => turnsK own tg cond fk fv ds acc ρ2 s2
      | none => none
    | none => none
def dcF (own : List Nat) (it : EvL S) (tg : D → En → Option En) (cond : EvB S) (fk fv : Ev S) : Ev S := fun ρ s => match it ρ s with
  | some (items, ρ1, s1) => if noOwn own ρ1 then match turnsK own tg cond fk fv items [] ρ1 s1 with
      | some (acc, ρ2, s2) => some (.dic acc, backE ρ1 own (wipeE ρ2 own), s2)
      | none => none
    else none
  | none => none
theorem dc_it {J : It} {n : Nat} {G : Hp → Prop} {Y : Nat → Hp → V → Hp → Prop} (w : Walk J n G Y) {g : TG} {tt : TT} {tk tv : TE} {vs : List Nat} {σ : L2.St} {H1 : Hp} {D : Addr} {Qd : Hp → Prop} (Pv : Nat → Hp → Prop) (h0 : Pv 0 (upd H1 D (.dK []))) (hG : ∀ i H, i ≤ n → Pv i H → G H)
    (hs : ∀ i x H H', i < n → Pv i H → Y i H x H' → g x (wipe σ vs) H' fun σ2 H2 => wipe σ2 vs = wipe σ vs ∧ tt σ2 H2 fun b H3 =>
      if b = true then tk σ2 H3 fun y H4 => tv σ2 H4 fun z H5 => ∃ kvs k, y = kV k ∧ H5 D = some (.dK kvs) ∧ kvs.length < sizeLine ∧ Pv (i + 1) (upd H5 D (.dK (putK kvs k z))) else Pv (i + 1) H3) (hd : ∀ H, Pv n H → Qd H) :
    ∃ W : Nat → Nat → Hp → Prop, (∃ m, W 0 m (upd H1 D (.dK []))) ∧ ∀ i m H, W i m H →
      (J.stop i H ∧ Qd H) ∨ (J.go i H ∧ ∃ Nx : Hp → Prop, (∀ H', Nx H' → ∃ m', m' < m ∧ W (i + 1) m' H') ∧ ∀ x H', J.yld i H x H' → g x (wipe σ vs) H' fun σ2 H2 => wipe σ2 vs = wipe σ vs ∧ tt σ2 H2 fun b H3 =>
        if b = true then tk σ2 H3 fun y H4 => tv σ2 H4 fun z H5 => ∃ kvs k, y = kV k ∧ H5 D = some (.dK kvs) ∧ kvs.length < sizeLine ∧ Nx (upd H5 D (.dK (putK kvs k z))) else Nx H3) := by
  refine ⟨fun i m H => m = n - i ∧ i ≤ n ∧ Pv i H, ⟨n, by simp, Nat.zero_le _, h0⟩, ?_⟩
  rintro i m H ⟨rfl, hi, p⟩
  have q := hG i H hi p
  by_cases hlt : i < n
  · refine .inr ⟨w.goes i H hlt q, Pv (i + 1), fun H' p' => ⟨n - (i + 1), by omega, rfl, hlt, p'⟩, fun x H' y => hs i x H H' hlt p (w.yields i H x H' hlt q y)⟩
  · have e : i = n := by omega
    subst e
    exact .inl ⟨w.stops H q, hd H p⟩
theorem dc_val {own gs : List Nat} {fit : EvL S} {ftg : D → En → Option En} {fc : EvB S} {fk fv : Ev S} {fr1 fr2 : Bool} {K : PySem.W.Frag} (hgs : ∀ i ∈ gs, i ∈ own) {σ : L2.St} {H : Hp} {Q : VK} (h : SE K W false (dcF own fit ftg fc fk fv) σ H Q) :
    tDc (SI K W fit) (SG K W gs ftg) (SB K W fc) (SE K W fr1 fk) (SE K W fr2 fv) own σ H Q := by
  obtain ⟨H0, O, A, P, ρ, s, d, ρ', s', r0, e, q⟩ := h
  unfold dcF at e
  split at e
  · rename_i items ρ1 s1 h1
    split at e
    · rename_i hno
      split at e
      · rename_i acc ρ2 s2 h2
        cases e
        refine ⟨H0, O, A, P, ρ, s, items, ρ1, s1, r0, h1, fun J H1 vs ds ex r1 rl hx ht ok => ?_⟩
        obtain ⟨G, Y, wk, hG, hY⟩ := ok
        intro D hD
        have hval : ∀ (v : Nat) d, ρ1[v]? = some (.val d) → ∃ x, σ[v]? = some (some x) := fun v d e => let ⟨x, e1, _⟩ := r1.val v d e; ⟨x, e1⟩
        have hown : ∀ v ∈ own, ∀ t ds, ρ1[v]? ≠ some (.ownD t ds) := fun v hv t ds z => by
          have := List.all_eq_true.mp hno v hv
          rw [z] at this
          exact Bool.false_ne_true this
        have hl : vs.length = ds.length := rl.length
        have hD0 : H0 D = none := r1.fresh0 hD
        have hwD : ¬ W.own D := fun h => r1.wout D h hD0
        have r2 : Rel ⟨K, W, H0, O⟩ A (⟨.non, .non, ex⟩ :: (pds vs ds ex ++ (pendE ρ1 σ own ++ P))) σ H1 ρ1 s1 :=
          (Rel.pushL hx ht (r1.pendOwn own) rl).push .non hx ht
        have r3 := (r2.dNew (p := D) (kvs := []) hD).wipe own
        refine dc_it wk (fun i H => ∃ ρi si acci kvs, Rel (Fx.dict ⟨K, W, H0, O⟩ D kvs) A (⟨.non, .non, ex⟩ :: (pds vs ds ex ++ (pendE ρ1 σ own ++ P))) (wipe σ own) H (wipeE ρi own) si ∧ turnsK own ftg fc fk fv (items.drop i) acci ρi si = some (acc, ρ2, s') ∧ flats acci ∧ RepK K W.tok H0 (fun _ => False) kvs acci) ?_ ?_ ?_ ?_
        · exact ⟨ρ1, s1, [], [], r3, h2, fun _ h => (by cases h), .nil⟩
        · rintro i H _ ⟨ρi, si, acci, kvs, ri, _⟩
          exact hG H _ (Rel.popL hl ri.tail).1
        · rintro i x H H' hi ⟨ρi, si, acci, kvs, ri, ti, fl, rk⟩ y
          have hid : items[i]? = some items[i] := List.getElem?_eq_getElem hi
          have hdrop : items.drop i = items[i] :: items.drop (i + 1) := List.drop_eq_getElem_cons hi
          rw [hdrop] at ti
          obtain ⟨rlI, _⟩ := Rel.popL hl ri.tail
          obtain ⟨k, rx⟩ := hY i H x H' _ _ (fun a z => ri.avT z.1) rlI y hid
          have ri' := ri.same k
          have rp := ri'.push (p := ⟨x, items[i], ex⟩) rx ri'.hex fun a z => ri'.pet _ List.mem_cons_self a z
          unfold turnsK at ti
          split at ti
          · rename_i ρa ha
            refine ⟨_, _, _, _, _, si, items[i], ex, ρa, rp, ha, fun σ2 r4 k4 l4 => ⟨?_, ?_⟩⟩
            · have := wipe_ext (σ := σ2) (σ' := wipe σ own) (vs := own) l4 fun j hj => k4 j fun z => hj (hgs j z)
              rw [this, wipe_wipe]
            · have w2 : wipe σ2 own = wipe σ own := by
                have := wipe_ext (σ := σ2) (σ' := wipe σ own) (vs := own) l4 fun j hj => k4 j fun z => hj (hgs j z)
                rw [this, wipe_wipe]
              split at ti
              · rename_i ρb sb hb
                split at ti
                · rename_i x1 ρc sc hc
                  split at ti
                  · rename_i kk hk
                    split at ti
                    · rename_i y1 ρd sd hd
                      split at ti
                      · rename_i hz
                        refine ⟨_, _, _, _, ρa, si, true, ρb, sb, r4, hb, fun H5 r5 => iteT ?_⟩
                        refine ⟨_, _, _, _, ρb, sb, x1, ρc, sc, r5, hc, fun v H6 ex6 r6 _ => ?_⟩
                        have ek : v = kV kk := key_rep r6.head hk
                        refine ⟨_, _, _, _, ρc, sc, y1, ρd, sd, r6.tail, hd, fun v7 H7 ex7 r7 _ => ?_⟩
                        have r8 := r7.tail
                        have hat : H7 D = some (.dK kvs) := Rel.dAt (R := ⟨K, W, H0, O⟩) r8 hwD
                        refine ⟨kvs, kk, ek, hat, by rw [rk.length]; exact hz.2, ρd, sd, setK acci kk y1, putK kvs kk v7, ?_, ti, flats_put fl hz.1, rk.put kk (flat_rep hz.1 r7.head)⟩
                        have r9 := (Rel.dSet (R := ⟨K, W, H0, O⟩) (kvs' := putK kvs kk v7) r8 hwD).wipe own
                        rwa [w2] at r9
                      · cases ti
                    · cases ti
                  · cases ti
                · cases ti
              · rename_i ρb sb hb
                refine ⟨_, _, _, _, ρa, si, false, ρb, sb, r4, hb, fun H5 r5 => iteF ?_⟩
                have := r5.wipe own
                rw [w2] at this
                exact ⟨ρb, sb, acci, kvs, this, ti, fl, rk⟩
              · cases ti
          · cases ti
        · rintro H ⟨ρi, si, acci, kvs, ri, ti, fl, rk⟩
          rw [List.drop_length] at ti
          cases ti
          obtain ⟨hp, r5, nav⟩ := Rel.dOut (R := ⟨K, W, H0, O⟩) ri hD0 r1.out r1.wout
          have r6 : Rel ⟨K, W, H0, O⟩ A (pendE ρ1 σ own ++ P) (wipe σ own) H (wipeE ρ2 own) s' := (Rel.popL hl r5.tail).2
          have r7 := Rel.back hval hown r6
          rw [backS_eq (wipe_length _ _) fun i hi => wipe_out hi] at r7
          have hlk : ∀ a, lockA σ (backE ρ1 own (wipeE ρ2 own)) a → lockA (wipe σ own) (wipeE ρ2 own) a := by
            rintro a ⟨i, t, es, e1, e2⟩
            have bk : ∀ (vs : List Nat) (τ : En), (∀ v ∈ vs, ∀ t ds, ρ1[v]? ≠ some (.ownD t ds)) → (backE ρ1 vs τ)[i]? = some (.ownD t es) → i ∉ vs ∧ τ[i]? = some (.ownD t es) := by
              intro vs
              induction vs with
              | nil => intro τ _ z; exact ⟨by simp, z⟩
              | cons v vs ih =>
                intro τ ho z
                obtain ⟨h1, h2⟩ := ih _ (fun w hw => ho w (List.mem_cons_of_mem _ hw)) z
                obtain ⟨h3, h4⟩ := set_own (fun t ds z => by
                  have hv := ho v List.mem_cons_self
                  rw [List.getD_eq_getElem?_getD] at z
                  cases h : ρ1[v]? with
                  | none => rw [h] at z; exact nomatch z
                  | some y => rw [h] at z; exact hv t ds (by rw [h]; exact congrArg some z)) h2
                exact ⟨by simp only [List.mem_cons, not_or]; exact ⟨h3, h1⟩, h4⟩
            obtain ⟨h1, h2⟩ := bk own _ hown e1
            exact ⟨i, t, es, h2, by rw [wipe_out h1]; exact e2⟩
          have nav' : ¬ avL ⟨K, W, H0, O⟩ A σ (backE ρ1 own (wipeE ρ2 own)) D := fun z => nav (by
            rcases z with z | z | z | z
            · exact .inl z
            · exact .inr (.inl z)
            · exact .inr (.inr (.inl (hlk D z)))
            · exact .inr (.inr (.inr z)))
          exact q _ _ noEx (r7.push (.dic hp (fun z => nav' z.1) (flats_rep fl rk)) (fun _ _ z => z) fun _ z => z.elim) fun z => Bool.noConfusion z
      · cases e
    · cases e
  · cases e
theorem se_dcomp {own : List (Str × Nat)} {gs : List Nat} {kx vx iter : Expr} {ifs : List Expr} {scope : Scope} {fit : EvL S} {ftg : D → En → Option En} {fc : EvB S} {fk fv : Ev S} {fr1 fr2 : Bool} (hc : X.calm = true) (hN : X.N.Nodup) (hi : PI X tg iter (SI X.K W fit)) (ok : BlkOk X.N X.env.scope scope own)
    (hg : ∀ (s : Shared) (H : Hp) (C : Addr) (cl : List (Str × Addr)) (fp : List Addr), PG (X.blk s H scope (compEnvC scope cl C X.env) fp) tg (SG X.K W gs ftg)) (hgs : ∀ i ∈ gs, i ∈ own.map (·.2))
    (ht : ∀ (s : Shared) (H : Hp) (C : Addr) (cl : List (Str × Addr)) (fp : List Addr), PTs (X.blk s H scope (compEnvC scope cl C X.env) fp) ifs (SB X.K W fc))
    (hk : ∀ (s : Shared) (H : Hp) (C : Addr) (cl : List (Str × Addr)) (fp : List Addr), PE (X.blk s H scope (compEnvC scope cl C X.env) fp) kx (SE X.K W fr1 fk))
    (hv : ∀ (s : Shared) (H : Hp) (C : Addr) (cl : List (Str × Addr)) (fp : List Addr), PE (X.blk s H scope (compEnvC scope cl C X.env) fp) vx (SE X.K W fr2 fv)) (hs : ∀ x, foldedSetIterable iter X.env x = pure x) :
    PE X (.DictComp kx vx [⟨tg, iter, ifs, 0⟩] scope pos) (SE X.K W false (dcF (own.map (·.2)) fit ftg fc fk fv)) := (pe_dc hc hN hi ok hg ht hk hv hs).imp fun σ H Q q => dc_val hgs q
/-! ### d[k], k in d -/
def dgetD : D → D → Option D
  | .dic kvs, x => match keyD x with
    | some k => getK kvs k
    | none => none
  | _, _ => none
def dinD (x d : D) : Option D := match d with
  | .dic kvs => match keyD x with
    | some k => some (.bl (getK kvs k).isSome)
    | none => none
  | _ => none
def dninD (x d : D) : Option D := match d with
  | .dic kvs => match keyD x with
    | some k => some (.bl (!(getK kvs k).isSome))
    | none => none
  | _ => none
def rDGet : R2 := fun x y H Q => ∃ a v, x = .ref a ∧ DGet H a y (some v) ∧ Q v H
def rDIn : R2 := fun y x H Q => ∃ a o, x = .ref a ∧ DGet H a y o ∧ Q (.bl o.isSome) H
def rDNin : R2 := fun y x H Q => ∃ a o, x = .ref a ∧ DGet H a y o ∧ Q (.bl (!o.isSome)) H
theorem v_dget {K : PySem.W.Frag} {tk : Addr} : V2n K tk rDGet dgetD := by
  intro H av x y dx dy d Q hav rx ry e q
  unfold dgetD at e
  split at e
  · rename_i kvs
    split at e
    · rename_i k hk
      cases rx with
      | dic hp n rk =>
        have ek := key_rep ry hk
        rcases rk.get k with ⟨g1, _⟩ | ⟨v, d', g1, g2, rv⟩
        · rw [g1] at e; cases e
        · rw [g1] at e
          cases e
          exact ⟨_, v, rfl, .inl ⟨_, k, .inl hp, ek, g2.symm⟩, q v H (Same.refl _) rv⟩
    · cases e
  · cases e
theorem v_din {K : PySem.W.Frag} {tk : Addr} : V2 K tk rDIn dinD := by
  intro H av x y dx dy d Q hav rx ry e q
  unfold dinD at e
  split at e
  · rename_i kvs
    split at e
    · rename_i k hk
      cases e
      cases ry with
      | dic hp n rk =>
        have ek := key_rep rx hk
        rcases rk.get k with ⟨g1, g2⟩ | ⟨v, d', g1, g2, rv⟩
        · rw [g1] at q
          exact ⟨_, none, rfl, .inl ⟨_, k, .inl hp, ek, g2.symm⟩, q.val (.bl _) fun _ z => by cases z⟩
        · rw [g1] at q
          exact ⟨_, some v, rfl, .inl ⟨_, k, .inl hp, ek, g2.symm⟩, q.val (.bl _) fun _ z => by cases z⟩
    · cases e
  · cases e
theorem v_dnin {K : PySem.W.Frag} {tk : Addr} : V2 K tk rDNin dninD := by
  intro H av x y dx dy d Q hav rx ry e q
  unfold dninD at e
  split at e
  · rename_i kvs
    split at e
    · rename_i k hk
      cases e
      cases ry with
      | dic hp n rk =>
        have ek := key_rep rx hk
        rcases rk.get k with ⟨g1, g2⟩ | ⟨v, d', g1, g2, rv⟩
        · rw [g1] at q
          exact ⟨_, none, rfl, .inl ⟨_, k, .inl hp, ek, g2.symm⟩, q.val (.bl _) fun _ z => by cases z⟩
        · rw [g1] at q
          exact ⟨_, some v, rfl, .inl ⟨_, k, .inl hp, ek, g2.symm⟩, q.val (.bl _) fun _ z => by cases z⟩
    · cases e
  · cases e
theorem se_dget {fa fb : Ev S} {fr1 fr2 : Bool} (hu : X.A.units + 64 < cLine) (ha : PE X a (SE X.K W fr1 fa)) (hb : PE X b (SE X.K W fr2 fb)) (hs : NoSl b) : PE X (.Subscript a b pos) (SE X.K W false (binF dgetD fa fb)) := (pe_dget (by omega) ha hb hs).imp fun σ H Q q => two_valn v_dget q
theorem se_din {fa fb : Ev S} {fr1 fr2 : Bool} (hu : X.A.units + 64 < cLine) (ha : PE X a (SE X.K W fr1 fa)) (hb : PE X b (SE X.K W fr2 fb)) (hm : behindInMarks .In b = false) : PE X (.Compare a [.In] [b] pos) (SE X.K W true (binF dinD fa fb)) := (pe_cmp (pc_din (by omega) ha hb) hm).imp fun σ H Q q => two_val (r := rDIn) v_din q
theorem se_dnin {fa fb : Ev S} {fr1 fr2 : Bool} (hu : X.A.units + 64 < cLine) (ha : PE X a (SE X.K W fr1 fa)) (hb : PE X b (SE X.K W fr2 fb)) (hm : behindInMarks .NotIn b = false) : PE X (.Compare a [.NotIn] [b] pos) (SE X.K W true (binF dninD fa fb)) := (pe_cmp (pc_dnotin (by omega) ha hb) hm).imp fun σ H Q q => two_val (r := rDNin) v_dnin q
/-! ### x.bit_length(), ~x -/
def bitsF (f : Ev S) : Ev S := fun ρ s => match f ρ s with
  | some (.int i, ρ', s') => some (.int (Builtin.Int.intBits i : Nat), ρ', s')
  | _ => none
theorem se_bits {fa : Ev S} {fr : Bool} {apos : Pos} (ha : PE X a (SE X.K W fr fa)) (hbase : attributeBase a "bit_length" X.env (eval a X.env) = eval a X.env) (hline : (apos.endLine == pos.line) = true) :
    PE X (.Call (.Attribute a "bit_length" apos) [] [] pos) (SE X.K W false (bitsF fa)) := (pe_bits ha hbase hline).imp fun σ H Q q => by
  obtain ⟨H0, O, A, P, ρ, s, d, ρ', s', r, e, q⟩ := q
  unfold bitsF at e
  split at e
  · rename_i i ρ1 s1 h1
    cases e
    refine ⟨H0, O, A, P, ρ, s, .int i, _, _, r, h1, fun v H' ex r' _ => ?_⟩
    have hv : v = .int i := by cases r'.head; rfl
    exact ⟨i, hv, q _ H' noEx (r'.tail.push (.int _) (fun _ _ z => z) fun _ z => z.elim) fun z => Bool.noConfusion z⟩
  · cases e
def invF (f : Ev S) : Ev S := fun ρ s => match f ρ s with
  | some (.int i, ρ', s') => some (.int (Builtin.bitNot i), ρ', s')
  | _ => none
theorem se_inv {fa : Ev S} {fr : Bool} (ha : PE X a (SE X.K W fr fa)) : PE X (.UnaryOp .Invert a pos) (SE X.K W false (invF fa)) := (pe_un un_inv ha).imp fun σ H Q q => by
  obtain ⟨H0, O, A, P, ρ, s, d, ρ', s', r, e, q⟩ := q
  unfold invF at e
  split at e
  · rename_i i ρ1 s1 h1
    cases e
    refine ⟨H0, O, A, P, ρ, s, .int i, _, _, r, h1, fun v H' ex r' _ => ?_⟩
    have hv : v = .int i := by cases r'.head; rfl
    exact ⟨i, hv, q _ H' noEx (r'.tail.push (.int _) (fun _ _ z => z) fun _ z => z.elim) fun z => Bool.noConfusion z⟩
  · cases e
end
end L3
end
section
set_option Elab.async false
set_option linter.all false
set_option maxRecDepth 100000
set_option autoImplicit false
/-! L3zb: range objects as values, extend (own work). -/
namespace L3
open PySem PySem.Spec PyProof.Rows L2
section
variable {X : Cx} {tg e : Expr} {te : TE}
theorem cr_rng1 : CallR X (.type "range") (fun vs H Q => ∃ j, vs = [V.int j] ∧ ∀ p, H p = none → Q (.ref p) (upd H p (.rng 0 j))) := by
  intro pins s σ H vs us Q I r h
  obtain ⟨j, rfl, q⟩ := h
  cases r with
  | cons r rr =>
    cases rr
    obtain ⟨t, rfl⟩ := r
    refine call_range_1 ⟨.ref s.heap.objs.size, upd H s.heap.objs.size (.rng 0 j), I.laid (t' := _) (fun b o e => Heap.get?_push_of_some _ e) (Nat.le_refl _) ?_, rfl, q _ (I.hok.fresh (Nat.le_refl _))⟩
    exact ⟨_, _, _, Heap.get?_push_size _ rfl⟩
def iRgV (te : TE) : TI := fun σ H R => te σ H fun x H1 => ∃ a lo hi, x = .ref a ∧ H1 a = some (.rng lo hi) ∧ (-(2 ^ 62) ≤ lo ∧ lo < 2 ^ 62 ∧ -(2 ^ 62) ≤ hi ∧ hi < 2 ^ 62) ∧ R (Itr lo (hi - lo).toNat) H1
theorem pi_rgV (he : PE X e te) : PI X tg e (iRgV te) := by
  refine ⟨fun pins s σ H R I h => ?_⟩
  refine thn (he.run pins s σ H _ I h) fun v s1 ⟨x, H1, I1, r1, q1⟩ => ?_
  obtain ⟨a, lo, hi, ex, ha, ⟨h1, h2, h3, h4⟩, q⟩ := q1
  subst ex
  cases r1
  obtain ⟨t, u, w, ho⟩ := (show ObjOk X.prog X.w H1 s1.heap a (.rng lo hi) from I1.hok a _ ha)
  refine wpAny_pyIter_range (a := lo) (b := hi) (c := 1) (t := t) (u := u) (v := w) ho (small_one h1 h2 h3 h4) ?_
  refine ⟨s1.heap.objs.size, [s1.heap.objs.size], _, _, H1, rfl, I1.kept (t' := s1.toks) fun b o e => Heap.get?_push_of_some _ e, turn_range _ lo (hi - lo).toNat, ?_, fun b hb => ?_, q⟩
  · have e1 : lo + ((0 : Nat) : Int) * 1 = lo := by simp
    have e2 : (((hi - lo).toNat : Nat) : Int) - ((0 : Nat) : Int) = Builtin.Range.rangeSize lo hi 1 := by rw [rangeSize_one]; split <;> omega
    show IsRangeIter _ _ (lo + ((0 : Nat) : Int) * 1) ((((hi - lo).toNat : Nat) : Int) - ((0 : Nat) : Int)) 1
    rw [e1, e2]
    exact Heap.get?_push_size _ rfl
  · have e : b = s1.heap.objs.size := by simpa using hb
    subst e
    exact I1.fpOk (Nat.le_refl _) (I1.hok.fresh (Nat.le_refl _))
end
/-- a range object of so many, as it is made -/
def rngV : List D → Option D
  | [.int j] => if j.natAbs ≤ 1000000 then some (.rng 0 j) else none
  | _ => none
def rngItems : D → Option (List D)
  | .rng lo hi => if lo.natAbs ≤ 1000000 ∧ hi.natAbs ≤ 1000000 then some (rngD lo (hi - lo).toNat) else none
  | _ => none
section
variable {S : Type} {X : Cx} {W : Wd S} {e a b c tg : Expr} {es : List Expr} {pos : Pos}
theorem cv_rng {tk : Addr} : CaV X tk (.type "range") rngV := by
  refine ⟨_, cr_rng1, fun H av xs ds d Q hav rl e q => ?_⟩
  unfold rngV at e
  split at e
  · rename_i j
    split at e
    · cases e
      cases rl with
      | cons r rr =>
        cases rr
        cases r
        refine ⟨j, rfl, fun p hp => ?_⟩
        exact q _ _ (same_upd hp) (.rng upd_same fun z => hav p z hp) fun z => Bool.noConfusion z
    · cases e
  · cases e
def rgItF (f : Ev S) : EvL S := fun ρ s => match f ρ s with
  | some (d, ρ', s') => match rngItems d with
    | some items => some (items, ρ', s')
    | none => none
  | none => none
theorem si_rgV {f : Ev S} {fr : Bool} (he : PE X e (SE X.K W fr f)) : PI X tg e (SI X.K W (rgItF f)) := by
  refine ⟨fun pins s σ H Q I q => ?_⟩
  obtain ⟨H0, O, A, P, ρ, s1, items, ρ', s', r, e1, q⟩ := q
  unfold rgItF at e1
  split at e1
  · rename_i d ρ1 s2 h
    split at e1
    · rename_i its hi
      cases e1
      unfold rngItems at hi
      split at hi
      · rename_i lo hh
        split at hi
        · rename_i hb
          cases hi
          have b : -(2 ^ 62) ≤ lo ∧ lo < 2 ^ 62 ∧ -(2 ^ 62) ≤ hh ∧ hh < 2 ^ 62 := by
            have e62 : (2 : Int) ^ 62 = 4611686018427387904 := by decide
            rw [e62]
            omega
          refine (pi_rgV he).run pins s σ H Q I ⟨H0, O, A, P, ρ, s1, _, _, _, r, h, fun v H' ex r' _ => ?_⟩
          have rh := r'.head
          cases rh with
          | rng hp hn =>
            refine ⟨_, lo, hh, rfl, hp, b, q _ H' [] [] noEx r'.tail .nil (fun _ _ z => z) (fun _ z => z.elim) ?_⟩
            refine ⟨fun _ => True, fun i H x H' => x = .int (lo + (i : Nat)) ∧ H' = H, ⟨fun i H hi hg => ?_, fun H hg => ?_, fun i H x H' hi hg y => ?_⟩, fun _ _ _ => trivial, fun i H x H' av d hav r y e => ?_⟩
            · show i < (hh - lo).toNat
              have := hi
              simpa [rngD] using this
            · show (hh - lo).toNat ≤ _
              simp [rngD]
            · exact ⟨y.2, y.1⟩
            · obtain ⟨rfl, rfl⟩ := y
              unfold rngD at e
              rw [List.getElem?_map] at e
              cases z : (List.range (hh - lo).toNat)[i]? with
              | none => rw [z] at e; cases e
              | some j =>
                have ej : j = i := by
                  obtain ⟨h1, h2⟩ := List.getElem?_eq_some_iff.mp z
                  rw [List.getElem_range] at h2
                  exact h2.symm
                rw [z, ej] at e
                cases e
                exact ⟨Same.refl _, .int _⟩
        · cases hi
      · cases hi
    · cases e1
  · cases e1
/-! ### xs.extend(ys) -/
def extendF (i : Nat) (g : EvL S) : Ev S := fun ρ s => match ρ[i]? with
  | some (.ownD _ (.lst _)) => match g ρ s with
    | some ([.lst es], ρ1, s1) => match ρ1[i]? with
      | some (.ownD false (.lst ds)) => if ds.length + es.length ≤ sizeLine then some (.non, (if noLs es then ρ1 else freeze ρ1).set i (.own false (ds ++ es)), s1) else none
      | _ => none
    | _ => none
  | _ => none
theorem RepL.freeL {K : PySem.W.Frag} {tk : Addr} {H : Hp} {av av' : Addr → Prop} {vs : List V} {ds : List D} (r : RepL K tk H av vs ds) (h : noLs ds = true) : RepL K tk H av' vs ds := r.free h
theorem se_extend {i : Nat} {x : Str} {px pa : Pos} {g : EvL S} (hx : PE X (.Name x px) (tVar i)) (ha : PA X [e] (SL X.K W g)) (hbase : attributeBase (.Name x px) "extend" X.env (eval (.Name x px) X.env) = eval (.Name x px) X.env)
    (hfew : ((backTo pos (starEach [e] X.env)).all (fun x => !x.1) && (backToKw pos (keywordEach [] X.env)).all (fun x => x.1.isSome) && decide (([e] : List Expr).length + ([] : List Keyword).length + (if ([] : List Keyword).isEmpty then 0 else 1) < 30)) = true)
    (hline : (pa.endLine == pos.line) = true) (hs : starEach [e] X.env = (false, eval e X.env) :: starEach [] X.env) : PE X (.Call (.Attribute (.Name x px) "extend" pa) [e] [] pos) (SE X.K W false (extendF i g)) :=
  (pe_bm PySem.F.plainAttrs_list PySem.F.slot_list_extend PySem.F.type_list_extend mt_extend hx ha hbase hfew hline hs rfl).imp fun σ H Q q => by
    obtain ⟨H0, O, A, P, ρ, s, d, ρ', s', r, e, q⟩ := q
    unfold extendF at e
    split at e
    · rename_i t0 ds0 h0
      obtain ⟨p, xs0, hp, hH, _, _⟩ := r.lstL i _ _ h0
      refine ⟨_, hp, tyList hH, ?_⟩
      split at e
      · rename_i es ρ1 s1 h1
        split at e
        · rename_i ds h2
          split at e
          · rename_i hz
            cases e
            refine ⟨H0, O, A, P, ρ, s, [.lst es], ρ1, _, r, h1, fun vs H1 ex r1 rl hx ht => ?_⟩
            cases rl with
            | cons ry rl =>
              cases rl
              cases ry with
              | lst hb hnb rb =>
                rename_i b zs
                obtain ⟨p', xs, hp', hH', hxs, _⟩ := r1.lstL i _ _ h2
                rw [hp] at hp'; cases hp'
                refine ⟨p, b, xs, zs, rfl, rfl, hH', hb, by rw [hxs.length, rb.length]; exact hz, ?_⟩
                have fin : ∀ ρd, Rel ⟨X.K, W, H0, O⟩ A P σ H1 ρd s' → ρd[i]? = some (.own false ds) → RepL X.K W.tok H1 (avL ⟨X.K, W, H0, O⟩ A σ ρd) zs es → Rel ⟨X.K, W, H0, O⟩ A (⟨.non, .non, noEx⟩ :: P) σ (upd H1 p (.lst (xs ++ zs))) (ρd.set i (.own false (ds ++ es))) s' := fun ρd rd hd ry => by
                  obtain ⟨p2, xs2, hp2, hH2, hxs2, _⟩ := rd.lstL i _ _ hd
                  rw [hp] at hp2; cases hp2
                  rw [hH'] at hH2; cases hH2
                  exact (rd.write hd hp (hxs2.append ry)).push .non (fun _ _ z => z) fun _ z => z.elim
                by_cases hy : noLs es = true
                · rw [if_pos hy] at q
                  exact q .non _ noEx (fin ρ1 r1 h2 (rb.free hy)) fun z => Bool.noConfusion z
                · rw [if_neg hy] at q
                  refine q .non _ noEx (fin (freeze ρ1) r1.freeze (freeze_set_own h2) (rb.mono fun a z => ?_)) fun z => Bool.noConfusion z
                  have := freeze_avL z
                  exact ⟨avO_avL this, hx a this⟩
          · cases e
        · cases e
      · cases e
    · cases e
end
end L3
end
section
set_option Elab.async false
set_option linter.all false
set_option maxRecDepth 100000
set_option autoImplicit false
/-! L3zc: defs with defaults (own work). -/
namespace L3
open PySem PySem.Spec PyProof.Rows L2
section
variable {S : Type}
structure GotD (P : Program) (w : World) (K : PySem.W.Frag) (mg : Str → Option Value) (base : Heap) (W : Wd S) (x : Str) (stm : Stmt) (k n : Nat) (ps : List Str) (dvs : List V) (G : List D → S → Option (D × S)) : Prop where
  ex : ∃ fd, FunD K x x (defArgs stm) (defBody stm) (defScope stm) dvs [] (He.ga K x) fd ∧ FnG P w K mg base k (He.ga K x) fd ps (spF K W n G)
  mgx : mg x = some (.ref (He.ga K x))
  len : ∀ ds s r, G ds s = some r → ds.length = n
theorem gotD {P : Program} {w : World} {K : PySem.W.Frag} {mg : Str → Option Value} {base : Heap} {W : Wd S} {x : Str} {stm : Stmt} {N ps : List Str} {k n : Nat} {dvs : List V} {g : Ss S} (F : ∃ fd, FunD K x x (defArgs stm) (defBody stm) (defScope stm) dvs [] (He.ga K x) fd) (hm : mg x = some (.ref (He.ga K x)))
    (C : FnScope N ps (defScope stm)) (hn : ps.length = n) (hN : n ≤ N.length)
    (hb : ∀ (f : Addr) (cdv : Value) (A : Around) (outer : List Env) (s : Shared) (H : Hp) (E : XK), RoomG k (A.deeper (envOfC x (defScope stm) s.heap.objs.size f cdv)) → PSs (cxOf CX0 P w K mg base N x (defScope stm) f cdv A outer s H E).nox (defBody stm) (SS K W g)) :
    GotD P w K mg base W x stm (k + 1) n ps dvs (defN n N.length g) := by
  obtain ⟨fd, F⟩ := F
  refine ⟨⟨fd, F, ?_⟩, hm, fun ds s r h => defN_len h⟩
  refine okGD F C (fun vs H Q E h => h.1.trans hn.symm) fun cdv A outer s H vs Q E hr h => ⟨_, hb _ cdv A outer s H E hr, def_val hN (spF.imp (fun ds s d s' z => ?_) h)⟩
  unfold defN at z
  split at z
  · exact z
  · cases z
variable {X : Cx} {W : Wd S} {e a b c : Expr} {es : List Expr} {pos p : Pos}
/-- arguments, and the defaults behind -/
def dflL (g : EvL S) (dfl : List D) : EvL S := fun ρ s => match g ρ s with
  | some (xs, ρ', s') => some (xs ++ dfl, ρ', s')
  | none => none
/-- f(e, ..), the last parameters left to their defaults -/
theorem callDd {k n : Nat} (nu : Nat) {x : Str} {stm : Stmt} {ps : List Str} {dvs : List V} (dfl : List D) {G : List D → S → Option (D × S)} {g : EvL S} (o : GotD X.prog X.w X.K X.mg X.base W x stm k n ps dvs G) (hr : RoomG k X.A) (hg : Gl X x)
    (hd : dvs ≠ []) (hn : nu + dvs.length = ps.length) (hr0 : ∀ H av, RepL X.K W.tok H av dvs dfl)
    (hbd : ∀ (T : Addr) (kV doc pm : Value) (an : Option Addr) (cdv ct : Value) (us its : List Value), us.length = nu → its.length = dvs.length →
      ∃ k, bindArgs (PySem.W.fnOf x x (defArgs stm) (defBody stm) (defScope stm) (.ref T) kV doc pm an cdv ct) ⟨us, []⟩ = seqItems? (.ref T) >>= k ∧ k (some its.toArray) = pure (ps.zip (us ++ its)))
    (ha : PA X (e :: es) (SL X.K W g)) (hdb : (x == ("__debug__" : Str)) = false) (he : starEach (e :: es) X.env = (false, eval e X.env) :: starEach es X.env) (hpl : (backTo pos (starEach es X.env)).any (·.1) = false) :
    PE X (.Call (.Name x p) (e :: es) [] pos) (SE X.K W false (callF G (dflL g dfl))) := by
  obtain ⟨fd, F, FG⟩ := o.ex
  obtain ⟨ds, rd, hb⟩ := F.binds1 nu 0 hd (by omega) hbd
  refine (pe_callG FG hr hg o.mgx F.kp hb rd ha hdb he hpl).imp fun σ H Q q => ?_
  obtain ⟨H0, O, A, P, ρ, s, d, ρ', s', r, e, q⟩ := q
  obtain ⟨ys, s1, e1, e2⟩ := callF_some e
  unfold dflL at e1
  split at e1
  · rename_i xs ρ2 s2 h1
    cases e1
    refine ⟨H0, O, A, P, ρ, s, xs, ρ', s1, r, h1, fun vs H1 ex r1 rl hx ht => ?_⟩
    show spF X.K W n G (vs ++ dvs) H1 Q E0
    have rl2 := rl.append (hr0 H1 _)
    exact call_val (R := ⟨X.K, W, H0, O⟩) (rl2.length.trans (o.len _ _ _ e2)) r1 rl2 hx e2 fun v H' ex r' => q v H' ex r' fun z => Bool.noConfusion z
  · cases e1
@[simp] theorem d_dflL {ρ : En} {s : S} (g : EvL S) (dfl : List D) : dflL g dfl ρ s = (match g ρ s with
  | some (xs, ρ', s') => some (xs ++ dfl, ρ', s')
  | none => none) := rfl
theorem b_range : bootBuiltins "range" = some (.type "range") := by decide +kernel
theorem sb_din {fa fb : Ev S} {fr1 fr2 : Bool} (hu : X.A.units + 64 < cLine) (ha : PE X a (SE X.K W fr1 fa)) (hb : PE X b (SE X.K W fr2 fb)) (hm : behindInMarks .In b = false) : PT X (.Compare a [.In] [b] pos) (SB X.K W (truF (binF dinD fa fb))) := (pt_cmp (pc_din (by omega) ha hb) hm).imp fun σ H Q q => by
  obtain ⟨H0, O, A, P, ρ, s, k, ρ', s', r, e, q⟩ := q
  obtain ⟨d, ρ1, e1, e2, rfl⟩ := truF_some e
  show tOp rDIn (SE X.K W fr1 fa) (SE X.K W fr2 fb) σ H fun v H1 => ∃ b, v = .bl b ∧ Q b H1
  refine two_val (r := rDIn) (fr := false) v_din ⟨H0, O, A, P, ρ, s, d, ρ1, s', r, e1, fun v H' ex r' _ => ?_⟩
  obtain ⟨_, _, _, _, _, _, e3⟩ := binF_some e1
  obtain ⟨k', rfl⟩ : ∃ k, d = .bl k := by
    unfold dinD at e3
    split at e3
    · split at e3
      · cases e3; exact ⟨_, rfl⟩
      · cases e3
    · cases e3
  cases e2
  have rv := r'.head
  have ev : v = .bl k := by cases rv; rfl
  exact ⟨k, ev, q H' (Rel.thaw0 r.pex r'.tail)⟩
theorem sb_dnin {fa fb : Ev S} {fr1 fr2 : Bool} (hu : X.A.units + 64 < cLine) (ha : PE X a (SE X.K W fr1 fa)) (hb : PE X b (SE X.K W fr2 fb)) (hm : behindInMarks .NotIn b = false) : PT X (.Compare a [.NotIn] [b] pos) (SB X.K W (truF (binF dninD fa fb))) := (pt_cmp (pc_dnotin (by omega) ha hb) hm).imp fun σ H Q q => by
  obtain ⟨H0, O, A, P, ρ, s, k, ρ', s', r, e, q⟩ := q
  obtain ⟨d, ρ1, e1, e2, rfl⟩ := truF_some e
  show tOp rDNin (SE X.K W fr1 fa) (SE X.K W fr2 fb) σ H fun v H1 => ∃ b, v = .bl b ∧ Q b H1
  refine two_val (r := rDNin) (fr := false) v_dnin ⟨H0, O, A, P, ρ, s, d, ρ1, s', r, e1, fun v H' ex r' _ => ?_⟩
  obtain ⟨_, _, _, _, _, _, e3⟩ := binF_some e1
  obtain ⟨k', rfl⟩ : ∃ k, d = .bl k := by
    unfold dninD at e3
    split at e3
    · split at e3
      · cases e3; exact ⟨_, rfl⟩
      · cases e3
    · cases e3
  cases e2
  have rv := r'.head
  have ev : v = .bl k := by cases rv; rfl
  exact ⟨k, ev, q H' (Rel.thaw0 r.pex r'.tail)⟩
theorem dfl_int {K : PySem.W.Frag} {tk : Addr} (i : Int) (H : Hp) (av : Addr → Prop) : RepL K tk H av [.int i] [.int i] := .cons (.int i) .nil
end
section
variable {S : Type} {ρ : En} {s : S}
@[simp] theorem d_bitsF (f : Ev S) : bitsF f ρ s = (match f ρ s with
  | some (.int i, ρ', s') => some (.int (Builtin.Int.intBits i : Nat), ρ', s')
  | _ => none) := rfl
@[simp] theorem d_invF (f : Ev S) : invF f ρ s = (match f ρ s with
  | some (.int i, ρ', s') => some (.int (Builtin.bitNot i), ρ', s')
  | _ => none) := rfl
@[simp] theorem d_rgItF (f : Ev S) : rgItF f ρ s = (match f ρ s with
  | some (d, ρ', s') => (match rngItems d with
    | some items => some (items, ρ', s')
    | none => none)
  | none => none) := rfl
@[simp] theorem d_extendF (i : Nat) (g : EvL S) : extendF i g ρ s = (match ρ[i]? with
  | some (.ownD _ (.lst _)) => match g ρ s with
    | some ([.lst es], ρ1, s1) => match ρ1[i]? with
      | some (.ownD false (.lst ds)) => if ds.length + es.length ≤ sizeLine then some (.non, (if noLs es then ρ1 else freeze ρ1).set i (.own false (ds ++ es)), s1) else none
      | _ => none
    | _ => none
  | _ => none) := rfl
/-- a dict comprehension whose turns leave all but its own slots -/
theorem turnsK_map {α : Type} {own : List Nat} {tg : D → En → Option En} {cond : EvB S} {fk fv : Ev S} {B : En} (c : α → D) (k : α → Key) (f : α → D) : ∀ (xs : List α), (∀ x ∈ xs, ∃ ρ1 ρ2 ρ3 ρ4 d, tg (c x) B = some ρ1 ∧ cond ρ1 s = some (true, ρ2, s) ∧ fk ρ2 s = some (d, ρ3, s) ∧ keyD d = some (k x) ∧ fv ρ3 s = some (f x, ρ4, s) ∧ flatD (f x) = true ∧ wipeE ρ4 own = B) →
    ∀ (acc : List (Key × D)) (ρ : En), wipeE ρ own = B → acc.length + xs.length ≤ sizeLine → ∃ ρ', turnsK own tg cond fk fv (xs.map c) acc ρ s = some (xs.foldl (fun z x => setK z (k x) (f x)) acc, ρ', s) ∧ wipeE ρ' own = B
  | [], _, acc, ρ, hw, _ => ⟨ρ, rfl, hw⟩
  | x :: xs, h, acc, ρ, hw, hz => by
    obtain ⟨ρ1, ρ2, ρ3, ρ4, d, h1, h2, h3, h4, h5, h6, h7⟩ := h x List.mem_cons_self
    rw [List.length_cons] at hz
    have hl : (setK acc (k x) (f x)).length ≤ acc.length + 1 := by
      unfold setK
      split
      · rw [List.length_map]; omega
      · rw [List.length_append]; simp
    obtain ⟨ρ', e1, e2⟩ := turnsK_map c k f xs (fun y hy => h y (List.mem_cons_of_mem _ hy)) (setK acc (k x) (f x)) ρ4 h7 (by omega)
    refine ⟨ρ', ?_, e2⟩
    rw [List.map_cons]
    unfold turnsK
    rw [hw, h1]
    simp only [h2, h3, h4, h5]
    rw [if_pos ⟨h6, by omega⟩]
    exact e1
theorem dc_map {α : Type} {own : List Nat} {it : EvL S} {tg : D → En → Option En} {cond : EvB S} {fk fv : Ev S} {ρ ρ1 : En} {s s1 : S} (xs : List α) (c : α → D) (k : α → Key) (f : α → D) (hi : it ρ s = some (xs.map c, ρ1, s1)) (hno : noOwn own ρ1 = true) (hz : xs.length ≤ sizeLine)
    (h : ∀ x ∈ xs, ∃ ρ2 ρ3 ρ4 ρ5 d, tg (c x) (wipeE ρ1 own) = some ρ2 ∧ cond ρ2 s1 = some (true, ρ3, s1) ∧ fk ρ3 s1 = some (d, ρ4, s1) ∧ keyD d = some (k x) ∧ fv ρ4 s1 = some (f x, ρ5, s1) ∧ flatD (f x) = true ∧ wipeE ρ5 own = wipeE ρ1 own) :
    dcF own it tg cond fk fv ρ s = some (.dic (xs.foldl (fun z x => setK z (k x) (f x)) []), ρ1, s1) := by
  obtain ⟨ρ', e1, e2⟩ := turnsK_map c k f xs h [] ρ1 rfl (by simpa using hz)
  unfold dcF
  rw [hi]
  simp only [hno, if_true, e1]
  rw [e2, backE_wipe]
end
end L3
end
section
set_option Elab.async false
set_option linter.all false
set_option maxRecDepth 100000
set_option autoImplicit false
/-! L3zd: names set side by side, those among them that inner blocks share (own work). -/
namespace L3
open PySem PySem.Spec PyProof.Rows L2
section
variable {S : Type} {X : Cx} {W : Wd S} {a b c : Expr} {pos : Pos}
theorem par_any {K : PySem.W.Frag} {is : List Nat} {f : EvI S} {E : Ends} {σ : L2.St} {H : Hp} (h : SS K W (parF is f) E σ H) : SLI K W f σ H fun vs H' => ∀ H'', Same H' H'' → vs.length = is.length ∧ E.nx (setAll σ is vs) H'' := by
  obtain ⟨H0, O, A, P, ρ, s, its, ρ', s', r, e, q⟩ := par_val (E := { E with nx := fun σ1 H1 => ∀ H'', Same H1 H'' → E.nx σ1 H'' }) (by
    obtain ⟨H0, O, P, ρ, s, o, ρ', s', r, e, q⟩ := h
    refine ⟨H0, O, P, ρ, s, o, ρ', s', r, e, ?_⟩
    cases o with
    | nx => exact fun σ1 H1 r1 H2 k => q σ1 H2 (r1.same k)
    | bk => exact q
    | ct => exact q
    | rt d => exact q)
  exact ⟨H0, O, A, P, ρ, s, its, ρ', s', r, e, fun vs H' A2 P2 r2 m H'' k => ⟨(q vs H' A2 P2 r2 m).1, (q vs H' A2 P2 r2 m).2 H'' k⟩⟩
theorem ss_parC2 {i j : Nat} {x y : Str} {f : EvI S} {px py pt : Pos} {kt k2 : Nat} {pt2 : Pos} (hc : X.calm = true) (hN : X.N.Nodup) (hi : X.N[i]? = some x) (hj : X.N[j]? = some y)
    (hx : Loc X.env.scope x) (hfx : X.fn x = true ∨ X.env.scope.names.lookup x = some .local) (hy : Loc X.env.scope y) (hfy : X.fn y = true ∨ X.env.scope.names.lookup y = some .local) (ha : PA X [a, b] (SLI X.K W f))
    (hs : swapsWithSole [.Tuple [.Name x px, .Name y py] kt pt] (.Tuple [a, b] k2 pt2) pos.line X.env = pure false)
    (hw : swappedStores [.Tuple [.Name x px, .Name y py] kt pt] (.Tuple [a, b] k2 pt2) X.env = pure none)
    (h1 : (assignEach [.Tuple [.Name x px, .Name y py] kt pt] X.env).map (·.2) = [assign (.Tuple [.Name x px, .Name y py] kt pt) X.env])
    (hn : (assignEach [.Name x px, .Name y py] X.env).length = 2) (hst : (assignEach [.Name x px, .Name y py] X.env).findIdx? (·.1) = none)
    (e1 : (assignEach [.Name x px, .Name y py] X.env).map (·.2) = assign (.Name x px) X.env :: (assignEach [.Name y py] X.env).map (·.2))
    (e2 : (assignEach [.Name y py] X.env).map (·.2) = assign (.Name y py) X.env :: (assignEach [] X.env).map (·.2)) :
    PS X (.Assign [.Tuple [.Name x px, .Name y py] kt pt] (.Tuple [a, b] k2 pt2) pos) (SS X.K W (parF [i, j] f)) :=
  (ps_asg (pe_tup ha) (pg_tup hc (pgs_cons (pg_name hN hi hx hfx) (pgs_cons (pg_name hN hj hy hfy) pgs_nil e2) e1) hn hst) hs hw h1).imp fun E σ H q => by
    obtain ⟨H0, O, A, P, ρ, s, its, ρ', s', r, e, k⟩ := par_any q
    refine ⟨H0, O, A, P, ρ, s, its, ρ', s', r, e, fun vs H' A2 P2 r2 m => ?_⟩
    have hl := (k vs H' A2 P2 r2 m H' (Same.refl _)).1
    match vs, hl with
    | [v, w], _ =>
      refine ⟨by rw [sizeLine_eq]; show 2 ≤ 16777216; decide, fun p hp => ?_⟩
      obtain ⟨_, z⟩ := k [v, w] H' A2 P2 r2 m (upd H' p (.tup [v, w])) (same_upd hp)
      exact ⟨p, [v, w], rfl, .inl (.inl upd_same), rfl, v, [w], rfl, w, [], rfl, rfl, z⟩
end
end L3
end
section
set_option Elab.async false
set_option linter.all false
set_option maxRecDepth 100000
set_option autoImplicit false
/-! L3ze: dicts of a frame's own: {}, d[k] = v, sorted(d) (own work). -/
namespace L3
open PySem PySem.Spec PyProof.Rows L2
section
variable {S : Type} {X : Cx} {W : Wd S} {e a b c tg : Expr} {es : List Expr} {pos pos' : Pos}
def dnewF : Ev S := fun ρ s => some (.dic [], ρ, s)
def tnewF : Ev S := fun ρ s => some (.dit [] [], ρ, s)
theorem new_box {fr : Bool} {d : D} {o : HO} {K : PySem.W.Frag} {σ : L2.St} {H : Hp} {Q : VK} (ho : ∀ H av, RepO K W.tok H av o d) (q : SE K W fr (fun ρ s => some (d, ρ, s)) σ H Q) : ∀ p, H p = none → Q (.ref p) (upd H p o) := by
  obtain ⟨H0, O, A, P, ρ, s, d', ρ', s', r, e, q⟩ := q
  cases e
  intro p hp
  have fin := fin_val (fr := fr) r (fun a _ (z : noEx a) => z) (fun a (z : noEx a) => z.elim) q
  exact fin.box (fun a z => r.avT z.1) (ho _ _) hp
theorem se_dnew : PE X (.Dict [] [] pos) (SE X.K W true dnewF) := pe_dnewK.imp fun σ H Q q => new_box (d := .dic []) (fun H av => ⟨[], rfl, .nil⟩) q
theorem se_tnew : PE X (.Dict [] [] pos) (SE X.K W true tnewF) := pe_dnewT.imp fun σ H Q q => new_box (d := .dit [] []) (fun H av => ⟨[], rfl, rfl, .nil⟩) q
/-- x[k] = v, x an own dict -/
def dsetF (i : Nat) (f g : Ev S) : Ss S := fun ρ s => match f ρ s with
  | some (d, ρ1, s1) => match ρ1[i]? with
    | some (.ownD _ (.dic _)) => match g (if noL d then thaw ρ ρ1 else ρ1) s1 with
      | some (kd, ρ2, s2) => match ρ2[i]? with
        | some (.ownD false (.dic kds)) => match keyD kd with
          | some k => if kds.length < sizeLine then some (.nx, (if noL d then ρ2 else freeze ρ2).set i (.ownD false (.dic (setK kds k d))), s2) else none
          | none => none
        | _ => none
      | _ => none
    | _ => none
  | none => none
theorem freeze_set_ownD {ρ : En} {i : Nat} {d : D} (h : ρ[i]? = some (.ownD false d)) : (freeze ρ)[i]? = some (.ownD false d) := by rw [freeze_get, h]; rfl
theorem ss_dset {i : Nat} {x : Str} {px : Pos} {f g : Ev S} {fr1 fr2 : Bool} (hu : X.A.units + 64 < cLine) (hx : PE X (.Name x px) (tVar i)) (he : PE X e (SE X.K W fr1 f)) (hg : PE X a (SE X.K W fr2 g))
    (hs : swapsWith e (some (.Subscript (.Name x px) a pos')) pos.line X.env = pure false) :
    PS X (.Assign [.Subscript (.Name x px) a pos'] e pos) (SS X.K W (dsetF i f g)) := (ps_dput (by omega) hx hg he hs).imp fun E σ H q => by
  obtain ⟨H0, O, P, ρ, s, o, ρ', s', r, e, q⟩ := q
  unfold dsetF at e
  split at e
  · rename_i d ρ1 s1 h1
    refine ⟨H0, O, [], P, ρ, s, d, ρ1, s1, r, h1, fun v H1 ex r1 _ => ?_⟩
    split at e
    · rename_i t0 ds0 h2
      split at e
      · rename_i kd ρ2 s2 h3
        split at e
        · rename_i kds h4
          split at e
          · rename_i k hk
            split at e
            · rename_i hz
              cases e
              obtain ⟨ex', r1'⟩ : ∃ ex', Rel ⟨X.K, W, H0, O⟩ [] (⟨v, d, ex'⟩ :: P) σ H1 (if noL d then L3.thaw ρ ρ1 else ρ1) s1 := by
                by_cases hd : noL d = true
                · rw [if_pos hd]
                  exact ⟨_, Rel.thaw r.pex r1 hd⟩
                · rw [if_neg hd]
                  exact ⟨_, r1⟩
              obtain ⟨p0, o0, hp0, _, _, _⟩ := r1.lst i _ _ h2
              refine ⟨_, hp0, H0, O, [], _, _, s1, kd, ρ2, _, r1', h3, fun w H2 ex2 r2 _ => ?_⟩
              obtain ⟨p, o, hp, hH, ⟨kvs, rfl, hxs⟩, _⟩ := r2.lst i _ _ h4
              rw [hp0] at hp
              cases hp
              have ew : w = kV k := key_rep r2.head hk
              subst ew
              refine ⟨p0, _, rfl, .k hH (by rw [hxs.length]; exact hz), ?_⟩
              have r3 := r2.tail
              have go : ∀ ρd, Rel ⟨X.K, W, H0, O⟩ [] P σ H2 ρd s' → ρd[i]? = some (.ownD false (.dic kds)) → Rep X.K W.tok H2 (avL ⟨X.K, W, H0, O⟩ [] σ ρd) v d → Rel ⟨X.K, W, H0, O⟩ [] P σ (upd H2 p0 (.dK (putK kvs k v))) (ρd.set i (.ownD false (.dic (setK kds k d)))) s' := fun ρd rd hd ry => by
                obtain ⟨p2, o2, hp2, hH2, ⟨kvs2, rfl, hxs2⟩, _⟩ := rd.lst i _ _ hd
                rw [hp0] at hp2; cases hp2
                rw [hH] at hH2; cases hH2
                exact rd.writeO hd hp0 ⟨_, rfl, hxs2.put k ry⟩
              by_cases hd : noL d = true
              · rw [if_pos hd] at q
                exact q σ _ (go ρ2 r3.tail h4 (r3.head.free hd))
              · rw [if_neg hd] at q
                exact q σ _ (go (L3.freeze ρ2) r3.tail.freeze (freeze_set_ownD h4) (r3.headO.mono fun a z => freeze_avL z))
            · cases e
          · cases e
        · cases e
      · cases e
    · cases e
  · cases e
/-! ### sorted(d) -/
def keysI : List (Key × D) → Option (List Int)
  | [] => some []
  | (.inl i, _) :: r => (keysI r).map (i :: ·)
  | _ => none
def sdictD : List D → Option D
  | [.dic kds] => match keysI kds with
    | some ks => if ks.length < 64 then some (.lst ((sortI ks).map .int)) else none
    | none => none
  | _ => none
theorem repK_keys {K : PySem.W.Frag} {tk : Addr} {H : Hp} {av : Addr → Prop} : ∀ {kvs : List (Key × V)} {ds : List (Key × D)}, RepK K tk H av kvs ds → kvs.map (·.1) = ds.map (·.1)
  | _, _, .nil => rfl
  | _, _, .cons _ r => by rw [List.map_cons, List.map_cons, repK_keys r]
theorem keysI_eq : ∀ {kds : List (Key × D)} {ks : List Int}, keysI kds = some ks → kds.map (·.1) = ks.map Sum.inl
  | [], ks, h => by cases h; rfl
  | (.inl i, d) :: r, ks, h => by
    unfold keysI at h
    cases z : keysI r with
    | none => rw [z] at h; cases h
    | some js =>
      rw [z] at h
      cases h
      rw [List.map_cons, List.map_cons, keysI_eq z]
  | (.inr x, d) :: r, ks, h => by cases h
theorem repL_ints {K : PySem.W.Frag} {tk : Addr} {H : Hp} {av : Addr → Prop} : ∀ (ys : List Int), RepL K tk H av (ys.map V.int) (ys.map D.int)
  | [] => .nil
  | y :: ys => .cons (.int y) (repL_ints ys)
theorem cv_sdict {K : PySem.W.Frag} {tk : Addr} : VC K tk (fun xs H Q => ∃ (a : Addr) (kvs : List (Key × V)) (ks : List Int), xs = [.ref a] ∧ Rd H a (.dK kvs) ∧ kvs.map (·.1) = ks.map Sum.inl ∧ ks.length < 64 ∧
    ∀ (ys : List Int) (p : Addr), ys.Perm ks → ys.Pairwise (· ≤ ·) → H p = none → Q (.ref p) (upd H p (.lst (ys.map V.int)))) sdictD := by
  intro H av xs ds d Q hav rl e hq
  unfold sdictD at e
  split at e
  · rename_i kds
    split at e
    · rename_i ks hk
      split at e
      · rename_i h64
        cases e
        cases rl with
        | cons ry rl =>
          cases rl
          cases ry with
          | dic hp n rk =>
            refine ⟨_, _, ks, rfl, .inl hp, (repK_keys rk).trans (keysI_eq hk), h64, fun ys p hperm hpw h0 => ?_⟩
            have := sortI_eq hperm hpw
            subst this
            exact hq.lst hav (repL_ints _) h0
      · cases e
    · cases e
  · cases e
/-- in short -/
theorem se_sdict {f : EvL S} {p : Pos} (hc : X.calm = true) (hg : Gl X "sorted") (hm : X.mg "sorted" = none) (hb : bootBuiltins "sorted" = some (.builtin "sorted")) (ha : PA X (e :: es) (SL X.K W f))
    (he : starEach (e :: es) X.env = (false, eval e X.env) :: starEach es X.env) (hpl : (backTo pos (starEach es X.env)).any (·.1) = false) :
    PE X (.Call (.Name "sorted" p) (e :: es) [] pos) (SE X.K W true (mapF sdictD f)) := se_callB (call_sortedDI hc) cv_sdict hg hm hb ha (by decide) (by decide) he hpl
end
end L3
end
section
set_option Elab.async false
set_option linter.all false
set_option maxRecDepth 100000
set_option autoImplicit false
/-! L3zf: a list times an integer (own work). -/
namespace L3
open PySem PySem.Spec PyProof.Rows L2
section
variable {X : Cx} {tk : Addr}
def repD : D → D → Option D
  | .lst xs, .int k => if 0 ≤ k ∧ k ≤ 1000 ∧ xs.length ≤ 1000 then some (.lst (List.replicate k.toNat xs).flatten) else none
  | _, _ => none
theorem RepL.rep {K : PySem.W.Frag} {H : Hp} {av : Addr → Prop} {vs : List V} {ds : List D} (h : RepL K tk H av vs ds) : ∀ n : Nat, RepL K tk H av (List.replicate n vs).flatten (List.replicate n ds).flatten
  | 0 => .nil
  | n + 1 => by
    rw [List.replicate_succ, List.replicate_succ, List.flatten_cons, List.flatten_cons]
    exact h.append (RepL.rep h n)
theorem ov_rep : OpV X tk (binaryOp .Mult) repD := by
  refine ⟨_, op_rep, fun H av x y dx dy d Q hav rx ry e q => ?_⟩
  unfold repD at e
  split at e
  · split at e
    · rename_i hz
      cases e
      cases ry
      cases rx with
      | lst h1 n1 r1 =>
        rename_i ds k a vs
        have hm : vs.length * k.toNat ≤ 1000 * 1000 := Nat.mul_le_mul (by rw [r1.length]; exact hz.2.2) (by omega)
        refine ⟨_, k, vs, rfl, rfl, h1, by omega, by omega, ?_, fun p hp => q.lst hav (r1.rep _) hp⟩
        have : sizeLine = 16777216 := sizeLine_eq
        omega
    · cases e
  · cases e
@[simp] theorem o_rep (xs : List D) (k : Int) : repD (.lst xs) (.int k) = if 0 ≤ k ∧ k ≤ 1000 ∧ xs.length ≤ 1000 then some (.lst (List.replicate k.toNat xs).flatten) else none := rfl
@[simp] theorem d_dnewF {S : Type} (ρ : En) (s : S) : dnewF ρ s = some (.dic [], ρ, s) := rfl
@[simp] theorem noL_dic0 (ks : List (Key × D)) : noL (.dic ks) = false := rfl
end
end L3
end
section
set_option Elab.async false
set_option linter.all false
set_option maxRecDepth 100000
set_option autoImplicit false
set_option maxHeartbeats 0
namespace Q
open PySem PySem.Spec PyProof.Rows L2 L3
def topS (i : Nat) : Stmt := PySem.Challenge.pw_bothandall_k10_least_greatest_depths_ste.main.body.getD i (.Pass ⟨0, 0, 0, 0⟩)
abbrev s_is_integer : Stmt := topS 5
abbrev s_is_between : Stmt := topS 6
abbrev s_are_between : Stmt := topS 7
abbrev s_is_table_value : Stmt := topS 10
abbrev s_mask_of : Stmt := topS 11
abbrev s_bits_of : Stmt := topS 12
abbrev s_ups_of : Stmt := topS 13
abbrev s_downs_of : Stmt := topS 14
abbrev s_order_fault : Stmt := topS 15
abbrev s_fault_of : Stmt := topS 16
abbrev s_is_house_value : Stmt := topS 17
abbrev s_alls_of : Stmt := topS 18
abbrev s_least_of : Stmt := topS 19
abbrev s_greatest_of : Stmt := topS 20
abbrev s_all_of_some : Stmt := topS 21
abbrev s_by_size : Stmt := topS 22
abbrev s_depths_of : Stmt := topS 23
abbrev s_steps_of : Stmt := topS 24
abbrev s_pieces_of : Stmt := topS 25
abbrev s_need_house : Stmt := topS 27
abbrev s_need_lot : Stmt := topS 28
abbrev s_need_two_lots : Stmt := topS 30
abbrev s_all_of : Stmt := topS 31
abbrev s_least : Stmt := topS 32
abbrev s_greatest : Stmt := topS 33
abbrev s_pieces : Stmt := topS 34
abbrev s_depths : Stmt := topS 35
abbrev s_steps_above : Stmt := topS 36
abbrev s_turned_over : Stmt := topS 38
abbrev s_pieces_in : Stmt := topS 41
abbrev s_pieces_within : Stmt := topS 42
abbrev s_lot_with : Stmt := topS 43
abbrev s__law_deck : Stmt := topS 45
abbrev s__law_draw : Stmt := topS 46
abbrev s__law_pick : Stmt := topS 47
abbrev s__law_table : Stmt := topS 48
abbrev s__law_met : Stmt := topS 49
abbrev s__law_family : Stmt := topS 50
abbrev s__law_over : Stmt := topS 51
abbrev s__law_order : Stmt := topS 52
abbrev s__law_house : Stmt := topS 53
abbrev s__law_greatest : Stmt := topS 54
abbrev s__law_both : Stmt := topS 55
abbrev s__law_all : Stmt := topS 56
abbrev s__law_least : Stmt := topS 57
abbrev s__law_pieces : Stmt := topS 58
abbrev s__law_above : Stmt := topS 59
abbrev s__law_depths : Stmt := topS 60
abbrev s__law_are_steps : Stmt := topS 61
abbrev s_law : Stmt := topS 62
def d_is_integer : He.DefD := ⟨("is_integer", none), "is_integer", "is_integer", defArgs s_is_integer, defBody s_is_integer, defScope s_is_integer, [], []⟩
def d_is_between : He.DefD := ⟨("is_between", none), "is_between", "is_between", defArgs s_is_between, defBody s_is_between, defScope s_is_between, [], []⟩
def d_are_between : He.DefD := ⟨("are_between", none), "are_between", "are_between", defArgs s_are_between, defBody s_are_between, defScope s_are_between, [], []⟩
def d_is_table_value : He.DefD := ⟨("is_table_value", none), "is_table_value", "is_table_value", defArgs s_is_table_value, defBody s_is_table_value, defScope s_is_table_value, [.int 24], []⟩
def d_mask_of : He.DefD := ⟨("mask_of", none), "mask_of", "mask_of", defArgs s_mask_of, defBody s_mask_of, defScope s_mask_of, [], []⟩
def d_bits_of : He.DefD := ⟨("bits_of", none), "bits_of", "bits_of", defArgs s_bits_of, defBody s_bits_of, defScope s_bits_of, [], []⟩
def d_ups_of : He.DefD := ⟨("ups_of", none), "ups_of", "ups_of", defArgs s_ups_of, defBody s_ups_of, defScope s_ups_of, [], []⟩
def d_downs_of : He.DefD := ⟨("downs_of", none), "downs_of", "downs_of", defArgs s_downs_of, defBody s_downs_of, defScope s_downs_of, [], []⟩
def d_order_fault : He.DefD := ⟨("order_fault", none), "order_fault", "order_fault", defArgs s_order_fault, defBody s_order_fault, defScope s_order_fault, [], []⟩
def d_fault_of : He.DefD := ⟨("fault_of", none), "fault_of", "fault_of", defArgs s_fault_of, defBody s_fault_of, defScope s_fault_of, [], []⟩
def d_is_house_value : He.DefD := ⟨("is_house_value", none), "is_house_value", "is_house_value", defArgs s_is_house_value, defBody s_is_house_value, defScope s_is_house_value, [], []⟩
def d_alls_of : He.DefD := ⟨("alls_of", none), "alls_of", "alls_of", defArgs s_alls_of, defBody s_alls_of, defScope s_alls_of, [], []⟩
def d_least_of : He.DefD := ⟨("least_of", none), "least_of", "least_of", defArgs s_least_of, defBody s_least_of, defScope s_least_of, [], []⟩
def d_greatest_of : He.DefD := ⟨("greatest_of", none), "greatest_of", "greatest_of", defArgs s_greatest_of, defBody s_greatest_of, defScope s_greatest_of, [], []⟩
def d_all_of_some : He.DefD := ⟨("all_of_some", none), "all_of_some", "all_of_some", defArgs s_all_of_some, defBody s_all_of_some, defScope s_all_of_some, [], []⟩
def d_by_size : He.DefD := ⟨("by_size", none), "by_size", "by_size", defArgs s_by_size, defBody s_by_size, defScope s_by_size, [], []⟩
def d_depths_of : He.DefD := ⟨("depths_of", none), "depths_of", "depths_of", defArgs s_depths_of, defBody s_depths_of, defScope s_depths_of, [], []⟩
def d_steps_of : He.DefD := ⟨("steps_of", none), "steps_of", "steps_of", defArgs s_steps_of, defBody s_steps_of, defScope s_steps_of, [], []⟩
def d_pieces_of : He.DefD := ⟨("pieces_of", none), "pieces_of", "pieces_of", defArgs s_pieces_of, defBody s_pieces_of, defScope s_pieces_of, [], []⟩
def d_need_house : He.DefD := ⟨("need_house", none), "need_house", "need_house", defArgs s_need_house, defBody s_need_house, defScope s_need_house, [], []⟩
def d_need_lot : He.DefD := ⟨("need_lot", none), "need_lot", "need_lot", defArgs s_need_lot, defBody s_need_lot, defScope s_need_lot, [], []⟩
def d_need_two_lots : He.DefD := ⟨("need_two_lots", none), "need_two_lots", "need_two_lots", defArgs s_need_two_lots, defBody s_need_two_lots, defScope s_need_two_lots, [], []⟩
def d_all_of : He.DefD := ⟨("all_of", none), "all_of", "all_of", defArgs s_all_of, defBody s_all_of, defScope s_all_of, [], []⟩
def d_least : He.DefD := ⟨("least", none), "least", "least", defArgs s_least, defBody s_least, defScope s_least, [], []⟩
def d_greatest : He.DefD := ⟨("greatest", none), "greatest", "greatest", defArgs s_greatest, defBody s_greatest, defScope s_greatest, [], []⟩
def d_pieces : He.DefD := ⟨("pieces", none), "pieces", "pieces", defArgs s_pieces, defBody s_pieces, defScope s_pieces, [], []⟩
def d_depths : He.DefD := ⟨("depths", none), "depths", "depths", defArgs s_depths, defBody s_depths, defScope s_depths, [], []⟩
def d_steps_above : He.DefD := ⟨("steps_above", none), "steps_above", "steps_above", defArgs s_steps_above, defBody s_steps_above, defScope s_steps_above, [], []⟩
def d_turned_over : He.DefD := ⟨("turned_over", none), "turned_over", "turned_over", defArgs s_turned_over, defBody s_turned_over, defScope s_turned_over, [], []⟩
def d_pieces_in : He.DefD := ⟨("pieces_in", none), "pieces_in", "pieces_in", defArgs s_pieces_in, defBody s_pieces_in, defScope s_pieces_in, [], []⟩
def d_pieces_within : He.DefD := ⟨("pieces_within", none), "pieces_within", "pieces_within", defArgs s_pieces_within, defBody s_pieces_within, defScope s_pieces_within, [], []⟩
def d_lot_with : He.DefD := ⟨("lot_with", none), "lot_with", "lot_with", defArgs s_lot_with, defBody s_lot_with, defScope s_lot_with, [], []⟩
def d__law_deck : He.DefD := ⟨("_law_deck", none), "_law_deck", "_law_deck", defArgs s__law_deck, defBody s__law_deck, defScope s__law_deck, [], []⟩
def d__law_draw : He.DefD := ⟨("_law_draw", none), "_law_draw", "_law_draw", defArgs s__law_draw, defBody s__law_draw, defScope s__law_draw, [], []⟩
def d__law_pick : He.DefD := ⟨("_law_pick", none), "_law_pick", "_law_pick", defArgs s__law_pick, defBody s__law_pick, defScope s__law_pick, [], []⟩
def d__law_table : He.DefD := ⟨("_law_table", none), "_law_table", "_law_table", defArgs s__law_table, defBody s__law_table, defScope s__law_table, [], []⟩
def d__law_met : He.DefD := ⟨("_law_met", none), "_law_met", "_law_met", defArgs s__law_met, defBody s__law_met, defScope s__law_met, [], []⟩
def d__law_family : He.DefD := ⟨("_law_family", none), "_law_family", "_law_family", defArgs s__law_family, defBody s__law_family, defScope s__law_family, [], []⟩
def d__law_over : He.DefD := ⟨("_law_over", none), "_law_over", "_law_over", defArgs s__law_over, defBody s__law_over, defScope s__law_over, [], []⟩
def d__law_order : He.DefD := ⟨("_law_order", none), "_law_order", "_law_order", defArgs s__law_order, defBody s__law_order, defScope s__law_order, [], []⟩
def d__law_house : He.DefD := ⟨("_law_house", none), "_law_house", "_law_house", defArgs s__law_house, defBody s__law_house, defScope s__law_house, [], []⟩
def d__law_greatest : He.DefD := ⟨("_law_greatest", none), "_law_greatest", "_law_greatest", defArgs s__law_greatest, defBody s__law_greatest, defScope s__law_greatest, [], []⟩
def d__law_both : He.DefD := ⟨("_law_both", none), "_law_both", "_law_both", defArgs s__law_both, defBody s__law_both, defScope s__law_both, [], []⟩
def d__law_all : He.DefD := ⟨("_law_all", none), "_law_all", "_law_all", defArgs s__law_all, defBody s__law_all, defScope s__law_all, [], []⟩
def d__law_least : He.DefD := ⟨("_law_least", none), "_law_least", "_law_least", defArgs s__law_least, defBody s__law_least, defScope s__law_least, [], []⟩
def d__law_pieces : He.DefD := ⟨("_law_pieces", none), "_law_pieces", "_law_pieces", defArgs s__law_pieces, defBody s__law_pieces, defScope s__law_pieces, [], []⟩
def d__law_above : He.DefD := ⟨("_law_above", none), "_law_above", "_law_above", defArgs s__law_above, defBody s__law_above, defScope s__law_above, [], []⟩
def d__law_depths : He.DefD := ⟨("_law_depths", none), "_law_depths", "_law_depths", defArgs s__law_depths, defBody s__law_depths, defScope s__law_depths, [], []⟩
def d__law_are_steps : He.DefD := ⟨("_law_are_steps", none), "_law_are_steps", "_law_are_steps", defArgs s__law_are_steps, defBody s__law_are_steps, defScope s__law_are_steps, [], []⟩
def d_law : He.DefD := ⟨("law", none), "law", "law", defArgs s_law, defBody s_law, defScope s_law, [], []⟩
def fn0 : List He.DefD := [d_is_integer, d_is_between, d_are_between, d_is_table_value, d_mask_of, d_bits_of, d_ups_of, d_downs_of, d_order_fault, d_fault_of, d_is_house_value, d_alls_of]
def fn1 : List He.DefD := [d_least_of, d_greatest_of, d_all_of_some, d_by_size, d_depths_of, d_steps_of, d_pieces_of, d_need_house, d_need_lot, d_need_two_lots, d_all_of, d_least]
def fn2 : List He.DefD := [d_greatest, d_pieces, d_depths, d_steps_above, d_turned_over, d_pieces_in, d_pieces_within, d_lot_with, d__law_deck, d__law_draw, d__law_pick, d__law_table]
def fn3 : List He.DefD := [d__law_met, d__law_family, d__law_over, d__law_order, d__law_house, d__law_greatest, d__law_both, d__law_all, d__law_least, d__law_pieces, d__law_above, d__law_depths]
def fn4 : List He.DefD := [d__law_are_steps, d_law]
abbrev fn : List He.DefD := fn0 ++ fn1 ++ fn2 ++ fn3 ++ fn4
def fa0 : List He.Fa := [.glo "is_integer", .glo "is_between", .glo "are_between", .glo "is_table_value", .glo "mask_of", .glo "bits_of", .glo "ups_of", .glo "downs_of", .glo "order_fault", .glo "fault_of", .glo "is_house_value", .glo "alls_of"]
def fa1 : List He.Fa := [.glo "least_of", .glo "greatest_of", .glo "all_of_some", .glo "by_size", .glo "depths_of", .glo "steps_of", .glo "pieces_of", .glo "need_house", .glo "need_lot", .glo "need_two_lots", .glo "all_of", .glo "least"]
def fa2 : List He.Fa := [.glo "greatest", .glo "pieces", .glo "depths", .glo "steps_above", .glo "turned_over", .glo "pieces_in", .glo "pieces_within", .glo "lot_with", .glo "_law_deck", .glo "_law_draw", .glo "_law_pick", .glo "_law_table"]
def fa3 : List He.Fa := [.glo "_law_met", .glo "_law_family", .glo "_law_over", .glo "_law_order", .glo "_law_house", .glo "_law_greatest", .glo "_law_both", .glo "_law_all", .glo "_law_least", .glo "_law_pieces", .glo "_law_above", .glo "_law_depths"]
def fa4 : List He.Fa := [.glo "_law_are_steps", .glo "law", .free "all", .free "any", .free "bool", .free "enumerate", .free "int", .free "isinstance", .free "len", .free "list", .free "max", .free "min"]
def fa5 : List He.Fa := [.free "range", .free "repr", .free "sorted", .free "sum", .free "tuple", .int "MOST_LOTS" 24, .int "MOST_ASKED" 24]
abbrev fa : List He.Fa := fa0 ++ fa1 ++ fa2 ++ fa3 ++ fa4 ++ fa5
abbrev R : PySem.W.OpenRow := PySem.W.OpenLaw.row PySem.Challenge.rw_bothandall_k10_least_greatest_depths_ste
abbrev qv : Program := PySem.W.view R.prog [62]
def loose0 : List PySem.Str := ["is_integer", "is_between", "are_between", "is_table_value", "mask_of", "bits_of", "ups_of", "downs_of", "order_fault", "fault_of", "is_house_value", "alls_of"]
def loose1 : List PySem.Str := ["least_of", "greatest_of", "all_of_some", "by_size", "depths_of", "steps_of", "pieces_of", "need_house", "need_lot", "need_two_lots", "all_of", "least"]
def loose2 : List PySem.Str := ["greatest", "pieces", "depths", "steps_above", "turned_over", "pieces_in", "pieces_within", "lot_with", "_law_deck", "_law_draw", "_law_pick", "_law_table"]
def loose3 : List PySem.Str := ["_law_met", "_law_family", "_law_over", "_law_order", "_law_house", "_law_greatest", "_law_both", "_law_all", "_law_least", "_law_pieces", "_law_above", "_law_depths"]
def loose4 : List PySem.Str := ["_law_are_steps", "HouseError", "BadHouse", "BadLot", "MOST_LOTS", "MOST_ASKED"]
abbrev loose : List PySem.Str := loose0 ++ loose1 ++ loose2 ++ loose3 ++ loose4
theorem keyOk : KeyOk "cells" "draws" := ⟨by decide, by decide, by decide⟩
section
variable {P : Program} {w : World} {K : PySem.W.Frag} {mg : Str → Option Value} {base : Heap} {h : Heap} {T c : Addr}
theorem sc__law_deck : FnScope ["_law_script", "_law_mixed", "_law_cell"] ["_law_script"] (defScope s__law_deck) := ⟨rfl, rfl, rfl, by decide +kernel, rfl, by decide +kernel, by decide +kernel⟩
theorem k__law_deck (X : K.In h) (G : h.Ns mainGlobals mg) (sd : He.SaysD fa fn K) : ∃ fd, FunD K "_law_deck" "_law_deck" (defArgs s__law_deck) (defBody s__law_deck) (defScope s__law_deck) [] [] (He.ga K "_law_deck") fd ∧ FnG P w K mg base 1 (He.ga K "_law_deck") fd ["_law_script"] (spDeck K "cells" "draws") := by
  have m_int : mg "int" = none := He.free_ok X G (sd.fact 54 rfl)
  have m_list : mg "list" = none := He.free_ok X G (sd.fact 57 rfl)
  obtain ⟨fd, F⟩ := sd.def_ 32 (d := d__law_deck) rfl
  refine ⟨fd, F, okGD F sc__law_deck (fun vs H Q E h => ?_) fun cdv A outer s H vs Q E hr h => ⟨tDeckA K "cells" "draws" 10898041 69621 2147483629 79 2147483587, PSs.nox ?_, deck_val keyOk ⟨by decide, by decide⟩ (by decide) (by decide) h⟩⟩
  · obtain ⟨a, ns, rfl, _⟩ := h
    rfl
  · exact pss_cons (ps_set (i := 1) sc__law_deck.nd rfl (.inl rfl) pe_int)
      (pss_cons (ps_for PassesOwn.never rfl (pi_list (pe_slice sl_list (pv 0) po_none (po_some pe_int))) (pg_name (i := 2) sc__law_deck.nd rfl (.inl rfl)) (pss_one (ps_set (i := 1) sc__law_deck.nd rfl (.inl rfl) (pe_op op_mod (pe_callTy call_int1 (by rfl) m_int b_int (pa_cons (pe_op op_add (pe_op op_add (pe_op op_mul (pv 1) pe_int) (pe_op op_mod (pe_callTy call_int1 (by rfl) m_int b_int (pa_cons (pv 2) pa_nil)) pe_int)) pe_int) pa_nil)) pe_int))))
      (pss_one (ps_ret (pe_disp (pps_cons pe_str (pe_revL (pe_callTy call_list_of (by rfl) m_list b_list (pa_cons (pe_slice sl_list (pv 0) po_none (po_some pe_int)) pa_nil))) (pps_cons pe_str (pv 1) (pps_cons pe_str pe_int pps_nil))) rfl rfl (fun z => by cases z) (by show 3 ≤ 15; omega)))))
def b_is_integer : Ss Dk := (retF (andF (mapF isiD (consL (varF 0) (consL (cstF (.ty "int")) nilL))) (notF (mapF isiD (consL (varF 0) (consL (cstF (.ty "bool")) nilL))))))
theorem sc_is_integer : FnScope ["thing"] ["thing"] (defScope s_is_integer) := ⟨rfl, rfl, rfl, by decide +kernel, rfl, by decide +kernel, by decide +kernel⟩
def g_is_integer : List D → Dk → Option (D × Dk) := defN 1 1 b_is_integer
theorem k_is_integer (X : K.In h) (G : h.Ns mainGlobals mg) (sd : He.SaysD fa fn K) : Got P w K mg base (dW "cells" "draws" T c) "is_integer" s_is_integer 1 1 ["thing"] g_is_integer := by
  have m_bool : mg "bool" = none := He.free_ok X G (sd.fact 52 rfl)
  have m_int : mg "int" = none := He.free_ok X G (sd.fact 54 rfl)
  have m_isinstance : mg "isinstance" = none := He.free_ok X G (sd.fact 55 rfl)
  exact got (sd.def_ 0 (d := d_is_integer) rfl) (He.glo_ok X G (sd.fact 0 (f := .glo "is_integer") rfl)) sc_is_integer rfl (by decide) fun f cdv A outer s H E hr => by
    unfold b_is_integer
    exact (sss_one (ss_ret (se_and (se_cB cv_isi (by rfl) m_isinstance b_isinstance (sl_cons (ev 0) (sl_cons (se_ty (by rfl) m_int b_int (by decide) (by decide)) sl_nil rfl) rfl) (by decide) (by decide) rfl rfl) (eOne (se_not (se_cB cv_isi (by rfl) m_isinstance b_isinstance (sl_cons (ev 0) (sl_cons (se_ty (by rfl) m_bool b_bool (by decide) (by decide)) sl_nil rfl) rfl) (by decide) (by decide) rfl rfl))))))
def b_is_between : Ss Dk := (retF (andF (callF g_is_integer (consL (varF 0) nilL)) (chainF leD leD (varF 1) (varF 0) (varF 2))))
theorem sc_is_between : FnScope ["thing", "least", "most"] ["thing", "least", "most"] (defScope s_is_between) := ⟨rfl, rfl, rfl, by decide +kernel, rfl, by decide +kernel, by decide +kernel⟩
def g_is_between : List D → Dk → Option (D × Dk) := defN 3 3 b_is_between
theorem k_is_between (X : K.In h) (G : h.Ns mainGlobals mg) (sd : He.SaysD fa fn K) : Got P w K mg base (dW "cells" "draws" T c) "is_between" s_is_between 2 3 ["thing", "least", "most"] g_is_between := by
  have o_is_integer := k_is_integer (P := P) (w := w) (base := base) (T := T) (c := c) X G sd
  exact got (sd.def_ 1 (d := d_is_between) rfl) (He.glo_ok X G (sd.fact 1 (f := .glo "is_between") rfl)) sc_is_between rfl (by decide) fun f cdv A outer s H E hr => by
    unfold b_is_between
    exact (sss_one (ss_ret (se_and (callD o_is_integer (hr.mono (by decide)) (by rfl) (fun _ _ _ _ _ _ us hl => match us, hl with | [_], _ => rfl) (sl_cons (ev 0) sl_nil rfl) (by decide) rfl rfl) (eOne (se_ch ov_le ov_le (ev 1) (ev 0) (ev 2) rfl)))))
def q1_are_between : Ev Dk := compF [3] (itemsF (varF 0)) (putV 3) yesB (callF g_is_between (consL (varF 3) (consL (varF 1) (consL (varF 2) nilL))))
def b_are_between : Ss Dk := (retF (andF (mapF isiD (consL (varF 0) (consL (cstF (.ty "tuple")) nilL))) (mapF allD (consL q1_are_between nilL))))
theorem sc_are_between : FnScope ["thing", "least", "most", "part"] ["thing", "least", "most"] (defScope s_are_between) := ⟨rfl, rfl, rfl, by decide +kernel, rfl, by decide +kernel, by decide +kernel⟩
def g_are_between : List D → Dk → Option (D × Dk) := defN 3 4 b_are_between
theorem k_are_between (X : K.In h) (G : h.Ns mainGlobals mg) (sd : He.SaysD fa fn K) : Got P w K mg base (dW "cells" "draws" T c) "are_between" s_are_between 3 3 ["thing", "least", "most"] g_are_between := by
  have o_is_between := k_is_between (P := P) (w := w) (base := base) (T := T) (c := c) X G sd
  have m_all : mg "all" = none := He.free_ok X G (sd.fact 50 rfl)
  have m_isinstance : mg "isinstance" = none := He.free_ok X G (sd.fact 55 rfl)
  have m_tuple : mg "tuple" = none := He.free_ok X G (sd.fact 64 rfl)
  exact got (sd.def_ 2 (d := d_are_between) rfl) (He.glo_ok X G (sd.fact 2 (f := .glo "are_between") rfl)) sc_are_between rfl (by decide) fun f cdv A outer s H E hr => by
    unfold b_are_between
    exact (sss_one (ss_ret (se_and (se_cB cv_isi (by rfl) m_isinstance b_isinstance (sl_cons (ev 0) (sl_cons (se_ty (by rfl) m_tuple b_tuple (by decide) (by decide)) sl_nil rfl) rfl) (by decide) (by decide) rfl rfl) (eOne (se_cB (cv_all rfl) (by rfl) m_all b_all (sl_cons (se_comp (own := [("part", 3)]) rfl sc_are_between.nd (si_val (ev 0)) (blkOk_by rfl) (fun _ _ _ _ _ => (sg_name (i := 3) sc_are_between.nd rfl (by first | exact Or.inl rfl | exact Or.inr rfl) (by first | exact Or.inl rfl | exact Or.inr rfl))) (by decide) (fun _ _ _ _ _ => sbs_nil) (fun _ _ _ _ _ => (callD o_is_between (hr.mono (by decide)) (by rfl) (fun _ _ _ _ _ _ us hl => match us, hl with | [_, _, _], _ => rfl) (sl_cons (ev 3) (sl_cons (ev 1) (sl_cons (ev 2) sl_nil rfl) rfl) rfl) (by decide) rfl rfl)) (fun _ => rfl)) sl_nil rfl) (by decide) (by decide) rfl rfl)))))
def q1_is_table_value : Ev Dk := compF [2] (itemsF (varF 0)) (putV 2) yesB (andF (callF g_are_between (consL (varF 2) (consL (cstF (.int 0)) (consL (cstF (.int 1)) nilL)))) (binF eqD (mapF lenD (consL (varF 2) nilL)) (mapF lenD (consL (varF 0) nilL))))
def b_is_table_value : Ss Dk := (seqF (ifF (orB (notB (truF (mapF isiD (consL (varF 0) (consL (cstF (.ty "tuple")) nilL))))) (notB (truF (chainF leD leD (cstF (.int 1)) (mapF lenD (consL (varF 0) nilL)) (varF 1))))) (retF (cstF (.bl false))) skipF) (retF (mapF allD (consL q1_is_table_value nilL))))
theorem sc_is_table_value : FnScope ["thing", "most", "row"] ["thing", "most"] (defScope s_is_table_value) := ⟨rfl, rfl, rfl, by decide +kernel, rfl, by decide +kernel, by decide +kernel⟩
def g_is_table_value : List D → Dk → Option (D × Dk) := defN 2 3 b_is_table_value
theorem k_is_table_value (X : K.In h) (G : h.Ns mainGlobals mg) (sd : He.SaysD fa fn K) : GotD P w K mg base (dW "cells" "draws" T c) "is_table_value" s_is_table_value 4 2 ["thing", "most"] [.int 24] g_is_table_value := by
  have o_are_between := k_are_between (P := P) (w := w) (base := base) (T := T) (c := c) X G sd
  have m_all : mg "all" = none := He.free_ok X G (sd.fact 50 rfl)
  have m_isinstance : mg "isinstance" = none := He.free_ok X G (sd.fact 55 rfl)
  have m_len : mg "len" = none := He.free_ok X G (sd.fact 56 rfl)
  have m_tuple : mg "tuple" = none := He.free_ok X G (sd.fact 64 rfl)
  exact gotD (sd.def_ 3 (d := d_is_table_value) rfl) (He.glo_ok X G (sd.fact 3 (f := .glo "is_table_value") rfl)) sc_is_table_value rfl (by decide) fun f cdv A outer s H E hr => by
    unfold b_is_table_value
    exact (sss_cons (ss_if (L2.PW.pt (sb_or (sb_not (sb_val (se_cB cv_isi (by rfl) m_isinstance b_isinstance (sl_cons (ev 0) (sl_cons (se_ty (by rfl) m_tuple b_tuple (by decide) (by decide)) sl_nil rfl) rfl) (by decide) (by decide) rfl rfl) (fun _ => rfl))) (pw_or1 (sb_not (sb_ch ov_le ov_le isB_le eInt (se_cB cv_len (by rfl) m_len b_len (sl_cons (ev 0) sl_nil rfl) (by decide) (by decide) rfl rfl) (ev 1) rfl))))) (sss_one (ss_ret eBl)) sss_nil) (sss_one (ss_ret (se_cB (cv_all rfl) (by rfl) m_all b_all (sl_cons (se_comp (own := [("row", 2)]) rfl sc_is_table_value.nd (si_val (ev 0)) (blkOk_by rfl) (fun _ _ _ _ _ => (sg_name (i := 2) sc_is_table_value.nd rfl (by first | exact Or.inl rfl | exact Or.inr rfl) (by first | exact Or.inl rfl | exact Or.inr rfl))) (by decide) (fun _ _ _ _ _ => sbs_nil) (fun _ _ _ _ _ => (se_and (callD o_are_between (hr.mono (by decide)) (by rfl) (fun _ _ _ _ _ _ us hl => match us, hl with | [_, _, _], _ => rfl) (sl_cons (ev 2) (sl_cons eInt (sl_cons eInt sl_nil rfl) rfl) rfl) (by decide) rfl rfl) (eOne (se_cm (ov_eq hr.hu0) (se_cB cv_len (by rfl) m_len b_len (sl_cons (ev 2) sl_nil rfl) (by decide) (by decide) rfl rfl) (se_cB cv_len (by rfl) m_len b_len (sl_cons (ev 0) sl_nil rfl) (by decide) (by decide) rfl rfl) (nomark _))))) (fun _ => rfl)) sl_nil rfl) (by decide) (by decide) rfl rfl))))
def q1_mask_of : Ev Dk := compF [1] (itemsF (varF 0)) (putV 1) yesB (binF shlD (cstF (.int 1)) (varF 1))
def b_mask_of : Ss Dk := (retF (mapF sumD (consL q1_mask_of nilL)))
theorem sc_mask_of : FnScope ["some", "x"] ["some"] (defScope s_mask_of) := ⟨rfl, rfl, rfl, by decide +kernel, rfl, by decide +kernel, by decide +kernel⟩
def g_mask_of : List D → Dk → Option (D × Dk) := defN 1 2 b_mask_of
theorem k_mask_of (X : K.In h) (G : h.Ns mainGlobals mg) (sd : He.SaysD fa fn K) : Got P w K mg base (dW "cells" "draws" T c) "mask_of" s_mask_of 1 1 ["some"] g_mask_of := by
  have m_sum : mg "sum" = none := He.free_ok X G (sd.fact 63 rfl)
  exact got (sd.def_ 4 (d := d_mask_of) rfl) (He.glo_ok X G (sd.fact 4 (f := .glo "mask_of") rfl)) sc_mask_of rfl (by decide) fun f cdv A outer s H E hr => by
    unfold b_mask_of
    exact (sss_one (ss_ret (se_cB (cv_sum rfl) (by rfl) m_sum b_sum (sl_cons (se_comp (own := [("x", 1)]) rfl sc_mask_of.nd (si_val (ev 0)) (blkOk_by rfl) (fun _ _ _ _ _ => (sg_name (i := 1) sc_mask_of.nd rfl (by first | exact Or.inl rfl | exact Or.inr rfl) (by first | exact Or.inl rfl | exact Or.inr rfl))) (by decide) (fun _ _ _ _ _ => sbs_nil) (fun _ _ _ _ _ => (se_op ov_shl eInt (ev 1))) (fun _ => rfl)) sl_nil rfl) (by decide) (by decide) rfl rfl)))
def q1_bits_of : Ev Dk := compF [1] (rangeL (consL (bitsF (varF 0)) nilL)) (putV 1) (truF (binF eqD (binF bandD (binF shrD (varF 0) (varF 1)) (cstF (.int 1))) (cstF (.int 1)))) (varF 1)
def b_bits_of : Ss Dk := (retF q1_bits_of)
theorem sc_bits_of : FnScope ["mask", "x"] ["mask"] (defScope s_bits_of) := ⟨rfl, rfl, rfl, by decide +kernel, rfl, by decide +kernel, by decide +kernel⟩
def g_bits_of : List D → Dk → Option (D × Dk) := defN 1 2 b_bits_of
theorem k_bits_of (X : K.In h) (G : h.Ns mainGlobals mg) (sd : He.SaysD fa fn K) : Got P w K mg base (dW "cells" "draws" T c) "bits_of" s_bits_of 1 1 ["mask"] g_bits_of := by
  have m_range : mg "range" = none := He.free_ok X G (sd.fact 60 rfl)
  exact got (sd.def_ 5 (d := d_bits_of) rfl) (He.glo_ok X G (sd.fact 5 (f := .glo "bits_of") rfl)) sc_bits_of rfl (by decide) fun f cdv A outer s H E hr => by
    unfold b_bits_of
    exact (sss_one (ss_ret (se_comp (own := [("x", 1)]) rfl sc_bits_of.nd (si_rng1 (by rfl) m_range (se_bits (ev 0) rfl rfl) rfl) (blkOk_by rfl) (fun _ _ _ _ _ => (sg_name (i := 1) sc_bits_of.nd rfl (by first | exact Or.inl rfl | exact Or.inr rfl) (by first | exact Or.inl rfl | exact Or.inr rfl))) (by decide) (fun _ _ _ _ _ => (sbs_one (sb_cm (ov_eq hr.hu0) isB_eq (se_op ov_band (se_op ov_shr (ev 0) (ev 1)) eInt) eInt (nomark _)))) (fun _ _ _ _ _ => (ev 1)) (fun _ => rfl))))
def q1_ups_of : Ev Dk := compF [2, 3] (enumL (consL (varF 1) nilL)) (tupG 2 (consG (putV 2) (consG (putV 3) nilG))) (truF (binF eqD (varF 3) (cstF (.int 1)))) (varF 2)
def q2_ups_of : Ev Dk := compF [1] (itemsF (varF 0)) (putV 1) yesB (callF g_mask_of (consL q1_ups_of nilL))
def b_ups_of : Ss Dk := (retF q2_ups_of)
theorem sc_ups_of : FnScope ["table", "row", "y", "within"] ["table"] (defScope s_ups_of) := ⟨rfl, rfl, rfl, by decide +kernel, rfl, by decide +kernel, by decide +kernel⟩
def g_ups_of : List D → Dk → Option (D × Dk) := defN 1 4 b_ups_of
theorem k_ups_of (X : K.In h) (G : h.Ns mainGlobals mg) (sd : He.SaysD fa fn K) : Got P w K mg base (dW "cells" "draws" T c) "ups_of" s_ups_of 2 1 ["table"] g_ups_of := by
  have o_mask_of := k_mask_of (P := P) (w := w) (base := base) (T := T) (c := c) X G sd
  have m_enumerate : mg "enumerate" = none := He.free_ok X G (sd.fact 53 rfl)
  exact got (sd.def_ 6 (d := d_ups_of) rfl) (He.glo_ok X G (sd.fact 6 (f := .glo "ups_of") rfl)) sc_ups_of rfl (by decide) fun f cdv A outer s H E hr => by
    unfold b_ups_of
    exact (sss_one (ss_ret (se_comp (own := [("row", 1)]) rfl sc_ups_of.nd (si_val (ev 0)) (blkOk_by rfl) (fun _ _ _ _ _ => (sg_name (i := 1) sc_ups_of.nd rfl (by first | exact Or.inl rfl | exact Or.inr rfl) (by first | exact Or.inl rfl | exact Or.inr rfl))) (by decide) (fun _ _ _ _ _ => sbs_nil) (fun _ _ _ _ _ => (callD o_mask_of (hr.mono (by decide)) (by rfl) (fun _ _ _ _ _ _ us hl => match us, hl with | [_], _ => rfl) (sl_cons (se_comp (own := [("y", 2), ("within", 3)]) rfl sc_ups_of.nd (si_enum (by rfl) m_enumerate (sl_cons (ev 1) sl_nil rfl) rfl) (blkOk_by rfl) (fun _ _ _ _ _ => (sg_tup rfl (sgs_cons (sg_name (i := 2) sc_ups_of.nd rfl (by first | exact Or.inl rfl | exact Or.inr rfl) (by first | exact Or.inl rfl | exact Or.inr rfl)) (sgs_cons (sg_name (i := 3) sc_ups_of.nd rfl (by first | exact Or.inl rfl | exact Or.inr rfl) (by first | exact Or.inl rfl | exact Or.inr rfl)) sgs_nil rfl) rfl) rfl rfl)) (by decide) (fun _ _ _ _ _ => (sbs_one (sb_cm (ov_eq hr.hu0) isB_eq (ev 3) eInt (nomark _)))) (fun _ _ _ _ _ => (ev 2)) (fun _ => rfl)) sl_nil rfl) (by decide) rfl rfl)) (fun _ => rfl))))
def q1_downs_of : Ev Dk := compF [2, 3] (enumL (consL (varF 0) nilL)) (tupG 2 (consG (putV 2) (consG (putV 3) nilG))) (truF (binF eqD (binF ixD (varF 3) (varF 1)) (cstF (.int 1)))) (varF 2)
def q2_downs_of : Ev Dk := compF [1] (rangeL (consL (mapF lenD (consL (varF 0) nilL)) nilL)) (putV 1) yesB (callF g_mask_of (consL q1_downs_of nilL))
def b_downs_of : Ss Dk := (retF q2_downs_of)
theorem sc_downs_of : FnScope ["table", "y", "x", "row"] ["table"] (defScope s_downs_of) := ⟨rfl, rfl, rfl, by decide +kernel, rfl, by decide +kernel, by decide +kernel⟩
def g_downs_of : List D → Dk → Option (D × Dk) := defN 1 4 b_downs_of
theorem k_downs_of (X : K.In h) (G : h.Ns mainGlobals mg) (sd : He.SaysD fa fn K) : Got P w K mg base (dW "cells" "draws" T c) "downs_of" s_downs_of 2 1 ["table"] g_downs_of := by
  have o_mask_of := k_mask_of (P := P) (w := w) (base := base) (T := T) (c := c) X G sd
  have m_enumerate : mg "enumerate" = none := He.free_ok X G (sd.fact 53 rfl)
  have m_len : mg "len" = none := He.free_ok X G (sd.fact 56 rfl)
  have m_range : mg "range" = none := He.free_ok X G (sd.fact 60 rfl)
  exact got (sd.def_ 7 (d := d_downs_of) rfl) (He.glo_ok X G (sd.fact 7 (f := .glo "downs_of") rfl)) sc_downs_of rfl (by decide) fun f cdv A outer s H E hr => by
    unfold b_downs_of
    exact (sss_one (ss_ret (se_comp (own := [("y", 1)]) rfl sc_downs_of.nd (si_rng1 (by rfl) m_range (se_cB cv_len (by rfl) m_len b_len (sl_cons (ev 0) sl_nil rfl) (by decide) (by decide) rfl rfl) rfl) (blkOk_by rfl) (fun _ _ _ _ _ => (sg_name (i := 1) sc_downs_of.nd rfl (by first | exact Or.inl rfl | exact Or.inr rfl) (by first | exact Or.inl rfl | exact Or.inr rfl))) (by decide) (fun _ _ _ _ _ => sbs_nil) (fun _ _ _ _ _ => (callD o_mask_of (hr.mono (by decide)) (by rfl) (fun _ _ _ _ _ _ us hl => match us, hl with | [_], _ => rfl) (sl_cons (se_comp (own := [("x", 2), ("row", 3)]) rfl sc_downs_of.nd (si_enum (by rfl) m_enumerate (sl_cons (ev 0) sl_nil rfl) rfl) (blkOk_by rfl) (fun _ _ _ _ _ => (sg_tup rfl (sgs_cons (sg_name (i := 2) sc_downs_of.nd rfl (by first | exact Or.inl rfl | exact Or.inr rfl) (by first | exact Or.inl rfl | exact Or.inr rfl)) (sgs_cons (sg_name (i := 3) sc_downs_of.nd rfl (by first | exact Or.inl rfl | exact Or.inr rfl) (by first | exact Or.inl rfl | exact Or.inr rfl)) sgs_nil rfl) rfl) rfl rfl)) (by decide) (fun _ _ _ _ _ => (sbs_one (sb_cm (ov_eq hr.hu0) isB_eq (se_at (ev 3) (ev 1) (fun _ _ => rfl)) eInt (nomark _)))) (fun _ _ _ _ _ => (ev 2)) (fun _ => rfl)) sl_nil rfl) (by decide) rfl rfl)) (fun _ => rfl))))
def bd1_order_fault : Ss Dk := (ifF (truF (binF eqD (binF ixD (binF ixD (varF 0) (varF 3)) (varF 3)) (cstF (.int 0)))) (retF (mapF dispT (consL (cstF (.str "own")) (consL (varF 3) nilL)))) skipF)
def lp1_order_fault : Ss Dk := forF (putV 3) (rangeL (consL (varF 1) nilL)) bd1_order_fault
def bd2_order_fault : Ss Dk := (ifF (andB (truF (binF eqD (binF ixD (binF ixD (varF 0) (varF 3)) (varF 4)) (cstF (.int 1)))) (truF (binF eqD (binF ixD (binF ixD (varF 0) (varF 4)) (varF 3)) (cstF (.int 1))))) (retF (mapF dispT (consL (cstF (.str "round")) (consL (varF 3) (consL (varF 4) nilL))))) skipF)
def lp2_order_fault : Ss Dk := forF (putV 4) (rangeL (consL (binF addD (varF 3) (cstF (.int 1))) (consL (varF 1) nilL))) bd2_order_fault
def bd3_order_fault : Ss Dk := lp2_order_fault
def lp3_order_fault : Ss Dk := forF (putV 3) (rangeL (consL (varF 1) nilL)) bd3_order_fault
def bd4_order_fault : Ss Dk := (ifF (truF (binF neD (binF bandD (binF ixD (varF 2) (varF 4)) (invF (binF ixD (varF 2) (varF 3)))) (cstF (.int 0)))) (retF (mapF dispT (consL (cstF (.str "jump")) (consL (varF 3) (consL (varF 4) (consL (binF ixD (callF g_bits_of (consL (binF bandD (binF ixD (varF 2) (varF 4)) (invF (binF ixD (varF 2) (varF 3)))) nilL)) (cstF (.int 0))) nilL)))))) skipF)
def lp4_order_fault : Ss Dk := forF (putV 4) (itemsF (callF g_bits_of (consL (binF ixD (varF 2) (varF 3)) nilL))) bd4_order_fault
def bd5_order_fault : Ss Dk := lp4_order_fault
def lp5_order_fault : Ss Dk := forF (putV 3) (rangeL (consL (varF 1) nilL)) bd5_order_fault
def b_order_fault : Ss Dk := (seqF (parF [1, 2] (consI false (mapF lenD (consL (varF 0) nilL)) (consI false (callF g_ups_of (consL (varF 0) nilL)) nilI))) (seqF lp1_order_fault (seqF lp3_order_fault (seqF lp5_order_fault (retF (cstF .non))))))
theorem sc_order_fault : FnScope ["table", "n", "ups", "x", "y"] ["table"] (defScope s_order_fault) := ⟨rfl, rfl, rfl, by decide +kernel, rfl, by decide +kernel, by decide +kernel⟩
def g_order_fault : List D → Dk → Option (D × Dk) := defN 1 5 b_order_fault
theorem k_order_fault (X : K.In h) (G : h.Ns mainGlobals mg) (sd : He.SaysD fa fn K) : Got P w K mg base (dW "cells" "draws" T c) "order_fault" s_order_fault 3 1 ["table"] g_order_fault := by
  have o_bits_of := k_bits_of (P := P) (w := w) (base := base) (T := T) (c := c) X G sd
  have o_ups_of := k_ups_of (P := P) (w := w) (base := base) (T := T) (c := c) X G sd
  have m_len : mg "len" = none := He.free_ok X G (sd.fact 56 rfl)
  have m_range : mg "range" = none := He.free_ok X G (sd.fact 60 rfl)
  exact got (sd.def_ 8 (d := d_order_fault) rfl) (He.glo_ok X G (sd.fact 8 (f := .glo "order_fault") rfl)) sc_order_fault rfl (by decide) fun f cdv A outer s H E hr => by
    unfold b_order_fault
    exact (sss_cons (ss_par2 (i := 1) (j := 2) rfl sc_order_fault.nd rfl rfl (by decide) rfl rfl (sli_cons (se_weak (se_cB cv_len (by rfl) m_len b_len (sl_cons (ev 0) sl_nil rfl) (by decide) (by decide) rfl rfl)) (sli_cons (callD o_ups_of (hr.mono (by decide)) (by rfl) (fun _ _ _ _ _ _ us hl => match us, hl with | [_], _ => rfl) (sl_cons (ev 0) sl_nil rfl) (by decide) rfl rfl) sli_nil rfl) rfl) rfl rfl) (sss_cons (ss_for PassesOwn.never rfl (si_rng1 (by rfl) m_range (ev 1) rfl) (sg_name (i := 3) sc_order_fault.nd rfl (by first | exact Or.inl rfl | exact Or.inr rfl) (by first | exact Or.inl rfl | exact Or.inr rfl)) (sss_one (ss_if (sb_cm (ov_eq hr.hu0) isB_eq (se_at (se_at (ev 0) (ev 3) (fun _ _ => rfl)) (ev 3) (fun _ _ => rfl)) eInt (nomark _)) (sss_one (ss_ret (se_tup (sl_cons eStr (sl_cons (ev 3) sl_nil rfl) rfl)))) sss_nil)) (fun _ => rfl)) (sss_cons (ss_for PassesOwn.never rfl (si_rng1 (by rfl) m_range (ev 1) rfl) (sg_name (i := 3) sc_order_fault.nd rfl (by first | exact Or.inl rfl | exact Or.inr rfl) (by first | exact Or.inl rfl | exact Or.inr rfl)) (sss_one (ss_for PassesOwn.never rfl (si_rng2 (by rfl) m_range (se_op ov_add (ev 3) eInt) (ev 1) rfl rfl) (sg_name (i := 4) sc_order_fault.nd rfl (by first | exact Or.inl rfl | exact Or.inr rfl) (by first | exact Or.inl rfl | exact Or.inr rfl)) (sss_one (ss_if (L2.PW.pt (sb_and (sb_cm (ov_eq hr.hu0) isB_eq (se_at (se_at (ev 0) (ev 3) (fun _ _ => rfl)) (ev 4) (fun _ _ => rfl)) eInt (nomark _)) (pw_and1 (sb_cm (ov_eq hr.hu0) isB_eq (se_at (se_at (ev 0) (ev 4) (fun _ _ => rfl)) (ev 3) (fun _ _ => rfl)) eInt (nomark _))))) (sss_one (ss_ret (se_tup (sl_cons eStr (sl_cons (ev 3) (sl_cons (ev 4) sl_nil rfl) rfl) rfl)))) sss_nil)) (fun _ => rfl))) (fun _ => rfl)) (sss_cons (ss_for PassesOwn.never rfl (si_rng1 (by rfl) m_range (ev 1) rfl) (sg_name (i := 3) sc_order_fault.nd rfl (by first | exact Or.inl rfl | exact Or.inr rfl) (by first | exact Or.inl rfl | exact Or.inr rfl)) (sss_one (ss_for PassesOwn.never rfl (si_val (callD o_bits_of (hr.mono (by decide)) (by rfl) (fun _ _ _ _ _ _ us hl => match us, hl with | [_], _ => rfl) (sl_cons (se_at (ev 2) (ev 3) (fun _ _ => rfl)) sl_nil rfl) (by decide) rfl rfl)) (sg_name (i := 4) sc_order_fault.nd rfl (by first | exact Or.inl rfl | exact Or.inr rfl) (by first | exact Or.inl rfl | exact Or.inr rfl)) (sss_one (ss_if (sb_cm (ov_ne hr.hu0) isB_ne (se_op ov_band (se_at (ev 2) (ev 4) (fun _ _ => rfl)) (se_inv (se_at (ev 2) (ev 3) (fun _ _ => rfl)))) eInt (nomark _)) (sss_one (ss_ret (se_tup (sl_cons eStr (sl_cons (ev 3) (sl_cons (ev 4) (sl_cons (se_at (callD o_bits_of (hr.mono (by decide)) (by rfl) (fun _ _ _ _ _ _ us hl => match us, hl with | [_], _ => rfl) (sl_cons (se_op ov_band (se_at (ev 2) (ev 4) (fun _ _ => rfl)) (se_inv (se_at (ev 2) (ev 3) (fun _ _ => rfl)))) sl_nil rfl) (by decide) rfl rfl) eInt (fun _ _ => rfl)) sl_nil rfl) rfl) rfl) rfl)))) sss_nil)) (fun _ => rfl))) (fun _ => rfl)) (sss_one (ss_ret eNon))))))
def q1_fault_of : Ev Dk := dcF [8] (itemsF (varF 3)) (putV 8) yesB (varF 8) (cstF (.bl true))
def q2_fault_of : Ev Dk := dcF [8] (itemsF (varF 2)) (putV 8) yesB (varF 8) (cstF (.bl true))
def bd1_fault_of : Ss Dk := (seqF (ifF (truF (binF dninD (binF bandD (binF ixD (varF 3) (varF 6)) (binF ixD (varF 3) (varF 7))) (varF 5))) (retF (mapF dispT (consL (cstF (.str "both")) (consL (varF 7) (consL (varF 6) nilL))))) skipF) (ifF (truF (binF dninD (binF bandD (binF ixD (varF 2) (varF 6)) (binF ixD (varF 2) (varF 7))) (varF 4))) (retF (mapF dispT (consL (cstF (.str "all")) (consL (varF 7) (consL (varF 6) nilL))))) skipF))
def lp1_fault_of : Ss Dk := forF (putV 7) (rangeL (consL (varF 6) nilL)) bd1_fault_of
def bd2_fault_of : Ss Dk := lp1_fault_of
def lp2_fault_of : Ss Dk := forF (putV 6) (rangeL (consL (mapF lenD (consL (varF 0) nilL)) nilL)) bd2_fault_of
def b_fault_of : Ss Dk := (seqF (setF false 1 (callF g_order_fault (consL (varF 0) nilL))) (seqF (ifF (truF (binF isnotD (varF 1) (cstF .non))) (retF (varF 1)) skipF) (seqF (parF [2, 3] (consI false (callF g_ups_of (consL (varF 0) nilL)) (consI false (callF g_downs_of (consL (varF 0) nilL)) nilI))) (seqF (parF [4, 5] (consI false q2_fault_of (consI false q1_fault_of nilI))) (seqF lp2_fault_of (retF (cstF .non)))))))
theorem sc_fault_of : FnScope ["table", "fault", "ups", "downs", "above", "below", "x", "y", "mask"] ["table"] (defScope s_fault_of) := ⟨rfl, rfl, rfl, by decide +kernel, rfl, by decide +kernel, by decide +kernel⟩
def g_fault_of : List D → Dk → Option (D × Dk) := defN 1 9 b_fault_of
theorem k_fault_of (X : K.In h) (G : h.Ns mainGlobals mg) (sd : He.SaysD fa fn K) : Got P w K mg base (dW "cells" "draws" T c) "fault_of" s_fault_of 4 1 ["table"] g_fault_of := by
  have o_downs_of := k_downs_of (P := P) (w := w) (base := base) (T := T) (c := c) X G sd
  have o_order_fault := k_order_fault (P := P) (w := w) (base := base) (T := T) (c := c) X G sd
  have o_ups_of := k_ups_of (P := P) (w := w) (base := base) (T := T) (c := c) X G sd
  have m_len : mg "len" = none := He.free_ok X G (sd.fact 56 rfl)
  have m_range : mg "range" = none := He.free_ok X G (sd.fact 60 rfl)
  exact got (sd.def_ 9 (d := d_fault_of) rfl) (He.glo_ok X G (sd.fact 9 (f := .glo "fault_of") rfl)) sc_fault_of rfl (by decide) fun f cdv A outer s H E hr => by
    unfold b_fault_of
    exact (sss_cons (ss_set (i := 1) sc_fault_of.nd rfl (by first | exact Or.inl rfl | exact Or.inr rfl) (callD o_order_fault (hr.mono (by decide)) (by rfl) (fun _ _ _ _ _ _ us hl => match us, hl with | [_], _ => rfl) (sl_cons (ev 0) sl_nil rfl) (by decide) rfl rfl) rfl (by first | exact Or.inl rfl | exact Or.inr rfl)) (sss_cons (ss_if (sb_cm ov_isnot isB_isnot (ev 1) eNon (nomark _)) (sss_one (ss_ret (ev 1))) sss_nil) (sss_cons (ss_par2 (i := 2) (j := 3) rfl sc_fault_of.nd rfl rfl (by decide) rfl rfl (sli_cons (callD o_ups_of (hr.mono (by decide)) (by rfl) (fun _ _ _ _ _ _ us hl => match us, hl with | [_], _ => rfl) (sl_cons (ev 0) sl_nil rfl) (by decide) rfl rfl) (sli_cons (callD o_downs_of (hr.mono (by decide)) (by rfl) (fun _ _ _ _ _ _ us hl => match us, hl with | [_], _ => rfl) (sl_cons (ev 0) sl_nil rfl) (by decide) rfl rfl) sli_nil rfl) rfl) rfl rfl) (sss_cons (ss_par2 (i := 4) (j := 5) rfl sc_fault_of.nd rfl rfl (by decide) rfl rfl (sli_cons (se_dcomp (own := [("mask", 8)]) rfl sc_fault_of.nd (si_val (ev 2)) (blkOk_by rfl) (fun _ _ _ _ _ => (sg_name (i := 8) sc_fault_of.nd rfl (by first | exact Or.inl rfl | exact Or.inr rfl) (by first | exact Or.inl rfl | exact Or.inr rfl))) (by decide) (fun _ _ _ _ _ => sbs_nil) (fun _ _ _ _ _ => (ev 8)) (fun _ _ _ _ _ => eBl) (fun _ => rfl)) (sli_cons (se_dcomp (own := [("mask", 8)]) rfl sc_fault_of.nd (si_val (ev 3)) (blkOk_by rfl) (fun _ _ _ _ _ => (sg_name (i := 8) sc_fault_of.nd rfl (by first | exact Or.inl rfl | exact Or.inr rfl) (by first | exact Or.inl rfl | exact Or.inr rfl))) (by decide) (fun _ _ _ _ _ => sbs_nil) (fun _ _ _ _ _ => (ev 8)) (fun _ _ _ _ _ => eBl) (fun _ => rfl)) sli_nil rfl) rfl) rfl rfl) (sss_cons (ss_for PassesOwn.never rfl (si_rng1 (by rfl) m_range (se_cB cv_len (by rfl) m_len b_len (sl_cons (ev 0) sl_nil rfl) (by decide) (by decide) rfl rfl) rfl) (sg_name (i := 6) sc_fault_of.nd rfl (by first | exact Or.inl rfl | exact Or.inr rfl) (by first | exact Or.inl rfl | exact Or.inr rfl)) (sss_one (ss_for PassesOwn.never rfl (si_rng1 (by rfl) m_range (ev 6) rfl) (sg_name (i := 7) sc_fault_of.nd rfl (by first | exact Or.inl rfl | exact Or.inr rfl) (by first | exact Or.inl rfl | exact Or.inr rfl)) (sss_cons (ss_if (sb_dnin hr.hu0 (se_op ov_band (se_at (ev 3) (ev 6) (fun _ _ => rfl)) (se_at (ev 3) (ev 7) (fun _ _ => rfl))) (ev 5) rfl) (sss_one (ss_ret (se_tup (sl_cons eStr (sl_cons (ev 7) (sl_cons (ev 6) sl_nil rfl) rfl) rfl)))) sss_nil) (sss_one (ss_if (sb_dnin hr.hu0 (se_op ov_band (se_at (ev 2) (ev 6) (fun _ _ => rfl)) (se_at (ev 2) (ev 7) (fun _ _ => rfl))) (ev 4) rfl) (sss_one (ss_ret (se_tup (sl_cons eStr (sl_cons (ev 7) (sl_cons (ev 6) sl_nil rfl) rfl) rfl)))) sss_nil))) (fun _ => rfl))) (fun _ => rfl)) (sss_one (ss_ret eNon)))))))
def b_is_house_value : Ss Dk := (retF (andF (callF g_is_table_value (dflL (consL (varF 0) nilL) [.int 24])) (binF isD (callF g_fault_of (consL (varF 0) nilL)) (cstF .non))))
theorem sc_is_house_value : FnScope ["thing"] ["thing"] (defScope s_is_house_value) := ⟨rfl, rfl, rfl, by decide +kernel, rfl, by decide +kernel, by decide +kernel⟩
def g_is_house_value : List D → Dk → Option (D × Dk) := defN 1 1 b_is_house_value
theorem k_is_house_value (X : K.In h) (G : h.Ns mainGlobals mg) (sd : He.SaysD fa fn K) : Got P w K mg base (dW "cells" "draws" T c) "is_house_value" s_is_house_value 5 1 ["thing"] g_is_house_value := by
  have o_fault_of := k_fault_of (P := P) (w := w) (base := base) (T := T) (c := c) X G sd
  have o_is_table_value := k_is_table_value (P := P) (w := w) (base := base) (T := T) (c := c) X G sd
  exact got (sd.def_ 10 (d := d_is_house_value) rfl) (He.glo_ok X G (sd.fact 10 (f := .glo "is_house_value") rfl)) sc_is_house_value rfl (by decide) fun f cdv A outer s H E hr => by
    unfold b_is_house_value
    exact (sss_one (ss_ret (se_and (callDd 1 [.int 24] o_is_table_value (hr.mono (by decide)) (by rfl) (by simp) (by decide) (dfl_int 24) (fun _ _ _ _ _ _ _ us its h1 h2 => match us, its, h1, h2 with | [_], [_], _, _ => ⟨_, rfl, rfl⟩) (sl_cons (ev 0) sl_nil rfl) (by decide) rfl rfl) (eOne (se_cm ov_is (callD o_fault_of (hr.mono (by decide)) (by rfl) (fun _ _ _ _ _ _ us hl => match us, hl with | [_], _ => rfl) (sl_cons (ev 0) sl_nil rfl) (by decide) rfl rfl) eNon (nomark _))))))
def q1_alls_of : Ev Dk := dcF [3, 4] (enumL (consL (varF 1) nilL)) (tupG 2 (consG (putV 3) (consG (putV 4) nilG))) yesB (varF 4) (varF 3)
def q2_alls_of : Ev Dk := compF [6] (itemsF (varF 1)) (putV 6) yesB (binF dgetD (varF 2) (binF bandD (varF 5) (varF 6)))
def q3_alls_of : Ev Dk := compF [5] (itemsF (varF 1)) (putV 5) yesB q2_alls_of
def b_alls_of : Ss Dk := (seqF (setF false 1 (callF g_ups_of (consL (varF 0) nilL))) (seqF (setF false 2 q1_alls_of) (retF q3_alls_of)))
theorem sc_alls_of : FnScope ["house", "ups", "found", "lot", "mask", "one", "other"] ["house"] (defScope s_alls_of) := ⟨rfl, rfl, rfl, by decide +kernel, rfl, by decide +kernel, by decide +kernel⟩
def g_alls_of : List D → Dk → Option (D × Dk) := defN 1 7 b_alls_of
theorem k_alls_of (X : K.In h) (G : h.Ns mainGlobals mg) (sd : He.SaysD fa fn K) : Got P w K mg base (dW "cells" "draws" T c) "alls_of" s_alls_of 3 1 ["house"] g_alls_of := by
  have o_ups_of := k_ups_of (P := P) (w := w) (base := base) (T := T) (c := c) X G sd
  have m_enumerate : mg "enumerate" = none := He.free_ok X G (sd.fact 53 rfl)
  exact got (sd.def_ 11 (d := d_alls_of) rfl) (He.glo_ok X G (sd.fact 11 (f := .glo "alls_of") rfl)) sc_alls_of rfl (by decide) fun f cdv A outer s H E hr => by
    unfold b_alls_of
    exact (sss_cons (ss_set (i := 1) sc_alls_of.nd rfl (by first | exact Or.inl rfl | exact Or.inr rfl) (callD o_ups_of (hr.mono (by decide)) (by rfl) (fun _ _ _ _ _ _ us hl => match us, hl with | [_], _ => rfl) (sl_cons (ev 0) sl_nil rfl) (by decide) rfl rfl) rfl (by first | exact Or.inl rfl | exact Or.inr rfl)) (sss_cons (ss_set (i := 2) sc_alls_of.nd rfl (by first | exact Or.inl rfl | exact Or.inr rfl) (se_dcomp (own := [("lot", 3), ("mask", 4)]) rfl sc_alls_of.nd (si_enum (by rfl) m_enumerate (sl_cons (ev 1) sl_nil rfl) rfl) (blkOk_by rfl) (fun _ _ _ _ _ => (sg_tup rfl (sgs_cons (sg_name (i := 3) sc_alls_of.nd rfl (by first | exact Or.inl rfl | exact Or.inr rfl) (by first | exact Or.inl rfl | exact Or.inr rfl)) (sgs_cons (sg_name (i := 4) sc_alls_of.nd rfl (by first | exact Or.inl rfl | exact Or.inr rfl) (by first | exact Or.inl rfl | exact Or.inr rfl)) sgs_nil rfl) rfl) rfl rfl)) (by decide) (fun _ _ _ _ _ => sbs_nil) (fun _ _ _ _ _ => (ev 4)) (fun _ _ _ _ _ => (ev 3)) (fun _ => rfl)) rfl (by first | exact Or.inl rfl | exact Or.inr rfl)) (sss_one (ss_ret (se_comp (own := [("one", 5)]) rfl sc_alls_of.nd (si_val (ev 1)) (blkOk_by rfl) (fun _ _ _ _ _ => (sg_name (i := 5) sc_alls_of.nd rfl (by first | exact Or.inl rfl | exact Or.inr rfl) (by first | exact Or.inl rfl | exact Or.inr rfl))) (by decide) (fun _ _ _ _ _ => sbs_nil) (fun _ _ _ _ _ => (se_comp (own := [("other", 6)]) rfl sc_alls_of.nd (si_val (ev 1)) (blkOk_by rfl) (fun _ _ _ _ _ => (sg_name (i := 6) sc_alls_of.nd rfl (by first | exact Or.inl rfl | exact Or.inr rfl) (by first | exact Or.inl rfl | exact Or.inr rfl))) (by decide) (fun _ _ _ _ _ => sbs_nil) (fun _ _ _ _ _ => (se_dget hr.hu0 (ev 2) (se_op ov_band (ev 5) (ev 6)) (fun _ _ => rfl))) (fun _ => rfl))) (fun _ => rfl))))))
def q1_least_of : Ev Dk := compF [1, 2] (enumL (consL (varF 0) nilL)) (tupG 2 (consG (putV 1) (consG (putV 2) nilG))) (truF (binF ninD (cstF (.int 0)) (varF 2))) (varF 1)
def b_least_of : Ss Dk := (retF (binF ixD q1_least_of (cstF (.int 0))))
theorem sc_least_of : FnScope ["house", "x", "row"] ["house"] (defScope s_least_of) := ⟨rfl, rfl, rfl, by decide +kernel, rfl, by decide +kernel, by decide +kernel⟩
def g_least_of : List D → Dk → Option (D × Dk) := defN 1 3 b_least_of
theorem k_least_of (X : K.In h) (G : h.Ns mainGlobals mg) (sd : He.SaysD fa fn K) : Got P w K mg base (dW "cells" "draws" T c) "least_of" s_least_of 1 1 ["house"] g_least_of := by
  have m_enumerate : mg "enumerate" = none := He.free_ok X G (sd.fact 53 rfl)
  exact got (sd.def_ 12 (d := d_least_of) rfl) (He.glo_ok X G (sd.fact 12 (f := .glo "least_of") rfl)) sc_least_of rfl (by decide) fun f cdv A outer s H E hr => by
    unfold b_least_of
    exact (sss_one (ss_ret (se_at (se_comp (own := [("x", 1), ("row", 2)]) rfl sc_least_of.nd (si_enum (by rfl) m_enumerate (sl_cons (ev 0) sl_nil rfl) rfl) (blkOk_by rfl) (fun _ _ _ _ _ => (sg_tup rfl (sgs_cons (sg_name (i := 1) sc_least_of.nd rfl (by first | exact Or.inl rfl | exact Or.inr rfl) (by first | exact Or.inl rfl | exact Or.inr rfl)) (sgs_cons (sg_name (i := 2) sc_least_of.nd rfl (by first | exact Or.inl rfl | exact Or.inr rfl) (by first | exact Or.inl rfl | exact Or.inr rfl)) sgs_nil rfl) rfl) rfl rfl)) (by decide) (fun _ _ _ _ _ => (sbs_one (sb_cm (ov_nin hr.hu) isB_nin eInt (ev 2) rfl))) (fun _ _ _ _ _ => (ev 1)) (fun _ => rfl)) eInt (fun _ _ => rfl))))
def q1_greatest_of : Ev Dk := compF [2] (itemsF (varF 0)) (putV 2) yesB (binF eqD (binF ixD (varF 2) (varF 1)) (cstF (.int 1)))
def q2_greatest_of : Ev Dk := compF [1] (rangeL (consL (mapF lenD (consL (varF 0) nilL)) nilL)) (putV 1) (truF (mapF allD (consL q1_greatest_of nilL))) (varF 1)
def b_greatest_of : Ss Dk := (retF (binF ixD q2_greatest_of (cstF (.int 0))))
theorem sc_greatest_of : FnScope ["house", "y", "row"] ["house"] (defScope s_greatest_of) := ⟨rfl, rfl, rfl, by decide +kernel, rfl, by decide +kernel, by decide +kernel⟩
def g_greatest_of : List D → Dk → Option (D × Dk) := defN 1 3 b_greatest_of
theorem k_greatest_of (X : K.In h) (G : h.Ns mainGlobals mg) (sd : He.SaysD fa fn K) : Got P w K mg base (dW "cells" "draws" T c) "greatest_of" s_greatest_of 1 1 ["house"] g_greatest_of := by
  have m_all : mg "all" = none := He.free_ok X G (sd.fact 50 rfl)
  have m_len : mg "len" = none := He.free_ok X G (sd.fact 56 rfl)
  have m_range : mg "range" = none := He.free_ok X G (sd.fact 60 rfl)
  exact got (sd.def_ 13 (d := d_greatest_of) rfl) (He.glo_ok X G (sd.fact 13 (f := .glo "greatest_of") rfl)) sc_greatest_of rfl (by decide) fun f cdv A outer s H E hr => by
    unfold b_greatest_of
    exact (sss_one (ss_ret (se_at (se_comp (own := [("y", 1)]) rfl sc_greatest_of.nd (si_rng1 (by rfl) m_range (se_cB cv_len (by rfl) m_len b_len (sl_cons (ev 0) sl_nil rfl) (by decide) (by decide) rfl rfl) rfl) (blkOk_by rfl) (fun _ _ _ _ _ => (sg_name (i := 1) sc_greatest_of.nd rfl (by first | exact Or.inl rfl | exact Or.inr rfl) (by first | exact Or.inl rfl | exact Or.inr rfl))) (by decide) (fun _ _ _ _ _ => (sbs_one (sb_val (se_cB (cv_all rfl) (by rfl) m_all b_all (sl_cons (se_comp (own := [("row", 2)]) rfl sc_greatest_of.nd (si_val (ev 0)) (blkOk_by rfl) (fun _ _ _ _ _ => (sg_name (i := 2) sc_greatest_of.nd rfl (by first | exact Or.inl rfl | exact Or.inr rfl) (by first | exact Or.inl rfl | exact Or.inr rfl))) (by decide) (fun _ _ _ _ _ => sbs_nil) (fun _ _ _ _ _ => (se_cm (ov_eq hr.hu0) (se_at (ev 2) (ev 1) (fun _ _ => rfl)) eInt (nomark _))) (fun _ => rfl)) sl_nil rfl) (by decide) (by decide) rfl rfl) (fun _ => rfl)))) (fun _ _ _ _ _ => (ev 1)) (fun _ => rfl)) eInt (fun _ _ => rfl))))
def bd1_all_of_some : Ss Dk := (setF false 3 (binF ixD (binF ixD (varF 2) (varF 3)) (varF 4)))
def lp1_all_of_some : Ss Dk := forF (putV 4) (itemsF (varF 1)) bd1_all_of_some
def b_all_of_some : Ss Dk := (seqF (parF [2, 3] (consI false (callF g_alls_of (consL (varF 0) nilL)) (consI false (callF g_least_of (consL (varF 0) nilL)) nilI))) (seqF lp1_all_of_some (retF (varF 3))))
theorem sc_all_of_some : FnScope ["house", "lots", "table", "found", "lot"] ["house", "lots"] (defScope s_all_of_some) := ⟨rfl, rfl, rfl, by decide +kernel, rfl, by decide +kernel, by decide +kernel⟩
def g_all_of_some : List D → Dk → Option (D × Dk) := defN 2 5 b_all_of_some
theorem k_all_of_some (X : K.In h) (G : h.Ns mainGlobals mg) (sd : He.SaysD fa fn K) : Got P w K mg base (dW "cells" "draws" T c) "all_of_some" s_all_of_some 4 2 ["house", "lots"] g_all_of_some := by
  have o_alls_of := k_alls_of (P := P) (w := w) (base := base) (T := T) (c := c) X G sd
  have o_least_of := k_least_of (P := P) (w := w) (base := base) (T := T) (c := c) X G sd
  exact got (sd.def_ 14 (d := d_all_of_some) rfl) (He.glo_ok X G (sd.fact 14 (f := .glo "all_of_some") rfl)) sc_all_of_some rfl (by decide) fun f cdv A outer s H E hr => by
    unfold b_all_of_some
    exact (sss_cons (ss_par2 (i := 2) (j := 3) rfl sc_all_of_some.nd rfl rfl (by decide) rfl rfl (sli_cons (callD o_alls_of (hr.mono (by decide)) (by rfl) (fun _ _ _ _ _ _ us hl => match us, hl with | [_], _ => rfl) (sl_cons (ev 0) sl_nil rfl) (by decide) rfl rfl) (sli_cons (callD o_least_of (hr.mono (by decide)) (by rfl) (fun _ _ _ _ _ _ us hl => match us, hl with | [_], _ => rfl) (sl_cons (ev 0) sl_nil rfl) (by decide) rfl rfl) sli_nil rfl) rfl) rfl rfl) (sss_cons (ss_for PassesOwn.never rfl (si_val (ev 1)) (sg_name (i := 4) sc_all_of_some.nd rfl (by first | exact Or.inl rfl | exact Or.inr rfl) (by first | exact Or.inl rfl | exact Or.inr rfl)) (sss_one (ss_set (i := 3) sc_all_of_some.nd rfl (by first | exact Or.inl rfl | exact Or.inr rfl) (se_at (se_at (ev 2) (ev 3) (fun _ _ => rfl)) (ev 4) (fun _ _ => rfl)) rfl (by first | exact Or.inl rfl | exact Or.inr rfl))) (fun _ => rfl)) (sss_one (ss_ret (ev 3)))))
def q1_by_size : Ev Dk := compF [3, 4] (enumL (consL (varF 1) nilL)) (tupG 2 (consG (putV 3) (consG (putV 4) nilG))) yesB (mapF dispT (consL (mapF lenD (consL (callF g_bits_of (consL (varF 4) nilL)) nilL)) (consL (varF 3) nilL)))
def q2_by_size : Ev Dk := compF [2, 3] (itemsF (mapF sortD (consL q1_by_size nilL))) (tupG 2 (consG (putV 2) (consG (putV 3) nilG))) yesB (varF 3)
def b_by_size : Ss Dk := (seqF (setF false 1 (callF g_downs_of (consL (varF 0) nilL))) (retF q2_by_size))
theorem sc_by_size : FnScope ["house", "downs", "many", "lot", "mask"] ["house"] (defScope s_by_size) := ⟨rfl, rfl, rfl, by decide +kernel, rfl, by decide +kernel, by decide +kernel⟩
def g_by_size : List D → Dk → Option (D × Dk) := defN 1 5 b_by_size
theorem k_by_size (X : K.In h) (G : h.Ns mainGlobals mg) (sd : He.SaysD fa fn K) : Got P w K mg base (dW "cells" "draws" T c) "by_size" s_by_size 3 1 ["house"] g_by_size := by
  have o_bits_of := k_bits_of (P := P) (w := w) (base := base) (T := T) (c := c) X G sd
  have o_downs_of := k_downs_of (P := P) (w := w) (base := base) (T := T) (c := c) X G sd
  have m_enumerate : mg "enumerate" = none := He.free_ok X G (sd.fact 53 rfl)
  have m_len : mg "len" = none := He.free_ok X G (sd.fact 56 rfl)
  have m_sorted : mg "sorted" = none := He.free_ok X G (sd.fact 62 rfl)
  exact got (sd.def_ 15 (d := d_by_size) rfl) (He.glo_ok X G (sd.fact 15 (f := .glo "by_size") rfl)) sc_by_size rfl (by decide) fun f cdv A outer s H E hr => by
    unfold b_by_size
    exact (sss_cons (ss_set (i := 1) sc_by_size.nd rfl (by first | exact Or.inl rfl | exact Or.inr rfl) (callD o_downs_of (hr.mono (by decide)) (by rfl) (fun _ _ _ _ _ _ us hl => match us, hl with | [_], _ => rfl) (sl_cons (ev 0) sl_nil rfl) (by decide) rfl rfl) rfl (by first | exact Or.inl rfl | exact Or.inr rfl)) (sss_one (ss_ret (se_comp (own := [("many", 2), ("lot", 3)]) rfl sc_by_size.nd (si_val (se_cB (cv_sorted hr.hu0) (by rfl) m_sorted b_sorted (sl_cons (se_comp (own := [("lot", 3), ("mask", 4)]) rfl sc_by_size.nd (si_enum (by rfl) m_enumerate (sl_cons (ev 1) sl_nil rfl) rfl) (blkOk_by rfl) (fun _ _ _ _ _ => (sg_tup rfl (sgs_cons (sg_name (i := 3) sc_by_size.nd rfl (by first | exact Or.inl rfl | exact Or.inr rfl) (by first | exact Or.inl rfl | exact Or.inr rfl)) (sgs_cons (sg_name (i := 4) sc_by_size.nd rfl (by first | exact Or.inl rfl | exact Or.inr rfl) (by first | exact Or.inl rfl | exact Or.inr rfl)) sgs_nil rfl) rfl) rfl rfl)) (by decide) (fun _ _ _ _ _ => sbs_nil) (fun _ _ _ _ _ => (se_tup (sl_cons (se_cB cv_len (by rfl) m_len b_len (sl_cons (callD o_bits_of (hr.mono (by decide)) (by rfl) (fun _ _ _ _ _ _ us hl => match us, hl with | [_], _ => rfl) (sl_cons (ev 4) sl_nil rfl) (by decide) rfl rfl) sl_nil rfl) (by decide) (by decide) rfl rfl) (sl_cons (ev 3) sl_nil rfl) rfl))) (fun _ => rfl)) sl_nil rfl) (by decide) (by decide) rfl rfl)) (blkOk_by rfl) (fun _ _ _ _ _ => (sg_tup rfl (sgs_cons (sg_name (i := 2) sc_by_size.nd rfl (by first | exact Or.inl rfl | exact Or.inr rfl) (by first | exact Or.inl rfl | exact Or.inr rfl)) (sgs_cons (sg_name (i := 3) sc_by_size.nd rfl (by first | exact Or.inl rfl | exact Or.inr rfl) (by first | exact Or.inl rfl | exact Or.inr rfl)) sgs_nil rfl) rfl) rfl rfl)) (by decide) (fun _ _ _ _ _ => sbs_nil) (fun _ _ _ _ _ => (ev 3)) (fun _ => rfl)))))
def q1_depths_of : Ev Dk := compF [3, 4] (enumL (consL (varF 0) nilL)) (tupG 2 (consG (putV 3) (consG (putV 4) nilG))) (andB (truF (binF neD (varF 3) (varF 2))) (truF (binF eqD (binF ixD (varF 4) (varF 2)) (cstF (.int 1))))) (thawF (binF addD (thawF (binF ixD (varF 1) (varF 3))) (cstF (.int 1))))
def bd1_depths_of : Ss Dk := (setAtF 1 (thawF (mapF maxD (consL (thawF (binF addD (mapF dispL (consL (cstF (.int 0)) nilL)) q1_depths_of)) nilL))) (varF 2))
def lp1_depths_of : Ss Dk := forF (putV 2) (itemsF (callF g_by_size (consL (varF 0) nilL))) bd1_depths_of
def b_depths_of : Ss Dk := (seqF (setF true 1 (binF repD (mapF dispL (consL (cstF (.int 0)) nilL)) (mapF lenD (consL (varF 0) nilL)))) (seqF lp1_depths_of (retF (varF 1))))
theorem sc_depths_of : FnScope ["house", "found", "lot", "x", "row"] ["house"] (defScope s_depths_of) := ⟨rfl, rfl, rfl, by decide +kernel, rfl, by decide +kernel, by decide +kernel⟩
def g_depths_of : List D → Dk → Option (D × Dk) := defN 1 5 b_depths_of
theorem k_depths_of (X : K.In h) (G : h.Ns mainGlobals mg) (sd : He.SaysD fa fn K) : Got P w K mg base (dW "cells" "draws" T c) "depths_of" s_depths_of 4 1 ["house"] g_depths_of := by
  have o_by_size := k_by_size (P := P) (w := w) (base := base) (T := T) (c := c) X G sd
  have m_enumerate : mg "enumerate" = none := He.free_ok X G (sd.fact 53 rfl)
  have m_len : mg "len" = none := He.free_ok X G (sd.fact 56 rfl)
  have m_max : mg "max" = none := He.free_ok X G (sd.fact 58 rfl)
  exact got (sd.def_ 16 (d := d_depths_of) rfl) (He.glo_ok X G (sd.fact 16 (f := .glo "depths_of") rfl)) sc_depths_of rfl (by decide) fun f cdv A outer s H E hr => by
    unfold b_depths_of
    exact (sss_cons (ss_set (i := 1) sc_depths_of.nd rfl (by first | exact Or.inl rfl | exact Or.inr rfl) (se_op ov_rep (se_lst (sl_cons eInt sl_nil rfl)) (se_cB cv_len (by rfl) m_len b_len (sl_cons (ev 0) sl_nil rfl) (by decide) (by decide) rfl rfl)) rfl (by first | exact Or.inl rfl | exact Or.inr rfl)) (sss_cons (ss_for PassesOwn.never rfl (si_val (callD o_by_size (hr.mono (by decide)) (by rfl) (fun _ _ _ _ _ _ us hl => match us, hl with | [_], _ => rfl) (sl_cons (ev 0) sl_nil rfl) (by decide) rfl rfl)) (sg_name (i := 2) sc_depths_of.nd rfl (by first | exact Or.inl rfl | exact Or.inr rfl) (by first | exact Or.inl rfl | exact Or.inr rfl)) (sss_one (ss_setAt (pv 1) (se_thaw (se_cB (cv_max rfl) (by rfl) m_max b_max (sl_cons (se_thaw (se_op ov_add (se_lst (sl_cons eInt sl_nil rfl)) (se_comp (own := [("x", 3), ("row", 4)]) rfl sc_depths_of.nd (si_enum (by rfl) m_enumerate (sl_cons (ev 0) sl_nil rfl) rfl) (blkOk_by rfl) (fun _ _ _ _ _ => (sg_tup rfl (sgs_cons (sg_name (i := 3) sc_depths_of.nd rfl (by first | exact Or.inl rfl | exact Or.inr rfl) (by first | exact Or.inl rfl | exact Or.inr rfl)) (sgs_cons (sg_name (i := 4) sc_depths_of.nd rfl (by first | exact Or.inl rfl | exact Or.inr rfl) (by first | exact Or.inl rfl | exact Or.inr rfl)) sgs_nil rfl) rfl) rfl rfl)) (by decide) (fun _ _ _ _ _ => (sbs_one (L2.PW.pt (sb_and (sb_cm (ov_ne hr.hu0) isB_ne (ev 3) (ev 2) (nomark _)) (pw_and1 (sb_cm (ov_eq hr.hu0) isB_eq (se_at (ev 4) (ev 2) (fun _ _ => rfl)) eInt (nomark _))))))) (fun _ _ _ _ _ => (se_thaw (se_op ov_add (se_thaw (se_at (ev 1) (ev 3) (fun _ _ => rfl))) eInt))) (fun _ => rfl)))) sl_nil rfl) (by decide) (by decide) rfl rfl)) (ev 2) (fun _ => rfl) rfl rfl rfl)) (fun _ => rfl)) (sss_one (ss_ret (ev 1)))))
def q1_steps_of : Ev Dk := compF [3, 4] (enumL (consL (binF ixD (varF 0) (varF 1)) nilL)) (tupG 2 (consG (putV 3) (consG (putV 4) nilG))) (andB (truF (binF eqD (varF 4) (cstF (.int 1)))) (truF (binF neD (varF 3) (varF 1)))) (varF 3)
def q2_steps_of : Ev Dk := compF [5] (itemsF (varF 2)) (putV 5) yesB (andF (binF neD (varF 5) (varF 3)) (binF eqD (binF ixD (binF ixD (varF 0) (varF 5)) (varF 3)) (cstF (.int 1))))
def q3_steps_of : Ev Dk := compF [3] (itemsF (varF 2)) (putV 3) (notB (truF (mapF anyD (consL q2_steps_of nilL)))) (varF 3)
def b_steps_of : Ss Dk := (seqF (setF false 2 q1_steps_of) (retF q3_steps_of))
theorem sc_steps_of : FnScope ["house", "x", "around", "y", "within", "z"] ["house", "x"] (defScope s_steps_of) := ⟨rfl, rfl, rfl, by decide +kernel, rfl, by decide +kernel, by decide +kernel⟩
def g_steps_of : List D → Dk → Option (D × Dk) := defN 2 6 b_steps_of
theorem k_steps_of (X : K.In h) (G : h.Ns mainGlobals mg) (sd : He.SaysD fa fn K) : Got P w K mg base (dW "cells" "draws" T c) "steps_of" s_steps_of 1 2 ["house", "x"] g_steps_of := by
  have m_any : mg "any" = none := He.free_ok X G (sd.fact 51 rfl)
  have m_enumerate : mg "enumerate" = none := He.free_ok X G (sd.fact 53 rfl)
  exact got (sd.def_ 17 (d := d_steps_of) rfl) (He.glo_ok X G (sd.fact 17 (f := .glo "steps_of") rfl)) sc_steps_of rfl (by decide) fun f cdv A outer s H E hr => by
    unfold b_steps_of
    exact (sss_cons (ss_set (i := 2) sc_steps_of.nd rfl (by first | exact Or.inl rfl | exact Or.inr rfl) (se_weak (se_comp (own := [("y", 3), ("within", 4)]) rfl sc_steps_of.nd (si_enum (by rfl) m_enumerate (sl_cons (se_at (ev 0) (ev 1) (fun _ _ => rfl)) sl_nil rfl) rfl) (blkOk_by rfl) (fun _ _ _ _ _ => (sg_tup rfl (sgs_cons (sg_name (i := 3) sc_steps_of.nd rfl (by first | exact Or.inl rfl | exact Or.inr rfl) (by first | exact Or.inl rfl | exact Or.inr rfl)) (sgs_cons (sg_name (i := 4) sc_steps_of.nd rfl (by first | exact Or.inl rfl | exact Or.inr rfl) (by first | exact Or.inl rfl | exact Or.inr rfl)) sgs_nil rfl) rfl) rfl rfl)) (by decide) (fun _ _ _ _ _ => (sbs_one (L2.PW.pt (sb_and (sb_cm (ov_eq hr.hu0) isB_eq (ev 4) eInt (nomark _)) (pw_and1 (sb_cm (ov_ne hr.hu0) isB_ne (ev 3) (ev 1) (nomark _))))))) (fun _ _ _ _ _ => (ev 3)) (fun _ => rfl))) rfl (by first | exact Or.inl rfl | exact Or.inr rfl)) (sss_one (ss_ret (se_comp (own := [("y", 3)]) rfl sc_steps_of.nd (si_val (ev 2)) (blkOk_by rfl) (fun _ _ _ _ _ => (sg_name (i := 3) sc_steps_of.nd rfl (by first | exact Or.inl rfl | exact Or.inr rfl) (by first | exact Or.inl rfl | exact Or.inr rfl))) (by decide) (fun _ _ _ _ _ => (sbs_one (sb_not (sb_val (se_cB (cv_any rfl) (by rfl) m_any b_any (sl_cons (se_comp (own := [("z", 5)]) rfl sc_steps_of.nd (si_val (ev 2)) (blkOk_by rfl) (fun _ _ _ _ _ => (sg_name (i := 5) sc_steps_of.nd rfl (by first | exact Or.inl rfl | exact Or.inr rfl) (by first | exact Or.inl rfl | exact Or.inr rfl))) (by decide) (fun _ _ _ _ _ => sbs_nil) (fun _ _ _ _ _ => (se_and (se_cm (ov_ne hr.hu0) (ev 5) (ev 3) (nomark _)) (eOne (se_cm (ov_eq hr.hu0) (se_at (se_at (ev 0) (ev 5) (fun _ _ => rfl)) (ev 3) (fun _ _ => rfl)) eInt (nomark _))))) (fun _ => rfl)) sl_nil rfl) (by decide) (by decide) rfl rfl) (fun _ => rfl))))) (fun _ _ _ _ _ => (ev 3)) (fun _ => rfl)))))
def q1_pieces_of : Ev Dk := compF [6] (itemsF (callF g_bits_of (consL (varF 5) nilL))) (putV 6) (truF (binF neD (varF 6) (varF 4))) (varF 6)
def bd1_pieces_of : Ss Dk := (ifF (andB (truF (binF neD (varF 4) (varF 3))) (truF (binF neD (callF g_all_of_some (consL (varF 0) (consL q1_pieces_of nilL))) (varF 4)))) (exprF (thawF (appendF 1 (consL (varF 4) nilL)))) skipF)
def lp1_pieces_of : Ss Dk := forF (tupG 2 (consG (putV 4) (consG (putV 5) nilG))) (enumL (consL (varF 2) nilL)) bd1_pieces_of
def b_pieces_of : Ss Dk := (seqF (parF [1, 2] (consI true (mapF dispL nilL) (consI false (callF g_downs_of (consL (varF 0) nilL)) nilI))) (seqF (setF false 3 (callF g_least_of (consL (varF 0) nilL))) (seqF lp1_pieces_of (retF (varF 1)))))
theorem sc_pieces_of : FnScope ["house", "found", "downs", "least", "lot", "mask", "x"] ["house"] (defScope s_pieces_of) := ⟨rfl, rfl, rfl, by decide +kernel, rfl, by decide +kernel, by decide +kernel⟩
def g_pieces_of : List D → Dk → Option (D × Dk) := defN 1 7 b_pieces_of
theorem k_pieces_of (X : K.In h) (G : h.Ns mainGlobals mg) (sd : He.SaysD fa fn K) : Got P w K mg base (dW "cells" "draws" T c) "pieces_of" s_pieces_of 5 1 ["house"] g_pieces_of := by
  have o_all_of_some := k_all_of_some (P := P) (w := w) (base := base) (T := T) (c := c) X G sd
  have o_bits_of := k_bits_of (P := P) (w := w) (base := base) (T := T) (c := c) X G sd
  have o_downs_of := k_downs_of (P := P) (w := w) (base := base) (T := T) (c := c) X G sd
  have o_least_of := k_least_of (P := P) (w := w) (base := base) (T := T) (c := c) X G sd
  have m_enumerate : mg "enumerate" = none := He.free_ok X G (sd.fact 53 rfl)
  exact got (sd.def_ 18 (d := d_pieces_of) rfl) (He.glo_ok X G (sd.fact 18 (f := .glo "pieces_of") rfl)) sc_pieces_of rfl (by decide) fun f cdv A outer s H E hr => by
    unfold b_pieces_of
    exact (sss_cons (ss_par2 (i := 1) (j := 2) rfl sc_pieces_of.nd rfl rfl (by decide) rfl rfl (sli_cons (se_lst sl_nil) (sli_cons (callD o_downs_of (hr.mono (by decide)) (by rfl) (fun _ _ _ _ _ _ us hl => match us, hl with | [_], _ => rfl) (sl_cons (ev 0) sl_nil rfl) (by decide) rfl rfl) sli_nil rfl) rfl) rfl rfl) (sss_cons (ss_set (i := 3) sc_pieces_of.nd rfl (by first | exact Or.inl rfl | exact Or.inr rfl) (callD o_least_of (hr.mono (by decide)) (by rfl) (fun _ _ _ _ _ _ us hl => match us, hl with | [_], _ => rfl) (sl_cons (ev 0) sl_nil rfl) (by decide) rfl rfl) rfl (by first | exact Or.inl rfl | exact Or.inr rfl)) (sss_cons (ss_for PassesOwn.never rfl (si_enum (by rfl) m_enumerate (sl_cons (ev 2) sl_nil rfl) rfl) (sg_tup rfl (sgs_cons (sg_name (i := 4) sc_pieces_of.nd rfl (by first | exact Or.inl rfl | exact Or.inr rfl) (by first | exact Or.inl rfl | exact Or.inr rfl)) (sgs_cons (sg_name (i := 5) sc_pieces_of.nd rfl (by first | exact Or.inl rfl | exact Or.inr rfl) (by first | exact Or.inl rfl | exact Or.inr rfl)) sgs_nil rfl) rfl) rfl rfl) (sss_one (ss_if (L2.PW.pt (sb_and (sb_cm (ov_ne hr.hu0) isB_ne (ev 4) (ev 3) (nomark _)) (pw_and1 (sb_cm (ov_ne hr.hu0) isB_ne (callD o_all_of_some (hr.mono (by decide)) (by rfl) (fun _ _ _ _ _ _ us hl => match us, hl with | [_, _], _ => rfl) (sl_cons (ev 0) (sl_cons (se_comp (own := [("x", 6)]) rfl sc_pieces_of.nd (si_val (callD o_bits_of (hr.mono (by decide)) (by rfl) (fun _ _ _ _ _ _ us hl => match us, hl with | [_], _ => rfl) (sl_cons (ev 5) sl_nil rfl) (by decide) rfl rfl)) (blkOk_by rfl) (fun _ _ _ _ _ => (sg_name (i := 6) sc_pieces_of.nd rfl (by first | exact Or.inl rfl | exact Or.inr rfl) (by first | exact Or.inl rfl | exact Or.inr rfl))) (by decide) (fun _ _ _ _ _ => (sbs_one (sb_cm (ov_ne hr.hu0) isB_ne (ev 6) (ev 4) (nomark _)))) (fun _ _ _ _ _ => (ev 6)) (fun _ => rfl)) sl_nil rfl) rfl) (by decide) rfl rfl) (ev 4) (nomark _))))) (sss_one (ss_expr (se_thaw (se_append (pv 1) (sl_cons (ev 4) sl_nil rfl) rfl rfl rfl rfl)) rfl)) sss_nil)) (fun _ => rfl)) (sss_one (ss_ret (ev 1))))))
def b_need_house : Ss Dk := (ifF (notB (truF (callF g_is_house_value (consL (varF 0) nilL)))) nevF skipF)
theorem sc_need_house : FnScope ["house"] ["house"] (defScope s_need_house) := ⟨rfl, rfl, rfl, by decide +kernel, rfl, by decide +kernel, by decide +kernel⟩
def g_need_house : List D → Dk → Option (D × Dk) := defN 1 1 b_need_house
theorem k_need_house (X : K.In h) (G : h.Ns mainGlobals mg) (sd : He.SaysD fa fn K) : Got P w K mg base (dW "cells" "draws" T c) "need_house" s_need_house 6 1 ["house"] g_need_house := by
  have o_is_house_value := k_is_house_value (P := P) (w := w) (base := base) (T := T) (c := c) X G sd
  exact got (sd.def_ 19 (d := d_need_house) rfl) (He.glo_ok X G (sd.fact 19 (f := .glo "need_house") rfl)) sc_need_house rfl (by decide) fun f cdv A outer s H E hr => by
    unfold b_need_house
    exact (sss_one (ss_if (sb_not (sb_val (callD o_is_house_value (hr.mono (by decide)) (by rfl) (fun _ _ _ _ _ _ us hl => match us, hl with | [_], _ => rfl) (sl_cons (ev 0) sl_nil rfl) (by decide) rfl rfl) (fun _ => rfl))) (sss_one ss_never) sss_nil))
def b_need_lot : Ss Dk := (ifF (notB (truF (callF g_is_between (consL (varF 1) (consL (cstF (.int 0)) (consL (binF subD (mapF lenD (consL (varF 0) nilL)) (cstF (.int 1))) nilL)))))) nevF skipF)
theorem sc_need_lot : FnScope ["house", "lot"] ["house", "lot"] (defScope s_need_lot) := ⟨rfl, rfl, rfl, by decide +kernel, rfl, by decide +kernel, by decide +kernel⟩
def g_need_lot : List D → Dk → Option (D × Dk) := defN 2 2 b_need_lot
theorem k_need_lot (X : K.In h) (G : h.Ns mainGlobals mg) (sd : He.SaysD fa fn K) : Got P w K mg base (dW "cells" "draws" T c) "need_lot" s_need_lot 3 2 ["house", "lot"] g_need_lot := by
  have o_is_between := k_is_between (P := P) (w := w) (base := base) (T := T) (c := c) X G sd
  have m_len : mg "len" = none := He.free_ok X G (sd.fact 56 rfl)
  exact got (sd.def_ 20 (d := d_need_lot) rfl) (He.glo_ok X G (sd.fact 20 (f := .glo "need_lot") rfl)) sc_need_lot rfl (by decide) fun f cdv A outer s H E hr => by
    unfold b_need_lot
    exact (sss_one (ss_if (sb_not (sb_val (callD o_is_between (hr.mono (by decide)) (by rfl) (fun _ _ _ _ _ _ us hl => match us, hl with | [_, _, _], _ => rfl) (sl_cons (ev 1) (sl_cons eInt (sl_cons (se_op ov_sub (se_cB cv_len (by rfl) m_len b_len (sl_cons (ev 0) sl_nil rfl) (by decide) (by decide) rfl rfl) eInt) sl_nil rfl) rfl) rfl) (by decide) rfl rfl) (fun _ => rfl))) (sss_one ss_never) sss_nil))
def b_need_two_lots : Ss Dk := (seqF (exprF (callF g_need_house (consL (varF 0) nilL))) (seqF (exprF (callF g_need_lot (consL (varF 0) (consL (varF 1) nilL)))) (exprF (callF g_need_lot (consL (varF 0) (consL (varF 2) nilL))))))
theorem sc_need_two_lots : FnScope ["house", "x", "y"] ["house", "x", "y"] (defScope s_need_two_lots) := ⟨rfl, rfl, rfl, by decide +kernel, rfl, by decide +kernel, by decide +kernel⟩
def g_need_two_lots : List D → Dk → Option (D × Dk) := defN 3 3 b_need_two_lots
theorem k_need_two_lots (X : K.In h) (G : h.Ns mainGlobals mg) (sd : He.SaysD fa fn K) : Got P w K mg base (dW "cells" "draws" T c) "need_two_lots" s_need_two_lots 7 3 ["house", "x", "y"] g_need_two_lots := by
  have o_need_house := k_need_house (P := P) (w := w) (base := base) (T := T) (c := c) X G sd
  have o_need_lot := k_need_lot (P := P) (w := w) (base := base) (T := T) (c := c) X G sd
  exact got (sd.def_ 21 (d := d_need_two_lots) rfl) (He.glo_ok X G (sd.fact 21 (f := .glo "need_two_lots") rfl)) sc_need_two_lots rfl (by decide) fun f cdv A outer s H E hr => by
    unfold b_need_two_lots
    exact (sss_cons (ss_expr (callD o_need_house (hr.mono (by decide)) (by rfl) (fun _ _ _ _ _ _ us hl => match us, hl with | [_], _ => rfl) (sl_cons (ev 0) sl_nil rfl) (by decide) rfl rfl) rfl) (sss_cons (ss_expr (callD o_need_lot (hr.mono (by decide)) (by rfl) (fun _ _ _ _ _ _ us hl => match us, hl with | [_, _], _ => rfl) (sl_cons (ev 0) (sl_cons (ev 1) sl_nil rfl) rfl) (by decide) rfl rfl) rfl) (sss_one (ss_expr (callD o_need_lot (hr.mono (by decide)) (by rfl) (fun _ _ _ _ _ _ us hl => match us, hl with | [_, _], _ => rfl) (sl_cons (ev 0) (sl_cons (ev 2) sl_nil rfl) rfl) (by decide) rfl rfl) rfl))))
def b_all_of : Ss Dk := (seqF (exprF (callF g_need_two_lots (consL (varF 0) (consL (varF 1) (consL (varF 2) nilL))))) (retF (binF ixD (binF ixD (callF g_alls_of (consL (varF 0) nilL)) (varF 1)) (varF 2))))
theorem sc_all_of : FnScope ["house", "x", "y"] ["house", "x", "y"] (defScope s_all_of) := ⟨rfl, rfl, rfl, by decide +kernel, rfl, by decide +kernel, by decide +kernel⟩
def g_all_of : List D → Dk → Option (D × Dk) := defN 3 3 b_all_of
theorem k_all_of (X : K.In h) (G : h.Ns mainGlobals mg) (sd : He.SaysD fa fn K) : Got P w K mg base (dW "cells" "draws" T c) "all_of" s_all_of 8 3 ["house", "x", "y"] g_all_of := by
  have o_alls_of := k_alls_of (P := P) (w := w) (base := base) (T := T) (c := c) X G sd
  have o_need_two_lots := k_need_two_lots (P := P) (w := w) (base := base) (T := T) (c := c) X G sd
  exact got (sd.def_ 22 (d := d_all_of) rfl) (He.glo_ok X G (sd.fact 22 (f := .glo "all_of") rfl)) sc_all_of rfl (by decide) fun f cdv A outer s H E hr => by
    unfold b_all_of
    exact (sss_cons (ss_expr (callD o_need_two_lots (hr.mono (by decide)) (by rfl) (fun _ _ _ _ _ _ us hl => match us, hl with | [_, _, _], _ => rfl) (sl_cons (ev 0) (sl_cons (ev 1) (sl_cons (ev 2) sl_nil rfl) rfl) rfl) (by decide) rfl rfl) rfl) (sss_one (ss_ret (se_at (se_at (callD o_alls_of (hr.mono (by decide)) (by rfl) (fun _ _ _ _ _ _ us hl => match us, hl with | [_], _ => rfl) (sl_cons (ev 0) sl_nil rfl) (by decide) rfl rfl) (ev 1) (fun _ _ => rfl)) (ev 2) (fun _ _ => rfl)))))
def b_least : Ss Dk := (seqF (exprF (callF g_need_house (consL (varF 0) nilL))) (retF (callF g_least_of (consL (varF 0) nilL))))
theorem sc_least : FnScope ["house"] ["house"] (defScope s_least) := ⟨rfl, rfl, rfl, by decide +kernel, rfl, by decide +kernel, by decide +kernel⟩
def g_least : List D → Dk → Option (D × Dk) := defN 1 1 b_least
theorem k_least (X : K.In h) (G : h.Ns mainGlobals mg) (sd : He.SaysD fa fn K) : Got P w K mg base (dW "cells" "draws" T c) "least" s_least 7 1 ["house"] g_least := by
  have o_least_of := k_least_of (P := P) (w := w) (base := base) (T := T) (c := c) X G sd
  have o_need_house := k_need_house (P := P) (w := w) (base := base) (T := T) (c := c) X G sd
  exact got (sd.def_ 23 (d := d_least) rfl) (He.glo_ok X G (sd.fact 23 (f := .glo "least") rfl)) sc_least rfl (by decide) fun f cdv A outer s H E hr => by
    unfold b_least
    exact (sss_cons (ss_expr (callD o_need_house (hr.mono (by decide)) (by rfl) (fun _ _ _ _ _ _ us hl => match us, hl with | [_], _ => rfl) (sl_cons (ev 0) sl_nil rfl) (by decide) rfl rfl) rfl) (sss_one (ss_ret (callD o_least_of (hr.mono (by decide)) (by rfl) (fun _ _ _ _ _ _ us hl => match us, hl with | [_], _ => rfl) (sl_cons (ev 0) sl_nil rfl) (by decide) rfl rfl))))
def b_greatest : Ss Dk := (seqF (exprF (callF g_need_house (consL (varF 0) nilL))) (retF (callF g_greatest_of (consL (varF 0) nilL))))
theorem sc_greatest : FnScope ["house"] ["house"] (defScope s_greatest) := ⟨rfl, rfl, rfl, by decide +kernel, rfl, by decide +kernel, by decide +kernel⟩
def g_greatest : List D → Dk → Option (D × Dk) := defN 1 1 b_greatest
theorem k_greatest (X : K.In h) (G : h.Ns mainGlobals mg) (sd : He.SaysD fa fn K) : Got P w K mg base (dW "cells" "draws" T c) "greatest" s_greatest 7 1 ["house"] g_greatest := by
  have o_greatest_of := k_greatest_of (P := P) (w := w) (base := base) (T := T) (c := c) X G sd
  have o_need_house := k_need_house (P := P) (w := w) (base := base) (T := T) (c := c) X G sd
  exact got (sd.def_ 24 (d := d_greatest) rfl) (He.glo_ok X G (sd.fact 24 (f := .glo "greatest") rfl)) sc_greatest rfl (by decide) fun f cdv A outer s H E hr => by
    unfold b_greatest
    exact (sss_cons (ss_expr (callD o_need_house (hr.mono (by decide)) (by rfl) (fun _ _ _ _ _ _ us hl => match us, hl with | [_], _ => rfl) (sl_cons (ev 0) sl_nil rfl) (by decide) rfl rfl) rfl) (sss_one (ss_ret (callD o_greatest_of (hr.mono (by decide)) (by rfl) (fun _ _ _ _ _ _ us hl => match us, hl with | [_], _ => rfl) (sl_cons (ev 0) sl_nil rfl) (by decide) rfl rfl))))
def b_pieces : Ss Dk := (seqF (exprF (callF g_need_house (consL (varF 0) nilL))) (retF (mapF tupleD (consL (callF g_pieces_of (consL (varF 0) nilL)) nilL))))
theorem sc_pieces : FnScope ["house"] ["house"] (defScope s_pieces) := ⟨rfl, rfl, rfl, by decide +kernel, rfl, by decide +kernel, by decide +kernel⟩
def g_pieces : List D → Dk → Option (D × Dk) := defN 1 1 b_pieces
theorem k_pieces (X : K.In h) (G : h.Ns mainGlobals mg) (sd : He.SaysD fa fn K) : Got P w K mg base (dW "cells" "draws" T c) "pieces" s_pieces 7 1 ["house"] g_pieces := by
  have o_need_house := k_need_house (P := P) (w := w) (base := base) (T := T) (c := c) X G sd
  have o_pieces_of := k_pieces_of (P := P) (w := w) (base := base) (T := T) (c := c) X G sd
  have m_tuple : mg "tuple" = none := He.free_ok X G (sd.fact 64 rfl)
  exact got (sd.def_ 25 (d := d_pieces) rfl) (He.glo_ok X G (sd.fact 25 (f := .glo "pieces") rfl)) sc_pieces rfl (by decide) fun f cdv A outer s H E hr => by
    unfold b_pieces
    exact (sss_cons (ss_expr (callD o_need_house (hr.mono (by decide)) (by rfl) (fun _ _ _ _ _ _ us hl => match us, hl with | [_], _ => rfl) (sl_cons (ev 0) sl_nil rfl) (by decide) rfl rfl) rfl) (sss_one (ss_ret (se_cT cv_tuple (by rfl) m_tuple b_tuple (sl_cons (callD o_pieces_of (hr.mono (by decide)) (by rfl) (fun _ _ _ _ _ _ us hl => match us, hl with | [_], _ => rfl) (sl_cons (ev 0) sl_nil rfl) (by decide) rfl rfl) sl_nil rfl) (by decide) (by decide) rfl rfl))))
def b_depths : Ss Dk := (seqF (exprF (callF g_need_house (consL (varF 0) nilL))) (retF (mapF tupleD (consL (callF g_depths_of (consL (varF 0) nilL)) nilL))))
theorem sc_depths : FnScope ["house"] ["house"] (defScope s_depths) := ⟨rfl, rfl, rfl, by decide +kernel, rfl, by decide +kernel, by decide +kernel⟩
def g_depths : List D → Dk → Option (D × Dk) := defN 1 1 b_depths
theorem k_depths (X : K.In h) (G : h.Ns mainGlobals mg) (sd : He.SaysD fa fn K) : Got P w K mg base (dW "cells" "draws" T c) "depths" s_depths 7 1 ["house"] g_depths := by
  have o_depths_of := k_depths_of (P := P) (w := w) (base := base) (T := T) (c := c) X G sd
  have o_need_house := k_need_house (P := P) (w := w) (base := base) (T := T) (c := c) X G sd
  have m_tuple : mg "tuple" = none := He.free_ok X G (sd.fact 64 rfl)
  exact got (sd.def_ 26 (d := d_depths) rfl) (He.glo_ok X G (sd.fact 26 (f := .glo "depths") rfl)) sc_depths rfl (by decide) fun f cdv A outer s H E hr => by
    unfold b_depths
    exact (sss_cons (ss_expr (callD o_need_house (hr.mono (by decide)) (by rfl) (fun _ _ _ _ _ _ us hl => match us, hl with | [_], _ => rfl) (sl_cons (ev 0) sl_nil rfl) (by decide) rfl rfl) rfl) (sss_one (ss_ret (se_cT cv_tuple (by rfl) m_tuple b_tuple (sl_cons (callD o_depths_of (hr.mono (by decide)) (by rfl) (fun _ _ _ _ _ _ us hl => match us, hl with | [_], _ => rfl) (sl_cons (ev 0) sl_nil rfl) (by decide) rfl rfl) sl_nil rfl) (by decide) (by decide) rfl rfl))))
def b_steps_above : Ss Dk := (seqF (exprF (callF g_need_house (consL (varF 0) nilL))) (seqF (exprF (callF g_need_lot (consL (varF 0) (consL (varF 1) nilL)))) (retF (mapF tupleD (consL (callF g_steps_of (consL (varF 0) (consL (varF 1) nilL))) nilL)))))
theorem sc_steps_above : FnScope ["house", "x"] ["house", "x"] (defScope s_steps_above) := ⟨rfl, rfl, rfl, by decide +kernel, rfl, by decide +kernel, by decide +kernel⟩
def g_steps_above : List D → Dk → Option (D × Dk) := defN 2 2 b_steps_above
theorem k_steps_above (X : K.In h) (G : h.Ns mainGlobals mg) (sd : He.SaysD fa fn K) : Got P w K mg base (dW "cells" "draws" T c) "steps_above" s_steps_above 7 2 ["house", "x"] g_steps_above := by
  have o_need_house := k_need_house (P := P) (w := w) (base := base) (T := T) (c := c) X G sd
  have o_need_lot := k_need_lot (P := P) (w := w) (base := base) (T := T) (c := c) X G sd
  have o_steps_of := k_steps_of (P := P) (w := w) (base := base) (T := T) (c := c) X G sd
  have m_tuple : mg "tuple" = none := He.free_ok X G (sd.fact 64 rfl)
  exact got (sd.def_ 27 (d := d_steps_above) rfl) (He.glo_ok X G (sd.fact 27 (f := .glo "steps_above") rfl)) sc_steps_above rfl (by decide) fun f cdv A outer s H E hr => by
    unfold b_steps_above
    exact (sss_cons (ss_expr (callD o_need_house (hr.mono (by decide)) (by rfl) (fun _ _ _ _ _ _ us hl => match us, hl with | [_], _ => rfl) (sl_cons (ev 0) sl_nil rfl) (by decide) rfl rfl) rfl) (sss_cons (ss_expr (callD o_need_lot (hr.mono (by decide)) (by rfl) (fun _ _ _ _ _ _ us hl => match us, hl with | [_, _], _ => rfl) (sl_cons (ev 0) (sl_cons (ev 1) sl_nil rfl) rfl) (by decide) rfl rfl) rfl) (sss_one (ss_ret (se_cT cv_tuple (by rfl) m_tuple b_tuple (sl_cons (callD o_steps_of (hr.mono (by decide)) (by rfl) (fun _ _ _ _ _ _ us hl => match us, hl with | [_, _], _ => rfl) (sl_cons (ev 0) (sl_cons (ev 1) sl_nil rfl) rfl) (by decide) rfl rfl) sl_nil rfl) (by decide) (by decide) rfl rfl)))))
def q1_turned_over : Ev Dk := compF [3] (rgItF (varF 1)) (putV 3) yesB (binF ixD (binF ixD (varF 0) (varF 3)) (varF 2))
def q2_turned_over : Ev Dk := compF [2] (rgItF (varF 1)) (putV 2) yesB (mapF tupleD (consL q1_turned_over nilL))
def b_turned_over : Ss Dk := (seqF (exprF (callF g_need_house (consL (varF 0) nilL))) (seqF (setF false 1 (mapF rngV (consL (mapF lenD (consL (varF 0) nilL)) nilL))) (retF (mapF tupleD (consL q2_turned_over nilL)))))
theorem sc_turned_over : FnScope ["house", "lots", "x", "y"] ["house"] (defScope s_turned_over) := ⟨rfl, rfl, rfl, by decide +kernel, rfl, by decide +kernel, by decide +kernel⟩
def g_turned_over : List D → Dk → Option (D × Dk) := defN 1 4 b_turned_over
theorem k_turned_over (X : K.In h) (G : h.Ns mainGlobals mg) (sd : He.SaysD fa fn K) : Got P w K mg base (dW "cells" "draws" T c) "turned_over" s_turned_over 7 1 ["house"] g_turned_over := by
  have o_need_house := k_need_house (P := P) (w := w) (base := base) (T := T) (c := c) X G sd
  have m_len : mg "len" = none := He.free_ok X G (sd.fact 56 rfl)
  have m_range : mg "range" = none := He.free_ok X G (sd.fact 60 rfl)
  have m_tuple : mg "tuple" = none := He.free_ok X G (sd.fact 64 rfl)
  exact got (sd.def_ 28 (d := d_turned_over) rfl) (He.glo_ok X G (sd.fact 28 (f := .glo "turned_over") rfl)) sc_turned_over rfl (by decide) fun f cdv A outer s H E hr => by
    unfold b_turned_over
    exact (sss_cons (ss_expr (callD o_need_house (hr.mono (by decide)) (by rfl) (fun _ _ _ _ _ _ us hl => match us, hl with | [_], _ => rfl) (sl_cons (ev 0) sl_nil rfl) (by decide) rfl rfl) rfl) (sss_cons (ss_set (i := 1) sc_turned_over.nd rfl (by first | exact Or.inl rfl | exact Or.inr rfl) (se_weak (se_cT cv_rng (by rfl) m_range b_range (sl_cons (se_cB cv_len (by rfl) m_len b_len (sl_cons (ev 0) sl_nil rfl) (by decide) (by decide) rfl rfl) sl_nil rfl) (by decide) (by decide) rfl rfl)) rfl (by first | exact Or.inl rfl | exact Or.inr rfl)) (sss_one (ss_ret (se_cT cv_tuple (by rfl) m_tuple b_tuple (sl_cons (se_comp (own := [("x", 2)]) rfl sc_turned_over.nd (si_rgV (ev 1)) (blkOk_by rfl) (fun _ _ _ _ _ => (sg_name (i := 2) sc_turned_over.nd rfl (by first | exact Or.inl rfl | exact Or.inr rfl) (by first | exact Or.inl rfl | exact Or.inr rfl))) (by decide) (fun _ _ _ _ _ => sbs_nil) (fun _ _ _ _ _ => (se_cT cv_tuple (by rfl) m_tuple b_tuple (sl_cons (se_comp (own := [("y", 3)]) rfl sc_turned_over.nd (si_rgV (ev 1)) (blkOk_by rfl) (fun _ _ _ _ _ => (sg_name (i := 3) sc_turned_over.nd rfl (by first | exact Or.inl rfl | exact Or.inr rfl) (by first | exact Or.inl rfl | exact Or.inr rfl))) (by decide) (fun _ _ _ _ _ => sbs_nil) (fun _ _ _ _ _ => (se_at (se_at (ev 0) (ev 3) (fun _ _ => rfl)) (ev 2) (fun _ _ => rfl))) (fun _ => rfl)) sl_nil rfl) (by decide) (by decide) rfl rfl)) (fun _ => rfl)) sl_nil rfl) (by decide) (by decide) rfl rfl)))))
def q1_pieces_in : Ev Dk := compF [2] (itemsF (callF g_pieces_of (consL (varF 0) nilL))) (putV 2) (truF (binF eqD (binF ixD (binF ixD (varF 0) (varF 2)) (varF 1)) (cstF (.int 1)))) (varF 2)
def b_pieces_in : Ss Dk := (retF q1_pieces_in)
theorem sc_pieces_in : FnScope ["house", "x", "piece"] ["house", "x"] (defScope s_pieces_in) := ⟨rfl, rfl, rfl, by decide +kernel, rfl, by decide +kernel, by decide +kernel⟩
def g_pieces_in : List D → Dk → Option (D × Dk) := defN 2 3 b_pieces_in
theorem k_pieces_in (X : K.In h) (G : h.Ns mainGlobals mg) (sd : He.SaysD fa fn K) : Got P w K mg base (dW "cells" "draws" T c) "pieces_in" s_pieces_in 6 2 ["house", "x"] g_pieces_in := by
  have o_pieces_of := k_pieces_of (P := P) (w := w) (base := base) (T := T) (c := c) X G sd
  exact got (sd.def_ 29 (d := d_pieces_in) rfl) (He.glo_ok X G (sd.fact 29 (f := .glo "pieces_in") rfl)) sc_pieces_in rfl (by decide) fun f cdv A outer s H E hr => by
    unfold b_pieces_in
    exact (sss_one (ss_ret (se_comp (own := [("piece", 2)]) rfl sc_pieces_in.nd (si_val (callD o_pieces_of (hr.mono (by decide)) (by rfl) (fun _ _ _ _ _ _ us hl => match us, hl with | [_], _ => rfl) (sl_cons (ev 0) sl_nil rfl) (by decide) rfl rfl)) (blkOk_by rfl) (fun _ _ _ _ _ => (sg_name (i := 2) sc_pieces_in.nd rfl (by first | exact Or.inl rfl | exact Or.inr rfl) (by first | exact Or.inl rfl | exact Or.inr rfl))) (by decide) (fun _ _ _ _ _ => (sbs_one (sb_cm (ov_eq hr.hu0) isB_eq (se_at (se_at (ev 0) (ev 2) (fun _ _ => rfl)) (ev 1) (fun _ _ => rfl)) eInt (nomark _)))) (fun _ _ _ _ _ => (ev 2)) (fun _ => rfl))))
def b_pieces_within : Ss Dk := (seqF (exprF (callF g_need_house (consL (varF 0) nilL))) (seqF (exprF (callF g_need_lot (consL (varF 0) (consL (varF 1) nilL)))) (retF (mapF tupleD (consL (callF g_pieces_in (consL (varF 0) (consL (varF 1) nilL))) nilL)))))
theorem sc_pieces_within : FnScope ["house", "x"] ["house", "x"] (defScope s_pieces_within) := ⟨rfl, rfl, rfl, by decide +kernel, rfl, by decide +kernel, by decide +kernel⟩
def g_pieces_within : List D → Dk → Option (D × Dk) := defN 2 2 b_pieces_within
theorem k_pieces_within (X : K.In h) (G : h.Ns mainGlobals mg) (sd : He.SaysD fa fn K) : Got P w K mg base (dW "cells" "draws" T c) "pieces_within" s_pieces_within 7 2 ["house", "x"] g_pieces_within := by
  have o_need_house := k_need_house (P := P) (w := w) (base := base) (T := T) (c := c) X G sd
  have o_need_lot := k_need_lot (P := P) (w := w) (base := base) (T := T) (c := c) X G sd
  have o_pieces_in := k_pieces_in (P := P) (w := w) (base := base) (T := T) (c := c) X G sd
  have m_tuple : mg "tuple" = none := He.free_ok X G (sd.fact 64 rfl)
  exact got (sd.def_ 30 (d := d_pieces_within) rfl) (He.glo_ok X G (sd.fact 30 (f := .glo "pieces_within") rfl)) sc_pieces_within rfl (by decide) fun f cdv A outer s H E hr => by
    unfold b_pieces_within
    exact (sss_cons (ss_expr (callD o_need_house (hr.mono (by decide)) (by rfl) (fun _ _ _ _ _ _ us hl => match us, hl with | [_], _ => rfl) (sl_cons (ev 0) sl_nil rfl) (by decide) rfl rfl) rfl) (sss_cons (ss_expr (callD o_need_lot (hr.mono (by decide)) (by rfl) (fun _ _ _ _ _ _ us hl => match us, hl with | [_, _], _ => rfl) (sl_cons (ev 0) (sl_cons (ev 1) sl_nil rfl) rfl) (by decide) rfl rfl) rfl) (sss_one (ss_ret (se_cT cv_tuple (by rfl) m_tuple b_tuple (sl_cons (callD o_pieces_in (hr.mono (by decide)) (by rfl) (fun _ _ _ _ _ _ us hl => match us, hl with | [_, _], _ => rfl) (sl_cons (ev 0) (sl_cons (ev 1) sl_nil rfl) rfl) (by decide) rfl rfl) sl_nil rfl) (by decide) (by decide) rfl rfl)))))
def b_lot_with : Ss Dk := (seqF (exprF (callF g_need_house (consL (varF 0) nilL))) (seqF (ifF (orB (notB (truF (callF g_are_between (consL (varF 1) (consL (cstF (.int 0)) (consL (binF subD (mapF lenD (consL (varF 0) nilL)) (cstF (.int 1))) nilL)))))) (truF (binF gtD (mapF lenD (consL (varF 1) nilL)) (cstF (.int 24))))) nevF skipF) (retF (callF g_all_of_some (consL (varF 0) (consL (varF 1) nilL))))))
theorem sc_lot_with : FnScope ["house", "lots"] ["house", "lots"] (defScope s_lot_with) := ⟨rfl, rfl, rfl, by decide +kernel, rfl, by decide +kernel, by decide +kernel⟩
def g_lot_with : List D → Dk → Option (D × Dk) := defN 2 2 b_lot_with
theorem k_lot_with (X : K.In h) (G : h.Ns mainGlobals mg) (sd : He.SaysD fa fn K) : Got P w K mg base (dW "cells" "draws" T c) "lot_with" s_lot_with 7 2 ["house", "lots"] g_lot_with := by
  have o_all_of_some := k_all_of_some (P := P) (w := w) (base := base) (T := T) (c := c) X G sd
  have o_are_between := k_are_between (P := P) (w := w) (base := base) (T := T) (c := c) X G sd
  have o_need_house := k_need_house (P := P) (w := w) (base := base) (T := T) (c := c) X G sd
  have m_len : mg "len" = none := He.free_ok X G (sd.fact 56 rfl)
  have c_MOST_ASKED : ∃ t, mg "MOST_ASKED" = some (.int 24 t) := He.int_ok X G (sd.fact 66 rfl)
  exact got (sd.def_ 31 (d := d_lot_with) rfl) (He.glo_ok X G (sd.fact 31 (f := .glo "lot_with") rfl)) sc_lot_with rfl (by decide) fun f cdv A outer s H E hr => by
    unfold b_lot_with
    exact (sss_cons (ss_expr (callD o_need_house (hr.mono (by decide)) (by rfl) (fun _ _ _ _ _ _ us hl => match us, hl with | [_], _ => rfl) (sl_cons (ev 0) sl_nil rfl) (by decide) rfl rfl) rfl) (sss_cons (ss_if (L2.PW.pt (sb_or (sb_not (sb_val (callD o_are_between (hr.mono (by decide)) (by rfl) (fun _ _ _ _ _ _ us hl => match us, hl with | [_, _, _], _ => rfl) (sl_cons (ev 1) (sl_cons eInt (sl_cons (se_op ov_sub (se_cB cv_len (by rfl) m_len b_len (sl_cons (ev 0) sl_nil rfl) (by decide) (by decide) rfl rfl) eInt) sl_nil rfl) rfl) rfl) (by decide) rfl rfl) (fun _ => rfl))) (pw_or1 (sb_cm ov_gt isB_gt (se_cB cv_len (by rfl) m_len b_len (sl_cons (ev 1) sl_nil rfl) (by decide) (by decide) rfl rfl) (eGlo (by rfl) c_MOST_ASKED (by decide)) (nomark _))))) (sss_one ss_never) sss_nil) (sss_one (ss_ret (callD o_all_of_some (hr.mono (by decide)) (by rfl) (fun _ _ _ _ _ _ us hl => match us, hl with | [_, _], _ => rfl) (sl_cons (ev 0) (sl_cons (ev 1) sl_nil rfl) rfl) (by decide) rfl rfl)))))
def b__law_draw : Ss Dk := (seqF (dkSetF 0 (binF addD (dkF 0 Dk.draws) (cstF (.int 1)))) (seqF (setF false 2 (binF addD (dkF 0 Dk.mixed) (binF mulD (cstF (.int 61473)) (dkF 0 Dk.draws)))) (seqF (ifF (dkAnyB 0) (seqF (setF false 3 (dkPopF 0)) (seqF (ifF (truF (binF geD (varF 3) (binF powD (cstF (.int 10)) (cstF (.int 18))))) (seqF (exprF (dkAppF 0 (consL (binF divD (varF 3) (mapF maxD (consL (cstF (.int 2)) (consL (varF 1) nilL)))) nilL))) (retF (binF modD (mapF int1D (consL (varF 3) nilL)) (varF 1)))) skipF) (setF false 2 (binF addD (varF 2) (binF modD (mapF int1D (consL (varF 3) nilL)) (cstF (.int 2147483629))))))) skipF) (seqF (setF false 2 (binF modD (mapF int1D (consL (binF addD (binF mulD (varF 2) (cstF (.int 39373))) (cstF (.int 79))) nilL)) (cstF (.int 2147483647)))) (seqF (setF false 2 (binF modD (mapF int1D (consL (binF addD (binF addD (binF mulD (varF 2) (varF 2)) (binF mulD (cstF (.int 52713)) (dkF 0 Dk.draws))) (cstF (.int 97))) nilL)) (cstF (.int 2147483587)))) (seqF (setF false 2 (binF modD (mapF int1D (consL (binF mulD (varF 2) (cstF (.int 40692))) nilL)) (cstF (.int 2147483563)))) (retF (binF modD (mapF int1D (consL (binF divD (varF 2) (cstF (.int 64))) nilL)) (varF 1)))))))))
theorem sc__law_draw : FnScope ["_law_deck_here", "_law_many", "_law_number", "_law_cell"] ["_law_deck_here", "_law_many"] (defScope s__law_draw) := ⟨rfl, rfl, rfl, by decide +kernel, rfl, by decide +kernel, by decide +kernel⟩
def g__law_draw : List D → Dk → Option (D × Dk) := defN 2 4 b__law_draw
theorem k__law_draw (X : K.In h) (G : h.Ns mainGlobals mg) (sd : He.SaysD fa fn K) : Got P w K mg base (dW "cells" "draws" T c) "_law_draw" s__law_draw 1 2 ["_law_deck_here", "_law_many"] g__law_draw := by
  have m_int : mg "int" = none := He.free_ok X G (sd.fact 54 rfl)
  have m_max : mg "max" = none := He.free_ok X G (sd.fact 58 rfl)
  exact got (sd.def_ 33 (d := d__law_draw) rfl) (He.glo_ok X G (sd.fact 33 (f := .glo "_law_draw") rfl)) sc__law_draw rfl (by decide) fun f cdv A outer s H E hr => by
    unfold b__law_draw
    exact (sss_cons (ss_dkSet keyOk hr.hu (pv 0) (se_op ov_add (se_dk hr.hu (fun _ => dk_d keyOk) (pv 0) (fun _ _ => rfl)) eInt) rfl) (sss_cons (ss_set (i := 2) sc__law_draw.nd rfl (by first | exact Or.inl rfl | exact Or.inr rfl) (se_weak (se_op ov_add (se_dk hr.hu (fun _ => dk_m keyOk) (pv 0) (fun _ _ => rfl)) (se_op ov_mul eInt (se_dk hr.hu (fun _ => dk_d keyOk) (pv 0) (fun _ _ => rfl))))) rfl (by first | exact Or.inl rfl | exact Or.inr rfl)) (sss_cons (ss_if (sb_dkAny hr.hu (pv 0) (fun _ _ => rfl) (nomark _)) (sss_cons (ss_set (i := 3) sc__law_draw.nd rfl (by first | exact Or.inl rfl | exact Or.inr rfl) (se_dkPop hr.hu (pv 0) (fun _ _ => rfl) rfl rfl) rfl (by first | exact Or.inl rfl | exact Or.inr rfl)) (sss_cons (ss_if (sb_cm ov_ge isB_ge (ev 3) (se_op ov_pow eInt eInt) (nomark _)) (sss_cons (ss_expr (se_dkApp hr.hu (pv 0) (fun _ _ => rfl) (sl_cons (se_op ov_div (ev 3) (se_cB (cv_max rfl) (by rfl) m_max b_max (sl_cons eInt (sl_cons (ev 1) sl_nil rfl) rfl) (by decide) (by decide) rfl rfl)) sl_nil rfl) rfl rfl rfl rfl) rfl) (sss_one (ss_ret (se_op ov_mod (se_cT cv_int (by rfl) m_int b_int (sl_cons (ev 3) sl_nil rfl) (by decide) (by decide) rfl rfl) (ev 1))))) sss_nil) (sss_one (ss_set (i := 2) sc__law_draw.nd rfl (by first | exact Or.inl rfl | exact Or.inr rfl) (se_weak (se_op ov_add (ev 2) (se_op ov_mod (se_cT cv_int (by rfl) m_int b_int (sl_cons (ev 3) sl_nil rfl) (by decide) (by decide) rfl rfl) eInt))) rfl (by first | exact Or.inl rfl | exact Or.inr rfl))))) sss_nil) (sss_cons (ss_set (i := 2) sc__law_draw.nd rfl (by first | exact Or.inl rfl | exact Or.inr rfl) (se_weak (se_op ov_mod (se_cT cv_int (by rfl) m_int b_int (sl_cons (se_op ov_add (se_op ov_mul (ev 2) eInt) eInt) sl_nil rfl) (by decide) (by decide) rfl rfl) eInt)) rfl (by first | exact Or.inl rfl | exact Or.inr rfl)) (sss_cons (ss_set (i := 2) sc__law_draw.nd rfl (by first | exact Or.inl rfl | exact Or.inr rfl) (se_weak (se_op ov_mod (se_cT cv_int (by rfl) m_int b_int (sl_cons (se_op ov_add (se_op ov_add (se_op ov_mul (ev 2) (ev 2)) (se_op ov_mul eInt (se_dk hr.hu (fun _ => dk_d keyOk) (pv 0) (fun _ _ => rfl)))) eInt) sl_nil rfl) (by decide) (by decide) rfl rfl) eInt)) rfl (by first | exact Or.inl rfl | exact Or.inr rfl)) (sss_cons (ss_set (i := 2) sc__law_draw.nd rfl (by first | exact Or.inl rfl | exact Or.inr rfl) (se_weak (se_op ov_mod (se_cT cv_int (by rfl) m_int b_int (sl_cons (se_op ov_mul (ev 2) eInt) sl_nil rfl) (by decide) (by decide) rfl rfl) eInt)) rfl (by first | exact Or.inl rfl | exact Or.inr rfl)) (sss_one (ss_ret (se_op ov_mod (se_cT cv_int (by rfl) m_int b_int (sl_cons (se_op ov_div (ev 2) eInt) sl_nil rfl) (by decide) (by decide) rfl rfl) (ev 1))))))))))
def b__law_pick : Ss Dk := (retF (binF ixD (varF 1) (callF g__law_draw (consL (varF 0) (consL (mapF lenD (consL (varF 1) nilL)) nilL)))))
theorem sc__law_pick : FnScope ["_law_deck_here", "_law_some"] ["_law_deck_here", "_law_some"] (defScope s__law_pick) := ⟨rfl, rfl, rfl, by decide +kernel, rfl, by decide +kernel, by decide +kernel⟩
def g__law_pick : List D → Dk → Option (D × Dk) := defN 2 2 b__law_pick
theorem k__law_pick (X : K.In h) (G : h.Ns mainGlobals mg) (sd : He.SaysD fa fn K) : Got P w K mg base (dW "cells" "draws" T c) "_law_pick" s__law_pick 2 2 ["_law_deck_here", "_law_some"] g__law_pick := by
  have o__law_draw := k__law_draw (P := P) (w := w) (base := base) (T := T) (c := c) X G sd
  have m_len : mg "len" = none := He.free_ok X G (sd.fact 56 rfl)
  exact got (sd.def_ 34 (d := d__law_pick) rfl) (He.glo_ok X G (sd.fact 34 (f := .glo "_law_pick") rfl)) sc__law_pick rfl (by decide) fun f cdv A outer s H E hr => by
    unfold b__law_pick
    exact (sss_one (ss_ret (se_at (ev 1) (callD o__law_draw (hr.mono (by decide)) (by rfl) (fun _ _ _ _ _ _ us hl => match us, hl with | [_, _], _ => rfl) (sl_cons (ev 0) (sl_cons (se_cB cv_len (by rfl) m_len b_len (sl_cons (ev 1) sl_nil rfl) (by decide) (by decide) rfl rfl) sl_nil rfl) rfl) (by decide) rfl rfl) (fun _ _ => rfl))))
def q1__law_table : Ev Dk := compF [2] (itemsF (varF 0)) (putV 2) yesB (mapF int1D (consL (binF eqD (binF bandD (varF 1) (varF 2)) (varF 1)) nilL))
def q2__law_table : Ev Dk := compF [1] (itemsF (varF 0)) (putV 1) yesB (mapF tupleD (consL q1__law_table nilL))
def b__law_table : Ss Dk := (retF (mapF tupleD (consL q2__law_table nilL)))
theorem sc__law_table : FnScope ["_law_masks", "_law_x", "_law_y"] ["_law_masks"] (defScope s__law_table) := ⟨rfl, rfl, rfl, by decide +kernel, rfl, by decide +kernel, by decide +kernel⟩
def g__law_table : List D → Dk → Option (D × Dk) := defN 1 3 b__law_table
theorem k__law_table (X : K.In h) (G : h.Ns mainGlobals mg) (sd : He.SaysD fa fn K) : Got P w K mg base (dW "cells" "draws" T c) "_law_table" s__law_table 1 1 ["_law_masks"] g__law_table := by
  have m_int : mg "int" = none := He.free_ok X G (sd.fact 54 rfl)
  have m_tuple : mg "tuple" = none := He.free_ok X G (sd.fact 64 rfl)
  exact got (sd.def_ 35 (d := d__law_table) rfl) (He.glo_ok X G (sd.fact 35 (f := .glo "_law_table") rfl)) sc__law_table rfl (by decide) fun f cdv A outer s H E hr => by
    unfold b__law_table
    exact (sss_one (ss_ret (se_cT cv_tuple (by rfl) m_tuple b_tuple (sl_cons (se_comp (own := [("_law_x", 1)]) rfl sc__law_table.nd (si_val (ev 0)) (blkOk_by rfl) (fun _ _ _ _ _ => (sg_name (i := 1) sc__law_table.nd rfl (by first | exact Or.inl rfl | exact Or.inr rfl) (by first | exact Or.inl rfl | exact Or.inr rfl))) (by decide) (fun _ _ _ _ _ => sbs_nil) (fun _ _ _ _ _ => (se_cT cv_tuple (by rfl) m_tuple b_tuple (sl_cons (se_comp (own := [("_law_y", 2)]) rfl sc__law_table.nd (si_val (ev 0)) (blkOk_by rfl) (fun _ _ _ _ _ => (sg_name (i := 2) sc__law_table.nd rfl (by first | exact Or.inl rfl | exact Or.inr rfl) (by first | exact Or.inl rfl | exact Or.inr rfl))) (by decide) (fun _ _ _ _ _ => sbs_nil) (fun _ _ _ _ _ => (se_cT cv_int (by rfl) m_int b_int (sl_cons (se_cm (ov_eq hr.hu0) (se_op ov_band (ev 1) (ev 2)) (ev 1) (nomark _)) sl_nil rfl) (by decide) (by decide) rfl rfl)) (fun _ => rfl)) sl_nil rfl) (by decide) (by decide) rfl rfl)) (fun _ => rfl)) sl_nil rfl) (by decide) (by decide) rfl rfl)))
def bd1__law_met : Ss Dk := (ifF (truF (binF ninD (binF bandD (varF 5) (varF 3)) (varF 4))) (exprF (thawF (appendF 4 (consL (binF bandD (varF 5) (varF 3)) nilL)))) skipF)
def lp1__law_met : Ss Dk := forF (putV 5) (itemsF (varF 0)) bd1__law_met
def bd2__law_met : Ss Dk := (seqF (setF true 4 (mapF listD (consL (varF 0) nilL))) (seqF lp1__law_met (setF false 0 (iteF' (truF (binF leD (thawF (mapF lenD (consL (varF 4) nilL))) (varF 2))) (varF 4) (varF 0)))))
def lp2__law_met : Ss Dk := forF (putV 3) (itemsF (varF 1)) bd2__law_met
def b__law_met : Ss Dk := (seqF lp2__law_met (retF (varF 0)))
theorem sc__law_met : FnScope ["_law_masks", "_law_more", "_law_most", "_law_mask", "_law_near", "_law_old"] ["_law_masks", "_law_more", "_law_most"] (defScope s__law_met) := ⟨rfl, rfl, rfl, by decide +kernel, rfl, by decide +kernel, by decide +kernel⟩
def g__law_met : List D → Dk → Option (D × Dk) := defN 3 6 b__law_met
theorem k__law_met (X : K.In h) (G : h.Ns mainGlobals mg) (sd : He.SaysD fa fn K) : Got P w K mg base (dW "cells" "draws" T c) "_law_met" s__law_met 1 3 ["_law_masks", "_law_more", "_law_most"] g__law_met := by
  have m_len : mg "len" = none := He.free_ok X G (sd.fact 56 rfl)
  have m_list : mg "list" = none := He.free_ok X G (sd.fact 57 rfl)
  exact got (sd.def_ 36 (d := d__law_met) rfl) (He.glo_ok X G (sd.fact 36 (f := .glo "_law_met") rfl)) sc__law_met rfl (by decide) fun f cdv A outer s H E hr => by
    unfold b__law_met
    exact (sss_cons (ss_for PassesOwn.never rfl (si_val (ev 1)) (sg_name (i := 3) sc__law_met.nd rfl (by first | exact Or.inl rfl | exact Or.inr rfl) (by first | exact Or.inl rfl | exact Or.inr rfl)) (sss_cons (ss_set (i := 4) sc__law_met.nd rfl (by first | exact Or.inl rfl | exact Or.inr rfl) (se_cT cv_list (by rfl) m_list b_list (sl_cons (ev 0) sl_nil rfl) (by decide) (by decide) rfl rfl) rfl (by first | exact Or.inl rfl | exact Or.inr rfl)) (sss_cons (ss_for PassesOwn.never rfl (si_val (ev 0)) (sg_name (i := 5) sc__law_met.nd rfl (by first | exact Or.inl rfl | exact Or.inr rfl) (by first | exact Or.inl rfl | exact Or.inr rfl)) (sss_one (ss_if (sb_cm (ov_nin hr.hu) isB_nin (se_op ov_band (ev 5) (ev 3)) (ev 4) rfl) (sss_one (ss_expr (se_thaw (se_append (pv 4) (sl_cons (se_op ov_band (ev 5) (ev 3)) sl_nil rfl) rfl rfl rfl rfl)) rfl)) sss_nil)) (fun _ => rfl)) (sss_one (ss_set (i := 0) sc__law_met.nd rfl (by first | exact Or.inl rfl | exact Or.inr rfl) (se_ite (sb_cm ov_le isB_le (se_thaw (se_cB cv_len (by rfl) m_len b_len (sl_cons (ev 4) sl_nil rfl) (by decide) (by decide) rfl rfl)) (ev 2) (nomark _)) (ev 4) (ev 0)) rfl (by first | exact Or.inl rfl | exact Or.inr rfl))))) (fun _ => rfl)) (sss_one (ss_ret (ev 0))))
def q1__law_family : Ev Dk := compF [7] (rangeL (consL (mapF minD (consL (varF 1) (consL (binF addD (cstF (.int 1)) (callF g__law_draw (consL (varF 0) (consL (cstF (.int 8)) nilL)))) nilL))) nilL)) (putV 7) yesB (binF subD (binF shlD (cstF (.int 1)) (varF 7)) (cstF (.int 1)))
def q2__law_family : Ev Dk := compF [7] (rangeL (consL (varF 3) nilL)) (putV 7) yesB (binF shlD (cstF (.int 1)) (varF 7))
def q3__law_family : Ev Dk := compF [7] (rangeL (consL (varF 3) nilL)) (putV 7) yesB (binF bxorD (varF 5) (binF shlD (cstF (.int 1)) (varF 7)))
def q4__law_family : Ev Dk := compF [8] (rangeL (consL (binF addD (varF 6) (cstF (.int 1))) nilL)) (putV 8) yesB (binF bxorD (binF subD (binF shlD (cstF (.int 2)) (varF 6)) (cstF (.int 1))) (binF subD (binF shlD (cstF (.int 1)) (varF 8)) (cstF (.int 1))))
def bd1__law_family : Ss Dk := (setF false 4 (binF addD (varF 4) q4__law_family))
def lp1__law_family : Ss Dk := forF (putV 6) (rangeL (consL (varF 3) nilL)) bd1__law_family
def q5__law_family : Ev Dk := compF [9] (rangeL (consL (binF addD (cstF (.int 1)) (callF g__law_draw (consL (varF 0) (consL (cstF (.int 7)) nilL)))) nilL)) (putV 9) yesB (callF g__law_draw (consL (varF 0) (consL (binF addD (varF 5) (cstF (.int 1))) nilL)))
def b__law_family : Ss Dk := (seqF (parF [2, 3, 4] (consI false (callF g__law_draw (consL (varF 0) (consL (cstF (.int 9)) nilL))) (consI false (binF addD (cstF (.int 2)) (callF g__law_draw (consL (varF 0) (consL (cstF (.int 4)) nilL)))) (consI false (mapF dispL nilL) nilI)))) (seqF (setF false 5 (binF subD (binF shlD (cstF (.int 1)) (varF 3)) (cstF (.int 1)))) (seqF (ifF (truF (binF eqD (varF 2) (cstF (.int 0)))) (retF q1__law_family) skipF) (seqF (ifF (truF (binF eqD (varF 2) (cstF (.int 1)))) (retF (sliceF (binF addD (mapF dispL (consL (varF 5) (consL (cstF (.int 0)) nilL))) q2__law_family) noO (someO (varF 1)))) skipF) (seqF (ifF (truF (binF eqD (varF 2) (cstF (.int 2)))) (retF (sliceF (mapF dispL (consL (cstF (.int 0)) (consL (cstF (.int 1)) (consL (cstF (.int 3)) (consL (cstF (.int 4)) (consL (cstF (.int 7)) nilL)))))) noO (someO (iteF' (truF (binF gtD (varF 1) (cstF (.int 4)))) (cstF (.int 5)) (cstF (.int 1)))))) skipF) (seqF (ifF (truF (binF eqD (varF 2) (cstF (.int 3)))) (retF (callF g__law_met (consL (mapF dispL (consL (varF 5) nilL)) (consL q3__law_family (consL (varF 1) nilL))))) skipF) (seqF (ifF (truF (binF eqD (varF 2) (cstF (.int 4)))) (seqF lp1__law_family (retF (callF g__law_met (consL (mapF dispL (consL (varF 5) nilL)) (consL (varF 4) (consL (varF 1) nilL)))))) skipF) (seqF (ifF (andB (truF (binF eqD (varF 2) (cstF (.int 5)))) (truF (binF gtD (varF 1) (cstF (.int 14))))) (retF (callF g__law_met (consL (mapF dispL (consL (cstF (.int 63)) nilL)) (consL (mapF dispL (consL (cstF (.int 56)) (consL (cstF (.int 38)) (consL (cstF (.int 21)) (consL (cstF (.int 11)) (consL (cstF (.int 33)) (consL (cstF (.int 18)) (consL (cstF (.int 12)) nilL)))))))) (consL (varF 1) nilL))))) skipF) (seqF (ifF (andB (truF (binF eqD (varF 2) (cstF (.int 6)))) (truF (binF gtD (varF 1) (cstF (.int 15))))) (retF (callF g__law_met (consL (mapF dispL (consL (cstF (.int 255)) nilL)) (consL (mapF dispL (consL (cstF (.int 85)) (consL (cstF (.int 51)) (consL (cstF (.int 153)) (consL (cstF (.int 15)) (consL (cstF (.int 165)) (consL (cstF (.int 195)) (consL (cstF (.int 105)) nilL)))))))) (consL (varF 1) nilL))))) skipF) (retF (callF g__law_met (consL (mapF dispL (consL (varF 5) nilL)) (consL q5__law_family (consL (varF 1) nilL))))))))))))))
theorem sc__law_family : FnScope ["_law_deck_here", "_law_most", "_law_way", "_law_width", "_law_some", "_law_full", "_law_b", "_law_k", "_law_a", "_law_turn"] ["_law_deck_here", "_law_most"] (defScope s__law_family) := ⟨rfl, rfl, rfl, by decide +kernel, rfl, by decide +kernel, by decide +kernel⟩
def g__law_family : List D → Dk → Option (D × Dk) := defN 2 10 b__law_family
theorem k__law_family (X : K.In h) (G : h.Ns mainGlobals mg) (sd : He.SaysD fa fn K) : Got P w K mg base (dW "cells" "draws" T c) "_law_family" s__law_family 2 2 ["_law_deck_here", "_law_most"] g__law_family := by
  have o__law_draw := k__law_draw (P := P) (w := w) (base := base) (T := T) (c := c) X G sd
  have o__law_met := k__law_met (P := P) (w := w) (base := base) (T := T) (c := c) X G sd
  have m_min : mg "min" = none := He.free_ok X G (sd.fact 59 rfl)
  have m_range : mg "range" = none := He.free_ok X G (sd.fact 60 rfl)
  exact got (sd.def_ 37 (d := d__law_family) rfl) (He.glo_ok X G (sd.fact 37 (f := .glo "_law_family") rfl)) sc__law_family rfl (by decide) fun f cdv A outer s H E hr => by
    unfold b__law_family
    exact (sss_cons (ss_par3 (i := 2) (j := 3) (l := 4) rfl sc__law_family.nd rfl rfl rfl (by decide) (by decide) (by decide) rfl rfl rfl (sli_cons (callD o__law_draw (hr.mono (by decide)) (by rfl) (fun _ _ _ _ _ _ us hl => match us, hl with | [_, _], _ => rfl) (sl_cons (ev 0) (sl_cons eInt sl_nil rfl) rfl) (by decide) rfl rfl) (sli_cons (se_weak (se_op ov_add eInt (callD o__law_draw (hr.mono (by decide)) (by rfl) (fun _ _ _ _ _ _ us hl => match us, hl with | [_, _], _ => rfl) (sl_cons (ev 0) (sl_cons eInt sl_nil rfl) rfl) (by decide) rfl rfl))) (sli_cons (se_weak (se_lst sl_nil)) sli_nil rfl) rfl) rfl) rfl rfl) (sss_cons (ss_set (i := 5) sc__law_family.nd rfl (by first | exact Or.inl rfl | exact Or.inr rfl) (se_weak (se_op ov_sub (se_op ov_shl eInt (ev 3)) eInt)) rfl (by first | exact Or.inl rfl | exact Or.inr rfl)) (sss_cons (ss_if (sb_cm (ov_eq hr.hu0) isB_eq (ev 2) eInt (nomark _)) (sss_one (ss_ret (se_comp (own := [("_law_k", 7)]) rfl sc__law_family.nd (si_rng1 (by rfl) m_range (se_cB (cv_min rfl) (by rfl) m_min b_min (sl_cons (ev 1) (sl_cons (se_op ov_add eInt (callD o__law_draw (hr.mono (by decide)) (by rfl) (fun _ _ _ _ _ _ us hl => match us, hl with | [_, _], _ => rfl) (sl_cons (ev 0) (sl_cons eInt sl_nil rfl) rfl) (by decide) rfl rfl)) sl_nil rfl) rfl) (by decide) (by decide) rfl rfl) rfl) (blkOk_by rfl) (fun _ _ _ _ _ => (sg_name (i := 7) sc__law_family.nd rfl (by first | exact Or.inl rfl | exact Or.inr rfl) (by first | exact Or.inl rfl | exact Or.inr rfl))) (by decide) (fun _ _ _ _ _ => sbs_nil) (fun _ _ _ _ _ => (se_op ov_sub (se_op ov_shl eInt (ev 7)) eInt)) (fun _ => rfl)))) sss_nil) (sss_cons (ss_if (sb_cm (ov_eq hr.hu0) isB_eq (ev 2) eInt (nomark _)) (sss_one (ss_ret (se_slice (se_op ov_add (se_lst (sl_cons (ev 5) (sl_cons eInt sl_nil rfl) rfl)) (se_comp (own := [("_law_k", 7)]) rfl sc__law_family.nd (si_rng1 (by rfl) m_range (ev 3) rfl) (blkOk_by rfl) (fun _ _ _ _ _ => (sg_name (i := 7) sc__law_family.nd rfl (by first | exact Or.inl rfl | exact Or.inr rfl) (by first | exact Or.inl rfl | exact Or.inr rfl))) (by decide) (fun _ _ _ _ _ => sbs_nil) (fun _ _ _ _ _ => (se_op ov_shl eInt (ev 7))) (fun _ => rfl))) so_none (so_some (ev 1))))) sss_nil) (sss_cons (ss_if (sb_cm (ov_eq hr.hu0) isB_eq (ev 2) eInt (nomark _)) (sss_one (ss_ret (se_slice (se_lst (sl_cons eInt (sl_cons eInt (sl_cons eInt (sl_cons eInt (sl_cons eInt sl_nil rfl) rfl) rfl) rfl) rfl)) so_none (so_some (se_ite (sb_cm ov_gt isB_gt (ev 1) eInt (nomark _)) eInt eInt))))) sss_nil) (sss_cons (ss_if (sb_cm (ov_eq hr.hu0) isB_eq (ev 2) eInt (nomark _)) (sss_one (ss_ret (callD o__law_met (hr.mono (by decide)) (by rfl) (fun _ _ _ _ _ _ us hl => match us, hl with | [_, _, _], _ => rfl) (sl_cons (se_lst (sl_cons (ev 5) sl_nil rfl)) (sl_cons (se_comp (own := [("_law_k", 7)]) rfl sc__law_family.nd (si_rng1 (by rfl) m_range (ev 3) rfl) (blkOk_by rfl) (fun _ _ _ _ _ => (sg_name (i := 7) sc__law_family.nd rfl (by first | exact Or.inl rfl | exact Or.inr rfl) (by first | exact Or.inl rfl | exact Or.inr rfl))) (by decide) (fun _ _ _ _ _ => sbs_nil) (fun _ _ _ _ _ => (se_op ov_bxor (ev 5) (se_op ov_shl eInt (ev 7)))) (fun _ => rfl)) (sl_cons (ev 1) sl_nil rfl) rfl) rfl) (by decide) rfl rfl))) sss_nil) (sss_cons (ss_if (sb_cm (ov_eq hr.hu0) isB_eq (ev 2) eInt (nomark _)) (sss_cons (ss_for PassesOwn.never rfl (si_rng1 (by rfl) m_range (ev 3) rfl) (sg_name (i := 6) sc__law_family.nd rfl (by first | exact Or.inl rfl | exact Or.inr rfl) (by first | exact Or.inl rfl | exact Or.inr rfl)) (sss_one (ss_set (i := 4) sc__law_family.nd rfl (by first | exact Or.inl rfl | exact Or.inr rfl) (se_weak (se_op ov_add (ev 4) (se_comp (own := [("_law_a", 8)]) rfl sc__law_family.nd (si_rng1 (by rfl) m_range (se_op ov_add (ev 6) eInt) rfl) (blkOk_by rfl) (fun _ _ _ _ _ => (sg_name (i := 8) sc__law_family.nd rfl (by first | exact Or.inl rfl | exact Or.inr rfl) (by first | exact Or.inl rfl | exact Or.inr rfl))) (by decide) (fun _ _ _ _ _ => sbs_nil) (fun _ _ _ _ _ => (se_op ov_bxor (se_op ov_sub (se_op ov_shl eInt (ev 6)) eInt) (se_op ov_sub (se_op ov_shl eInt (ev 8)) eInt))) (fun _ => rfl)))) rfl (by first | exact Or.inl rfl | exact Or.inr rfl))) (fun _ => rfl)) (sss_one (ss_ret (callD o__law_met (hr.mono (by decide)) (by rfl) (fun _ _ _ _ _ _ us hl => match us, hl with | [_, _, _], _ => rfl) (sl_cons (se_lst (sl_cons (ev 5) sl_nil rfl)) (sl_cons (ev 4) (sl_cons (ev 1) sl_nil rfl) rfl) rfl) (by decide) rfl rfl)))) sss_nil) (sss_cons (ss_if (L2.PW.pt (sb_and (sb_cm (ov_eq hr.hu0) isB_eq (ev 2) eInt (nomark _)) (pw_and1 (sb_cm ov_gt isB_gt (ev 1) eInt (nomark _))))) (sss_one (ss_ret (callD o__law_met (hr.mono (by decide)) (by rfl) (fun _ _ _ _ _ _ us hl => match us, hl with | [_, _, _], _ => rfl) (sl_cons (se_lst (sl_cons eInt sl_nil rfl)) (sl_cons (se_lst (sl_cons eInt (sl_cons eInt (sl_cons eInt (sl_cons eInt (sl_cons eInt (sl_cons eInt (sl_cons eInt sl_nil rfl) rfl) rfl) rfl) rfl) rfl) rfl)) (sl_cons (ev 1) sl_nil rfl) rfl) rfl) (by decide) rfl rfl))) sss_nil) (sss_cons (ss_if (L2.PW.pt (sb_and (sb_cm (ov_eq hr.hu0) isB_eq (ev 2) eInt (nomark _)) (pw_and1 (sb_cm ov_gt isB_gt (ev 1) eInt (nomark _))))) (sss_one (ss_ret (callD o__law_met (hr.mono (by decide)) (by rfl) (fun _ _ _ _ _ _ us hl => match us, hl with | [_, _, _], _ => rfl) (sl_cons (se_lst (sl_cons eInt sl_nil rfl)) (sl_cons (se_lst (sl_cons eInt (sl_cons eInt (sl_cons eInt (sl_cons eInt (sl_cons eInt (sl_cons eInt (sl_cons eInt sl_nil rfl) rfl) rfl) rfl) rfl) rfl) rfl)) (sl_cons (ev 1) sl_nil rfl) rfl) rfl) (by decide) rfl rfl))) sss_nil) (sss_one (ss_ret (callD o__law_met (hr.mono (by decide)) (by rfl) (fun _ _ _ _ _ _ us hl => match us, hl with | [_, _, _], _ => rfl) (sl_cons (se_lst (sl_cons (ev 5) sl_nil rfl)) (sl_cons (se_comp (own := [("_law_turn", 9)]) rfl sc__law_family.nd (si_rng1 (by rfl) m_range (se_op ov_add eInt (callD o__law_draw (hr.mono (by decide)) (by rfl) (fun _ _ _ _ _ _ us hl => match us, hl with | [_, _], _ => rfl) (sl_cons (ev 0) (sl_cons eInt sl_nil rfl) rfl) (by decide) rfl rfl)) rfl) (blkOk_by rfl) (fun _ _ _ _ _ => (sg_name (i := 9) sc__law_family.nd rfl (by first | exact Or.inl rfl | exact Or.inr rfl) (by first | exact Or.inl rfl | exact Or.inr rfl))) (by decide) (fun _ _ _ _ _ => sbs_nil) (fun _ _ _ _ _ => (callD o__law_draw (hr.mono (by decide)) (by rfl) (fun _ _ _ _ _ _ us hl => match us, hl with | [_, _], _ => rfl) (sl_cons (ev 0) (sl_cons (se_op ov_add (ev 5) eInt) sl_nil rfl) rfl) (by decide) rfl rfl)) (fun _ => rfl)) (sl_cons (ev 1) sl_nil rfl) rfl) rfl) (by decide) rfl rfl))))))))))))
def q1__law_over : Ev Dk := compF [2] (itemsF (varF 0)) (putV 2) yesB (binF ixD (varF 2) (varF 1))
def q2__law_over : Ev Dk := compF [1] (rangeL (consL (mapF lenD (consL (varF 0) nilL)) nilL)) (putV 1) yesB (mapF tupleD (consL q1__law_over nilL))
def b__law_over : Ss Dk := (retF (mapF tupleD (consL q2__law_over nilL)))
theorem sc__law_over : FnScope ["_law_house_here", "_law_x", "_law_row"] ["_law_house_here"] (defScope s__law_over) := ⟨rfl, rfl, rfl, by decide +kernel, rfl, by decide +kernel, by decide +kernel⟩
def g__law_over : List D → Dk → Option (D × Dk) := defN 1 3 b__law_over
theorem k__law_over (X : K.In h) (G : h.Ns mainGlobals mg) (sd : He.SaysD fa fn K) : Got P w K mg base (dW "cells" "draws" T c) "_law_over" s__law_over 1 1 ["_law_house_here"] g__law_over := by
  have m_len : mg "len" = none := He.free_ok X G (sd.fact 56 rfl)
  have m_range : mg "range" = none := He.free_ok X G (sd.fact 60 rfl)
  have m_tuple : mg "tuple" = none := He.free_ok X G (sd.fact 64 rfl)
  exact got (sd.def_ 38 (d := d__law_over) rfl) (He.glo_ok X G (sd.fact 38 (f := .glo "_law_over") rfl)) sc__law_over rfl (by decide) fun f cdv A outer s H E hr => by
    unfold b__law_over
    exact (sss_one (ss_ret (se_cT cv_tuple (by rfl) m_tuple b_tuple (sl_cons (se_comp (own := [("_law_x", 1)]) rfl sc__law_over.nd (si_rng1 (by rfl) m_range (se_cB cv_len (by rfl) m_len b_len (sl_cons (ev 0) sl_nil rfl) (by decide) (by decide) rfl rfl) rfl) (blkOk_by rfl) (fun _ _ _ _ _ => (sg_name (i := 1) sc__law_over.nd rfl (by first | exact Or.inl rfl | exact Or.inr rfl) (by first | exact Or.inl rfl | exact Or.inr rfl))) (by decide) (fun _ _ _ _ _ => sbs_nil) (fun _ _ _ _ _ => (se_cT cv_tuple (by rfl) m_tuple b_tuple (sl_cons (se_comp (own := [("_law_row", 2)]) rfl sc__law_over.nd (si_val (ev 0)) (blkOk_by rfl) (fun _ _ _ _ _ => (sg_name (i := 2) sc__law_over.nd rfl (by first | exact Or.inl rfl | exact Or.inr rfl) (by first | exact Or.inl rfl | exact Or.inr rfl))) (by decide) (fun _ _ _ _ _ => sbs_nil) (fun _ _ _ _ _ => (se_at (ev 2) (ev 1) (fun _ _ => rfl))) (fun _ => rfl)) sl_nil rfl) (by decide) (by decide) rfl rfl)) (fun _ => rfl)) sl_nil rfl) (by decide) (by decide) rfl rfl)))
def bd1__law_order : Ss Dk := (exprF (thawF (appendF 3 (consL (thawF (popAtF 2 (consL (thawF (callF g__law_draw (consL (varF 0) (consL (thawF (mapF lenD (consL (varF 2) nilL))) nilL)))) nilL))) nilL))))
def lp1__law_order : Ss Dk := forF (putV 4) (rangeL (consL (varF 1) nilL)) bd1__law_order
def b__law_order : Ss Dk := (seqF (parF [2, 3] (consI true (mapF (rgD .lst) (consL (varF 1) nilL)) (consI true (mapF dispL nilL) nilI))) (seqF lp1__law_order (retF (thawF (mapF tupleD (consL (varF 3) nilL))))))
theorem sc__law_order : FnScope ["_law_deck_here", "_law_n", "_law_left", "_law_found", "_law_turn"] ["_law_deck_here", "_law_n"] (defScope s__law_order) := ⟨rfl, rfl, rfl, by decide +kernel, rfl, by decide +kernel, by decide +kernel⟩
def g__law_order : List D → Dk → Option (D × Dk) := defN 2 5 b__law_order
theorem k__law_order (X : K.In h) (G : h.Ns mainGlobals mg) (sd : He.SaysD fa fn K) : Got P w K mg base (dW "cells" "draws" T c) "_law_order" s__law_order 2 2 ["_law_deck_here", "_law_n"] g__law_order := by
  have o__law_draw := k__law_draw (P := P) (w := w) (base := base) (T := T) (c := c) X G sd
  have m_len : mg "len" = none := He.free_ok X G (sd.fact 56 rfl)
  have m_list : mg "list" = none := He.free_ok X G (sd.fact 57 rfl)
  have m_range : mg "range" = none := He.free_ok X G (sd.fact 60 rfl)
  have m_tuple : mg "tuple" = none := He.free_ok X G (sd.fact 64 rfl)
  exact got (sd.def_ 39 (d := d__law_order) rfl) (He.glo_ok X G (sd.fact 39 (f := .glo "_law_order") rfl)) sc__law_order rfl (by decide) fun f cdv A outer s H E hr => by
    unfold b__law_order
    exact (sss_cons (ss_par2 (i := 2) (j := 3) rfl sc__law_order.nd rfl rfl (by decide) rfl rfl (sli_cons (se_listRg1 rfl (by rfl) m_list (by rfl) m_range (ev 1) rfl rfl) (sli_cons (se_lst sl_nil) sli_nil rfl) rfl) rfl rfl) (sss_cons (ss_for PassesOwn.never rfl (si_rng1 (by rfl) m_range (ev 1) rfl) (sg_name (i := 4) sc__law_order.nd rfl (by first | exact Or.inl rfl | exact Or.inr rfl) (by first | exact Or.inl rfl | exact Or.inr rfl)) (sss_one (ss_expr (se_thaw (se_append (pv 3) (sl_cons (se_thaw (se_popAt (pv 2) (sl_cons (se_thaw (callD o__law_draw (hr.mono (by decide)) (by rfl) (fun _ _ _ _ _ _ us hl => match us, hl with | [_, _], _ => rfl) (sl_cons (ev 0) (sl_cons (se_thaw (se_cB cv_len (by rfl) m_len b_len (sl_cons (ev 2) sl_nil rfl) (by decide) (by decide) rfl rfl)) sl_nil rfl) rfl) (by decide) rfl rfl)) sl_nil rfl) rfl rfl rfl rfl)) sl_nil rfl) rfl rfl rfl rfl)) rfl)) (fun _ => rfl)) (sss_one (ss_ret (se_thaw (se_cT cv_tuple (by rfl) m_tuple b_tuple (sl_cons (ev 3) sl_nil rfl) (by decide) (by decide) rfl rfl))))))
def q1__law_house : Ev Dk := compF [8] (itemsF (varF 5)) (putV 8) yesB (binF addD (varF 6) (binF shlD (varF 8) (cstF (.int 9))))
def bd1__law_house : Ss Dk := (exprF (thawF (extendF 3 (consL q1__law_house nilL))))
def lp1__law_house : Ss Dk := forF (putV 6) (itemsF (varF 4)) bd1__law_house
def q2__law_house : Ev Dk := compF [8] (itemsF (varF 5)) (putV 8) (truF (binF ltD (mapF lenD (consL (varF 4) nilL)) (varF 1))) (binF addD (cstF (.int 511)) (binF shlD (varF 8) (cstF (.int 9))))
def q3__law_house : Ev Dk := compF [9] (itemsF (thawF (callF g__law_order (consL (varF 0) (consL (thawF (mapF lenD (consL (varF 3) nilL))) nilL))))) (putV 9) yesB (thawF (binF ixD (varF 3) (varF 9)))
def b__law_house : Ss Dk := (seqF (parF [2, 3] (consI false (callF g__law_draw (consL (varF 0) (consL (cstF (.int 6)) nilL))) (consI true (mapF dispL nilL) nilI))) (seqF (ifF (truF (binF eqD (varF 2) (cstF (.int 0)))) (seqF (setF false 4 (callF g__law_family (consL (varF 0) (consL (mapF minD (consL (varF 1) (consL (cstF (.int 5)) nilL))) nilL)))) (seqF (setF false 5 (callF g__law_family (consL (varF 0) (consL (binF divD (varF 1) (mapF lenD (consL (varF 4) nilL))) nilL)))) lp1__law_house)) (ifF (truF (binF eqD (varF 2) (cstF (.int 1)))) (seqF (setF false 4 (callF g__law_family (consL (varF 0) (consL (binF subD (varF 1) (binF divD (varF 1) (cstF (.int 2)))) nilL)))) (seqF (setF false 5 (callF g__law_family (consL (varF 0) (consL (mapF maxD (consL (cstF (.int 1)) (consL (binF subD (varF 1) (mapF lenD (consL (varF 4) nilL))) nilL))) nilL)))) (setF true 3 (binF addD (varF 4) q2__law_house)))) (setF false 3 (callF g__law_family (consL (varF 0) (consL (varF 1) nilL)))))) (seqF (setF false 7 (thawF (callF g__law_table (consL q3__law_house nilL)))) (retF (iteF' (truF (binF eqD (callF g__law_draw (consL (varF 0) (consL (cstF (.int 4)) nilL))) (cstF (.int 0)))) (callF g__law_over (consL (varF 7) nilL)) (varF 7))))))
theorem sc__law_house : FnScope ["_law_deck_here", "_law_most", "_law_way", "_law_masks", "_law_one", "_law_other", "_law_x", "_law_house_here", "_law_y", "_law_at"] ["_law_deck_here", "_law_most"] (defScope s__law_house) := ⟨rfl, rfl, rfl, by decide +kernel, rfl, by decide +kernel, by decide +kernel⟩
def g__law_house : List D → Dk → Option (D × Dk) := defN 2 10 b__law_house
theorem k__law_house (X : K.In h) (G : h.Ns mainGlobals mg) (sd : He.SaysD fa fn K) : Got P w K mg base (dW "cells" "draws" T c) "_law_house" s__law_house 3 2 ["_law_deck_here", "_law_most"] g__law_house := by
  have o__law_draw := k__law_draw (P := P) (w := w) (base := base) (T := T) (c := c) X G sd
  have o__law_family := k__law_family (P := P) (w := w) (base := base) (T := T) (c := c) X G sd
  have o__law_order := k__law_order (P := P) (w := w) (base := base) (T := T) (c := c) X G sd
  have o__law_over := k__law_over (P := P) (w := w) (base := base) (T := T) (c := c) X G sd
  have o__law_table := k__law_table (P := P) (w := w) (base := base) (T := T) (c := c) X G sd
  have m_len : mg "len" = none := He.free_ok X G (sd.fact 56 rfl)
  have m_max : mg "max" = none := He.free_ok X G (sd.fact 58 rfl)
  have m_min : mg "min" = none := He.free_ok X G (sd.fact 59 rfl)
  exact got (sd.def_ 40 (d := d__law_house) rfl) (He.glo_ok X G (sd.fact 40 (f := .glo "_law_house") rfl)) sc__law_house rfl (by decide) fun f cdv A outer s H E hr => by
    unfold b__law_house
    exact (sss_cons (ss_parC2 (i := 2) (j := 3) rfl sc__law_house.nd rfl rfl (by first | exact Or.inl rfl | exact Or.inr rfl) (by first | exact Or.inl rfl | exact Or.inr rfl) (by first | exact Or.inl rfl | exact Or.inr rfl) (by first | exact Or.inl rfl | exact Or.inr rfl) (sli_cons (callD o__law_draw (hr.mono (by decide)) (by rfl) (fun _ _ _ _ _ _ us hl => match us, hl with | [_, _], _ => rfl) (sl_cons (ev 0) (sl_cons eInt sl_nil rfl) rfl) (by decide) rfl rfl) (sli_cons (se_lst sl_nil) sli_nil rfl) rfl) rfl rfl rfl rfl rfl rfl rfl) (sss_cons (ss_if (sb_cm (ov_eq hr.hu0) isB_eq (ev 2) eInt (nomark _)) (sss_cons (ss_set (i := 4) sc__law_house.nd rfl (by first | exact Or.inl rfl | exact Or.inr rfl) (callD o__law_family (hr.mono (by decide)) (by rfl) (fun _ _ _ _ _ _ us hl => match us, hl with | [_, _], _ => rfl) (sl_cons (ev 0) (sl_cons (se_cB (cv_min rfl) (by rfl) m_min b_min (sl_cons (ev 1) (sl_cons eInt sl_nil rfl) rfl) (by decide) (by decide) rfl rfl) sl_nil rfl) rfl) (by decide) rfl rfl) rfl (by first | exact Or.inl rfl | exact Or.inr rfl)) (sss_cons (ss_set (i := 5) sc__law_house.nd rfl (by first | exact Or.inl rfl | exact Or.inr rfl) (callD o__law_family (hr.mono (by decide)) (by rfl) (fun _ _ _ _ _ _ us hl => match us, hl with | [_, _], _ => rfl) (sl_cons (ev 0) (sl_cons (se_op ov_div (ev 1) (se_cB cv_len (by rfl) m_len b_len (sl_cons (ev 4) sl_nil rfl) (by decide) (by decide) rfl rfl)) sl_nil rfl) rfl) (by decide) rfl rfl) rfl (by first | exact Or.inl rfl | exact Or.inr rfl)) (sss_one (ss_for PassesOwn.never rfl (si_val (ev 4)) (sg_name (i := 6) sc__law_house.nd rfl (by first | exact Or.inl rfl | exact Or.inr rfl) (by first | exact Or.inl rfl | exact Or.inr rfl)) (sss_one (ss_expr (se_thaw (se_extend (pv 3) (sl_cons (se_comp (own := [("_law_y", 8)]) rfl sc__law_house.nd (si_val (ev 5)) (blkOk_by rfl) (fun _ _ _ _ _ => (sg_name (i := 8) sc__law_house.nd rfl (by first | exact Or.inl rfl | exact Or.inr rfl) (by first | exact Or.inl rfl | exact Or.inr rfl))) (by decide) (fun _ _ _ _ _ => sbs_nil) (fun _ _ _ _ _ => (se_op ov_add (ev 6) (se_op ov_shl (ev 8) eInt))) (fun _ => rfl)) sl_nil rfl) rfl rfl rfl rfl)) rfl)) (fun _ => rfl))))) (sss_one (ss_if (sb_cm (ov_eq hr.hu0) isB_eq (ev 2) eInt (nomark _)) (sss_cons (ss_set (i := 4) sc__law_house.nd rfl (by first | exact Or.inl rfl | exact Or.inr rfl) (callD o__law_family (hr.mono (by decide)) (by rfl) (fun _ _ _ _ _ _ us hl => match us, hl with | [_, _], _ => rfl) (sl_cons (ev 0) (sl_cons (se_op ov_sub (ev 1) (se_op ov_div (ev 1) eInt)) sl_nil rfl) rfl) (by decide) rfl rfl) rfl (by first | exact Or.inl rfl | exact Or.inr rfl)) (sss_cons (ss_set (i := 5) sc__law_house.nd rfl (by first | exact Or.inl rfl | exact Or.inr rfl) (callD o__law_family (hr.mono (by decide)) (by rfl) (fun _ _ _ _ _ _ us hl => match us, hl with | [_, _], _ => rfl) (sl_cons (ev 0) (sl_cons (se_cB (cv_max rfl) (by rfl) m_max b_max (sl_cons eInt (sl_cons (se_op ov_sub (ev 1) (se_cB cv_len (by rfl) m_len b_len (sl_cons (ev 4) sl_nil rfl) (by decide) (by decide) rfl rfl)) sl_nil rfl) rfl) (by decide) (by decide) rfl rfl) sl_nil rfl) rfl) (by decide) rfl rfl) rfl (by first | exact Or.inl rfl | exact Or.inr rfl)) (sss_one (ss_set (i := 3) sc__law_house.nd rfl (by first | exact Or.inl rfl | exact Or.inr rfl) (se_op ov_add (ev 4) (se_comp (own := [("_law_y", 8)]) rfl sc__law_house.nd (si_val (ev 5)) (blkOk_by rfl) (fun _ _ _ _ _ => (sg_name (i := 8) sc__law_house.nd rfl (by first | exact Or.inl rfl | exact Or.inr rfl) (by first | exact Or.inl rfl | exact Or.inr rfl))) (by decide) (fun _ _ _ _ _ => (sbs_one (sb_cm ov_lt isB_lt (se_cB cv_len (by rfl) m_len b_len (sl_cons (ev 4) sl_nil rfl) (by decide) (by decide) rfl rfl) (ev 1) (nomark _)))) (fun _ _ _ _ _ => (se_op ov_add eInt (se_op ov_shl (ev 8) eInt))) (fun _ => rfl))) rfl (by first | exact Or.inl rfl | exact Or.inr rfl))))) (sss_one (ss_set (i := 3) sc__law_house.nd rfl (by first | exact Or.inl rfl | exact Or.inr rfl) (callD o__law_family (hr.mono (by decide)) (by rfl) (fun _ _ _ _ _ _ us hl => match us, hl with | [_, _], _ => rfl) (sl_cons (ev 0) (sl_cons (ev 1) sl_nil rfl) rfl) (by decide) rfl rfl) rfl (by first | exact Or.inl rfl | exact Or.inr rfl)))))) (sss_cons (ss_set (i := 7) sc__law_house.nd rfl (by first | exact Or.inl rfl | exact Or.inr rfl) (se_thaw (callD o__law_table (hr.mono (by decide)) (by rfl) (fun _ _ _ _ _ _ us hl => match us, hl with | [_], _ => rfl) (sl_cons (se_comp (own := [("_law_at", 9)]) rfl sc__law_house.nd (si_val (se_thaw (callD o__law_order (hr.mono (by decide)) (by rfl) (fun _ _ _ _ _ _ us hl => match us, hl with | [_, _], _ => rfl) (sl_cons (ev 0) (sl_cons (se_thaw (se_cB cv_len (by rfl) m_len b_len (sl_cons (ev 3) sl_nil rfl) (by decide) (by decide) rfl rfl)) sl_nil rfl) rfl) (by decide) rfl rfl))) (blkOk_by rfl) (fun _ _ _ _ _ => (sg_name (i := 9) sc__law_house.nd rfl (by first | exact Or.inl rfl | exact Or.inr rfl) (by first | exact Or.inl rfl | exact Or.inr rfl))) (by decide) (fun _ _ _ _ _ => sbs_nil) (fun _ _ _ _ _ => (se_thaw (se_at (ev 3) (ev 9) (fun _ _ => rfl)))) (fun _ => rfl)) sl_nil rfl) (by decide) rfl rfl)) rfl (by first | exact Or.inl rfl | exact Or.inr rfl)) (sss_one (ss_ret (se_ite (sb_cm (ov_eq hr.hu0) isB_eq (callD o__law_draw (hr.mono (by decide)) (by rfl) (fun _ _ _ _ _ _ us hl => match us, hl with | [_, _], _ => rfl) (sl_cons (ev 0) (sl_cons eInt sl_nil rfl) rfl) (by decide) rfl rfl) eInt (nomark _)) (callD o__law_over (hr.mono (by decide)) (by rfl) (fun _ _ _ _ _ _ us hl => match us, hl with | [_], _ => rfl) (sl_cons (ev 7) sl_nil rfl) (by decide) rfl rfl) (ev 7)))))))
def bd1__law_greatest : Ss Dk := (ifF (truF (binF gtD (binF ixD (varF 1) (varF 3)) (binF ixD (varF 1) (varF 2)))) (setF false 2 (varF 3)) skipF)
def lp1__law_greatest : Ss Dk := forF (putV 3) (itemsF (varF 0)) bd1__law_greatest
def b__law_greatest : Ss Dk := (seqF (setF false 2 (binF ixD (varF 0) (cstF (.int 0)))) (seqF lp1__law_greatest (retF (varF 2))))
theorem sc__law_greatest : FnScope ["_law_some", "_law_counts", "_law_found", "_law_it"] ["_law_some", "_law_counts"] (defScope s__law_greatest) := ⟨rfl, rfl, rfl, by decide +kernel, rfl, by decide +kernel, by decide +kernel⟩
def g__law_greatest : List D → Dk → Option (D × Dk) := defN 2 4 b__law_greatest
theorem k__law_greatest (X : K.In h) (G : h.Ns mainGlobals mg) (sd : He.SaysD fa fn K) : Got P w K mg base (dW "cells" "draws" T c) "_law_greatest" s__law_greatest 1 2 ["_law_some", "_law_counts"] g__law_greatest := by
  exact got (sd.def_ 41 (d := d__law_greatest) rfl) (He.glo_ok X G (sd.fact 41 (f := .glo "_law_greatest") rfl)) sc__law_greatest rfl (by decide) fun f cdv A outer s H E hr => by
    unfold b__law_greatest
    exact (sss_cons (ss_set (i := 2) sc__law_greatest.nd rfl (by first | exact Or.inl rfl | exact Or.inr rfl) (se_at (ev 0) eInt (fun _ _ => rfl)) rfl (by first | exact Or.inl rfl | exact Or.inr rfl)) (sss_cons (ss_for PassesOwn.never rfl (si_val (ev 0)) (sg_name (i := 3) sc__law_greatest.nd rfl (by first | exact Or.inl rfl | exact Or.inr rfl) (by first | exact Or.inl rfl | exact Or.inr rfl)) (sss_one (ss_if (sb_cm ov_gt isB_gt (se_at (ev 1) (ev 3) (fun _ _ => rfl)) (se_at (ev 1) (ev 2) (fun _ _ => rfl)) (nomark _)) (sss_one (ss_set (i := 2) sc__law_greatest.nd rfl (by first | exact Or.inl rfl | exact Or.inr rfl) (ev 3) rfl (by first | exact Or.inl rfl | exact Or.inr rfl))) sss_nil)) (fun _ => rfl)) (sss_one (ss_ret (ev 2)))))
def q1__law_both : Ev Dk := compF [5] (rangeL (consL (varF 1) nilL)) (putV 5) (truF (binF eqD (binF ixD (binF ixD (varF 0) (varF 5)) (varF 4)) (cstF (.int 1)))) (varF 5)
def q2__law_both : Ev Dk := compF [4] (rangeL (consL (varF 1) nilL)) (putV 4) yesB q1__law_both
def q3__law_both : Ev Dk := compF [6] (itemsF (varF 2)) (putV 6) yesB (mapF lenD (consL (varF 6) nilL))
def q4__law_both : Ev Dk := compF [5] (itemsF (binF ixD (varF 2) (varF 4))) (putV 5) (truF (binF eqD (binF ixD (binF ixD (varF 0) (varF 5)) (varF 7)) (cstF (.int 1)))) (varF 5)
def q5__law_both : Ev Dk := compF [7] (rangeL (consL (varF 1) nilL)) (putV 7) yesB (callF g__law_greatest (consL q4__law_both (consL (varF 3) nilL)))
def q6__law_both : Ev Dk := compF [4] (rangeL (consL (varF 1) nilL)) (putV 4) yesB q5__law_both
def b__law_both : Ss Dk := (seqF (setF false 1 (mapF lenD (consL (varF 0) nilL))) (seqF (setF false 2 q2__law_both) (seqF (setF false 3 q3__law_both) (retF q6__law_both))))
theorem sc__law_both : FnScope ["_law_house_here", "_law_n", "_law_low", "_law_counts", "_law_x", "_law_z", "_law_it", "_law_y"] ["_law_house_here"] (defScope s__law_both) := ⟨rfl, rfl, rfl, by decide +kernel, rfl, by decide +kernel, by decide +kernel⟩
def g__law_both : List D → Dk → Option (D × Dk) := defN 1 8 b__law_both
theorem k__law_both (X : K.In h) (G : h.Ns mainGlobals mg) (sd : He.SaysD fa fn K) : Got P w K mg base (dW "cells" "draws" T c) "_law_both" s__law_both 2 1 ["_law_house_here"] g__law_both := by
  have o__law_greatest := k__law_greatest (P := P) (w := w) (base := base) (T := T) (c := c) X G sd
  have m_len : mg "len" = none := He.free_ok X G (sd.fact 56 rfl)
  have m_range : mg "range" = none := He.free_ok X G (sd.fact 60 rfl)
  exact got (sd.def_ 42 (d := d__law_both) rfl) (He.glo_ok X G (sd.fact 42 (f := .glo "_law_both") rfl)) sc__law_both rfl (by decide) fun f cdv A outer s H E hr => by
    unfold b__law_both
    exact (sss_cons (ss_set (i := 1) sc__law_both.nd rfl (by first | exact Or.inl rfl | exact Or.inr rfl) (se_weak (se_cB cv_len (by rfl) m_len b_len (sl_cons (ev 0) sl_nil rfl) (by decide) (by decide) rfl rfl)) rfl (by first | exact Or.inl rfl | exact Or.inr rfl)) (sss_cons (ss_set (i := 2) sc__law_both.nd rfl (by first | exact Or.inl rfl | exact Or.inr rfl) (se_weak (se_comp (own := [("_law_x", 4)]) rfl sc__law_both.nd (si_rng1 (by rfl) m_range (ev 1) rfl) (blkOk_by rfl) (fun _ _ _ _ _ => (sg_name (i := 4) sc__law_both.nd rfl (by first | exact Or.inl rfl | exact Or.inr rfl) (by first | exact Or.inl rfl | exact Or.inr rfl))) (by decide) (fun _ _ _ _ _ => sbs_nil) (fun _ _ _ _ _ => (se_comp (own := [("_law_z", 5)]) rfl sc__law_both.nd (si_rng1 (by rfl) m_range (ev 1) rfl) (blkOk_by rfl) (fun _ _ _ _ _ => (sg_name (i := 5) sc__law_both.nd rfl (by first | exact Or.inl rfl | exact Or.inr rfl) (by first | exact Or.inl rfl | exact Or.inr rfl))) (by decide) (fun _ _ _ _ _ => (sbs_one (sb_cm (ov_eq hr.hu0) isB_eq (se_at (se_at (ev 0) (ev 5) (fun _ _ => rfl)) (ev 4) (fun _ _ => rfl)) eInt (nomark _)))) (fun _ _ _ _ _ => (ev 5)) (fun _ => rfl))) (fun _ => rfl))) rfl (by first | exact Or.inl rfl | exact Or.inr rfl)) (sss_cons (ss_set (i := 3) sc__law_both.nd rfl (by first | exact Or.inl rfl | exact Or.inr rfl) (se_weak (se_comp (own := [("_law_it", 6)]) rfl sc__law_both.nd (si_val (ev 2)) (blkOk_by rfl) (fun _ _ _ _ _ => (sg_name (i := 6) sc__law_both.nd rfl (by first | exact Or.inl rfl | exact Or.inr rfl) (by first | exact Or.inl rfl | exact Or.inr rfl))) (by decide) (fun _ _ _ _ _ => sbs_nil) (fun _ _ _ _ _ => (se_cB cv_len (by rfl) m_len b_len (sl_cons (ev 6) sl_nil rfl) (by decide) (by decide) rfl rfl)) (fun _ => rfl))) rfl (by first | exact Or.inl rfl | exact Or.inr rfl)) (sss_one (ss_ret (se_comp (own := [("_law_x", 4)]) rfl sc__law_both.nd (si_rng1 (by rfl) m_range (ev 1) rfl) (blkOk_by rfl) (fun _ _ _ _ _ => (sg_name (i := 4) sc__law_both.nd rfl (by first | exact Or.inl rfl | exact Or.inr rfl) (by first | exact Or.inl rfl | exact Or.inr rfl))) (by decide) (fun _ _ _ _ _ => sbs_nil) (fun _ _ _ _ _ => (se_comp (own := [("_law_y", 7)]) rfl sc__law_both.nd (si_rng1 (by rfl) m_range (ev 1) rfl) (blkOk_by rfl) (fun _ _ _ _ _ => (sg_name (i := 7) sc__law_both.nd rfl (by first | exact Or.inl rfl | exact Or.inr rfl) (by first | exact Or.inl rfl | exact Or.inr rfl))) (by decide) (fun _ _ _ _ _ => sbs_nil) (fun _ _ _ _ _ => (callD o__law_greatest (hr.mono (by decide)) (by rfl) (fun _ _ _ _ _ _ us hl => match us, hl with | [_, _], _ => rfl) (sl_cons (se_comp (own := [("_law_z", 5)]) rfl sc__law_both.nd (si_val (se_at (ev 2) (ev 4) (fun _ _ => rfl))) (blkOk_by rfl) (fun _ _ _ _ _ => (sg_name (i := 5) sc__law_both.nd rfl (by first | exact Or.inl rfl | exact Or.inr rfl) (by first | exact Or.inl rfl | exact Or.inr rfl))) (by decide) (fun _ _ _ _ _ => (sbs_one (sb_cm (ov_eq hr.hu0) isB_eq (se_at (se_at (ev 0) (ev 5) (fun _ _ => rfl)) (ev 7) (fun _ _ => rfl)) eInt (nomark _)))) (fun _ _ _ _ _ => (ev 5)) (fun _ => rfl)) (sl_cons (ev 3) sl_nil rfl) rfl) (by decide) rfl rfl)) (fun _ => rfl))) (fun _ => rfl)))))))
def b__law_all : Ss Dk := (retF (callF g__law_both (consL (callF g__law_over (consL (varF 0) nilL)) nilL)))
theorem sc__law_all : FnScope ["_law_house_here"] ["_law_house_here"] (defScope s__law_all) := ⟨rfl, rfl, rfl, by decide +kernel, rfl, by decide +kernel, by decide +kernel⟩
def g__law_all : List D → Dk → Option (D × Dk) := defN 1 1 b__law_all
theorem k__law_all (X : K.In h) (G : h.Ns mainGlobals mg) (sd : He.SaysD fa fn K) : Got P w K mg base (dW "cells" "draws" T c) "_law_all" s__law_all 3 1 ["_law_house_here"] g__law_all := by
  have o__law_both := k__law_both (P := P) (w := w) (base := base) (T := T) (c := c) X G sd
  have o__law_over := k__law_over (P := P) (w := w) (base := base) (T := T) (c := c) X G sd
  exact got (sd.def_ 43 (d := d__law_all) rfl) (He.glo_ok X G (sd.fact 43 (f := .glo "_law_all") rfl)) sc__law_all rfl (by decide) fun f cdv A outer s H E hr => by
    unfold b__law_all
    exact (sss_one (ss_ret (callD o__law_both (hr.mono (by decide)) (by rfl) (fun _ _ _ _ _ _ us hl => match us, hl with | [_], _ => rfl) (sl_cons (callD o__law_over (hr.mono (by decide)) (by rfl) (fun _ _ _ _ _ _ us hl => match us, hl with | [_], _ => rfl) (sl_cons (ev 0) sl_nil rfl) (by decide) rfl rfl) sl_nil rfl) (by decide) rfl rfl)))
def q1__law_least : Ev Dk := compF [1] (rangeL (consL (mapF lenD (consL (varF 0) nilL)) nilL)) (putV 1) (truF (binF ninD (cstF (.int 0)) (binF ixD (varF 0) (varF 1)))) (varF 1)
def b__law_least : Ss Dk := (retF (binF ixD q1__law_least (cstF (.int 0))))
theorem sc__law_least : FnScope ["_law_house_here", "_law_x"] ["_law_house_here"] (defScope s__law_least) := ⟨rfl, rfl, rfl, by decide +kernel, rfl, by decide +kernel, by decide +kernel⟩
def g__law_least : List D → Dk → Option (D × Dk) := defN 1 2 b__law_least
theorem k__law_least (X : K.In h) (G : h.Ns mainGlobals mg) (sd : He.SaysD fa fn K) : Got P w K mg base (dW "cells" "draws" T c) "_law_least" s__law_least 1 1 ["_law_house_here"] g__law_least := by
  have m_len : mg "len" = none := He.free_ok X G (sd.fact 56 rfl)
  have m_range : mg "range" = none := He.free_ok X G (sd.fact 60 rfl)
  exact got (sd.def_ 44 (d := d__law_least) rfl) (He.glo_ok X G (sd.fact 44 (f := .glo "_law_least") rfl)) sc__law_least rfl (by decide) fun f cdv A outer s H E hr => by
    unfold b__law_least
    exact (sss_one (ss_ret (se_at (se_comp (own := [("_law_x", 1)]) rfl sc__law_least.nd (si_rng1 (by rfl) m_range (se_cB cv_len (by rfl) m_len b_len (sl_cons (ev 0) sl_nil rfl) (by decide) (by decide) rfl rfl) rfl) (blkOk_by rfl) (fun _ _ _ _ _ => (sg_name (i := 1) sc__law_least.nd rfl (by first | exact Or.inl rfl | exact Or.inr rfl) (by first | exact Or.inl rfl | exact Or.inr rfl))) (by decide) (fun _ _ _ _ _ => (sbs_one (sb_cm (ov_nin hr.hu) isB_nin eInt (se_at (ev 0) (ev 1) (fun _ _ => rfl)) rfl))) (fun _ _ _ _ _ => (ev 1)) (fun _ => rfl)) eInt (fun _ _ => rfl))))
def q1__law_pieces : Ev Dk := compF [5] (rangeL (consL (mapF lenD (consL (varF 0) nilL)) nilL)) (putV 5) (andB (truF (binF eqD (binF ixD (binF ixD (varF 0) (varF 5)) (varF 3)) (cstF (.int 1)))) (truF (binF neD (varF 5) (varF 3)))) (varF 5)
def q2__law_pieces : Ev Dk := compF [6] (itemsF (varF 4)) (putV 6) yesB (binF ixD (binF ixD (varF 1) (varF 5)) (varF 6))
def q3__law_pieces : Ev Dk := compF [5] (itemsF (varF 4)) (putV 5) (truF (binF inD (varF 3) q2__law_pieces)) (cstF (.int 1))
def bd1__law_pieces : Ss Dk := (seqF (setF false 4 q1__law_pieces) (ifF (andB (truF (binF neD (varF 4) (mapF dispL nilL))) (truF (binF eqD q3__law_pieces (mapF dispL nilL)))) (exprF (thawF (appendF 2 (consL (varF 3) nilL)))) skipF))
def lp1__law_pieces : Ss Dk := forF (putV 3) (rangeL (consL (mapF lenD (consL (varF 0) nilL)) nilL)) bd1__law_pieces
def b__law_pieces : Ss Dk := (seqF (setF true 2 (mapF dispL nilL)) (seqF lp1__law_pieces (retF (thawF (mapF tupleD (consL (varF 2) nilL))))))
theorem sc__law_pieces : FnScope ["_law_house_here", "_law_joined", "_law_found", "_law_x", "_law_low", "_law_y", "_law_z"] ["_law_house_here", "_law_joined"] (defScope s__law_pieces) := ⟨rfl, rfl, rfl, by decide +kernel, rfl, by decide +kernel, by decide +kernel⟩
def g__law_pieces : List D → Dk → Option (D × Dk) := defN 2 7 b__law_pieces
theorem k__law_pieces (X : K.In h) (G : h.Ns mainGlobals mg) (sd : He.SaysD fa fn K) : Got P w K mg base (dW "cells" "draws" T c) "_law_pieces" s__law_pieces 1 2 ["_law_house_here", "_law_joined"] g__law_pieces := by
  have m_len : mg "len" = none := He.free_ok X G (sd.fact 56 rfl)
  have m_range : mg "range" = none := He.free_ok X G (sd.fact 60 rfl)
  have m_tuple : mg "tuple" = none := He.free_ok X G (sd.fact 64 rfl)
  exact got (sd.def_ 45 (d := d__law_pieces) rfl) (He.glo_ok X G (sd.fact 45 (f := .glo "_law_pieces") rfl)) sc__law_pieces rfl (by decide) fun f cdv A outer s H E hr => by
    unfold b__law_pieces
    exact (sss_cons (ss_set (i := 2) sc__law_pieces.nd rfl (by first | exact Or.inl rfl | exact Or.inr rfl) (se_lst sl_nil) rfl (by first | exact Or.inl rfl | exact Or.inr rfl)) (sss_cons (ss_for PassesOwn.never rfl (si_rng1 (by rfl) m_range (se_cB cv_len (by rfl) m_len b_len (sl_cons (ev 0) sl_nil rfl) (by decide) (by decide) rfl rfl) rfl) (sg_name (i := 3) sc__law_pieces.nd rfl (by first | exact Or.inl rfl | exact Or.inr rfl) (by first | exact Or.inl rfl | exact Or.inr rfl)) (sss_cons (ss_set (i := 4) sc__law_pieces.nd rfl (by first | exact Or.inl rfl | exact Or.inr rfl) (se_weak (se_comp (own := [("_law_y", 5)]) rfl sc__law_pieces.nd (si_rng1 (by rfl) m_range (se_cB cv_len (by rfl) m_len b_len (sl_cons (ev 0) sl_nil rfl) (by decide) (by decide) rfl rfl) rfl) (blkOk_by rfl) (fun _ _ _ _ _ => (sg_name (i := 5) sc__law_pieces.nd rfl (by first | exact Or.inl rfl | exact Or.inr rfl) (by first | exact Or.inl rfl | exact Or.inr rfl))) (by decide) (fun _ _ _ _ _ => (sbs_one (L2.PW.pt (sb_and (sb_cm (ov_eq hr.hu0) isB_eq (se_at (se_at (ev 0) (ev 5) (fun _ _ => rfl)) (ev 3) (fun _ _ => rfl)) eInt (nomark _)) (pw_and1 (sb_cm (ov_ne hr.hu0) isB_ne (ev 5) (ev 3) (nomark _))))))) (fun _ _ _ _ _ => (ev 5)) (fun _ => rfl))) rfl (by first | exact Or.inl rfl | exact Or.inr rfl)) (sss_one (ss_if (L2.PW.pt (sb_and (sb_cm (ov_ne hr.hu0) isB_ne (ev 4) (se_lst sl_nil) (nomark _)) (pw_and1 (sb_cm (ov_eq hr.hu0) isB_eq (se_comp (own := [("_law_y", 5)]) rfl sc__law_pieces.nd (si_val (ev 4)) (blkOk_by rfl) (fun _ _ _ _ _ => (sg_name (i := 5) sc__law_pieces.nd rfl (by first | exact Or.inl rfl | exact Or.inr rfl) (by first | exact Or.inl rfl | exact Or.inr rfl))) (by decide) (fun _ _ _ _ _ => (sbs_one (sb_cm (ov_in hr.hu) isB_in (ev 3) (se_comp (own := [("_law_z", 6)]) rfl sc__law_pieces.nd (si_val (ev 4)) (blkOk_by rfl) (fun _ _ _ _ _ => (sg_name (i := 6) sc__law_pieces.nd rfl (by first | exact Or.inl rfl | exact Or.inr rfl) (by first | exact Or.inl rfl | exact Or.inr rfl))) (by decide) (fun _ _ _ _ _ => sbs_nil) (fun _ _ _ _ _ => (se_at (se_at (ev 1) (ev 5) (fun _ _ => rfl)) (ev 6) (fun _ _ => rfl))) (fun _ => rfl)) rfl))) (fun _ _ _ _ _ => eInt) (fun _ => rfl)) (se_lst sl_nil) (nomark _))))) (sss_one (ss_expr (se_thaw (se_append (pv 2) (sl_cons (ev 3) sl_nil rfl) rfl rfl rfl rfl)) rfl)) sss_nil))) (fun _ => rfl)) (sss_one (ss_ret (se_thaw (se_cT cv_tuple (by rfl) m_tuple b_tuple (sl_cons (ev 2) sl_nil rfl) (by decide) (by decide) rfl rfl))))))
def q1__law_above : Ev Dk := compF [3] (rangeL (consL (mapF lenD (consL (varF 0) nilL)) nilL)) (putV 3) (andB (truF (binF eqD (binF ixD (binF ixD (varF 0) (varF 1)) (varF 3)) (cstF (.int 1)))) (truF (binF neD (varF 3) (varF 1)))) (varF 3)
def q2__law_above : Ev Dk := compF [4] (itemsF (varF 2)) (putV 4) (andB (truF (binF neD (varF 4) (varF 3))) (truF (binF eqD (binF ixD (binF ixD (varF 0) (varF 4)) (varF 3)) (cstF (.int 1))))) (varF 4)
def q3__law_above : Ev Dk := compF [3] (itemsF (varF 2)) (putV 3) (truF (binF eqD q2__law_above (mapF dispL nilL))) (varF 3)
def b__law_above : Ss Dk := (seqF (setF false 2 q1__law_above) (retF (mapF tupleD (consL q3__law_above nilL))))
theorem sc__law_above : FnScope ["_law_house_here", "_law_x", "_law_high", "_law_y", "_law_z"] ["_law_house_here", "_law_x"] (defScope s__law_above) := ⟨rfl, rfl, rfl, by decide +kernel, rfl, by decide +kernel, by decide +kernel⟩
def g__law_above : List D → Dk → Option (D × Dk) := defN 2 5 b__law_above
theorem k__law_above (X : K.In h) (G : h.Ns mainGlobals mg) (sd : He.SaysD fa fn K) : Got P w K mg base (dW "cells" "draws" T c) "_law_above" s__law_above 1 2 ["_law_house_here", "_law_x"] g__law_above := by
  have m_len : mg "len" = none := He.free_ok X G (sd.fact 56 rfl)
  have m_range : mg "range" = none := He.free_ok X G (sd.fact 60 rfl)
  have m_tuple : mg "tuple" = none := He.free_ok X G (sd.fact 64 rfl)
  exact got (sd.def_ 46 (d := d__law_above) rfl) (He.glo_ok X G (sd.fact 46 (f := .glo "_law_above") rfl)) sc__law_above rfl (by decide) fun f cdv A outer s H E hr => by
    unfold b__law_above
    exact (sss_cons (ss_set (i := 2) sc__law_above.nd rfl (by first | exact Or.inl rfl | exact Or.inr rfl) (se_weak (se_comp (own := [("_law_y", 3)]) rfl sc__law_above.nd (si_rng1 (by rfl) m_range (se_cB cv_len (by rfl) m_len b_len (sl_cons (ev 0) sl_nil rfl) (by decide) (by decide) rfl rfl) rfl) (blkOk_by rfl) (fun _ _ _ _ _ => (sg_name (i := 3) sc__law_above.nd rfl (by first | exact Or.inl rfl | exact Or.inr rfl) (by first | exact Or.inl rfl | exact Or.inr rfl))) (by decide) (fun _ _ _ _ _ => (sbs_one (L2.PW.pt (sb_and (sb_cm (ov_eq hr.hu0) isB_eq (se_at (se_at (ev 0) (ev 1) (fun _ _ => rfl)) (ev 3) (fun _ _ => rfl)) eInt (nomark _)) (pw_and1 (sb_cm (ov_ne hr.hu0) isB_ne (ev 3) (ev 1) (nomark _))))))) (fun _ _ _ _ _ => (ev 3)) (fun _ => rfl))) rfl (by first | exact Or.inl rfl | exact Or.inr rfl)) (sss_one (ss_ret (se_cT cv_tuple (by rfl) m_tuple b_tuple (sl_cons (se_comp (own := [("_law_y", 3)]) rfl sc__law_above.nd (si_val (ev 2)) (blkOk_by rfl) (fun _ _ _ _ _ => (sg_name (i := 3) sc__law_above.nd rfl (by first | exact Or.inl rfl | exact Or.inr rfl) (by first | exact Or.inl rfl | exact Or.inr rfl))) (by decide) (fun _ _ _ _ _ => (sbs_one (sb_cm (ov_eq hr.hu0) isB_eq (se_comp (own := [("_law_z", 4)]) rfl sc__law_above.nd (si_val (ev 2)) (blkOk_by rfl) (fun _ _ _ _ _ => (sg_name (i := 4) sc__law_above.nd rfl (by first | exact Or.inl rfl | exact Or.inr rfl) (by first | exact Or.inl rfl | exact Or.inr rfl))) (by decide) (fun _ _ _ _ _ => (sbs_one (L2.PW.pt (sb_and (sb_cm (ov_ne hr.hu0) isB_ne (ev 4) (ev 3) (nomark _)) (pw_and1 (sb_cm (ov_eq hr.hu0) isB_eq (se_at (se_at (ev 0) (ev 4) (fun _ _ => rfl)) (ev 3) (fun _ _ => rfl)) eInt (nomark _))))))) (fun _ _ _ _ _ => (ev 4)) (fun _ => rfl)) (se_lst sl_nil) (nomark _)))) (fun _ _ _ _ _ => (ev 3)) (fun _ => rfl)) sl_nil rfl) (by decide) (by decide) rfl rfl))))
def q1__law_depths : Ev Dk := compF [6] (itemsF (varF 0)) (putV 6) yesB (binF ixD (varF 6) (varF 2))
def q2__law_depths : Ev Dk := compF [2] (rangeL (consL (varF 1) nilL)) (putV 2) yesB (mapF dispT (consL (mapF sumD (consL q1__law_depths nilL)) (consL (varF 2) nilL)))
def q3__law_depths : Ev Dk := compF [7] (rangeL (consL (varF 1) nilL)) (putV 7) (andB (truF (binF eqD (binF ixD (binF ixD (varF 0) (varF 7)) (varF 2)) (cstF (.int 1)))) (truF (binF neD (varF 7) (varF 2)))) (thawF (binF ixD (varF 4) (varF 7)))
def bd1__law_depths : Ss Dk := (setAtF 4 (thawF (binF addD (thawF (mapF maxD (consL (thawF (binF addD (mapF dispL (consL (negF (cstF (.int 1))) nilL)) q3__law_depths)) nilL))) (cstF (.int 1)))) (varF 2))
def lp1__law_depths : Ss Dk := forF (tupG 2 (consG (putV 5) (consG (putV 2) nilG))) (itemsF (varF 3)) bd1__law_depths
def b__law_depths : Ss Dk := (seqF (setF false 1 (mapF lenD (consL (varF 0) nilL))) (seqF (setF false 3 (mapF sortD (consL q2__law_depths nilL))) (seqF (setF true 4 (binF repD (mapF dispL (consL (cstF (.int 0)) nilL)) (varF 1))) (seqF lp1__law_depths (retF (thawF (mapF tupleD (consL (varF 4) nilL))))))))
theorem sc__law_depths : FnScope ["_law_house_here", "_law_n", "_law_x", "_law_order_here", "_law_found", "_law_many", "_law_row", "_law_y"] ["_law_house_here"] (defScope s__law_depths) := ⟨rfl, rfl, rfl, by decide +kernel, rfl, by decide +kernel, by decide +kernel⟩
def g__law_depths : List D → Dk → Option (D × Dk) := defN 1 8 b__law_depths
theorem k__law_depths (X : K.In h) (G : h.Ns mainGlobals mg) (sd : He.SaysD fa fn K) : Got P w K mg base (dW "cells" "draws" T c) "_law_depths" s__law_depths 1 1 ["_law_house_here"] g__law_depths := by
  have m_len : mg "len" = none := He.free_ok X G (sd.fact 56 rfl)
  have m_max : mg "max" = none := He.free_ok X G (sd.fact 58 rfl)
  have m_range : mg "range" = none := He.free_ok X G (sd.fact 60 rfl)
  have m_sorted : mg "sorted" = none := He.free_ok X G (sd.fact 62 rfl)
  have m_sum : mg "sum" = none := He.free_ok X G (sd.fact 63 rfl)
  have m_tuple : mg "tuple" = none := He.free_ok X G (sd.fact 64 rfl)
  exact got (sd.def_ 47 (d := d__law_depths) rfl) (He.glo_ok X G (sd.fact 47 (f := .glo "_law_depths") rfl)) sc__law_depths rfl (by decide) fun f cdv A outer s H E hr => by
    unfold b__law_depths
    exact (sss_cons (ss_set (i := 1) sc__law_depths.nd rfl (by first | exact Or.inl rfl | exact Or.inr rfl) (se_weak (se_cB cv_len (by rfl) m_len b_len (sl_cons (ev 0) sl_nil rfl) (by decide) (by decide) rfl rfl)) rfl (by first | exact Or.inl rfl | exact Or.inr rfl)) (sss_cons (ss_set (i := 3) sc__law_depths.nd rfl (by first | exact Or.inl rfl | exact Or.inr rfl) (se_weak (se_cB (cv_sorted hr.hu0) (by rfl) m_sorted b_sorted (sl_cons (se_comp (own := [("_law_x", 2)]) rfl sc__law_depths.nd (si_rng1 (by rfl) m_range (ev 1) rfl) (blkOk_by rfl) (fun _ _ _ _ _ => (sg_name (i := 2) sc__law_depths.nd rfl (by first | exact Or.inl rfl | exact Or.inr rfl) (by first | exact Or.inl rfl | exact Or.inr rfl))) (by decide) (fun _ _ _ _ _ => sbs_nil) (fun _ _ _ _ _ => (se_tup (sl_cons (se_cB (cv_sum rfl) (by rfl) m_sum b_sum (sl_cons (se_comp (own := [("_law_row", 6)]) rfl sc__law_depths.nd (si_val (ev 0)) (blkOk_by rfl) (fun _ _ _ _ _ => (sg_name (i := 6) sc__law_depths.nd rfl (by first | exact Or.inl rfl | exact Or.inr rfl) (by first | exact Or.inl rfl | exact Or.inr rfl))) (by decide) (fun _ _ _ _ _ => sbs_nil) (fun _ _ _ _ _ => (se_at (ev 6) (ev 2) (fun _ _ => rfl))) (fun _ => rfl)) sl_nil rfl) (by decide) (by decide) rfl rfl) (sl_cons (ev 2) sl_nil rfl) rfl))) (fun _ => rfl)) sl_nil rfl) (by decide) (by decide) rfl rfl)) rfl (by first | exact Or.inl rfl | exact Or.inr rfl)) (sss_cons (ss_set (i := 4) sc__law_depths.nd rfl (by first | exact Or.inl rfl | exact Or.inr rfl) (se_op ov_rep (se_lst (sl_cons eInt sl_nil rfl)) (ev 1)) rfl (by first | exact Or.inl rfl | exact Or.inr rfl)) (sss_cons (ss_for PassesOwn.never rfl (si_val (ev 3)) (sg_tup rfl (sgs_cons (sg_name (i := 5) sc__law_depths.nd rfl (by first | exact Or.inl rfl | exact Or.inr rfl) (by first | exact Or.inl rfl | exact Or.inr rfl)) (sgs_cons (sg_name (i := 2) sc__law_depths.nd rfl (by first | exact Or.inl rfl | exact Or.inr rfl) (by first | exact Or.inl rfl | exact Or.inr rfl)) sgs_nil rfl) rfl) rfl rfl) (sss_one (ss_setAt (pv 4) (se_thaw (se_op ov_add (se_thaw (se_cB (cv_max rfl) (by rfl) m_max b_max (sl_cons (se_thaw (se_op ov_add (se_lst (sl_cons (se_neg eInt) sl_nil rfl)) (se_comp (own := [("_law_y", 7)]) rfl sc__law_depths.nd (si_rng1 (by rfl) m_range (ev 1) rfl) (blkOk_by rfl) (fun _ _ _ _ _ => (sg_name (i := 7) sc__law_depths.nd rfl (by first | exact Or.inl rfl | exact Or.inr rfl) (by first | exact Or.inl rfl | exact Or.inr rfl))) (by decide) (fun _ _ _ _ _ => (sbs_one (L2.PW.pt (sb_and (sb_cm (ov_eq hr.hu0) isB_eq (se_at (se_at (ev 0) (ev 7) (fun _ _ => rfl)) (ev 2) (fun _ _ => rfl)) eInt (nomark _)) (pw_and1 (sb_cm (ov_ne hr.hu0) isB_ne (ev 7) (ev 2) (nomark _))))))) (fun _ _ _ _ _ => (se_thaw (se_at (ev 4) (ev 7) (fun _ _ => rfl)))) (fun _ => rfl)))) sl_nil rfl) (by decide) (by decide) rfl rfl)) eInt)) (ev 2) (fun _ => rfl) rfl rfl rfl)) (fun _ => rfl)) (sss_one (ss_ret (se_thaw (se_cT cv_tuple (by rfl) m_tuple b_tuple (sl_cons (ev 4) sl_nil rfl) (by decide) (by decide) rfl rfl))))))))
def bd1__law_are_steps : Ss Dk := (seqF (ifF (truF (binF leD (binF ixD (varF 1) (varF 6)) (binF ixD (varF 1) (varF 4)))) (retF (cstF (.bl false))) skipF) (ifF (truF (binF eqD (binF ixD (varF 1) (varF 6)) (binF addD (binF ixD (varF 1) (varF 4)) (cstF (.int 1))))) (dsetF 3 (cstF (.bl true)) (varF 6)) skipF))
def lp1__law_are_steps : Ss Dk := forF (putV 6) (itemsF (varF 5)) bd1__law_are_steps
def bd2__law_are_steps : Ss Dk := (seqF (setF false 5 (callF g__law_above (consL (varF 0) (consL (varF 4) nilL)))) (seqF (ifF (andB (orB (truF (binF ltD (varF 2) (cstF (.int 7)))) (truF (binF eqD (binF modD (mapF int1D (consL (varF 4) nilL)) (cstF (.int 5))) (cstF (.int 1))))) (truF (binF neD (mapF reprD (consL (callF g_steps_above (consL (varF 0) (consL (varF 4) nilL))) nilL)) (mapF reprD (consL (varF 5) nilL))))) (retF (cstF (.bl false))) skipF) lp1__law_are_steps))
def lp2__law_are_steps : Ss Dk := forF (putV 4) (rangeL (consL (varF 2) nilL)) bd2__law_are_steps
def q1__law_are_steps : Ev Dk := compF [4] (rangeL (consL (varF 2) nilL)) (putV 4) (truF (binF gtD (binF ixD (varF 1) (varF 4)) (cstF (.int 0)))) (varF 4)
def b__law_are_steps : Ss Dk := (seqF (parF [2, 3] (consI false (mapF lenD (consL (varF 0) nilL)) (consI true dnewF nilI))) (seqF lp2__law_are_steps (retF (thawF (binF eqD (thawF (mapF sdictD (consL (varF 3) nilL))) q1__law_are_steps)))))
theorem sc__law_are_steps : FnScope ["_law_house_here", "_law_deep", "_law_n", "_law_reached", "_law_x", "_law_steps", "_law_y"] ["_law_house_here", "_law_deep"] (defScope s__law_are_steps) := ⟨rfl, rfl, rfl, by decide +kernel, rfl, by decide +kernel, by decide +kernel⟩
def g__law_are_steps : List D → Dk → Option (D × Dk) := defN 2 7 b__law_are_steps
theorem k__law_are_steps (X : K.In h) (G : h.Ns mainGlobals mg) (sd : He.SaysD fa fn K) : Got P w K mg base (dW "cells" "draws" T c) "_law_are_steps" s__law_are_steps 8 2 ["_law_house_here", "_law_deep"] g__law_are_steps := by
  have o__law_above := k__law_above (P := P) (w := w) (base := base) (T := T) (c := c) X G sd
  have o_steps_above := k_steps_above (P := P) (w := w) (base := base) (T := T) (c := c) X G sd
  have m_int : mg "int" = none := He.free_ok X G (sd.fact 54 rfl)
  have m_len : mg "len" = none := He.free_ok X G (sd.fact 56 rfl)
  have m_range : mg "range" = none := He.free_ok X G (sd.fact 60 rfl)
  have m_repr : mg "repr" = none := He.free_ok X G (sd.fact 61 rfl)
  have m_sorted : mg "sorted" = none := He.free_ok X G (sd.fact 62 rfl)
  exact got (sd.def_ 48 (d := d__law_are_steps) rfl) (He.glo_ok X G (sd.fact 48 (f := .glo "_law_are_steps") rfl)) sc__law_are_steps rfl (by decide) fun f cdv A outer s H E hr => by
    unfold b__law_are_steps
    exact (sss_cons (ss_par2 (i := 2) (j := 3) rfl sc__law_are_steps.nd rfl rfl (by decide) rfl rfl (sli_cons (se_weak (se_cB cv_len (by rfl) m_len b_len (sl_cons (ev 0) sl_nil rfl) (by decide) (by decide) rfl rfl)) (sli_cons se_dnew sli_nil rfl) rfl) rfl rfl) (sss_cons (ss_for PassesOwn.never rfl (si_rng1 (by rfl) m_range (ev 2) rfl) (sg_name (i := 4) sc__law_are_steps.nd rfl (by first | exact Or.inl rfl | exact Or.inr rfl) (by first | exact Or.inl rfl | exact Or.inr rfl)) (sss_cons (ss_set (i := 5) sc__law_are_steps.nd rfl (by first | exact Or.inl rfl | exact Or.inr rfl) (callD o__law_above (hr.mono (by decide)) (by rfl) (fun _ _ _ _ _ _ us hl => match us, hl with | [_, _], _ => rfl) (sl_cons (ev 0) (sl_cons (ev 4) sl_nil rfl) rfl) (by decide) rfl rfl) rfl (by first | exact Or.inl rfl | exact Or.inr rfl)) (sss_cons (ss_if (L2.PW.pt (sb_and (L2.PW.pt (sb_or (sb_cm ov_lt isB_lt (ev 2) eInt (nomark _)) (pw_or1 (sb_cm (ov_eq hr.hu0) isB_eq (se_op ov_mod (se_cT cv_int (by rfl) m_int b_int (sl_cons (ev 4) sl_nil rfl) (by decide) (by decide) rfl rfl) eInt) eInt (nomark _))))) (pw_and1 (sb_cm (ov_ne hr.hu0) isB_ne (se_cB (cv_repr hr.gd hr.hu) (by rfl) m_repr b_repr (sl_cons (callD o_steps_above (hr.mono (by decide)) (by rfl) (fun _ _ _ _ _ _ us hl => match us, hl with | [_, _], _ => rfl) (sl_cons (ev 0) (sl_cons (ev 4) sl_nil rfl) rfl) (by decide) rfl rfl) sl_nil rfl) (by decide) (by decide) rfl rfl) (se_cB (cv_repr hr.gd hr.hu) (by rfl) m_repr b_repr (sl_cons (ev 5) sl_nil rfl) (by decide) (by decide) rfl rfl) (nomark _))))) (sss_one (ss_ret eBl)) sss_nil) (sss_one (ss_for PassesOwn.never rfl (si_val (ev 5)) (sg_name (i := 6) sc__law_are_steps.nd rfl (by first | exact Or.inl rfl | exact Or.inr rfl) (by first | exact Or.inl rfl | exact Or.inr rfl)) (sss_cons (ss_if (sb_cm ov_le isB_le (se_at (ev 1) (ev 6) (fun _ _ => rfl)) (se_at (ev 1) (ev 4) (fun _ _ => rfl)) (nomark _)) (sss_one (ss_ret eBl)) sss_nil) (sss_one (ss_if (sb_cm (ov_eq hr.hu0) isB_eq (se_at (ev 1) (ev 6) (fun _ _ => rfl)) (se_op ov_add (se_at (ev 1) (ev 4) (fun _ _ => rfl)) eInt) (nomark _)) (sss_one (ss_dset hr.hu0 (pv 3) eBl (ev 6) rfl)) sss_nil))) (fun _ => rfl))))) (fun _ => rfl)) (sss_one (ss_ret (se_thaw (se_cm (ov_eq hr.hu0) (se_thaw (se_sdict rfl (by rfl) m_sorted b_sorted (sl_cons (ev 3) sl_nil rfl) rfl rfl)) (se_comp (own := [("_law_x", 4)]) rfl sc__law_are_steps.nd (si_rng1 (by rfl) m_range (ev 2) rfl) (blkOk_by rfl) (fun _ _ _ _ _ => (sg_name (i := 4) sc__law_are_steps.nd rfl (by first | exact Or.inl rfl | exact Or.inr rfl) (by first | exact Or.inl rfl | exact Or.inr rfl))) (by decide) (fun _ _ _ _ _ => (sbs_one (sb_cm ov_gt isB_gt (se_at (ev 1) (ev 4) (fun _ _ => rfl)) eInt (nomark _)))) (fun _ _ _ _ _ => (ev 4)) (fun _ => rfl)) (nomark _)))))))
def q1_law : Ev Dk := compF [10] (itemsF (varF 8)) (putV 10) (truF (binF eqD (binF ixD (binF ixD (varF 2) (varF 10)) (varF 9)) (cstF (.int 1)))) (varF 10)
def bd1_law : Ss Dk := (setF false 12 (binF ixD (binF ixD (varF 3) (varF 12)) (varF 10)))
def lp1_law : Ss Dk := forF (putV 10) (itemsF (varF 11)) bd1_law
def bd2_law : Ss Dk := (seqF (parF [11, 12] (consI false (mapF tupleD (consL q1_law nilL)) (consI false (varF 6) nilI))) (seqF lp1_law (ifF (orB (truF (binF neD (varF 12) (varF 9))) (orB (truF (binF neD (callF g_all_of (consL (varF 2) (consL (varF 6) (consL (varF 9) nilL)))) (varF 9))) (truF (binF neD (mapF reprD (consL (mapF dispT (consL (callF g_pieces_within (consL (varF 2) (consL (varF 9) nilL))) (consL (callF g_lot_with (consL (varF 2) (consL (varF 11) nilL))) nilL))) nilL)) (mapF reprD (consL (mapF dispT (consL (varF 11) (consL (varF 9) nilL))) nilL)))))) (retF (cstF (.bl false))) skipF)))
def lp2_law : Ss Dk := forF (putV 9) (itemsF (mapF dispT (consL (varF 7) (consL (callF g__law_draw (consL (varF 1) (consL (varF 4) nilL))) (consL (callF g__law_draw (consL (varF 1) (consL (varF 4) nilL))) nilL))))) bd2_law
def q2_law : Ev Dk := compF [14] (rangeL (consL (varF 4) nilL)) (putV 14) (truF (binF inD (varF 9) (callF g__law_above (consL (varF 2) (consL (varF 14) nilL))))) (varF 14)
def b_law : Ss Dk := (seqF (setF false 2 (callF g__law_house (consL (varF 1) (consL (callF g__law_pick (consL (varF 1) (consL (mapF dispL (consL (cstF (.int 8)) (consL (cstF (.int 5)) (consL (cstF (.int 9)) (consL (cstF (.int 6)) (consL (cstF (.int 24)) (consL (cstF (.int 7)) (consL (cstF (.int 5)) (consL (cstF (.int 8)) (consL (cstF (.int 12)) (consL (cstF (.int 6)) nilL))))))))))) nilL))) nilL)))) (seqF (parF [3, 4, 5] (consI false (callF g__law_all (consL (varF 2) nilL)) (consI false (mapF lenD (consL (varF 2) nilL)) (consI false (callF g__law_depths (consL (varF 2) nilL)) nilI)))) (seqF (parF [6, 7] (consI false (callF g__law_least (consL (varF 2) nilL)) (consI false (callF g__law_least (consL (callF g__law_over (consL (varF 2) nilL)) nilL)) nilI))) (seqF (ifF (truF (binF neD (mapF reprD (consL (mapF dispT (consL (callF g_least (consL (varF 2) nilL)) (consL (callF g_greatest (consL (varF 2) nilL)) (consL (callF g_least (catS 0 1 [0] nilL (consL (varF 2) nilL))) (consL (callF g_greatest (catS 0 1 [0] nilL (consL (varF 2) nilL))) nilL))))) nilL)) (mapF reprD (consL (mapF dispT (consL (varF 6) (consL (varF 7) (consL (varF 6) (consL (varF 7) nilL))))) nilL)))) (retF (cstF (.bl false))) skipF) (seqF (ifF (orB (truF (binF neD (mapF reprD (consL (mapF dispT (consL (callF g_depths (consL (varF 2) nilL)) (consL (callF g_depths (catS 0 1 [0] nilL (consL (varF 2) nilL))) nilL))) nilL)) (mapF reprD (consL (mapF dispT (consL (varF 5) (consL (varF 5) nilL))) nilL)))) (notB (truF (callF g__law_are_steps (consL (varF 2) (consL (varF 5) nilL)))))) (retF (cstF (.bl false))) skipF) (seqF (setF false 8 (callF g__law_pieces (consL (varF 2) (consL (varF 3) nilL)))) (seqF (ifF (truF (binF neD (mapF reprD (consL (mapF dispT (consL (callF g_pieces (consL (varF 2) nilL)) (consL (callF g_pieces (catS 0 1 [0] nilL (consL (varF 2) nilL))) nilL))) nilL)) (mapF reprD (consL (mapF dispT (consL (varF 8) (consL (varF 8) nilL))) nilL)))) (retF (cstF (.bl false))) skipF) (seqF lp2_law (seqF (setF false 13 (callF g_turned_over (consL (varF 2) nilL))) (seqF (ifF (truF (binF neD (mapF reprD (consL (mapF dispT (consL (callF g_least (consL (varF 13) nilL)) (consL (callF g_greatest (consL (varF 13) nilL)) (consL (binF ixD (callF g_depths (consL (varF 13) nilL)) (varF 6)) nilL)))) nilL)) (mapF reprD (consL (mapF dispT (consL (varF 7) (consL (varF 6) (consL (binF ixD (varF 5) (varF 7)) nilL)))) nilL)))) (retF (cstF (.bl false))) skipF) (seqF (setF false 9 (callF g__law_draw (consL (varF 1) (consL (varF 4) nilL)))) (retF (binF eqD (mapF reprD (consL (callF g_steps_above (catS 0 2 [1, 0] nilL (consL (varF 9) (consL (varF 13) nilL)))) nilL)) (mapF reprD (consL (mapF tupleD (consL q2_law nilL)) nilL)))))))))))))))
theorem sc_law : FnScope ["_law_script", "_law_deck_here", "_law_house_here", "_law_joined", "_law_n", "_law_deep", "_law_low", "_law_high", "_law_single", "_law_x", "_law_p", "_law_within", "_law_made", "_law_over_here", "_law_y"] ["_law_script"] (defScope s_law) := ⟨rfl, rfl, rfl, by decide +kernel, rfl, by decide +kernel, by decide +kernel⟩
theorem body_law (X : K.In h) (G : h.Ns mainGlobals mg) (sd : He.SaysD fa fn K) (f : Addr) (cdv : Value) (A : Around) (outer : List Env) (s : Shared) (H : Hp) (E : XK) (hr : RoomG 8 (A.deeper (envOfC "law" (defScope s_law) s.heap.objs.size f cdv))) :
    PSs (cxOf CX0 P w K mg base ["_law_script", "_law_deck_here", "_law_house_here", "_law_joined", "_law_n", "_law_deep", "_law_low", "_law_high", "_law_single", "_law_x", "_law_p", "_law_within", "_law_made", "_law_over_here", "_law_y"] "law" (defScope s_law) f cdv A outer s H E).nox ((defBody s_law).drop 1) (SS K (dW "cells" "draws" T c) b_law) := by
  have o__law_above := k__law_above (P := P) (w := w) (base := base) (T := T) (c := c) X G sd
  have o__law_all := k__law_all (P := P) (w := w) (base := base) (T := T) (c := c) X G sd
  have o__law_are_steps := k__law_are_steps (P := P) (w := w) (base := base) (T := T) (c := c) X G sd
  have o__law_depths := k__law_depths (P := P) (w := w) (base := base) (T := T) (c := c) X G sd
  have o__law_draw := k__law_draw (P := P) (w := w) (base := base) (T := T) (c := c) X G sd
  have o__law_house := k__law_house (P := P) (w := w) (base := base) (T := T) (c := c) X G sd
  have o__law_least := k__law_least (P := P) (w := w) (base := base) (T := T) (c := c) X G sd
  have o__law_over := k__law_over (P := P) (w := w) (base := base) (T := T) (c := c) X G sd
  have o__law_pick := k__law_pick (P := P) (w := w) (base := base) (T := T) (c := c) X G sd
  have o__law_pieces := k__law_pieces (P := P) (w := w) (base := base) (T := T) (c := c) X G sd
  have o_all_of := k_all_of (P := P) (w := w) (base := base) (T := T) (c := c) X G sd
  have o_depths := k_depths (P := P) (w := w) (base := base) (T := T) (c := c) X G sd
  have o_greatest := k_greatest (P := P) (w := w) (base := base) (T := T) (c := c) X G sd
  have o_least := k_least (P := P) (w := w) (base := base) (T := T) (c := c) X G sd
  have o_lot_with := k_lot_with (P := P) (w := w) (base := base) (T := T) (c := c) X G sd
  have o_pieces := k_pieces (P := P) (w := w) (base := base) (T := T) (c := c) X G sd
  have o_pieces_within := k_pieces_within (P := P) (w := w) (base := base) (T := T) (c := c) X G sd
  have o_steps_above := k_steps_above (P := P) (w := w) (base := base) (T := T) (c := c) X G sd
  have o_turned_over := k_turned_over (P := P) (w := w) (base := base) (T := T) (c := c) X G sd
  have m_len : mg "len" = none := He.free_ok X G (sd.fact 56 rfl)
  have m_range : mg "range" = none := He.free_ok X G (sd.fact 60 rfl)
  have m_repr : mg "repr" = none := He.free_ok X G (sd.fact 61 rfl)
  have m_tuple : mg "tuple" = none := He.free_ok X G (sd.fact 64 rfl)
  unfold b_law
  exact (sss_cons (ss_set (i := 2) sc_law.nd rfl (by first | exact Or.inl rfl | exact Or.inr rfl) (callD o__law_house (hr.mono (by decide)) (by rfl) (fun _ _ _ _ _ _ us hl => match us, hl with | [_, _], _ => rfl) (sl_cons (ev 1) (sl_cons (callD o__law_pick (hr.mono (by decide)) (by rfl) (fun _ _ _ _ _ _ us hl => match us, hl with | [_, _], _ => rfl) (sl_cons (ev 1) (sl_cons (se_lst (sl_cons eInt (sl_cons eInt (sl_cons eInt (sl_cons eInt (sl_cons eInt (sl_cons eInt (sl_cons eInt (sl_cons eInt (sl_cons eInt (sl_cons eInt sl_nil rfl) rfl) rfl) rfl) rfl) rfl) rfl) rfl) rfl) rfl)) sl_nil rfl) rfl) (by decide) rfl rfl) sl_nil rfl) rfl) (by decide) rfl rfl) rfl (by first | exact Or.inl rfl | exact Or.inr rfl)) (sss_cons (ss_par3 (i := 3) (j := 4) (l := 5) rfl sc_law.nd rfl rfl rfl (by decide) (by decide) (by decide) rfl rfl rfl (sli_cons (callD o__law_all (hr.mono (by decide)) (by rfl) (fun _ _ _ _ _ _ us hl => match us, hl with | [_], _ => rfl) (sl_cons (ev 2) sl_nil rfl) (by decide) rfl rfl) (sli_cons (se_weak (se_cB cv_len (by rfl) m_len b_len (sl_cons (ev 2) sl_nil rfl) (by decide) (by decide) rfl rfl)) (sli_cons (callD o__law_depths (hr.mono (by decide)) (by rfl) (fun _ _ _ _ _ _ us hl => match us, hl with | [_], _ => rfl) (sl_cons (ev 2) sl_nil rfl) (by decide) rfl rfl) sli_nil rfl) rfl) rfl) rfl rfl) (sss_cons (ss_par2 (i := 6) (j := 7) rfl sc_law.nd rfl rfl (by decide) rfl rfl (sli_cons (callD o__law_least (hr.mono (by decide)) (by rfl) (fun _ _ _ _ _ _ us hl => match us, hl with | [_], _ => rfl) (sl_cons (ev 2) sl_nil rfl) (by decide) rfl rfl) (sli_cons (callD o__law_least (hr.mono (by decide)) (by rfl) (fun _ _ _ _ _ _ us hl => match us, hl with | [_], _ => rfl) (sl_cons (callD o__law_over (hr.mono (by decide)) (by rfl) (fun _ _ _ _ _ _ us hl => match us, hl with | [_], _ => rfl) (sl_cons (ev 2) sl_nil rfl) (by decide) rfl rfl) sl_nil rfl) (by decide) rfl rfl) sli_nil rfl) rfl) rfl rfl) (sss_cons (ss_if (sb_cm (ov_ne hr.hu0) isB_ne (se_cB (cv_repr hr.gd hr.hu) (by rfl) m_repr b_repr (sl_cons (se_tup (sl_cons (callD o_least (hr.mono (by decide)) (by rfl) (fun _ _ _ _ _ _ us hl => match us, hl with | [_], _ => rfl) (sl_cons (ev 2) sl_nil rfl) (by decide) rfl rfl) (sl_cons (callD o_greatest (hr.mono (by decide)) (by rfl) (fun _ _ _ _ _ _ us hl => match us, hl with | [_], _ => rfl) (sl_cons (ev 2) sl_nil rfl) (by decide) rfl rfl) (sl_cons (callK0 1 [0] ["house"] o_least (hr.mono (by decide)) (by rfl) (fun _ _ _ _ _ _ us ws h1 h2 => match us, ws, h1, h2 with | [], [_], _, _ => rfl) (sk_cons (ev 2) sk_nil) rfl rfl (by decide) rfl) (sl_cons (callK0 1 [0] ["house"] o_greatest (hr.mono (by decide)) (by rfl) (fun _ _ _ _ _ _ us ws h1 h2 => match us, ws, h1, h2 with | [], [_], _, _ => rfl) (sk_cons (ev 2) sk_nil) rfl rfl (by decide) rfl) sl_nil rfl) rfl) rfl) rfl)) sl_nil rfl) (by decide) (by decide) rfl rfl) (se_cB (cv_repr hr.gd hr.hu) (by rfl) m_repr b_repr (sl_cons (se_tup (sl_cons (ev 6) (sl_cons (ev 7) (sl_cons (ev 6) (sl_cons (ev 7) sl_nil rfl) rfl) rfl) rfl)) sl_nil rfl) (by decide) (by decide) rfl rfl) (nomark _)) (sss_one (ss_ret eBl)) sss_nil) (sss_cons (ss_if (L2.PW.pt (sb_or (sb_cm (ov_ne hr.hu0) isB_ne (se_cB (cv_repr hr.gd hr.hu) (by rfl) m_repr b_repr (sl_cons (se_tup (sl_cons (callD o_depths (hr.mono (by decide)) (by rfl) (fun _ _ _ _ _ _ us hl => match us, hl with | [_], _ => rfl) (sl_cons (ev 2) sl_nil rfl) (by decide) rfl rfl) (sl_cons (callK0 1 [0] ["house"] o_depths (hr.mono (by decide)) (by rfl) (fun _ _ _ _ _ _ us ws h1 h2 => match us, ws, h1, h2 with | [], [_], _, _ => rfl) (sk_cons (ev 2) sk_nil) rfl rfl (by decide) rfl) sl_nil rfl) rfl)) sl_nil rfl) (by decide) (by decide) rfl rfl) (se_cB (cv_repr hr.gd hr.hu) (by rfl) m_repr b_repr (sl_cons (se_tup (sl_cons (ev 5) (sl_cons (ev 5) sl_nil rfl) rfl)) sl_nil rfl) (by decide) (by decide) rfl rfl) (nomark _)) (pw_or1 (sb_not (sb_val (callD o__law_are_steps (hr.mono (by decide)) (by rfl) (fun _ _ _ _ _ _ us hl => match us, hl with | [_, _], _ => rfl) (sl_cons (ev 2) (sl_cons (ev 5) sl_nil rfl) rfl) (by decide) rfl rfl) (fun _ => rfl)))))) (sss_one (ss_ret eBl)) sss_nil) (sss_cons (ss_set (i := 8) sc_law.nd rfl (by first | exact Or.inl rfl | exact Or.inr rfl) (callD o__law_pieces (hr.mono (by decide)) (by rfl) (fun _ _ _ _ _ _ us hl => match us, hl with | [_, _], _ => rfl) (sl_cons (ev 2) (sl_cons (ev 3) sl_nil rfl) rfl) (by decide) rfl rfl) rfl (by first | exact Or.inl rfl | exact Or.inr rfl)) (sss_cons (ss_if (sb_cm (ov_ne hr.hu0) isB_ne (se_cB (cv_repr hr.gd hr.hu) (by rfl) m_repr b_repr (sl_cons (se_tup (sl_cons (callD o_pieces (hr.mono (by decide)) (by rfl) (fun _ _ _ _ _ _ us hl => match us, hl with | [_], _ => rfl) (sl_cons (ev 2) sl_nil rfl) (by decide) rfl rfl) (sl_cons (callK0 1 [0] ["house"] o_pieces (hr.mono (by decide)) (by rfl) (fun _ _ _ _ _ _ us ws h1 h2 => match us, ws, h1, h2 with | [], [_], _, _ => rfl) (sk_cons (ev 2) sk_nil) rfl rfl (by decide) rfl) sl_nil rfl) rfl)) sl_nil rfl) (by decide) (by decide) rfl rfl) (se_cB (cv_repr hr.gd hr.hu) (by rfl) m_repr b_repr (sl_cons (se_tup (sl_cons (ev 8) (sl_cons (ev 8) sl_nil rfl) rfl)) sl_nil rfl) (by decide) (by decide) rfl rfl) (nomark _)) (sss_one (ss_ret eBl)) sss_nil) (sss_cons (ss_for PassesOwn.never rfl (si_val (se_tup (sl_cons (ev 7) (sl_cons (callD o__law_draw (hr.mono (by decide)) (by rfl) (fun _ _ _ _ _ _ us hl => match us, hl with | [_, _], _ => rfl) (sl_cons (ev 1) (sl_cons (ev 4) sl_nil rfl) rfl) (by decide) rfl rfl) (sl_cons (callD o__law_draw (hr.mono (by decide)) (by rfl) (fun _ _ _ _ _ _ us hl => match us, hl with | [_, _], _ => rfl) (sl_cons (ev 1) (sl_cons (ev 4) sl_nil rfl) rfl) (by decide) rfl rfl) sl_nil rfl) rfl) rfl))) (sg_name (i := 9) sc_law.nd rfl (by first | exact Or.inl rfl | exact Or.inr rfl) (by first | exact Or.inl rfl | exact Or.inr rfl)) (sss_cons (ss_par2 (i := 11) (j := 12) rfl sc_law.nd rfl rfl (by decide) rfl rfl (sli_cons (se_weak (se_cT cv_tuple (by rfl) m_tuple b_tuple (sl_cons (se_comp (own := [("_law_p", 10)]) rfl sc_law.nd (si_val (ev 8)) (blkOk_by rfl) (fun _ _ _ _ _ => (sg_name (i := 10) sc_law.nd rfl (by first | exact Or.inl rfl | exact Or.inr rfl) (by first | exact Or.inl rfl | exact Or.inr rfl))) (by decide) (fun _ _ _ _ _ => (sbs_one (sb_cm (ov_eq hr.hu0) isB_eq (se_at (se_at (ev 2) (ev 10) (fun _ _ => rfl)) (ev 9) (fun _ _ => rfl)) eInt (nomark _)))) (fun _ _ _ _ _ => (ev 10)) (fun _ => rfl)) sl_nil rfl) (by decide) (by decide) rfl rfl)) (sli_cons (ev 6) sli_nil rfl) rfl) rfl rfl) (sss_cons (ss_for PassesOwn.never rfl (si_val (ev 11)) (sg_name (i := 10) sc_law.nd rfl (by first | exact Or.inl rfl | exact Or.inr rfl) (by first | exact Or.inl rfl | exact Or.inr rfl)) (sss_one (ss_set (i := 12) sc_law.nd rfl (by first | exact Or.inl rfl | exact Or.inr rfl) (se_at (se_at (ev 3) (ev 12) (fun _ _ => rfl)) (ev 10) (fun _ _ => rfl)) rfl (by first | exact Or.inl rfl | exact Or.inr rfl))) (fun _ => rfl)) (sss_one (ss_if (L2.PW.pt (sb_or (sb_cm (ov_ne hr.hu0) isB_ne (ev 12) (ev 9) (nomark _)) (sb_or (sb_cm (ov_ne hr.hu0) isB_ne (callD o_all_of (hr.mono (by decide)) (by rfl) (fun _ _ _ _ _ _ us hl => match us, hl with | [_, _, _], _ => rfl) (sl_cons (ev 2) (sl_cons (ev 6) (sl_cons (ev 9) sl_nil rfl) rfl) rfl) (by decide) rfl rfl) (ev 9) (nomark _)) (pw_or1 (sb_cm (ov_ne hr.hu0) isB_ne (se_cB (cv_repr hr.gd hr.hu) (by rfl) m_repr b_repr (sl_cons (se_tup (sl_cons (callD o_pieces_within (hr.mono (by decide)) (by rfl) (fun _ _ _ _ _ _ us hl => match us, hl with | [_, _], _ => rfl) (sl_cons (ev 2) (sl_cons (ev 9) sl_nil rfl) rfl) (by decide) rfl rfl) (sl_cons (callD o_lot_with (hr.mono (by decide)) (by rfl) (fun _ _ _ _ _ _ us hl => match us, hl with | [_, _], _ => rfl) (sl_cons (ev 2) (sl_cons (ev 11) sl_nil rfl) rfl) (by decide) rfl rfl) sl_nil rfl) rfl)) sl_nil rfl) (by decide) (by decide) rfl rfl) (se_cB (cv_repr hr.gd hr.hu) (by rfl) m_repr b_repr (sl_cons (se_tup (sl_cons (ev 11) (sl_cons (ev 9) sl_nil rfl) rfl)) sl_nil rfl) (by decide) (by decide) rfl rfl) (nomark _)))))) (sss_one (ss_ret eBl)) sss_nil)))) (fun _ => rfl)) (sss_cons (ss_set (i := 13) sc_law.nd rfl (by first | exact Or.inl rfl | exact Or.inr rfl) (callD o_turned_over (hr.mono (by decide)) (by rfl) (fun _ _ _ _ _ _ us hl => match us, hl with | [_], _ => rfl) (sl_cons (ev 2) sl_nil rfl) (by decide) rfl rfl) rfl (by first | exact Or.inl rfl | exact Or.inr rfl)) (sss_cons (ss_if (sb_cm (ov_ne hr.hu0) isB_ne (se_cB (cv_repr hr.gd hr.hu) (by rfl) m_repr b_repr (sl_cons (se_tup (sl_cons (callD o_least (hr.mono (by decide)) (by rfl) (fun _ _ _ _ _ _ us hl => match us, hl with | [_], _ => rfl) (sl_cons (ev 13) sl_nil rfl) (by decide) rfl rfl) (sl_cons (callD o_greatest (hr.mono (by decide)) (by rfl) (fun _ _ _ _ _ _ us hl => match us, hl with | [_], _ => rfl) (sl_cons (ev 13) sl_nil rfl) (by decide) rfl rfl) (sl_cons (se_at (callD o_depths (hr.mono (by decide)) (by rfl) (fun _ _ _ _ _ _ us hl => match us, hl with | [_], _ => rfl) (sl_cons (ev 13) sl_nil rfl) (by decide) rfl rfl) (ev 6) (fun _ _ => rfl)) sl_nil rfl) rfl) rfl)) sl_nil rfl) (by decide) (by decide) rfl rfl) (se_cB (cv_repr hr.gd hr.hu) (by rfl) m_repr b_repr (sl_cons (se_tup (sl_cons (ev 7) (sl_cons (ev 6) (sl_cons (se_at (ev 5) (ev 7) (fun _ _ => rfl)) sl_nil rfl) rfl) rfl)) sl_nil rfl) (by decide) (by decide) rfl rfl) (nomark _)) (sss_one (ss_ret eBl)) sss_nil) (sss_cons (ss_set (i := 9) sc_law.nd rfl (by first | exact Or.inl rfl | exact Or.inr rfl) (callD o__law_draw (hr.mono (by decide)) (by rfl) (fun _ _ _ _ _ _ us hl => match us, hl with | [_, _], _ => rfl) (sl_cons (ev 1) (sl_cons (ev 4) sl_nil rfl) rfl) (by decide) rfl rfl) rfl (by first | exact Or.inl rfl | exact Or.inr rfl)) (sss_one (ss_ret (se_cm (ov_eq hr.hu0) (se_cB (cv_repr hr.gd hr.hu) (by rfl) m_repr b_repr (sl_cons (callK0 2 [1, 0] ["x", "house"] o_steps_above (hr.mono (by decide)) (by rfl) (fun _ _ _ _ _ _ us ws h1 h2 => match us, ws, h1, h2 with | [], [_, _], _, _ => rfl) (sk_cons (ev 9) (sk_cons (ev 13) sk_nil)) rfl rfl (by decide) rfl) sl_nil rfl) (by decide) (by decide) rfl rfl) (se_cB (cv_repr hr.gd hr.hu) (by rfl) m_repr b_repr (sl_cons (se_cT cv_tuple (by rfl) m_tuple b_tuple (sl_cons (se_comp (own := [("_law_y", 14)]) rfl sc_law.nd (si_rng1 (by rfl) m_range (ev 4) rfl) (blkOk_by rfl) (fun _ _ _ _ _ => (sg_name (i := 14) sc_law.nd rfl (by first | exact Or.inl rfl | exact Or.inr rfl) (by first | exact Or.inl rfl | exact Or.inr rfl))) (by decide) (fun _ _ _ _ _ => (sbs_one (sb_cm (ov_in hr.hu) isB_in (ev 9) (callD o__law_above (hr.mono (by decide)) (by rfl) (fun _ _ _ _ _ _ us hl => match us, hl with | [_, _], _ => rfl) (sl_cons (ev 2) (sl_cons (ev 14) sl_nil rfl) rfl) (by decide) rfl rfl) rfl))) (fun _ _ _ _ _ => (ev 14)) (fun _ => rfl)) sl_nil rfl) (by decide) (by decide) rfl rfl) sl_nil rfl) (by decide) (by decide) rfl rfl) (nomark _)))))))))))))))
def lawN : Nat := 15
theorem k_law (hl : ∀ s : Dk, s.cells.length ≤ 64 → ∃ ρ' s', b_law (startL 15) s = some (.rt (.bl true), ρ', s')) (X : K.In h) (G : h.Ns mainGlobals mg) (sd : He.SaysD fa fn K) {fd : FuncData} (F : FunD K "law" "law" (defArgs s_law) (defBody s_law) (defScope s_law) [] [] (He.ga K "law") fd) : FnG P w K mg base 9 (He.ga K "law") fd ["_law_script"] (spLaw K) := by
  obtain ⟨fdD, FD, FG⟩ := k__law_deck (P := P) (w := w) (base := base) X G sd
  refine okGD F sc_law (fun vs H Q E h => ?_) fun cdv A outer s H vs Q E hr h => ⟨_, PSs.nox ?_, law_val (kc := "cells") (kd := "draws") (N := ["_law_house_here", "_law_joined", "_law_n", "_law_deep", "_law_low", "_law_high", "_law_single", "_law_x", "_law_p", "_law_within", "_law_made", "_law_over_here", "_law_y"]) hl h⟩
  · obtain ⟨a, ns, rfl, _⟩ := h
    rfl
  · exact pss_cons (ps_set (i := 1) sc_law.nd rfl (by first | exact Or.inl rfl | exact Or.inr rfl) (pe_callG FG (hr.mono (by decide)) (by rfl) (He.glo_ok X G (sd.fact 32 (f := .glo "_law_deck") rfl)) FD.kp (FD.bindsN fun _ _ _ _ _ _ us hl => match us, hl with | [_], _ => rfl) .nil (pa_cons (pv 0) pa_nil) (by decide) rfl rfl))
      (pss_ex fun i : Addr × Addr => body_law (T := i.1) (c := i.2) X G sd _ cdv A outer s H E hr)
end
abbrev hk : PySem.W.Hook := He.hookD 4 fa fn
def ob (s : PySem.W.SharedT) : He.AlD := He.obsDG 4 fa fn (HandSHeadRun.getT s)
theorem ob_eq (s : PySem.W.SharedT) : ob s = hk.obs s.abs := He.obsDG_eq (HandSHeadRun.getT_eq s)
theorem run (w : World) : HandSHeadRun.RunEq R qv hk ob 4000 loose w := by
  intro os
  kernel_rfl
theorem facts (hl : ∀ s : Dk, s.cells.length ≤ 64 → ∃ ρ' s', b_law (startL 15) s = some (.rt (.bl true), ρ', s')) {P : Program} {w : World} {K : PySem.W.Frag} {h : Heap} {mg : Str → Option Value} {f : Addr} (X : K.In h) (G : h.Ns mainGlobals mg) (hfa : mg ("law" : Str) = some (.ref f)) (sd : He.SaysD fa fn K) :
    ∃ fd : FuncData, (∀ (s : Shared) (v : Value), BindsTo s fd ⟨[v], []⟩ [("_law_script", v)]) ∧ ∀ base : Heap, K.In base → base.Ns mainGlobals mg → FnG P w K mg base 9 f fd ["_law_script"] (spLaw K) := by
  obtain ⟨fd, F⟩ := sd.def_ 49 (d := d_law) rfl
  have e := hfa.symm.trans (He.glo_ok X G (sd.fact 49 (f := .glo "law") rfl))
  cases e
  have b := FunD.bindsA (ps := ["_law_script"]) F fun _ _ _ _ _ _ us hl => match us, hl with | [_], _ => rfl
  exact ⟨fd, fun s v => b s [v] rfl, fun base _ _ => k_law hl X G sd F⟩
end Q
open PySem PySem.W PySem.Calls PyProof.Rows
theorem law_holds (hl : ∀ s : L3.Dk, s.cells.length ≤ 64 → ∃ ρ' s', Q.b_law (L3.startL 15) s = some (.rt (.bl true), ρ', s')) : PySem.Challenge.rw_bothandall_k10_least_greatest_depths_ste.Holds := by
  w_on; o_law
  refine HandSHeadRun.head_any (r := OpenLaw.row PySem.Challenge.rw_bothandall_k10_least_greatest_depths_ste) (q := Q.qv) (H := Q.hk) (ob := Q.ob) (M := 4000) (loose := Q.loose) (d := HandSHeadRun.topDef (OpenLaw.row PySem.Challenge.rw_bothandall_k10_least_greatest_depths_ste).prog 62) (kwd := []) Q.ob_eq
    (by kernel_rfl) (fun s => by kernel_rfl) Q.run (by kernel_rfl) (by kernel_rfl) (by kernel_rfl) (by rfl) (by first | assumption | decide +kernel) (by decide +kernel) ⟨rfl, rfl, rfl, rfl, rfl, by decide +kernel⟩ ?hw ?hc
  case hw => w_witness2
  case hc =>
    refine L3.walk_G (l := PySem.Challenge.rw_bothandall_k10_least_greatest_depths_ste) (n := 63) (k := 9) (x := "_law_script") rfl (by decide) (by kernel_rfl) (L3.roomG_caller ⟨rfl, by decide, by decide⟩) ?F
    intro w mg fa h Y G hmg0
    obtain ⟨K, KX, c⟩ := Y
    have hmg : mg ("law" : PySem.Str) = some (.ref fa) := by
      have e : (HandSHeadRun.topDef (OpenLaw.row PySem.Challenge.rw_bothandall_k10_least_greatest_depths_ste).prog 62).name = ("law" : PySem.Str) := by kernel_rfl
      rw [← e]
      exact hmg0
    obtain ⟨fd, hb, hF⟩ := Q.facts hl (P := (PySem.Challenge.rw_bothandall_k10_least_greatest_depths_ste).prog) (w := w) KX G hmg c
    exact ⟨K, fd, L3.spLaw K, KX, hb, fun H a ns hl _ hS => ⟨a, ns, rfl, hS, hl, fun _ => rfl⟩, hF⟩
end
section
set_option Elab.async false
set_option linter.all false
set_option maxRecDepth 100000
set_option autoImplicit false
set_option maxHeartbeats 2000000
namespace Q
/-! ### houses, as plain mathematics -/
structure House (n : Nat) (le : Nat → Nat → Bool) (mt jn : Nat → Nat → Nat) : Prop where
  pos : 1 ≤ n
  few : n ≤ 24
  refl : ∀ x, x < n → le x x = true
  anti : ∀ x y, x < n → y < n → le x y = true → le y x = true → x = y
  trans : ∀ x y z, x < n → y < n → z < n → le x y = true → le y z = true → le x z = true
  mtlt : ∀ x y, x < n → y < n → mt x y < n
  mt1 : ∀ x y, x < n → y < n → le (mt x y) x = true
  mt2 : ∀ x y, x < n → y < n → le (mt x y) y = true
  mtg : ∀ x y z, x < n → y < n → z < n → le z x = true → le z y = true → le z (mt x y) = true
  jnlt : ∀ x y, x < n → y < n → jn x y < n
  jn1 : ∀ x y, x < n → y < n → le x (jn x y) = true
  jn2 : ∀ x y, x < n → y < n → le y (jn x y) = true
  jnl : ∀ x y z, x < n → y < n → z < n → le x z = true → le y z = true → le (jn x y) z = true
def over (le : Nat → Nat → Bool) : Nat → Nat → Bool := fun x y => le y x
section
variable {n : Nat} {le : Nat → Nat → Bool} {mt jn : Nat → Nat → Nat}
theorem House.over (h : House n le mt jn) : House n (over le) jn mt :=
  ⟨h.pos, h.few, h.refl, fun x y hx hy a b => h.anti x y hx hy b a, fun x y z hx hy hz a b => h.trans z y x hz hy hx b a, h.jnlt, h.jn1, h.jn2, fun x y z hx hy hz a b => h.jnl x y z hx hy hz a b, h.mtlt, h.mt1, h.mt2, fun x y z hx hy hz a b => h.mtg x y z hx hy hz a b⟩
theorem House.mt_of (h : House n le mt jn) {x y z : Nat} (hx : x < n) (hy : y < n) (hz : z < n) (h1 : le z x = true) (h2 : le z y = true) (h3 : ∀ w, w < n → le w x = true → le w y = true → le w z = true) : mt x y = z :=
  h.anti _ _ (h.mtlt x y hx hy) hz (h3 _ (h.mtlt x y hx hy) (h.mt1 x y hx hy) (h.mt2 x y hx hy)) (h.mtg x y z hx hy hz h1 h2)
theorem House.mt_comm (h : House n le mt jn) {x y : Nat} (hx : x < n) (hy : y < n) : mt x y = mt y x :=
  h.mt_of hx hy (h.mtlt y x hy hx) (h.mt2 y x hy hx) (h.mt1 y x hy hx) fun w hw a b => h.mtg y x w hy hx hw b a
theorem House.mt_self (h : House n le mt jn) {x : Nat} (hx : x < n) : mt x x = x := h.mt_of hx hx hx (h.refl x hx) (h.refl x hx) fun w hw a _ => a
theorem House.mt_assoc (h : House n le mt jn) {x y z : Nat} (hx : x < n) (hy : y < n) (hz : z < n) : mt (mt x y) z = mt x (mt y z) := by
  have hxy := h.mtlt x y hx hy
  have hyz := h.mtlt y z hy hz
  have hr := h.mtlt x _ hx hyz
  refine h.mt_of hxy hz hr ?_ ?_ fun w hw a b => ?_
  · exact h.mtg x y _ hx hy hr (h.mt1 x _ hx hyz) (h.trans _ _ _ hr hyz hy (h.mt2 x _ hx hyz) (h.mt1 y z hy hz))
  · exact h.trans _ _ _ hr hyz hz (h.mt2 x _ hx hyz) (h.mt2 y z hy hz)
  · exact h.mtg x _ w hx hyz hw (h.trans w _ x hw hxy hx a (h.mt1 x y hx hy)) (h.mtg y z w hy hz hw (h.trans w _ y hw hxy hy a (h.mt2 x y hx hy)) b)
theorem House.mt_jn (h : House n le mt jn) {x y : Nat} (hx : x < n) (hy : y < n) : mt x (jn x y) = x :=
  h.mt_of hx (h.jnlt x y hx hy) hx (h.refl x hx) (h.jn1 x y hx hy) fun w hw a _ => a
theorem House.le_mt (h : House n le mt jn) {x y : Nat} (hx : x < n) (hy : y < n) : le x y = true ↔ mt x y = x :=
  ⟨fun a => h.mt_of hx hy hx (h.refl x hx) a fun w hw b _ => b, fun e => by
    have := h.mt2 x y hx hy
    rwa [e] at this⟩
theorem House.le_jn (h : House n le mt jn) {x y : Nat} (hx : x < n) (hy : y < n) : le x y = true ↔ jn x y = y := by
  have h' := h.over.le_mt hy hx
  rw [h.over.mt_comm hy hx] at h'
  exact h'
theorem House.jn_mt (h : House n le mt jn) {x y : Nat} (hx : x < n) (hy : y < n) : jn x (mt x y) = x := h.over.mt_jn hx hy
end
/-! ### families of masks -/
structure Fam (ms : List Nat) (most bd : Nat) : Prop where
  ne : ms ≠ []
  nd : ms.Nodup
  few : ms.length ≤ most
  cl : ∀ a ∈ ms, ∀ b ∈ ms, a &&& b ∈ ms
  top : ∃ t ∈ ms, ∀ a ∈ ms, a &&& t = a
  bd : ∀ a ∈ ms, a < bd
theorem Fam.mono {ms : List Nat} {a b c d : Nat} (h : Fam ms a b) (h1 : a ≤ c) (h2 : b ≤ d) : Fam ms c d := ⟨h.ne, h.nd, Nat.le_trans h.few h1, h.cl, h.top, fun x hx => Nat.lt_of_lt_of_le (h.bd x hx) h2⟩
theorem Fam.perm {ms ns : List Nat} {a b : Nat} (h : Fam ms a b) (p : ns.Perm ms) : Fam ns a b := by
  refine ⟨fun e => h.ne ?_, p.nodup_iff.mpr h.nd, by rw [p.length_eq]; exact h.few, fun x hx y hy => p.mem_iff.mpr (h.cl x (p.mem_iff.mp hx) y (p.mem_iff.mp hy)), ?_, fun x hx => h.bd x (p.mem_iff.mp hx)⟩
  · subst e
    exact List.nil_perm.mp p
  · obtain ⟨t, ht, hh⟩ := h.top
    exact ⟨t, p.mem_iff.mpr ht, fun x hx => hh x (p.mem_iff.mp hx)⟩
def mkM (ms : List Nat) (i : Nat) : Nat := ms.getD i 0
def leM (ms : List Nat) (x y : Nat) : Bool := mkM ms x &&& mkM ms y == mkM ms x
theorem mk_get {ms : List Nat} {i : Nat} (h : i < ms.length) : ms[i]? = some (mkM ms i) := by
  unfold mkM
  rw [List.getD_eq_getElem?_getD, List.getElem?_eq_getElem h]
  rfl
theorem mk_mem {ms : List Nat} {i : Nat} (h : i < ms.length) : mkM ms i ∈ ms := List.mem_of_getElem? (mk_get h)
theorem mk_at {ms : List Nat} {a : Nat} (h : a ∈ ms) : ms.idxOf a < ms.length ∧ mkM ms (ms.idxOf a) = a := by
  have hl := List.idxOf_lt_length_iff.mpr h
  refine ⟨hl, ?_⟩
  have h1 := mk_get hl
  rw [List.getElem?_eq_getElem hl, List.getElem_idxOf] at h1
  injection h1 with h1
  exact h1.symm
theorem mk_inj {ms : List Nat} (nd : ms.Nodup) {i j : Nat} (hi : i < ms.length) (hj : j < ms.length) (h : mkM ms i = mkM ms j) : i = j := by
  have h1 := mk_get hi
  have h2 := mk_get hj
  rw [← h, ← h1] at h2
  exact (List.getElem?_inj hj nd).mp h2 |>.symm
/-- what all of some masks have in common, and t -/
def meetL (t : Nat) (l : List Nat) : Nat := l.foldl (· &&& ·) t
theorem meetL_in {ms : List Nat} (cl : ∀ a ∈ ms, ∀ b ∈ ms, a &&& b ∈ ms) : ∀ (l : List Nat) (t : Nat), t ∈ ms → (∀ a ∈ l, a ∈ ms) → meetL t l ∈ ms
  | [], _, ht, _ => ht
  | a :: l, t, ht, h => meetL_in cl l (t &&& a) (cl t ht a (h a List.mem_cons_self)) fun b hb => h b (List.mem_cons_of_mem _ hb)
theorem sub_trans {a b c : Nat} (h1 : a &&& b = a) (h2 : b &&& c = b) : a &&& c = a := by
  rw [← h1, Nat.and_assoc, h2]
theorem meetL_lb {x : Nat} : ∀ (l : List Nat) (t : Nat), x &&& t = x → (∀ a ∈ l, x &&& a = x) → x &&& meetL t l = x
  | [], _, ht, _ => ht
  | a :: l, t, ht, h => meetL_lb l (t &&& a) (by rw [← Nat.and_assoc, ht]; exact h a List.mem_cons_self) fun b hb => h b (List.mem_cons_of_mem _ hb)
theorem meetL_t : ∀ (l : List Nat) (t : Nat), meetL t l &&& t = meetL t l
  | [], t => Nat.and_self t
  | a :: l, t => sub_trans (meetL_t l (t &&& a)) (by rw [Nat.and_comm t a, Nat.and_assoc, Nat.and_self])
theorem meetL_le : ∀ (l : List Nat) (t a : Nat), a ∈ l → meetL t l &&& a = meetL t l
  | b :: l, t, a, h => by
    rcases List.mem_cons.mp h with rfl | h
    · exact sub_trans (meetL_t l (t &&& a)) (by rw [Nat.and_assoc, Nat.and_self])
    · exact meetL_le l (t &&& b) a h
theorem Fam.house {ms : List Nat} {bd : Nat} (h : Fam ms 24 bd) : ∃ mt jn, House ms.length (leM ms) mt jn := by
  obtain ⟨t, ht, htop⟩ := h.top
  have le_iff : ∀ {x y : Nat}, leM ms x y = true ↔ mkM ms x &&& mkM ms y = mkM ms x := fun {x y} => by
    unfold leM
    exact beq_iff_eq
  have ml : ∀ {x y : Nat}, x < ms.length → y < ms.length → mkM ms x &&& mkM ms y ∈ ms := fun hx hy => h.cl _ (mk_mem hx) _ (mk_mem hy)
  let up : Nat → Nat → List Nat := fun x y => ms.filter fun c => (mkM ms x &&& c == mkM ms x) && (mkM ms y &&& c == mkM ms y)
  have upm : ∀ {x y c : Nat}, c ∈ up x y ↔ c ∈ ms ∧ mkM ms x &&& c = mkM ms x ∧ mkM ms y &&& c = mkM ms y := fun {x y c} => by
    simp only [up, List.mem_filter, Bool.and_eq_true, beq_iff_eq]
  have jl : ∀ {x y : Nat}, x < ms.length → y < ms.length → meetL t (up x y) ∈ ms := fun hx hy => meetL_in h.cl _ _ ht fun a ha => (upm.mp ha).1
  refine ⟨fun x y => ms.idxOf (mkM ms x &&& mkM ms y), fun x y => ms.idxOf (meetL t (up x y)), ?_, h.few, fun x hx => ?_, fun x y hx hy a b => ?_, fun x y z hx hy hz a b => ?_, fun x y hx hy => (mk_at (ml hx hy)).1, fun x y hx hy => ?_, fun x y hx hy => ?_, fun x y z hx hy hz a b => ?_, fun x y hx hy => (mk_at (jl hx hy)).1, fun x y hx hy => ?_, fun x y hx hy => ?_, fun x y z hx hy hz a b => ?_⟩
  · cases e : ms with
    | nil => exact absurd e h.ne
    | cons a l => simp
  · exact le_iff.mpr (Nat.and_self _)
  · refine mk_inj h.nd hx hy ?_
    rw [← le_iff.mp a, Nat.and_comm]
    exact le_iff.mp b
  · exact le_iff.mpr (sub_trans (le_iff.mp a) (le_iff.mp b))
  · refine le_iff.mpr ?_
    rw [(mk_at (ml hx hy)).2, Nat.and_comm (mkM ms x) (mkM ms y), Nat.and_assoc, Nat.and_self]
  · refine le_iff.mpr ?_
    rw [(mk_at (ml hx hy)).2, Nat.and_assoc, Nat.and_self]
  · refine le_iff.mpr ?_
    rw [(mk_at (ml hx hy)).2, ← Nat.and_assoc, le_iff.mp a]
    exact le_iff.mp b
  · refine le_iff.mpr ?_
    rw [(mk_at (jl hx hy)).2]
    exact meetL_lb _ _ (htop _ (mk_mem hx)) fun c hc => (upm.mp hc).2.1
  · refine le_iff.mpr ?_
    rw [(mk_at (jl hx hy)).2]
    exact meetL_lb _ _ (htop _ (mk_mem hy)) fun c hc => (upm.mp hc).2.2
  · refine le_iff.mpr ?_
    rw [(mk_at (jl hx hy)).2]
    exact meetL_le _ _ _ (upm.mpr ⟨mk_mem hz, le_iff.mp a, le_iff.mp b⟩)
/-! ### families that are made -/
def famB (ms : List Nat) (most bd : Nat) : Bool := !ms.isEmpty && decide ms.Nodup && decide (ms.length ≤ most) && (ms.all fun a => ms.all fun b => ms.contains (a &&& b)) && (ms.any fun t => ms.all fun a => a &&& t == a) && ms.all fun a => decide (a < bd)
theorem fam_of {ms : List Nat} {most bd : Nat} (h : famB ms most bd = true) : Fam ms most bd := by
  unfold famB at h
  simp only [Bool.and_eq_true, decide_eq_true_eq, List.all_eq_true, List.any_eq_true, beq_iff_eq, List.contains_iff_mem] at h
  obtain ⟨⟨⟨⟨⟨h1, h2⟩, h3⟩, h4⟩, h5⟩, h6⟩ := h
  refine ⟨fun e => ?_, h2, h3, h4, h5, h6⟩
  subst e
  simp at h1
/-- a family, and what a mask has in common with each of it -/
def metS (ms : List Nat) (k : Nat) : List Nat := ms.foldl (fun z o => if o &&& k ∈ z then z else z ++ [o &&& k]) ms
theorem metF (k : Nat) : ∀ (os z : List Nat), z.Nodup → (os.foldl (fun z o => if o &&& k ∈ z then z else z ++ [o &&& k]) z).Nodup ∧ ∀ a, a ∈ os.foldl (fun z o => if o &&& k ∈ z then z else z ++ [o &&& k]) z ↔ a ∈ z ∨ ∃ o ∈ os, a = o &&& k
  | [], z, h => ⟨h, fun a => by simp⟩
  | o :: os, z, h => by
    rw [List.foldl_cons]
    by_cases hin : o &&& k ∈ z
    · rw [if_pos hin]
      obtain ⟨h1, h2⟩ := metF k os z h
      refine ⟨h1, fun a => (h2 a).trans ?_⟩
      constructor
      · rintro (q | ⟨p, hp, e⟩)
        · exact .inl q
        · exact .inr ⟨p, List.mem_cons_of_mem _ hp, e⟩
      · rintro (q | ⟨p, hp, e⟩)
        · exact .inl q
        · rcases List.mem_cons.mp hp with rfl | hp
          · exact .inl (by rw [e]; exact hin)
          · exact .inr ⟨p, hp, e⟩
    · rw [if_neg hin]
      obtain ⟨h1, h2⟩ := metF k os (z ++ [o &&& k]) (by
        rw [List.nodup_append]
        exact ⟨h, by simp, fun a ha b hb e => by simp at hb; subst hb; subst e; exact hin ha⟩)
      refine ⟨h1, fun a => (h2 a).trans ?_⟩
      constructor
      · rintro (q | ⟨p, hp, e⟩)
        · rcases List.mem_append.mp q with q | q
          · exact .inl q
          · simp at q
            exact .inr ⟨o, List.mem_cons_self, q⟩
        · exact .inr ⟨p, List.mem_cons_of_mem _ hp, e⟩
      · rintro (q | ⟨p, hp, e⟩)
        · exact .inl (List.mem_append_left _ q)
        · rcases List.mem_cons.mp hp with rfl | hp
          · exact .inl (List.mem_append_right _ (by simp [e]))
          · exact .inr ⟨p, hp, e⟩
theorem Fam.met {ms : List Nat} {most bd : Nat} (h : Fam ms most bd) (k : Nat) (hl : (metS ms k).length ≤ most) : Fam (metS ms k) most bd := by
  obtain ⟨nd, mem⟩ := metF k ms ms h.nd
  have mem : ∀ a, a ∈ metS ms k ↔ a ∈ ms ∨ ∃ o ∈ ms, a = o &&& k := mem
  have cm : ∀ a b c d : Nat, (a &&& b) &&& (c &&& d) = (a &&& c) &&& (b &&& d) := fun a b c d => by
    rw [Nat.and_assoc, ← Nat.and_assoc b c d, Nat.and_comm b c, Nat.and_assoc c b d, ← Nat.and_assoc]
  refine ⟨fun e => ?_, nd, hl, fun a ha b hb => ?_, ?_, fun a ha => ?_⟩
  · obtain ⟨t, ht, _⟩ := h.top
    have := (mem t).mpr (.inl ht)
    rw [e] at this
    cases this
  · rcases (mem a).mp ha with ha | ⟨p, hp, rfl⟩
    · rcases (mem b).mp hb with hb | ⟨q, hq, rfl⟩
      · exact (mem _).mpr (.inl (h.cl a ha b hb))
      · exact (mem _).mpr (.inr ⟨a &&& q, h.cl a ha q hq, by rw [Nat.and_assoc]⟩)
    · rcases (mem b).mp hb with hb | ⟨q, hq, rfl⟩
      · exact (mem _).mpr (.inr ⟨p &&& b, h.cl p hp b hb, by rw [Nat.and_assoc, Nat.and_comm k b, Nat.and_assoc]⟩)
      · exact (mem _).mpr (.inr ⟨p &&& q, h.cl p hp q hq, by rw [cm, Nat.and_self]⟩)
  · obtain ⟨t, ht, htop⟩ := h.top
    refine ⟨t, (mem t).mpr (.inl ht), fun a ha => ?_⟩
    rcases (mem a).mp ha with ha | ⟨p, hp, rfl⟩
    · exact htop a ha
    · rw [Nat.and_assoc, Nat.and_comm k t, ← Nat.and_assoc, htop p hp]
  · rcases (mem a).mp ha with ha | ⟨p, hp, rfl⟩
    · exact h.bd a ha
    · exact Nat.lt_of_le_of_lt Nat.and_le_left (h.bd p hp)
theorem and_pack {x y x' y' : Nat} (hx : x < 512) (hx' : x' < 512) : (x + y * 512) &&& (x' + y' * 512) = (x &&& x') + (y &&& y') * 512 := by
  have e : ∀ a b : Nat, a + b * 512 = 2 ^ 9 * b + a := fun a b => by rw [show (2 : Nat) ^ 9 = 512 by decide]; omega
  have hx : x < 2 ^ 9 := hx
  have hx' : x' < 2 ^ 9 := hx'
  rw [e, e, e]
  refine Nat.eq_of_testBit_eq fun i => ?_
  rw [Nat.testBit_and, Nat.testBit_two_pow_mul_add _ hx, Nat.testBit_two_pow_mul_add _ hx', Nat.testBit_two_pow_mul_add _ (Nat.and_lt_two_pow _ hx')]
  by_cases h : i < 9
  · simp [h, Nat.testBit_and]
  · simp [h, Nat.testBit_and]
theorem Fam.prod {one other : List Nat} {a b : Nat} (h1 : Fam one a 512) (h2 : Fam other b 512) : Fam (one.flatMap fun x => other.map fun y => x + y * 512) (one.length * b) 262144 := by
  have mem : ∀ c, c ∈ (one.flatMap fun x => other.map fun y => x + y * 512) ↔ ∃ x ∈ one, ∃ y ∈ other, x + y * 512 = c := fun c => by
    simp only [List.mem_flatMap, List.mem_map]
  obtain ⟨t, ht, htop⟩ := h1.top
  obtain ⟨u, hu, hutop⟩ := h2.top
  refine ⟨fun e => ?_, ?_, ?_, fun c hc d hd => ?_, ⟨t + u * 512, (mem _).mpr ⟨t, ht, u, hu, rfl⟩, fun c hc => ?_⟩, fun c hc => ?_⟩
  · have := (mem _).mpr ⟨t, ht, u, hu, rfl⟩
    rw [e] at this
    cases this
  · unfold List.Nodup
    rw [List.pairwise_flatMap]
    refine ⟨fun x hx => List.pairwise_map.mpr (h2.nd.imp fun {p q} hne e => hne (by omega)), h1.nd.imp_of_mem fun {p q} hp hq hne c hc d hd e => ?_⟩
    obtain ⟨y, hy, rfl⟩ := List.mem_map.mp hc
    obtain ⟨z, hz, rfl⟩ := List.mem_map.mp hd
    have := h1.bd p hp
    have := h1.bd q hq
    exact hne (by omega)
  · have : ∀ l : List Nat, (l.flatMap fun x => other.map fun y => x + y * 512).length = l.length * other.length := fun l => by
      induction l with
      | nil => simp
      | cons x l ih => rw [List.flatMap_cons, List.length_append, ih, List.length_map, List.length_cons, Nat.succ_mul]; omega
    rw [this]
    exact Nat.mul_le_mul_left _ h2.few
  · obtain ⟨x, hx, y, hy, rfl⟩ := (mem c).mp hc
    obtain ⟨x', hx', y', hy', rfl⟩ := (mem d).mp hd
    rw [and_pack (h1.bd x hx) (h1.bd x' hx')]
    exact (mem _).mpr ⟨_, h1.cl x hx x' hx', _, h2.cl y hy y' hy', rfl⟩
  · obtain ⟨x, hx, y, hy, rfl⟩ := (mem c).mp hc
    rw [and_pack (h1.bd x hx) (h1.bd t ht), htop x hx, hutop y hy]
  · obtain ⟨x, hx, y, hy, rfl⟩ := (mem c).mp hc
    have := h1.bd x hx
    have := h2.bd y hy
    omega
theorem and_511 {x : Nat} (h : x < 512) : x &&& 511 = x := by
  have := Nat.and_two_pow_sub_one_eq_mod x 9
  rw [show (2 : Nat) ^ 9 - 1 = 511 by decide, show (2 : Nat) ^ 9 = 512 by decide, Nat.mod_eq_of_lt h] at this
  exact this
theorem Fam.stack {one other : List Nat} {a b : Nat} (h1 : Fam one a 511) (h2 : Fam other b 512) : Fam (one ++ other.map fun y => 511 + y * 512) (one.length + b) 262144 := by
  obtain ⟨u, hu, hutop⟩ := h2.top
  have lo : ∀ {x y : Nat}, x < 511 → x &&& (511 + y * 512) = x := fun {x y} hx => by
    have := and_pack (x := x) (y := 0) (x' := 511) (y' := y) (by omega) (by omega)
    rw [Nat.zero_mul, Nat.add_zero, Nat.zero_and, Nat.zero_mul, Nat.add_zero, and_511 (by omega)] at this
    exact this
  have hi : ∀ {y z : Nat}, (511 + y * 512) &&& (511 + z * 512) = 511 + (y &&& z) * 512 := fun {y z} => by
    have := and_pack (x := 511) (y := y) (x' := 511) (y' := z) (by omega) (by omega)
    rwa [Nat.and_self] at this
  refine ⟨fun e => h1.ne (List.append_eq_nil_iff.mp e).1, ?_, ?_, fun c hc d hd => ?_, ⟨511 + u * 512, List.mem_append_right _ (List.mem_map.mpr ⟨u, hu, rfl⟩), fun c hc => ?_⟩, fun c hc => ?_⟩
  · rw [List.nodup_append]
    refine ⟨h1.nd, List.pairwise_map.mpr (h2.nd.imp fun {p q} hne e => hne (by omega)), fun x hx c hc e => ?_⟩
    obtain ⟨y, hy, rfl⟩ := List.mem_map.mp hc
    have := h1.bd x hx
    omega
  · rw [List.length_append, List.length_map]
    have := h2.few
    omega
  · rcases List.mem_append.mp hc with hc | hc
    · rcases List.mem_append.mp hd with hd | hd
      · exact List.mem_append_left _ (h1.cl c hc d hd)
      · obtain ⟨y, hy, rfl⟩ := List.mem_map.mp hd
        rw [lo (h1.bd c hc)]
        exact List.mem_append_left _ hc
    · obtain ⟨y, hy, rfl⟩ := List.mem_map.mp hc
      rcases List.mem_append.mp hd with hd | hd
      · rw [Nat.and_comm, lo (h1.bd d hd)]
        exact List.mem_append_left _ hd
      · obtain ⟨z, hz, rfl⟩ := List.mem_map.mp hd
        rw [hi]
        exact List.mem_append_right _ (List.mem_map.mpr ⟨_, h2.cl y hy z hz, rfl⟩)
  · rcases List.mem_append.mp hc with hc | hc
    · exact lo (h1.bd c hc)
    · obtain ⟨y, hy, rfl⟩ := List.mem_map.mp hc
      rw [hi, hutop y hy]
  · rcases List.mem_append.mp hc with hc | hc
    · have := h1.bd c hc
      omega
    · obtain ⟨y, hy, rfl⟩ := List.mem_map.mp hc
      have := h2.bd y hy
      omega
end Q
end
section
set_option Elab.async false
set_option linter.all false
set_option maxRecDepth 100000
set_option autoImplicit false
set_option maxHeartbeats 2000000
namespace Q
open PySem PySem.Spec PyProof.Rows L2 L3
theorem thaw_any {b : Sl} (hb : ∀ t ds, b ≠ .ownD t ds) (x : Sl) (y z : En) : L3.thaw (x :: y) (b :: z) = b :: L3.thaw y z := by
  cases b with
  | ownD t ds => exact absurd rfl (hb t ds)
  | val d => simp
  | non => simp
theorem freeze_any {b : Sl} (hb : ∀ t ds, b ≠ .ownD t ds) (z : En) : L3.freeze (b :: z) = b :: L3.freeze z := by
  cases b with
  | ownD t ds => exact absurd rfl (hb t ds)
  | val d => simp
  | non => simp
theorem nv (d : D) : ∀ t ds, Sl.val d ≠ .ownD t ds := fun _ _ h => by cases h
theorem nn : ∀ t ds, Sl.non ≠ .ownD t ds := fun _ _ h => by cases h
def Pl (x : Sl) : Prop := ∀ t ds, x ≠ .ownD t ds
theorem loop_idx {S α : Type} {tg : D → En → Option En} {b : Ss S} (c : α → D) (E : Nat → En → S → Prop) (xs : List α) (hs : ∀ i (hi : i < xs.length) ρ s, E i ρ s → ∃ ρ1 ρ2 s2, tg (c xs[i]) ρ = some ρ1 ∧ b ρ1 s = some (.nx, ρ2, s2) ∧ E (i + 1) ρ2 s2) :
    ∀ (k : Nat) (ρ : En) (s : S), k ≤ xs.length → E (xs.length - k) ρ s → ∃ ρ' s', loopF tg b ((xs.drop (xs.length - k)).map c) ρ s = some (.nx, ρ', s') ∧ E xs.length ρ' s'
  | 0, ρ, s, _, h => ⟨ρ, s, by simp [loopF], by simpa using h⟩
  | k + 1, ρ, s, hk, h => by
    have hi : xs.length - (k + 1) < xs.length := by omega
    obtain ⟨ρ1, ρ2, s2, h1, h2, h3⟩ := hs _ hi ρ s h
    rw [show xs.length - (k + 1) + 1 = xs.length - k by omega] at h3
    obtain ⟨ρ', s', h4, h5⟩ := loop_idx c E xs hs k ρ2 s2 (by omega) h3
    refine ⟨ρ', s', ?_, h5⟩
    rw [List.drop_eq_getElem_cons hi, List.map_cons]
    unfold loopF
    simp only [h1, h2]
    rw [show xs.length - (k + 1) + 1 = xs.length - k by omega]
    exact h4
theorem loop_ix {S α : Type} {tg : D → En → Option En} {b : Ss S} (c : α → D) (E : Nat → En → S → Prop) (xs : List α) (ρ : En) (s : S) (h0 : E 0 ρ s) (hs : ∀ i (hi : i < xs.length) ρ s, E i ρ s → ∃ ρ1 ρ2 s2, tg (c xs[i]) ρ = some ρ1 ∧ b ρ1 s = some (.nx, ρ2, s2) ∧ E (i + 1) ρ2 s2) :
    ∃ ρ' s', loopF tg b (xs.map c) ρ s = some (.nx, ρ', s') ∧ E xs.length ρ' s' := by
  have := loop_idx c E xs hs xs.length ρ s (Nat.le_refl _) (by simpa using h0)
  simpa using this
theorem defN_rt {n N : Nat} {body : Ss Dk} {ds : List D} {ρ ρ' : En} {s s' : Dk} {d : D} (h0 : ds.length = n) (h1 : startE N ds = ρ) (h : body ρ s = some (.rt d, ρ', s')) : defN n N body ds s = some (d, s') := by
  subst h1
  unfold defN defF
  rw [if_pos h0, h]
theorem v_is_integer (i : Int) (s : Dk) : g_is_integer [.int i] s = some (.bl true, s) := by
  simp [g_is_integer, b_is_integer]
theorem v_is_between (x a b : Int) (s : Dk) : g_is_between [.int x, .int a, .int b] s = some (.bl (decide (a ≤ x) && decide (x ≤ b)), s) := by
  by_cases h : a ≤ x
  · simp [g_is_between, b_is_between, v_is_integer, h]
  · simp [g_is_between, b_is_between, v_is_integer, h]
theorem all_true {α : Type} (xs : List α) (f : α → Bool) (h : ∀ x ∈ xs, f x = true) : allD [.lst (xs.map fun x => .bl (f x))] = some (.bl true) := by
  have : xs.map (fun x => D.bl (f x)) = (xs.map f).map .bl := by rw [List.map_map]; rfl
  rw [this, c_all]
  have : (xs.map f).all id = true := by
    rw [List.all_map]
    exact List.all_eq_true.mpr h
  rw [this]
theorem vq_are_between (ns : List Int) (a b : Int) (s : Dk) (hz : ns.length ≤ sizeLine) : q1_are_between [.val (tupI ns), .val (.int a), .val (.int b), .non] s = some (.lst (ns.map fun x => .bl (decide (a ≤ x) && decide (x ≤ b))), [.val (tupI ns), .val (.int a), .val (.int b), .non], s) := by
  unfold q1_are_between
  refine (comp_map ns .int (fun _ => true) (fun x => .bl (decide (a ≤ x) && decide (x ≤ b))) (ρ1 := [.val (tupI ns), .val (.int a), .val (.int b), .non]) (s1 := s) (by simp [tupI]) (by simp) hz (fun x hx => by simp [v_is_between])).trans (by simp)
theorem v_are_between (ns : List Int) (a b : Int) (s : Dk) (h : ∀ x ∈ ns, a ≤ x ∧ x ≤ b) (hz : ns.length ≤ sizeLine) : g_are_between [tupI ns, .int a, .int b] s = some (.bl true, s) := by
  have ha := all_true ns (fun x => decide (a ≤ x) && decide (x ≤ b)) (fun x hx => by simp [h x hx])
  have hi : isiD [tupI ns, .ty "tuple"] = some (.bl true) := rfl
  simp [g_are_between, b_are_between, vq_are_between ns a b s hz, ha, hi]
theorem okD_tupI' (ns : List Int) : okD 60 (tupI ns) = true := okD_tupI 59 ns
theorem okD_L (ns : List Int) : okD 60 (.lst (ns.map .int)) = true := by
  rw [okD_lst 59]
  exact okDs_ints 59 ns
theorem in_tupI (i : Int) (ns : List Int) : inD (.int i) (tupI ns) = some (.bl (decide (i ∈ ns))) := by
  show inD (.int i) (.tup (ns.map .int)) = _
  rw [o_inT, inB_ints, okD_int, show okD 60 (.tup (ns.map .int)) = true from okD_tupI' ns]
  simp
theorem nin_lst (i : Int) (ns : List Int) : ninD (.int i) (.lst (ns.map .int)) = some (.bl (!decide (i ∈ ns))) := by
  rw [o_ninL, inB_ints, okD_int, okD_L]
  simp
theorem in_lst (i : Int) (ns : List Int) : inD (.int i) (.lst (ns.map .int)) = some (.bl (decide (i ∈ ns))) := by
  rw [o_inL, inB_ints, okD_int, okD_L]
  simp
theorem bls {α : Type} (xs : List α) (f : α → Bool) : allD [.lst (xs.map fun x => .bl (f x))] = some (.bl (xs.all f)) := by
  have : xs.map (fun x => D.bl (f x)) = (xs.map f).map .bl := by rw [List.map_map]; rfl
  rw [this, c_all, List.all_map]
  rfl
theorem eq_nil (ns : List Int) : eqB (.lst (ns.map .int)) (.lst []) = ns.isEmpty := by
  cases ns with
  | nil => simp [eqB, toP, toPs, PyData.eqv, PyData.eqvAll]
  | cons n ns => simp [eqB, toP, toPs, PyData.eqv, PyData.eqvAll]
theorem once_id {α : Type} [DecidableEq α] : ∀ {xs : List α}, xs.Nodup → once xs = xs
  | [], _ => rfl
  | x :: xs, h => by
    rw [List.nodup_cons] at h
    unfold once
    rw [if_neg h.1, once_id h.2]
/-! ### texts -/
theorem text_le {B : Nat} : ∀ {ts : List Str}, (∀ t ∈ ts, t.length ≤ B) → piled ts ≤ (B + 2) * ts.length
  | [], _ => by simp [piled]
  | t :: ts, h => by
    have h1 := h t List.mem_cons_self
    have h2 := text_le (ts := ts) fun x hx => h x (List.mem_cons_of_mem _ hx)
    have e : piled (t :: ts) = t.length + 2 + piled ts := by simp [piled]
    rw [e, List.length_cons, Nat.mul_add]
    omega
theorem tupleText_le {B : Nat} {ts : List Str} (h : ∀ t ∈ ts, t.length ≤ B) : (tupleText ts).length ≤ (B + 2) * ts.length + 3 := by
  have h1 := text_le h
  unfold tupleText
  rw [strLen_append, strLen_append]
  have e1 : (("(" : String) : Str).length = 1 := rfl
  have e2 : ((if ts.length == 1 then ",)" else ")" : String) : Str).length ≤ 2 := by
    split
    · exact Nat.le_refl 2
    · exact Nat.le_succ 1
  by_cases hn : ts = []
  · subst hn
    have : (Str.join ", " []).length = 0 := rfl
    omega
  · have := join_length_add ts hn
    omega
theorem int_text : ∀ i : Fin 100, (PyData.shown (.int ((i.val : Nat) : Int))).length ≤ 2 := by decide +kernel
/-- small ints -/
def smalls (ns : List Int) : Prop := ∀ x ∈ ns, 0 ≤ x ∧ x < 100
theorem shownAll_map (ds : List PyData) : PyData.shownAll ds = ds.map PyData.shown := by
  induction ds with
  | nil => simp [PyData.shownAll]
  | cons d ds ih => simp [PyData.shownAll, ih]
theorem shown_ints {ns : List Int} (h : smalls ns) : (toP (tupI ns)).shown.length ≤ 4 * ns.length + 3 := by
  have e : (toP (tupI ns)).shown = tupleText ((ns.map fun i => PyData.shown (.int i))) := by
    simp only [tupI, toP, PyData.shown, shownAll_map, toPs_map, List.map_map]
    rfl
  rw [e]
  have := tupleText_le (B := 2) (ts := ns.map fun i => PyData.shown (.int i)) (fun t ht => by
    obtain ⟨i, hi, rfl⟩ := List.mem_map.mp ht
    have hx := h i hi
    have := int_text ⟨i.toNat, by omega⟩
    have e : ((i.toNat : Nat) : Int) = i := by omega
    simp only [e] at this
    exact this)
  rw [List.length_map] at this
  exact this
theorem show_int {i : Int} (h : 0 ≤ i ∧ i < 100) : (PyData.int i).showable = true := by
  simp only [PyData.showable, decide_eq_true_eq]
  have : i.natAbs.log2 ≤ i.natAbs := Nat.log2_le_self _
  omega
theorem show_all : ∀ {ds : List PyData}, (∀ d ∈ ds, d.showable = true) → PyData.showableAll ds = true
  | [], _ => by simp [PyData.showableAll]
  | d :: ds, h => by simp [PyData.showableAll, h d List.mem_cons_self, show_all fun x hx => h x (List.mem_cons_of_mem _ hx)]
theorem show_ints {ns : List Int} (h : smalls ns) : (toP (tupI ns)).showable = true := by
  simp only [tupI, toP, PyData.showable, toPs_map]
  refine show_all fun d hd => ?_
  rw [List.map_map] at hd
  obtain ⟨i, hi, rfl⟩ := List.mem_map.mp hd
  exact show_int (h i hi)
/-- a text of a tuple whose parts have short texts -/
theorem show_tup {ds : List D} (h : ∀ d ∈ ds, (toP d).showable = true) : (toP (.tup ds)).showable = true := by
  simp only [toP, PyData.showable, toPs_map]
  refine show_all fun d hd => ?_
  obtain ⟨x, hx, rfl⟩ := List.mem_map.mp hd
  exact h x hx
theorem shown_tup {B : Nat} {ds : List D} (h : ∀ d ∈ ds, (toP d).shown.length ≤ B) : (toP (.tup ds)).shown.length ≤ (B + 2) * ds.length + 3 := by
  have e : (toP (.tup ds)).shown = tupleText (ds.map fun d => (toP d).shown) := by
    simp only [toP, PyData.shown, shownAll_map, toPs_map, List.map_map]
    rfl
  rw [e]
  have := tupleText_le (B := B) (ts := ds.map fun d => (toP d).shown) (fun t ht => by
    obtain ⟨i, hi, rfl⟩ := List.mem_map.mp ht
    exact h i hi)
  rw [List.length_map] at this
  exact this
theorem repr_ok {d : D} (h1 : okD 60 d = true) (h2 : (toP d).showable = true) (h3 : (toP d).shown.length ≤ 1000000) : reprD [d] = some (.str (toP d).shown) := by
  have : (toP d).shown.length ≤ sizeLine := by rw [sizeL]; omega
  simp [reprD, h1, h2, this]
theorem tup2 (d : D) : 2 ≤ sizeLine := by rw [sizeL]; omega
theorem ne_nil (ns : List Int) : neD (.lst (ns.map .int)) (.lst []) = some (.bl (!ns.isEmpty)) := by
  rw [o_ne, eq_nil, okD_L, show okD 60 (.lst []) = true from okD_L []]
  rfl
theorem eqB_L (a b : List Int) : eqB (.lst (a.map .int)) (.lst (b.map .int)) = decide (a = b) := by
  have := eqv_ints a b
  simp only [eqB, toP, PyData.eqv]
  exact this
theorem ne_bl (a b : Bool) : neD (.bl a) (.bl b) = some (.bl (a != b)) := by cases a <;> cases b <;> rfl
end Q
end
section
set_option Elab.async false
set_option linter.all false
set_option maxRecDepth 100000
set_option autoImplicit false
set_option maxHeartbeats 2000000
namespace Q
open PySem PySem.Spec PyProof.Rows L2 L3
/-! ### tables as data -/
def b1 (b : Bool) : Int := if b then 1 else 0
def rowD (n : Nat) (p : Nat → Bool) : D := .tup ((List.range n).map fun y => .int (b1 (p y)))
def tabD (n : Nat) (le : Nat → Nat → Bool) : D := .tup ((List.range n).map fun x => rowD n (le x))
theorem b1_one (b : Bool) : eqD (.int (b1 b)) (.int 1) = some (.bl b) := by cases b <;> simp [b1]
theorem b1_zero (b : Bool) : eqD (.int (b1 b)) (.int 0) = some (.bl (!b)) := by cases b <;> simp [b1]
theorem atI_range {α : Type} (f : Nat → α) {n i : Nat} (h : i < n) : atI ((List.range n).map f) (i : Int) = some (f i) := atI_nat (by rw [List.getElem?_map, List.getElem?_range h]; rfl)
theorem ix_tab {n : Nat} (le : Nat → Nat → Bool) {x : Nat} (h : x < n) : ixD (tabD n le) (.int (x : Int)) = some (rowD n (le x)) := atI_range _ h
theorem ix_row {n : Nat} (p : Nat → Bool) {x : Nat} (h : x < n) : ixD (rowD n p) (.int (x : Int)) = some (.int (b1 (p x))) := atI_range (fun y => D.int (b1 (p y))) h
theorem len_tab (n : Nat) (le : Nat → Nat → Bool) : lenD [tabD n le] = some (.int n) := by simp [tabD]
theorem len_row (n : Nat) (p : Nat → Bool) : lenD [rowD n p] = some (.int n) := by simp [rowD]
theorem noLs_map {α : Type} (f : α → D) (hf : ∀ x, noL (f x) = true) : ∀ xs : List α, noLs (xs.map f) = true
  | [] => rfl
  | x :: xs => by simp [hf x, noLs_map f hf xs]
@[simp] theorem noL_row (n : Nat) (p : Nat → Bool) : noL (rowD n p) = true := by
  unfold rowD
  rw [show noL (.tup ((List.range n).map fun y => D.int (b1 (p y)))) = noLs ((List.range n).map fun y => D.int (b1 (p y))) from rfl]
  exact noLs_map _ (fun _ => rfl) _
@[simp] theorem noL_tab (n : Nat) (le : Nat → Nat → Bool) : noL (tabD n le) = true := by
  unfold tabD
  rw [show noL (.tup ((List.range n).map fun x => rowD n (le x))) = noLs ((List.range n).map fun x => rowD n (le x)) from rfl]
  exact noLs_map _ (fun _ => noL_row n _) _
/-! ### masks -/
def msk : Nat → (Nat → Bool) → Nat
  | 0, _ => 0
  | n + 1, p => 2 ^ n * (if p n then 1 else 0) + msk n p
theorem msk_succ (n : Nat) (p : Nat → Bool) : msk (n + 1) p = 2 ^ n * (if p n then 1 else 0) + msk n p := rfl
theorem msk_lt : ∀ (n : Nat) (p : Nat → Bool), msk n p < 2 ^ n
  | 0, _ => by simp [msk]
  | n + 1, p => by
    have := msk_lt n p
    unfold msk
    rw [Nat.pow_succ]
    split <;> omega
theorem msk_bit : ∀ (n : Nat) (p : Nat → Bool) (i : Nat), (msk n p).testBit i = (decide (i < n) && p i)
  | 0, _, i => by simp [msk]
  | n + 1, p, i => by
    unfold msk
    rw [Nat.testBit_two_pow_mul_add _ (msk_lt n p)]
    by_cases h : i < n
    · rw [if_pos h, msk_bit n p i]
      have : i < n + 1 := by omega
      simp [h, this]
    · rw [if_neg h]
      by_cases e : i = n
      · subst e
        cases hp : p i <;> simp [hp]
      · have h1 : ¬ i < n + 1 := by omega
        have h2 : i - n ≠ 0 := by omega
        obtain ⟨k, hk⟩ : ∃ k, i - n = k + 1 := ⟨i - n - 1, by omega⟩
        rw [hk]
        cases hp : p n <;> simp [h1, Nat.testBit_succ]
theorem msk_and {n : Nat} {p q r : Nat → Bool} (h : ∀ i, i < n → (p i && q i) = r i) : msk n p &&& msk n q = msk n r := by
  refine Nat.eq_of_testBit_eq fun i => ?_
  rw [Nat.testBit_and, msk_bit, msk_bit, msk_bit]
  by_cases hi : i < n
  · simp only [hi, decide_true, Bool.true_and]
    exact h i hi
  · simp [hi]
theorem msk_at {n : Nat} {p q : Nat → Bool} (h : msk n p = msk n q) {i : Nat} (hi : i < n) : p i = q i := by
  have h1 := msk_bit n p i
  have h2 := msk_bit n q i
  rw [h, h2] at h1
  simpa [hi] using h1.symm
theorem msk_sum (p : Nat → Bool) : ∀ n : Nat, ((((List.range n).filter p).map fun y : Nat => ((2 : Int) ^ y)).sum) = (msk n p : Nat)
  | 0 => rfl
  | n + 1 => by
    rw [List.range_succ, List.filter_append, List.map_append, List.sum_append, msk_sum p n, msk_succ]
    cases hp : p n
    · simp [hp]
    · simp only [List.filter_cons, hp, if_true, List.filter_nil, List.map_cons, List.map_nil, List.sum_cons, List.sum_nil, Nat.mul_one]
      push_cast
      omega
theorem band_nat (a b : Nat) : bandD (.int (a : Int)) (.int (b : Int)) = some (.int ((a &&& b : Nat) : Int)) := by
  show some (D.int (Builtin.bitAnd (a : Int) (b : Int))) = _
  have h : Builtin.bitAnd (a : Int) (b : Int) = ((a &&& b : Nat) : Int) := by
    unfold Builtin.bitAnd
    rw [decide_eq_true (show (0 : Int) ≤ (a : Int) by omega), decide_eq_true (show (0 : Int) ≤ (b : Int) by omega)]
    simp
  rw [h]
theorem band_not (a b : Nat) : bandD (.int (a : Int)) (.int (Builtin.bitNot (b : Int))) = some (.int ((a : Int) - ((a &&& b : Nat) : Int))) := by
  show some (D.int (Builtin.bitAnd (a : Int) (Builtin.bitNot (b : Int)))) = _
  have h : Builtin.bitAnd (a : Int) (Builtin.bitNot (b : Int)) = (a : Int) - ((a &&& b : Nat) : Int) := by
    unfold Builtin.bitAnd
    rw [decide_eq_true (show (0 : Int) ≤ (a : Int) by omega), decide_eq_false (show ¬ (0 : Int) ≤ Builtin.bitNot (b : Int) by unfold Builtin.bitNot; omega)]
    have : Builtin.bitNot (Builtin.bitNot (b : Int)) = (b : Int) := by unfold Builtin.bitNot; omega
    simp only [this, Int.toNat_natCast]
  rw [h]
theorem cpow {i j : Int} (h1 : i.natAbs < 1000000000) (h2 : 0 ≤ j ∧ j ≤ 1000) : CPow i j := by
  refine ⟨h2.1, by omega, ?_⟩
  have : (2 : Nat) ^ 64 = 18446744073709551616 := by decide
  omega
theorem shl_nat (a k : Nat) (h : a < 1000000000 ∧ k ≤ 1000) : shlD (.int (a : Int)) (.int (k : Int)) = some (.int ((a * 2 ^ k : Nat) : Int)) := by
  show (if CPow (a : Int) (k : Int) then some (D.int ((a : Int) * 2 ^ (k : Int).toNat)) else none) = _
  rw [if_pos (cpow (by omega) (by omega)), Int.toNat_natCast]
  push_cast
  rfl
theorem shr_nat (a k : Nat) : shrD (.int (a : Int)) (.int (k : Int)) = some (.int ((a / 2 ^ k : Nat) : Int)) := by
  show (if 0 ≤ (k : Int) then some (D.int ((a : Int) / 2 ^ (k : Int).toNat)) else none) = _
  rw [if_pos (by omega), Int.toNat_natCast]
  push_cast
  rfl
theorem sum_ints (ns : List Int) : sumD [.lst (ns.map .int)] = some (.int ns.sum) := by
  unfold sumD
  simp only [intsD_map]
  rfl
def natL (xs : List Nat) : D := .lst (xs.map fun x : Nat => .int (x : Int))
theorem v_mask_of (n : Nat) (p : Nat → Bool) (s : Dk) (hn : n ≤ 24) : g_mask_of [natL ((List.range n).filter p)] s = some (.int (msk n p : Nat), s) := by
  have hlen : ((List.range n).filter p).length ≤ n := by
    have := List.length_filter_le p (List.range n)
    rwa [List.length_range] at this
  have hq : q1_mask_of [.val (natL ((List.range n).filter p)), .non] s = some (.lst ((((List.range n).filter p).map fun y : Nat => ((2 : Int) ^ y)).map .int), [.val (natL ((List.range n).filter p)), .non], s) := by
    unfold q1_mask_of
    refine (comp_map ((List.range n).filter p) (fun x : Nat => .int (x : Int)) (fun _ => true) (fun y : Nat => .int ((2 : Int) ^ y)) (ρ1 := [.val (natL ((List.range n).filter p)), .non]) (s1 := s) (by simp [natL]) (by simp) (by rw [sizeL]; omega) (fun x hx => ?_)).trans (by simp)
    have hxn : x < n := List.mem_range.mp (List.mem_filter.mp hx).1
    have e := shl_nat 1 x ⟨by omega, by omega⟩
    have e : shlD (.int 1) (.int (x : Int)) = some (.int ((2 : Int) ^ x)) := by
      rw [show (1 : Int) = ((1 : Nat) : Int) from rfl, e]
      push_cast
      simp
    refine ⟨[.val (natL ((List.range n).filter p)), .val (.int (x : Int))], [.val (natL ((List.range n).filter p)), .val (.int (x : Int))], by simp, by simp, by simp, fun _ => ⟨[.val (natL ((List.range n).filter p)), .val (.int (x : Int))], ?_, by simp⟩⟩
    simp [e]
  have h2 := sum_ints (((List.range n).filter p).map fun y : Nat => ((2 : Int) ^ y))
  rw [msk_sum] at h2
  have key : b_mask_of [.val (natL ((List.range n).filter p)), .non] s = some (.rt (.int (msk n p : Nat)), [.val (natL ((List.range n).filter p)), .non], s) := by
    unfold b_mask_of
    rw [d_retF, d_mapF, d_consL, hq]
    simp only [d_nilL, h2]
  exact defN_rt rfl rfl key
theorem enum_range (f : Nat → D) (n : Nat) : enumD 0 ((List.range n).map f) = (List.range n).map fun y : Nat => .tup [.int (y : Int), f y] := by
  refine List.ext_getElem? fun i => ?_
  cases h : (enumD 0 ((List.range n).map f))[i]? with
  | none =>
    rw [List.getElem?_eq_none_iff, enumD_length, List.length_map, List.length_range] at h
    rw [List.getElem?_eq_none (by rw [List.length_map, List.length_range]; exact h)]
  | some d =>
    obtain ⟨e, h1, h2⟩ := enumD_get h
    rw [List.getElem?_map] at h1 ⊢
    have hi : i < n := by
      by_cases hi : i < n
      · exact hi
      · rw [List.getElem?_eq_none (by rw [List.length_range]; omega)] at h1
        cases h1
    rw [List.getElem?_range hi] at h1 ⊢
    cases h1
    rw [h2, Nat.zero_add]
    rfl
def upD (n : Nat) (le : Nat → Nat → Bool) : D := .lst ((List.range n).map fun x => .int (msk n (le x) : Nat))
theorem v_ups_of (n : Nat) (le : Nat → Nat → Bool) (s : Dk) (hn : n ≤ 24) : g_ups_of [tabD n le] s = some (upD n le, s) := by
  have hq : q2_ups_of [.val (tabD n le), .non, .non, .non] s = some (upD n le, [.val (tabD n le), .non, .non, .non], s) := by
    unfold q2_ups_of
    refine (comp_map (List.range n) (fun x => rowD n (le x)) (fun _ => true) (fun x => .int (msk n (le x) : Nat)) (ρ1 := [.val (tabD n le), .non, .non, .non]) (s1 := s) (by simp [tabD]) (by simp) (by rw [sizeL, List.length_range]; omega) (fun x hx => ?_)).trans (by simp [upD])
    have hq1 : q1_ups_of [.val (tabD n le), .val (rowD n (le x)), .non, .non] s = some (natL ((List.range n).filter (le x)), [.val (tabD n le), .val (rowD n (le x)), .non, .non], s) := by
      unfold q1_ups_of
      refine (comp_map (List.range n) (fun y : Nat => .tup [.int (y : Int), .int (b1 (le x y))]) (le x) (fun y : Nat => .int (y : Int)) (ρ1 := [.val (tabD n le), .val (rowD n (le x)), .non, .non]) (s1 := s) (by simp [rowD, seqD, enum_range]) (by simp) (by rw [sizeL, List.length_range]; omega) (fun y hy => ?_)).trans rfl
      refine ⟨[.val (tabD n le), .val (rowD n (le x)), .val (.int (y : Int)), .val (.int (b1 (le x y)))], [.val (tabD n le), .val (rowD n (le x)), .val (.int (y : Int)), .val (.int (b1 (le x y)))], by simp, by simp [-o_eq, b1_one], by simp, fun _ => ⟨[.val (tabD n le), .val (rowD n (le x)), .val (.int (y : Int)), .val (.int (b1 (le x y)))], by simp, by simp⟩⟩
    have e := v_mask_of n (le x) s hn
    refine ⟨[.val (tabD n le), .val (rowD n (le x)), .non, .non], [.val (tabD n le), .val (rowD n (le x)), .non, .non], by simp, by simp, by simp, fun _ => ⟨[.val (tabD n le), .val (rowD n (le x)), .non, .non], ?_, by simp⟩⟩
    rw [d_callF, d_consL, hq1]
    simp only [d_nilL, e]
  have key : b_ups_of [.val (tabD n le), .non, .non, .non] s = some (.rt (upD n le), [.val (tabD n le), .non, .non, .non], s) := by
    unfold b_ups_of
    rw [d_retF, hq]
  exact defN_rt rfl rfl key
theorem v_downs_of (n : Nat) (le : Nat → Nat → Bool) (s : Dk) (hn : n ≤ 24) : g_downs_of [tabD n le] s = some (upD n (over le), s) := by
  have hr := range_nat n (by omega)
  have hq : q2_downs_of [.val (tabD n le), .non, .non, .non] s = some (upD n (over le), [.val (tabD n le), .non, .non, .non], s) := by
    unfold q2_downs_of
    refine (comp_map (List.range n) (fun i : Nat => .int (0 + (i : Nat))) (fun _ => true) (fun x => .int (msk n (over le x) : Nat)) (ρ1 := [.val (tabD n le), .non, .non, .non]) (s1 := s) (by simp [len_tab, hr]) (by simp) (by rw [sizeL, List.length_range]; omega) (fun x hx => ?_)).trans (by simp [upD])
    have hx := List.mem_range.mp hx
    have hq1 : q1_downs_of [.val (tabD n le), .val (.int (x : Int)), .non, .non] s = some (natL ((List.range n).filter (over le x)), [.val (tabD n le), .val (.int (x : Int)), .non, .non], s) := by
      unfold q1_downs_of
      refine (comp_map (List.range n) (fun y : Nat => .tup [.int (y : Int), rowD n (le y)]) (over le x) (fun y : Nat => .int (y : Int)) (ρ1 := [.val (tabD n le), .val (.int (x : Int)), .non, .non]) (s1 := s) (by simp [tabD, seqD, enum_range]) (by simp) (by rw [sizeL, List.length_range]; omega) (fun y hy => ?_)).trans rfl
      have e := ix_row (le y) hx
      refine ⟨[.val (tabD n le), .val (.int (x : Int)), .val (.int (y : Int)), .val (rowD n (le y))], [.val (tabD n le), .val (.int (x : Int)), .val (.int (y : Int)), .val (rowD n (le y))], by simp, by simp [e, -o_eq, b1_one, over], by simp, fun _ => ⟨[.val (tabD n le), .val (.int (x : Int)), .val (.int (y : Int)), .val (rowD n (le y))], by simp, by simp⟩⟩
    have e := v_mask_of n (over le x) s hn
    refine ⟨[.val (tabD n le), .val (.int (x : Int)), .non, .non], [.val (tabD n le), .val (.int (x : Int)), .non, .non], by simp, by simp, by simp, fun _ => ⟨[.val (tabD n le), .val (.int (x : Int)), .non, .non], ?_, by simp⟩⟩
    rw [d_callF, d_consL, hq1]
    simp only [d_nilL, e]
  have key : b_downs_of [.val (tabD n le), .non, .non, .non] s = some (.rt (upD n (over le)), [.val (tabD n le), .non, .non, .non], s) := by
    unfold b_downs_of
    rw [d_retF, hq]
  exact defN_rt rfl rfl key
/-! ### the integers of a mask -/
theorem eq_int (a b : Int) : eqD (.int a) (.int b) = some (.bl (decide (a = b))) := by simp
theorem ne_int (a b : Int) : neD (.int a) (.int b) = some (.bl (!decide (a = b))) := by simp
theorem bits_small {m : Nat} (h : m < 2 ^ 24) : Builtin.Int.intBits (m : Int) ≤ 24 := by
  unfold Builtin.Int.intBits
  split
  · omega
  · rename_i h0
    have hm : m ≠ 0 := fun e => h0 (by simp [e])
    rw [Int.natAbs_natCast]
    have := (Nat.log2_lt hm).mpr h
    omega
theorem v_bits_of (n : Nat) (p : Nat → Bool) (s : Dk) (hn : n ≤ 24) : ∃ L : List Nat, g_bits_of [.int (msk n p : Nat)] s = some (natL L, s) ∧ L.length ≤ 24 ∧ ∀ i ∈ L, i < n ∧ p i = true := by
  have hm : msk n p < 2 ^ 24 := Nat.lt_of_lt_of_le (msk_lt n p) (Nat.pow_le_pow_right (by decide) hn)
  have hb := bits_small hm
  have hr := range_nat (Builtin.Int.intBits (msk n p : Nat)) (by omega)
  have hlen := List.length_filter_le (fun i => (msk n p).testBit i) (List.range (Builtin.Int.intBits (msk n p : Nat)))
  rw [List.length_range] at hlen
  refine ⟨(List.range (Builtin.Int.intBits (msk n p : Nat))).filter fun i => (msk n p).testBit i, ?_, by omega, fun i hi => ?_⟩
  · have hq : q1_bits_of [.val (.int (msk n p : Nat)), .non] s = some (natL ((List.range (Builtin.Int.intBits (msk n p : Nat))).filter fun i => (msk n p).testBit i), [.val (.int (msk n p : Nat)), .non], s) := by
      unfold q1_bits_of
      refine (comp_map (List.range (Builtin.Int.intBits (msk n p : Nat))) (fun i : Nat => .int (0 + (i : Nat))) (fun i => (msk n p).testBit i) (fun y : Nat => .int (y : Int)) (ρ1 := [.val (.int (msk n p : Nat)), .non]) (s1 := s) (by simp [hr]) (by simp) (by rw [sizeL, List.length_range]; omega) (fun x hx => ?_)).trans rfl
      have e1 := shr_nat (msk n p) x
      have e2 := band_nat (msk n p / 2 ^ x) 1
      have e3 : eqD (.int ((msk n p / 2 ^ x &&& 1 : Nat) : Int)) (.int 1) = some (.bl ((msk n p).testBit x)) := by
        rw [eq_int, Nat.testBit_eq_decide_div_mod_eq, Nat.and_one_is_mod]
        have : decide (((msk n p / 2 ^ x % 2 : Nat) : Int) = 1) = decide (msk n p / 2 ^ x % 2 = 1) := by
          rw [Bool.eq_iff_iff, decide_eq_true_eq, decide_eq_true_eq]
          omega
        rw [this]
      have e2 : bandD (.int ((msk n p / 2 ^ x : Nat) : Int)) (.int 1) = some (.int ((msk n p / 2 ^ x &&& 1 : Nat) : Int)) := e2
      refine ⟨[.val (.int (msk n p : Nat)), .val (.int (x : Int))], [.val (.int (msk n p : Nat)), .val (.int (x : Int))], by simp, ?_, by simp, fun _ => ⟨[.val (.int (msk n p : Nat)), .val (.int (x : Int))], by simp, by simp⟩⟩
      simp only [d_truF, d_binF, d_varF, d_cstF, List.getElem?_cons_succ, List.getElem?_cons_zero, e1, e2, e3, o_truB]
      simp
    have key : b_bits_of [.val (.int (msk n p : Nat)), .non] s = some (.rt (natL ((List.range (Builtin.Int.intBits (msk n p : Nat))).filter fun i => (msk n p).testBit i)), [.val (.int (msk n p : Nat)), .non], s) := by
      unfold b_bits_of
      rw [d_retF, hq]
    exact defN_rt rfl rfl key
  · have := (List.mem_filter.mp hi).2
    rw [msk_bit] at this
    simpa using this
end Q
end
section
set_option Elab.async false
set_option linter.all false
set_option maxRecDepth 100000
set_option autoImplicit false
set_option maxHeartbeats 2000000
namespace Q
open PySem PySem.Spec PyProof.Rows L2 L3
section
variable {n : Nat} {le : Nat → Nat → Bool} {mt jn : Nat → Nat → Nat}
theorem ix_up (le : Nat → Nat → Bool) {x : Nat} (h : x < n) : ixD (upD n le) (.int (x : Int)) = some (.int (msk n (le x) : Nat)) := atI_range (fun x => D.int (msk n (le x) : Nat)) h
@[simp] theorem noL_up (n : Nat) (le : Nat → Nat → Bool) : noL (upD n le) = false := rfl
theorem and_up (h : House n le mt jn) {x y : Nat} (hx : x < n) (hy : y < n) : msk n (le x) &&& msk n (le y) = msk n (le (jn x y)) := msk_and fun i hi => by
  have hj := h.jnlt x y hx hy
  rw [Bool.eq_iff_iff, Bool.and_eq_true]
  exact ⟨fun z => h.jnl x y i hx hy hi z.1 z.2, fun z => ⟨h.trans x _ i hx hj hi (h.jn1 x y hx hy) z, h.trans y _ i hy hj hi (h.jn2 x y hx hy) z⟩⟩
theorem up_inj (h : House n le mt jn) {x y : Nat} (hx : x < n) (hy : y < n) (e : msk n (le x) = msk n (le y)) : x = y := by
  have h1 := msk_at e hx
  have h2 := msk_at e hy
  rw [h.refl x hx] at h1
  rw [h.refl y hy] at h2
  exact h.anti x y hx hy h2 h1.symm
/-! ### no fault in the order -/
def EOr (n : Nat) (le : Nat → Nat → Bool) (x3 x4 : Sl) : En := [.val (tabD n le), .val (.int n), .val (upD n le), x3, x4]
theorem EOr_freeze {x3 x4 : Sl} (h3 : Pl x3) (h4 : Pl x4) : L3.freeze (EOr n le x3 x4) = EOr n le x3 x4 := by simp [EOr, freeze_any h3, freeze_any h4]
theorem lp1_of (h : House n le mt jn) (s : Dk) : ∃ x3 : Sl, lp1_order_fault (EOr n le .non .non) s = some (.nx, EOr n le x3 .non, s) ∧ Pl x3 := by
  have hr := range_nat n (by have := h.few; omega)
  obtain ⟨ρ', s', q1, rfl, y3, rfl, p3⟩ := loop_ix (S := Dk) (tg := putV 3) (b := bd1_order_fault) (fun i : Nat => .int (0 + (i : Nat))) (fun _ ρ s' => s' = s ∧ ∃ y3 : Sl, ρ = EOr n le y3 .non ∧ Pl y3) (List.range n) (EOr n le .non .non) s ⟨rfl, .non, rfl, nn⟩ (fun i hi ρ s' z => by
    obtain ⟨rfl, y3, rfl, p3⟩ := z
    have hi' : i < n := by simpa using hi
    have e1 := ix_tab le hi'
    have e2 := ix_row (le i) hi'
    have e3 := b1_zero (le i i)
    rw [h.refl i hi'] at e2 e3
    refine ⟨EOr n le (.val (.int (i : Int))) .non, EOr n le (.val (.int (i : Int))) .non, s', by simp [EOr], ?_, rfl, _, rfl, nv _⟩
    simp [bd1_order_fault, EOr, e1, e2, -o_eq, e3])
  refine ⟨y3, ?_, p3⟩
  unfold lp1_order_fault
  rw [d_forF]
  have : rangeL (consL (varF 1) nilL) (EOr n le .non .non) s' = some ((List.range n).map fun i : Nat => .int (0 + (i : Nat)), EOr n le .non .non, s') := by simp [EOr, hr]
  rw [this]
  exact q1
theorem lp2_of (h : House n le mt jn) {x : Nat} (hx : x < n) (x4 : Sl) (s : Dk) (p4 : Pl x4) : ∃ y4 : Sl, lp2_order_fault (EOr n le (.val (.int (x : Int))) x4) s = some (.nx, EOr n le (.val (.int (x : Int))) y4, s) ∧ Pl y4 := by
  have hn := h.few
  have hr : rangeD [.int ((x : Int) + 1), .int (n : Int)] = some ((List.range (n - (x + 1))).map fun i : Nat => .int (((x : Int) + 1) + (i : Nat))) := by
    rw [c_range2, if_pos (by omega), show ((n : Int) - ((x : Int) + 1)).toNat = n - (x + 1) by omega]
    rfl
  obtain ⟨ρ', s', q1, rfl, y4, rfl, q4⟩ := loop_ix (S := Dk) (tg := putV 4) (b := bd2_order_fault) (fun i : Nat => .int (((x : Int) + 1) + (i : Nat))) (fun _ ρ s' => s' = s ∧ ∃ y4 : Sl, ρ = EOr n le (.val (.int (x : Int))) y4 ∧ Pl y4) (List.range (n - (x + 1))) (EOr n le (.val (.int (x : Int))) x4) s ⟨rfl, x4, rfl, p4⟩ (fun i hi ρ s' z => by
    obtain ⟨rfl, y4, rfl, q4⟩ := z
    have hi' : i < n - (x + 1) := by simpa using hi
    have hy : x + 1 + i < n := by omega
    have ei : ((x : Int) + 1) + (i : Nat) = ((x + 1 + i : Nat) : Int) := by omega
    have e1 := ix_tab le hx
    have e2 := ix_row (le x) hy
    have e3 := ix_tab le hy
    have e4 := ix_row (le (x + 1 + i)) hx
    have e5 := b1_one (le x (x + 1 + i))
    have e6 := b1_one (le (x + 1 + i) x)
    refine ⟨EOr n le (.val (.int (x : Int))) (.val (.int ((x + 1 + i : Nat) : Int))), EOr n le (.val (.int (x : Int))) (.val (.int ((x + 1 + i : Nat) : Int))), s', ?_, ?_, rfl, _, rfl, nv _⟩
    · simp only [List.getElem_range, ei]
      simp [EOr]
    · cases c1 : le x (x + 1 + i) with
      | false =>
        rw [c1] at e2 e5
        simp only [bd2_order_fault, EOr, d_ifF, d_andB, d_truF, d_binF, d_varF, d_cstF, List.getElem?_cons_succ, List.getElem?_cons_zero, e1, e2, e5, o_truB, d_skipF]
        simp
      | true =>
        cases c2 : le (x + 1 + i) x with
        | true =>
          have := h.anti x (x + 1 + i) hx hy c1 c2
          omega
        | false =>
          rw [c1] at e2 e5
          rw [c2] at e4 e6
          simp only [bd2_order_fault, EOr, d_ifF, d_andB, d_truF, d_binF, d_varF, d_cstF, List.getElem?_cons_succ, List.getElem?_cons_zero, e1, e2, e5, o_truB]
          simp only [thaw_val, thaw_nil, thaw_non, List.getElem?_cons_succ, List.getElem?_cons_zero, e3, e4, e6, o_truB, d_skipF])
  refine ⟨y4, ?_, q4⟩
  unfold lp2_order_fault
  rw [d_forF]
  have : rangeL (consL (binF addD (varF 3) (cstF (.int 1))) (consL (varF 1) nilL)) (EOr n le (.val (.int (x : Int))) x4) s' = some ((List.range (n - (x + 1))).map fun i : Nat => .int (((x : Int) + 1) + (i : Nat)), EOr n le (.val (.int (x : Int))) x4, s') := by simp [EOr, hr]
  rw [this]
  simp only [EOr_freeze (nv _) p4]
  exact q1
theorem lp3_of (h : House n le mt jn) (x3 x4 : Sl) (s : Dk) (p3 : Pl x3) (p4 : Pl x4) : ∃ y3 y4 : Sl, lp3_order_fault (EOr n le x3 x4) s = some (.nx, EOr n le y3 y4, s) ∧ Pl y3 ∧ Pl y4 := by
  have hr := range_nat n (by have := h.few; omega)
  obtain ⟨ρ', s', q1, rfl, y3, y4, rfl, q3, q4⟩ := loop_ix (S := Dk) (tg := putV 3) (b := bd3_order_fault) (fun i : Nat => .int (0 + (i : Nat))) (fun _ ρ s' => s' = s ∧ ∃ y3 y4 : Sl, ρ = EOr n le y3 y4 ∧ Pl y3 ∧ Pl y4) (List.range n) (EOr n le x3 x4) s ⟨rfl, x3, x4, rfl, p3, p4⟩ (fun i hi ρ s' z => by
    obtain ⟨rfl, y3, y4, rfl, q3, q4⟩ := z
    have hi' : i < n := by simpa using hi
    obtain ⟨z4, e, r4⟩ := lp2_of h hi' y4 s' q4
    exact ⟨EOr n le (.val (.int (i : Int))) y4, EOr n le (.val (.int (i : Int))) z4, s', by simp [EOr], e, rfl, _, z4, rfl, nv _, r4⟩)
  refine ⟨y3, y4, ?_, q3, q4⟩
  unfold lp3_order_fault
  rw [d_forF]
  have : rangeL (consL (varF 1) nilL) (EOr n le x3 x4) s' = some ((List.range n).map fun i : Nat => .int (0 + (i : Nat)), EOr n le x3 x4, s') := by simp [EOr, hr]
  rw [this]
  simp only [EOr_freeze p3 p4]
  exact q1
theorem lp4_of (h : House n le mt jn) {x : Nat} (hx : x < n) (x4 : Sl) (s : Dk) (p4 : Pl x4) : ∃ y4 : Sl, lp4_order_fault (EOr n le (.val (.int (x : Int))) x4) s = some (.nx, EOr n le (.val (.int (x : Int))) y4, s) ∧ Pl y4 := by
  have hn := h.few
  obtain ⟨L, e0, hL, hm⟩ := v_bits_of n (le x) s hn
  have e1 := ix_up le hx
  obtain ⟨ρ', s', q1, rfl, y4, rfl, q4⟩ := loop_ix (S := Dk) (tg := putV 4) (b := bd4_order_fault) (fun i : Nat => .int (i : Int)) (fun _ ρ s' => s' = s ∧ ∃ y4 : Sl, ρ = EOr n le (.val (.int (x : Int))) y4 ∧ Pl y4) L (EOr n le (.val (.int (x : Int))) x4) s ⟨rfl, x4, rfl, p4⟩ (fun i hi ρ s' z => by
    obtain ⟨rfl, y4, rfl, q4⟩ := z
    obtain ⟨hy, hle⟩ := hm L[i] (List.getElem_mem hi)
    have e2 := ix_up le hy
    have e3 := band_not (msk n (le L[i])) (msk n (le x))
    rw [msk_and (r := le L[i]) fun j hj => by
      rw [Bool.eq_iff_iff, Bool.and_eq_true]
      exact ⟨fun z => z.1, fun z => ⟨z, h.trans x _ j hx hy hj hle z⟩⟩] at e3
    have e4 := ne_int ((msk n (le L[i]) : Int) - (msk n (le L[i]) : Int)) 0
    rw [show decide (((msk n (le L[i]) : Nat) : Int) - ((msk n (le L[i]) : Nat) : Int) = 0) = true by simp] at e4
    refine ⟨EOr n le (.val (.int (x : Int))) (.val (.int (L[i] : Int))), EOr n le (.val (.int (x : Int))) (.val (.int (L[i] : Int))), s', by simp [EOr], ?_, rfl, _, rfl, nv _⟩
    simp only [bd4_order_fault, EOr, d_ifF, d_truF, d_binF, d_invF, d_varF, d_cstF, List.getElem?_cons_succ, List.getElem?_cons_zero, e1, e2, e3, e4, Bool.not_true, o_truB, d_skipF]
    simp)
  refine ⟨y4, ?_, q4⟩
  unfold lp4_order_fault
  rw [d_forF]
  have : itemsF (callF g_bits_of (consL (binF ixD (varF 2) (varF 3)) nilL)) (EOr n le (.val (.int (x : Int))) x4) s' = some (L.map fun i : Nat => .int (i : Int), EOr n le (.val (.int (x : Int))) x4, s') := by
    simp only [d_itemsF, d_callF, d_consL, d_binF, d_varF, d_nilL, EOr, List.getElem?_cons_succ, List.getElem?_cons_zero, e1, e0, natL]
  rw [this]
  simp only [EOr_freeze (nv _) p4]
  exact q1
theorem lp5_of (h : House n le mt jn) (x3 x4 : Sl) (s : Dk) (p3 : Pl x3) (p4 : Pl x4) : ∃ y3 y4 : Sl, lp5_order_fault (EOr n le x3 x4) s = some (.nx, EOr n le y3 y4, s) ∧ Pl y3 ∧ Pl y4 := by
  have hr := range_nat n (by have := h.few; omega)
  obtain ⟨ρ', s', q1, rfl, y3, y4, rfl, q3, q4⟩ := loop_ix (S := Dk) (tg := putV 3) (b := bd5_order_fault) (fun i : Nat => .int (0 + (i : Nat))) (fun _ ρ s' => s' = s ∧ ∃ y3 y4 : Sl, ρ = EOr n le y3 y4 ∧ Pl y3 ∧ Pl y4) (List.range n) (EOr n le x3 x4) s ⟨rfl, x3, x4, rfl, p3, p4⟩ (fun i hi ρ s' z => by
    obtain ⟨rfl, y3, y4, rfl, q3, q4⟩ := z
    have hi' : i < n := by simpa using hi
    obtain ⟨z4, e, r4⟩ := lp4_of h hi' y4 s' q4
    exact ⟨EOr n le (.val (.int (i : Int))) y4, EOr n le (.val (.int (i : Int))) z4, s', by simp [EOr], e, rfl, _, z4, rfl, nv _, r4⟩)
  refine ⟨y3, y4, ?_, q3, q4⟩
  unfold lp5_order_fault
  rw [d_forF]
  have : rangeL (consL (varF 1) nilL) (EOr n le x3 x4) s' = some ((List.range n).map fun i : Nat => .int (0 + (i : Nat)), EOr n le x3 x4, s') := by simp [EOr, hr]
  rw [this]
  simp only [EOr_freeze p3 p4]
  exact q1
theorem v_order_fault (h : House n le mt jn) (s : Dk) : g_order_fault [tabD n le] s = some (.non, s) := by
  have e1 := v_ups_of n le s h.few
  have a1 : parF [1, 2] (consI false (mapF lenD (consL (varF 0) nilL)) (consI false (callF g_ups_of (consL (varF 0) nilL)) nilI)) [.val (tabD n le), .non, .non, .non, .non] s = some (.nx, EOr n le .non .non, s) := by
    simp [EOr, len_tab, e1]
  obtain ⟨y3, a2, p3⟩ := lp1_of h s
  obtain ⟨z3, z4, a3, r3, r4⟩ := lp3_of h y3 .non s p3 nn
  obtain ⟨w3, w4, a4, _, _⟩ := lp5_of h z3 z4 s r3 r4
  have key : b_order_fault [.val (tabD n le), .non, .non, .non, .non] s = some (.rt .non, EOr n le w3 w4, s) := by
    unfold b_order_fault
    rw [d_seqF, a1]; simp only
    rw [d_seqF, a2]; simp only
    rw [d_seqF, a3]; simp only
    rw [d_seqF, a4]
    simp
  exact defN_rt rfl rfl key
end
/-! ### dicts of masks -/
theorem getK_cons (k : Key) (v : D) (z : List (Key × D)) (k' : Key) : getK ((k, v) :: z) k' = if k = k' then some v else getK z k' := by
  by_cases e : k = k' <;> simp [getK, e]
theorem getK_map (k : Key) (d : D) (k' : Key) : ∀ z : List (Key × D), getK (z.map fun kv => if kv.1 = k then (kv.1, d) else kv) k' = if k = k' ∧ (z.any fun kv => decide (kv.1 = k)) = true then some d else getK z k'
  | [] => by simp [getK]
  | (k0, v) :: z => by
    rw [List.map_cons]
    by_cases e0 : k0 = k
    · subst e0
      simp only [if_true]
      rw [getK_cons, getK_cons, getK_map k0 d k' z]
      by_cases e1 : k0 = k'
      · simp [e1]
      · simp [e1]
    · simp only [e0, if_false]
      rw [getK_cons, getK_cons, getK_map k d k' z]
      by_cases e1 : k0 = k'
      · subst e1
        have : ¬ k = k0 := fun e => e0 e.symm
        simp [this]
      · simp only [List.any_cons, e0, decide_false, Bool.false_or, e1, if_false]
theorem getK_app (k : Key) (d : D) (k' : Key) : ∀ z : List (Key × D), (z.any fun kv => decide (kv.1 = k)) = false → getK (z ++ [(k, d)]) k' = if k = k' then some d else getK z k'
  | [], _ => by simp [getK_cons, getK]
  | (k0, v) :: z, h => by
    simp only [List.any_cons, Bool.or_eq_false_iff, decide_eq_false_iff_not] at h
    rw [List.cons_append, getK_cons, getK_cons, getK_app k d k' z h.2]
    by_cases e1 : k0 = k'
    · subst e1
      have : ¬ k = k0 := fun e => h.1 e.symm
      simp [this]
    · simp [e1]
theorem getK_set (z : List (Key × D)) (k : Key) (d : D) (k' : Key) : getK (setK z k d) k' = if k = k' then some d else getK z k' := by
  unfold setK
  by_cases h : (z.any fun kv => decide (kv.1 = k)) = true
  · rw [if_pos h, getK_map]
    simp [h]
  · have h' : (z.any fun kv => decide (kv.1 = k)) = false := Bool.eq_false_iff.mpr h
    rw [if_neg h, getK_app k d k' z h']
theorem getK_fold {α : Type} (k : α → Key) (f : α → D) {x0 : α} : ∀ (xs : List α) (acc : List (Key × D)), (x0 ∈ xs ∨ getK acc (k x0) = some (f x0)) → (∀ x ∈ xs, k x = k x0 → f x = f x0) → getK (xs.foldl (fun z x => setK z (k x) (f x)) acc) (k x0) = some (f x0)
  | [], acc, h, _ => by
    rcases h with h | h
    · cases h
    · exact h
  | x :: xs, acc, h, hc => by
    rw [List.foldl_cons]
    refine getK_fold k f xs _ ?_ fun y hy => hc y (List.mem_cons_of_mem _ hy)
    by_cases e : k x = k x0
    · right
      rw [getK_set, if_pos e, hc x List.mem_cons_self e]
    · rcases h with h | h
      · rcases List.mem_cons.mp h with rfl | h
        · exact absurd rfl e
        · exact .inl h
      · right
        rw [getK_set, if_neg e]
        exact h
def dicD (n : Nat) (le : Nat → Nat → Bool) (f : Nat → D) : D := .dic ((List.range n).foldl (fun z x => setK z (.inl (msk n (le x) : Nat)) (f x)) [])
@[simp] theorem noL_dic (n : Nat) (le : Nat → Nat → Bool) (f : Nat → D) : noL (dicD n le f) = false := rfl
section
variable {n : Nat} {le : Nat → Nat → Bool} {mt jn : Nat → Nat → Nat}
theorem dic_get (h : House n le mt jn) (f : Nat → D) {x : Nat} (hx : x < n) : getK ((List.range n).foldl (fun z x => setK z (.inl (msk n (le x) : Nat)) (f x)) []) (.inl (msk n (le x) : Nat)) = some (f x) :=
  getK_fold (fun x => (Sum.inl (msk n (le x) : Nat) : Key)) f (x0 := x) _ [] (.inl (List.mem_range.mpr hx)) fun y hy e => by
    have e : ((msk n (le y) : Nat) : Int) = ((msk n (le x) : Nat) : Int) := Sum.inl.inj e
    rw [up_inj h (List.mem_range.mp hy) hx (by omega)]
theorem dic_at (h : House n le mt jn) (f : Nat → D) {x : Nat} (hx : x < n) : dgetD (dicD n le f) (.int (msk n (le x) : Nat)) = some (f x) := dic_get h f hx
theorem dic_nin (h : House n le mt jn) (f : Nat → D) {x : Nat} (hx : x < n) : dninD (.int (msk n (le x) : Nat)) (dicD n le f) = some (.bl false) := by
  show some (D.bl (!(getK ((List.range n).foldl (fun z x => setK z (.inl (msk n (le x) : Nat)) (f x)) []) (.inl (msk n (le x) : Nat))).isSome)) = _
  rw [dic_get h f hx]
  rfl
end
end Q
end
section
set_option Elab.async false
set_option linter.all false
set_option maxRecDepth 100000
set_option autoImplicit false
set_option maxHeartbeats 2000000
namespace Q
open PySem PySem.Spec PyProof.Rows L2 L3
section
variable {n : Nat} {le : Nat → Nat → Bool} {mt jn : Nat → Nat → Nat}
/-! ### no fault -/
theorem itemsUp (f : Ev Dk) {ρ ρ' : En} {s s' : Dk} (e : f ρ s = some (upD n le, ρ', s')) : itemsF f ρ s = some ((List.range n).map fun x => .int (msk n (le x) : Nat), ρ', s') := by
  rw [d_itemsF, e]
  rfl
def EF0 (n : Nat) (le : Nat → Nat → Bool) : En := [.val (tabD n le), .val .non, .val (upD n le), .val (upD n (over le)), .non, .non, .non, .non, .non]
theorem q2_fo (s : Dk) (hn : n ≤ 24) : q2_fault_of (EF0 n le) s = some (dicD n le fun _ => .bl true, EF0 n le, s) := by
  unfold q2_fault_of
  refine (dc_map (List.range n) (fun x => .int (msk n (le x) : Nat)) (fun x => .inl (msk n (le x) : Nat)) (fun _ => .bl true) (ρ1 := EF0 n le) (s1 := s) (itemsUp _ (by simp [EF0])) (by simp [EF0]) (by rw [sizeL, List.length_range]; omega) (fun x hx => ?_)).trans rfl
  exact ⟨(EF0 n le).set 8 (.val (.int (msk n (le x) : Nat))), (EF0 n le).set 8 (.val (.int (msk n (le x) : Nat))), (EF0 n le).set 8 (.val (.int (msk n (le x) : Nat))), (EF0 n le).set 8 (.val (.int (msk n (le x) : Nat))), .int (msk n (le x) : Nat), by simp [EF0], by simp, by simp [EF0], rfl, by simp, rfl, by simp [EF0]⟩
theorem q1_fo (s : Dk) (hn : n ≤ 24) : q1_fault_of (EF0 n le) s = some (dicD n (over le) fun _ => .bl true, EF0 n le, s) := by
  unfold q1_fault_of
  refine (dc_map (List.range n) (fun x => .int (msk n (over le x) : Nat)) (fun x => .inl (msk n (over le x) : Nat)) (fun _ => .bl true) (ρ1 := EF0 n le) (s1 := s) (itemsUp _ (by simp [EF0])) (by simp [EF0]) (by rw [sizeL, List.length_range]; omega) (fun x hx => ?_)).trans rfl
  exact ⟨(EF0 n le).set 8 (.val (.int (msk n (over le x) : Nat))), (EF0 n le).set 8 (.val (.int (msk n (over le x) : Nat))), (EF0 n le).set 8 (.val (.int (msk n (over le x) : Nat))), (EF0 n le).set 8 (.val (.int (msk n (over le x) : Nat))), .int (msk n (over le x) : Nat), by simp [EF0], by simp, by simp [EF0], rfl, by simp, rfl, by simp [EF0]⟩
def EF (n : Nat) (le : Nat → Nat → Bool) (x6 x7 : Sl) : En := [.val (tabD n le), .val .non, .val (upD n le), .val (upD n (over le)), .val (dicD n le fun _ => .bl true), .val (dicD n (over le) fun _ => .bl true), x6, x7, .non]
theorem EF_freeze {x6 x7 : Sl} (h6 : Pl x6) (h7 : Pl x7) : L3.freeze (EF n le x6 x7) = EF n le x6 x7 := by simp [EF, freeze_any h6, freeze_any h7]
theorem lp1_fo (h : House n le mt jn) {x : Nat} (hx : x < n) (x7 : Sl) (s : Dk) (p7 : Pl x7) : ∃ y7 : Sl, lp1_fault_of (EF n le (.val (.int (x : Int))) x7) s = some (.nx, EF n le (.val (.int (x : Int))) y7, s) ∧ Pl y7 := by
  have hn := h.few
  have hr := range_nat x (by omega)
  obtain ⟨ρ', s', q1, rfl, y7, rfl, q7⟩ := loop_ix (S := Dk) (tg := putV 7) (b := bd1_fault_of) (fun i : Nat => .int (0 + (i : Nat))) (fun _ ρ s' => s' = s ∧ ∃ y7 : Sl, ρ = EF n le (.val (.int (x : Int))) y7 ∧ Pl y7) (List.range x) (EF n le (.val (.int (x : Int))) x7) s ⟨rfl, x7, rfl, p7⟩ (fun i hi ρ s' z => by
    obtain ⟨rfl, y7, rfl, q7⟩ := z
    have hi' : i < x := by simpa using hi
    have hy : i < n := by omega
    have u1 := ix_up le hx
    have u2 := ix_up le hy
    have d1 := ix_up (over le) hx
    have d2 := ix_up (over le) hy
    have b1 := band_nat (msk n (le x)) (msk n (le i))
    rw [and_up h hx hy] at b1
    have b2 := band_nat (msk n (over le x)) (msk n (over le i))
    rw [and_up h.over hx hy] at b2
    have k1 := dic_nin h (fun _ => .bl true) (h.jnlt x i hx hy)
    have k2 := dic_nin h.over (fun _ => .bl true) (h.mtlt x i hx hy)
    refine ⟨EF n le (.val (.int (x : Int))) (.val (.int (i : Int))), EF n le (.val (.int (x : Int))) (.val (.int (i : Int))), s', by simp [EF], ?_, rfl, _, rfl, nv _⟩
    simp only [bd1_fault_of, EF, d_seqF, d_ifF, d_truF, d_binF, d_varF, d_cstF, List.getElem?_cons_succ, List.getElem?_cons_zero, d1, d2, b2, k2, o_truB, d_skipF, thaw_val, thaw_non, thaw_nil, u1, u2, b1, k1])
  refine ⟨y7, ?_, q7⟩
  unfold lp1_fault_of
  rw [d_forF]
  have : rangeL (consL (varF 6) nilL) (EF n le (.val (.int (x : Int))) x7) s' = some ((List.range x).map fun i : Nat => .int (0 + (i : Nat)), EF n le (.val (.int (x : Int))) x7, s') := by simp [EF, hr]
  rw [this]
  simp only [EF_freeze (nv _) p7]
  exact q1
theorem lp2_fo (h : House n le mt jn) (s : Dk) : ∃ y6 y7 : Sl, lp2_fault_of (EF n le .non .non) s = some (.nx, EF n le y6 y7, s) := by
  have hr := range_nat n (by have := h.few; omega)
  obtain ⟨ρ', s', q1, rfl, y6, y7, rfl, _, _⟩ := loop_ix (S := Dk) (tg := putV 6) (b := bd2_fault_of) (fun i : Nat => .int (0 + (i : Nat))) (fun _ ρ s' => s' = s ∧ ∃ y6 y7 : Sl, ρ = EF n le y6 y7 ∧ Pl y6 ∧ Pl y7) (List.range n) (EF n le .non .non) s ⟨rfl, .non, .non, rfl, nn, nn⟩ (fun i hi ρ s' z => by
    obtain ⟨rfl, y6, y7, rfl, q6, q7⟩ := z
    have hi' : i < n := by simpa using hi
    obtain ⟨z7, e, r7⟩ := lp1_fo h hi' y7 s' q7
    exact ⟨EF n le (.val (.int (i : Int))) y7, EF n le (.val (.int (i : Int))) z7, s', by simp [EF], e, rfl, _, z7, rfl, nv _, r7⟩)
  refine ⟨y6, y7, ?_⟩
  unfold lp2_fault_of
  rw [d_forF]
  have : rangeL (consL (mapF lenD (consL (varF 0) nilL)) nilL) (EF n le .non .non) s' = some ((List.range n).map fun i : Nat => .int (0 + (i : Nat)), EF n le .non .non, s') := by simp [EF, len_tab, hr]
  rw [this]
  simp only [EF_freeze nn nn]
  exact q1
theorem v_fault_of (h : House n le mt jn) (s : Dk) : g_fault_of [tabD n le] s = some (.non, s) := by
  have e0 := v_order_fault h s
  have e1 := v_ups_of n le s h.few
  have e2 := v_downs_of n le s h.few
  have i1 : isnotD .non .non = some (.bl false) := rfl
  have a1 : setF false 1 (callF g_order_fault (consL (varF 0) nilL)) [.val (tabD n le), .non, .non, .non, .non, .non, .non, .non, .non] s = some (.nx, [.val (tabD n le), .val .non, .non, .non, .non, .non, .non, .non, .non], s) := by simp [e0]
  have a2 : ifF (truF (binF isnotD (varF 1) (cstF .non))) (retF (varF 1)) skipF [.val (tabD n le), .val .non, .non, .non, .non, .non, .non, .non, .non] s = some (.nx, [.val (tabD n le), .val .non, .non, .non, .non, .non, .non, .non, .non], s) := by simp [i1]
  have a3 : parF [2, 3] (consI false (callF g_ups_of (consL (varF 0) nilL)) (consI false (callF g_downs_of (consL (varF 0) nilL)) nilI)) [.val (tabD n le), .val .non, .non, .non, .non, .non, .non, .non, .non] s = some (.nx, EF0 n le, s) := by simp [e1, e2, EF0]
  have a4 : parF [4, 5] (consI false q2_fault_of (consI false q1_fault_of nilI)) (EF0 n le) s = some (.nx, EF n le .non .non, s) := by
    have w2 := q2_fo (le := le) s h.few
    have w1 := q1_fo (le := le) s h.few
    rw [d_parF, d_consIf, w2]
    simp only [noL_dic, Bool.false_eq_true, if_false]
    simp only [d_consIf, w1, d_nilI, noL_dic, Bool.false_eq_true, if_false]
    simp [EF0, EF]
  obtain ⟨y6, y7, a5⟩ := lp2_fo h s
  have key : b_fault_of [.val (tabD n le), .non, .non, .non, .non, .non, .non, .non, .non] s = some (.rt .non, EF n le y6 y7, s) := by
    unfold b_fault_of
    rw [d_seqF, a1]; simp only
    rw [d_seqF, a2]; simp only
    rw [d_seqF, a3]; simp only
    rw [d_seqF, a4]; simp only
    rw [d_seqF, a5]
    simp
  exact defN_rt rfl rfl key
/-! ### tables, houses -/
theorem row_tup (p : Nat → Bool) : rowD n p = tupI ((List.range n).map fun y => b1 (p y)) := by
  unfold rowD tupI
  rw [List.map_map]
  rfl
theorem v_row (p : Nat → Bool) (s : Dk) (hn : n ≤ 24) : g_are_between [rowD n p, .int 0, .int 1] s = some (.bl true, s) := by
  rw [row_tup]
  refine v_are_between _ 0 1 s (fun x hx => ?_) (by rw [sizeL, List.length_map, List.length_range]; omega)
  obtain ⟨y, _, rfl⟩ := List.mem_map.mp hx
  unfold b1
  split <;> omega
theorem v_is_table (s : Dk) (hn : 1 ≤ n ∧ n ≤ 24) : g_is_table_value [tabD n le, .int 24] s = some (.bl true, s) := by
  have hq : q1_is_table_value [.val (tabD n le), .val (.int 24), .non] s = some (.lst ((List.range n).map fun _ => .bl true), [.val (tabD n le), .val (.int 24), .non], s) := by
    unfold q1_is_table_value
    refine (comp_map (List.range n) (fun x => rowD n (le x)) (fun _ => true) (fun _ => .bl true) (ρ1 := [.val (tabD n le), .val (.int 24), .non]) (s1 := s) (by simp [tabD]) (by simp) (by rw [sizeL, List.length_range]; omega) (fun x hx => ?_)).trans (by simp)
    have e1 := v_row (n := n) (le x) s hn.2
    have e2 := eq_int n n
    refine ⟨[.val (tabD n le), .val (.int 24), .val (rowD n (le x))], [.val (tabD n le), .val (.int 24), .val (rowD n (le x))], by simp, by simp, by simp, fun _ => ⟨[.val (tabD n le), .val (.int 24), .val (rowD n (le x))], ?_, by simp⟩⟩
    simp [e1, len_row, len_tab]
  have ha := all_true (List.range n) (fun _ => true) fun _ _ => rfl
  have i1 : isiD [tabD n le, .ty "tuple"] = some (.bl true) := rfl
  have h1 : (1 : Int) ≤ (n : Int) := by omega
  have h2 : (n : Int) ≤ 24 := by omega
  have key : b_is_table_value [.val (tabD n le), .val (.int 24), .non] s = some (.rt (.bl true), [.val (tabD n le), .val (.int 24), .non], s) := by
    simp [b_is_table_value, i1, len_tab, h1, h2, hq, ha]
  exact defN_rt rfl rfl key
theorem v_is_house_value (h : House n le mt jn) (s : Dk) : g_is_house_value [tabD n le] s = some (.bl true, s) := by
  have e1 := v_is_table (n := n) (le := le) s ⟨h.pos, h.few⟩
  have e2 := v_fault_of h s
  have i1 : isD .non .non = some (.bl true) := rfl
  have key : b_is_house_value [.val (tabD n le)] s = some (.rt (.bl true), [.val (tabD n le)], s) := by
    simp [b_is_house_value, e1, e2, i1]
  exact defN_rt rfl rfl key
theorem v_need_house (h : House n le mt jn) (s : Dk) : g_need_house [tabD n le] s = some (.non, s) := by
  simp [g_need_house, b_need_house, v_is_house_value h s]
theorem v_need_lot {x : Nat} (hx : x < n) (s : Dk) : g_need_lot [tabD n le, .int x] s = some (.non, s) := by
  have h2 : (x : Int) ≤ (n : Int) - 1 := by omega
  simp [g_need_lot, b_need_lot, len_tab, v_is_between, h2]
theorem v_need_two (h : House n le mt jn) {x y : Nat} (hx : x < n) (hy : y < n) (s : Dk) : g_need_two_lots [tabD n le, .int x, .int y] s = some (.non, s) := by
  simp [g_need_two_lots, b_need_two_lots, v_need_house h s, v_need_lot hx s, v_need_lot hy s]
/-! ### both, all -/
def matD (n : Nat) (f : Nat → Nat → Nat) : D := .lst ((List.range n).map fun x => .lst ((List.range n).map fun y => .int (f x y : Nat)))
def ET (T : D) (n : Nat) (le : Nat → Nat → Bool) (x2 x5 : Sl) : En := [.val T, .val (upD n le), x2, .non, .non, x5, .non]
theorem tb_1 (T : D) (hT : noL T = true) (s : Dk) (hn : n ≤ 24) : dcF [3, 4] (enumL (consL (varF 1) nilL)) (tupG 2 (consG (putV 3) (consG (putV 4) nilG))) yesB (varF 4) (varF 3) (ET T n le .non .non) s = some (dicD n le fun x => .int (x : Nat), ET T n le .non .non, s) := by
  refine (dc_map (List.range n) (fun x : Nat => .tup [.int (x : Int), .int (msk n (le x) : Nat)]) (fun x => .inl (msk n (le x) : Nat)) (fun x => .int (x : Nat)) (ρ1 := ET T n le .non .non) (s1 := s) ?_ (by simp [ET]) (by rw [sizeL, List.length_range]; omega) (fun x hx => ?_)).trans rfl
  · simp [ET, upD, seqD, enum_range]
  · exact ⟨[.val T, .val (upD n le), .non, .val (.int (x : Int)), .val (.int (msk n (le x) : Nat)), .non, .non], [.val T, .val (upD n le), .non, .val (.int (x : Int)), .val (.int (msk n (le x) : Nat)), .non, .non], [.val T, .val (upD n le), .non, .val (.int (x : Int)), .val (.int (msk n (le x) : Nat)), .non, .non], [.val T, .val (upD n le), .non, .val (.int (x : Int)), .val (.int (msk n (le x) : Nat)), .non, .non], .int (msk n (le x) : Nat), by simp [ET], by simp, by simp, rfl, by simp, rfl, by simp [ET]⟩
theorem tb_2 (h : House n le mt jn) (T : D) {x : Nat} (hx : x < n) (s : Dk) : compF [6] (itemsF (varF 1)) (putV 6) yesB (binF dgetD (varF 2) (binF bandD (varF 5) (varF 6))) (ET T n le (.val (dicD n le fun x => .int (x : Nat))) (.val (.int (msk n (le x) : Nat)))) s = some (.lst ((List.range n).map fun y => .int (jn x y : Nat)), ET T n le (.val (dicD n le fun x => .int (x : Nat))) (.val (.int (msk n (le x) : Nat))), s) := by
  have hn := h.few
  refine (comp_map (List.range n) (fun x => .int (msk n (le x) : Nat)) (fun _ => true) (fun y => .int (jn x y : Nat)) (ρ1 := ET T n le (.val (dicD n le fun x => .int (x : Nat))) (.val (.int (msk n (le x) : Nat)))) (s1 := s) (itemsUp _ (by simp [ET])) (by simp [ET]) (by rw [sizeL, List.length_range]; omega) (fun y hy => ?_)).trans (by simp)
  have hy := List.mem_range.mp hy
  have b1 := band_nat (msk n (le x)) (msk n (le y))
  rw [and_up h hx hy] at b1
  have k1 := dic_at h (fun x => .int (x : Nat)) (h.jnlt x y hx hy)
  refine ⟨[.val T, .val (upD n le), .val (dicD n le fun x => .int (x : Nat)), .non, .non, .val (.int (msk n (le x) : Nat)), .val (.int (msk n (le y) : Nat))], [.val T, .val (upD n le), .val (dicD n le fun x => .int (x : Nat)), .non, .non, .val (.int (msk n (le x) : Nat)), .val (.int (msk n (le y) : Nat))], by simp [ET], by simp, by simp, fun _ => ⟨[.val T, .val (upD n le), .val (dicD n le fun x => .int (x : Nat)), .non, .non, .val (.int (msk n (le x) : Nat)), .val (.int (msk n (le y) : Nat))], ?_, by simp [ET]⟩⟩
  simp only [d_binF, d_varF, List.getElem?_cons_succ, List.getElem?_cons_zero, b1, k1]
theorem tb_3 (h : House n le mt jn) (T : D) (s : Dk) : compF [5] (itemsF (varF 1)) (putV 5) yesB (compF [6] (itemsF (varF 1)) (putV 6) yesB (binF dgetD (varF 2) (binF bandD (varF 5) (varF 6)))) (ET T n le (.val (dicD n le fun x => .int (x : Nat))) .non) s = some (matD n jn, ET T n le (.val (dicD n le fun x => .int (x : Nat))) .non, s) := by
  have hn := h.few
  refine (comp_map (List.range n) (fun x => .int (msk n (le x) : Nat)) (fun _ => true) (fun x => .lst ((List.range n).map fun y => .int (jn x y : Nat))) (ρ1 := ET T n le (.val (dicD n le fun x => .int (x : Nat))) .non) (s1 := s) (itemsUp _ (by simp [ET])) (by simp [ET]) (by rw [sizeL, List.length_range]; omega) (fun x hx => ?_)).trans (by simp [matD])
  have hx := List.mem_range.mp hx
  have e := tb_2 h T hx s
  refine ⟨ET T n le (.val (dicD n le fun x => .int (x : Nat))) (.val (.int (msk n (le x) : Nat))), ET T n le (.val (dicD n le fun x => .int (x : Nat))) (.val (.int (msk n (le x) : Nat))), by simp [ET], by simp, by simp, fun _ => ⟨ET T n le (.val (dicD n le fun x => .int (x : Nat))) (.val (.int (msk n (le x) : Nat))), e, by simp [ET]⟩⟩
theorem v_alls_of (h : House n le mt jn) (s : Dk) : g_alls_of [tabD n le] s = some (matD n jn, s) := by
  have e1 := v_ups_of n le s h.few
  have a1 : setF false 1 (callF g_ups_of (consL (varF 0) nilL)) [.val (tabD n le), .non, .non, .non, .non, .non, .non] s = some (.nx, ET (tabD n le) n le .non .non, s) := by simp [e1, ET]
  have e2 : q1_alls_of (ET (tabD n le) n le .non .non) s = some (dicD n le fun x => .int (x : Nat), ET (tabD n le) n le .non .non, s) := tb_1 (tabD n le) (noL_tab n le) s h.few
  have e3 : q3_alls_of (ET (tabD n le) n le (.val (dicD n le fun x => .int (x : Nat))) .non) s = some (matD n jn, ET (tabD n le) n le (.val (dicD n le fun x => .int (x : Nat))) .non, s) := tb_3 h (tabD n le) s
  have a2 : setF false 2 q1_alls_of (ET (tabD n le) n le .non .non) s = some (.nx, ET (tabD n le) n le (.val (dicD n le fun x => .int (x : Nat))) .non, s) := by
    rw [d_setFf, e2]
    simp [ET]
  have key : b_alls_of [.val (tabD n le), .non, .non, .non, .non, .non, .non] s = some (.rt (matD n jn), ET (tabD n le) n le (.val (dicD n le fun x => .int (x : Nat))) .non, s) := by
    unfold b_alls_of
    rw [d_seqF, a1]; simp only
    rw [d_seqF, a2]; simp only
    rw [d_retF, e3]
  exact defN_rt rfl rfl key
theorem ix_mat (f : Nat → Nat → Nat) {x : Nat} (hx : x < n) : ixD (matD n f) (.int (x : Int)) = some (.lst ((List.range n).map fun y => .int (f x y : Nat))) := atI_range (fun x => D.lst ((List.range n).map fun y => .int (f x y : Nat))) hx
theorem ix_line (f : Nat → Nat) {y : Nat} (hy : y < n) : ixD (.lst ((List.range n).map fun y => .int (f y : Nat))) (.int (y : Int)) = some (.int (f y : Nat)) := atI_range (fun y => D.int (f y : Nat)) hy
theorem v_all_of (h : House n le mt jn) {x y : Nat} (hx : x < n) (hy : y < n) (s : Dk) : g_all_of [tabD n le, .int x, .int y] s = some (.int (jn x y : Nat), s) := by
  have e1 := v_need_two h hx hy s
  have e2 := v_alls_of h s
  have e3 := ix_mat jn hx
  have e4 := ix_line (jn x) hy
  have key : b_all_of [.val (tabD n le), .val (.int (x : Int)), .val (.int (y : Int))] s = some (.rt (.int (jn x y : Nat)), [.val (tabD n le), .val (.int (x : Int)), .val (.int (y : Int))], s) := by
    simp [b_all_of, e1, e2, e3, -o_ixL, e4]
  exact defN_rt rfl rfl key
/-! ### turned over -/
theorem v_turned_over (h : House n le mt jn) (s : Dk) : g_turned_over [tabD n le] s = some (tabD n (over le), s) := by
  have hn := h.few
  have e1 := v_need_house h s
  have e2 : rngV [.int (n : Int)] = some (.rng 0 n) := by
    show (if (n : Int).natAbs ≤ 1000000 then some (D.rng 0 n) else none) = _
    rw [if_pos (by omega)]
  have e3 : rngItems (.rng 0 n) = some ((List.range n).map fun i : Nat => .int (0 + (i : Nat))) := by
    show (if (0 : Int).natAbs ≤ 1000000 ∧ (n : Int).natAbs ≤ 1000000 then some (rngD 0 ((n : Int) - 0).toNat) else none) = _
    rw [if_pos ⟨by decide, by omega⟩]
    simp [rngD]
  have e3' : rngItems (.rng 0 n) = some ((List.range n).map fun i : Nat => .int (i : Nat)) := by
    rw [e3]
    congr 1
    exact List.map_congr_left fun i _ => by simp
  have hq : q2_turned_over [.val (tabD n le), .val (.rng 0 n), .non, .non] s = some (.lst ((List.range n).map fun x => rowD n (over le x)), [.val (tabD n le), .val (.rng 0 n), .non, .non], s) := by
    unfold q2_turned_over
    refine (comp_map (List.range n) (fun i : Nat => .int (i : Nat)) (fun _ => true) (fun x => rowD n (over le x)) (ρ1 := [.val (tabD n le), .val (.rng 0 n), .non, .non]) (s1 := s) (by simp [e3']) (by simp) (by rw [sizeL, List.length_range]; omega) (fun x hx => ?_)).trans (by simp)
    have hx := List.mem_range.mp hx
    have hq1 : q1_turned_over [.val (tabD n le), .val (.rng 0 n), .val (.int (x : Int)), .non] s = some (.lst ((List.range n).map fun y => .int (b1 (over le x y))), [.val (tabD n le), .val (.rng 0 n), .val (.int (x : Int)), .non], s) := by
      unfold q1_turned_over
      refine (comp_map (List.range n) (fun i : Nat => .int (i : Nat)) (fun _ => true) (fun y => .int (b1 (over le x y))) (ρ1 := [.val (tabD n le), .val (.rng 0 n), .val (.int (x : Int)), .non]) (s1 := s) (by simp [e3']) (by simp) (by rw [sizeL, List.length_range]; omega) (fun y hy => ?_)).trans (by simp)
      have hy := List.mem_range.mp hy
      have i1 := ix_tab le hy
      have i2 := ix_row (le y) hx
      refine ⟨[.val (tabD n le), .val (.rng 0 n), .val (.int (x : Int)), .val (.int (y : Int))], [.val (tabD n le), .val (.rng 0 n), .val (.int (x : Int)), .val (.int (y : Int))], by simp, by simp, by simp, fun _ => ⟨[.val (tabD n le), .val (.rng 0 n), .val (.int (x : Int)), .val (.int (y : Int))], ?_, by simp⟩⟩
      simp [i1, i2, over]
    refine ⟨[.val (tabD n le), .val (.rng 0 n), .val (.int (x : Int)), .non], [.val (tabD n le), .val (.rng 0 n), .val (.int (x : Int)), .non], by simp, by simp, by simp, fun _ => ⟨[.val (tabD n le), .val (.rng 0 n), .val (.int (x : Int)), .non], ?_, by simp⟩⟩
    rw [d_mapF, d_consL, hq1]
    simp only [d_nilL, c_tupL]
    rfl
  have hn1 : noL (.rng 0 (n : Int)) = false := rfl
  have a2 : setF false 1 (mapF rngV (consL (mapF lenD (consL (varF 0) nilL)) nilL)) [.val (tabD n le), .non, .non, .non] s = some (.nx, [.val (tabD n le), .val (.rng 0 n), .non, .non], s) := by
    simp [len_tab, e2, hn1]
  have key : b_turned_over [.val (tabD n le), .non, .non, .non] s = some (.rt (tabD n (over le)), [.val (tabD n le), .val (.rng 0 n), .non, .non], s) := by
    unfold b_turned_over
    rw [d_seqF]
    simp only [d_exprF, d_callF, d_consL, d_varF, d_nilL, List.getElem?_cons_zero, e1, thaw_val, thaw_non, thaw_nil]
    rw [d_seqF, a2]
    simp only
    rw [d_retF, d_mapF, d_consL, hq]
    simp only [d_nilL, c_tupL]
    rfl
  exact defN_rt rfl rfl key
end
end Q
end
section
set_option Elab.async false
set_option linter.all false
set_option maxRecDepth 100000
set_option autoImplicit false
set_option maxHeartbeats 2000000
namespace Q
open PySem PySem.Spec PyProof.Rows L2 L3
/-! ### draws -/
section
variable {ρ : En} {s : Dk}
@[simp] theorem d_dkF (i : Nat) (f : Dk → Int) : dkF i f ρ s = (match ρ[i]? with | some (.val .deck) => some (.int (f s), ρ, s) | _ => none) := rfl
@[simp] theorem d_dkSetF (i : Nat) (f : Ev Dk) : dkSetF i f ρ s = (match f ρ s with | some (.int k, ρ1, s1) => (match (L3.thaw ρ ρ1)[i]? with | some (.val .deck) => some (.nx, L3.thaw ρ ρ1, { s1 with draws := k }) | _ => none) | _ => none) := rfl
@[simp] theorem d_dkAnyB (i : Nat) : dkAnyB i ρ s = (match ρ[i]? with | some (.val .deck) => some (!s.cells.isEmpty, ρ, s) | _ => none) := rfl
@[simp] theorem d_dkPopF (i : Nat) : dkPopF i ρ s = (match ρ[i]? with | some (.val .deck) => (match s.cells[s.cells.length - 1]? with | some k => some (.int k, ρ, { s with cells := s.cells.dropLast }) | none => none) | _ => none) := rfl
@[simp] theorem d_dkAppF (i : Nat) (g : EvL Dk) : dkAppF i g ρ s = (match ρ[i]? with | some (.val .deck) => (match g ρ s with | some ([.int k], ρ1, s1) => if s1.cells.length < 64 then some (.non, ρ1, { s1 with cells := s1.cells ++ [k] }) else none | _ => none) | _ => none) := rfl
end
def SI (s : Dk) : Prop := s.cells.length ≤ 64
theorem cmulL {i : Int} (h : -18446744073709551616 < i ∧ i < 18446744073709551616) (j : Int) : CMul i j := by
  unfold CMul
  left
  constructor
  · have : (-(2 ^ 64) : Int) = -18446744073709551616 := by decide
    omega
  · have : ((2 ^ 64) : Int) = 18446744073709551616 := by decide
    omega
theorem cmulR {j : Int} (h : -18446744073709551616 < j ∧ j < 18446744073709551616) (i : Int) : CMul i j := by
  unfold CMul
  right
  constructor
  · have : (-(2 ^ 64) : Int) = -18446744073709551616 := by decide
    omega
  · have : ((2 ^ 64) : Int) = 18446744073709551616 := by decide
    omega
theorem mulL {i : Int} (j : Int) (h : -18446744073709551616 < i ∧ i < 18446744073709551616) : mulD (.int i) (.int j) = some (.int (i * j)) := by rw [o_mul, if_pos (cmulL h j)]
theorem mulR (i : Int) {j : Int} (h : -18446744073709551616 < j ∧ j < 18446744073709551616) : mulD (.int i) (.int j) = some (.int (i * j)) := by rw [o_mul, if_pos (cmulR h i)]
theorem modP (i : Int) {j : Int} (h : 0 < j) : modD (.int i) (.int j) = some (.int (i % j)) := by rw [o_mod, if_pos h]
theorem divP (i : Int) {j : Int} (h : 0 < j ∧ j < 1073741824) : divD (.int i) (.int j) = some (.int (i / j)) := by rw [o_div, if_pos h]
theorem pow18 : powD (.int 10) (.int 18) = some (.int 1000000000000000000) := by
  rw [o_pow, if_pos]
  · rfl
  · unfold CPow; decide
def tl_draw : Ss Dk := (seqF (setF false 2 (binF modD (mapF int1D (consL (binF addD (binF mulD (varF 2) (cstF (.int 39373))) (cstF (.int 79))) nilL)) (cstF (.int 2147483647)))) (seqF (setF false 2 (binF modD (mapF int1D (consL (binF addD (binF addD (binF mulD (varF 2) (varF 2)) (binF mulD (cstF (.int 52713)) (dkF 0 Dk.draws))) (cstF (.int 97))) nilL)) (cstF (.int 2147483587)))) (seqF (setF false 2 (binF modD (mapF int1D (consL (binF mulD (varF 2) (cstF (.int 40692))) nilL)) (cstF (.int 2147483563)))) (retF (binF modD (mapF int1D (consL (binF divD (varF 2) (cstF (.int 64))) nilL)) (varF 1))))))
theorem tl_ok (many n : Int) (x : Sl) (s : Dk) (hx : ∀ t ds, x ≠ .ownD t ds) (h : 0 < many) : ∃ (r : Int) (ρ' : En), tl_draw [.val .deck, .val (.int many), .val (.int n), x] s = some (.rt (.int r), ρ', s) ∧ 0 ≤ r ∧ r < many := by
  have b2 : ∀ i : Int, 0 ≤ i % 2147483647 ∧ i % 2147483647 < 2147483647 := fun i => ⟨Int.emod_nonneg _ (by decide), Int.emod_lt_of_pos _ (by decide)⟩
  have m1 : ∀ i : Int, mulD (.int i) (.int 39373) = some (.int (i * 39373)) := fun i => mulR i (by decide)
  have m2 : ∀ i : Int, mulD (.int (i % 2147483647)) (.int (i % 2147483647)) = some (.int ((i % 2147483647) * (i % 2147483647))) := fun i => mulL _ (by have := b2 i; omega)
  have m3 : ∀ i : Int, mulD (.int 52713) (.int i) = some (.int (52713 * i)) := fun i => mulL i (by decide)
  have m4 : ∀ i : Int, mulD (.int i) (.int 40692) = some (.int (i * 40692)) := fun i => mulR i (by decide)
  have p1 : ∀ i : Int, modD (.int i) (.int 2147483647) = some (.int (i % 2147483647)) := fun i => modP i (by decide)
  have p2 : ∀ i : Int, modD (.int i) (.int 2147483587) = some (.int (i % 2147483587)) := fun i => modP i (by decide)
  have p3 : ∀ i : Int, modD (.int i) (.int 2147483563) = some (.int (i % 2147483563)) := fun i => modP i (by decide)
  have p4 : ∀ i : Int, modD (.int i) (.int many) = some (.int (i % many)) := fun i => modP i h
  have v1 : ∀ i : Int, divD (.int i) (.int 64) = some (.int (i / 64)) := fun i => divP i (by decide)
  have hth : ∀ (y : Sl) (z w : En), L3.thaw (y :: z) (x :: w) = x :: L3.thaw z w := fun y z w => thaw_any hx y z w
  refine ⟨((((((n * 39373 + 79) % 2147483647) * ((n * 39373 + 79) % 2147483647) + 52713 * s.draws + 97) % 2147483587 * 40692) % 2147483563) / 64) % many, [.val .deck, .val (.int many), .val (.int ((((((n * 39373 + 79) % 2147483647) * ((n * 39373 + 79) % 2147483647) + 52713 * s.draws + 97) % 2147483587 * 40692) % 2147483563))), x], ?_, Int.emod_nonneg _ (by omega), Int.emod_lt_of_pos _ h⟩
  simp [tl_draw, -o_mul, -o_mod, -o_div, m1, m2, m3, m4, p1, p2, p3, p4, v1, hth]
def st_A : Ss Dk := (dkSetF 0 (binF addD (dkF 0 Dk.draws) (cstF (.int 1))))
def st_B : Ss Dk := (setF false 2 (binF addD (dkF 0 Dk.mixed) (binF mulD (cstF (.int 61473)) (dkF 0 Dk.draws))))
def st_C : Ss Dk := (ifF (dkAnyB 0) (seqF (setF false 3 (dkPopF 0)) (seqF (ifF (truF (binF geD (varF 3) (binF powD (cstF (.int 10)) (cstF (.int 18))))) (seqF (exprF (dkAppF 0 (consL (binF divD (varF 3) (mapF maxD (consL (cstF (.int 2)) (consL (varF 1) nilL)))) nilL))) (retF (binF modD (mapF int1D (consL (varF 3) nilL)) (varF 1)))) skipF) (setF false 2 (binF addD (varF 2) (binF modD (mapF int1D (consL (varF 3) nilL)) (cstF (.int 2147483629))))))) skipF)
theorem draw_eq : b__law_draw = seqF st_A (seqF st_B (seqF st_C tl_draw)) := rfl
theorem dec_last {cs : List Int} (h : cs ≠ []) : ∃ c, cs[cs.length - 1]? = some c := by
  have hl : cs.length - 1 < cs.length := by
    cases cs with
    | nil => exact absurd rfl h
    | cons x r => simp
  exact ⟨_, List.getElem?_eq_getElem hl⟩
theorem A_ok (many : Int) (s : Dk) : st_A [.val .deck, .val (.int many), .non, .non] s = some (.nx, [.val .deck, .val (.int many), .non, .non], { s with draws := s.draws + 1 }) := by simp [st_A]
theorem B_ok (many : Int) (s : Dk) : ∃ n : Int, st_B [.val .deck, .val (.int many), .non, .non] s = some (.nx, [.val .deck, .val (.int many), .val (.int n), .non], s) := by
  have m0 : ∀ i : Int, mulD (.int 61473) (.int i) = some (.int (61473 * i)) := fun i => mulL i (by decide)
  exact ⟨s.mixed + 61473 * s.draws, by simp [st_B, -o_mul, m0]⟩
theorem C_ok (many n : Int) (s : Dk) (hI : SI s) (h : 0 < many ∧ many < 1000) : (∃ (n' : Int) (x : Sl) (s' : Dk), st_C [.val .deck, .val (.int many), .val (.int n), .non] s = some (.nx, [.val .deck, .val (.int many), .val (.int n'), x], s') ∧ (∀ t ds, x ≠ .ownD t ds) ∧ SI s') ∨
    ∃ (r : Int) (ρ' : En) (s' : Dk), st_C [.val .deck, .val (.int many), .val (.int n), .non] s = some (.rt (.int r), ρ', s') ∧ 0 ≤ r ∧ r < many ∧ SI s' := by
  have p4 : ∀ i : Int, modD (.int i) (.int many) = some (.int (i % many)) := fun i => modP i h.1
  have p5 : ∀ i : Int, modD (.int i) (.int 2147483629) = some (.int (i % 2147483629)) := fun i => modP i (by decide)
  have v2 : ∀ i : Int, divD (.int i) (.int (if 2 < many then many else 2)) = some (.int (i / (if 2 < many then many else 2))) := fun i => divP i (by split <;> omega)
  unfold SI at hI
  by_cases hc : s.cells = []
  · left
    refine ⟨n, .non, s, ?_, nn, by unfold SI; exact hI⟩
    simp [st_C, hc]
  · obtain ⟨c, hcl⟩ := dec_last hc
    have hne : s.cells.isEmpty = false := by
      cases h : s.cells with
      | nil => exact absurd h hc
      | cons x r => rfl
    have hlt : s.cells.dropLast.length < 64 := by
      have : 0 < s.cells.length := by
        cases h : s.cells with
        | nil => exact absurd h hc
        | cons x r => simp
      rw [List.length_dropLast]
      omega
    by_cases hb : (1000000000000000000 : Int) ≤ c
    · right
      refine ⟨c % many, [.val .deck, .val (.int many), .val (.int n), .val (.int c)], { s with cells := s.cells.dropLast ++ [c / (if 2 < many then many else 2)] }, ?_, Int.emod_nonneg _ (by omega), Int.emod_lt_of_pos _ h.1, by unfold SI; simp only [List.length_append, List.length_singleton]; omega⟩
      have hlt' : s.cells.length - 1 < 64 := by rw [List.length_dropLast] at hlt; exact hlt
      simp [st_C, hne, hcl, -o_pow, pow18, hb, -o_mod, -o_div, p4, v2, hlt']
    · left
      refine ⟨n + c % 2147483629, .val (.int c), { s with cells := s.cells.dropLast }, ?_, nv _, by show s.cells.dropLast.length ≤ 64; omega⟩
      simp [st_C, hne, hcl, -o_pow, pow18, hb, -o_mod, -o_div, p5]
theorem v_draw (many : Int) (s : Dk) (hI : SI s) (h : 0 < many ∧ many < 1000) : ∃ (r : Int) (s' : Dk), g__law_draw [.deck, .int many] s = some (.int r, s') ∧ 0 ≤ r ∧ r < many ∧ SI s' := by
  obtain ⟨n, hB⟩ := B_ok many { s with draws := s.draws + 1 }
  have hI' : SI { s with draws := s.draws + 1 } := hI
  rcases C_ok many n { s with draws := s.draws + 1 } hI' h with ⟨n', x, s', h1, h2, h3⟩ | ⟨r, ρ', s', h1, h2, h3, h4⟩
  · obtain ⟨r, ρ', h4, h5, h6⟩ := tl_ok many n' x s' h2 h.1
    refine ⟨r, s', ?_, h5, h6, h3⟩
    have hb : b__law_draw [.val .deck, .val (.int many), .non, .non] s = some (.rt (.int r), ρ', s') := by
      rw [draw_eq, d_seqF, A_ok]
      simp only [d_seqF, hB, h1, h4]
    simp [g__law_draw, hb]
  · refine ⟨r, s', ?_, h2, h3, h4⟩
    have hb : b__law_draw [.val .deck, .val (.int many), .non, .non] s = some (.rt (.int r), ρ', s') := by
      rw [draw_eq, d_seqF, A_ok]
      simp only [d_seqF, hB, h1]
    simp [g__law_draw, hb]
end Q
end
section
set_option Elab.async false
set_option linter.all false
set_option maxRecDepth 100000
set_option autoImplicit false
set_option maxHeartbeats 2000000
namespace Q
open PySem PySem.Spec PyProof.Rows L2 L3
theorem atI_in {α : Type} {xs : List α} {r : Int} (h0 : 0 ≤ r) (h1 : r < xs.length) : ∃ x ∈ xs, atI xs r = some x := by
  have h2 : r.toNat < xs.length := by omega
  refine ⟨xs[r.toNat], List.getElem_mem h2, ?_⟩
  have := atI_nat (List.getElem?_eq_getElem h2)
  rwa [show ((r.toNat : Nat) : Int) = r by omega] at this
theorem v_pick (ns : List Int) (s : Dk) (hI : SI s) (h : ns ≠ [] ∧ ns.length < 1000) : ∃ (x : Int) (s' : Dk), g__law_pick [.deck, .lst (ns.map .int)] s = some (.int x, s') ∧ x ∈ ns ∧ SI s' := by
  have hl : 0 < ns.length := by
    cases ns with
    | nil => exact absurd rfl h.1
    | cons x r => simp
  obtain ⟨r, s', h1, h2, h3, h4⟩ := v_draw ns.length s hI ⟨by omega, by omega⟩
  obtain ⟨d, hd, e⟩ := atI_in (xs := ns.map D.int) h2 (by simpa using h3)
  obtain ⟨x, hx, rfl⟩ := List.mem_map.mp hd
  exact ⟨x, s', by simp [g__law_pick, b__law_pick, h1, e], hx, h4⟩
def upI (m : Nat) : List Int := (List.range m).map fun i : Nat => (i : Int)
theorem range_ints (m : Nat) (h : m ≤ 1000000) : rangeD [.int (m : Int)] = some ((upI m).map .int) := by
  rw [range_nat m h]
  unfold upI
  rw [List.map_map]
  congr 1
  exact List.map_congr_left fun i _ => by simp
/-- what is kept of upI -/
theorem kept_sub : ∀ {xs : List Int} {ys : List (Option D)}, PySem.Paired (fun (d : D) (o : Option D) => o = none ∨ o = some d) (xs.map .int) ys → ∃ zs : List Int, zs.Sublist xs ∧ ys.filterMap id = zs.map .int
  | [], _, .nil => ⟨[], List.Sublist.refl _, rfl⟩
  | x :: xs, _, .cons h r => by
    obtain ⟨zs, h1, h2⟩ := kept_sub r
    rcases h with rfl | rfl
    · exact ⟨zs, h1.cons x, by simp [h2]⟩
    · exact ⟨x :: zs, h1.cons_cons x, by simp [h2]⟩
theorem mem_upI {m : Nat} {x : Int} (h : 0 ≤ x ∧ x < m) : x ∈ upI m := List.mem_map.mpr ⟨x.toNat, List.mem_range.mpr (by omega), by omega⟩
theorem upI_len (n : Nat) : (upI n).length = n := by simp [upI]
theorem upI_nat {n : Nat} {x : Int} (h : x ∈ upI n) : ∃ i : Nat, x = i ∧ i < n := by
  obtain ⟨i, hi, rfl⟩ := List.mem_map.mp h
  exact ⟨i, rfl, List.mem_range.mp hi⟩
theorem erase_perm {α : Type} : ∀ {xs : List α} {i : Nat} {x : α}, xs[i]? = some x → (x :: xs.eraseIdx i).Perm xs
  | [], i, x, h => by simp at h
  | y :: xs, 0, x, h => by simp at h; subst h; exact List.Perm.refl _
  | y :: xs, i + 1, x, h => by
    have h : xs[i]? = some x := by simpa using h
    have := erase_perm h
    show (x :: y :: xs.eraseIdx i).Perm (y :: xs)
    exact (List.Perm.swap y x _).trans (this.cons y)
theorem map_erase (ns : List Int) (j : Nat) : (ns.map D.int).eraseIdx j = (ns.eraseIdx j).map D.int := by
  induction ns generalizing j with
  | nil => rfl
  | cons n ns ih => cases j with
    | zero => rfl
    | succ j => simp [List.eraseIdx, ih]
theorem rg_list (n : Nat) (h : n ≤ 1000000) : rgD .lst [.int (n : Int)] = some (.lst ((upI n).map .int)) := by
  have hok : RgOk 0 (n : Int) := by
    unfold RgOk
    omega
  unfold rgD
  simp only
  rw [if_pos hok]
  simp only [rngD, upI, List.map_map, Int.toNat_natCast]
  have : (List.range n).map (fun i : Nat => D.int (0 + (i : Nat))) = (List.range n).map (D.int ∘ fun i : Nat => (i : Int)) := List.map_congr_left fun i _ => by simp
  rw [this]
/-- the body, whatever makes the list -/
def bo (f : List D → Option D) : Ss Dk := seqF (parF [2, 3] (consI true (mapF f (consL (varF 1) nilL)) (consI true (mapF dispL nilL) nilI))) (seqF lp1__law_order (retF (thawF (mapF tupleD (consL (varF 3) nilL)))))
theorem bo_eq : b__law_order = bo (rgD .lst) := rfl
theorem par_rg (f : List D → Option D) (d : D) (ds : List D) (s : Dk) (h : f [d] = some (.lst ds)) (hn : noLs ds = true) : parF [2, 3] (consI true (mapF f (consL (varF 1) nilL)) (consI true (mapF dispL nilL) nilI)) [.val .deck, .val d, .non, .non, .non] s = some (.nx, [.val .deck, .val d, .own false ds, .own false [], .non], s) := by
  have z0 : 0 ≤ sizeLine := Nat.zero_le _
  simp [h, z0, hn]
theorem bd_order (n : Int) (left found : List Int) (x : Sl) (s : Dk) (hx : ∀ t ds, x ≠ .ownD t ds) (hI : SI s) (hl : left ≠ [] ∧ left.length ≤ 30 ∧ found.length ≤ 30) :
    ∃ (j : Nat) (y : Int) (s' : Dk), left[j]? = some y ∧ SI s' ∧ bd1__law_order [.val .deck, .val (.int n), .own false (left.map .int), .own false (found.map .int), x] s = some (.nx, [.val .deck, .val (.int n), .own false ((left.eraseIdx j).map .int), .own false ((found ++ [y]).map .int), x], s') := by
  have hp : 0 < left.length := by
    cases left with
    | nil => exact absurd rfl hl.1
    | cons x r => simp
  obtain ⟨r, s', h1, h2, h3, h4⟩ := v_draw left.length s hI ⟨by omega, by omega⟩
  have hj : r.toNat < left.length := by omega
  refine ⟨r.toNat, left[r.toNat], s', List.getElem?_eq_getElem hj, h4, ?_⟩
  have hr : 0 ≤ r ∧ r < 9223372036854775808 := ⟨h2, by omega⟩
  have z1 : found.length < sizeLine := by rw [sizeL]; omega
  have hth : ∀ (y : Sl) (z w : En), L3.thaw (y :: z) (x :: w) = x :: L3.thaw z w := fun y z w => thaw_any hx y z w
  unfold bd1__law_order
  simp [h1, hr, hj, z1, hth, map_erase]
theorem lp_order (n : Nat) (s : Dk) (hI : SI s) (hn : n ≤ 24) : ∃ (x : Sl) (is : List Int) (s' : Dk), lp1__law_order [.val .deck, .val (.int n), .own false ((upI n).map .int), .own false [], .non] s = some (.nx, [.val .deck, .val (.int n), .own false [], .own false (is.map .int), x], s') ∧ is.Perm (upI n) ∧ SI s' ∧ (∀ t ds, x ≠ .ownD t ds) := by
  have hr := range_nat n (by omega)
  obtain ⟨ρ', s', q1, q2, x, left, found, rfl, hx, hp, hl⟩ := loop_ix (S := Dk) (tg := putV 4) (b := bd1__law_order) (fun i : Nat => .int (0 + (i : Nat))) (fun i ρ s => SI s ∧ ∃ (x : Sl) (left found : List Int), ρ = [.val .deck, .val (.int n), .own false (left.map .int), .own false (found.map .int), x] ∧ (∀ t ds, x ≠ .ownD t ds) ∧ (found ++ left).Perm (upI n) ∧ found.length = i) (List.range n)
      [.val .deck, .val (.int n), .own false ((upI n).map .int), .own false [], .non] s ⟨hI, .non, _, [], rfl, nn, by simp, rfl⟩ (fun i hi ρ s h => by
      obtain ⟨hs, x, left, found, rfl, hx, hp, hl⟩ := h
      have hik : i < n := by simpa using hi
      have hlen := hp.length_eq
      rw [List.length_append, upI_len] at hlen
      have hne : left ≠ [] := fun z => by
        subst z
        simp at hlen
        omega
      obtain ⟨j, y, s', q1, q2, q3⟩ := bd_order n left found (.val (.int (i : Nat))) s (nv _) hs ⟨hne, by omega, by omega⟩
      refine ⟨[.val .deck, .val (.int n), .own false (left.map .int), .own false (found.map .int), .val (.int (i : Nat))], _, s', by simp, q3, q2, _, left.eraseIdx j, found ++ [y], rfl, nv _, ?_, by simp [hl]⟩
      rw [List.append_assoc]
      exact ((erase_perm q1).append_left found).trans hp)
  rw [List.length_range] at hl
  have hlen := hp.length_eq
  rw [List.length_append, upI_len] at hlen
  have : left = [] := List.length_eq_zero_iff.mp (by omega)
  subst this
  rw [List.append_nil] at hp
  refine ⟨x, found, s', ?_, hp, q2, hx⟩
  unfold lp1__law_order
  rw [d_forF, d_rangeL, d_consL, d_varF]
  simp only [d_nilL, List.getElem?_cons_succ, List.getElem?_cons_zero, hr]
  simpa using q1
theorem bo_ok (f : List D → Option D) (n : Nat) (s : Dk) (hI : SI s) (hn : n ≤ 24) (h : f [.int n] = some (.lst ((upI n).map .int))) : ∃ (is : List Int) (ρ' : En) (s' : Dk), bo f [.val .deck, .val (.int n), .non, .non, .non] s = some (.rt (tupI is), ρ', s') ∧ is.Perm (upI n) ∧ SI s' := by
  obtain ⟨x, is, s', e2, hp, hI', hx⟩ := lp_order n s hI hn
  have e3 := par_rg f (.int n) ((upI n).map .int) s h (noLs_ints _)
  have e5 : tupleD [.lst (is.map .int)] = some (tupI is) := rfl
  refine ⟨is, [.val .deck, .val (.int n), .own false [], .own false (is.map .int), x], s', ?_, hp, hI'⟩
  unfold bo
  rw [d_seqF, e3]
  simp only
  rw [d_seqF, e2]
  simp only
  simp [thaw_any hx, -c_tupL, e5]
theorem g_order_eq : g__law_order = defN 2 5 (bo (rgD .lst)) := rfl
theorem v_order (n : Nat) (s : Dk) (hI : SI s) (hn : n ≤ 24) : ∃ (is : List Int) (s' : Dk), g__law_order [.deck, .int n] s = some (tupI is, s') ∧ is.Perm (upI n) ∧ SI s' := by
  obtain ⟨is, ρ', s', e, hp, hI'⟩ := bo_ok (rgD .lst) n s hI hn (rg_list n (by omega))
  rw [g_order_eq]
  exact ⟨is, s', defN_rt rfl rfl e, hp, hI'⟩
end Q
end
section
set_option Elab.async false
set_option linter.all false
set_option maxRecDepth 100000
set_option autoImplicit false
set_option maxHeartbeats 2000000
namespace Q
open PySem PySem.Spec PyProof.Rows L2 L3
/-! ### families: what masks have in common -/
def toI (xs : List Nat) : List Int := xs.map fun x : Nat => (x : Int)
theorem natL_ints (xs : List Nat) : natL xs = .lst ((toI xs).map .int) := by simp [natL, toI]
def posD (xs : List Nat) : List D := xs.map fun x : Nat => .int (x : Int)
theorem pos_ints (xs : List Nat) : posD xs = (toI xs).map .int := by simp [posD, toI]
theorem mem_toI {a : Nat} {xs : List Nat} : (a : Int) ∈ toI xs ↔ a ∈ xs := by
  unfold toI
  rw [List.mem_map]
  constructor
  · rintro ⟨b, hb, e⟩
    have : b = a := by omega
    rwa [← this]
  · exact fun h => ⟨a, h, rfl⟩
theorem noLs_pos (xs : List Nat) : noLs (posD xs) = true := by rw [pos_ints]; exact noLs_ints _
@[simp] theorem noL_natL (xs : List Nat) : noL (natL xs) = false := rfl
theorem nin_pos (a : Nat) (xs : List Nat) : ninD (.int (a : Int)) (.lst (posD xs)) = some (.bl (!decide (a ∈ xs))) := by
  rw [pos_ints, o_ninL, okD_int, okD_L, inB_ints]
  have : decide ((a : Int) ∈ toI xs) = decide (a ∈ xs) := by rw [Bool.eq_iff_iff, decide_eq_true_eq, decide_eq_true_eq]; exact mem_toI
  rw [this]
  rfl
def met1 (k : Nat) (z : List Nat) (o : Nat) : List Nat := if o &&& k ∈ z then z else z ++ [o &&& k]
theorem metS_eq (ms : List Nat) (k : Nat) : metS ms k = ms.foldl (met1 k) ms := rfl
theorem met_len (k : Nat) : ∀ (os z : List Nat), (os.foldl (met1 k) z).length ≤ z.length + os.length
  | [], z => by simp
  | o :: os, z => by
    rw [List.foldl_cons, List.length_cons]
    have h1 := met_len k os (met1 k z o)
    have h2 : (met1 k z o).length ≤ z.length + 1 := by
      unfold met1
      split
      · omega
      · simp
    omega
def EM4 (ms : List Nat) (mo : D) (most : Int) (k : Nat) (near : List Nat) (x : Sl) : En := [.val (natL ms), .val mo, .val (.int most), .val (.int (k : Int)), .own false (posD near), x]
theorem lp1_met (ms : List Nat) (mo : D) (most : Int) (k : Nat) (x5 : Sl) (s : Dk) (p5 : Pl x5) (hl : ms.length ≤ 24) : ∃ y5 : Sl, lp1__law_met (EM4 ms mo most k ms x5) s = some (.nx, EM4 ms mo most k (metS ms k) y5, s) ∧ Pl y5 := by
  obtain ⟨ρ', s', q1, rfl, y5, rfl, q5⟩ := loop_ix (S := Dk) (tg := putV 5) (b := bd1__law_met) (fun i : Nat => .int (i : Int)) (fun i ρ s' => s' = s ∧ ∃ y5 : Sl, ρ = EM4 ms mo most k ((ms.take i).foldl (met1 k) ms) y5 ∧ Pl y5) ms (EM4 ms mo most k ms x5) s ⟨rfl, x5, rfl, p5⟩ (fun i hi ρ s' z => by
    obtain ⟨rfl, y5, rfl, q5⟩ := z
    have hlen := met_len k (ms.take i) ms
    rw [List.length_take] at hlen
    have e1 := band_nat ms[i] k
    have e2 := nin_pos (ms[i] &&& k) ((ms.take i).foldl (met1 k) ms)
    have e3 : (ms.take (i + 1)).foldl (met1 k) ms = met1 k ((ms.take i).foldl (met1 k) ms) ms[i] := by
      rw [List.take_add_one, List.getElem?_eq_getElem hi, List.foldl_append]
      rfl
    rw [e3]
    generalize (ms.take i).foldl (met1 k) ms = z at *
    have z1 : (posD z).length < sizeLine := by rw [sizeL]; unfold posD; rw [List.length_map]; omega
    refine ⟨EM4 ms mo most k z (.val (.int (ms[i] : Int))), EM4 ms mo most k (met1 k z ms[i]) (.val (.int (ms[i] : Int))), s', by simp [EM4], ?_, rfl, _, rfl, nv _⟩
    by_cases hin : ms[i] &&& k ∈ z
    · have e4 : met1 k z ms[i] = z := if_pos hin
      rw [e4]
      simp [bd1__law_met, EM4, e1, -o_ninL, e2, hin]
    · have e4 : met1 k z ms[i] = z ++ [ms[i] &&& k] := if_neg hin
      have e5 : posD (z ++ [ms[i] &&& k]) = posD z ++ [.int ((ms[i] &&& k : Nat) : Int)] := by simp [posD]
      rw [e4]
      simp only [EM4, e5]
      simp [bd1__law_met, e1, -o_ninL, e2, hin, z1])
  rw [List.take_length] at q1
  refine ⟨y5, ?_, q5⟩
  unfold lp1__law_met
  rw [d_forF]
  have : itemsF (varF 0) (EM4 ms mo most k ms x5) s' = some (ms.map fun i : Nat => .int (i : Int), EM4 ms mo most k ms x5, s') := by simp [EM4, natL]
  rw [this]
  have hf : L3.freeze (EM4 ms mo most k ms x5) = EM4 ms mo most k ms x5 := by simp [EM4, freeze_any p5]
  simp only [hf]
  exact q1
def OwnV (x : Sl) : Prop := Pl x ∨ ∃ ds, x = .own false ds
theorem bd2_met (ms : List Nat) (mo : D) (most : Nat) (k : Nat) (x4 x5 : Sl) (s : Dk) (p4 : OwnV x4) (p5 : Pl x5) (hm : most ≤ 24) (bd : Nat) (h : Fam ms most bd) : ∃ (ns : List Nat) (y4 y5 : Sl), bd2__law_met [.val (natL ms), .val mo, .val (.int most), .val (.int (k : Int)), x4, x5] s = some (.nx, [.val (natL ns), .val mo, .val (.int most), .val (.int (k : Int)), y4, y5], s) ∧ Fam ns most bd ∧ OwnV y4 ∧ Pl y5 := by
  have hl := h.few
  obtain ⟨y5, e1, q5⟩ := lp1_met ms mo most k x5 s p5 (by omega)
  have a1 : setF true 4 (mapF listD (consL (varF 0) nilL)) [.val (natL ms), .val mo, .val (.int most), .val (.int (k : Int)), x4, x5] s = some (.nx, EM4 ms mo most k ms x5, s) := by
    have e0 : listD [natL ms] = some (.lst (posD ms)) := rfl
    rcases p4 with p4 | ⟨ds, rfl⟩
    · simp [e0, noLs_pos, EM4, thaw_any p4, thaw_any p5]
    · simp [e0, noLs_pos, EM4, thaw_any p5]
  have e2 : lenD [.lst (posD (metS ms k))] = some (.int ((metS ms k).length : Int)) := by simp [posD]
  by_cases hc : (metS ms k).length ≤ most
  · have hc' : ((metS ms k).length : Int) ≤ (most : Int) := by omega
    refine ⟨metS ms k, .val (natL (metS ms k)), y5, ?_, h.met k hc, .inl (nv _), q5⟩
    unfold bd2__law_met
    rw [d_seqF, a1]; simp only
    rw [d_seqF, e1]; simp only
    have e3 : noL (.lst (posD (metS ms k))) = false := rfl
    simp [EM4, posD, hc', thaw_any q5, freeze_any q5]
    rfl
  · have hc' : ¬ ((metS ms k).length : Int) ≤ (most : Int) := by omega
    refine ⟨ms, .own false (posD (metS ms k)), y5, ?_, h, .inr ⟨_, rfl⟩, q5⟩
    unfold bd2__law_met
    rw [d_seqF, a1]; simp only
    rw [d_seqF, e1]; simp only
    simp [EM4, posD, hc', thaw_any q5, freeze_any q5]
theorem v_met (ms more : List Nat) (most bd : Nat) (s : Dk) (hm : most ≤ 24) (h : Fam ms most bd) : ∃ ns, g__law_met [natL ms, natL more, .int most] s = some (natL ns, s) ∧ Fam ns most bd := by
  obtain ⟨ρ', s', q1, rfl, ns, y3, y4, y5, rfl, hF, p3, p4, p5⟩ := loop_ix (S := Dk) (tg := putV 3) (b := bd2__law_met) (fun i : Nat => .int (i : Int)) (fun _ ρ s' => s' = s ∧ ∃ (ns : List Nat) (y3 y4 y5 : Sl), ρ = [.val (natL ns), .val (natL more), .val (.int most), y3, y4, y5] ∧ Fam ns most bd ∧ Pl y3 ∧ OwnV y4 ∧ Pl y5) more [.val (natL ms), .val (natL more), .val (.int most), .non, .non, .non] s ⟨rfl, ms, .non, .non, .non, rfl, h, nn, .inl nn, nn⟩ (fun i hi ρ s' z => by
    obtain ⟨rfl, ns, y3, y4, y5, rfl, hF, p3, p4, p5⟩ := z
    obtain ⟨ns2, z4, z5, e, hF2, r4, r5⟩ := bd2_met ns (natL more) most more[i] y4 y5 s' p4 p5 hm bd hF
    exact ⟨[.val (natL ns), .val (natL more), .val (.int most), .val (.int (more[i] : Int)), y4, y5], _, s', by simp, e, rfl, ns2, _, z4, z5, rfl, hF2, nv _, r4, r5⟩)
  refine ⟨ns, ?_, hF⟩
  have e1 : lp2__law_met [.val (natL ms), .val (natL more), .val (.int most), .non, .non, .non] s' = some (.nx, [.val (natL ns), .val (natL more), .val (.int most), y3, y4, y5], s') := by
    rw [← q1]
    simp [lp2__law_met, natL]
  have key : b__law_met [.val (natL ms), .val (natL more), .val (.int most), .non, .non, .non] s' = some (.rt (natL ns), [.val (natL ns), .val (natL more), .val (.int most), y3, y4, y5], s') := by
    unfold b__law_met
    rw [d_seqF, e1]
    simp
  exact defN_rt rfl rfl key
/-! ### tables of families -/
theorem map_range {α : Type} (ms : List Nat) (f : Nat → α) : ms.map f = (List.range ms.length).map fun i => f (mkM ms i) := by
  refine List.ext_getElem? fun i => ?_
  rw [List.getElem?_map, List.getElem?_map]
  by_cases h : i < ms.length
  · rw [mk_get h, List.getElem?_range h]
    rfl
  · rw [List.getElem?_eq_none (by omega), List.getElem?_eq_none (by rw [List.length_range]; omega)]
    rfl
theorem natL_range (ms : List Nat) : natL ms = .lst ((List.range ms.length).map fun i => .int (mkM ms i : Nat)) := by
  unfold natL
  rw [map_range]
theorem v_table (ms : List Nat) (s : Dk) (hl : ms.length ≤ 24) : g__law_table [natL ms] s = some (tabD ms.length (leM ms), s) := by
  have hq : q2__law_table [.val (natL ms), .non, .non] s = some (.lst ((List.range ms.length).map fun x => rowD ms.length (leM ms x)), [.val (natL ms), .non, .non], s) := by
    unfold q2__law_table
    refine (comp_map (List.range ms.length) (fun i => .int (mkM ms i : Nat)) (fun _ => true) (fun x => rowD ms.length (leM ms x)) (ρ1 := [.val (natL ms), .non, .non]) (s1 := s) (by simp [natL_range]) (by simp) (by rw [sizeL, List.length_range]; omega) (fun x hx => ?_)).trans (by simp)
    have hq1 : q1__law_table [.val (natL ms), .val (.int (mkM ms x : Nat)), .non] s = some (.lst ((List.range ms.length).map fun y => .int (b1 (leM ms x y))), [.val (natL ms), .val (.int (mkM ms x : Nat)), .non], s) := by
      unfold q1__law_table
      refine (comp_map (List.range ms.length) (fun i => .int (mkM ms i : Nat)) (fun _ => true) (fun y => .int (b1 (leM ms x y))) (ρ1 := [.val (natL ms), .val (.int (mkM ms x : Nat)), .non]) (s1 := s) (by simp [natL_range]) (by simp) (by rw [sizeL, List.length_range]; omega) (fun y hy => ?_)).trans (by simp)
      have e1 := band_nat (mkM ms x) (mkM ms y)
      have e2 := eq_int ((mkM ms x &&& mkM ms y : Nat) : Int) (mkM ms x : Nat)
      have e3 : int1D [.bl (decide (((mkM ms x &&& mkM ms y : Nat) : Int) = (mkM ms x : Nat)))] = some (.int (b1 (leM ms x y))) := by
        have : decide (((mkM ms x &&& mkM ms y : Nat) : Int) = (mkM ms x : Nat)) = leM ms x y := by
          unfold leM
          rw [Bool.eq_iff_iff, decide_eq_true_eq, beq_iff_eq]
          omega
        rw [this]
        rfl
      refine ⟨[.val (natL ms), .val (.int (mkM ms x : Nat)), .val (.int (mkM ms y : Nat))], [.val (natL ms), .val (.int (mkM ms x : Nat)), .val (.int (mkM ms y : Nat))], by simp, by simp, by simp, fun _ => ⟨[.val (natL ms), .val (.int (mkM ms x : Nat)), .val (.int (mkM ms y : Nat))], ?_, by simp⟩⟩
      simp only [d_mapF, d_consL, d_binF, d_varF, d_nilL, List.getElem?_cons_succ, List.getElem?_cons_zero, e1, e2, e3]
    refine ⟨[.val (natL ms), .val (.int (mkM ms x : Nat)), .non], [.val (natL ms), .val (.int (mkM ms x : Nat)), .non], by simp, by simp, by simp, fun _ => ⟨[.val (natL ms), .val (.int (mkM ms x : Nat)), .non], ?_, by simp⟩⟩
    rw [d_mapF, d_consL, hq1]
    simp only [d_nilL, c_tupL]
    rfl
  have key : b__law_table [.val (natL ms), .non, .non] s = some (.rt (tabD ms.length (leM ms)), [.val (natL ms), .non, .non], s) := by
    unfold b__law_table
    rw [d_retF, d_mapF, d_consL, hq]
    simp only [d_nilL, c_tupL]
    rfl
  exact defN_rt rfl rfl key
theorem v__law_over (n : Nat) (le : Nat → Nat → Bool) (s : Dk) (hn : n ≤ 24) : g__law_over [tabD n le] s = some (tabD n (over le), s) := by
  have hr := range_nat n (by omega)
  have hq : q2__law_over [.val (tabD n le), .non, .non] s = some (.lst ((List.range n).map fun x => rowD n (over le x)), [.val (tabD n le), .non, .non], s) := by
    unfold q2__law_over
    refine (comp_map (List.range n) (fun i : Nat => .int (0 + (i : Nat))) (fun _ => true) (fun x => rowD n (over le x)) (ρ1 := [.val (tabD n le), .non, .non]) (s1 := s) (by simp [len_tab, hr]) (by simp) (by rw [sizeL, List.length_range]; omega) (fun x hx => ?_)).trans (by simp)
    have hx := List.mem_range.mp hx
    have hq1 : q1__law_over [.val (tabD n le), .val (.int (x : Int)), .non] s = some (.lst ((List.range n).map fun y => .int (b1 (over le x y))), [.val (tabD n le), .val (.int (x : Int)), .non], s) := by
      unfold q1__law_over
      refine (comp_map (List.range n) (fun y => rowD n (le y)) (fun _ => true) (fun y => .int (b1 (over le x y))) (ρ1 := [.val (tabD n le), .val (.int (x : Int)), .non]) (s1 := s) (by simp [tabD]) (by simp) (by rw [sizeL, List.length_range]; omega) (fun y hy => ?_)).trans (by simp)
      have e := ix_row (le y) hx
      refine ⟨[.val (tabD n le), .val (.int (x : Int)), .val (rowD n (le y))], [.val (tabD n le), .val (.int (x : Int)), .val (rowD n (le y))], by simp, by simp, by simp, fun _ => ⟨[.val (tabD n le), .val (.int (x : Int)), .val (rowD n (le y))], ?_, by simp⟩⟩
      simp [e, over]
    refine ⟨[.val (tabD n le), .val (.int (x : Int)), .non], [.val (tabD n le), .val (.int (x : Int)), .non], by simp, by simp, by simp, fun _ => ⟨[.val (tabD n le), .val (.int (x : Int)), .non], ?_, by simp⟩⟩
    rw [d_mapF, d_consL, hq1]
    simp only [d_nilL, c_tupL]
    rfl
  have key : b__law_over [.val (tabD n le), .non, .non] s = some (.rt (tabD n (over le)), [.val (tabD n le), .non, .non], s) := by
    unfold b__law_over
    rw [d_retF, d_mapF, d_consL, hq]
    simp only [d_nilL, c_tupL]
    rfl
  exact defN_rt rfl rfl key
end Q
end
section
set_option Elab.async false
set_option linter.all false
set_option maxRecDepth 100000
set_option autoImplicit false
set_option maxHeartbeats 2000000
namespace Q
open PySem PySem.Spec PyProof.Rows L2 L3
/-! ### families that are drawn -/
theorem cut_to (xs : List D) (i : Nat) : L3.cutD xs none (some (i : Int)) = xs.take i := by
  unfold L3.cutD
  rw [HT.sIx_none, HT.sIx_nat]
  simp
theorem fam_one {a most : Nat} (h : 1 ≤ most) (ha : a < 256) : Fam [a] most 256 := by
  refine ⟨by simp, by simp, by simpa using h, fun x hx y hy => ?_, ⟨a, by simp, fun x hx => ?_⟩, fun x hx => ?_⟩
  · simp at hx hy
    subst hx
    subst hy
    simp
  · simp at hx
    subst hx
    exact Nat.and_self _
  · simp at hx
    omega
def chainM (j : Nat) : List Nat := (List.range j).map fun k => 2 ^ k - 1
theorem chain_fam : ∀ j : Fin 9, 1 ≤ j.val → famB (chainM j.val) j.val 256 = true := by decide +kernel
def flatM (w : Nat) : List Nat := [2 ^ w - 1, 0] ++ (List.range w).map fun k => 2 ^ k
theorem flat_fam : ∀ w : Fin 6, 2 ≤ w.val → ∀ t : Fin 8, 1 ≤ t.val → famB ((flatM w.val).take t.val) t.val 256 = true := by decide +kernel
theorem flat_len (w : Nat) : (flatM w).length = w + 2 := by simp [flatM]
theorem flat_take {w most : Nat} (hw : 2 ≤ w ∧ w ≤ 5) (hm : 1 ≤ most) : Fam ((flatM w).take most) most 256 := by
  by_cases h : most ≤ 7
  · exact fam_of (flat_fam ⟨w, by omega⟩ hw.1 ⟨most, by omega⟩ hm)
  · have e : (flatM w).take most = (flatM w).take 7 := by rw [List.take_of_length_le (by rw [flat_len]; omega), List.take_of_length_le (by rw [flat_len]; omega)]
    rw [e]
    exact (fam_of (flat_fam ⟨w, by omega⟩ hw.1 7 (by decide))).mono (by show 7 ≤ most; omega) (Nat.le_refl _)
def leanM : List Nat := [0, 1, 3, 4, 7]
theorem lean_fam : famB leanM 5 256 = true ∧ famB (leanM.take 1) 1 256 = true := by decide +kernel
def xr (a b : Nat) : Nat := (Builtin.bitXor (a : Int) (b : Int)).toNat
theorem bxor_nat (a b : Nat) : bxorD (.int (a : Int)) (.int (b : Int)) = some (.int (xr a b : Nat)) := by
  show some (D.int (Builtin.bitXor (a : Int) (b : Int))) = _
  have h1 : Builtin.bitAnd (a : Int) (b : Int) = ((a &&& b : Nat) : Int) := by
    have := band_nat a b
    have h : some (D.int (Builtin.bitAnd (a : Int) (b : Int))) = some (.int ((a &&& b : Nat) : Int)) := this
    injection h with h
    injection h
  have h2 : Builtin.bitOr (a : Int) (b : Int) = ((a ||| b : Nat) : Int) := by
    unfold Builtin.bitOr Builtin.bitAnd
    rw [decide_eq_false (show ¬ (0 : Int) ≤ Builtin.bitNot (a : Int) by unfold Builtin.bitNot; omega), decide_eq_false (show ¬ (0 : Int) ≤ Builtin.bitNot (b : Int) by unfold Builtin.bitNot; omega)]
    have e : ∀ x : Nat, Builtin.bitNot (Builtin.bitNot (x : Int)) = (x : Int) := fun x => by unfold Builtin.bitNot; omega
    simp only [e, Int.toNat_natCast]
  have h3 : a &&& b ≤ a ||| b := Nat.le_trans Nat.and_le_left Nat.left_le_or
  unfold xr
  unfold Builtin.bitXor
  rw [h1, h2]
  have : (((a ||| b : Nat) : Int) - ((a &&& b : Nat) : Int)).toNat = ((a ||| b) - (a &&& b)) := by omega
  rw [this]
  congr 2
  omega
def F0 (most : Nat) (way : Int) (w : Nat) : En := [.val .deck, .val (.int most), .val (.int way), .val (.int w), .val (.lst []), .val (.int (2 ^ w - 1 : Nat)), .non, .non, .non, .non]
theorem F0_freeze (most : Nat) (way : Int) (w : Nat) : L3.freeze (F0 most way w) = F0 most way w := by simp [F0]
def GivesF (most : Nat) (f : Ss Dk) (ρ : En) (s : Dk) : Prop := ∃ (ms : List Nat) (ρ' : En) (s' : Dk), f ρ s = some (.rt (natL ms), ρ', s') ∧ Fam ms most 256 ∧ SI s'
def fa_A : Ss Dk := parF [2, 3, 4] (consI false (callF g__law_draw (consL (varF 0) (consL (cstF (.int 9)) nilL))) (consI false (binF addD (cstF (.int 2)) (callF g__law_draw (consL (varF 0) (consL (cstF (.int 4)) nilL)))) (consI false (mapF dispL nilL) nilI)))
def fa_B : Ss Dk := setF false 5 (binF subD (binF shlD (cstF (.int 1)) (varF 3)) (cstF (.int 1)))
def fa_0 : Ss Dk := retF q1__law_family
def fa_1 : Ss Dk := retF (sliceF (binF addD (mapF dispL (consL (varF 5) (consL (cstF (.int 0)) nilL))) q2__law_family) noO (someO (varF 1)))
def fa_2 : Ss Dk := retF (sliceF (mapF dispL (consL (cstF (.int 0)) (consL (cstF (.int 1)) (consL (cstF (.int 3)) (consL (cstF (.int 4)) (consL (cstF (.int 7)) nilL)))))) noO (someO (iteF' (truF (binF gtD (varF 1) (cstF (.int 4)))) (cstF (.int 5)) (cstF (.int 1)))))
def fa_3 : Ss Dk := retF (callF g__law_met (consL (mapF dispL (consL (varF 5) nilL)) (consL q3__law_family (consL (varF 1) nilL))))
def fa_4 : Ss Dk := seqF lp1__law_family (retF (callF g__law_met (consL (mapF dispL (consL (varF 5) nilL)) (consL (varF 4) (consL (varF 1) nilL)))))
def fa_5 : Ss Dk := retF (callF g__law_met (consL (mapF dispL (consL (cstF (.int 63)) nilL)) (consL (mapF dispL (consL (cstF (.int 56)) (consL (cstF (.int 38)) (consL (cstF (.int 21)) (consL (cstF (.int 11)) (consL (cstF (.int 33)) (consL (cstF (.int 18)) (consL (cstF (.int 12)) nilL)))))))) (consL (varF 1) nilL))))
def fa_6 : Ss Dk := retF (callF g__law_met (consL (mapF dispL (consL (cstF (.int 255)) nilL)) (consL (mapF dispL (consL (cstF (.int 85)) (consL (cstF (.int 51)) (consL (cstF (.int 153)) (consL (cstF (.int 15)) (consL (cstF (.int 165)) (consL (cstF (.int 195)) (consL (cstF (.int 105)) nilL)))))))) (consL (varF 1) nilL))))
def fa_7 : Ss Dk := retF (callF g__law_met (consL (mapF dispL (consL (varF 5) nilL)) (consL q5__law_family (consL (varF 1) nilL))))
def fa_t (i : Int) : EvB Dk := truF (binF eqD (varF 2) (cstF (.int i)))
def fa_u (i : Int) : EvB Dk := truF (binF gtD (varF 1) (cstF (.int i)))
theorem fa_eq : b__law_family = seqF fa_A (seqF fa_B (seqF (ifF (fa_t 0) fa_0 skipF) (seqF (ifF (fa_t 1) fa_1 skipF) (seqF (ifF (fa_t 2) fa_2 skipF) (seqF (ifF (fa_t 3) fa_3 skipF) (seqF (ifF (fa_t 4) fa_4 skipF) (seqF (ifF (andB (fa_t 5) (fa_u 14)) fa_5 skipF) (seqF (ifF (andB (fa_t 6) (fa_u 15)) fa_6 skipF) fa_7)))))))) := rfl
theorem fa_ways (A B G0 G1 G2 G3 G4 G5 G6 G7 : Ss Dk) (most : Nat) (way : Int) (w : Nat) (ρ ρ1 : En) (s s2 : Dk) (a1 : A ρ s = some (.nx, ρ1, s2)) (a2 : B ρ1 s2 = some (.nx, F0 most way w, s2))
    (g0 : GivesF most G0 (F0 most way w) s2) (g1 : GivesF most G1 (F0 most way w) s2) (g2 : GivesF most G2 (F0 most way w) s2) (g3 : GivesF most G3 (F0 most way w) s2) (g4 : GivesF most G4 (F0 most way w) s2) (g5 : GivesF most G5 (F0 most way w) s2) (g6 : GivesF most G6 (F0 most way w) s2) (g7 : GivesF most G7 (F0 most way w) s2) :
    GivesF most (seqF A (seqF B (seqF (ifF (fa_t 0) G0 skipF) (seqF (ifF (fa_t 1) G1 skipF) (seqF (ifF (fa_t 2) G2 skipF) (seqF (ifF (fa_t 3) G3 skipF) (seqF (ifF (fa_t 4) G4 skipF) (seqF (ifF (andB (fa_t 5) (fa_u 14)) G5 skipF) (seqF (ifF (andB (fa_t 6) (fa_u 15)) G6 skipF) G7))))))))) ρ s := by
  have tt : ∀ i : Int, fa_t i (F0 most way w) s2 = some (decide (way = i), F0 most way w, s2) := fun i => by simp [fa_t, F0]
  have uu : ∀ i : Int, fa_u i (F0 most way w) s2 = some (decide (i < (most : Int)), F0 most way w, s2) := fun i => by simp [fa_u, F0]
  generalize F0 most way w = ρ0 at *
  unfold GivesF
  by_cases w0 : way = 0
  · obtain ⟨R', ρ', s', q1, q2, q3⟩ := g0
    exact ⟨R', ρ', s', by simp [a1, a2, tt, w0, q1], q2, q3⟩
  by_cases w1 : way = 1
  · obtain ⟨R', ρ', s', q1, q2, q3⟩ := g1
    exact ⟨R', ρ', s', by simp [a1, a2, tt, w1, q1], q2, q3⟩
  by_cases w2 : way = 2
  · obtain ⟨R', ρ', s', q1, q2, q3⟩ := g2
    exact ⟨R', ρ', s', by simp [a1, a2, tt, w2, q1], q2, q3⟩
  by_cases w3 : way = 3
  · obtain ⟨R', ρ', s', q1, q2, q3⟩ := g3
    exact ⟨R', ρ', s', by simp [a1, a2, tt, w3, q1], q2, q3⟩
  by_cases w4 : way = 4
  · obtain ⟨R', ρ', s', q1, q2, q3⟩ := g4
    exact ⟨R', ρ', s', by simp [a1, a2, tt, w4, q1], q2, q3⟩
  by_cases w5 : way = 5
  · by_cases u : (14 : Int) < (most : Int)
    · obtain ⟨R', ρ', s', q1, q2, q3⟩ := g5
      exact ⟨R', ρ', s', by simp [a1, a2, tt, uu, w5, u, q1], q2, q3⟩
    · obtain ⟨R', ρ', s', q1, q2, q3⟩ := g7
      exact ⟨R', ρ', s', by simp [a1, a2, tt, uu, w5, u, q1], q2, q3⟩
  by_cases w6 : way = 6
  · by_cases u : (15 : Int) < (most : Int)
    · obtain ⟨R', ρ', s', q1, q2, q3⟩ := g6
      exact ⟨R', ρ', s', by simp [a1, a2, tt, uu, w6, u, q1], q2, q3⟩
    · obtain ⟨R', ρ', s', q1, q2, q3⟩ := g7
      exact ⟨R', ρ', s', by simp [a1, a2, tt, uu, w6, u, q1], q2, q3⟩
  obtain ⟨R', ρ', s', q1, q2, q3⟩ := g7
  exact ⟨R', ρ', s', by simp [a1, a2, tt, uu, w0, w1, w2, w3, w4, w5, w6, q1], q2, q3⟩
section
variable {most w : Nat} {way : Int}
theorem one_shl {k : Nat} (h : k ≤ 100) : shlD (.int 1) (.int (k : Int)) = some (.int ((2 ^ k : Nat) : Int)) := by
  have e := shl_nat 1 k ⟨by omega, by omega⟩
  rw [Nat.one_mul] at e
  exact e
theorem two_shl {k : Nat} (h : k ≤ 100) : shlD (.int 2) (.int (k : Int)) = some (.int ((2 * 2 ^ k : Nat) : Int)) := shl_nat 2 k ⟨by omega, by omega⟩
theorem sub_one {a : Nat} (h : 1 ≤ a) : subD (.int (a : Int)) (.int 1) = some (.int ((a - 1 : Nat) : Int)) := by
  rw [o_sub]
  congr 2
  omega
theorem pow_pos' (k : Nat) : 1 ≤ 2 ^ k := Nat.one_le_two_pow
theorem full_lt (hw : w ≤ 5) : 2 ^ w - 1 < 256 := by
  have : 2 ^ w ≤ 2 ^ 5 := Nat.pow_le_pow_right (by decide) hw
  omega
def F7 (most : Nat) (way : Int) (w : Nat) (k : D) : En := [.val .deck, .val (.int most), .val (.int way), .val (.int w), .val (.lst []), .val (.int (2 ^ w - 1 : Nat)), .non, .val k, .non, .non]
theorem fam_0 (s : Dk) (hI : SI s) (hm : 1 ≤ most ∧ most ≤ 24) : GivesF most fa_0 (F0 most way w) s := by
  obtain ⟨d, s1, e1, d0, d1, i1⟩ := v_draw 8 s hI (by decide)
  obtain ⟨d, rfl⟩ : ∃ k : Nat, d = k := ⟨d.toNat, by omega⟩
  obtain ⟨j, ej, hj⟩ : ∃ j : Nat, (if (1 + (d : Int)) < (most : Int) then (1 + (d : Int)) else (most : Int)) = (j : Int) ∧ 1 ≤ j ∧ j ≤ 8 ∧ j ≤ most := by
    by_cases h : (1 + (d : Int)) < (most : Int)
    · rw [if_pos h]
      exact ⟨1 + d, by omega, by omega, by omega, by omega⟩
    · rw [if_neg h]
      exact ⟨most, rfl, by omega, by omega, by omega⟩
  have hr := range_nat j (by omega)
  have hq : q1__law_family (F0 most way w) s = some (natL (chainM j), F0 most way w, s1) := by
    unfold q1__law_family
    refine (comp_map (List.range j) (fun i : Nat => .int (0 + (i : Nat))) (fun _ => true) (fun k => .int ((2 ^ k - 1 : Nat) : Int)) (ρ1 := F0 most way w) (s1 := s1) (by simp [F0, e1, ej, hr]) (by simp [F0]) (by rw [sizeL, List.length_range]; omega) (fun k hk => ?_)).trans (by simp [natL, chainM])
    have hk := List.mem_range.mp hk
    have e2 := one_shl (k := k) (by omega)
    have e3 := sub_one (pow_pos' k)
    refine ⟨F7 most way w (.int (k : Int)), F7 most way w (.int (k : Int)), by simp [F0, F7], by simp, by simp, fun _ => ⟨F7 most way w (.int (k : Int)), ?_, by simp [F0, F7]⟩⟩
    simp only [d_binF, d_varF, d_cstF, F7, List.getElem?_cons_succ, List.getElem?_cons_zero, e2, e3]
  refine ⟨chainM j, F0 most way w, s1, ?_, (fam_of (chain_fam ⟨j, by omega⟩ hj.1)).mono hj.2.2 (Nat.le_refl _), i1⟩
  unfold fa_0
  rw [d_retF, hq]
theorem q2_f (s : Dk) (hw : 2 ≤ w ∧ w ≤ 5) : q2__law_family (F0 most way w) s = some (.lst (posD ((List.range w).map fun k => 2 ^ k)), F0 most way w, s) := by
  have hr := range_nat w (by omega)
  unfold q2__law_family
  refine (comp_map (List.range w) (fun i : Nat => .int (0 + (i : Nat))) (fun _ => true) (fun k => .int ((2 ^ k : Nat) : Int)) (ρ1 := F0 most way w) (s1 := s) (by simp [F0, hr]) (by simp [F0]) (by rw [sizeL, List.length_range]; omega) (fun k hk => ?_)).trans (by simp [posD])
  have hk := List.mem_range.mp hk
  have e2 := one_shl (k := k) (by omega)
  refine ⟨F7 most way w (.int (k : Int)), F7 most way w (.int (k : Int)), by simp [F0, F7], by simp, by simp, fun _ => ⟨F7 most way w (.int (k : Int)), ?_, by simp [F0, F7]⟩⟩
  simp only [d_binF, d_varF, d_cstF, F7, List.getElem?_cons_succ, List.getElem?_cons_zero, e2]
theorem fam_1 (s : Dk) (hI : SI s) (hm : 1 ≤ most ∧ most ≤ 24) (hw : 2 ≤ w ∧ w ≤ 5) : GivesF most fa_1 (F0 most way w) s := by
  have e1 := q2_f (most := most) (way := way) s hw
  have z2 := tup2 .non
  have e2 : addD (.lst [.int (2 ^ w - 1 : Nat), .int 0]) (.lst (posD ((List.range w).map fun k => 2 ^ k))) = some (.lst (posD (flatM w))) := by
    rw [o_addL, if_pos (by rw [sizeL]; simp [posD]; omega)]
    simp [posD, flatM]
  have e3 : sliceD (.lst (posD (flatM w))) none (some (most : Int)) = some (natL ((flatM w).take most)) := by
    rw [o_slL, cut_to]
    simp [natL, posD, List.map_take]
  refine ⟨(flatM w).take most, F0 most way w, s, ?_, flat_take hw hm.1, hI⟩
  have a1 : binF addD (mapF dispL (consL (varF 5) (consL (cstF (.int 0)) nilL))) q2__law_family (F0 most way w) s = some (.lst (posD (flatM w)), F0 most way w, s) := by
    rw [d_binF]
    have : mapF dispL (consL (varF 5) (consL (cstF (.int 0)) nilL)) (F0 most way w) s = some (.lst [.int (2 ^ w - 1 : Nat), .int 0], F0 most way w, s) := by simp [F0, z2]
    rw [this]
    simp only [e1, e2]
  unfold fa_1
  rw [d_retF, d_sliceF, a1]
  simp only [d_noO, d_someO, F0, d_varF, List.getElem?_cons_succ, List.getElem?_cons_zero, e3]
theorem fam_2 (s : Dk) (hI : SI s) (hm : 1 ≤ most ∧ most ≤ 24) : GivesF most fa_2 (F0 most way w) s := by
  have z5 : 5 ≤ sizeLine := by rw [sizeL]; omega
  have e3 : ∀ k : Nat, sliceD (.lst [.int 0, .int 1, .int 3, .int 4, .int 7]) none (some (k : Int)) = some (natL (leanM.take k)) := fun k => by
    rw [o_slL, cut_to]
    have : [D.int 0, .int 1, .int 3, .int 4, .int 7] = posD leanM := rfl
    rw [this]
    simp [natL, posD, List.map_take]
  by_cases h : (4 : Int) < (most : Int)
  · refine ⟨leanM.take 5, F0 most way w, s, ?_, (fam_of lean_fam.1).mono (by omega) (Nat.le_refl _), hI⟩
    have e4 : sliceD (.lst [.int 0, .int 1, .int 3, .int 4, .int 7]) none (some 5) = some (natL (leanM.take 5)) := e3 5
    simp [fa_2, F0, z5, h, -o_slL, e4]
  · refine ⟨leanM.take 1, F0 most way w, s, ?_, (fam_of lean_fam.2).mono hm.1 (Nat.le_refl _), hI⟩
    have e4 : sliceD (.lst [.int 0, .int 1, .int 3, .int 4, .int 7]) none (some 1) = some (natL (leanM.take 1)) := e3 1
    simp [fa_2, F0, z5, h, -o_slL, e4]
theorem met_ok (f g : Ev Dk) (a : Nat) (more : List Nat) {ρ ρ2 : En} {s s2 : Dk} (hm : 1 ≤ most ∧ most ≤ 24) (ha : a < 256) (hI : SI s2) (e1 : f ρ s = some (natL [a], ρ, s)) (e2 : g ρ s = some (natL more, ρ2, s2)) (e3 : varF 1 ρ2 s2 = some (.int most, ρ2, s2)) : GivesF most (retF (callF g__law_met (consL f (consL g (consL (varF 1) nilL))))) ρ s := by
  obtain ⟨ns, e4, hF⟩ := v_met [a] more most 256 s2 hm.2 (fam_one hm.1 ha)
  refine ⟨ns, ρ2, s2, ?_, hF, hI⟩
  rw [d_retF, d_callF, d_consL, e1]
  simp only [d_consL, e2, e3, d_nilL, e4]
theorem full_L (s : Dk) : mapF dispL (consL (varF 5) nilL) (F0 most way w) s = some (natL [2 ^ w - 1], F0 most way w, s) := by
  have z1 : 1 ≤ sizeLine := by rw [sizeL]; omega
  simp [F0, z1, natL]
theorem fam_3 (s : Dk) (hI : SI s) (hm : 1 ≤ most ∧ most ≤ 24) (hw : 2 ≤ w ∧ w ≤ 5) : GivesF most fa_3 (F0 most way w) s := by
  have hr := range_nat w (by omega)
  have hq : q3__law_family (F0 most way w) s = some (natL ((List.range w).map fun k => xr (2 ^ w - 1) (2 ^ k)), F0 most way w, s) := by
    unfold q3__law_family
    refine (comp_map (List.range w) (fun i : Nat => .int (0 + (i : Nat))) (fun _ => true) (fun k => .int (xr (2 ^ w - 1) (2 ^ k) : Nat)) (ρ1 := F0 most way w) (s1 := s) (by simp [F0, hr]) (by simp [F0]) (by rw [sizeL, List.length_range]; omega) (fun k hk => ?_)).trans (by simp [natL])
    have hk := List.mem_range.mp hk
    have e2 := one_shl (k := k) (by omega)
    have e3 := bxor_nat (2 ^ w - 1) (2 ^ k)
    refine ⟨F7 most way w (.int (k : Int)), F7 most way w (.int (k : Int)), by simp [F0, F7], by simp, by simp, fun _ => ⟨F7 most way w (.int (k : Int)), ?_, by simp [F0, F7]⟩⟩
    simp only [d_binF, d_varF, d_cstF, F7, List.getElem?_cons_succ, List.getElem?_cons_zero, e2, e3]
  exact met_ok _ _ _ _ hm (full_lt hw.2) hI (full_L s) hq (by simp [F0])
theorem fam_5 (s : Dk) (hI : SI s) (hm : 1 ≤ most ∧ most ≤ 24) : GivesF most fa_5 (F0 most way w) s := by
  have z1 : 1 ≤ sizeLine := by rw [sizeL]; omega
  have z7 : 7 ≤ sizeLine := by rw [sizeL]; omega
  exact met_ok (ρ2 := F0 most way w) _ _ 63 [56, 38, 21, 11, 33, 18, 12] hm (by decide) hI (by simp [z1, natL]) (by simp [z7, natL]) (by simp [F0])
theorem fam_6 (s : Dk) (hI : SI s) (hm : 1 ≤ most ∧ most ≤ 24) : GivesF most fa_6 (F0 most way w) s := by
  have z1 : 1 ≤ sizeLine := by rw [sizeL]; omega
  have z7 : 7 ≤ sizeLine := by rw [sizeL]; omega
  exact met_ok (ρ2 := F0 most way w) _ _ 255 [85, 51, 153, 15, 165, 195, 105] hm (by decide) hI (by simp [z1, natL]) (by simp [z7, natL]) (by simp [F0])
theorem some_nats : ∀ {xs : List D} {ys : List (Option D)}, PySem.Paired (fun (_ : D) (o : Option D) => ∃ k : Nat, o = some (.int (k : Int))) xs ys → ∃ ns : List Nat, ys.filterMap id = posD ns
  | [], _, .nil => ⟨[], rfl⟩
  | x :: xs, _, .cons h r => by
    obtain ⟨ns, h1⟩ := some_nats r
    obtain ⟨k, rfl⟩ := h
    exact ⟨k :: ns, by simp [h1, posD]⟩
theorem fam_7 (s : Dk) (hI : SI s) (hm : 1 ≤ most ∧ most ≤ 24) (hw : 2 ≤ w ∧ w ≤ 5) : GivesF most fa_7 (F0 most way w) s := by
  obtain ⟨d, s1, e1, d0, d1, i1⟩ := v_draw 7 s hI (by decide)
  obtain ⟨d, rfl⟩ : ∃ k : Nat, d = k := ⟨d.toNat, by omega⟩
  have hr : rangeD [.int (1 + (d : Int))] = some ((List.range (1 + d)).map fun i : Nat => .int (0 + (i : Nat))) := by
    rw [show (1 + (d : Int)) = ((1 + d : Nat) : Int) by omega]
    exact range_nat (1 + d) (by omega)
  have hfull : 0 < ((2 ^ w - 1 : Nat) : Int) + 1 ∧ ((2 ^ w - 1 : Nat) : Int) + 1 < 1000 := by
    have := full_lt hw.2
    omega
  obtain ⟨ys, s2, q1, q2, q3⟩ := comp_rel (own := [9]) (it := rangeL (consL (binF addD (cstF (.int 1)) (callF g__law_draw (consL (varF 0) (consL (cstF (.int 7)) nilL)))) nilL)) (tg := putV 9) (cond := yesB) (elt := callF g__law_draw (consL (varF 0) (consL (binF addD (varF 5) (cstF (.int 1))) nilL))) (ρ := F0 most way w) (ρ1 := F0 most way w) (s := s) (s1 := s1) (items := (List.range (1 + d)).map fun i : Nat => .int (0 + (i : Nat)))
    SI (fun (_ : D) (o : Option D) => ∃ k : Nat, o = some (.int (k : Int))) (by simp [F0, e1, hr]) (by simp [F0]) i1 (by rw [sizeL, List.length_map, List.length_range]; omega) (fun x hx s hs => by
      obtain ⟨i, hi, rfl⟩ := List.mem_map.mp hx
      obtain ⟨r, s', r1, r2, _, r4⟩ := v_draw _ s hs hfull
      obtain ⟨r, rfl⟩ : ∃ k : Nat, r = k := ⟨r.toNat, by omega⟩
      refine ⟨(F0 most way w).set 9 (.val (.int (0 + (i : Nat)))), by simp [F0], .inr ⟨(F0 most way w).set 9 (.val (.int (0 + (i : Nat)))), s, .int (r : Int), (F0 most way w).set 9 (.val (.int (0 + (i : Nat)))), s', by simp, ?_, by simp [F0], r4, r, rfl⟩⟩
      simp only [d_callF, d_consL, d_varF, d_binF, d_cstF, d_nilL, F0, List.set_cons_succ, List.set_cons_zero, List.getElem?_cons_succ, List.getElem?_cons_zero, o_add, r1])
  obtain ⟨ns, e4⟩ := some_nats q3
  rw [e4] at q1
  exact met_ok _ _ _ ns hm (full_lt hw.2) q2 (full_L s) q1 (by simp [F0])
end
end Q
end
section
set_option Elab.async false
set_option linter.all false
set_option maxRecDepth 100000
set_option autoImplicit false
set_option maxHeartbeats 2000000
namespace Q
open PySem PySem.Spec PyProof.Rows L2 L3
section
variable {most w : Nat} {way : Int}
def F4 (most : Nat) (way : Int) (w : Nat) (zs : List Nat) (x6 : Sl) : En := [.val .deck, .val (.int most), .val (.int way), .val (.int w), .val (natL zs), .val (.int (2 ^ w - 1 : Nat)), x6, .non, .non, .non]
theorem bd1_fam (zs : List Nat) (b : Nat) (s : Dk) (hb : b ≤ 5) (hz : zs.length ≤ 100) : ∃ zs2 : List Nat, bd1__law_family (F4 most way w zs (.val (.int (b : Int)))) s = some (.nx, F4 most way w zs2 (.val (.int (b : Int))), s) ∧ zs2.length ≤ zs.length + 10 := by
  have hr := range_nat (b + 1) (by omega)
  have hr : rangeD [.int ((b : Int) + 1)] = some ((List.range (b + 1)).map fun i : Nat => .int (0 + (i : Nat))) := hr
  have hq : q4__law_family (F4 most way w zs (.val (.int (b : Int)))) s = some (natL ((List.range (b + 1)).map fun a => xr (2 * 2 ^ b - 1) (2 ^ a - 1)), F4 most way w zs (.val (.int (b : Int))), s) := by
    unfold q4__law_family
    refine (comp_map (List.range (b + 1)) (fun i : Nat => .int (0 + (i : Nat))) (fun _ => true) (fun a => .int (xr (2 * 2 ^ b - 1) (2 ^ a - 1) : Nat)) (ρ1 := F4 most way w zs (.val (.int (b : Int)))) (s1 := s) (by simp [F4, hr]) (by simp [F4]) (by rw [sizeL, List.length_range]; omega) (fun a ha => ?_)).trans (by simp [natL])
    have ha := List.mem_range.mp ha
    have e1 := two_shl (k := b) (by omega)
    have e2 := one_shl (k := a) (by omega)
    have e3 := sub_one (a := 2 * 2 ^ b) (by have := pow_pos' b; omega)
    have e4 := sub_one (pow_pos' a)
    have e5 := bxor_nat (2 * 2 ^ b - 1) (2 ^ a - 1)
    refine ⟨(F4 most way w zs (.val (.int (b : Int)))).set 8 (.val (.int (a : Int))), (F4 most way w zs (.val (.int (b : Int)))).set 8 (.val (.int (a : Int))), by simp [F4], by simp, by simp, fun _ => ⟨(F4 most way w zs (.val (.int (b : Int)))).set 8 (.val (.int (a : Int))), ?_, by simp [F4]⟩⟩
    simp only [d_binF, d_varF, d_cstF, F4, List.set_cons_succ, List.set_cons_zero, List.getElem?_cons_succ, List.getElem?_cons_zero, e1, e2, e3, e4, e5]
  refine ⟨zs ++ (List.range (b + 1)).map fun a => xr (2 * 2 ^ b - 1) (2 ^ a - 1), ?_, by rw [List.length_append, List.length_map, List.length_range]; omega⟩
  have e6 : addD (natL zs) (natL ((List.range (b + 1)).map fun a => xr (2 * 2 ^ b - 1) (2 ^ a - 1))) = some (natL (zs ++ (List.range (b + 1)).map fun a => xr (2 * 2 ^ b - 1) (2 ^ a - 1))) := by
    unfold natL
    rw [o_addL, if_pos (by rw [sizeL]; simp; omega)]
    simp
  unfold bd1__law_family
  rw [d_setFf, d_binF]
  have e7 : varF 4 (F4 most way w zs (.val (.int (b : Int)))) s = some (natL zs, F4 most way w zs (.val (.int (b : Int))), s) := by simp [F4]
  rw [e7]
  simp only [hq, e6]
  simp [F4, natL]
theorem fam_4 (s : Dk) (hI : SI s) (hm : 1 ≤ most ∧ most ≤ 24) (hw : 2 ≤ w ∧ w ≤ 5) : GivesF most fa_4 (F0 most way w) s := by
  have hr := range_nat w (by omega)
  obtain ⟨ρ', s', q1, rfl, zs, x6, rfl, p6, hz⟩ := loop_ix (S := Dk) (tg := putV 6) (b := bd1__law_family) (fun i : Nat => .int (0 + (i : Nat))) (fun i ρ s' => s' = s ∧ ∃ (zs : List Nat) (x6 : Sl), ρ = F4 most way w zs x6 ∧ Pl x6 ∧ zs.length ≤ 10 * i) (List.range w) (F0 most way w) s ⟨rfl, [], .non, rfl, nn, by simp⟩ (fun i hi ρ s' z => by
    obtain ⟨rfl, zs, x6, rfl, p6, hz⟩ := z
    have hi' : i < w := by simpa using hi
    obtain ⟨zs2, e, hz2⟩ := bd1_fam (most := most) (way := way) (w := w) zs i s' (by omega) (by omega)
    exact ⟨F4 most way w zs (.val (.int (i : Int))), _, s', by simp [F4], e, rfl, zs2, _, rfl, nv _, by omega⟩)
  have e1 : lp1__law_family (F0 most way w) s' = some (.nx, F4 most way w zs x6, s') := by
    unfold lp1__law_family
    rw [d_forF]
    have : rangeL (consL (varF 3) nilL) (F0 most way w) s' = some ((List.range w).map fun i : Nat => .int (0 + (i : Nat)), F0 most way w, s') := by simp [F0, hr]
    rw [this]
    simp only [F0_freeze]
    exact q1
  have z1 : 1 ≤ sizeLine := by rw [sizeL]; omega
  obtain ⟨ns, ρ', s2, e2, hF, i2⟩ := met_ok (most := most) (mapF dispL (consL (varF 5) nilL)) (varF 4) (2 ^ w - 1) zs (ρ := F4 most way w zs x6) (ρ2 := F4 most way w zs x6) (s := s') (s2 := s') hm (full_lt hw.2) hI (by simp [F4, z1, natL]) (by simp [F4]) (by simp [F4])
  refine ⟨ns, ρ', s2, ?_, hF, i2⟩
  unfold fa_4
  rw [d_seqF, e1]
  exact e2
theorem v_family (s : Dk) (hI : SI s) (hm : 1 ≤ most ∧ most ≤ 24) : ∃ (ms : List Nat) (s' : Dk), g__law_family [.deck, .int most] s = some (natL ms, s') ∧ Fam ms most 256 ∧ SI s' := by
  obtain ⟨way, s1, e1, _, _, i1⟩ := v_draw 9 s hI (by decide)
  obtain ⟨d, s2, e2, d0, d1, i2⟩ := v_draw 4 s1 i1 (by decide)
  obtain ⟨w, ew, hw⟩ : ∃ w : Nat, 2 + d = (w : Int) ∧ 2 ≤ w ∧ w ≤ 5 := ⟨(2 + d).toNat, by omega, by omega, by omega⟩
  have z0 : 0 ≤ sizeLine := Nat.zero_le _
  have a1 : fa_A [.val .deck, .val (.int most), .non, .non, .non, .non, .non, .non, .non, .non] s = some (.nx, [.val .deck, .val (.int most), .val (.int way), .val (.int w), .val (.lst []), .non, .non, .non, .non, .non], s2) := by
    simp [fa_A, e1, e2, ew, z0]
  have e3 := one_shl (k := w) (by omega)
  have e4 := sub_one (pow_pos' w)
  have a2 : fa_B [.val .deck, .val (.int most), .val (.int way), .val (.int w), .val (.lst []), .non, .non, .non, .non, .non] s2 = some (.nx, F0 most way w, s2) := by
    unfold fa_B
    rw [d_setFf]
    simp only [d_binF, d_varF, d_cstF, List.getElem?_cons_succ, List.getElem?_cons_zero, e3, e4]
    simp [F0]
  have key := fa_ways fa_A fa_B fa_0 fa_1 fa_2 fa_3 fa_4 fa_5 fa_6 fa_7 most way w _ _ s s2 a1 a2 (fam_0 s2 i2 hm) (fam_1 s2 i2 hm hw) (fam_2 s2 i2 hm) (fam_3 s2 i2 hm hw) (fam_4 s2 i2 hm hw) (fam_5 s2 i2 hm) (fam_6 s2 i2 hm) (fam_7 s2 i2 hm hw)
  rw [← fa_eq] at key
  obtain ⟨ms, ρ', s', q1, q2, q3⟩ := key
  exact ⟨ms, s', defN_rt rfl rfl q1, q2, q3⟩
end
end Q
end
section
set_option Elab.async false
set_option linter.all false
set_option maxRecDepth 100000
set_option autoImplicit false
set_option maxHeartbeats 2000000
namespace Q
open PySem PySem.Spec PyProof.Rows L2 L3
/-! ### houses that are drawn -/
def EH (most : Nat) (way : Int) (M x4 x5 x6 : Sl) : En := [.val .deck, .val (.int most), .val (.int way), M, x4, x5, x6, .non, .non, .non]
theorem natL_posD (xs : List Nat) : natL xs = .lst (posD xs) := rfl
theorem shl9 (y : Nat) (h : y < 512) : shlD (.int (y : Int)) (.int 9) = some (.int ((y * 512 : Nat) : Int)) := shl_nat y 9 ⟨by omega, by omega⟩
section
variable {most : Nat} {way : Int}
theorem q1_house (one other : List Nat) (ds : List D) (x : Nat) (s : Dk) (ho : ∀ y ∈ other, y < 512) (hl : other.length ≤ 24) : q1__law_house (EH most way (.own false ds) (.val (natL one)) (.val (natL other)) (.val (.int (x : Int)))) s = some (.lst (posD (other.map fun y => x + y * 512)), EH most way (.own false ds) (.val (natL one)) (.val (natL other)) (.val (.int (x : Int))), s) := by
  unfold q1__law_house
  refine (comp_map other (fun y : Nat => .int (y : Int)) (fun _ => true) (fun y => .int ((x + y * 512 : Nat) : Int)) (ρ1 := EH most way (.own false ds) (.val (natL one)) (.val (natL other)) (.val (.int (x : Int)))) (s1 := s) (by simp [EH, natL]) (by simp [EH]) (by rw [sizeL]; omega) (fun y hy => ?_)).trans (by simp [posD])
  have e1 := shl9 y (ho y hy)
  have e2 : addD (.int (x : Int)) (.int ((y * 512 : Nat) : Int)) = some (.int ((x + y * 512 : Nat) : Int)) := by rw [o_add]; congr 2
  refine ⟨(EH most way (.own false ds) (.val (natL one)) (.val (natL other)) (.val (.int (x : Int)))).set 8 (.val (.int (y : Int))), (EH most way (.own false ds) (.val (natL one)) (.val (natL other)) (.val (.int (x : Int)))).set 8 (.val (.int (y : Int))), by simp [EH], by simp, by simp, fun _ => ⟨(EH most way (.own false ds) (.val (natL one)) (.val (natL other)) (.val (.int (x : Int)))).set 8 (.val (.int (y : Int))), ?_, by simp [EH]⟩⟩
  simp only [d_binF, d_varF, d_cstF, EH, List.set_cons_succ, List.set_cons_zero, List.getElem?_cons_succ, List.getElem?_cons_zero, e1, e2]
theorem lp1_house (one other : List Nat) (s : Dk) (h1 : ∀ x ∈ one, x < 512) (ho : ∀ y ∈ other, y < 512) (hl1 : one.length ≤ 24) (hl : other.length ≤ 24) : ∃ x6 : Sl, lp1__law_house (EH most way (.own false []) (.val (natL one)) (.val (natL other)) .non) s = some (.nx, EH most way (.own false (posD (one.flatMap fun x => other.map fun y => x + y * 512))) (.val (natL one)) (.val (natL other)) x6, s) ∧ Pl x6 := by
  have flen : ∀ l : List Nat, (l.flatMap fun x => other.map fun y => x + y * 512).length = l.length * other.length := fun l => by
    induction l with
    | nil => simp
    | cons x l ih => rw [List.flatMap_cons, List.length_append, ih, List.length_map, List.length_cons, Nat.succ_mul]; omega
  obtain ⟨ρ', s', q1, rfl, x6, rfl, p6⟩ := loop_ix (S := Dk) (tg := putV 6) (b := bd1__law_house) (fun i : Nat => .int (i : Int)) (fun i ρ s' => s' = s ∧ ∃ x6 : Sl, ρ = EH most way (.own false (posD ((one.take i).flatMap fun x => other.map fun y => x + y * 512))) (.val (natL one)) (.val (natL other)) x6 ∧ Pl x6) one (EH most way (.own false []) (.val (natL one)) (.val (natL other)) .non) s ⟨rfl, .non, by simp [posD], nn⟩ (fun i hi ρ s' z => by
    obtain ⟨rfl, x6, rfl, p6⟩ := z
    have e0 := q1_house (most := most) (way := way) one other (posD ((one.take i).flatMap fun x => other.map fun y => x + y * 512)) one[i] s' ho hl
    have e1 : (one.take (i + 1)).flatMap (fun x => other.map fun y => x + y * 512) = ((one.take i).flatMap fun x => other.map fun y => x + y * 512) ++ other.map fun y => one[i] + y * 512 := by
      rw [List.take_add_one, List.getElem?_eq_getElem hi, List.flatMap_append]
      simp
    have hlen : ((one.take i).flatMap fun x => other.map fun y => x + y * 512).length ≤ 24 * 24 := by
      rw [flen, List.length_take]
      exact Nat.mul_le_mul (by omega) hl
    rw [e1]
    generalize ((one.take i).flatMap fun x => other.map fun y => x + y * 512) = zs at *
    have z1 : (posD zs).length + (posD (other.map fun y => one[i] + y * 512)).length ≤ sizeLine := by rw [sizeL]; simp [posD]; omega
    have e2 : posD (zs ++ other.map fun y => one[i] + y * 512) = posD zs ++ posD (other.map fun y => one[i] + y * 512) := by simp [posD]
    have hn := noLs_pos (other.map fun y => one[i] + y * 512)
    refine ⟨EH most way (.own false (posD zs)) (.val (natL one)) (.val (natL other)) (.val (.int (one[i] : Int))), EH most way (.own false (posD zs ++ posD (other.map fun y => one[i] + y * 512))) (.val (natL one)) (.val (natL other)) (.val (.int (one[i] : Int))), s', by simp [EH], ?_, rfl, _, by rw [e2], nv _⟩
    unfold bd1__law_house
    have e3 : extendF 3 (consL q1__law_house nilL) (EH most way (.own false (posD zs)) (.val (natL one)) (.val (natL other)) (.val (.int (one[i] : Int)))) s' = some (.non, EH most way (.own false (posD zs ++ posD (other.map fun y => one[i] + y * 512))) (.val (natL one)) (.val (natL other)) (.val (.int (one[i] : Int))), s') := by
      rw [d_extendF, d_consL, e0]
      simp only [d_nilL, EH, List.getElem?_cons_succ, List.getElem?_cons_zero, z1, hn, if_true]
      rfl
    rw [d_exprF, d_thawF, e3]
    simp [EH])
  rw [List.take_length] at q1
  refine ⟨x6, ?_, p6⟩
  rw [← q1]
  simp [lp1__law_house, EH, natL]
def HI : Ss Dk := ifF (truF (binF eqD (varF 2) (cstF (.int 0)))) (seqF (setF false 4 (callF g__law_family (consL (varF 0) (consL (mapF minD (consL (varF 1) (consL (cstF (.int 5)) nilL))) nilL)))) (seqF (setF false 5 (callF g__law_family (consL (varF 0) (consL (binF divD (varF 1) (mapF lenD (consL (varF 4) nilL))) nilL)))) lp1__law_house)) (ifF (truF (binF eqD (varF 2) (cstF (.int 1)))) (seqF (setF false 4 (callF g__law_family (consL (varF 0) (consL (binF subD (varF 1) (binF divD (varF 1) (cstF (.int 2)))) nilL)))) (seqF (setF false 5 (callF g__law_family (consL (varF 0) (consL (mapF maxD (consL (cstF (.int 1)) (consL (binF subD (varF 1) (mapF lenD (consL (varF 4) nilL))) nilL))) nilL)))) (setF true 3 (binF addD (varF 4) q2__law_house)))) (setF false 3 (callF g__law_family (consL (varF 0) (consL (varF 1) nilL)))))
def HGives (most : Nat) (way : Int) (f : Ss Dk) (s : Dk) : Prop := ∃ (ms : List Nat) (M x4 x5 x6 : Sl) (s' : Dk), f (EH most way (.own false []) .non .non .non) s = some (.nx, EH most way M x4 x5 x6, s') ∧ (M = .own false (posD ms) ∨ M = .val (natL ms)) ∧ Fam ms 24 262144 ∧ Pl x4 ∧ Pl x5 ∧ Pl x6 ∧ SI s'
theorem h_0 (s : Dk) (hI : SI s) (hm : 5 ≤ most ∧ most ≤ 24) : HGives most way (seqF (setF false 4 (callF g__law_family (consL (varF 0) (consL (mapF minD (consL (varF 1) (consL (cstF (.int 5)) nilL))) nilL)))) (seqF (setF false 5 (callF g__law_family (consL (varF 0) (consL (binF divD (varF 1) (mapF lenD (consL (varF 4) nilL))) nilL)))) lp1__law_house)) s := by
  obtain ⟨one, s1, e1, f1, i1⟩ := v_family (most := 5) s hI (by decide)
  have e1 : g__law_family [.deck, .int 5] s = some (natL one, s1) := e1
  have l1 := f1.few
  have l0 : 0 < one.length := by
    cases one with
    | nil => exact absurd rfl f1.ne
    | cons a l => simp
  have hd : 1 ≤ most / one.length := (Nat.le_div_iff_mul_le l0).mpr (by omega)
  have hd2 : most / one.length ≤ 24 := Nat.le_trans (Nat.div_le_self _ _) hm.2
  obtain ⟨other, s2, e2, f2, i2⟩ := v_family (most := most / one.length) s1 i1 ⟨hd, hd2⟩
  have m1 : minD [.int (most : Int), .int 5] = some (.int 5) := by
    rw [c_min2]
    congr 2
    by_cases h : (5 : Int) < (most : Int)
    · rw [if_pos h]
    · rw [if_neg h]; omega
  have m2 : divD (.int (most : Int)) (.int (one.length : Int)) = some (.int ((most / one.length : Nat) : Int)) := by
    rw [o_div, if_pos (by omega)]
    rfl
  have ln : lenD [natL one] = some (.int (one.length : Int)) := by simp [natL]
  obtain ⟨x6, e3, p6⟩ := lp1_house (most := most) (way := way) one other s2 (fun x hx => by have := f1.bd x hx; omega) (fun x hx => by have := f2.bd x hx; omega) (by omega) (Nat.le_trans f2.few hd2)
  have fam := Fam.prod (f1.mono (Nat.le_refl _) (by decide : 256 ≤ 512)) (f2.mono (Nat.le_refl _) (by decide : 256 ≤ 512))
  have hmul : one.length * (most / one.length) ≤ 24 := Nat.le_trans (Nat.mul_div_le _ _) hm.2
  refine ⟨one.flatMap fun x => other.map fun y => x + y * 512, .own false (posD (one.flatMap fun x => other.map fun y => x + y * 512)), .val (natL one), .val (natL other), x6, s2, ?_, .inl rfl, fam.mono hmul (Nat.le_refl _), nv _, nv _, p6, i2⟩
  have a1 : setF false 4 (callF g__law_family (consL (varF 0) (consL (mapF minD (consL (varF 1) (consL (cstF (.int 5)) nilL))) nilL))) (EH most way (.own false []) .non .non .non) s = some (.nx, EH most way (.own false []) (.val (natL one)) .non .non, s1) := by
    rw [d_setFf]
    simp only [d_callF, d_consL, d_mapF, d_varF, d_cstF, d_nilL, EH, List.getElem?_cons_succ, List.getElem?_cons_zero, m1, e1]
    simp [natL]
  have a2 : setF false 5 (callF g__law_family (consL (varF 0) (consL (binF divD (varF 1) (mapF lenD (consL (varF 4) nilL))) nilL))) (EH most way (.own false []) (.val (natL one)) .non .non) s1 = some (.nx, EH most way (.own false []) (.val (natL one)) (.val (natL other)) .non, s2) := by
    rw [d_setFf]
    simp only [d_callF, d_consL, d_mapF, d_binF, d_varF, d_nilL, EH, List.getElem?_cons_succ, List.getElem?_cons_zero, ln, m2, e2]
    simp [natL]
  rw [d_seqF, a1]; simp only
  rw [d_seqF, a2]; simp only
  exact e3
theorem h_1 (s : Dk) (hI : SI s) (hm : 5 ≤ most ∧ most ≤ 24) : HGives most way (seqF (setF false 4 (callF g__law_family (consL (varF 0) (consL (binF subD (varF 1) (binF divD (varF 1) (cstF (.int 2)))) nilL)))) (seqF (setF false 5 (callF g__law_family (consL (varF 0) (consL (mapF maxD (consL (cstF (.int 1)) (consL (binF subD (varF 1) (mapF lenD (consL (varF 4) nilL))) nilL))) nilL)))) (setF true 3 (binF addD (varF 4) q2__law_house)))) s := by
  obtain ⟨one, s1, e1, f1, i1⟩ := v_family (most := most - most / 2) s hI (by omega)
  have l1 := f1.few
  obtain ⟨k, ek, hk⟩ : ∃ k : Nat, (if (most : Int) - (one.length : Int) > 1 then (most : Int) - (one.length : Int) else 1) = (k : Int) ∧ 1 ≤ k ∧ k ≤ 24 ∧ (one.length < most → k ≤ most - one.length) := by
    by_cases h : (most : Int) - (one.length : Int) > 1
    · rw [if_pos h]
      exact ⟨most - one.length, by omega, by omega, by omega, fun _ => by omega⟩
    · rw [if_neg h]
      exact ⟨1, rfl, by omega, by omega, fun _ => by omega⟩
  obtain ⟨other, s2, e2, f2, i2⟩ := v_family (most := k) s1 i1 ⟨hk.1, hk.2.1⟩
  have m1 : divD (.int (most : Int)) (.int 2) = some (.int ((most : Int) / 2)) := by rw [o_div, if_pos (by omega)]
  have m2 : subD (.int (most : Int)) (.int ((most : Int) / 2)) = some (.int ((most - most / 2 : Nat) : Int)) := by
    rw [o_sub]
    congr 2
    omega
  have m3 : maxD [.int 1, .int ((most : Int) - (one.length : Int))] = some (.int (k : Int)) := by rw [c_max2, ek]
  have ln : lenD [natL one] = some (.int (one.length : Int)) := by simp [natL]
  have a1 : setF false 4 (callF g__law_family (consL (varF 0) (consL (binF subD (varF 1) (binF divD (varF 1) (cstF (.int 2)))) nilL))) (EH most way (.own false []) .non .non .non) s = some (.nx, EH most way (.own false []) (.val (natL one)) .non .non, s1) := by
    rw [d_setFf]
    simp only [d_callF, d_consL, d_binF, d_varF, d_cstF, d_nilL, EH, List.getElem?_cons_succ, List.getElem?_cons_zero, m1, m2, e1]
    simp [natL]
  have a2 : setF false 5 (callF g__law_family (consL (varF 0) (consL (mapF maxD (consL (cstF (.int 1)) (consL (binF subD (varF 1) (mapF lenD (consL (varF 4) nilL))) nilL))) nilL))) (EH most way (.own false []) (.val (natL one)) .non .non) s1 = some (.nx, EH most way (.own false []) (.val (natL one)) (.val (natL other)) .non, s2) := by
    rw [d_setFf]
    simp only [d_callF, d_consL, d_mapF, d_binF, d_varF, d_cstF, d_nilL, EH, List.getElem?_cons_succ, List.getElem?_cons_zero, ln, o_sub, m3, e2]
    simp [natL]
  have hq : q2__law_house (EH most way (.own false []) (.val (natL one)) (.val (natL other)) .non) s2 = some (.lst (posD ((other.filter fun _ => decide (one.length < most)).map fun y => 511 + y * 512)), EH most way (.own false []) (.val (natL one)) (.val (natL other)) .non, s2) := by
    unfold q2__law_house
    refine (comp_map other (fun y : Nat => .int (y : Int)) (fun _ => decide (one.length < most)) (fun y => .int ((511 + y * 512 : Nat) : Int)) (ρ1 := EH most way (.own false []) (.val (natL one)) (.val (natL other)) .non) (s1 := s2) (by simp [EH, natL]) (by simp [EH]) (by rw [sizeL]; have := f2.few; omega) (fun y hy => ?_)).trans (by simp [posD])
    have e5 := shl9 y (by have := f2.bd y hy; omega)
    have e6 : addD (.int 511) (.int ((y * 512 : Nat) : Int)) = some (.int ((511 + y * 512 : Nat) : Int)) := by rw [o_add]; congr 2
    have hlt : decide ((one.length : Int) < (most : Int)) = decide (one.length < most) := by
      rw [Bool.eq_iff_iff, decide_eq_true_eq, decide_eq_true_eq]
      omega
    refine ⟨(EH most way (.own false []) (.val (natL one)) (.val (natL other)) .non).set 8 (.val (.int (y : Int))), (EH most way (.own false []) (.val (natL one)) (.val (natL other)) .non).set 8 (.val (.int (y : Int))), by simp [EH], ?_, by simp [EH], fun _ => ⟨(EH most way (.own false []) (.val (natL one)) (.val (natL other)) .non).set 8 (.val (.int (y : Int))), ?_, by simp [EH]⟩⟩
    · simp only [d_truF, d_binF, d_mapF, d_consL, d_varF, d_nilL, EH, List.set_cons_succ, List.set_cons_zero, List.getElem?_cons_succ, List.getElem?_cons_zero, ln, o_lt, o_truB, hlt]
      simp
    · simp only [d_binF, d_varF, d_cstF, EH, List.set_cons_succ, List.set_cons_zero, List.getElem?_cons_succ, List.getElem?_cons_zero, e5, e6]
  have e7 : addD (natL one) (.lst (posD ((other.filter fun _ => decide (one.length < most)).map fun y => 511 + y * 512))) = some (.lst (posD (one ++ (other.filter fun _ => decide (one.length < most)).map fun y => 511 + y * 512))) := by
    unfold natL
    have hfl := List.length_filter_le (fun _ => decide (one.length < most)) other
    rw [o_addL, if_pos (by rw [sizeL]; simp only [posD, List.length_map]; have := f2.few; omega)]
    simp [posD]
  have a3 : setF true 3 (binF addD (varF 4) q2__law_house) (EH most way (.own false []) (.val (natL one)) (.val (natL other)) .non) s2 = some (.nx, EH most way (.own false (posD (one ++ (other.filter fun _ => decide (one.length < most)).map fun y => 511 + y * 512))) (.val (natL one)) (.val (natL other)) .non, s2) := by
    have e8 : varF 4 (EH most way (.own false []) (.val (natL one)) (.val (natL other)) .non) s2 = some (natL one, EH most way (.own false []) (.val (natL one)) (.val (natL other)) .non, s2) := by simp [EH]
    rw [d_setFt, d_binF, e8]
    simp only [hq, e7]
    simp [noLs_pos, EH]
  refine ⟨one ++ (other.filter fun _ => decide (one.length < most)).map fun y => 511 + y * 512, .own false (posD (one ++ (other.filter fun _ => decide (one.length < most)).map fun y => 511 + y * 512)), .val (natL one), .val (natL other), .non, s2, ?_, .inl rfl, ?_, nv _, nv _, nn, i2⟩
  · rw [d_seqF, a1]; simp only
    rw [d_seqF, a2]; simp only
    exact a3
  · by_cases h : one.length < most
    · have : (other.filter fun _ => decide (one.length < most)) = other := by simp [h]
      rw [this]
      have := hk.2.2 h
      exact (Fam.stack (f1.mono (Nat.le_refl _) (by decide : 256 ≤ 511)) (f2.mono (Nat.le_refl _) (by decide : 256 ≤ 512))).mono (by omega) (Nat.le_refl _)
    · have : (other.filter fun _ => decide (one.length < most)) = [] := by simp [h]
      rw [this, List.map_nil, List.append_nil]
      exact f1.mono (by omega) (by decide)
theorem h_2 (s : Dk) (hI : SI s) (hm : 5 ≤ most ∧ most ≤ 24) : HGives most way (setF false 3 (callF g__law_family (consL (varF 0) (consL (varF 1) nilL)))) s := by
  obtain ⟨ms, s1, e1, f1, i1⟩ := v_family (most := most) s hI (by omega)
  refine ⟨ms, .val (natL ms), .non, .non, .non, s1, ?_, .inr rfl, f1.mono hm.2 (by decide), nn, nn, nn, i1⟩
  rw [d_setFf]
  simp only [d_callF, d_consL, d_varF, d_nilL, EH, List.getElem?_cons_succ, List.getElem?_cons_zero, e1]
  simp [natL]
theorem HI_ok (s : Dk) (hI : SI s) (hm : 5 ≤ most ∧ most ≤ 24) : HGives most way HI s := by
  have t0 : ∀ i : Int, truF (binF eqD (varF 2) (cstF (.int i))) (EH most way (.own false []) .non .non .non) s = some (decide (way = i), EH most way (.own false []) .non .non .non, s) := fun i => by simp [EH]
  unfold HI
  by_cases w0 : way = 0
  · obtain ⟨ms, M, x4, x5, x6, s', q1, r⟩ := h_0 (most := most) (way := way) s hI hm
    exact ⟨ms, M, x4, x5, x6, s', by rw [d_ifF, t0, decide_eq_true w0]; exact q1, r⟩
  · by_cases w1 : way = 1
    · obtain ⟨ms, M, x4, x5, x6, s', q1, r⟩ := h_1 (most := most) (way := way) s hI hm
      exact ⟨ms, M, x4, x5, x6, s', by rw [d_ifF, t0, decide_eq_false w0]; simp only; rw [d_ifF, t0, decide_eq_true w1]; exact q1, r⟩
    · obtain ⟨ms, M, x4, x5, x6, s', q1, r⟩ := h_2 (most := most) (way := way) s hI hm
      exact ⟨ms, M, x4, x5, x6, s', by rw [d_ifF, t0, decide_eq_false w0]; simp only; rw [d_ifF, t0, decide_eq_false w1]; exact q1, r⟩
theorem ix_nat (ms : List Nat) {k : Nat} (h : k < ms.length) : ixD (natL ms) (.int (k : Int)) = some (.int (mkM ms k : Nat)) := by
  show atI (ms.map fun x : Nat => D.int (x : Int)) (k : Int) = _
  exact atI_nat (by rw [List.getElem?_map, mk_get h]; rfl)
theorem q3_any (G : List D → Dk → Option (D × Dk)) (ms : List Nat) (is : List Int) (M x4 x5 x6 : Sl) (s s' : Dk) (hM : M = .own false (posD ms) ∨ M = .val (natL ms)) (p4 : Pl x4) (p5 : Pl x5) (p6 : Pl x6) (hl : ms.length ≤ 24) (e1 : G [.deck, .int (ms.length : Int)] s = some (tupI is, s')) (hp : is.Perm (upI ms.length)) :
    compF [9] (itemsF (thawF (callF G (consL (varF 0) (consL (thawF (mapF lenD (consL (varF 3) nilL))) nilL))))) (putV 9) yesB (thawF (binF ixD (varF 3) (varF 9))) (EH most way M x4 x5 x6) s = some (natL (is.map fun i => mkM ms i.toNat), EH most way M x4 x5 x6, s') := by
  have hlen := hp.length_eq
  rw [upI_len] at hlen
  have ln : lenD [natL ms] = some (.int (ms.length : Int)) := by simp [natL]
  have ln' : lenD [.lst (posD ms)] = some (.int (ms.length : Int)) := ln
  have hin : ∀ i ∈ is, ∃ k : Nat, i = k ∧ k < ms.length := fun i hi => upI_nat (hp.mem_iff.mp hi)
  refine (comp_map is .int (fun _ => true) (fun i => .int (mkM ms i.toNat : Nat)) (ρ1 := EH most way M x4 x5 x6) (s1 := s') ?_ ?_ (by rw [sizeL]; omega) (fun i hi => ?_)).trans (by simp [natL])
  · rcases hM with rfl | rfl
    · simp only [d_itemsF, d_thawF, d_callF, d_consL, d_mapF, d_varF, d_nilL, EH, List.getElem?_cons_succ, List.getElem?_cons_zero, ln']
      simp [e1, tupI, thaw_any p4, thaw_any p5, thaw_any p6]
    · simp only [d_itemsF, d_thawF, d_callF, d_consL, d_mapF, d_varF, d_nilL, EH, List.getElem?_cons_succ, List.getElem?_cons_zero, ln]
      simp [e1, tupI, thaw_any p4, thaw_any p5, thaw_any p6]
  · simp [EH]
  · obtain ⟨k, rfl, hk⟩ := hin i hi
    have e2 := ix_nat ms hk
    have e2' : ixD (.lst (posD ms)) (.int (k : Int)) = some (.int (mkM ms k : Nat)) := e2
    rcases hM with rfl | rfl
    · refine ⟨(EH most way (.own false (posD ms)) x4 x5 x6).set 9 (.val (.int (k : Int))), (EH most way (.own false (posD ms)) x4 x5 x6).set 9 (.val (.int (k : Int))), by simp [EH], by simp, by simp, fun _ => ⟨(EH most way (.own false (posD ms)) x4 x5 x6).set 9 (.val (.int (k : Int))), ?_, by simp [EH]⟩⟩
      simp only [d_thawF, d_binF, d_varF, EH, List.set_cons_succ, List.set_cons_zero, List.getElem?_cons_succ, List.getElem?_cons_zero, e2', Int.toNat_natCast]
      simp [thaw_any p4, thaw_any p5, thaw_any p6]
    · refine ⟨(EH most way (.val (natL ms)) x4 x5 x6).set 9 (.val (.int (k : Int))), (EH most way (.val (natL ms)) x4 x5 x6).set 9 (.val (.int (k : Int))), by simp [EH], by simp, by simp, fun _ => ⟨(EH most way (.val (natL ms)) x4 x5 x6).set 9 (.val (.int (k : Int))), ?_, by simp [EH]⟩⟩
      simp only [d_thawF, d_binF, d_varF, EH, List.set_cons_succ, List.set_cons_zero, List.getElem?_cons_succ, List.getElem?_cons_zero, e2, Int.toNat_natCast]
      simp [thaw_any p4, thaw_any p5, thaw_any p6]
theorem perm_ms (ms : List Nat) {is : List Int} (hp : is.Perm (upI ms.length)) : (is.map fun i => mkM ms i.toNat).Perm ms := by
  refine (hp.map _).trans ?_
  have : (upI ms.length).map (fun i => mkM ms i.toNat) = ms := by
    unfold upI
    rw [List.map_map]
    have h := map_range ms (fun x => x)
    rw [List.map_id'] at h
    exact h.symm
  rw [this]
def HT (G : List D → Dk → Option (D × Dk)) : Ss Dk := setF false 7 (thawF (callF g__law_table (consL (compF [9] (itemsF (thawF (callF G (consL (varF 0) (consL (thawF (mapF lenD (consL (varF 3) nilL))) nilL))))) (putV 9) yesB (thawF (binF ixD (varF 3) (varF 9)))) nilL)))
theorem HT_ok (G : List D → Dk → Option (D × Dk)) (ms : List Nat) (is : List Int) (M x4 x5 x6 : Sl) (s s' : Dk) (hM : M = .own false (posD ms) ∨ M = .val (natL ms)) (p4 : Pl x4) (p5 : Pl x5) (p6 : Pl x6) (hl : ms.length ≤ 24) (e1 : G [.deck, .int (ms.length : Int)] s = some (tupI is, s')) (hp : is.Perm (upI ms.length)) :
    HT G (EH most way M x4 x5 x6) s = some (.nx, (EH most way M x4 x5 x6).set 7 (.val (tabD ms.length (leM (is.map fun i => mkM ms i.toNat)))), s') := by
  have e2 := q3_any (most := most) (way := way) G ms is M x4 x5 x6 s s' hM p4 p5 p6 hl e1 hp
  have hlen : (is.map fun i => mkM ms i.toNat).length = ms.length := by rw [List.length_map, hp.length_eq, upI_len]
  have e3 := v_table (is.map fun i => mkM ms i.toNat) s' (by omega)
  rw [hlen] at e3
  unfold HT
  rw [d_setFf, d_thawF, d_callF, d_consL, e2]
  simp only [d_nilL, e3]
  rcases hM with rfl | rfl
  · simp [EH, thaw_any p4, thaw_any p5, thaw_any p6]
  · simp [EH, thaw_any p4, thaw_any p5, thaw_any p6]
def HA : Ss Dk := parF [2, 3] (consI false (callF g__law_draw (consL (varF 0) (consL (cstF (.int 6)) nilL))) (consI true (mapF dispL nilL) nilI))
def HR : Ss Dk := retF (iteF' (truF (binF eqD (callF g__law_draw (consL (varF 0) (consL (cstF (.int 4)) nilL))) (cstF (.int 0)))) (callF g__law_over (consL (varF 7) nilL)) (varF 7))
def hb (G : List D → Dk → Option (D × Dk)) : Ss Dk := seqF HA (seqF HI (seqF (HT G) HR))
theorem hb_eq : b__law_house = hb g__law_order := rfl
theorem hb_ok (G : List D → Dk → Option (D × Dk)) (s : Dk) (hI : SI s) (hm : 5 ≤ most ∧ most ≤ 24) (hG : ∀ (n : Nat) (s : Dk), SI s → n ≤ 24 → ∃ (is : List Int) (s' : Dk), G [.deck, .int n] s = some (tupI is, s') ∧ is.Perm (upI n) ∧ SI s') :
    ∃ (n : Nat) (le : Nat → Nat → Bool) (mt jn : Nat → Nat → Nat) (ρ' : En) (s' : Dk), hb G [.val .deck, .val (.int most), .non, .non, .non, .non, .non, .non, .non, .non] s = some (.rt (tabD n le), ρ', s') ∧ House n le mt jn ∧ SI s' := by
  obtain ⟨way, s1, e1, _, _, i1⟩ := v_draw 6 s hI (by decide)
  have z0 : 0 ≤ sizeLine := Nat.zero_le _
  have a1 : HA [.val .deck, .val (.int most), .non, .non, .non, .non, .non, .non, .non, .non] s = some (.nx, EH most way (.own false []) .non .non .non, s1) := by simp [HA, e1, z0, EH]
  obtain ⟨ms, M, x4, x5, x6, s2, a2, hM, hF, p4, p5, p6, i2⟩ := HI_ok (most := most) (way := way) s1 i1 hm
  obtain ⟨is, s3, e3, hp, i3⟩ := hG ms.length s2 i2 hF.few
  have a3 := HT_ok (most := most) (way := way) G ms is M x4 x5 x6 s2 s3 hM p4 p5 p6 hF.few e3 hp
  have hps := perm_ms ms hp
  have hH := (hF.perm hps).house
  rw [hps.length_eq] at hH
  obtain ⟨mt, jn, hH⟩ := hH
  obtain ⟨d, s4, e4, _, _, i4⟩ := v_draw 4 s3 i3 (by decide)
  generalize hle : leM (is.map fun i => mkM ms i.toNat) = le at *
  have e5 := v__law_over ms.length le s4 hF.few
  have t1 : truF (binF eqD (callF g__law_draw (consL (varF 0) (consL (cstF (.int 4)) nilL))) (cstF (.int 0))) ((EH most way M x4 x5 x6).set 7 (.val (tabD ms.length le))) s3 = some (decide (d = 0), (EH most way M x4 x5 x6).set 7 (.val (tabD ms.length le)), s4) := by
    rcases hM with rfl | rfl
    · simp [EH, e4, thaw_any p4, thaw_any p5, thaw_any p6]
    · simp [EH, e4, thaw_any p4, thaw_any p5, thaw_any p6]
  have v7 : varF 7 ((EH most way M x4 x5 x6).set 7 (.val (tabD ms.length le))) s4 = some (tabD ms.length le, (EH most way M x4 x5 x6).set 7 (.val (tabD ms.length le)), s4) := by simp [EH]
  by_cases hd : d = 0
  · refine ⟨ms.length, over le, jn, mt, (EH most way M x4 x5 x6).set 7 (.val (tabD ms.length le)), s4, ?_, hH.over, i4⟩
    unfold hb
    rw [d_seqF, a1]; simp only
    rw [d_seqF, a2]; simp only
    rw [d_seqF, a3]; simp only
    unfold HR
    rw [d_retF, d_iteF, t1, decide_eq_true hd]
    simp only [d_callF, d_consL, v7, d_nilL, e5]
  · refine ⟨ms.length, le, mt, jn, (EH most way M x4 x5 x6).set 7 (.val (tabD ms.length le)), s4, ?_, hH, i4⟩
    unfold hb
    rw [d_seqF, a1]; simp only
    rw [d_seqF, a2]; simp only
    rw [d_seqF, a3]; simp only
    unfold HR
    rw [d_retF, d_iteF, t1, decide_eq_false hd]
    simp only [v7]
theorem v__law_house (s : Dk) (hI : SI s) (hm : 5 ≤ most ∧ most ≤ 24) : ∃ (n : Nat) (le : Nat → Nat → Bool) (mt jn : Nat → Nat → Nat) (s' : Dk), g__law_house [.deck, .int most] s = some (tabD n le, s') ∧ House n le mt jn ∧ SI s' := by
  obtain ⟨n, le, mt, jn, ρ', s', e, h, i⟩ := hb_ok g__law_order s hI hm (fun n s hs hn => v_order n s hs hn)
  rw [← hb_eq] at e
  exact ⟨n, le, mt, jn, s', defN_rt rfl rfl e, h, i⟩
end
end Q
end
section
set_option Elab.async false
set_option linter.all false
set_option maxRecDepth 100000
set_option autoImplicit false
set_option maxHeartbeats 2000000
namespace Q
open PySem PySem.Spec PyProof.Rows L2 L3
section
variable {n : Nat} {le : Nat → Nat → Bool} {mt jn : Nat → Nat → Nat}
theorem range_one {n m : Nat} {q : Nat → Bool} (hm : m < n) (h1 : q m = true) (h2 : ∀ i, i < n → q i = true → i = m) : (List.range n).filter q = [m] := by
  refine List.perm_singleton.mp ((List.perm_ext_iff_of_nodup (List.nodup_range.sublist List.filter_sublist) (by simp)).mpr fun i => ?_)
  rw [List.mem_filter, List.mem_range, List.mem_singleton]
  constructor
  · rintro ⟨a, b⟩
    exact h2 i a b
  · rintro rfl
    exact ⟨hm, h1⟩
theorem eq_natnil (xs : List Nat) : eqD (natL xs) (.lst []) = some (.bl xs.isEmpty) := by
  rw [natL_ints, o_eq, okD_L, show okD 60 (.lst []) = true from okD_L [], eq_nil]
  cases xs <;> rfl
theorem filter_empty {α : Type} (l : List α) (p : α → Bool) : (l.filter p).isEmpty = l.all fun x => !p x := by
  induction l with
  | nil => rfl
  | cons a l ih => cases h : p a <;> simp [h, ih]
/-! ### what both have, by a look at all lots -/
/-! ### all of both, by a look at all lots -/
/-! ### both of all lots, by counts -/
theorem filter_lt {α : Type} {p q : α → Bool} (hpq : ∀ x, p x = true → q x = true) {a : α} (hq : q a = true) (hp : p a = false) : ∀ {l : List α}, a ∈ l → (l.filter p).length < (l.filter q).length
  | b :: l, h => by
    have mono : ∀ l : List α, (l.filter p).length ≤ (l.filter q).length := fun l => by
      induction l with
      | nil => simp
      | cons c l ih =>
        cases hc : p c with
        | true => simp [hc, hpq c hc]; omega
        | false => cases hc2 : q c <;> simp [hc, hc2] <;> omega
    rcases List.mem_cons.mp h with rfl | h
    · have := mono l
      simp [hp, hq]
      omega
    · have := filter_lt hpq hq hp h
      cases hc : p b with
      | true => simp [hc, hpq b hc]; omega
      | false => cases hc2 : q b <;> simp [hc, hc2] <;> omega
def cntD (n : Nat) (c : Nat → Nat) : D := .lst ((List.range n).map fun x => .int (c x : Nat))
theorem ix_cnt (c : Nat → Nat) {x : Nat} (hx : x < n) : ixD (cntD n c) (.int (x : Int)) = some (.int (c x : Nat)) := atI_range (fun x => D.int (c x : Nat)) hx
theorem v_greatest (L : List Nat) (c : Nat → Nat) (m : Nat) (s : Dk) (hL : ∀ w ∈ L, w < n) (hm : m ∈ L) (hc : ∀ z ∈ L, z ≠ m → c z < c m) : g__law_greatest [natL L, cntD n c] s = some (.int (m : Int), s) := by
  have h0 : 0 < L.length := by
    cases L with
    | nil => cases hm
    | cons a l => simp
  have e0 : ixD (natL L) (.int 0) = some (.int (mkM L 0 : Nat)) := ix_nat L h0
  obtain ⟨ρ', s', q1, rfl, f, x3, rfl, hf, hmax, p3⟩ := loop_ix (S := Dk) (tg := putV 3) (b := bd1__law_greatest) (fun i : Nat => .int (i : Int)) (fun i ρ s' => s' = s ∧ ∃ (f : Nat) (x3 : Sl), ρ = [.val (natL L), .val (cntD n c), .val (.int (f : Int)), x3] ∧ f ∈ L ∧ (∀ j w, j < i → L[j]? = some w → c w ≤ c f) ∧ Pl x3) L [.val (natL L), .val (cntD n c), .val (.int (mkM L 0 : Nat)), .non] s ⟨rfl, mkM L 0, .non, rfl, mk_mem h0, fun j w hj => by omega, nn⟩ (fun i hi ρ s' z => by
    obtain ⟨rfl, f, x3, rfl, hf, hmax, p3⟩ := z
    have e1 := ix_cnt c (hL _ (List.getElem_mem hi))
    have e2 := ix_cnt c (hL _ hf)
    by_cases hlt : c f < c L[i]
    · refine ⟨[.val (natL L), .val (cntD n c), .val (.int (f : Int)), .val (.int (L[i] : Int))], [.val (natL L), .val (cntD n c), .val (.int (L[i] : Int)), .val (.int (L[i] : Int))], s', by simp, ?_, rfl, L[i], _, rfl, List.getElem_mem hi, fun j w hj hw => ?_, nv _⟩
      · have : ((c f : Nat) : Int) < ((c L[i] : Nat) : Int) := by omega
        simp only [bd1__law_greatest, d_ifF, d_truF, d_binF, d_varF, List.getElem?_cons_succ, List.getElem?_cons_zero, e1, e2, o_gt, this, decide_true, o_truB]
        simp
      · by_cases e : j = i
        · subst e
          rw [List.getElem?_eq_getElem hi] at hw
          injection hw with hw
          rw [hw]
          exact Nat.le_refl _
        · have := hmax j w (by omega) hw
          omega
    · refine ⟨[.val (natL L), .val (cntD n c), .val (.int (f : Int)), .val (.int (L[i] : Int))], [.val (natL L), .val (cntD n c), .val (.int (f : Int)), .val (.int (L[i] : Int))], s', by simp, ?_, rfl, f, _, rfl, hf, fun j w hj hw => ?_, nv _⟩
      · have : ¬ ((c f : Nat) : Int) < ((c L[i] : Nat) : Int) := by omega
        simp only [bd1__law_greatest, d_ifF, d_truF, d_binF, d_varF, List.getElem?_cons_succ, List.getElem?_cons_zero, e1, e2, o_gt, this, decide_false, o_truB]
        simp
      · by_cases e : j = i
        · subst e
          rw [List.getElem?_eq_getElem hi] at hw
          injection hw with hw
          rw [← hw]
          omega
        · exact hmax j w (by omega) hw)
  have ef : f = m := by
    by_cases e : f = m
    · exact e
    · have h1 := hc f hf e
      obtain ⟨j, hj⟩ := List.getElem?_of_mem hm
      have h2 := hmax j m ((List.getElem?_eq_some_iff.mp hj).1) hj
      omega
  subst ef
  have e3 : lp1__law_greatest [.val (natL L), .val (cntD n c), .val (.int (mkM L 0 : Nat)), .non] s' = some (.nx, [.val (natL L), .val (cntD n c), .val (.int (f : Int)), x3], s') := by
    rw [← q1]
    simp [lp1__law_greatest, natL, cntD]
  have a1 : setF false 2 (binF ixD (varF 0) (cstF (.int 0))) [.val (natL L), .val (cntD n c), .non, .non] s' = some (.nx, [.val (natL L), .val (cntD n c), .val (.int (mkM L 0 : Nat)), .non], s') := by
    rw [d_setFf]
    simp only [d_binF, d_varF, d_cstF, List.getElem?_cons_succ, List.getElem?_cons_zero, e0]
    simp
  have key : b__law_greatest [.val (natL L), .val (cntD n c), .non, .non] s' = some (.rt (.int (f : Int)), [.val (natL L), .val (cntD n c), .val (.int (f : Int)), x3], s') := by
    unfold b__law_greatest
    rw [d_seqF, a1]; simp only
    rw [d_seqF, e3]
    simp
  exact defN_rt rfl rfl key
def lowL (n : Nat) (le : Nat → Nat → Bool) (x : Nat) : List Nat := (List.range n).filter fun z => le z x
def lowD (n : Nat) (le : Nat → Nat → Bool) : D := .lst ((List.range n).map fun x => natL (lowL n le x))
theorem low_mem {x w : Nat} : w ∈ lowL n le x ↔ w < n ∧ le w x = true := by
  unfold lowL
  rw [List.mem_filter, List.mem_range]
theorem low_len (x : Nat) : (lowL n le x).length ≤ n := by
  have := List.length_filter_le (fun z => le z x) (List.range n)
  rwa [List.length_range] at this
theorem ix_low {x : Nat} (hx : x < n) : ixD (lowD n le) (.int (x : Int)) = some (natL (lowL n le x)) := atI_range (fun x => natL (lowL n le x)) hx
def EB8 (n : Nat) (le : Nat → Nat → Bool) (x2 x3 x4 x5 x6 x7 : Sl) : En := [.val (tabD n le), .val (.int n), x2, x3, x4, x5, x6, x7]
theorem q2_both (s : Dk) (hn : n ≤ 24) : q2__law_both (EB8 n le .non .non .non .non .non .non) s = some (lowD n le, EB8 n le .non .non .non .non .non .non, s) := by
  have hr := range_nat n (by omega)
  unfold q2__law_both
  refine (comp_map (List.range n) (fun i : Nat => .int (0 + (i : Nat))) (fun _ => true) (fun x => natL (lowL n le x)) (ρ1 := EB8 n le .non .non .non .non .non .non) (s1 := s) (by simp [EB8, hr]) (by simp [EB8]) (by rw [sizeL, List.length_range]; omega) (fun x hx => ?_)).trans (by simp [lowD])
  have hx := List.mem_range.mp hx
  have hq1 : q1__law_both (EB8 n le .non .non (.val (.int (x : Int))) .non .non .non) s = some (natL (lowL n le x), EB8 n le .non .non (.val (.int (x : Int))) .non .non .non, s) := by
    unfold q1__law_both
    refine (comp_map (List.range n) (fun i : Nat => .int (0 + (i : Nat))) (fun z => le z x) (fun i : Nat => .int (i : Int)) (ρ1 := EB8 n le .non .non (.val (.int (x : Int))) .non .non .non) (s1 := s) (by simp [EB8, hr]) (by simp [EB8]) (by rw [sizeL, List.length_range]; omega) (fun z hz => ?_)).trans rfl
    have hz := List.mem_range.mp hz
    have e1 := ix_tab le hz
    have e2 := ix_row (le z) hx
    have e5 := b1_one (le z x)
    refine ⟨EB8 n le .non .non (.val (.int (x : Int))) (.val (.int (z : Int))) .non .non, EB8 n le .non .non (.val (.int (x : Int))) (.val (.int (z : Int))) .non .non, by simp [EB8], ?_, by simp [EB8], fun _ => ⟨EB8 n le .non .non (.val (.int (x : Int))) (.val (.int (z : Int))) .non .non, by simp [EB8], by simp [EB8]⟩⟩
    simp only [d_truF, d_binF, d_varF, d_cstF, EB8, List.getElem?_cons_succ, List.getElem?_cons_zero, e1, e2, e5, o_truB]
    simp
  refine ⟨EB8 n le .non .non (.val (.int (x : Int))) .non .non .non, EB8 n le .non .non (.val (.int (x : Int))) .non .non .non, by simp [EB8], by simp, by simp, fun _ => ⟨EB8 n le .non .non (.val (.int (x : Int))) .non .non .non, hq1, by simp [EB8]⟩⟩
theorem q3_both (s : Dk) (hn : n ≤ 24) : q3__law_both (EB8 n le (.val (lowD n le)) .non .non .non .non .non) s = some (cntD n fun x => (lowL n le x).length, EB8 n le (.val (lowD n le)) .non .non .non .non .non, s) := by
  unfold q3__law_both
  refine (comp_map (List.range n) (fun x => natL (lowL n le x)) (fun _ => true) (fun x => .int ((lowL n le x).length : Nat)) (ρ1 := EB8 n le (.val (lowD n le)) .non .non .non .non .non) (s1 := s) (by simp [EB8, lowD]) (by simp [EB8]) (by rw [sizeL, List.length_range]; omega) (fun x hx => ?_)).trans (by simp [cntD])
  have ln : lenD [natL (lowL n le x)] = some (.int ((lowL n le x).length : Int)) := by simp [natL]
  refine ⟨EB8 n le (.val (lowD n le)) .non .non .non (.val (natL (lowL n le x))) .non, EB8 n le (.val (lowD n le)) .non .non .non (.val (natL (lowL n le x))) .non, by simp [EB8, lowD], by simp, by simp, fun _ => ⟨EB8 n le (.val (lowD n le)) .non .non .non (.val (natL (lowL n le x))) .non, ?_, by simp [EB8]⟩⟩
  simp only [d_mapF, d_consL, d_varF, d_nilL, EB8, List.getElem?_cons_succ, List.getElem?_cons_zero, ln]
theorem q5_both (h : House n le mt jn) {x : Nat} (hx : x < n) (s : Dk) : q5__law_both (EB8 n le (.val (lowD n le)) (.val (cntD n fun x => (lowL n le x).length)) (.val (.int (x : Int))) .non .non .non) s = some (.lst ((List.range n).map fun y => .int (mt x y : Nat)), EB8 n le (.val (lowD n le)) (.val (cntD n fun x => (lowL n le x).length)) (.val (.int (x : Int))) .non .non .non, s) := by
  have hn := h.few
  have hr := range_nat n (by omega)
  unfold q5__law_both
  refine (comp_map (List.range n) (fun i : Nat => .int (0 + (i : Nat))) (fun _ => true) (fun y => .int (mt x y : Nat)) (ρ1 := EB8 n le (.val (lowD n le)) (.val (cntD n fun x => (lowL n le x).length)) (.val (.int (x : Int))) .non .non .non) (s1 := s) (by simp [EB8, hr]) (by simp [EB8]) (by rw [sizeL, List.length_range]; omega) (fun y hy => ?_)).trans (by simp)
  have hy := List.mem_range.mp hy
  have hq4 : q4__law_both (EB8 n le (.val (lowD n le)) (.val (cntD n fun x => (lowL n le x).length)) (.val (.int (x : Int))) .non .non (.val (.int (y : Int)))) s = some (natL ((lowL n le x).filter fun z => le z y), EB8 n le (.val (lowD n le)) (.val (cntD n fun x => (lowL n le x).length)) (.val (.int (x : Int))) .non .non (.val (.int (y : Int))), s) := by
    have e0 := ix_low (le := le) hx
    unfold q4__law_both
    refine (comp_map (lowL n le x) (fun i : Nat => .int (i : Int)) (fun z => le z y) (fun i : Nat => .int (i : Int)) (ρ1 := EB8 n le (.val (lowD n le)) (.val (cntD n fun x => (lowL n le x).length)) (.val (.int (x : Int))) .non .non (.val (.int (y : Int)))) (s1 := s) ?_ (by simp [EB8]) (by have := low_len (n := n) (le := le) x; rw [sizeL]; omega) (fun z hz => ?_)).trans rfl
    · simp only [d_itemsF, d_binF, d_varF, EB8, List.getElem?_cons_succ, List.getElem?_cons_zero, e0, natL]
    · have hz := (low_mem.mp hz).1
      have e1 := ix_tab le hz
      have e2 := ix_row (le z) hy
      have e5 := b1_one (le z y)
      refine ⟨EB8 n le (.val (lowD n le)) (.val (cntD n fun x => (lowL n le x).length)) (.val (.int (x : Int))) (.val (.int (z : Int))) .non (.val (.int (y : Int))), EB8 n le (.val (lowD n le)) (.val (cntD n fun x => (lowL n le x).length)) (.val (.int (x : Int))) (.val (.int (z : Int))) .non (.val (.int (y : Int))), by simp [EB8], ?_, by simp [EB8], fun _ => ⟨EB8 n le (.val (lowD n le)) (.val (cntD n fun x => (lowL n le x).length)) (.val (.int (x : Int))) (.val (.int (z : Int))) .non (.val (.int (y : Int))), by simp [EB8], by simp [EB8]⟩⟩
      simp only [d_truF, d_binF, d_varF, d_cstF, EB8, List.getElem?_cons_succ, List.getElem?_cons_zero, e1, e2, e5, o_truB]
      simp
  have hm := h.mtlt x y hx hy
  have e6 := v_greatest (n := n) ((lowL n le x).filter fun z => le z y) (fun x => (lowL n le x).length) (mt x y) s (fun w hw => (low_mem.mp (List.mem_filter.mp hw).1).1) (List.mem_filter.mpr ⟨low_mem.mpr ⟨hm, h.mt1 x y hx hy⟩, h.mt2 x y hx hy⟩) (fun z hz hne => by
    obtain ⟨hz1, hz2⟩ := List.mem_filter.mp hz
    obtain ⟨hzn, hzx⟩ := low_mem.mp hz1
    have hzm := h.mtg x y z hx hy hzn hzx hz2
    have hmz : le (mt x y) z = false := by
      cases c : le (mt x y) z with
      | false => rfl
      | true => exact absurd (h.anti z (mt x y) hzn hm hzm c) hne
    show ((List.range n).filter fun w => le w z).length < ((List.range n).filter fun w => le w (mt x y)).length
    have e1 : (List.range n).filter (fun w => le w z) = (List.range n).filter fun w => decide (w < n) && le w z := List.filter_congr fun w hw => by simp [List.mem_range.mp hw]
    have e2 : (List.range n).filter (fun w => le w (mt x y)) = (List.range n).filter fun w => decide (w < n) && le w (mt x y) := List.filter_congr fun w hw => by simp [List.mem_range.mp hw]
    rw [e1, e2]
    refine filter_lt (fun w hw => ?_) (a := mt x y) (by simp [hm, h.refl _ hm]) (by simp [hmz]) (List.mem_range.mpr hm)
    simp only [Bool.and_eq_true, decide_eq_true_eq] at hw ⊢
    exact ⟨hw.1, h.trans w z _ hw.1 hzn hm hw.2 hzm⟩)
  refine ⟨EB8 n le (.val (lowD n le)) (.val (cntD n fun x => (lowL n le x).length)) (.val (.int (x : Int))) .non .non (.val (.int (y : Int))), EB8 n le (.val (lowD n le)) (.val (cntD n fun x => (lowL n le x).length)) (.val (.int (x : Int))) .non .non (.val (.int (y : Int))), by simp [EB8], by simp, by simp, fun _ => ⟨EB8 n le (.val (lowD n le)) (.val (cntD n fun x => (lowL n le x).length)) (.val (.int (x : Int))) .non .non (.val (.int (y : Int))), ?_, by simp [EB8]⟩⟩
  rw [d_callF, d_consL, hq4]
  have e7 : varF 3 (EB8 n le (.val (lowD n le)) (.val (cntD n fun x => (lowL n le x).length)) (.val (.int (x : Int))) .non .non (.val (.int (y : Int)))) s = some (cntD n fun x => (lowL n le x).length, EB8 n le (.val (lowD n le)) (.val (cntD n fun x => (lowL n le x).length)) (.val (.int (x : Int))) .non .non (.val (.int (y : Int))), s) := by simp [EB8]
  simp only [d_consL, e7, d_nilL, e6]
theorem v__law_both (h : House n le mt jn) (s : Dk) : g__law_both [tabD n le] s = some (matD n mt, s) := by
  have hn := h.few
  have hr := range_nat n (by omega)
  have e1 := q2_both (le := le) s hn
  have e2 := q3_both (le := le) s hn
  have a1 : setF false 1 (mapF lenD (consL (varF 0) nilL)) [.val (tabD n le), .non, .non, .non, .non, .non, .non, .non] s = some (.nx, EB8 n le .non .non .non .non .non .non, s) := by simp [len_tab, EB8]
  have a2 : setF false 2 q2__law_both (EB8 n le .non .non .non .non .non .non) s = some (.nx, EB8 n le (.val (lowD n le)) .non .non .non .non .non, s) := by
    rw [d_setFf, e1]
    simp [EB8, lowD]
  have a3 : setF false 3 q3__law_both (EB8 n le (.val (lowD n le)) .non .non .non .non .non) s = some (.nx, EB8 n le (.val (lowD n le)) (.val (cntD n fun x => (lowL n le x).length)) .non .non .non .non, s) := by
    rw [d_setFf, e2]
    simp [EB8, cntD]
  have hq6 : q6__law_both (EB8 n le (.val (lowD n le)) (.val (cntD n fun x => (lowL n le x).length)) .non .non .non .non) s = some (matD n mt, EB8 n le (.val (lowD n le)) (.val (cntD n fun x => (lowL n le x).length)) .non .non .non .non, s) := by
    unfold q6__law_both
    refine (comp_map (List.range n) (fun i : Nat => .int (0 + (i : Nat))) (fun _ => true) (fun x => .lst ((List.range n).map fun y => .int (mt x y : Nat))) (ρ1 := EB8 n le (.val (lowD n le)) (.val (cntD n fun x => (lowL n le x).length)) .non .non .non .non) (s1 := s) (by simp [EB8, hr]) (by simp [EB8]) (by rw [sizeL, List.length_range]; omega) (fun x hx => ?_)).trans (by simp [matD])
    have e := q5_both h (List.mem_range.mp hx) s
    refine ⟨EB8 n le (.val (lowD n le)) (.val (cntD n fun x => (lowL n le x).length)) (.val (.int (x : Int))) .non .non .non, EB8 n le (.val (lowD n le)) (.val (cntD n fun x => (lowL n le x).length)) (.val (.int (x : Int))) .non .non .non, by simp [EB8], by simp, by simp, fun _ => ⟨EB8 n le (.val (lowD n le)) (.val (cntD n fun x => (lowL n le x).length)) (.val (.int (x : Int))) .non .non .non, e, by simp [EB8]⟩⟩
  have key : b__law_both [.val (tabD n le), .non, .non, .non, .non, .non, .non, .non] s = some (.rt (matD n mt), EB8 n le (.val (lowD n le)) (.val (cntD n fun x => (lowL n le x).length)) .non .non .non .non, s) := by
    unfold b__law_both
    rw [d_seqF, a1]; simp only
    rw [d_seqF, a2]; simp only
    rw [d_seqF, a3]; simp only
    rw [d_retF, hq6]
  exact defN_rt rfl rfl key
theorem v__law_all (h : House n le mt jn) (s : Dk) : g__law_all [tabD n le] s = some (matD n jn, s) := by
  have e1 := v__law_over n le s h.few
  have e2 := v__law_both h.over s
  have key : b__law_all [.val (tabD n le)] s = some (.rt (matD n jn), [.val (tabD n le)], s) := by
    simp [b__law_all, e1, e2]
  exact defN_rt rfl rfl key
end
end Q
end
section
set_option Elab.async false
set_option linter.all false
set_option maxRecDepth 100000
set_option autoImplicit false
set_option maxHeartbeats 2000000
namespace Q
/-! ### least lots, depths, steps, pieces: plain mathematics -/
section
variable {n : Nat} {le : Nat → Nat → Bool} {mt jn : Nat → Nat → Nat}
structure Bot (n : Nat) (le : Nat → Nat → Bool) (b : Nat) : Prop where
  lt : b < n
  le : ∀ x, x < n → le b x = true
theorem House.bot (h : House n le mt jn) : ∃ b, Bot n le b := by
  have key : ∀ k, 1 ≤ k → k ≤ n → ∃ b, b < n ∧ ∀ x, x < k → le b x = true := by
    intro k
    induction k with
    | zero => intro z; omega
    | succ k ih =>
      intro _ hk
      by_cases hk0 : k = 0
      · subst hk0
        exact ⟨0, h.pos, fun x hx => by
          have : x = 0 := by omega
          subst this
          exact h.refl 0 h.pos⟩
      · obtain ⟨b, hb, hl⟩ := ih (by omega) (by omega)
        refine ⟨mt b k, h.mtlt b k hb (by omega), fun x hx => ?_⟩
        by_cases e : x = k
        · subst e
          exact h.mt2 b x hb (by omega)
        · exact h.trans _ b x (h.mtlt b k hb (by omega)) hb (by omega) (h.mt1 b k hb (by omega)) (hl x (by omega))
  obtain ⟨b, hb, hl⟩ := key n h.pos (Nat.le_refl _)
  exact ⟨b, hb, hl⟩
theorem Bot.eq (h : House n le mt jn) {b x : Nat} (hb : Bot n le b) (hx : x < n) (e : le x b = true) : x = b := h.anti x b hx hb.lt e (hb.le x hx)
theorem Bot.one (h : House n le mt jn) {b x : Nat} (hb : Bot n le b) (hx : x < n) (e : ∀ y, y < n → le x y = true) : x = b := hb.eq h hx (e b hb.lt)
/-- the lots below -/
def dn (n : Nat) (le : Nat → Nat → Bool) (x : Nat) : List Nat := (List.range n).filter fun y => le y x && !decide (y = x)
theorem mem_dn {x y : Nat} : y ∈ dn n le x ↔ y < n ∧ le y x = true ∧ y ≠ x := by simp [dn]
theorem filter_ltm {α : Type} {p q : α → Bool} {a : α} (hq : q a = true) (hp : p a = false) : ∀ {l : List α}, (∀ x ∈ l, p x = true → q x = true) → a ∈ l → (l.filter p).length < (l.filter q).length
  | b :: l, hpq, h => by
    have mono : ∀ l : List α, (∀ x ∈ l, p x = true → q x = true) → (l.filter p).length ≤ (l.filter q).length := fun l => by
      induction l with
      | nil => simp
      | cons c l ih =>
        intro hl
        have ih := ih fun x hx => hl x (List.mem_cons_of_mem _ hx)
        cases hc : p c with
        | true => simp [hc, hl c List.mem_cons_self hc]; omega
        | false => cases hc2 : q c <;> simp [hc, hc2] <;> omega
    have hl := fun x hx => hpq x (List.mem_cons_of_mem _ hx)
    rcases List.mem_cons.mp h with rfl | h
    · have := mono l hl
      simp [hp, hq]
      omega
    · have := filter_ltm hq hp hl h
      cases hc : p b with
      | true => simp [hc, hpq b List.mem_cons_self hc]; omega
      | false => cases hc2 : q b <;> simp [hc, hc2] <;> omega
def cs (n : Nat) (le : Nat → Nat → Bool) (x : Nat) : Nat := (dn n le x).length
theorem cs_le (x : Nat) : cs n le x ≤ n := by
  have := List.length_filter_le (fun y => le y x && !decide (y = x)) (List.range n)
  rw [List.length_range] at this
  exact this
theorem cs_lt (h : House n le mt jn) {x y : Nat} (hx : x < n) (hy : y ∈ dn n le x) : cs n le y < cs n le x := by
  obtain ⟨hyn, h1, h2⟩ := mem_dn.mp hy
  refine filter_ltm (a := y) (by simp [h1, h2]) (by simp) (fun w hw z => ?_) (List.mem_range.mpr hyn)
  have hw := List.mem_range.mp hw
  simp only [Bool.and_eq_true, Bool.not_eq_true', decide_eq_false_iff_not] at z ⊢
  refine ⟨h.trans w y x hw hyn hx z.1 h1, fun e => ?_⟩
  subst e
  exact h2 (h.anti y w hyn hw h1 z.1)
/-! ### depths -/
def mx : List Nat → Nat
  | [] => 0
  | a :: l => max a (mx l)
theorem mx_le {a : Nat} : ∀ {l : List Nat}, a ∈ l → a ≤ mx l
  | b :: l, h => by
    rcases List.mem_cons.mp h with rfl | h
    · exact Nat.le_max_left _ _
    · exact Nat.le_trans (mx_le h) (Nat.le_max_right _ _)
theorem mx_mem : ∀ {l : List Nat}, 0 < mx l → mx l ∈ l
  | [], h => by simp [mx] at h
  | b :: l, h => by
    unfold mx at h ⊢
    by_cases e : mx l ≤ b
    · rw [Nat.max_eq_left e]
      exact List.mem_cons_self
    · rw [Nat.max_eq_right (by omega)] at h ⊢
      exact List.mem_cons_of_mem _ (mx_mem h)
theorem mx_up {k : Nat} : ∀ {l : List Nat}, (∀ a ∈ l, a ≤ k) → mx l ≤ k
  | [], _ => Nat.zero_le _
  | b :: l, h => Nat.max_le.mpr ⟨h b List.mem_cons_self, mx_up fun a ha => h a (List.mem_cons_of_mem _ ha)⟩
def dpk (n : Nat) (le : Nat → Nat → Bool) : Nat → Nat → Nat
  | 0, _ => 0
  | k + 1, x => mx ((dn n le x).map fun y => dpk n le k y + 1)
def dep (n : Nat) (le : Nat → Nat → Bool) (x : Nat) : Nat := dpk n le n x
theorem dpk_eq (h : House n le mt jn) : ∀ (k x : Nat), x < n → cs n le x ≤ k → dpk n le (k + 1) x = dpk n le k x
  | 0, x, hx, hc => by
    have : dn n le x = [] := List.eq_nil_of_length_eq_zero (by unfold cs at hc; omega)
    simp [dpk, this, mx]
  | k + 1, x, hx, hc => by
    show mx ((dn n le x).map fun y => dpk n le (k + 1) y + 1) = mx ((dn n le x).map fun y => dpk n le k y + 1)
    refine congrArg mx (List.map_congr_left fun y hy => ?_)
    have := cs_lt h hx hy
    rw [dpk_eq h k y (mem_dn.mp hy).1 (by omega)]
theorem dep_eq (h : House n le mt jn) {x : Nat} (hx : x < n) : dep n le x = mx ((dn n le x).map fun y => dep n le y + 1) := (dpk_eq h n x hx (cs_le x)).symm
theorem dep_lt (h : House n le mt jn) {x y : Nat} (hx : x < n) (hy : y ∈ dn n le x) : dep n le y + 1 ≤ dep n le x := by
  rw [dep_eq h hx]
  exact mx_le (List.mem_map_of_mem (f := fun y => dep n le y + 1) hy)
theorem dep_at (h : House n le mt jn) {x : Nat} (hx : x < n) (h0 : 0 < dep n le x) : ∃ y ∈ dn n le x, dep n le x = dep n le y + 1 := by
  rw [dep_eq h hx] at h0 ⊢
  obtain ⟨y, hy, e⟩ := List.mem_map.mp (mx_mem h0)
  exact ⟨y, hy, e.symm⟩
theorem dep_few (h : House n le mt jn) : ∀ (k x : Nat), x < n → cs n le x ≤ k → dep n le x ≤ k
  | 0, x, hx, hc => by
    by_cases h0 : 0 < dep n le x
    · obtain ⟨y, hy, _⟩ := dep_at h hx h0
      have : 0 < cs n le x := List.length_pos_of_mem hy
      omega
    · omega
  | k + 1, x, hx, hc => by
    by_cases h0 : 0 < dep n le x
    · obtain ⟨y, hy, e⟩ := dep_at h hx h0
      have h1 := cs_lt h hx hy
      have h2 := dep_few h k y (mem_dn.mp hy).1 (by omega)
      omega
    · omega
theorem dep_24 (h : House n le mt jn) {x : Nat} (hx : x < n) : dep n le x ≤ 24 := by
  have h1 := dep_few h n x hx (cs_le x)
  have := h.few
  omega
/-- longest ways up and down through a lot -/
theorem dep_way {n : Nat} {le : Nat → Nat → Bool} {mt jn : Nat → Nat → Nat} (h : House n le mt jn) {t : Nat} (ht : Bot n (over le) t) : ∀ (k x : Nat), x < n → dep n (over le) x = k → dep n le x + k ≤ dep n le t
  | 0, x, hx, _ => by
    by_cases e : x = t
    · subst e; omega
    · have := dep_lt h ht.lt (mem_dn.mpr ⟨hx, ht.le x hx, e⟩)
      omega
  | k + 1, x, hx, hk => by
    obtain ⟨y, hy, e⟩ := dep_at h.over hx (by omega)
    obtain ⟨hyn, h1, h2⟩ := mem_dn.mp hy
    have h3 := dep_way h ht k y hyn (by omega)
    have h4 := dep_lt h hyn (mem_dn.mpr ⟨hx, h1, fun e => h2 e.symm⟩)
    omega
theorem dep_over (h : House n le mt jn) {b t : Nat} (hb : Bot n le b) (ht : Bot n (over le) t) : dep n (over le) b = dep n le t := by
  have h1 := dep_way h ht (dep n (over le) b) b hb.lt rfl
  have h2 := dep_way h.over (t := b) hb (dep n le t) t ht.lt rfl
  omega
/-! ### steps -/
def up (n : Nat) (le : Nat → Nat → Bool) (x : Nat) : List Nat := (List.range n).filter fun y => le x y && !decide (y = x)
def cov (n : Nat) (le : Nat → Nat → Bool) (x : Nat) : List Nat := (up n le x).filter fun y => !(up n le x).any fun z => !decide (z = y) && le z y
theorem mem_up {x y : Nat} : y ∈ up n le x ↔ y < n ∧ le x y = true ∧ y ≠ x := by simp [up]
theorem mem_cov {x y : Nat} : y ∈ cov n le x ↔ (y < n ∧ le x y = true ∧ y ≠ x) ∧ ∀ z, z < n → le x z = true → z ≠ x → le z y = true → z = y := by
  unfold cov
  rw [List.mem_filter, mem_up]
  simp only [Bool.not_eq_true', List.any_eq_false, mem_up, Bool.and_eq_true, decide_eq_false_iff_not, not_and, and_imp]
  constructor
  · rintro ⟨a, b⟩
    refine ⟨a, fun z h1 h2 h3 h4 => ?_⟩
    by_cases e : z = y
    · exact e
    · exact absurd h4 (b z h1 h2 h3 e)
  · rintro ⟨a, b⟩
    exact ⟨a, fun z h1 h2 h3 e h4 => e (b z h1 h2 h3 h4)⟩
theorem cov_dep (h : House n le mt jn) {x y : Nat} (hx : x < n) (hy : y ∈ cov n le x) : dep n le x < dep n le y := by
  obtain ⟨⟨a, b, c⟩, _⟩ := mem_cov.mp hy
  have := dep_lt h a (mem_dn.mpr ⟨hx, b, fun e => c e.symm⟩)
  omega
theorem dep_step (h : House n le mt jn) {y : Nat} (hy : y < n) (h0 : 0 < dep n le y) : ∃ x, x < n ∧ y ∈ cov n le x ∧ dep n le y = dep n le x + 1 := by
  obtain ⟨x, hx, e⟩ := dep_at h hy h0
  obtain ⟨hxn, h1, h2⟩ := mem_dn.mp hx
  refine ⟨x, hxn, mem_cov.mpr ⟨⟨hy, h1, fun e => h2 e.symm⟩, fun z hz a b c => ?_⟩, e⟩
  by_cases ez : z = y
  · exact ez
  · have d1 := dep_lt h hz (mem_dn.mpr ⟨hxn, a, fun e => b e.symm⟩)
    have d2 := dep_lt h hy (mem_dn.mpr ⟨hz, c, ez⟩)
    omega
theorem range_filter_eq {a b : Nat} {p q : Nat → Bool} (h : ∀ i, (i < a ∧ p i = true) ↔ (i < b ∧ q i = true)) : (List.range a).filter p = (List.range b).filter q := by
  have s : ∀ (k : Nat) (r : Nat → Bool), ((List.range k).filter r).Pairwise (· < ·) := fun k r => List.pairwise_lt_range.sublist List.filter_sublist
  have nd : ∀ (k : Nat) (r : Nat → Bool), ((List.range k).filter r).Nodup := fun k r => List.nodup_range.sublist List.filter_sublist
  refine List.Perm.eq_of_pairwise (le := (· < ·)) (fun x y _ _ h1 h2 => by omega) (s a p) (s b q) ((List.perm_ext_iff_of_nodup (nd a p) (nd b q)).mpr fun i => ?_)
  rw [List.mem_filter, List.mem_filter, List.mem_range, List.mem_range]
  exact h i
theorem cov_self (x : Nat) : cov n le x = (List.range n).filter fun y => decide (y ∈ cov n le x) := by
  have e : ∀ y, y ∈ cov n le x ↔ (y < n ∧ ((!(up n le x).any fun z => !decide (z = y) && le z y) && (le x y && !decide (y = x))) = true) := fun y => by
    unfold cov up
    rw [List.filter_filter, List.mem_filter, List.mem_range]
  have e2 : cov n le x = (List.range n).filter fun y => ((!(up n le x).any fun z => !decide (z = y) && le z y) && (le x y && !decide (y = x))) := by
    unfold cov up
    rw [List.filter_filter]
  refine e2.trans (range_filter_eq fun y => ?_)
  rw [← e y, decide_eq_true_eq]
  exact ⟨fun z => ⟨((e y).mp z).1, z⟩, fun z => z.2⟩
theorem cov_over (h : House n le mt jn) {x : Nat} (hx : x < n) : cov n (over le) x = (List.range n).filter fun y => decide (x ∈ cov n le y) := by
  rw [cov_self]
  refine range_filter_eq fun y => ?_
  rw [decide_eq_true_eq, decide_eq_true_eq, mem_cov, mem_cov]
  constructor
  · rintro ⟨a, ⟨_, b, c⟩, d⟩
    refine ⟨a, ⟨hx, b, fun e => c e.symm⟩, fun z hz h1 h2 h3 => ?_⟩
    by_cases ez : z = x
    · exact ez
    · exact absurd (d z hz h3 ez h1) h2
  · rintro ⟨a, ⟨_, b, c⟩, d⟩
    refine ⟨a, ⟨a, b, fun e => c e.symm⟩, fun z hz h1 h2 h3 => ?_⟩
    by_cases ez : z = y
    · exact ez
    · exact absurd (d z hz h3 ez h1) h2
/-! ### pieces -/
theorem fold_lt (h : House n le mt jn) : ∀ (L : List Nat) (a : Nat), a < n → (∀ y ∈ L, y < n) → L.foldl jn a < n
  | [], a, ha, _ => ha
  | y :: L, a, ha, hL => fold_lt h L _ (h.jnlt a y ha (hL y List.mem_cons_self)) fun z hz => hL z (List.mem_cons_of_mem _ hz)
theorem fold_ge (h : House n le mt jn) : ∀ (L : List Nat) (a : Nat), a < n → (∀ y ∈ L, y < n) → le a (L.foldl jn a) = true ∧ ∀ y ∈ L, le y (L.foldl jn a) = true
  | [], a, ha, _ => ⟨h.refl a ha, fun y hy => by cases hy⟩
  | y :: L, a, ha, hL => by
    have hy := hL y List.mem_cons_self
    have hj := h.jnlt a y ha hy
    have hL' := fun z hz => hL z (List.mem_cons_of_mem y hz)
    obtain ⟨h1, h2⟩ := fold_ge h L _ hj hL'
    have hf := fold_lt h L _ hj hL'
    refine ⟨h.trans _ _ _ ha hj hf (h.jn1 a y ha hy) h1, fun z hz => ?_⟩
    rcases List.mem_cons.mp hz with rfl | hz
    · exact h.trans _ _ _ hy hj hf (h.jn2 a z ha hy) h1
    · exact h2 z hz
theorem fold_le (h : House n le mt jn) {u : Nat} (hu : u < n) : ∀ (L : List Nat) (a : Nat), a < n → (∀ y ∈ L, y < n) → le a u = true → (∀ y ∈ L, le y u = true) → le (L.foldl jn a) u = true
  | [], a, ha, _, h1, _ => h1
  | y :: L, a, ha, hL, h1, h2 => fold_le h hu L _ (h.jnlt a y ha (hL y List.mem_cons_self)) (fun z hz => hL z (List.mem_cons_of_mem y hz)) (h.jnl a y u ha (hL y List.mem_cons_self) hu h1 (h2 y List.mem_cons_self)) fun z hz => h2 z (List.mem_cons_of_mem y hz)
/-- whether a lot is no piece by pairs: all of two below -/
def split (n : Nat) (le : Nat → Nat → Bool) (jn : Nat → Nat → Nat) (x : Nat) : Bool := (dn n le x).any fun y => (dn n le x).any fun z => decide (jn y z = x)
theorem split_iff {x : Nat} : split n le jn x = true ↔ ∃ y ∈ dn n le x, ∃ z ∈ dn n le x, jn y z = x := by simp [split]
theorem dn_ne (h : House n le mt jn) {b x : Nat} (hb : Bot n le b) (hx : x < n) : dn n le x ≠ [] ↔ x ≠ b := by
  constructor
  · intro hne e
    subst e
    refine hne (List.eq_nil_iff_forall_not_mem.mpr fun y hy => ?_)
    obtain ⟨a, c, d⟩ := mem_dn.mp hy
    exact d (hb.eq h a c)
  · intro hne e
    have : b ∈ dn n le x := mem_dn.mpr ⟨hb.lt, hb.le x hx, fun z => hne z.symm⟩
    rw [e] at this
    cases this
theorem fold_dn (h : House n le mt jn) {b x : Nat} (hb : Bot n le b) (hx : x < n) (hne : x ≠ b) : (dn n le x).foldl jn b = x ↔ split n le jn x = true := by
  have hlt : ∀ y ∈ dn n le x, y < n := fun y hy => (mem_dn.mp hy).1
  rw [split_iff]
  constructor
  · intro e
    refine Classical.byContradiction fun hno => ?_
    have stay : ∀ (L : List Nat) (a : Nat), (∀ y ∈ L, y ∈ dn n le x) → a ∈ dn n le x → L.foldl jn a ∈ dn n le x := by
      intro L
      induction L with
      | nil => intro a _ ha; exact ha
      | cons y L ih =>
        intro a hL ha
        refine ih _ (fun z hz => hL z (List.mem_cons_of_mem _ hz)) ?_
        have hy := hL y List.mem_cons_self
        obtain ⟨a1, a2, a3⟩ := mem_dn.mp ha
        obtain ⟨y1, y2, y3⟩ := mem_dn.mp hy
        exact mem_dn.mpr ⟨h.jnlt a y a1 y1, h.jnl a y x a1 y1 hx a2 y2, fun e => hno ⟨a, ha, y, hy, e⟩⟩
    have := stay (dn n le x) b (fun y hy => hy) (mem_dn.mpr ⟨hb.lt, hb.le x hx, fun e => hne e.symm⟩)
    rw [e] at this
    exact (mem_dn.mp this).2.2 rfl
  · rintro ⟨y, hy, z, hz, e⟩
    have hf := fold_lt h (dn n le x) b hb.lt hlt
    have h1 := (fold_ge h (dn n le x) b hb.lt hlt).2
    refine h.anti _ _ hf hx (fold_le h hx _ b hb.lt hlt (hb.le x hx) fun w hw => (mem_dn.mp hw).2.1) ?_
    have := h.jnl y z _ (hlt y hy) (hlt z hz) hf (h1 y hy) (h1 z hz)
    rwa [e] at this
def isPc (n : Nat) (le : Nat → Nat → Bool) (jn : Nat → Nat → Nat) (x : Nat) : Bool := !(dn n le x).isEmpty && !split n le jn x
def pcs (n : Nat) (le : Nat → Nat → Bool) (jn : Nat → Nat → Nat) : List Nat := (List.range n).filter (isPc n le jn)
def pin (n : Nat) (le : Nat → Nat → Bool) (jn : Nat → Nat → Nat) (x : Nat) : List Nat := (pcs n le jn).filter fun p => le p x
theorem mem_pin {x p : Nat} : p ∈ pin n le jn x ↔ (p < n ∧ isPc n le jn p = true) ∧ le p x = true := by
  unfold pin pcs
  rw [List.mem_filter, List.mem_filter, List.mem_range]
theorem pin_all (h : House n le mt jn) {b : Nat} (hb : Bot n le b) : ∀ (k x : Nat), x < n → cs n le x ≤ k → (pin n le jn x).foldl jn b = x := by
  have hlt : ∀ x, ∀ y ∈ pin n le jn x, y < n := fun x y hy => (mem_pin.mp hy).1.1
  have ub : ∀ x, x < n → le ((pin n le jn x).foldl jn b) x = true := fun x hx => fold_le h hx _ b hb.lt (hlt x) (hb.le x hx) fun w hw => (mem_pin.mp hw).2
  have main : ∀ x, x < n → (∀ y ∈ dn n le x, (pin n le jn y).foldl jn b = y) → (pin n le jn x).foldl jn b = x := fun x hx ih => by
    have hf := fold_lt h (pin n le jn x) b hb.lt (hlt x)
    obtain ⟨g1, g2⟩ := fold_ge h (pin n le jn x) b hb.lt (hlt x)
    refine h.anti _ _ hf hx (ub x hx) ?_
    by_cases e : x = b
    · rw [e] at g1 ⊢; exact g1
    · cases hs : split n le jn x with
      | false =>
        refine g2 x (mem_pin.mpr ⟨⟨hx, ?_⟩, h.refl x hx⟩)
        unfold isPc
        have := (dn_ne h hb hx).mpr e
        cases hd : dn n le x with
        | nil => exact absurd hd this
        | cons a l => simp [hs]
      | true =>
        obtain ⟨y, hy, z, hz, ejn⟩ := split_iff.mp hs
        have sub : ∀ w ∈ dn n le x, le w ((pin n le jn x).foldl jn b) = true := fun w hw => by
          obtain ⟨w1, w2, w3⟩ := mem_dn.mp hw
          have q : le ((pin n le jn w).foldl jn b) ((pin n le jn x).foldl jn b) = true := fold_le h hf _ b hb.lt (hlt w) g1 fun p hp => by
            obtain ⟨⟨p1, p2⟩, p3⟩ := mem_pin.mp hp
            exact g2 p (mem_pin.mpr ⟨⟨p1, p2⟩, h.trans p w x p1 w1 hx p3 w2⟩)
          rw [ih w hw] at q
          exact q
        have := h.jnl y z _ (mem_dn.mp hy).1 (mem_dn.mp hz).1 hf (sub y hy) (sub z hz)
        rwa [ejn] at this
  intro k
  induction k with
  | zero =>
    intro x hx hc
    refine main x hx fun y hy => ?_
    have : 0 < cs n le x := List.length_pos_of_mem hy
    omega
  | succ k ih =>
    intro x hx hc
    refine main x hx fun y hy => ih y (mem_dn.mp hy).1 ?_
    have := cs_lt h hx hy
    omega
theorem pin_fold (h : House n le mt jn) {b x : Nat} (hb : Bot n le b) (hx : x < n) : (pin n le jn x).foldl jn b = x := pin_all h hb _ x hx (Nat.le_refl _)
end
end Q
end
section
set_option Elab.async false
set_option linter.all false
set_option maxRecDepth 100000
set_option autoImplicit false
set_option maxHeartbeats 2000000
namespace Q
open PySem PySem.Spec PyProof.Rows L2 L3
section
variable {n : Nat} {le : Nat → Nat → Bool} {mt jn : Nat → Nat → Nat}
theorem bits_lt (m : Nat) : m < 2 ^ Builtin.Int.intBits (m : Int) := by
  unfold Builtin.Int.intBits
  split
  · rename_i h
    have : m = 0 := by simpa using h
    subst this
    decide
  · rw [Int.natAbs_natCast]
    exact Nat.lt_log2_self
theorem v_bits (n : Nat) (p : Nat → Bool) (s : Dk) (hn : n ≤ 24) : g_bits_of [.int (msk n p : Nat)] s = some (natL ((List.range n).filter p), s) := by
  have hm : msk n p < 2 ^ 24 := Nat.lt_of_lt_of_le (msk_lt n p) (Nat.pow_le_pow_right (by decide) hn)
  have hb := bits_small hm
  have hr := range_nat (Builtin.Int.intBits (msk n p : Nat)) (by omega)
  have hq : q1_bits_of [.val (.int (msk n p : Nat)), .non] s = some (natL ((List.range (Builtin.Int.intBits (msk n p : Nat))).filter fun i => (msk n p).testBit i), [.val (.int (msk n p : Nat)), .non], s) := by
    unfold q1_bits_of
    refine (comp_map (List.range (Builtin.Int.intBits (msk n p : Nat))) (fun i : Nat => .int (0 + (i : Nat))) (fun i => (msk n p).testBit i) (fun y : Nat => .int (y : Int)) (ρ1 := [.val (.int (msk n p : Nat)), .non]) (s1 := s) (by simp [hr]) (by simp) (by rw [sizeL, List.length_range]; omega) (fun x hx => ?_)).trans rfl
    have e1 := shr_nat (msk n p) x
    have e2 := band_nat (msk n p / 2 ^ x) 1
    have e3 : eqD (.int ((msk n p / 2 ^ x &&& 1 : Nat) : Int)) (.int 1) = some (.bl ((msk n p).testBit x)) := by
      rw [eq_int, Nat.testBit_eq_decide_div_mod_eq, Nat.and_one_is_mod]
      have : decide (((msk n p / 2 ^ x % 2 : Nat) : Int) = 1) = decide (msk n p / 2 ^ x % 2 = 1) := by
        rw [Bool.eq_iff_iff, decide_eq_true_eq, decide_eq_true_eq]
        omega
      rw [this]
    have e2 : bandD (.int ((msk n p / 2 ^ x : Nat) : Int)) (.int 1) = some (.int ((msk n p / 2 ^ x &&& 1 : Nat) : Int)) := e2
    refine ⟨[.val (.int (msk n p : Nat)), .val (.int (x : Int))], [.val (.int (msk n p : Nat)), .val (.int (x : Int))], by simp, ?_, by simp, fun _ => ⟨[.val (.int (msk n p : Nat)), .val (.int (x : Int))], by simp, by simp⟩⟩
    simp only [d_truF, d_binF, d_varF, d_cstF, List.getElem?_cons_succ, List.getElem?_cons_zero, e1, e2, e3, o_truB]
    simp
  have hl : ((List.range (Builtin.Int.intBits (msk n p : Nat))).filter fun i => (msk n p).testBit i) = (List.range n).filter p := by
    refine range_filter_eq fun i => ?_
    rw [msk_bit, Bool.and_eq_true, decide_eq_true_eq]
    constructor
    · rintro ⟨_, a⟩; exact a
    · rintro ⟨a, b⟩
      refine ⟨Classical.byContradiction fun z => ?_, a, b⟩
      have h1 : (msk n p).testBit i = false := Nat.testBit_lt_two_pow (Nat.lt_of_lt_of_le (bits_lt (msk n p)) (Nat.pow_le_pow_right (by decide) (by omega)))
      rw [msk_bit, b] at h1
      simp [a] at h1
  have key : b_bits_of [.val (.int (msk n p : Nat)), .non] s = some (.rt (natL ((List.range n).filter p)), [.val (.int (msk n p : Nat)), .non], s) := by
    unfold b_bits_of
    rw [d_retF, hq, hl]
  exact defN_rt rfl rfl key
/-! ### least, greatest -/
theorem nin_row (p : Nat → Bool) : ninD (.int 0) (rowD n p) = some (.bl ((List.range n).all p)) := by
  rw [row_tup]
  have h1 := okD_tupI' ((List.range n).map fun y => b1 (p y))
  unfold tupI at h1 ⊢
  rw [o_ninT, okD_int, h1, inB_ints]
  simp only [Bool.and_true, if_true, Option.some.injEq, D.bl.injEq]
  rw [Bool.eq_iff_iff]
  simp only [Bool.not_eq_true', decide_eq_false_iff_not, List.mem_map, List.mem_range, not_exists, not_and, List.all_eq_true]
  constructor
  · intro z y hy
    cases hp : p y with
    | true => rfl
    | false => exact absurd (by rw [hp]; rfl) (z y hy)
  · intro z y hy e
    rw [z y hy] at e
    cases e
theorem natL_one (b : Nat) : ixD (natL [b]) (.int 0) = some (.int (b : Int)) := rfl
theorem v_least_of (h : House n le mt jn) {b : Nat} (hb : Bot n le b) (s : Dk) : g_least_of [tabD n le] s = some (.int (b : Nat), s) := by
  have hn := h.few
  have hq : q1_least_of [.val (tabD n le), .non, .non] s = some (natL ((List.range n).filter fun x => (List.range n).all (le x)), [.val (tabD n le), .non, .non], s) := by
    unfold q1_least_of
    refine (comp_map (List.range n) (fun y : Nat => .tup [.int (y : Int), rowD n (le y)]) (fun x => (List.range n).all (le x)) (fun y : Nat => .int (y : Int)) (ρ1 := [.val (tabD n le), .non, .non]) (s1 := s) (by simp [tabD, seqD, enum_range]) (by simp) (by rw [sizeL, List.length_range]; omega) (fun x hx => ?_)).trans rfl
    have e := nin_row (n := n) (le x)
    refine ⟨[.val (tabD n le), .val (.int (x : Int)), .val (rowD n (le x))], [.val (tabD n le), .val (.int (x : Int)), .val (rowD n (le x))], by simp, ?_, by simp, fun _ => ⟨[.val (tabD n le), .val (.int (x : Int)), .val (rowD n (le x))], by simp, by simp⟩⟩
    simp only [d_truF, d_binF, d_varF, d_cstF, List.getElem?_cons_succ, List.getElem?_cons_zero, e, o_truB]
    simp
  rw [range_one (m := b) hb.lt (List.all_eq_true.mpr fun y hy => hb.le y (List.mem_range.mp hy)) fun i hi z => hb.one h hi fun y hy => List.all_eq_true.mp z y (List.mem_range.mpr hy)] at hq
  have key : b_least_of [.val (tabD n le), .non, .non] s = some (.rt (.int (b : Nat)), [.val (tabD n le), .non, .non], s) := by
    unfold b_least_of
    rw [d_retF, d_binF, hq]
    simp only [d_cstF, natL_one]
  exact defN_rt rfl rfl key
theorem v__law_least (h : House n le mt jn) {b : Nat} (hb : Bot n le b) (s : Dk) : g__law_least [tabD n le] s = some (.int (b : Nat), s) := by
  have hn := h.few
  have hr := range_nat n (by omega)
  have hq : q1__law_least [.val (tabD n le), .non] s = some (natL ((List.range n).filter fun x => (List.range n).all (le x)), [.val (tabD n le), .non], s) := by
    unfold q1__law_least
    refine (comp_map (List.range n) (fun i : Nat => .int (0 + (i : Nat))) (fun x => (List.range n).all (le x)) (fun y : Nat => .int (y : Int)) (ρ1 := [.val (tabD n le), .non]) (s1 := s) (by simp [len_tab, hr]) (by simp) (by rw [sizeL, List.length_range]; omega) (fun x hx => ?_)).trans rfl
    have e := nin_row (n := n) (le x)
    have e2 := ix_tab le (List.mem_range.mp hx)
    refine ⟨[.val (tabD n le), .val (.int (x : Int))], [.val (tabD n le), .val (.int (x : Int))], by simp, ?_, by simp, fun _ => ⟨[.val (tabD n le), .val (.int (x : Int))], by simp, by simp⟩⟩
    simp only [d_truF, d_binF, d_varF, d_cstF, List.getElem?_cons_succ, List.getElem?_cons_zero, e, e2, o_truB]
    simp
  rw [range_one (m := b) hb.lt (List.all_eq_true.mpr fun y hy => hb.le y (List.mem_range.mp hy)) fun i hi z => hb.one h hi fun y hy => List.all_eq_true.mp z y (List.mem_range.mpr hy)] at hq
  have key : b__law_least [.val (tabD n le), .non] s = some (.rt (.int (b : Nat)), [.val (tabD n le), .non], s) := by
    unfold b__law_least
    rw [d_retF, d_binF, hq]
    simp only [d_cstF, natL_one]
  exact defN_rt rfl rfl key
theorem v_greatest_of (h : House n le mt jn) {t : Nat} (ht : Bot n (over le) t) (s : Dk) : g_greatest_of [tabD n le] s = some (.int (t : Nat), s) := by
  have hn := h.few
  have hr := range_nat n (by omega)
  have hq : q2_greatest_of [.val (tabD n le), .non, .non] s = some (natL ((List.range n).filter fun y => (List.range n).all fun x => le x y), [.val (tabD n le), .non, .non], s) := by
    unfold q2_greatest_of
    refine (comp_map (List.range n) (fun i : Nat => .int (0 + (i : Nat))) (fun y => (List.range n).all fun x => le x y) (fun y : Nat => .int (y : Int)) (ρ1 := [.val (tabD n le), .non, .non]) (s1 := s) (by simp [len_tab, hr]) (by simp) (by rw [sizeL, List.length_range]; omega) (fun y hy => ?_)).trans rfl
    have hy := List.mem_range.mp hy
    have hq1 : q1_greatest_of [.val (tabD n le), .val (.int (y : Int)), .non] s = some (.lst (((List.range n).map fun x => le x y).map .bl), [.val (tabD n le), .val (.int (y : Int)), .non], s) := by
      unfold q1_greatest_of
      refine (comp_map (List.range n) (fun x => rowD n (le x)) (fun _ => true) (fun x => .bl (le x y)) (ρ1 := [.val (tabD n le), .val (.int (y : Int)), .non]) (s1 := s) (by simp [tabD]) (by simp) (by rw [sizeL, List.length_range]; omega) (fun x hx => ?_)).trans (by simp [Function.comp_def])
      have e2 := ix_row (le x) hy
      have e3 := b1_one (le x y)
      refine ⟨[.val (tabD n le), .val (.int (y : Int)), .val (rowD n (le x))], [.val (tabD n le), .val (.int (y : Int)), .val (rowD n (le x))], by simp, by simp, by simp, fun _ => ⟨[.val (tabD n le), .val (.int (y : Int)), .val (rowD n (le x))], ?_, by simp⟩⟩
      simp only [d_binF, d_varF, d_cstF, List.getElem?_cons_succ, List.getElem?_cons_zero, e2, e3]
    have ha : allD [.lst (((List.range n).map fun x => le x y).map .bl)] = some (.bl ((List.range n).all fun x => le x y)) := by
      rw [c_all, List.all_map]
      rfl
    refine ⟨[.val (tabD n le), .val (.int (y : Int)), .non], [.val (tabD n le), .val (.int (y : Int)), .non], by simp, ?_, by simp, fun _ => ⟨[.val (tabD n le), .val (.int (y : Int)), .non], by simp, by simp⟩⟩
    rw [d_truF, d_mapF, d_consL, hq1]
    simp only [d_nilL, ha, o_truB]
    simp
  have hone : ((List.range n).filter fun y => (List.range n).all fun x => le x y) = [t] := range_one (q := fun y => (List.range n).all fun x => le x y) ht.lt (List.all_eq_true.mpr fun y hy => ht.le y (List.mem_range.mp hy)) fun i hi z => ht.one h.over hi fun y hy => List.all_eq_true.mp z y (List.mem_range.mpr hy)
  rw [hone] at hq
  have key : b_greatest_of [.val (tabD n le), .non, .non] s = some (.rt (.int (t : Nat)), [.val (tabD n le), .non, .non], s) := by
    unfold b_greatest_of
    rw [d_retF, d_binF, hq]
    simp only [d_cstF, natL_one]
  exact defN_rt rfl rfl key
/-! ### all of some -/
def natT (L : List Nat) : D := .tup (L.map fun x : Nat => .int (x : Int))
@[simp] theorem noL_natT (L : List Nat) : noL (natT L) = true := by
  unfold natT
  rw [show noL (.tup (L.map fun x : Nat => D.int (x : Int))) = noLs (L.map fun x : Nat => D.int (x : Int)) from rfl]
  exact noLs_map _ (fun _ => rfl) _
def EA (n : Nat) (le : Nat → Nat → Bool) (jn : Nat → Nat → Nat) (d : D) (z : Nat) (x4 : Sl) : En := [.val (tabD n le), .val d, .val (matD n jn), .val (.int (z : Int)), x4]
theorem v_all_of_some (h : House n le mt jn) {b : Nat} (hb : Bot n le b) (d : D) (L : List Nat) (hd : d = natL L ∨ d = natT L) (hL : ∀ y ∈ L, y < n) (s : Dk) : g_all_of_some [tabD n le, d] s = some (.int (L.foldl jn b : Nat), s) := by
  have e1 := v_alls_of h s
  have e2 := v_least_of h hb s
  have hm : noL (matD n jn) = false := rfl
  have a1 : parF [2, 3] (consI false (callF g_alls_of (consL (varF 0) nilL)) (consI false (callF g_least_of (consL (varF 0) nilL)) nilI)) [.val (tabD n le), .val d, .non, .non, .non] s = some (.nx, EA n le jn d b .non, s) := by
    simp [e1, e2, EA, hm]
  have hit : itemsF (varF 1) (EA n le jn d b .non) s = some (L.map fun x : Nat => .int (x : Int), EA n le jn d b .non, s) := by
    rcases hd with rfl | rfl <;> simp [EA, natL, natT]
  obtain ⟨ρ', s', q1, rfl, x4, rfl, p4⟩ := loop_ix (S := Dk) (tg := putV 4) (b := bd1_all_of_some) (fun i : Nat => .int (i : Int)) (fun i ρ s' => s' = s ∧ ∃ x4 : Sl, ρ = EA n le jn d ((L.take i).foldl jn b) x4 ∧ Pl x4) L (EA n le jn d b .non) s ⟨rfl, .non, rfl, nn⟩ (fun i hi ρ s' z => by
    obtain ⟨rfl, x4, rfl, p4⟩ := z
    have hz : (L.take i).foldl jn b < n := fold_lt h _ b hb.lt fun y hy => hL y (List.mem_of_mem_take hy)
    have hy := hL L[i] (List.getElem_mem hi)
    have i1 := ix_mat jn hz
    have i2 := ix_line (jn ((L.take i).foldl jn b)) hy
    have e3 : (L.take (i + 1)).foldl jn b = jn ((L.take i).foldl jn b) L[i] := by rw [List.take_succ_eq_append_getElem hi, List.foldl_append]; rfl
    refine ⟨EA n le jn d ((L.take i).foldl jn b) (.val (.int (L[i] : Int))), EA n le jn d ((L.take (i + 1)).foldl jn b) (.val (.int (L[i] : Int))), s', by simp [EA], ?_, rfl, _, rfl, nv _⟩
    rw [e3]
    unfold bd1_all_of_some EA
    simp [i1, -o_ixL, i2])
  rw [List.take_length] at q1
  have a2 : lp1_all_of_some (EA n le jn d b .non) s' = some (.nx, EA n le jn d (L.foldl jn b) x4, s') := by
    unfold lp1_all_of_some
    rw [d_forF, hit]
    have : L3.freeze (EA n le jn d b .non) = EA n le jn d b .non := by simp [EA]
    simp only [this]
    exact q1
  have key : b_all_of_some [.val (tabD n le), .val d, .non, .non, .non] s' = some (.rt (.int (L.foldl jn b : Nat)), EA n le jn d (L.foldl jn b) x4, s') := by
    unfold b_all_of_some
    rw [d_seqF, a1]; simp only
    rw [d_seqF, a2]
    simp [EA]
  exact defN_rt rfl rfl key
end
end Q
end
section
set_option Elab.async false
set_option linter.all false
set_option maxRecDepth 100000
set_option autoImplicit false
set_option maxHeartbeats 2000000
namespace Q
open PySem PySem.Spec PyProof.Rows L2 L3
section
variable {n : Nat} {le : Nat → Nat → Bool} {mt jn : Nat → Nat → Nat}
/-! ### the order by size -/
def cnt (n : Nat) (le : Nat → Nat → Bool) (x : Nat) : Nat := ((List.range n).filter fun y => le y x).length
theorem cnt_le (x : Nat) : cnt n le x ≤ n := by
  have := List.length_filter_le (fun y => le y x) (List.range n)
  rw [List.length_range] at this
  exact this
theorem cnt_lt (h : House n le mt jn) {x y : Nat} (hx : x < n) (hy : y ∈ dn n le x) : cnt n le y < cnt n le x := by
  obtain ⟨a, b, c⟩ := mem_dn.mp hy
  refine filter_ltm (p := fun w => le w y) (q := fun w => le w x) (a := x) (h.refl x hx) ?_ (fun w hw z => h.trans w y x (List.mem_range.mp hw) a hx z b) (List.mem_range.mpr hx)
  cases e : le x y with
  | false => rfl
  | true => exact absurd (h.anti y x a hx b e) c
def pr (n : Nat) (le : Nat → Nat → Bool) (x : Nat) : List Int := [(cnt n le x : Int), (x : Int)]
def ordP (n : Nat) (le : Nat → Nat → Bool) : List (List Int) := (List.range n).map (pr n le)
def ord (n : Nat) (le : Nat → Nat → Bool) : List Nat := (sortT (ordP n le)).map fun k => (k.getD 1 0).toNat
theorem pr_back (x : Nat) : ((pr n le x).getD 1 0).toNat = x := by simp [pr]
theorem ord_eq : sortT (ordP n le) = (ord n le).map (pr n le) := by
  unfold ord
  rw [List.map_map]
  have : ∀ k ∈ sortT (ordP n le), ((pr n le) ∘ fun k : List Int => (k.getD 1 0).toNat) k = k := fun k hk => by
    obtain ⟨x, _, rfl⟩ := List.mem_map.mp ((sortT_perm _).mem_iff.mp hk)
    show pr n le (((pr n le x).getD 1 0).toNat) = _
    rw [pr_back]
  rw [List.map_congr_left this]
  exact (List.map_id' _).symm
theorem ord_perm : (ord n le).Perm (List.range n) := by
  have h := (sortT_perm (ordP n le)).map fun k : List Int => (k.getD 1 0).toNat
  have e : (ordP n le).map (fun k : List Int => (k.getD 1 0).toNat) = List.range n := by
    unfold ordP
    rw [List.map_map]
    have : ∀ x ∈ List.range n, ((fun k : List Int => (k.getD 1 0).toNat) ∘ pr n le) x = x := fun x _ => pr_back (n := n) (le := le) x
    rw [List.map_congr_left this]
    exact List.map_id' _
  rw [e] at h
  exact h
theorem ord_len : (ord n le).length = n := by rw [ord_perm.length_eq, List.length_range]
theorem ord_mem {x : Nat} : x ∈ ord n le ↔ x < n := by rw [ord_perm.mem_iff, List.mem_range]
theorem ord_pw : (ord n le).Pairwise fun a b => cnt n le a ≤ cnt n le b := by
  have h := sortT_pair (ordP n le)
  rw [ord_eq, List.pairwise_map] at h
  refine h.imp fun {a b} z => Classical.byContradiction fun q => ?_
  unfold pr at z
  rw [HT.lexLt_cons, if_neg (by omega)] at z
  simp only [decide_eq_false_iff_not] at z
  omega
/-- what is below comes ahead -/
theorem ord_ahead (h : House n le mt jn) {i : Nat} (hi : i < (ord n le).length) {y : Nat} (hy : y ∈ dn n le (ord n le)[i]) : ∃ j, ∃ hj : j < (ord n le).length, j < i ∧ (ord n le)[j] = y := by
  have hyn := (mem_dn.mp hy).1
  obtain ⟨j, hj, e⟩ := List.getElem_of_mem (ord_mem (le := le).mpr hyn)
  refine ⟨j, hj, Classical.byContradiction fun z => ?_, e⟩
  have hx : (ord n le)[i] < n := ord_mem.mp (List.getElem_mem hi)
  have c := cnt_lt h hx hy
  rcases Nat.lt_or_eq_of_le (Nat.le_of_not_lt z) with q | q
  · have := List.pairwise_iff_getElem.mp (ord_pw (n := n) (le := le)) i j hi hj q
    rw [e] at this
    omega
  · subst q
    exact (mem_dn.mp hy).2.2 e.symm
theorem pr_tup (x : Nat) : tupI (pr n le x) = .tup [.int (cnt n le x : Nat), .int (x : Int)] := rfl
theorem v_by_size (s : Dk) (hn : n ≤ 24) : g_by_size [tabD n le] s = some (natL (ord n le), s) := by
  have e1 := v_downs_of n le s hn
  have z2 := tup2 .non
  have a1 : setF false 1 (callF g_downs_of (consL (varF 0) nilL)) [.val (tabD n le), .non, .non, .non, .non] s = some (.nx, [.val (tabD n le), .val (upD n (over le)), .non, .non, .non], s) := by simp [e1]
  have hq1 : q1_by_size [.val (tabD n le), .val (upD n (over le)), .non, .non, .non] s = some (.lst ((ordP n le).map tupI), [.val (tabD n le), .val (upD n (over le)), .non, .non, .non], s) := by
    unfold q1_by_size
    refine (comp_map (List.range n) (fun x : Nat => .tup [.int (x : Int), .int (msk n (over le x) : Nat)]) (fun _ => true) (fun x => tupI (pr n le x)) (ρ1 := [.val (tabD n le), .val (upD n (over le)), .non, .non, .non]) (s1 := s) ?_ (by simp) (by rw [sizeL, List.length_range]; omega) (fun x hx => ?_)).trans (by simp [ordP, Function.comp_def])
    · simp [upD, seqD, enum_range]
    · have e := v_bits n (over le x) s hn
      have e' : lenD [natL ((List.range n).filter (over le x))] = some (.int (cnt n le x : Nat)) := by
        show lenD [.lst _] = _
        rw [c_lenL, List.length_map]
        rfl
      refine ⟨[.val (tabD n le), .val (upD n (over le)), .non, .val (.int (x : Int)), .val (.int (msk n (over le x) : Nat))], [.val (tabD n le), .val (upD n (over le)), .non, .val (.int (x : Int)), .val (.int (msk n (over le x) : Nat))], by simp, by simp, by simp, fun _ => ⟨[.val (tabD n le), .val (upD n (over le)), .non, .val (.int (x : Int)), .val (.int (msk n (over le x) : Nat))], ?_, by simp⟩⟩
      rw [pr_tup]
      simp [e, e', z2]
  have hq2 : q2_by_size [.val (tabD n le), .val (upD n (over le)), .non, .non, .non] s = some (natL (ord n le), [.val (tabD n le), .val (upD n (over le)), .non, .non, .non], s) := by
    have hs : itemsF (mapF sortD (consL q1_by_size nilL)) [.val (tabD n le), .val (upD n (over le)), .non, .non, .non] s = some ((ord n le).map fun x => tupI (pr n le x), [.val (tabD n le), .val (upD n (over le)), .non, .non, .non], s) := by
      rw [d_itemsF, d_mapF, d_consL, hq1]
      simp only [d_nilL, c_sortT, ord_eq, List.map_map]
      rfl
    unfold q2_by_size
    refine (comp_map (ord n le) (fun x => tupI (pr n le x)) (fun _ => true) (fun x : Nat => .int (x : Int)) (ρ1 := [.val (tabD n le), .val (upD n (over le)), .non, .non, .non]) (s1 := s) hs (by simp) (by rw [sizeL, ord_len]; omega) (fun x hx => ?_)).trans (by simp [natL])
    refine ⟨[.val (tabD n le), .val (upD n (over le)), .val (.int (cnt n le x : Nat)), .val (.int (x : Int)), .non], [.val (tabD n le), .val (upD n (over le)), .val (.int (cnt n le x : Nat)), .val (.int (x : Int)), .non], by simp [pr_tup], by simp, by simp, fun _ => ⟨[.val (tabD n le), .val (upD n (over le)), .val (.int (cnt n le x : Nat)), .val (.int (x : Int)), .non], by simp, by simp⟩⟩
  have key : b_by_size [.val (tabD n le), .non, .non, .non, .non] s = some (.rt (natL (ord n le)), [.val (tabD n le), .val (upD n (over le)), .non, .non, .non], s) := by
    unfold b_by_size
    rw [d_seqF, a1]; simp only
    rw [d_retF, hq2]
  exact defN_rt rfl rfl key
/-! ### depths -/
def linL (n : Nat) (f : Nat → Nat) : List D := (List.range n).map fun y => .int (f y : Nat)
theorem linL_len (f : Nat → Nat) : (linL n f).length = n := by simp [linL]
@[simp] theorem noLs_lin (f : Nat → Nat) : noLs (linL n f) = true := noLs_map _ (fun _ => rfl) _
def upd1 (f : Nat → Nat) (x v : Nat) : Nat → Nat := fun y => if y = x then v else f y
theorem lin_set (f : Nat → Nat) (x v : Nat) : (linL n f).set x (.int (v : Nat)) = linL n (upd1 f x v) := by
  refine List.ext_getElem? fun i => ?_
  unfold linL
  rw [List.getElem?_set, List.length_map, List.length_range, List.getElem?_map, List.getElem?_map]
  by_cases e : x = i
  · subst e
    by_cases hx : x < n
    · rw [if_pos rfl, if_pos hx, List.getElem?_range hx]
      simp [upd1]
    · rw [if_pos rfl, if_neg hx, List.getElem?_eq_none (by rw [List.length_range]; omega)]
      rfl
  · rw [if_neg e]
    cases z : (List.range n)[i]? with
    | none => rfl
    | some j =>
      have ej : j = i := by
        obtain ⟨h1, h2⟩ := List.getElem?_eq_some_iff.mp z
        rw [List.getElem_range] at h2
        exact h2.symm
      have : ¬ j = x := by omega
      simp [upd1, this]
theorem lin_rep (hn : n ≤ 24) : repD (.lst [.int 0]) (.int (n : Int)) = some (.lst (linL n fun _ => 0)) := by
  rw [o_rep, if_pos ⟨by omega, by omega, by simp⟩, Int.toNat_natCast]
  have : (List.replicate n [D.int 0]).flatten = linL n fun _ => 0 := by
    unfold linL
    clear hn
    induction n with
    | zero => rfl
    | succ k ih =>
      rw [List.replicate_succ', List.flatten_append, ih, List.range_succ, List.map_append]
      rfl
  rw [this]
theorem ix_lin (f : Nat → Nat) {y : Nat} (hy : y < n) : ixD (.lst (linL n f)) (.int (y : Int)) = some (.int (f y : Nat)) := ix_line f hy
theorem ixN_nat {m x : Nat} (h : x < m) : ixN m (x : Int) = some x := by
  unfold ixN
  rw [if_pos (by omega), if_pos (by omega), Int.toNat_natCast]
theorem fold_mx : ∀ (l : List Nat) (a : Nat), (l.map fun x : Nat => (x : Int)).foldl max (a : Int) = ((max a (mx l) : Nat) : Int)
  | [], a => by simp [mx]
  | b :: l, a => by
    rw [List.map_cons, List.foldl_cons, show max (a : Int) (b : Int) = ((max a b : Nat) : Int) by omega, fold_mx l (max a b)]
    show ((max (max a b) (mx l) : Nat) : Int) = ((max a (max b (mx l)) : Nat) : Int)
    omega
theorem fold_mx1 : ∀ (l : List Nat) (a : Int), 0 ≤ a + 1 → (l.map fun x : Nat => (x : Int)).foldl max a + 1 = max (a + 1) ((mx (l.map (· + 1)) : Nat) : Int)
  | [], a, h => by
    simp [mx]
    omega
  | b :: l, a, h => by
    rw [List.map_cons, List.foldl_cons, List.map_cons]
    have := fold_mx1 l (max a b) (by omega)
    unfold mx
    omega
theorem natl_ints (l : List Nat) : (l.map fun x : Nat => D.int (x : Int)) = (l.map fun x : Nat => (x : Int)).map .int := by
  rw [List.map_map]
  rfl
theorem max_mx (l : List Nat) : maxD [.lst (.int 0 :: l.map fun x : Nat => D.int (x : Int))] = some (.int (mx l : Nat)) := by
  rw [natl_ints]
  show (match intsD (((0 : Int) :: l.map fun x : Nat => (x : Int)).map .int) with | some (n :: ns) => some (D.int (ns.foldl max n)) | _ => none) = _
  rw [intsD_map]
  have := fold_mx l 0
  simp only [Nat.zero_max] at this
  exact congrArg (fun z => some (D.int z)) this
theorem max_mx1 (l : List Nat) : ∃ z : Int, maxD [.lst (.int (-1) :: l.map fun x : Nat => D.int (x : Int))] = some (.int z) ∧ z + 1 = (mx (l.map (· + 1)) : Nat) := by
  refine ⟨(l.map fun x : Nat => (x : Int)).foldl max (-1), ?_, ?_⟩
  · rw [natl_ints]
    show (match intsD (((-1 : Int) :: l.map fun x : Nat => (x : Int)).map .int) with | some (n :: ns) => some (D.int (ns.foldl max n)) | _ => none) = _
    rw [intsD_map]
  · rw [fold_mx1 l (-1) (by omega)]
    omega
def ED (n : Nat) (le : Nat → Nat → Bool) (f : Nat → Nat) (x2 : Sl) : En := [.val (tabD n le), .own false (linL n f), x2, .non, .non]
theorem q1_depths (f : Nat → Nat) {x : Nat} (hx : x < n) (s : Dk) (hn : n ≤ 24) : q1_depths_of (ED n le f (.val (.int (x : Int)))) s = some (.lst ((dn n le x).map fun y => .int ((f y + 1 : Nat) : Int)), ED n le f (.val (.int (x : Int))), s) := by
  unfold q1_depths_of
  refine (comp_map (List.range n) (fun y : Nat => .tup [.int (y : Int), rowD n (le y)]) (fun y => le y x && !decide (y = x)) (fun y => .int ((f y + 1 : Nat) : Int)) (ρ1 := ED n le f (.val (.int (x : Int)))) (s1 := s) (by simp [ED, tabD, seqD, enum_range]) (by simp [ED]) (by rw [sizeL, List.length_range]; omega) (fun y hy => ?_)).trans rfl
  have hy := List.mem_range.mp hy
  have e1 := ix_row (le y) hx
  have e2 := b1_one (le y x)
  have e3 := ne_int (y : Int) (x : Int)
  have e4 := ix_lin f hy
  refine ⟨[.val (tabD n le), .own false (linL n f), .val (.int (x : Int)), .val (.int (y : Int)), .val (rowD n (le y))], [.val (tabD n le), .own false (linL n f), .val (.int (x : Int)), .val (.int (y : Int)), .val (rowD n (le y))], by simp [ED], ?_, fun _ => by simp [ED], fun _ => ⟨[.val (tabD n le), .own false (linL n f), .val (.int (x : Int)), .val (.int (y : Int)), .val (rowD n (le y))], ?_, by simp [ED]⟩⟩
  · by_cases e : y = x
    · subst e
      simp
    · have e' : ¬ ((y : Int) = (x : Int)) := by omega
      rw [decide_eq_false e'] at e3
      simp only [d_andB, d_truF, d_binF, d_varF, d_cstF, List.getElem?_cons_succ, List.getElem?_cons_zero, e1, e2, e3, o_truB, Bool.not_false, thaw_val, thaw_non, thaw_nil, thaw_own, decide_eq_false e, Bool.and_true]
  · simp [-o_ixL, e4]
theorem bd1_depths (f : Nat → Nat) {x : Nat} (hx : x < n) (s : Dk) (hn : n ≤ 24) : bd1_depths_of (ED n le f (.val (.int (x : Int)))) s = some (.nx, ED n le (upd1 f x (mx ((dn n le x).map fun y => f y + 1))) (.val (.int (x : Int))), s) := by
  have e1 := q1_depths (le := le) f hx s hn
  have e2 := max_mx ((dn n le x).map fun y => f y + 1)
  rw [List.map_map] at e2
  have hl : ((dn n le x).map fun y => D.int ((f y + 1 : Nat) : Int)).length ≤ 24 := by
    rw [List.length_map]
    have := cs_le (n := n) (le := le) x
    unfold cs at this
    omega
  have hz : 1 ≤ sizeLine := by rw [sizeL]; omega
  have hz2 : 1 + ((dn n le x).map fun y => D.int ((f y + 1 : Nat) : Int)).length ≤ sizeLine := by rw [sizeL]; omega
  have e3 : mapF maxD (consL (thawF (binF addD (mapF dispL (consL (cstF (.int 0)) nilL)) q1_depths_of)) nilL) (ED n le f (.val (.int (x : Int)))) s = some (.int (mx ((dn n le x).map fun y => f y + 1) : Nat), ED n le f (.val (.int (x : Int))), s) := by
    rw [d_mapF, d_consL, d_thawF, d_binF]
    simp only [d_mapF, d_consL, d_cstF, d_nilL, c_dispL, List.length_cons, List.length_nil, Nat.zero_add, hz, if_true, e1, o_addL, hz2, Option.map_some, List.cons_append, List.nil_append]
    rw [show maxD [D.lst (D.int 0 :: (dn n le x).map fun y => D.int ((f y + 1 : Nat) : Int))] = some (.int (mx ((dn n le x).map fun y => f y + 1) : Nat)) from e2]
    simp
  have e4 : (thawF (mapF maxD (consL (thawF (binF addD (mapF dispL (consL (cstF (.int 0)) nilL)) q1_depths_of)) nilL))) (ED n le f (.val (.int (x : Int)))) s = some (.int (mx ((dn n le x).map fun y => f y + 1) : Nat), ED n le f (.val (.int (x : Int))), s) := by
    rw [d_thawF, e3]
    simp [ED]
  have e5 := ixN_nat (x := x) (m := n) hx
  unfold bd1_depths_of
  rw [d_setAtF, e4]
  simp [ED, linL_len, e5, lin_set]
theorem v_depths_of (h : House n le mt jn) (s : Dk) : g_depths_of [tabD n le] s = some (.lst (linL n (dep n le)), s) := by
  have hn := h.few
  have e0 := v_by_size (le := le) s hn
  have e1 := lin_rep hn
  have hz : 1 ≤ sizeLine := by rw [sizeL]; omega
  have a1 : setF true 1 (binF repD (mapF dispL (consL (cstF (.int 0)) nilL)) (mapF lenD (consL (varF 0) nilL))) [.val (tabD n le), .non, .non, .non, .non] s = some (.nx, ED n le (fun _ => 0) .non, s) := by
    rw [d_setFt, d_binF]
    simp only [d_mapF, d_consL, d_cstF, d_nilL, c_dispL, List.length_cons, List.length_nil, Nat.zero_add, hz, if_true, d_varF, List.getElem?_cons_zero, len_tab, e1]
    simp [ED]
  obtain ⟨ρ', s', q1, rfl, f, x2, rfl, p2, hf⟩ := loop_ix (S := Dk) (tg := putV 2) (b := bd1_depths_of) (fun i : Nat => .int (i : Int)) (fun i ρ s' => s' = s ∧ ∃ (f : Nat → Nat) (x2 : Sl), ρ = ED n le f x2 ∧ Pl x2 ∧ ∀ j (hj : j < (ord n le).length), j < i → f (ord n le)[j] = dep n le (ord n le)[j]) (ord n le) (ED n le (fun _ => 0) .non) s ⟨rfl, _, .non, rfl, nn, fun j hj z => by omega⟩ (fun i hi ρ s' z => by
    obtain ⟨rfl, f, x2, rfl, p2, hf⟩ := z
    have hx : (ord n le)[i] < n := ord_mem.mp (List.getElem_mem hi)
    have e := bd1_depths (le := le) f hx s' hn
    refine ⟨ED n le f (.val (.int ((ord n le)[i] : Int))), _, s', by simp [ED, thaw_any p2, freeze_any p2], e, rfl, _, _, rfl, nv _, fun j hj z => ?_⟩
    have hm : mx ((dn n le (ord n le)[i]).map fun y => f y + 1) = dep n le (ord n le)[i] := by
      rw [dep_eq h hx]
      refine congrArg mx (List.map_congr_left fun y hy => ?_)
      obtain ⟨k, hk, ki, ek⟩ := ord_ahead h hi hy
      rw [← ek, hf k hk ki]
    rw [hm]
    unfold upd1
    split
    · rename_i e2; rw [e2]
    · rename_i e2
      have : j ≠ i := fun e3 => by subst e3; exact e2 rfl
      exact hf j hj (by omega))
  have hall : linL n f = linL n (dep n le) := by
    unfold linL
    refine List.map_congr_left fun y hy => ?_
    obtain ⟨j, hj, e⟩ := List.getElem_of_mem (ord_mem (le := le).mpr (List.mem_range.mp hy))
    have := hf j hj hj
    rw [e] at this
    rw [this]
  have a2 : lp1_depths_of (ED n le (fun _ => 0) .non) s' = some (.nx, ED n le (dep n le) x2, s') := by
    unfold lp1_depths_of
    have hi : itemsF (callF g_by_size (consL (varF 0) nilL)) (ED n le (fun _ => 0) .non) s' = some ((ord n le).map fun i : Nat => .int (i : Int), ED n le (fun _ => 0) .non, s') := by
      simp [ED, e0, natL]
    rw [d_forF, hi]
    have : L3.freeze (ED n le (fun _ => 0) .non) = ED n le (fun _ => 0) .non := by simp [ED]
    simp only [this]
    unfold ED at q1 ⊢
    rw [hall] at q1
    exact q1
  have key : ∃ ρ, b_depths_of [.val (tabD n le), .non, .non, .non, .non] s' = some (.rt (.lst (linL n (dep n le))), ρ, s') := by
    refine ⟨[.val (tabD n le), .own true (linL n (dep n le)), x2, .non, .non], ?_⟩
    unfold b_depths_of
    rw [d_seqF, a1]; simp only
    rw [d_seqF, a2]
    simp [ED]
  obtain ⟨ρ, key⟩ := key
  exact defN_rt rfl rfl key
end
end Q
end
section
set_option Elab.async false
set_option linter.all false
set_option maxRecDepth 100000
set_option autoImplicit false
set_option maxHeartbeats 2000000
namespace Q
open PySem PySem.Spec PyProof.Rows L2 L3
section
variable {n : Nat} {le : Nat → Nat → Bool} {mt jn : Nat → Nat → Nat}
/-! ### the law's own depths -/
theorem sum_b1 (p : Nat → Bool) : ∀ l : List Nat, (l.map fun y => b1 (p y)).sum = ((l.filter p).length : Int)
  | [] => rfl
  | a :: l => by
    rw [List.map_cons, List.sum_cons, sum_b1 p l]
    cases h : p a
    · simp [h, b1]
    · simp [h, b1]
      omega
def EL0 (n : Nat) (le : Nat → Nat → Bool) (x2 : Sl) : En := [.val (tabD n le), .val (.int n), x2, .non, .non, .non, .non, .non]
theorem q1_ld {x : Nat} (hx : x < n) (s : Dk) (hn : n ≤ 24) : q1__law_depths (EL0 n le (.val (.int (x : Int)))) s = some (.lst (((List.range n).map fun y => b1 (le y x)).map .int), EL0 n le (.val (.int (x : Int))), s) := by
  unfold q1__law_depths
  refine (comp_map (List.range n) (fun y => rowD n (le y)) (fun _ => true) (fun y => .int (b1 (le y x))) (ρ1 := EL0 n le (.val (.int (x : Int)))) (s1 := s) (by simp [EL0, tabD]) (by simp [EL0]) (by rw [sizeL, List.length_range]; omega) (fun y hy => ?_)).trans (by simp [Function.comp_def])
  have e1 := ix_row (le y) hx
  refine ⟨[.val (tabD n le), .val (.int n), .val (.int (x : Int)), .non, .non, .non, .val (rowD n (le y)), .non], [.val (tabD n le), .val (.int n), .val (.int (x : Int)), .non, .non, .non, .val (rowD n (le y)), .non], by simp [EL0], by simp, by simp, fun _ => ⟨[.val (tabD n le), .val (.int n), .val (.int (x : Int)), .non, .non, .non, .val (rowD n (le y)), .non], ?_, by simp [EL0]⟩⟩
  simp [e1]
theorem q2_ld (s : Dk) (hn : n ≤ 24) : q2__law_depths (EL0 n le .non) s = some (.lst ((ordP n le).map tupI), EL0 n le .non, s) := by
  have hr := range_nat n (by omega)
  have z2 := tup2 .non
  unfold q2__law_depths
  refine (comp_map (List.range n) (fun i : Nat => .int (0 + (i : Nat))) (fun _ => true) (fun x => tupI (pr n le x)) (ρ1 := EL0 n le .non) (s1 := s) (by simp [EL0, hr]) (by simp [EL0]) (by rw [sizeL, List.length_range]; omega) (fun x hx => ?_)).trans (by simp [ordP, Function.comp_def])
  have hx := List.mem_range.mp hx
  have e1 := q1_ld (le := le) hx s hn
  have e2 := sum_ints ((List.range n).map fun y => b1 (le y x))
  rw [sum_b1 (fun y => le y x)] at e2
  refine ⟨EL0 n le (.val (.int (x : Int))), EL0 n le (.val (.int (x : Int))), by simp [EL0], by simp, by simp [EL0], fun _ => ⟨EL0 n le (.val (.int (x : Int))), ?_, by simp [EL0]⟩⟩
  rw [d_mapF, d_consL, d_mapF, d_consL, e1]
  simp only [d_nilL, e2, d_consL]
  rw [pr_tup]
  simp [EL0, z2]
  rfl
def EL (n : Nat) (le : Nat → Nat → Bool) (f : Nat → Nat) (x2 x5 : Sl) : En := [.val (tabD n le), .val (.int n), x2, .val (.lst ((ord n le).map fun x => tupI (pr n le x))), .own false (linL n f), x5, .non, .non]
theorem q3_ld (f : Nat → Nat) {x : Nat} (x5 : Sl) (hx : x < n) (s : Dk) (hn : n ≤ 24) (p5 : Pl x5) : q3__law_depths (EL n le f (.val (.int (x : Int))) x5) s = some (.lst ((dn n le x).map fun y => .int (f y : Nat)), EL n le f (.val (.int (x : Int))) x5, s) := by
  have hr := range_nat n (by omega)
  unfold q3__law_depths
  refine (comp_map (List.range n) (fun i : Nat => .int (0 + (i : Nat))) (fun y => le y x && !decide (y = x)) (fun y => .int (f y : Nat)) (ρ1 := EL n le f (.val (.int (x : Int))) x5) (s1 := s) (by simp [EL, hr]) (by simp [EL]) (by rw [sizeL, List.length_range]; omega) (fun y hy => ?_)).trans rfl
  have hy := List.mem_range.mp hy
  have e0 := ix_tab le hy
  have e1 := ix_row (le y) hx
  have e2 := b1_one (le y x)
  have e3 := ne_int (y : Int) (x : Int)
  have e4 := ix_lin f hy
  have e5 : decide ((y : Int) = (x : Int)) = decide (y = x) := by
    rw [Bool.eq_iff_iff, decide_eq_true_eq, decide_eq_true_eq]
    omega
  rw [e5] at e3
  refine ⟨[.val (tabD n le), .val (.int n), .val (.int (x : Int)), .val (.lst ((ord n le).map fun x => tupI (pr n le x))), .own false (linL n f), x5, .non, .val (.int (y : Int))], [.val (tabD n le), .val (.int n), .val (.int (x : Int)), .val (.lst ((ord n le).map fun x => tupI (pr n le x))), .own false (linL n f), x5, .non, .val (.int (y : Int))], by simp [EL], ?_, fun _ => by simp [EL], fun _ => ⟨[.val (tabD n le), .val (.int n), .val (.int (x : Int)), .val (.lst ((ord n le).map fun x => tupI (pr n le x))), .own false (linL n f), x5, .non, .val (.int (y : Int))], ?_, by simp [EL]⟩⟩
  · cases c : le y x with
    | false =>
      rw [c] at e1 e2
      simp only [d_andB, d_truF, d_binF, d_varF, d_cstF, List.getElem?_cons_succ, List.getElem?_cons_zero, e0, e1, e2, o_truB, thaw_val, thaw_non, thaw_nil, thaw_own, thaw_any p5, Bool.false_and]
    | true =>
      rw [c] at e1 e2
      simp only [d_andB, d_truF, d_binF, d_varF, d_cstF, List.getElem?_cons_succ, List.getElem?_cons_zero, e0, e1, e2, e3, o_truB, thaw_val, thaw_non, thaw_nil, thaw_own, thaw_any p5, Bool.true_and]
  · simp [-o_ixL, e4, thaw_any p5]
theorem bd1_ld (f : Nat → Nat) {x : Nat} (x5 : Sl) (hx : x < n) (s : Dk) (hn : n ≤ 24) (p5 : Pl x5) : bd1__law_depths (EL n le f (.val (.int (x : Int))) x5) s = some (.nx, EL n le (upd1 f x (mx ((dn n le x).map fun y => f y + 1))) (.val (.int (x : Int))) x5, s) := by
  have e1 := q3_ld (le := le) f x5 hx s hn p5
  obtain ⟨z, e2, ez⟩ := max_mx1 ((dn n le x).map f)
  rw [List.map_map] at e2 ez
  have hl : ((dn n le x).map fun y => D.int (f y : Nat)).length ≤ 24 := by
    rw [List.length_map]
    have := cs_le (n := n) (le := le) x
    unfold cs at this
    omega
  have hz : 1 ≤ sizeLine := by rw [sizeL]; omega
  have hz2 : 1 + ((dn n le x).map fun y => D.int (f y : Nat)).length ≤ sizeLine := by rw [sizeL]; omega
  have e3 : mapF maxD (consL (thawF (binF addD (mapF dispL (consL (negF (cstF (.int 1))) nilL)) q3__law_depths)) nilL) (EL n le f (.val (.int (x : Int))) x5) s = some (.int z, EL n le f (.val (.int (x : Int))) x5, s) := by
    rw [d_mapF, d_consL, d_thawF, d_binF]
    simp only [d_mapF, d_consL, d_negF, d_cstF, d_nilL, c_dispL, List.length_cons, List.length_nil, Nat.zero_add, hz, if_true, e1, o_addL, hz2, Option.map_some, List.cons_append, List.nil_append]
    rw [show maxD [D.lst (D.int (-1) :: (dn n le x).map fun y => D.int (f y : Nat))] = some (.int z) from e2]
    simp
  have e3' : thawF (mapF maxD (consL (thawF (binF addD (mapF dispL (consL (negF (cstF (.int 1))) nilL)) q3__law_depths)) nilL)) (EL n le f (.val (.int (x : Int))) x5) s = some (.int z, EL n le f (.val (.int (x : Int))) x5, s) := by
    rw [d_thawF, e3]
    simp [EL, thaw_any p5]
  have e4 : (thawF (binF addD (thawF (mapF maxD (consL (thawF (binF addD (mapF dispL (consL (negF (cstF (.int 1))) nilL)) q3__law_depths)) nilL))) (cstF (.int 1)))) (EL n le f (.val (.int (x : Int))) x5) s = some (.int (mx ((dn n le x).map fun y => f y + 1) : Nat), EL n le f (.val (.int (x : Int))) x5, s) := by
    rw [d_thawF, d_binF, e3']
    simp only [d_cstF, o_add, ez]
    simp [EL, thaw_any p5]
    rfl
  have e5 := ixN_nat (x := x) (m := n) hx
  unfold bd1__law_depths
  rw [d_setAtF, e4]
  simp [EL, linL_len, e5, lin_set, thaw_any p5]
theorem v__law_depths (h : House n le mt jn) (s : Dk) : g__law_depths [tabD n le] s = some (.tup (linL n (dep n le)), s) := by
  have hn := h.few
  have e1 := lin_rep hn
  have hz : 1 ≤ sizeLine := by rw [sizeL]; omega
  have a0 : setF false 1 (mapF lenD (consL (varF 0) nilL)) [.val (tabD n le), .non, .non, .non, .non, .non, .non, .non] s = some (.nx, EL0 n le .non, s) := by simp [len_tab, EL0]
  have a1 : setF false 3 (mapF sortD (consL q2__law_depths nilL)) (EL0 n le .non) s = some (.nx, [.val (tabD n le), .val (.int n), .non, .val (.lst ((ord n le).map fun x => tupI (pr n le x))), .non, .non, .non, .non], s) := by
    have e := q2_ld (le := le) s hn
    rw [d_setFf, d_mapF, d_consL, e]
    simp only [d_nilL, c_sortT, ord_eq, List.map_map]
    simp [EL0, Function.comp_def]
  have a2 : setF true 4 (binF repD (mapF dispL (consL (cstF (.int 0)) nilL)) (varF 1)) [.val (tabD n le), .val (.int n), .non, .val (.lst ((ord n le).map fun x => tupI (pr n le x))), .non, .non, .non, .non] s = some (.nx, EL n le (fun _ => 0) .non .non, s) := by
    rw [d_setFt, d_binF]
    simp only [d_mapF, d_consL, d_cstF, d_nilL, c_dispL, List.length_cons, List.length_nil, Nat.zero_add, hz, if_true, d_varF, List.getElem?_cons_zero, List.getElem?_cons_succ, e1]
    simp [EL]
  obtain ⟨ρ', s', q1, rfl, f, x2, x5, rfl, p2, p5, hf⟩ := loop_ix (S := Dk) (tg := tupG 2 (consG (putV 5) (consG (putV 2) nilG))) (b := bd1__law_depths) (fun x : Nat => tupI (pr n le x)) (fun i ρ s' => s' = s ∧ ∃ (f : Nat → Nat) (x2 x5 : Sl), ρ = EL n le f x2 x5 ∧ Pl x2 ∧ Pl x5 ∧ ∀ j (hj : j < (ord n le).length), j < i → f (ord n le)[j] = dep n le (ord n le)[j]) (ord n le) (EL n le (fun _ => 0) .non .non) s ⟨rfl, _, .non, .non, rfl, nn, nn, fun j hj z => by omega⟩ (fun i hi ρ s' z => by
    obtain ⟨rfl, f, x2, x5, rfl, p2, p5, hf⟩ := z
    have hx : (ord n le)[i] < n := ord_mem.mp (List.getElem_mem hi)
    have e := bd1_ld (le := le) f (.val (.int (cnt n le (ord n le)[i] : Nat))) hx s' hn (nv _)
    refine ⟨EL n le f (.val (.int ((ord n le)[i] : Int))) (.val (.int (cnt n le (ord n le)[i] : Nat))), _, s', by simp [EL, pr_tup, thaw_any p2, thaw_any p5, freeze_any p2, freeze_any p5], e, rfl, _, _, _, rfl, nv _, nv _, fun j hj z => ?_⟩
    have hm : mx ((dn n le (ord n le)[i]).map fun y => f y + 1) = dep n le (ord n le)[i] := by
      rw [dep_eq h hx]
      refine congrArg mx (List.map_congr_left fun y hy => ?_)
      obtain ⟨k, hk, ki, ek⟩ := ord_ahead h hi hy
      rw [← ek, hf k hk ki]
    rw [hm]
    unfold upd1
    split
    · rename_i e2; rw [e2]
    · rename_i e2
      have : j ≠ i := fun e3 => by subst e3; exact e2 rfl
      exact hf j hj (by omega))
  have hall : linL n f = linL n (dep n le) := by
    unfold linL
    refine List.map_congr_left fun y hy => ?_
    obtain ⟨j, hj, e⟩ := List.getElem_of_mem (ord_mem (le := le).mpr (List.mem_range.mp hy))
    have := hf j hj hj
    rw [e] at this
    rw [this]
  have a3 : lp1__law_depths (EL n le (fun _ => 0) .non .non) s' = some (.nx, EL n le (dep n le) x2 x5, s') := by
    unfold lp1__law_depths
    have hi : itemsF (varF 3) (EL n le (fun _ => 0) .non .non) s' = some ((ord n le).map fun x => tupI (pr n le x), EL n le (fun _ => 0) .non .non, s') := by
      simp [EL]
    rw [d_forF, hi]
    have : L3.freeze (EL n le (fun _ => 0) .non .non) = EL n le (fun _ => 0) .non .non := by simp [EL]
    simp only [this]
    unfold EL at q1 ⊢
    rw [hall] at q1
    exact q1
  have key : ∃ ρ, b__law_depths [.val (tabD n le), .non, .non, .non, .non, .non, .non, .non] s' = some (.rt (.tup (linL n (dep n le))), ρ, s') := by
    refine ⟨EL n le (dep n le) x2 x5, ?_⟩
    unfold b__law_depths
    rw [d_seqF, a0]; simp only
    rw [d_seqF, a1]; simp only
    rw [d_seqF, a2]; simp only
    rw [d_seqF, a3]; simp only
    rw [d_retF, d_thawF, d_mapF, d_consL]
    simp [EL, thaw_any p2, thaw_any p5]
  obtain ⟨ρ, key⟩ := key
  exact defN_rt rfl rfl key
/-! ### steps -/
theorem c_any (bs : List Bool) : anyD [.lst (bs.map .bl)] = some (.bl (bs.any id)) := by
  unfold anyD
  simp only [boolsD_map]
  rfl
theorem up_len (x : Nat) : (up n le x).length ≤ n := by
  have := List.length_filter_le (fun y => le x y && !decide (y = x)) (List.range n)
  rw [List.length_range] at this
  exact this
theorem dec_ii (a b : Nat) : decide ((a : Int) = (b : Int)) = decide (a = b) := by
  rw [Bool.eq_iff_iff, decide_eq_true_eq, decide_eq_true_eq]
  omega
def ES (n : Nat) (le : Nat → Nat → Bool) (x : Nat) (x2 x3 x4 x5 : Sl) : En := [.val (tabD n le), .val (.int (x : Int)), x2, x3, x4, x5]
theorem q1_so {x : Nat} (hx : x < n) (s : Dk) (hn : n ≤ 24) : q1_steps_of (ES n le x .non .non .non .non) s = some (natL (up n le x), ES n le x .non .non .non .non, s) := by
  unfold q1_steps_of
  have e0 := ix_tab le hx
  refine (comp_map (List.range n) (fun y : Nat => .tup [.int (y : Int), .int (b1 (le x y))]) (fun y => le x y && !decide (y = x)) (fun y : Nat => .int (y : Int)) (ρ1 := ES n le x .non .non .non .non) (s1 := s) ?_ (by simp [ES]) (by rw [sizeL, List.length_range]; omega) (fun y hy => ?_)).trans rfl
  · simp only [d_enumL, d_consL, d_binF, d_varF, d_nilL, ES, List.getElem?_cons_succ, List.getElem?_cons_zero, e0]
    simp [rowD, seqD, enum_range]
  · have e2 := b1_one (le x y)
    have e3 := ne_int (y : Int) (x : Int)
    rw [dec_ii] at e3
    refine ⟨ES n le x .non (.val (.int (y : Int))) (.val (.int (b1 (le x y)))) .non, ES n le x .non (.val (.int (y : Int))) (.val (.int (b1 (le x y)))) .non, by simp [ES], ?_, by simp [ES], fun _ => ⟨ES n le x .non (.val (.int (y : Int))) (.val (.int (b1 (le x y)))) .non, by simp [ES], by simp [ES]⟩⟩
    cases c : le x y with
    | false =>
      rw [c] at e2
      simp only [d_andB, d_truF, d_binF, d_varF, d_cstF, ES, List.getElem?_cons_succ, List.getElem?_cons_zero, e2, o_truB, thaw_val, thaw_non, thaw_nil, Bool.false_and]
    | true =>
      rw [c] at e2
      simp only [d_andB, d_truF, d_binF, d_varF, d_cstF, ES, List.getElem?_cons_succ, List.getElem?_cons_zero, e2, e3, o_truB, thaw_val, thaw_non, thaw_nil, Bool.true_and]
theorem q2_so {x y : Nat} (hy : y < n) (s : Dk) (hn : n ≤ 24) : q2_steps_of (ES n le x (.val (natL (up n le x))) (.val (.int (y : Int))) .non .non) s = some (.lst (((up n le x).map fun z => !decide (z = y) && le z y).map .bl), ES n le x (.val (natL (up n le x))) (.val (.int (y : Int))) .non .non, s) := by
  unfold q2_steps_of
  have hl := up_len (n := n) (le := le) x
  refine (comp_map (up n le x) (fun z : Nat => .int (z : Int)) (fun _ => true) (fun z => .bl (!decide (z = y) && le z y)) (ρ1 := ES n le x (.val (natL (up n le x))) (.val (.int (y : Int))) .non .non) (s1 := s) (by simp [ES, natL]) (by simp [ES]) (by rw [sizeL]; omega) (fun z hz => ?_)).trans (by simp [Function.comp_def])
  have hz := (mem_up.mp hz).1
  have e0 := ix_tab le hz
  have e1 := ix_row (le z) hy
  have e2 := b1_one (le z y)
  have e3 := ne_int (z : Int) (y : Int)
  rw [dec_ii] at e3
  refine ⟨ES n le x (.val (natL (up n le x))) (.val (.int (y : Int))) .non (.val (.int (z : Int))), ES n le x (.val (natL (up n le x))) (.val (.int (y : Int))) .non (.val (.int (z : Int))), by simp [ES], by simp, by simp [ES], fun _ => ⟨ES n le x (.val (natL (up n le x))) (.val (.int (y : Int))) .non (.val (.int (z : Int))), ?_, by simp [ES]⟩⟩
  cases c : decide (z = y) with
  | true =>
    rw [c] at e3
    simp only [d_andF, d_binF, d_varF, d_cstF, ES, List.getElem?_cons_succ, List.getElem?_cons_zero, e3, Bool.not_true, Bool.false_and]
  | false =>
    rw [c] at e3
    simp only [d_andF, d_binF, d_varF, d_cstF, ES, List.getElem?_cons_succ, List.getElem?_cons_zero, e0, e1, e2, e3, Bool.not_false, Bool.true_and]
theorem v_steps_of {x : Nat} (hx : x < n) (s : Dk) (hn : n ≤ 24) : g_steps_of [tabD n le, .int (x : Int)] s = some (natL (cov n le x), s) := by
  have e1 := q1_so (le := le) hx s hn
  have hl := up_len (n := n) (le := le) x
  have a1 : setF false 2 q1_steps_of (ES n le x .non .non .non .non) s = some (.nx, ES n le x (.val (natL (up n le x))) .non .non .non, s) := by
    rw [d_setFf, e1]
    simp [ES, natL]
  have hq : q3_steps_of (ES n le x (.val (natL (up n le x))) .non .non .non) s = some (natL (cov n le x), ES n le x (.val (natL (up n le x))) .non .non .non, s) := by
    unfold q3_steps_of
    refine (comp_map (up n le x) (fun z : Nat => .int (z : Int)) (fun y => !(up n le x).any fun z => !decide (z = y) && le z y) (fun y : Nat => .int (y : Int)) (ρ1 := ES n le x (.val (natL (up n le x))) .non .non .non) (s1 := s) (by simp [ES, natL]) (by simp [ES]) (by rw [sizeL]; omega) (fun y hy => ?_)).trans rfl
    have e2 := q2_so (le := le) (x := x) (mem_up.mp hy).1 s hn
    have e3 := c_any ((up n le x).map fun z => !decide (z = y) && le z y)
    rw [List.any_map] at e3
    refine ⟨ES n le x (.val (natL (up n le x))) (.val (.int (y : Int))) .non .non, ES n le x (.val (natL (up n le x))) (.val (.int (y : Int))) .non .non, by simp [ES], ?_, by simp [ES], fun _ => ⟨ES n le x (.val (natL (up n le x))) (.val (.int (y : Int))) .non .non, by simp [ES], by simp [ES]⟩⟩
    rw [d_notB, d_truF, d_mapF, d_consL, e2]
    simp only [d_nilL, e3, o_truB]
    simp [ES, Function.comp_def]
  have key : b_steps_of (ES n le x .non .non .non .non) s = some (.rt (natL (cov n le x)), ES n le x (.val (natL (up n le x))) .non .non .non, s) := by
    unfold b_steps_of
    rw [d_seqF, a1]; simp only
    rw [d_retF, hq]
  exact defN_rt rfl rfl key
end
end Q
end
section
set_option Elab.async false
set_option linter.all false
set_option maxRecDepth 100000
set_option autoImplicit false
set_option maxHeartbeats 2000000
namespace Q
open PySem PySem.Spec PyProof.Rows L2 L3
section
variable {n : Nat} {le : Nat → Nat → Bool} {mt jn : Nat → Nat → Nat}
/-! ### the law's own steps -/
def EV (n : Nat) (le : Nat → Nat → Bool) (x : Nat) (x2 x3 x4 : Sl) : En := [.val (tabD n le), .val (.int (x : Int)), x2, x3, x4]
theorem q1_la {x : Nat} (hx : x < n) (s : Dk) (hn : n ≤ 24) : q1__law_above (EV n le x .non .non .non) s = some (natL (up n le x), EV n le x .non .non .non, s) := by
  have hr := range_nat n (by omega)
  unfold q1__law_above
  refine (comp_map (List.range n) (fun i : Nat => .int (0 + (i : Nat))) (fun y => le x y && !decide (y = x)) (fun y : Nat => .int (y : Int)) (ρ1 := EV n le x .non .non .non) (s1 := s) (by simp [EV, len_tab, hr]) (by simp [EV]) (by rw [sizeL, List.length_range]; omega) (fun y hy => ?_)).trans rfl
  have hy := List.mem_range.mp hy
  have e0 := ix_tab le hx
  have e1 := ix_row (le x) hy
  have e2 := b1_one (le x y)
  have e3 := ne_int (y : Int) (x : Int)
  rw [dec_ii] at e3
  refine ⟨EV n le x .non (.val (.int (y : Int))) .non, EV n le x .non (.val (.int (y : Int))) .non, by simp [EV], ?_, by simp [EV], fun _ => ⟨EV n le x .non (.val (.int (y : Int))) .non, by simp [EV], by simp [EV]⟩⟩
  cases c : le x y with
  | false =>
    rw [c] at e1 e2
    simp only [d_andB, d_truF, d_binF, d_varF, d_cstF, EV, List.getElem?_cons_succ, List.getElem?_cons_zero, e0, e1, e2, o_truB, thaw_val, thaw_non, thaw_nil, Bool.false_and]
  | true =>
    rw [c] at e1 e2
    simp only [d_andB, d_truF, d_binF, d_varF, d_cstF, EV, List.getElem?_cons_succ, List.getElem?_cons_zero, e0, e1, e2, e3, o_truB, thaw_val, thaw_non, thaw_nil, Bool.true_and]
theorem q2_la {x y : Nat} (hy : y < n) (s : Dk) (hn : n ≤ 24) : q2__law_above (EV n le x (.val (natL (up n le x))) (.val (.int (y : Int))) .non) s = some (natL ((up n le x).filter fun z => !decide (z = y) && le z y), EV n le x (.val (natL (up n le x))) (.val (.int (y : Int))) .non, s) := by
  unfold q2__law_above
  have hl := up_len (n := n) (le := le) x
  refine (comp_map (up n le x) (fun z : Nat => .int (z : Int)) (fun z => !decide (z = y) && le z y) (fun z : Nat => .int (z : Int)) (ρ1 := EV n le x (.val (natL (up n le x))) (.val (.int (y : Int))) .non) (s1 := s) (by simp [EV, natL]) (by simp [EV]) (by rw [sizeL]; omega) (fun z hz => ?_)).trans rfl
  have hz := (mem_up.mp hz).1
  have e0 := ix_tab le hz
  have e1 := ix_row (le z) hy
  have e2 := b1_one (le z y)
  have e3 := ne_int (z : Int) (y : Int)
  rw [dec_ii] at e3
  refine ⟨EV n le x (.val (natL (up n le x))) (.val (.int (y : Int))) (.val (.int (z : Int))), EV n le x (.val (natL (up n le x))) (.val (.int (y : Int))) (.val (.int (z : Int))), by simp [EV], ?_, by simp [EV], fun _ => ⟨EV n le x (.val (natL (up n le x))) (.val (.int (y : Int))) (.val (.int (z : Int))), by simp [EV], by simp [EV]⟩⟩
  cases c : decide (z = y) with
  | true =>
    rw [c] at e3
    simp only [d_andB, d_truF, d_binF, d_varF, d_cstF, EV, List.getElem?_cons_succ, List.getElem?_cons_zero, e3, o_truB, thaw_val, thaw_non, thaw_nil, Bool.not_true, Bool.false_and]
  | false =>
    rw [c] at e3
    simp only [d_andB, d_truF, d_binF, d_varF, d_cstF, EV, List.getElem?_cons_succ, List.getElem?_cons_zero, e0, e1, e2, e3, o_truB, thaw_val, thaw_non, thaw_nil, Bool.not_false, Bool.true_and]
theorem v__law_above {x : Nat} (hx : x < n) (s : Dk) (hn : n ≤ 24) : g__law_above [tabD n le, .int (x : Int)] s = some (natT (cov n le x), s) := by
  have e1 := q1_la (le := le) hx s hn
  have hl := up_len (n := n) (le := le) x
  have z0 : 0 ≤ sizeLine := Nat.zero_le _
  have a1 : setF false 2 q1__law_above (EV n le x .non .non .non) s = some (.nx, EV n le x (.val (natL (up n le x))) .non .non, s) := by
    rw [d_setFf, e1]
    simp [EV, natL]
  have hq : q3__law_above (EV n le x (.val (natL (up n le x))) .non .non) s = some (natL (cov n le x), EV n le x (.val (natL (up n le x))) .non .non, s) := by
    unfold q3__law_above
    refine (comp_map (up n le x) (fun z : Nat => .int (z : Int)) (fun y => !(up n le x).any fun z => !decide (z = y) && le z y) (fun y : Nat => .int (y : Int)) (ρ1 := EV n le x (.val (natL (up n le x))) .non .non) (s1 := s) (by simp [EV, natL]) (by simp [EV]) (by rw [sizeL]; omega) (fun y hy => ?_)).trans rfl
    have e2 := q2_la (le := le) (x := x) (mem_up.mp hy).1 s hn
    have e3 := eq_natnil ((up n le x).filter fun z => !decide (z = y) && le z y)
    rw [filter_empty, ← List.not_any_eq_all_not] at e3
    refine ⟨EV n le x (.val (natL (up n le x))) (.val (.int (y : Int))) .non, EV n le x (.val (natL (up n le x))) (.val (.int (y : Int))) .non, by simp [EV], ?_, by simp [EV], fun _ => ⟨EV n le x (.val (natL (up n le x))) (.val (.int (y : Int))) .non, by simp [EV], by simp [EV]⟩⟩
    rw [d_truF, d_binF, e2]
    simp only [d_mapF, d_nilL, c_dispL, List.length_nil, z0, if_true, e3, o_truB]
    simp [EV]
  have key : b__law_above (EV n le x .non .non .non) s = some (.rt (natT (cov n le x)), EV n le x (.val (natL (up n le x))) .non .non, s) := by
    unfold b__law_above
    rw [d_seqF, a1]; simp only
    rw [d_retF, d_mapF, d_consL, hq]
    rfl
  exact defN_rt rfl rfl key
/-! ### pieces -/
theorem dn_len (x : Nat) : (dn n le x).length ≤ n := cs_le x
def EP (n : Nat) (le : Nat → Nat → Bool) (b : Nat) (L : List Nat) (x4 x5 : Sl) : En := [.val (tabD n le), .own false (L.map fun x : Nat => .int (x : Int)), .val (upD n (over le)), .val (.int (b : Int)), x4, x5, .non]
theorem noLs_nat (L : List Nat) : noLs (L.map fun x : Nat => D.int (x : Int)) = true := noLs_map _ (fun _ => rfl) _
theorem q1_po (b : Nat) (L : List Nat) {x : Nat} (hx : x < n) (s : Dk) (hn : n ≤ 24) : q1_pieces_of (EP n le b L (.val (.int (x : Int))) (.val (.int (msk n (over le x) : Nat)))) s = some (natL (dn n le x), EP n le b L (.val (.int (x : Int))) (.val (.int (msk n (over le x) : Nat))), s) := by
  have e0 := v_bits n (over le x) s hn
  have hlen := List.length_filter_le (over le x) (List.range n)
  rw [List.length_range] at hlen
  unfold q1_pieces_of
  refine (comp_map ((List.range n).filter (over le x)) (fun z : Nat => .int (z : Int)) (fun y => !decide (y = x)) (fun z : Nat => .int (z : Int)) (ρ1 := EP n le b L (.val (.int (x : Int))) (.val (.int (msk n (over le x) : Nat)))) (s1 := s) (by simp [EP, e0, natL]) (by simp [EP]) (by rw [sizeL]; omega) (fun y hy => ?_)).trans ?_
  · have e3 := ne_int (y : Int) (x : Int)
    rw [dec_ii] at e3
    refine ⟨[.val (tabD n le), .own false (L.map fun x : Nat => .int (x : Int)), .val (upD n (over le)), .val (.int (b : Int)), .val (.int (x : Int)), .val (.int (msk n (over le x) : Nat)), .val (.int (y : Int))], [.val (tabD n le), .own false (L.map fun x : Nat => .int (x : Int)), .val (upD n (over le)), .val (.int (b : Int)), .val (.int (x : Int)), .val (.int (msk n (over le x) : Nat)), .val (.int (y : Int))], by simp [EP], ?_, fun _ => by simp [EP], fun _ => ⟨[.val (tabD n le), .own false (L.map fun x : Nat => .int (x : Int)), .val (upD n (over le)), .val (.int (b : Int)), .val (.int (x : Int)), .val (.int (msk n (over le x) : Nat)), .val (.int (y : Int))], by simp, by simp [EP]⟩⟩
    simp only [d_truF, d_binF, d_varF, List.getElem?_cons_succ, List.getElem?_cons_zero, e3, o_truB, thaw_val, thaw_non, thaw_nil, thaw_own]
  · rw [List.filter_filter]
    unfold dn over
    have : (fun a => !decide (a = x) && le a x) = fun y => le y x && !decide (y = x) := funext fun y => Bool.and_comm _ _
    rw [this]
    rfl
theorem isPc_of (h : House n le mt jn) {b x : Nat} (hb : Bot n le b) (hx : x < n) : isPc n le jn x = (!decide (x = b) && !decide ((dn n le x).foldl jn b = x)) := by
  unfold isPc
  by_cases e : x = b
  · have : dn n le x = [] := Classical.byContradiction fun z => (dn_ne h hb hx).mp z e
    rw [this, decide_eq_true e]
    rfl
  · have h1 := (dn_ne h hb hx).mpr e
    have h2 : (dn n le x).isEmpty = false := by
      cases z : dn n le x with
      | nil => exact absurd z h1
      | cons a l => rfl
    have h3 : decide ((dn n le x).foldl jn b = x) = split n le jn x := by
      rw [Bool.eq_iff_iff, decide_eq_true_eq]
      exact fold_dn h hb hx e
    simp [h2, h3, e]
theorem range_filter_succ (p : Nat → Bool) (i : Nat) : (List.range (i + 1)).filter p = (List.range i).filter p ++ if p i then [i] else [] := by
  rw [List.range_succ, List.filter_append]
  cases h : p i <;> simp [h]
theorem v_pieces_of (h : House n le mt jn) {b : Nat} (hb : Bot n le b) (s : Dk) : g_pieces_of [tabD n le] s = some (natL (pcs n le jn), s) := by
  have hn := h.few
  have e0 := v_downs_of n le s hn
  have e1 := v_least_of h hb s
  have z0 : 0 ≤ sizeLine := Nat.zero_le _
  have a1 : parF [1, 2] (consI true (mapF dispL nilL) (consI false (callF g_downs_of (consL (varF 0) nilL)) nilI)) [.val (tabD n le), .non, .non, .non, .non, .non, .non] s = some (.nx, [.val (tabD n le), .own false [], .val (upD n (over le)), .non, .non, .non, .non], s) := by
    rw [d_parF, d_consIt, d_mapF]
    simp only [d_nilL, c_dispL, List.length_nil, z0, if_true, noLb_lst]
    simp [e0]
  have a2 : setF false 3 (callF g_least_of (consL (varF 0) nilL)) [.val (tabD n le), .own false [], .val (upD n (over le)), .non, .non, .non, .non] s = some (.nx, EP n le b [] .non .non, s) := by
    simp [e1, EP]
  obtain ⟨ρ', s', q1, rfl, x4, x5, rfl, p4, p5⟩ := loop_ix (S := Dk) (tg := tupG 2 (consG (putV 4) (consG (putV 5) nilG))) (b := bd1_pieces_of) (fun x : Nat => .tup [.int (x : Int), .int (msk n (over le x) : Nat)]) (fun i ρ s' => s' = s ∧ ∃ (x4 x5 : Sl), ρ = EP n le b ((List.range i).filter (isPc n le jn)) x4 x5 ∧ Pl x4 ∧ Pl x5) (List.range n) (EP n le b [] .non .non) s ⟨rfl, .non, .non, rfl, nn, nn⟩ (fun i hi ρ s' z => by
    obtain ⟨rfl, x4, x5, rfl, p4, p5⟩ := z
    have hi' : i < n := by simpa using hi
    have f1 := q1_po (le := le) b ((List.range i).filter (isPc n le jn)) hi' s' hn
    have f2 := v_all_of_some h hb (natL (dn n le i)) (dn n le i) (.inl rfl) (fun y hy => (mem_dn.mp hy).1) s'
    have f3 := ne_int (i : Int) (b : Int)
    have f4 := ne_int (((dn n le i).foldl jn b : Nat) : Int) (i : Int)
    rw [dec_ii] at f3 f4
    have f5 := isPc_of h hb hi'
    have hlen := List.length_filter_le (isPc n le jn) (List.range i)
    rw [List.length_range] at hlen
    refine ⟨EP n le b ((List.range i).filter (isPc n le jn)) (.val (.int (i : Int))) (.val (.int (msk n (over le i) : Nat))), EP n le b ((List.range (i + 1)).filter (isPc n le jn)) (.val (.int (i : Int))) (.val (.int (msk n (over le i) : Nat))), s', by simp [EP, thaw_any p4, thaw_any p5, freeze_any p4, freeze_any p5], ?_, rfl, _, _, rfl, nv _, nv _⟩
    have tst : andB (truF (binF neD (varF 4) (varF 3))) (truF (binF neD (callF g_all_of_some (consL (varF 0) (consL q1_pieces_of nilL))) (varF 4))) (EP n le b ((List.range i).filter (isPc n le jn)) (.val (.int (i : Int))) (.val (.int (msk n (over le i) : Nat)))) s' = some (isPc n le jn i, EP n le b ((List.range i).filter (isPc n le jn)) (.val (.int (i : Int))) (.val (.int (msk n (over le i) : Nat))), s') := by
      rw [f5]
      have t1 : truF (binF neD (varF 4) (varF 3)) (EP n le b ((List.range i).filter (isPc n le jn)) (.val (.int (i : Int))) (.val (.int (msk n (over le i) : Nat)))) s' = some (!decide (i = b), EP n le b ((List.range i).filter (isPc n le jn)) (.val (.int (i : Int))) (.val (.int (msk n (over le i) : Nat))), s') := by
        simp only [d_truF, d_binF, d_varF, EP, List.getElem?_cons_succ, List.getElem?_cons_zero, f3, o_truB, thaw_val, thaw_non, thaw_nil, thaw_own]
      rw [d_andB, t1]
      cases c : decide (i = b) with
      | true => simp
      | false =>
        have v0 : varF 0 (EP n le b ((List.range i).filter (isPc n le jn)) (.val (.int (i : Int))) (.val (.int (msk n (over le i) : Nat)))) s' = some (tabD n le, EP n le b ((List.range i).filter (isPc n le jn)) (.val (.int (i : Int))) (.val (.int (msk n (over le i) : Nat))), s') := by simp [EP]
        simp only [Bool.not_false, Bool.true_and]
        rw [d_truF, d_binF, d_callF, d_consL, v0]
        simp only
        rw [d_consL, f1]
        simp only [d_nilL, f2]
        simp only [d_varF, EP, List.getElem?_cons_succ, List.getElem?_cons_zero, f4, o_truB, thaw_val, thaw_non, thaw_nil, thaw_own]
    unfold bd1_pieces_of
    rw [d_ifF, tst, range_filter_succ]
    cases c : isPc n le jn i with
    | false => simp
    | true =>
      have hz : ((List.range i).filter (isPc n le jn)).length < sizeLine := by rw [sizeL]; omega
      simp [EP, hz])
  rw [List.length_range] at q1
  have a3 : lp1_pieces_of (EP n le b [] .non .non) s' = some (.nx, EP n le b (pcs n le jn) x4 x5, s') := by
    unfold lp1_pieces_of
    have hi : enumL (consL (varF 2) nilL) (EP n le b [] .non .non) s' = some ((List.range n).map fun x : Nat => .tup [.int (x : Int), .int (msk n (over le x) : Nat)], EP n le b [] .non .non, s') := by
      simp [EP, upD, seqD, enum_range]
    rw [d_forF, hi]
    have : L3.freeze (EP n le b [] .non .non) = EP n le b [] .non .non := by simp [EP]
    simp only [this]
    exact q1
  have key : ∃ ρ, b_pieces_of [.val (tabD n le), .non, .non, .non, .non, .non, .non] s' = some (.rt (natL (pcs n le jn)), ρ, s') := by
    refine ⟨[.val (tabD n le), .own true ((pcs n le jn).map fun x : Nat => .int (x : Int)), .val (upD n (over le)), .val (.int (b : Int)), x4, x5, .non], ?_⟩
    unfold b_pieces_of
    rw [d_seqF, a1]; simp only
    rw [d_seqF, a2]; simp only
    rw [d_seqF, a3]
    simp [EP, natL]
  obtain ⟨ρ, key⟩ := key
  exact defN_rt rfl rfl key
theorem pcs_len : (pcs n le jn).length ≤ n := by
  have := List.length_filter_le (isPc n le jn) (List.range n)
  rw [List.length_range] at this
  exact this
theorem v_pieces_in (h : House n le mt jn) {b x : Nat} (hb : Bot n le b) (hx : x < n) (s : Dk) : g_pieces_in [tabD n le, .int (x : Int)] s = some (natL (pin n le jn x), s) := by
  have hn := h.few
  have e0 := v_pieces_of h hb s
  have hl := pcs_len (n := n) (le := le) (jn := jn)
  have hq : q1_pieces_in [.val (tabD n le), .val (.int (x : Int)), .non] s = some (natL (pin n le jn x), [.val (tabD n le), .val (.int (x : Int)), .non], s) := by
    unfold q1_pieces_in
    refine (comp_map (pcs n le jn) (fun z : Nat => .int (z : Int)) (fun p => le p x) (fun z : Nat => .int (z : Int)) (ρ1 := [.val (tabD n le), .val (.int (x : Int)), .non]) (s1 := s) (by simp [e0, natL]) (by simp) (by rw [sizeL]; omega) (fun y hy => ?_)).trans rfl
    have hy : y < n := List.mem_range.mp (List.mem_filter.mp hy).1
    have f0 := ix_tab le hy
    have f1 := ix_row (le y) hx
    have f2 := b1_one (le y x)
    refine ⟨[.val (tabD n le), .val (.int (x : Int)), .val (.int (y : Int))], [.val (tabD n le), .val (.int (x : Int)), .val (.int (y : Int))], by simp, ?_, by simp, fun _ => ⟨[.val (tabD n le), .val (.int (x : Int)), .val (.int (y : Int))], by simp, by simp⟩⟩
    simp only [d_truF, d_binF, d_varF, d_cstF, List.getElem?_cons_succ, List.getElem?_cons_zero, f0, f1, f2, o_truB, thaw_val, thaw_non, thaw_nil]
  have key : b_pieces_in [.val (tabD n le), .val (.int (x : Int)), .non] s = some (.rt (natL (pin n le jn x)), [.val (tabD n le), .val (.int (x : Int)), .non], s) := by
    unfold b_pieces_in
    rw [d_retF, hq]
  exact defN_rt rfl rfl key
end
end Q
end
section
set_option Elab.async false
set_option linter.all false
set_option maxRecDepth 100000
set_option autoImplicit false
set_option maxHeartbeats 2000000
namespace Q
open PySem PySem.Spec PyProof.Rows L2 L3
section
variable {n : Nat} {le : Nat → Nat → Bool} {mt jn : Nat → Nat → Nat}
/-! ### the law's own pieces -/
theorem in_nat (x : Nat) (L : List Nat) : inD (.int (x : Int)) (natL L) = some (.bl (decide (x ∈ L))) := by
  rw [natL_ints, o_inL, okD_int, okD_L, inB_ints]
  simp only [Bool.and_self, if_true, Option.some.injEq, D.bl.injEq]
  rw [Bool.eq_iff_iff, decide_eq_true_eq, decide_eq_true_eq]
  unfold toI
  rw [List.mem_map]
  constructor
  · rintro ⟨y, hy, e⟩
    have : y = x := by omega
    rwa [this] at hy
  · intro hx
    exact ⟨x, hx, rfl⟩
theorem ne_natnil (xs : List Nat) : neD (natL xs) (.lst []) = some (.bl (!xs.isEmpty)) := by
  rw [natL_ints]
  have := ne_nil (toI xs)
  rw [this]
  cases xs <;> rfl
theorem eq_ones (xs : List Nat) : eqD (.lst (xs.map fun _ => .int 1)) (.lst []) = some (.bl xs.isEmpty) := by
  have e : (xs.map fun _ => D.int 1) = (xs.map fun _ => (1 : Int)).map .int := by rw [List.map_map]; rfl
  rw [e, o_eq, okD_L, show okD 60 (.lst []) = true from okD_L [], eq_nil]
  cases xs <;> rfl
def EJ (n : Nat) (le : Nat → Nat → Bool) (jn : Nat → Nat → Nat) (L : List Nat) (x3 x4 x5 x6 : Sl) : En := [.val (tabD n le), .val (matD n jn), .own false (L.map fun x : Nat => .int (x : Int)), x3, x4, x5, x6]
theorem q1_lp {x : Nat} (L : List Nat) (x4 : Sl) (hx : x < n) (s : Dk) (hn : n ≤ 24) (p4 : Pl x4) : q1__law_pieces (EJ n le jn L (.val (.int (x : Int))) x4 .non .non) s = some (natL (dn n le x), EJ n le jn L (.val (.int (x : Int))) x4 .non .non, s) := by
  have hr := range_nat n (by omega)
  unfold q1__law_pieces
  refine (comp_map (List.range n) (fun i : Nat => .int (0 + (i : Nat))) (fun y => le y x && !decide (y = x)) (fun y : Nat => .int (y : Int)) (ρ1 := EJ n le jn L (.val (.int (x : Int))) x4 .non .non) (s1 := s) (by simp [EJ, len_tab, hr]) (by simp [EJ]) (by rw [sizeL, List.length_range]; omega) (fun y hy => ?_)).trans rfl
  have hy := List.mem_range.mp hy
  have e0 := ix_tab le hy
  have e1 := ix_row (le y) hx
  have e2 := b1_one (le y x)
  have e3 := ne_int (y : Int) (x : Int)
  rw [dec_ii] at e3
  refine ⟨EJ n le jn L (.val (.int (x : Int))) x4 (.val (.int (y : Int))) .non, EJ n le jn L (.val (.int (x : Int))) x4 (.val (.int (y : Int))) .non, by simp [EJ], ?_, fun _ => by simp [EJ], fun _ => ⟨EJ n le jn L (.val (.int (x : Int))) x4 (.val (.int (y : Int))) .non, by simp [EJ], by simp [EJ]⟩⟩
  cases c : le y x with
  | false =>
    rw [c] at e1 e2
    simp only [d_andB, d_truF, d_binF, d_varF, d_cstF, EJ, List.getElem?_cons_succ, List.getElem?_cons_zero, e0, e1, e2, o_truB, thaw_val, thaw_non, thaw_nil, thaw_own, thaw_any p4, Bool.false_and]
  | true =>
    rw [c] at e1 e2
    simp only [d_andB, d_truF, d_binF, d_varF, d_cstF, EJ, List.getElem?_cons_succ, List.getElem?_cons_zero, e0, e1, e2, e3, o_truB, thaw_val, thaw_non, thaw_nil, thaw_own, thaw_any p4, Bool.true_and]
theorem q2_lp {x y : Nat} (L : List Nat) (hy : y < n) (s : Dk) (hn : n ≤ 24) : q2__law_pieces (EJ n le jn L (.val (.int (x : Int))) (.val (natL (dn n le x))) (.val (.int (y : Int))) .non) s = some (natL ((dn n le x).map (jn y)), EJ n le jn L (.val (.int (x : Int))) (.val (natL (dn n le x))) (.val (.int (y : Int))) .non, s) := by
  have hl := dn_len (n := n) (le := le) x
  unfold q2__law_pieces
  refine (comp_map (dn n le x) (fun z : Nat => .int (z : Int)) (fun _ => true) (fun z => .int (jn y z : Nat)) (ρ1 := EJ n le jn L (.val (.int (x : Int))) (.val (natL (dn n le x))) (.val (.int (y : Int))) .non) (s1 := s) (by simp [EJ, natL]) (by simp [EJ]) (by rw [sizeL]; omega) (fun z hz => ?_)).trans (by simp [natL, Function.comp_def])
  have hz := (mem_dn.mp hz).1
  have e0 := ix_mat jn hy
  have e1 := ix_line (jn y) hz
  refine ⟨EJ n le jn L (.val (.int (x : Int))) (.val (natL (dn n le x))) (.val (.int (y : Int))) (.val (.int (z : Int))), EJ n le jn L (.val (.int (x : Int))) (.val (natL (dn n le x))) (.val (.int (y : Int))) (.val (.int (z : Int))), by simp [EJ], by simp, fun _ => by simp [EJ], fun _ => ⟨EJ n le jn L (.val (.int (x : Int))) (.val (natL (dn n le x))) (.val (.int (y : Int))) (.val (.int (z : Int))), ?_, by simp [EJ]⟩⟩
  simp only [d_binF, d_varF, EJ, List.getElem?_cons_succ, List.getElem?_cons_zero, e0, e1]
theorem q3_lp {x : Nat} (L : List Nat) (s : Dk) (hn : n ≤ 24) : q3__law_pieces (EJ n le jn L (.val (.int (x : Int))) (.val (natL (dn n le x))) .non .non) s = some (.lst (((dn n le x).filter fun y => decide (x ∈ (dn n le x).map (jn y))).map fun _ => .int 1), EJ n le jn L (.val (.int (x : Int))) (.val (natL (dn n le x))) .non .non, s) := by
  have hl := dn_len (n := n) (le := le) x
  unfold q3__law_pieces
  refine (comp_map (dn n le x) (fun z : Nat => .int (z : Int)) (fun y => decide (x ∈ (dn n le x).map (jn y))) (fun _ => .int 1) (ρ1 := EJ n le jn L (.val (.int (x : Int))) (.val (natL (dn n le x))) .non .non) (s1 := s) (by simp [EJ, natL]) (by simp [EJ]) (by rw [sizeL]; omega) (fun y hy => ?_)).trans rfl
  have e1 := q2_lp (le := le) (jn := jn) (x := x) L (mem_dn.mp hy).1 s hn
  have e2 := in_nat x ((dn n le x).map (jn y))
  refine ⟨EJ n le jn L (.val (.int (x : Int))) (.val (natL (dn n le x))) (.val (.int (y : Int))) .non, EJ n le jn L (.val (.int (x : Int))) (.val (natL (dn n le x))) (.val (.int (y : Int))) .non, by simp [EJ], ?_, fun _ => by simp [EJ], fun _ => ⟨EJ n le jn L (.val (.int (x : Int))) (.val (natL (dn n le x))) (.val (.int (y : Int))) .non, by simp [EJ], by simp [EJ]⟩⟩
  have v3 : varF 3 (EJ n le jn L (.val (.int (x : Int))) (.val (natL (dn n le x))) (.val (.int (y : Int))) .non) s = some (.int (x : Int), EJ n le jn L (.val (.int (x : Int))) (.val (natL (dn n le x))) (.val (.int (y : Int))) .non, s) := by simp [EJ]
  rw [d_truF, d_binF, v3]
  simp only
  rw [e1]
  simp only [e2, o_truB]
  simp [EJ]
theorem split_all (x : Nat) : ((dn n le x).filter fun y => decide (x ∈ (dn n le x).map (jn y))).isEmpty = !split n le jn x := by
  rw [filter_empty, ← List.not_any_eq_all_not]
  unfold split
  congr 1
  refine congrArg (fun f => (dn n le x).any f) (funext fun y => ?_)
  rw [Bool.eq_iff_iff]
  simp
theorem bd1_lp {x : Nat} (L : List Nat) (x4 : Sl) (hx : x < n) (s : Dk) (hn : n ≤ 24) (p4 : Pl x4) (hL : L.length ≤ 24) : bd1__law_pieces (EJ n le jn L (.val (.int (x : Int))) x4 .non .non) s = some (.nx, EJ n le jn (L ++ if isPc n le jn x then [x] else []) (.val (.int (x : Int))) (.val (natL (dn n le x))) .non .non, s) := by
  have f1 := q1_lp (le := le) (jn := jn) L x4 hx s hn p4
  have f3 := q3_lp (le := le) (jn := jn) (x := x) L s hn
  have f4 := ne_natnil (dn n le x)
  have f5 := eq_ones ((dn n le x).filter fun y => decide (x ∈ (dn n le x).map (jn y)))
  rw [split_all] at f5
  have z0 : 0 ≤ sizeLine := Nat.zero_le _
  have hz : L.length < sizeLine := by rw [sizeL]; omega
  have a1 : setF false 4 q1__law_pieces (EJ n le jn L (.val (.int (x : Int))) x4 .non .non) s = some (.nx, EJ n le jn L (.val (.int (x : Int))) (.val (natL (dn n le x))) .non .non, s) := by
    rw [d_setFf, f1]
    simp [EJ, natL, freeze_any p4]
  have t1 : truF (binF neD (varF 4) (mapF dispL nilL)) (EJ n le jn L (.val (.int (x : Int))) (.val (natL (dn n le x))) .non .non) s = some (!(dn n le x).isEmpty, EJ n le jn L (.val (.int (x : Int))) (.val (natL (dn n le x))) .non .non, s) := by
    simp only [d_truF, d_binF, d_varF, d_mapF, d_nilL, c_dispL, List.length_nil, z0, if_true, EJ, List.getElem?_cons_succ, List.getElem?_cons_zero, f4, o_truB, thaw_val, thaw_non, thaw_nil, thaw_own]
  have tst : andB (truF (binF neD (varF 4) (mapF dispL nilL))) (truF (binF eqD q3__law_pieces (mapF dispL nilL))) (EJ n le jn L (.val (.int (x : Int))) (.val (natL (dn n le x))) .non .non) s = some (isPc n le jn x, EJ n le jn L (.val (.int (x : Int))) (.val (natL (dn n le x))) .non .non, s) := by
    rw [d_andB, t1]
    unfold isPc
    cases c : (dn n le x).isEmpty with
    | true => simp
    | false =>
      simp only [Bool.not_false, Bool.true_and]
      rw [d_truF, d_binF, f3]
      simp only [d_mapF, d_nilL, c_dispL, List.length_nil, z0, if_true, f5, o_truB]
      simp [EJ]
  unfold bd1__law_pieces
  rw [d_seqF, a1]
  simp only
  rw [d_ifF, tst]
  cases c : isPc n le jn x with
  | false => simp
  | true => simp [EJ, hz]
theorem v__law_pieces (h : House n le mt jn) (s : Dk) : g__law_pieces [tabD n le, matD n jn] s = some (natT (pcs n le jn), s) := by
  have hn := h.few
  have hr := range_nat n (by omega)
  have z0 : 0 ≤ sizeLine := Nat.zero_le _
  have a1 : setF true 2 (mapF dispL nilL) [.val (tabD n le), .val (matD n jn), .non, .non, .non, .non, .non] s = some (.nx, EJ n le jn [] .non .non .non .non, s) := by
    rw [d_setFt, d_mapF]
    simp only [d_nilL, c_dispL, List.length_nil, z0, if_true, noLb_lst]
    simp [EJ]
  obtain ⟨ρ', s', q1, rfl, x3, x4, rfl, p3, p4⟩ := loop_ix (S := Dk) (tg := putV 3) (b := bd1__law_pieces) (fun i : Nat => .int (0 + (i : Nat))) (fun i ρ s' => s' = s ∧ ∃ (x3 x4 : Sl), ρ = EJ n le jn ((List.range i).filter (isPc n le jn)) x3 x4 .non .non ∧ Pl x3 ∧ Pl x4) (List.range n) (EJ n le jn [] .non .non .non .non) s ⟨rfl, .non, .non, rfl, nn, nn⟩ (fun i hi ρ s' z => by
    obtain ⟨rfl, x3, x4, rfl, p3, p4⟩ := z
    have hi' : i < n := by simpa using hi
    have hlen := List.length_filter_le (isPc n le jn) (List.range i)
    rw [List.length_range] at hlen
    have e := bd1_lp (le := le) (jn := jn) ((List.range i).filter (isPc n le jn)) x4 hi' s' hn p4 (by omega)
    rw [← range_filter_succ] at e
    exact ⟨EJ n le jn ((List.range i).filter (isPc n le jn)) (.val (.int (i : Int))) x4 .non .non, _, s', by simp [EJ, thaw_any p3, thaw_any p4, freeze_any p3, freeze_any p4], e, rfl, _, _, rfl, nv _, nv _⟩)
  rw [List.length_range] at q1
  have a2 : lp1__law_pieces (EJ n le jn [] .non .non .non .non) s' = some (.nx, EJ n le jn (pcs n le jn) x3 x4 .non .non, s') := by
    unfold lp1__law_pieces
    have hi : rangeL (consL (mapF lenD (consL (varF 0) nilL)) nilL) (EJ n le jn [] .non .non .non .non) s' = some ((List.range n).map fun i : Nat => .int (0 + (i : Nat)), EJ n le jn [] .non .non .non .non, s') := by simp [EJ, len_tab, hr]
    rw [d_forF, hi]
    have : L3.freeze (EJ n le jn [] .non .non .non .non) = EJ n le jn [] .non .non .non .non := by simp [EJ]
    simp only [this]
    exact q1
  have hT : noLs ((pcs n le jn).map fun x : Nat => D.int (x : Int)) = true := noLs_nat _
  have key : b__law_pieces [.val (tabD n le), .val (matD n jn), .non, .non, .non, .non, .non] s' = some (.rt (natT (pcs n le jn)), EJ n le jn (pcs n le jn) x3 x4 .non .non, s') := by
    unfold b__law_pieces
    rw [d_seqF, a1]; simp only
    rw [d_seqF, a2]; simp only
    rw [d_retF, d_thawF, d_mapF, d_consL]
    simp [EJ, natT, hT, thaw_any p3, thaw_any p4]
  exact defN_rt rfl rfl key
/-! ### what the program tells -/
theorem v_least (h : House n le mt jn) {b : Nat} (hb : Bot n le b) (s : Dk) : g_least [tabD n le] s = some (.int (b : Nat), s) := by
  simp [g_least, b_least, v_need_house h s, v_least_of h hb s]
theorem v_greatest' (h : House n le mt jn) {t : Nat} (ht : Bot n (over le) t) (s : Dk) : g_greatest [tabD n le] s = some (.int (t : Nat), s) := by
  simp [g_greatest, b_greatest, v_need_house h s, v_greatest_of h ht s]
theorem v_pieces (h : House n le mt jn) {b : Nat} (hb : Bot n le b) (s : Dk) : g_pieces [tabD n le] s = some (natT (pcs n le jn), s) := by
  have e := v_pieces_of h hb s
  have e1 := v_need_house h s
  have key : b_pieces [.val (tabD n le)] s = some (.rt (natT (pcs n le jn)), [.val (tabD n le)], s) := by
    simp [b_pieces, e1, e, natL, natT]
  exact defN_rt rfl rfl key
theorem v_depths (h : House n le mt jn) (s : Dk) : g_depths [tabD n le] s = some (.tup (linL n (dep n le)), s) := by
  simp [g_depths, b_depths, v_need_house h s, v_depths_of h s]
theorem v_steps_above (h : House n le mt jn) {x : Nat} (hx : x < n) (s : Dk) : g_steps_above [tabD n le, .int (x : Int)] s = some (natT (cov n le x), s) := by
  have e := v_steps_of (le := le) hx s h.few
  have e1 := v_need_house h s
  have e2 := v_need_lot (le := le) hx s
  have key : b_steps_above [.val (tabD n le), .val (.int (x : Int))] s = some (.rt (natT (cov n le x)), [.val (tabD n le), .val (.int (x : Int))], s) := by
    simp [b_steps_above, e1, e2, e, natL, natT]
  exact defN_rt rfl rfl key
theorem v_pieces_within (h : House n le mt jn) {b x : Nat} (hb : Bot n le b) (hx : x < n) (s : Dk) : g_pieces_within [tabD n le, .int (x : Int)] s = some (natT (pin n le jn x), s) := by
  have e := v_pieces_in h hb hx s
  have e1 := v_need_house h s
  have e2 := v_need_lot (le := le) hx s
  have key : b_pieces_within [.val (tabD n le), .val (.int (x : Int))] s = some (.rt (natT (pin n le jn x)), [.val (tabD n le), .val (.int (x : Int))], s) := by
    simp [b_pieces_within, e1, e2, e, natL, natT]
  exact defN_rt rfl rfl key
theorem natT_tup (L : List Nat) : natT L = tupI (L.map fun x : Nat => (x : Int)) := by
  unfold natT tupI
  rw [List.map_map]
  rfl
theorem v_lot_with (h : House n le mt jn) {b : Nat} (hb : Bot n le b) (L : List Nat) (hL : ∀ y ∈ L, y < n) (hl : L.length ≤ 24) (s : Dk) : g_lot_with [tabD n le, natT L] s = some (.int (L.foldl jn b : Nat), s) := by
  have e := v_all_of_some h hb (natT L) L (.inr rfl) hL s
  have e1 := v_need_house h s
  have e2 := v_are_between (L.map fun x : Nat => (x : Int)) 0 ((n : Int) - 1) s (fun x hx => by
    obtain ⟨y, hy, rfl⟩ := List.mem_map.mp hx
    have := hL y hy
    omega) (by rw [sizeL, List.length_map]; omega)
  rw [← natT_tup] at e2
  have e3 : lenD [natT L] = some (.int (L.length : Nat)) := by
    unfold natT
    rw [c_lenT, List.length_map]
  have e4 : ¬ ((24 : Int) < (L.length : Int)) := by omega
  have key : b_lot_with [.val (tabD n le), .val (natT L)] s = some (.rt (.int (L.foldl jn b : Nat)), [.val (tabD n le), .val (natT L)], s) := by
    simp [b_lot_with, e1, e2, e3, e4, e, len_tab]
  exact defN_rt rfl rfl key
end
end Q
end
section
set_option Elab.async false
set_option linter.all false
set_option maxRecDepth 100000
set_option autoImplicit false
set_option maxHeartbeats 2000000
namespace Q
open PySem PySem.Spec PyProof.Rows L2 L3
/-! ### texts -/
structure Rp (k B : Nat) (d : D) : Prop where
  ok : okD k d = true
  sh : (toP d).showable = true
  ln : (toP d).shown.length ≤ B
theorem Rp.mono {k B C : Nat} {d : D} (h : Rp k B d) (hB : B ≤ C) : Rp k C d := ⟨h.ok, h.sh, Nat.le_trans h.ln hB⟩
theorem rp_nat {k a : Nat} (h : a < 100) : Rp k 2 (.int (a : Int)) := by
  refine ⟨okD_int k _, ?_, ?_⟩
  · simp only [toP]
    exact show_int ⟨by omega, by omega⟩
  · simp only [toP]
    exact int_text ⟨a, h⟩
theorem okDs_all {k : Nat} : ∀ {ds : List D}, (∀ d ∈ ds, okD k d = true) → okDs k ds = true
  | [], _ => okDs_nil k
  | d :: ds, h => by
    rw [okDs_cons, h d List.mem_cons_self, okDs_all fun x hx => h x (List.mem_cons_of_mem _ hx)]
    rfl
theorem rp_tup {k B m : Nat} {ds : List D} (h : ∀ d ∈ ds, Rp k B d) (hm : ds.length ≤ m) : Rp (k + 1) ((B + 2) * m + 3) (.tup ds) := by
  refine ⟨by rw [okD_tup]; exact okDs_all fun d hd => (h d hd).ok, show_tup fun d hd => (h d hd).sh, ?_⟩
  have h1 := shown_tup fun d hd => (h d hd).ln
  have h2 : (B + 2) * ds.length ≤ (B + 2) * m := Nat.mul_le_mul_left _ hm
  omega
theorem Rp.repr {B : Nat} {d : D} (h : Rp 60 B d) (hB : B ≤ 1000000) : ∃ t : Str, reprD [d] = some (.str t) := ⟨_, repr_ok h.ok h.sh (Nat.le_trans h.ln hB)⟩
theorem rp_natT {k : Nat} {L : List Nat} (h : ∀ a ∈ L, a < 100) (hl : L.length ≤ 24) : Rp (k + 1) 99 (natT L) := by
  refine (rp_tup (B := 2) (m := 24) (fun d hd => ?_) (by rw [List.length_map]; exact hl)).mono (by decide)
  obtain ⟨a, ha, rfl⟩ := List.mem_map.mp hd
  exact rp_nat (h a ha)
section
variable {n : Nat} {le : Nat → Nat → Bool} {mt jn : Nat → Nat → Nat}
def depD (n : Nat) (le : Nat → Nat → Bool) : D := .tup (linL n (dep n le))
theorem rp_dep (h : House n le mt jn) {k : Nat} : Rp (k + 1) 99 (depD n le) := by
  have hn := h.few
  refine (rp_tup (B := 2) (m := 24) (fun d hd => ?_) (by rw [linL_len]; exact hn)).mono (by decide)
  obtain ⟨a, ha, rfl⟩ := List.mem_map.mp hd
  have := dep_24 h (List.mem_range.mp ha)
  exact rp_nat (by omega)
theorem ix_dep {y : Nat} (hy : y < n) : ixD (depD n le) (.int (y : Int)) = some (.int (dep n le y : Nat)) := atI_range (fun y => D.int (dep n le y : Nat)) hy
@[simp] theorem noL_dep : noL (depD n le) = true := noLs_lin _
theorem cov_len (x : Nat) : (cov n le x).length ≤ n := by
  have h1 := List.length_filter_le (fun y => !(up n le x).any fun z => !decide (z = y) && le z y) (up n le x)
  have h2 := up_len (n := n) (le := le) x
  unfold cov
  omega
/-! ### steps reached -/
theorem dset_step {i : Nat} {f g : Ev Dk} {ρ ρ1 ρ2 : En} {s s1 s2 : Dk} {d kd : D} {t : Bool} {kds0 kds : List (Key × D)} {k : Key} (h1 : f ρ s = some (d, ρ1, s1)) (h2 : ρ1[i]? = some (.ownD t (.dic kds0))) (h3 : g (if noL d then thaw ρ ρ1 else ρ1) s1 = some (kd, ρ2, s2)) (h4 : ρ2[i]? = some (.ownD false (.dic kds)))
    (h5 : keyD kd = some k) (h6 : kds.length < sizeLine) : dsetF i f g ρ s = some (.nx, (if noL d then ρ2 else freeze ρ2).set i (.ownD false (.dic (setK kds k d))), s2) := by
  unfold dsetF
  rw [h1]
  simp only [h2, h3, h4, h5, if_pos h6]
theorem ne_str' (a : Str) : neD (.str a) (.str a) = some (.bl false) := by
  rw [o_ne, strs2_s, eqB_str]
  simp
def dkv (K : List Nat) : List (Key × D) := K.map fun y : Nat => ((Sum.inl (y : Int) : Key), D.bl true)
def ins (K : List Nat) (y : Nat) : List Nat := if y ∈ K then K else K ++ [y]
theorem dkv_any (K : List Nat) (y : Nat) : ((dkv K).any fun kv => decide (kv.1 = (Sum.inl (y : Int) : Key))) = decide (y ∈ K) := by
  rw [Bool.eq_iff_iff, decide_eq_true_eq, List.any_eq_true]
  unfold dkv
  constructor
  · rintro ⟨kv, hm, e⟩
    obtain ⟨z, hz, rfl⟩ := List.mem_map.mp hm
    simp only [decide_eq_true_eq, Sum.inl.injEq] at e
    have : z = y := by omega
    rwa [this] at hz
  · intro hy
    exact ⟨_, List.mem_map_of_mem (f := fun y : Nat => ((Sum.inl (y : Int) : Key), D.bl true)) hy, by simp⟩
theorem dkv_set (K : List Nat) (y : Nat) : setK (dkv K) (Sum.inl (y : Int)) (.bl true) = dkv (ins K y) := by
  unfold setK ins
  rw [dkv_any]
  by_cases h : y ∈ K
  · rw [if_pos (decide_eq_true h), if_pos h]
    unfold dkv
    rw [List.map_map]
    refine List.map_congr_left fun z _ => ?_
    show (if (Sum.inl (z : Int) : Key) = Sum.inl (y : Int) then ((Sum.inl (z : Int) : Key), D.bl true) else (Sum.inl (z : Int), D.bl true)) = _
    split <;> rfl
  · rw [if_neg (by simp [h]), if_neg h]
    unfold dkv
    rw [List.map_append]
    rfl
theorem dkv_keys (K : List Nat) : keysI (dkv K) = some (K.map fun y : Nat => (y : Int)) := by
  induction K with
  | nil => rfl
  | cons a K ih =>
    show (keysI (dkv K)).map ((a : Int) :: ·) = _
    rw [ih]
    rfl
theorem mem_ins {K : List Nat} {y z : Nat} : z ∈ ins K y ↔ z ∈ K ∨ z = y := by
  unfold ins
  split
  · rename_i h
    exact ⟨.inl, fun q => q.elim id fun e => by rw [e]; exact h⟩
  · simp
theorem nodup_ins {K : List Nat} {y : Nat} (h : K.Nodup) : (ins K y).Nodup := by
  unfold ins
  split
  · exact h
  · rename_i hy
    rw [List.nodup_append]
    exact ⟨h, by simp, fun a ha b hb => by simp at hb; subst hb; exact fun e => hy (e ▸ ha)⟩
structure Kok (n : Nat) (le : Nat → Nat → Bool) (K : List Nat) : Prop where
  nd : K.Nodup
  lt : ∀ y ∈ K, y < n ∧ 0 < dep n le y
theorem Kok.len {K : List Nat} (h : Kok n le K) : K.length ≤ n := by
  have e : K.Perm ((List.range n).filter fun y => decide (y ∈ K)) := (List.perm_ext_iff_of_nodup h.nd (List.nodup_range.sublist List.filter_sublist)).mpr fun y => by
    rw [List.mem_filter, List.mem_range, decide_eq_true_eq]
    exact ⟨fun z => ⟨(h.lt y z).1, z⟩, fun z => z.2⟩
  have h2 := List.length_filter_le (fun y => decide (y ∈ K)) (List.range n)
  rw [List.length_range] at h2
  rw [e.length_eq]
  exact h2
def EK (n : Nat) (le : Nat → Nat → Bool) (K : List Nat) (x4 x5 x6 : Sl) : En := [.val (tabD n le), .val (depD n le), .val (.int n), .ownD false (.dic (dkv K)), x4, x5, x6]
theorem bd1_as (h : House n le mt jn) {K : List Nat} (hK : Kok n le K) {x y : Nat} (x5 : Sl) (hx : x < n) (hy : y ∈ cov n le x) (s : Dk) (p5 : Pl x5) : ∃ K', bd1__law_are_steps (EK n le K (.val (.int (x : Int))) x5 (.val (.int (y : Int)))) s = some (.nx, EK n le K' (.val (.int (x : Int))) x5 (.val (.int (y : Int))), s) ∧ Kok n le K' ∧ (∀ z ∈ K, z ∈ K') ∧ (dep n le y = dep n le x + 1 → y ∈ K') := by
  have hn := h.few
  have hyn := (mem_cov.mp hy).1.1
  have hd := cov_dep h hx hy
  have e1 := ix_dep (le := le) hyn
  have e2 := ix_dep (le := le) hx
  have hl := hK.len
  have hz : (dkv K).length < sizeLine := by
    unfold dkv
    rw [List.length_map, sizeL]
    omega
  have l1 : leD (.int (dep n le y : Nat)) (.int (dep n le x : Nat)) = some (.bl false) := by
    rw [o_le, decide_eq_false (by omega)]
  have l2 := eq_int (dep n le y : Nat) ((dep n le x : Nat) + 1 : Int)
  have a1 : ifF (truF (binF leD (binF ixD (varF 1) (varF 6)) (binF ixD (varF 1) (varF 4)))) (retF (cstF (.bl false))) skipF (EK n le K (.val (.int (x : Int))) x5 (.val (.int (y : Int)))) s = some (.nx, EK n le K (.val (.int (x : Int))) x5 (.val (.int (y : Int))), s) := by
    simp only [d_ifF, d_truF, d_binF, d_varF, EK, List.getElem?_cons_succ, List.getElem?_cons_zero, e1, e2, l1, o_truB, d_skipF, thaw_val, thaw_non, thaw_nil, thaw_own, thaw_any p5]
  have t2 : truF (binF eqD (binF ixD (varF 1) (varF 6)) (binF addD (binF ixD (varF 1) (varF 4)) (cstF (.int 1)))) (EK n le K (.val (.int (x : Int))) x5 (.val (.int (y : Int)))) s = some (decide (dep n le y = dep n le x + 1), EK n le K (.val (.int (x : Int))) x5 (.val (.int (y : Int))), s) := by
    have : decide ((dep n le y : Int) = (dep n le x : Int) + 1) = decide (dep n le y = dep n le x + 1) := by
      rw [Bool.eq_iff_iff, decide_eq_true_eq, decide_eq_true_eq]
      omega
    rw [this] at l2
    simp only [d_truF, d_binF, d_varF, d_cstF, EK, List.getElem?_cons_succ, List.getElem?_cons_zero, e1, e2, o_add, l2, o_truB, thaw_val, thaw_non, thaw_nil, thaw_own, thaw_any p5]
  unfold bd1__law_are_steps
  rw [d_seqF, a1]
  simp only
  rw [d_ifF, t2]
  by_cases c : dep n le y = dep n le x + 1
  · rw [decide_eq_true c]
    refine ⟨ins K y, ?_, ⟨nodup_ins hK.nd, fun z hz => ?_⟩, fun z hz => mem_ins.mpr (.inl hz), fun _ => mem_ins.mpr (.inr rfl)⟩
    · have e := dset_step (i := 3) (f := cstF (.bl true)) (g := varF 6) (ρ := EK n le K (.val (.int (x : Int))) x5 (.val (.int (y : Int)))) (s := s) (d := .bl true) (ρ1 := EK n le K (.val (.int (x : Int))) x5 (.val (.int (y : Int)))) (s1 := s) (kd := .int (y : Int)) (ρ2 := EK n le K (.val (.int (x : Int))) x5 (.val (.int (y : Int)))) (s2 := s) (k := Sum.inl (y : Int)) (kds := dkv K) (kds0 := dkv K) (t := false) (by simp) (by simp [EK]) (by simp [EK, thaw_any p5]) (by simp [EK]) rfl hz
      rw [dkv_set] at e
      exact e
    · rcases mem_ins.mp hz with q | rfl
      · exact hK.lt z q
      · exact ⟨hyn, by omega⟩
  · rw [decide_eq_false c]
    exact ⟨K, rfl, hK, fun z hz => hz, fun e => absurd e c⟩
theorem lp1_as (h : House n le mt jn) {K : List Nat} (hK : Kok n le K) {x : Nat} (x6 : Sl) (hx : x < n) (s : Dk) (p6 : Pl x6) : ∃ K' y6, lp1__law_are_steps (EK n le K (.val (.int (x : Int))) (.val (natT (cov n le x))) x6) s = some (.nx, EK n le K' (.val (.int (x : Int))) (.val (natT (cov n le x))) y6, s) ∧ Pl y6 ∧ Kok n le K' ∧ (∀ z ∈ K, z ∈ K') ∧ ∀ y ∈ cov n le x, dep n le y = dep n le x + 1 → y ∈ K' := by
  obtain ⟨ρ', s', q1, rfl, K', y6, rfl, q6, k1, k2, k3⟩ := loop_ix (S := Dk) (tg := putV 6) (b := bd1__law_are_steps) (fun i : Nat => .int (i : Int)) (fun i ρ s' => s' = s ∧ ∃ (K' : List Nat) (y6 : Sl), ρ = EK n le K' (.val (.int (x : Int))) (.val (natT (cov n le x))) y6 ∧ Pl y6 ∧ Kok n le K' ∧ (∀ z ∈ K, z ∈ K') ∧ ∀ j (hj : j < (cov n le x).length), j < i → dep n le (cov n le x)[j] = dep n le x + 1 → (cov n le x)[j] ∈ K') (cov n le x) (EK n le K (.val (.int (x : Int))) (.val (natT (cov n le x))) x6) s ⟨rfl, K, x6, rfl, p6, hK, fun z hz => hz, fun j hj z => by omega⟩ (fun i hi ρ s' z => by
    obtain ⟨rfl, K1, y6, rfl, q6, k1, k2, k3⟩ := z
    obtain ⟨K2, e, m1, m2, m3⟩ := bd1_as h k1 (.val (natT (cov n le x))) hx (List.getElem_mem hi) s' (nv _)
    refine ⟨EK n le K1 (.val (.int (x : Int))) (.val (natT (cov n le x))) (.val (.int ((cov n le x)[i] : Int))), _, s', by simp [EK, thaw_any q6, freeze_any q6], e, rfl, K2, _, rfl, nv _, m1, fun z hz => m2 z (k2 z hz), fun j hj z => ?_⟩
    by_cases ej : j = i
    · subst ej
      exact m3
    · exact fun e => m2 _ (k3 j hj (by omega) e))
  refine ⟨K', y6, ?_, q6, k1, k2, fun y hy e => ?_⟩
  · unfold lp1__law_are_steps
    have hi : itemsF (varF 5) (EK n le K (.val (.int (x : Int))) (.val (natT (cov n le x))) x6) s' = some ((cov n le x).map fun i : Nat => .int (i : Int), EK n le K (.val (.int (x : Int))) (.val (natT (cov n le x))) x6, s') := by simp [EK, natT]
    rw [d_forF, hi]
    have : L3.freeze (EK n le K (.val (.int (x : Int))) (.val (natT (cov n le x))) x6) = EK n le K (.val (.int (x : Int))) (.val (natT (cov n le x))) x6 := by simp [EK, freeze_any p6]
    simp only [this]
    exact q1
  · obtain ⟨j, hj, rfl⟩ := List.getElem_of_mem hy
    exact k3 j hj hj e
theorem bd2_as (h : House n le mt jn) {K : List Nat} (hK : Kok n le K) {x : Nat} (x5 x6 : Sl) (hx : x < n) (s : Dk) (p5 : Pl x5) (p6 : Pl x6) : ∃ K' y6, bd2__law_are_steps (EK n le K (.val (.int (x : Int))) x5 x6) s = some (.nx, EK n le K' (.val (.int (x : Int))) (.val (natT (cov n le x))) y6, s) ∧ Pl y6 ∧ Kok n le K' ∧ (∀ z ∈ K, z ∈ K') ∧ ∀ y ∈ cov n le x, dep n le y = dep n le x + 1 → y ∈ K' := by
  have hn := h.few
  obtain ⟨K', y6, e, q6, k1, k2, k3⟩ := lp1_as h hK x6 hx s p6
  refine ⟨K', y6, ?_, q6, k1, k2, k3⟩
  have f1 := v__law_above (le := le) hx s hn
  have f2 := v_steps_above h hx s
  obtain ⟨t, ht⟩ := (rp_natT (k := 59) (L := cov n le x) (fun a ha => by have := (mem_cov.mp ha).1.1; omega) (by have := cov_len (n := n) (le := le) x; omega)).repr (by decide)
  have n1 := ne_str' t
  have a1 : setF false 5 (callF g__law_above (consL (varF 0) (consL (varF 4) nilL))) (EK n le K (.val (.int (x : Int))) x5 x6) s = some (.nx, EK n le K (.val (.int (x : Int))) (.val (natT (cov n le x))) x6, s) := by
    simp [EK, f1, thaw_any p5, thaw_any p6, freeze_any p6, freeze_any p5]
  have t1 : ∃ b, orB (truF (binF ltD (varF 2) (cstF (.int 7)))) (truF (binF eqD (binF modD (mapF int1D (consL (varF 4) nilL)) (cstF (.int 5))) (cstF (.int 1)))) (EK n le K (.val (.int (x : Int))) (.val (natT (cov n le x))) x6) s = some (b, EK n le K (.val (.int (x : Int))) (.val (natT (cov n le x))) x6, s) := by
    by_cases c : (n : Int) < 7
    · exact ⟨true, by simp [EK, c, thaw_any p6]⟩
    · exact ⟨decide ((x : Int) % 5 = 1), by simp [EK, c, thaw_any p6]⟩
  obtain ⟨b, t1⟩ := t1
  have tst : andB (orB (truF (binF ltD (varF 2) (cstF (.int 7)))) (truF (binF eqD (binF modD (mapF int1D (consL (varF 4) nilL)) (cstF (.int 5))) (cstF (.int 1))))) (truF (binF neD (mapF reprD (consL (callF g_steps_above (consL (varF 0) (consL (varF 4) nilL))) nilL)) (mapF reprD (consL (varF 5) nilL)))) (EK n le K (.val (.int (x : Int))) (.val (natT (cov n le x))) x6) s = some (false, EK n le K (.val (.int (x : Int))) (.val (natT (cov n le x))) x6, s) := by
    rw [d_andB, t1]
    cases b with
    | false => rfl
    | true =>
      simp only
      rw [d_truF]
      simp only [d_binF, d_mapF, d_callF, d_consL, d_varF, d_nilL, EK, List.getElem?_cons_succ, List.getElem?_cons_zero, f2, ht, n1, o_truB]
      simp [thaw_any p6]
  unfold bd2__law_are_steps
  rw [d_seqF, a1]
  simp only
  rw [d_seqF, d_ifF, tst]
  simp only [d_skipF]
  exact e
theorem v_are_steps (h : House n le mt jn) (s : Dk) : g__law_are_steps [tabD n le, depD n le] s = some (.bl true, s) := by
  have hn := h.few
  have hr := range_nat n (by omega)
  have a1 : parF [2, 3] (consI false (mapF lenD (consL (varF 0) nilL)) (consI true dnewF nilI)) [.val (tabD n le), .val (depD n le), .non, .non, .non, .non, .non] s = some (.nx, EK n le [] .non .non .non, s) := by
    rw [d_parF, d_consIf, d_mapF, d_consL]
    simp only [d_varF, d_nilL, List.getElem?_cons_zero, len_tab]
    rw [d_consIt, d_dnewF]
    simp [EK, dkv]
  obtain ⟨ρ', s', q1, rfl, K', x4, x5, x6, rfl, p4, p5, p6, k1, k3⟩ := loop_ix (S := Dk) (tg := putV 4) (b := bd2__law_are_steps) (fun i : Nat => .int (0 + (i : Nat))) (fun i ρ s' => s' = s ∧ ∃ (K' : List Nat) (x4 x5 x6 : Sl), ρ = EK n le K' x4 x5 x6 ∧ Pl x4 ∧ Pl x5 ∧ Pl x6 ∧ Kok n le K' ∧ ∀ x, x < i → ∀ y ∈ cov n le x, dep n le y = dep n le x + 1 → y ∈ K') (List.range n) (EK n le [] .non .non .non) s ⟨rfl, [], .non, .non, .non, rfl, nn, nn, nn, ⟨List.nodup_nil, fun y hy => by cases hy⟩, fun x hx => by omega⟩ (fun i hi ρ s' z => by
    obtain ⟨rfl, K1, x4, x5, x6, rfl, p4, p5, p6, k1, k3⟩ := z
    have hi' : i < n := by simpa using hi
    obtain ⟨K2, y6, e, q6, m1, m2, m3⟩ := bd2_as h k1 x5 x6 hi' s' p5 p6
    refine ⟨EK n le K1 (.val (.int (i : Int))) x5 x6, _, s', by simp [EK, thaw_any p4, thaw_any p5, thaw_any p6, freeze_any p4, freeze_any p5, freeze_any p6], e, rfl, K2, _, _, _, rfl, nv _, nv _, q6, m1, fun x hx y hy e2 => ?_⟩
    by_cases ex : x = i
    · subst ex
      exact m3 y hy e2
    · exact m2 y (k3 x (by omega) y hy e2))
  rw [List.length_range] at k3
  have a2 : lp2__law_are_steps (EK n le [] .non .non .non) s' = some (.nx, EK n le K' x4 x5 x6, s') := by
    unfold lp2__law_are_steps
    have hi : rangeL (consL (varF 2) nilL) (EK n le [] .non .non .non) s' = some ((List.range n).map fun i : Nat => .int (0 + (i : Nat)), EK n le [] .non .non .non, s') := by simp [EK, hr]
    rw [d_forF, hi]
    have : L3.freeze (EK n le [] .non .non .non) = EK n le [] .non .non .non := by simp [EK]
    simp only [this]
    exact q1
  have hq : q1__law_are_steps [.val (tabD n le), .val (depD n le), .val (.int n), .ownD true (.dic (dkv K')), x4, x5, x6] s' = some (natL ((List.range n).filter fun x => decide (0 < dep n le x)), [.val (tabD n le), .val (depD n le), .val (.int n), .ownD true (.dic (dkv K')), x4, x5, x6], s') := by
    unfold q1__law_are_steps
    refine (comp_map (List.range n) (fun i : Nat => .int (0 + (i : Nat))) (fun x => decide (0 < dep n le x)) (fun y : Nat => .int (y : Int)) (ρ1 := [.val (tabD n le), .val (depD n le), .val (.int n), .ownD true (.dic (dkv K')), x4, x5, x6]) (s1 := s') (by simp [hr]) (by cases x4 with
      | ownD t d => exact absurd rfl (p4 t d)
      | val d => simp
      | non => simp) (by rw [sizeL, List.length_range]; omega) (fun x hx => ?_)).trans rfl
    have hx := List.mem_range.mp hx
    have e1 := ix_dep (le := le) hx
    have : decide ((0 : Int) < (dep n le x : Int)) = decide (0 < dep n le x) := by
      rw [Bool.eq_iff_iff, decide_eq_true_eq, decide_eq_true_eq]
      omega
    refine ⟨[.val (tabD n le), .val (depD n le), .val (.int n), .ownD true (.dic (dkv K')), .val (.int (x : Int)), x5, x6], [.val (tabD n le), .val (depD n le), .val (.int n), .ownD true (.dic (dkv K')), .val (.int (x : Int)), x5, x6], by simp, ?_, fun _ => by simp, fun _ => ⟨[.val (tabD n le), .val (depD n le), .val (.int n), .ownD true (.dic (dkv K')), .val (.int (x : Int)), x5, x6], by simp, by simp⟩⟩
    simp only [d_truF, d_binF, d_varF, d_cstF, List.getElem?_cons_succ, List.getElem?_cons_zero, e1, o_gt, this, o_truB, thaw_val, thaw_non, thaw_nil, thaw_tt, thaw_any p5, thaw_any p6]
  have hs : sortI (K'.map fun y : Nat => (y : Int)) = toI ((List.range n).filter fun x => decide (0 < dep n le x)) := by
    refine (sortI_eq ?_ ?_).symm
    · unfold toI
      refine List.Perm.map _ ((List.perm_ext_iff_of_nodup (List.nodup_range.sublist List.filter_sublist) k1.nd).mpr fun y => ?_)
      rw [List.mem_filter, List.mem_range, decide_eq_true_eq]
      constructor
      · rintro ⟨a, b⟩
        obtain ⟨x, hx, hc, e⟩ := dep_step h a b
        exact k3 x hx y hc e
      · intro hy
        exact k1.lt y hy
    · unfold toI
      rw [List.pairwise_map]
      exact (List.pairwise_lt_range.sublist List.filter_sublist).imp fun z => by omega
  have h64 : (K'.map fun y : Nat => (y : Int)).length < 64 := by
    rw [List.length_map]
    have := k1.len
    omega
  have sd : sdictD [.dic (dkv K')] = some (.lst ((sortI (K'.map fun y : Nat => (y : Int))).map .int)) := by
    unfold sdictD
    simp only [dkv_keys, h64, if_true]
  have ee : eqD (.lst ((toI ((List.range n).filter fun x => decide (0 < dep n le x))).map .int)) (natL ((List.range n).filter fun x => decide (0 < dep n le x))) = some (.bl true) := by
    rw [natL_ints, o_eq, okD_L, eqB_L]
    simp
  have key : b__law_are_steps [.val (tabD n le), .val (depD n le), .non, .non, .non, .non, .non] s' = some (.rt (.bl true), EK n le K' x4 x5 x6, s') := by
    unfold b__law_are_steps
    rw [d_seqF, a1]; simp only
    rw [d_seqF, a2]; simp only
    have v3 : thawF (mapF sdictD (consL (varF 3) nilL)) (EK n le K' x4 x5 x6) s' = some (.lst ((toI ((List.range n).filter fun x => decide (0 < dep n le x))).map .int), [.val (tabD n le), .val (depD n le), .val (.int n), .ownD true (.dic (dkv K')), x4, x5, x6], s') := by
      rw [d_thawF, d_mapF, d_consL]
      simp only [d_varF, d_nilL, EK, List.getElem?_cons_succ, List.getElem?_cons_zero, sd, hs]
      rfl
    rw [d_retF, d_thawF, d_binF, v3]
    simp only
    rw [hq]
    simp only [ee, Option.map_some, noL_bl, if_true]
    simp [EK, thaw_any p4, thaw_any p5, thaw_any p6]
  exact defN_rt rfl rfl key
end
end Q
end
section
set_option Elab.async false
set_option linter.all false
set_option maxRecDepth 100000
set_option autoImplicit false
set_option maxHeartbeats 2000000
namespace Q
open PySem PySem.Spec PyProof.Rows L2 L3
section
variable {n : Nat} {le : Nat → Nat → Bool} {mt jn : Nat → Nat → Nat}
def EW (n : Nat) (le : Nat → Nat → Bool) (jn : Nat → Nat → Nat) (b t : Nat) (x8 x9 x10 x11 x12 x13 : Sl) : En := [.non, .val .deck, .val (tabD n le), .val (matD n jn), .val (.int n), .val (depD n le), .val (.int (b : Int)), .val (.int (t : Int)), x8, x9, x10, x11, x12, x13, .non]
@[simp] theorem noL_mat (n : Nat) (f : Nat → Nat → Nat) : noL (matD n f) = false := rfl
theorem pin_len (x : Nat) : (pin n le jn x).length ≤ n := by
  have h1 := List.length_filter_le (fun p => le p x) (pcs n le jn)
  have h2 := pcs_len (n := n) (le := le) (jn := jn)
  unfold pin
  omega
theorem q1_lw (b t : Nat) {x : Nat} (x10 x11 x12 : Sl) (hx : x < n) (s : Dk) (hn : n ≤ 24) (p10 : Pl x10) (p11 : Pl x11) (p12 : Pl x12) : q1_law (EW n le jn b t (.val (natT (pcs n le jn))) (.val (.int (x : Int))) x10 x11 x12 .non) s = some (natL (pin n le jn x), EW n le jn b t (.val (natT (pcs n le jn))) (.val (.int (x : Int))) x10 x11 x12 .non, s) := by
  have hl := pcs_len (n := n) (le := le) (jn := jn)
  unfold q1_law
  refine (comp_map (pcs n le jn) (fun z : Nat => .int (z : Int)) (fun p => le p x) (fun z : Nat => .int (z : Int)) (ρ1 := EW n le jn b t (.val (natT (pcs n le jn))) (.val (.int (x : Int))) x10 x11 x12 .non) (s1 := s) (by simp [EW, natT]) (by cases x10 with
    | ownD t d => exact absurd rfl (p10 t d)
    | val d => simp [EW]
    | non => simp [EW]) (by rw [sizeL]; omega) (fun y hy => ?_)).trans rfl
  have hy : y < n := List.mem_range.mp (List.mem_filter.mp hy).1
  have f0 := ix_tab le hy
  have f1 := ix_row (le y) hx
  have f2 := b1_one (le y x)
  refine ⟨EW n le jn b t (.val (natT (pcs n le jn))) (.val (.int (x : Int))) (.val (.int (y : Int))) x11 x12 .non, EW n le jn b t (.val (natT (pcs n le jn))) (.val (.int (x : Int))) (.val (.int (y : Int))) x11 x12 .non, by simp [EW], ?_, fun _ => by simp [EW], fun _ => ⟨EW n le jn b t (.val (natT (pcs n le jn))) (.val (.int (x : Int))) (.val (.int (y : Int))) x11 x12 .non, by simp [EW], by simp [EW]⟩⟩
  simp only [d_truF, d_binF, d_varF, d_cstF, EW, List.getElem?_cons_succ, List.getElem?_cons_zero, f0, f1, f2, o_truB, thaw_val, thaw_non, thaw_nil, thaw_any p11, thaw_any p12]
theorem lp1_lw (h : House n le mt jn) {b t x : Nat} (hb : Bot n le b) (x10 : Sl) (hx : x < n) (s : Dk) (p10 : Pl x10) : ∃ y10, lp1_law (EW n le jn b t (.val (natT (pcs n le jn))) (.val (.int (x : Int))) x10 (.val (natT (pin n le jn x))) (.val (.int (b : Int))) .non) s = some (.nx, EW n le jn b t (.val (natT (pcs n le jn))) (.val (.int (x : Int))) y10 (.val (natT (pin n le jn x))) (.val (.int (x : Int))) .non, s) ∧ Pl y10 := by
  have hL : ∀ y ∈ pin n le jn x, y < n := fun y hy => (mem_pin.mp hy).1.1
  obtain ⟨ρ', s', q1, rfl, y10, rfl, q10⟩ := loop_ix (S := Dk) (tg := putV 10) (b := bd1_law) (fun i : Nat => .int (i : Int)) (fun i ρ s' => s' = s ∧ ∃ y10 : Sl, ρ = EW n le jn b t (.val (natT (pcs n le jn))) (.val (.int (x : Int))) y10 (.val (natT (pin n le jn x))) (.val (.int (((pin n le jn x).take i).foldl jn b : Nat))) .non ∧ Pl y10) (pin n le jn x) (EW n le jn b t (.val (natT (pcs n le jn))) (.val (.int (x : Int))) x10 (.val (natT (pin n le jn x))) (.val (.int (b : Int))) .non) s ⟨rfl, x10, rfl, p10⟩ (fun i hi ρ s' z => by
    obtain ⟨rfl, y10, rfl, q10⟩ := z
    have hz : ((pin n le jn x).take i).foldl jn b < n := fold_lt h _ b hb.lt fun y hy => hL y (List.mem_of_mem_take hy)
    have hy := hL (pin n le jn x)[i] (List.getElem_mem hi)
    have i1 := ix_mat jn hz
    have i2 := ix_line (jn (((pin n le jn x).take i).foldl jn b)) hy
    have e3 : ((pin n le jn x).take (i + 1)).foldl jn b = jn (((pin n le jn x).take i).foldl jn b) (pin n le jn x)[i] := by rw [List.take_succ_eq_append_getElem hi, List.foldl_append]; rfl
    refine ⟨EW n le jn b t (.val (natT (pcs n le jn))) (.val (.int (x : Int))) (.val (.int ((pin n le jn x)[i] : Int))) (.val (natT (pin n le jn x))) (.val (.int (((pin n le jn x).take i).foldl jn b : Nat))) .non, EW n le jn b t (.val (natT (pcs n le jn))) (.val (.int (x : Int))) (.val (.int ((pin n le jn x)[i] : Int))) (.val (natT (pin n le jn x))) (.val (.int (((pin n le jn x).take (i + 1)).foldl jn b : Nat))) .non, s', by simp [EW], ?_, rfl, _, rfl, nv _⟩
    rw [e3]
    unfold bd1_law EW
    simp [i1, -o_ixL, i2])
  rw [List.take_length, pin_fold h hb hx] at q1
  refine ⟨y10, ?_, q10⟩
  unfold lp1_law
  have hit : itemsF (varF 11) (EW n le jn b t (.val (natT (pcs n le jn))) (.val (.int (x : Int))) x10 (.val (natT (pin n le jn x))) (.val (.int (b : Int))) .non) s' = some ((pin n le jn x).map fun i : Nat => .int (i : Int), EW n le jn b t (.val (natT (pcs n le jn))) (.val (.int (x : Int))) x10 (.val (natT (pin n le jn x))) (.val (.int (b : Int))) .non, s') := by simp [EW, natT]
  rw [d_forF, hit]
  have : L3.freeze (EW n le jn b t (.val (natT (pcs n le jn))) (.val (.int (x : Int))) x10 (.val (natT (pin n le jn x))) (.val (.int (b : Int))) .non) = EW n le jn b t (.val (natT (pcs n le jn))) (.val (.int (x : Int))) x10 (.val (natT (pin n le jn x))) (.val (.int (b : Int))) .non := by simp [EW, freeze_any p10]
  simp only [this]
  exact q1
theorem bot_jn (h : House n le mt jn) {b x : Nat} (hb : Bot n le b) (hx : x < n) : jn b x = x := (h.le_jn hb.lt hx).mp (hb.le x hx)
theorem bd2_lw (h : House n le mt jn) {b t x : Nat} (hb : Bot n le b) (x10 x11 x12 : Sl) (hx : x < n) (s : Dk) (p10 : Pl x10) (p11 : Pl x11) (p12 : Pl x12) : ∃ y10 y11 y12, bd2_law (EW n le jn b t (.val (natT (pcs n le jn))) (.val (.int (x : Int))) x10 x11 x12 .non) s = some (.nx, EW n le jn b t (.val (natT (pcs n le jn))) (.val (.int (x : Int))) y10 y11 y12 .non, s) ∧ Pl y10 ∧ Pl y11 ∧ Pl y12 := by
  have hn := h.few
  have e1 := q1_lw (le := le) (jn := jn) b t x10 x11 x12 hx s hn p10 p11 p12
  obtain ⟨y10, e2, q10⟩ := lp1_lw h (t := t) hb x10 hx s p10
  refine ⟨y10, .val (natT (pin n le jn x)), .val (.int (x : Int)), ?_, q10, nv _, nv _⟩
  have a1 : parF [11, 12] (consI false (mapF tupleD (consL q1_law nilL)) (consI false (varF 6) nilI)) (EW n le jn b t (.val (natT (pcs n le jn))) (.val (.int (x : Int))) x10 x11 x12 .non) s = some (.nx, EW n le jn b t (.val (natT (pcs n le jn))) (.val (.int (x : Int))) x10 (.val (natT (pin n le jn x))) (.val (.int (b : Int))) .non, s) := by
    have e3 : tupleD [natL (pin n le jn x)] = some (natT (pin n le jn x)) := rfl
    rw [d_parF, d_consIf, d_mapF, d_consL, e1]
    simp only [d_nilL, e3, noL_natT, if_true]
    simp [EW, thaw_any p10, thaw_any p11, thaw_any p12]
  have f1 := v_all_of h hb.lt hx s
  rw [bot_jn h hb hx] at f1
  have f2 := v_pieces_within h hb hx s
  have f3 := v_lot_with h hb (pin n le jn x) (fun y hy => (mem_pin.mp hy).1.1) (by have := pin_len (n := n) (le := le) (jn := jn) x; omega) s
  rw [pin_fold h hb hx] at f3
  have f4 := ne_int (x : Int) x
  rw [decide_eq_true rfl] at f4
  have rp : Rp 60 ((99 + 2) * 2 + 3) (.tup [natT (pin n le jn x), .int (x : Int)]) := by
    refine rp_tup (k := 59) (fun d hd => ?_) (by simp)
    simp at hd
    rcases hd with rfl | rfl
    · exact rp_natT (k := 58) (fun a ha => by have := (mem_pin.mp ha).1.1; omega) (by have := pin_len (n := n) (le := le) (jn := jn) x; omega)
    · exact (rp_nat (by omega)).mono (by decide)
  obtain ⟨tt, ht⟩ := rp.repr (by decide)
  have n1 := ne_str' tt
  have z2 := tup2 .non
  unfold bd2_law
  rw [d_seqF, a1]
  simp only
  rw [d_seqF, e2]
  simp only
  rw [d_ifF, d_orB]
  have t1 : truF (binF neD (varF 12) (varF 9)) (EW n le jn b t (.val (natT (pcs n le jn))) (.val (.int (x : Int))) y10 (.val (natT (pin n le jn x))) (.val (.int (x : Int))) .non) s = some (false, EW n le jn b t (.val (natT (pcs n le jn))) (.val (.int (x : Int))) y10 (.val (natT (pin n le jn x))) (.val (.int (x : Int))) .non, s) := by
    simp only [d_truF, d_binF, d_varF, EW, List.getElem?_cons_succ, List.getElem?_cons_zero, f4, Bool.not_true, o_truB, thaw_val, thaw_non, thaw_nil, thaw_any q10]
  have t2 : truF (binF neD (callF g_all_of (consL (varF 2) (consL (varF 6) (consL (varF 9) nilL)))) (varF 9)) (EW n le jn b t (.val (natT (pcs n le jn))) (.val (.int (x : Int))) y10 (.val (natT (pin n le jn x))) (.val (.int (x : Int))) .non) s = some (false, EW n le jn b t (.val (natT (pcs n le jn))) (.val (.int (x : Int))) y10 (.val (natT (pin n le jn x))) (.val (.int (x : Int))) .non, s) := by
    simp only [d_truF, d_binF, d_callF, d_consL, d_nilL, d_varF, EW, List.getElem?_cons_succ, List.getElem?_cons_zero, f1, f4, Bool.not_true, o_truB, thaw_val, thaw_non, thaw_nil, thaw_any q10]
  have t3 : truF (binF neD (mapF reprD (consL (mapF dispT (consL (callF g_pieces_within (consL (varF 2) (consL (varF 9) nilL))) (consL (callF g_lot_with (consL (varF 2) (consL (varF 11) nilL))) nilL))) nilL)) (mapF reprD (consL (mapF dispT (consL (varF 11) (consL (varF 9) nilL))) nilL))) (EW n le jn b t (.val (natT (pcs n le jn))) (.val (.int (x : Int))) y10 (.val (natT (pin n le jn x))) (.val (.int (x : Int))) .non) s = some (false, EW n le jn b t (.val (natT (pcs n le jn))) (.val (.int (x : Int))) y10 (.val (natT (pin n le jn x))) (.val (.int (x : Int))) .non, s) := by
    simp only [d_truF, d_binF, d_mapF, d_callF, d_consL, d_nilL, d_varF, EW, List.getElem?_cons_succ, List.getElem?_cons_zero, f2, f3, c_dispT, List.length_cons, List.length_nil, Nat.zero_add, Nat.reduceAdd, z2, if_true, ht, n1, o_truB, thaw_val, thaw_non, thaw_nil, thaw_any q10]
  rw [t1]
  simp only
  rw [d_orB, t2]
  simp only
  rw [t3]
  rfl
theorem lp2_lw (h : House n le mt jn) {b t : Nat} (hb : Bot n le b) (ht : t < n) (s : Dk) (hI : SI s) : ∃ (y9 y10 y11 y12 : Sl) (s' : Dk), lp2_law (EW n le jn b t (.val (natT (pcs n le jn))) .non .non .non .non .non) s = some (.nx, EW n le jn b t (.val (natT (pcs n le jn))) y9 y10 y11 y12 .non, s') ∧ Pl y9 ∧ Pl y10 ∧ Pl y11 ∧ Pl y12 ∧ SI s' := by
  have hn := h.few
  have hpos := h.pos
  have z3 : 3 ≤ sizeLine := by rw [sizeL]; omega
  obtain ⟨r1, s1, d1, l1, u1, i1⟩ := v_draw n s hI (by omega)
  obtain ⟨r2, s2, d2, l2, u2, i2⟩ := v_draw n s1 i1 (by omega)
  obtain ⟨r1, rfl⟩ : ∃ k : Nat, r1 = k := ⟨r1.toNat, by omega⟩
  obtain ⟨r2, rfl⟩ : ∃ k : Nat, r2 = k := ⟨r2.toNat, by omega⟩
  have hall : ∀ x ∈ [t, r1, r2], x < n := fun x hx => by
    simp at hx
    rcases hx with rfl | rfl | rfl <;> omega
  obtain ⟨ρ', s', q1, rfl, y9, y10, y11, y12, rfl, q9, q10, q11, q12⟩ := loop_ix (S := Dk) (tg := putV 9) (b := bd2_law) (fun i : Nat => .int (i : Int)) (fun i ρ s' => s' = s2 ∧ ∃ y9 y10 y11 y12 : Sl, ρ = EW n le jn b t (.val (natT (pcs n le jn))) y9 y10 y11 y12 .non ∧ Pl y9 ∧ Pl y10 ∧ Pl y11 ∧ Pl y12) [t, r1, r2] (EW n le jn b t (.val (natT (pcs n le jn))) .non .non .non .non .non) s2 ⟨rfl, .non, .non, .non, .non, rfl, nn, nn, nn, nn⟩ (fun i hi ρ s' z => by
    obtain ⟨rfl, y9, y10, y11, y12, rfl, q9, q10, q11, q12⟩ := z
    have hx := hall _ (List.getElem_mem hi)
    obtain ⟨z10, z11, z12, e, w10, w11, w12⟩ := bd2_lw h (t := t) hb y10 y11 y12 hx s' q10 q11 q12
    exact ⟨EW n le jn b t (.val (natT (pcs n le jn))) (.val (.int (([t, r1, r2] : List Nat)[i] : Int))) y10 y11 y12 .non, _, s', by simp [EW], e, rfl, _, _, _, _, rfl, nv _, w10, w11, w12⟩)
  refine ⟨y9, y10, y11, y12, s', ?_, q9, q10, q11, q12, i2⟩
  unfold lp2_law
  have hit : itemsF (mapF dispT (consL (varF 7) (consL (callF g__law_draw (consL (varF 1) (consL (varF 4) nilL))) (consL (callF g__law_draw (consL (varF 1) (consL (varF 4) nilL))) nilL)))) (EW n le jn b t (.val (natT (pcs n le jn))) .non .non .non .non .non) s = some (([t, r1, r2] : List Nat).map fun i : Nat => .int (i : Int), EW n le jn b t (.val (natT (pcs n le jn))) .non .non .non .non .non, s') := by
    simp [EW, d1, d2, z3]
  rw [d_forF, hit]
  have : L3.freeze (EW n le jn b t (.val (natT (pcs n le jn))) .non .non .non .non .non) = EW n le jn b t (.val (natT (pcs n le jn))) .non .non .non .non .non := by simp [EW]
  simp only [this]
  exact q1
theorem q2_lw (h : House n le mt jn) (b t : Nat) {x : Nat} (x8 x10 x11 x12 x13 : Sl) (hx : x < n) (s : Dk) (p8 : Pl x8) (p10 : Pl x10) (p11 : Pl x11) (p12 : Pl x12) (p13 : Pl x13) : q2_law (EW n le jn b t x8 (.val (.int (x : Int))) x10 x11 x12 x13) s = some (natL (cov n (over le) x), EW n le jn b t x8 (.val (.int (x : Int))) x10 x11 x12 x13, s) := by
  have hn := h.few
  have hr := range_nat n (by omega)
  rw [cov_over h hx]
  unfold q2_law
  refine (comp_map (List.range n) (fun i : Nat => .int (0 + (i : Nat))) (fun y => decide (x ∈ cov n le y)) (fun y : Nat => .int (y : Int)) (ρ1 := EW n le jn b t x8 (.val (.int (x : Int))) x10 x11 x12 x13) (s1 := s) (by simp [EW, hr]) (by simp [EW]) (by rw [sizeL, List.length_range]; omega) (fun y hy => ?_)).trans rfl
  have hy := List.mem_range.mp hy
  have f1 := v__law_above (le := le) hy s hn
  have f2 : inD (.int (x : Int)) (natT (cov n le y)) = some (.bl (decide (x ∈ cov n le y))) := by
    rw [natT_tup, in_tupI]
    have : decide ((x : Int) ∈ (cov n le y).map fun x : Nat => (x : Int)) = decide (x ∈ cov n le y) := by
      rw [Bool.eq_iff_iff, decide_eq_true_eq, decide_eq_true_eq, List.mem_map]
      constructor
      · rintro ⟨z, hz, e⟩
        have : z = x := by omega
        rwa [this] at hz
      · intro hz
        exact ⟨x, hz, rfl⟩
    rw [this]
  refine ⟨(EW n le jn b t x8 (.val (.int (x : Int))) x10 x11 x12 x13).set 14 (.val (.int (y : Int))), (EW n le jn b t x8 (.val (.int (x : Int))) x10 x11 x12 x13).set 14 (.val (.int (y : Int))), by simp [EW], ?_, fun _ => by simp [EW], fun _ => ⟨(EW n le jn b t x8 (.val (.int (x : Int))) x10 x11 x12 x13).set 14 (.val (.int (y : Int))), by simp [EW], by simp [EW]⟩⟩
  simp only [d_truF, d_binF, d_callF, d_consL, d_nilL, d_varF, EW, List.set_cons_succ, List.set_cons_zero, List.getElem?_cons_succ, List.getElem?_cons_zero, f1, f2, o_truB, thaw_val, thaw_non, thaw_nil, thaw_any p8, thaw_any p10, thaw_any p11, thaw_any p12, thaw_any p13]
end
end Q
end
section
set_option Elab.async false
set_option linter.all false
set_option maxRecDepth 100000
set_option autoImplicit false
set_option maxHeartbeats 2000000
namespace Q
open PySem PySem.Spec PyProof.Rows L2 L3
theorem eq_str' (a : Str) : eqD (.str a) (.str a) = some (.bl true) := by
  rw [o_eq, strs2_s, eqB_str]
  simp
theorem law_true (s : Dk) (hI : s.cells.length ≤ 64) : ∃ ρ' s', b_law (startL 15) s = some (.rt (.bl true), ρ', s') := by
  obtain ⟨mi, s1, e1, hmi, i1⟩ := v_pick [8, 5, 9, 6, 24, 7, 5, 8, 12, 6] s hI (by decide)
  have e1 : g__law_pick [.deck, .lst [.int 8, .int 5, .int 9, .int 6, .int 24, .int 7, .int 5, .int 8, .int 12, .int 6]] s = some (.int mi, s1) := e1
  obtain ⟨most, rfl, hm⟩ : ∃ m : Nat, mi = m ∧ 5 ≤ m ∧ m ≤ 24 := by
    simp at hmi
    exact ⟨mi.toNat, by omega, by omega, by omega⟩
  obtain ⟨n, le, mt, jn, s2, e2, h, i2⟩ := v__law_house (most := most) s1 i1 hm
  have hn := h.few
  have hpos := h.pos
  obtain ⟨b, hb⟩ := h.bot
  obtain ⟨t, ht⟩ := h.over.bot
  have hb' : Bot n (over (over le)) b := hb
  have z10 : 10 ≤ sizeLine := by rw [sizeL]; omega
  have z2 : 2 ≤ sizeLine := by rw [sizeL]; omega
  have z3 : 3 ≤ sizeLine := by rw [sizeL]; omega
  have z4 : 4 ≤ sizeLine := by rw [sizeL]; omega
  have a1 : setF false 2 (callF g__law_house (consL (varF 1) (consL (callF g__law_pick (consL (varF 1) (consL (mapF dispL (consL (cstF (.int 8)) (consL (cstF (.int 5)) (consL (cstF (.int 9)) (consL (cstF (.int 6)) (consL (cstF (.int 24)) (consL (cstF (.int 7)) (consL (cstF (.int 5)) (consL (cstF (.int 8)) (consL (cstF (.int 12)) (consL (cstF (.int 6)) nilL))))))))))) nilL))) nilL))) (startL 15) s = some (.nx, [.non, .val .deck, .val (tabD n le), .non, .non, .non, .non, .non, .non, .non, .non, .non, .non, .non, .non], s2) := by
    have st : startL 15 = [.non, .val .deck, .non, .non, .non, .non, .non, .non, .non, .non, .non, .non, .non, .non, .non] := rfl
    rw [st]
    simp [z10, e1, e2]
  have e3 := v__law_all h s2
  have e4 : g__law_depths [tabD n le] s2 = some (depD n le, s2) := v__law_depths h s2
  have a2 : parF [3, 4, 5] (consI false (callF g__law_all (consL (varF 2) nilL)) (consI false (mapF lenD (consL (varF 2) nilL)) (consI false (callF g__law_depths (consL (varF 2) nilL)) nilI))) [.non, .val .deck, .val (tabD n le), .non, .non, .non, .non, .non, .non, .non, .non, .non, .non, .non, .non] s2 = some (.nx, [.non, .val .deck, .val (tabD n le), .val (matD n jn), .val (.int n), .val (depD n le), .non, .non, .non, .non, .non, .non, .non, .non, .non], s2) := by
    simp [e3, e4, len_tab]
  have e5 := v__law_least h hb s2
  have e6 := v__law_over n le s2 hn
  have e7 := v__law_least h.over ht s2
  have a3 : parF [6, 7] (consI false (callF g__law_least (consL (varF 2) nilL)) (consI false (callF g__law_least (consL (callF g__law_over (consL (varF 2) nilL)) nilL)) nilI)) [.non, .val .deck, .val (tabD n le), .val (matD n jn), .val (.int n), .val (depD n le), .non, .non, .non, .non, .non, .non, .non, .non, .non] s2 = some (.nx, EW n le jn b t .non .non .non .non .non .non, s2) := by
    simp [e5, e6, e7, EW]
  have hbn := hb.lt
  have htn := ht.lt
  obtain ⟨t4, r4⟩ := (rp_tup (k := 59) (B := 2) (m := 4) (ds := [.int (b : Int), .int (t : Int), .int (b : Int), .int (t : Int)]) (fun d hd => by
    simp at hd
    rcases hd with rfl | rfl | rfl | rfl
    · exact rp_nat (by omega)
    · exact rp_nat (by omega)
    · exact rp_nat (by omega)
    · exact rp_nat (by omega)) (by simp)).repr (by decide)
  have n4 := ne_str' t4
  have f1 := v_least h hb s2
  have f2 := v_greatest' h ht s2
  have a4 : ifF (truF (binF neD (mapF reprD (consL (mapF dispT (consL (callF g_least (consL (varF 2) nilL)) (consL (callF g_greatest (consL (varF 2) nilL)) (consL (callF g_least (catS 0 1 [0] nilL (consL (varF 2) nilL))) (consL (callF g_greatest (catS 0 1 [0] nilL (consL (varF 2) nilL))) nilL))))) nilL)) (mapF reprD (consL (mapF dispT (consL (varF 6) (consL (varF 7) (consL (varF 6) (consL (varF 7) nilL))))) nilL)))) (retF (cstF (.bl false))) skipF (EW n le jn b t .non .non .non .non .non .non) s2 = some (.nx, EW n le jn b t .non .non .non .non .non .non, s2) := by
    rw [d_ifF, d_truF]
    simp only [d_binF, d_mapF, d_callF, d_catS, d_consL, d_varF, d_nilL, EW, List.getElem?_cons_succ, List.getElem?_cons_zero, List.length_cons, List.length_nil, Nat.zero_add, Nat.reduceAdd, and_self, if_true, List.cons_append, List.nil_append, d_sel_cons, d_sel_nil, f1, f2, c_dispT, z4, r4, n4, o_truB, d_skipF]
    simp
  obtain ⟨t5, r5⟩ := (rp_tup (k := 59) (B := 99) (m := 2) (ds := [depD n le, depD n le]) (fun d hd => by
    simp at hd
    subst hd
    exact rp_dep (k := 58) h) (by simp)).repr (by decide)
  have n5 := ne_str' t5
  have f3 : g_depths [tabD n le] s2 = some (depD n le, s2) := v_depths h s2
  have f4 := v_are_steps h s2
  have a5 : ifF (orB (truF (binF neD (mapF reprD (consL (mapF dispT (consL (callF g_depths (consL (varF 2) nilL)) (consL (callF g_depths (catS 0 1 [0] nilL (consL (varF 2) nilL))) nilL))) nilL)) (mapF reprD (consL (mapF dispT (consL (varF 5) (consL (varF 5) nilL))) nilL)))) (notB (truF (callF g__law_are_steps (consL (varF 2) (consL (varF 5) nilL)))))) (retF (cstF (.bl false))) skipF (EW n le jn b t .non .non .non .non .non .non) s2 = some (.nx, EW n le jn b t .non .non .non .non .non .non, s2) := by
    rw [d_ifF, d_orB, d_truF]
    simp only [d_binF, d_mapF, d_callF, d_catS, d_consL, d_varF, d_nilL, EW, List.getElem?_cons_succ, List.getElem?_cons_zero, List.length_cons, List.length_nil, Nat.zero_add, Nat.reduceAdd, and_self, if_true, List.cons_append, List.nil_append, d_sel_cons, d_sel_nil, f3, c_dispT, z2, r5, n5, o_truB, thaw_val, thaw_non, thaw_nil]
    simp [f4]
  have f5 := v__law_pieces h s2
  have a6 : setF false 8 (callF g__law_pieces (consL (varF 2) (consL (varF 3) nilL))) (EW n le jn b t .non .non .non .non .non .non) s2 = some (.nx, EW n le jn b t (.val (natT (pcs n le jn))) .non .non .non .non .non, s2) := by
    simp [EW, f5]
  obtain ⟨t6, r6⟩ := (rp_tup (k := 59) (B := 99) (m := 2) (ds := [natT (pcs n le jn), natT (pcs n le jn)]) (fun d hd => by
    simp at hd
    subst hd
    exact rp_natT (k := 58) (fun a ha => by have := List.mem_range.mp (List.mem_filter.mp ha).1; omega) (by have := pcs_len (n := n) (le := le) (jn := jn); omega)) (by simp)).repr (by decide)
  have n6 := ne_str' t6
  have f6 := v_pieces h hb s2
  have a7 : ifF (truF (binF neD (mapF reprD (consL (mapF dispT (consL (callF g_pieces (consL (varF 2) nilL)) (consL (callF g_pieces (catS 0 1 [0] nilL (consL (varF 2) nilL))) nilL))) nilL)) (mapF reprD (consL (mapF dispT (consL (varF 8) (consL (varF 8) nilL))) nilL)))) (retF (cstF (.bl false))) skipF (EW n le jn b t (.val (natT (pcs n le jn))) .non .non .non .non .non) s2 = some (.nx, EW n le jn b t (.val (natT (pcs n le jn))) .non .non .non .non .non, s2) := by
    rw [d_ifF, d_truF]
    simp only [d_binF, d_mapF, d_callF, d_catS, d_consL, d_varF, d_nilL, EW, List.getElem?_cons_succ, List.getElem?_cons_zero, List.length_cons, List.length_nil, Nat.zero_add, Nat.reduceAdd, and_self, if_true, List.cons_append, List.nil_append, d_sel_cons, d_sel_nil, f6, c_dispT, z2, r6, n6, o_truB, d_skipF]
    simp
  obtain ⟨y9, y10, y11, y12, s3, a8, q9, q10, q11, q12, i3⟩ := lp2_lw h (jn := jn) hb htn s2 i2
  have f7 := v_turned_over h s3
  have a9 : setF false 13 (callF g_turned_over (consL (varF 2) nilL)) (EW n le jn b t (.val (natT (pcs n le jn))) y9 y10 y11 y12 .non) s3 = some (.nx, EW n le jn b t (.val (natT (pcs n le jn))) y9 y10 y11 y12 (.val (tabD n (over le))), s3) := by
    simp [EW, f7, thaw_any q9, thaw_any q10, thaw_any q11, thaw_any q12]
  have g1 := v_least h.over ht s3
  have g2 := v_greatest' h.over hb' s3
  have g3 : g_depths [tabD n (over le)] s3 = some (depD n (over le), s3) := v_depths h.over s3
  have g4 := ix_dep (le := over le) hbn
  have g5 := ix_dep (le := le) htn
  rw [dep_over h hb ht] at g4
  have d24 := dep_24 h htn
  obtain ⟨t7, r7⟩ := (rp_tup (k := 59) (B := 2) (m := 3) (ds := [.int (t : Int), .int (b : Int), .int (dep n le t : Nat)]) (fun d hd => by
    simp at hd
    rcases hd with rfl | rfl | rfl
    · exact rp_nat (by omega)
    · exact rp_nat (by omega)
    · exact rp_nat (by omega)) (by simp)).repr (by decide)
  have n7 := ne_str' t7
  have a10 : ifF (truF (binF neD (mapF reprD (consL (mapF dispT (consL (callF g_least (consL (varF 13) nilL)) (consL (callF g_greatest (consL (varF 13) nilL)) (consL (binF ixD (callF g_depths (consL (varF 13) nilL)) (varF 6)) nilL)))) nilL)) (mapF reprD (consL (mapF dispT (consL (varF 7) (consL (varF 6) (consL (binF ixD (varF 5) (varF 7)) nilL)))) nilL)))) (retF (cstF (.bl false))) skipF (EW n le jn b t (.val (natT (pcs n le jn))) y9 y10 y11 y12 (.val (tabD n (over le)))) s3 = some (.nx, EW n le jn b t (.val (natT (pcs n le jn))) y9 y10 y11 y12 (.val (tabD n (over le))), s3) := by
    rw [d_ifF, d_truF]
    simp only [d_binF, d_mapF, d_callF, d_consL, d_varF, d_nilL, EW, List.getElem?_cons_succ, List.getElem?_cons_zero, List.length_cons, List.length_nil, Nat.zero_add, Nat.reduceAdd, g1, g2, g3, g4, g5, c_dispT, z3, if_true, r7, n7, o_truB, d_skipF]
    simp [thaw_any q9, thaw_any q10, thaw_any q11, thaw_any q12]
  obtain ⟨xi, s4, d1, l1, u1, i4⟩ := v_draw n s3 i3 (by omega)
  obtain ⟨x, rfl⟩ : ∃ k : Nat, xi = k := ⟨xi.toNat, by omega⟩
  have hx : x < n := by omega
  have a11 : setF false 9 (callF g__law_draw (consL (varF 1) (consL (varF 4) nilL))) (EW n le jn b t (.val (natT (pcs n le jn))) y9 y10 y11 y12 (.val (tabD n (over le)))) s3 = some (.nx, EW n le jn b t (.val (natT (pcs n le jn))) (.val (.int (x : Int))) y10 y11 y12 (.val (tabD n (over le))), s4) := by
    simp [EW, d1, thaw_any q9, thaw_any q10, thaw_any q11, thaw_any q12]
  have k1 := v_steps_above h.over hx s4
  have k2 := q2_lw h b t (.val (natT (pcs n le jn))) y10 y11 y12 (.val (tabD n (over le))) hx s4 (nv _) q10 q11 q12 (nv _)
  obtain ⟨t8, r8⟩ := (rp_natT (k := 59) (L := cov n (over le) x) (fun a ha => by have := (mem_cov.mp ha).1.1; omega) (by have := cov_len (n := n) (le := over le) x; omega)).repr (by decide)
  have n8 := eq_str' t8
  have k3 : tupleD [natL (cov n (over le) x)] = some (natT (cov n (over le) x)) := rfl
  have a12 : retF (binF eqD (mapF reprD (consL (callF g_steps_above (catS 0 2 [1, 0] nilL (consL (varF 9) (consL (varF 13) nilL)))) nilL)) (mapF reprD (consL (mapF tupleD (consL q2_law nilL)) nilL))) (EW n le jn b t (.val (natT (pcs n le jn))) (.val (.int (x : Int))) y10 y11 y12 (.val (tabD n (over le)))) s4 = some (.rt (.bl true), EW n le jn b t (.val (natT (pcs n le jn))) (.val (.int (x : Int))) y10 y11 y12 (.val (tabD n (over le))), s4) := by
    have k4 : mapF reprD (consL (callF g_steps_above (catS 0 2 [1, 0] nilL (consL (varF 9) (consL (varF 13) nilL)))) nilL) (EW n le jn b t (.val (natT (pcs n le jn))) (.val (.int (x : Int))) y10 y11 y12 (.val (tabD n (over le)))) s4 = some (.str t8, EW n le jn b t (.val (natT (pcs n le jn))) (.val (.int (x : Int))) y10 y11 y12 (.val (tabD n (over le))), s4) := by
      simp only [d_mapF, d_callF, d_catS, d_consL, d_varF, d_nilL, EW, List.getElem?_cons_succ, List.getElem?_cons_zero, List.length_cons, List.length_nil, Nat.zero_add, Nat.reduceAdd, and_self, if_true, List.cons_append, List.nil_append, d_sel_cons, d_sel_nil, k1, r8]
    rw [d_retF, d_binF, k4]
    simp only
    rw [d_mapF, d_consL, d_mapF, d_consL, k2]
    simp only [d_nilL, k3, r8, n8]
  refine ⟨EW n le jn b t (.val (natT (pcs n le jn))) (.val (.int (x : Int))) y10 y11 y12 (.val (tabD n (over le))), s4, ?_⟩
  unfold b_law
  rw [d_seqF, a1]; simp only
  rw [d_seqF, a2]; simp only
  rw [d_seqF, a3]; simp only
  rw [d_seqF, a4]; simp only
  rw [d_seqF, a5]; simp only
  rw [d_seqF, a6]; simp only
  rw [d_seqF, a7]; simp only
  rw [d_seqF, a8]; simp only
  rw [d_seqF, a9]; simp only
  rw [d_seqF, a10]; simp only
  rw [d_seqF, a11]; simp only
  exact a12
end Q
theorem all_holds : PySem.Challenge.rw_bothandall_k10_least_greatest_depths_ste.Holds := law_holds Q.law_true
end
open PySem PySem.W PyProof.Rows
theorem PySem.Challenge.cw_bothandall_k10_least_greatest_depths_ste_holds : PySem.Challenge.rw_bothandall_k10_least_greatest_depths_ste.Holds := by
  exact all_holds
