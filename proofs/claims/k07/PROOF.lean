import PyProof.Rows.All
import Wide.All
import OpenK.AllK
import Wide.FinOn
import HandS.ForMost
import HandS.ForExc
import HandS.ExcValue
import HandS.IsInst
import HandS.TryOnly
import HandS.Style
import HandS.Wide
import HandS.SortInts
import HandS.Conv
import HandS.SetFor
import HandS.Deep
import HandS.More
import PyProof.Rows.IntBool
import PyProof.ReprRoads
import PyProof.ReprLen
import PyProof.ReprBulk
import HandS.RaiseMore
import HandS.Dict
import KE.KDictZip
import HandS.Small
import KE.DataCmp
import HandS.Zip
import KE.SortData
import HandS.Iter
import HandS.WordsDict
import HandS.ExcIs
import HandS.ExcOwn
import HandS.WordsExc
import HandS.NoneIn
import HandS.Text
import HandS.Codes
import HandS.Flow
import PySem.Challenge.RW_tierounds_k07_long_webs
set_option Elab.async false
set_option linter.all false
set_option maxRecDepth 100000
set_option maxHeartbeats 4000000
/-! PVA: data (PyData) over the abstract heap: shared data Rp, owned data Own, slots, steps. -/
namespace PV
open PySem PySem.Spec PyProof.Rows L2

def kD : Key → PyData
  | .inl i => .int i
  | .inr x => .str x

mutual
inductive Rp (K : PySem.W.Frag) (S : Hp) : V → PyData → Prop
  | non : Rp K S .non .none
  | bl (b : Bool) : Rp K S (.bl b) (.bool b)
  | int (i : Int) : Rp K S (.int i) (.int i)
  | str (x : Str) : Rp K S (.str x) (.str x)
  | lst {a : Addr} {xs : List V} {ds : List PyData} : S a = some (.lst xs) → RpL K S xs ds → Rp K S (.ref a) (.list ds)
  | tup {a : Addr} {xs : List V} {ds : List PyData} : SqT K S a xs → RpL K S xs ds → Rp K S (.ref a) (.tuple ds)
  | dic {a : Addr} {kvs : List (Key × V)} {ds : List (PyData × PyData)} : Rd S a (.dK kvs) → RpK K S kvs ds → Rp K S (.ref a) (.dict ds)
inductive RpL (K : PySem.W.Frag) (S : Hp) : List V → List PyData → Prop
  | nil : RpL K S [] []
  | cons {v : V} {vs : List V} {d : PyData} {ds : List PyData} : Rp K S v d → RpL K S vs ds → RpL K S (v :: vs) (d :: ds)
inductive RpK (K : PySem.W.Frag) (S : Hp) : List (Key × V) → List (PyData × PyData) → Prop
  | nil : RpK K S [] []
  | cons {k : Key} {v : V} {vs : List (Key × V)} {d : PyData} {ds : List (PyData × PyData)} : Rp K S v d → RpK K S vs ds → RpK K S ((k, v) :: vs) ((kD k, d) :: ds)
end

theorem Same.seqT {K : PySem.W.Frag} {H H' : Hp} {a : Addr} {xs : List V} (e : Same H H') (h : SqT K H a xs) : SqT K H' a xs := by
  rcases h with (h | ⟨o, h⟩) | h
  · exact .inl (.inl (e _ _ h))
  · exact .inl (.inr ⟨o, e _ _ h⟩)
  · exact .inr h
theorem Same.seqL {K : PySem.W.Frag} {H H' : Hp} {a : Addr} {xs : List V} (e : Same H H') (h : SqL K H a xs) : SqL K H' a xs := by
  rcases h with (h | ⟨o, h⟩) | h
  · exact .inl (.inl (e _ _ h))
  · exact .inl (.inr ⟨o, e _ _ h⟩)
  · exact .inr h
theorem Same.rd {H H' : Hp} {a : Addr} {u : HO} (e : Same H H') (h : Rd H a u) : Rd H' a u := by
  rcases h with h | ⟨o, h⟩
  · exact .inl (e _ _ h)
  · exact .inr ⟨o, e _ _ h⟩

section
variable {K : PySem.W.Frag} {S S' H H' : Hp}
mutual
theorem Rp.mono (e : Same S S') : ∀ (d : PyData) (v : V), Rp K S v d → Rp K S' v d
  | .none, _, h => by cases h; exact .non
  | .bool b, _, h => by cases h; exact .bl b
  | .int i, _, h => by cases h; exact .int i
  | .str x, _, h => by cases h; exact .str x
  | .list ds, _, h => by cases h with | lst h1 h2 => exact .lst (e _ _ h1) (RpL.mono e ds _ h2)
  | .tuple ds, _, h => by cases h with | tup h1 h2 => exact .tup (Same.seqT e h1) (RpL.mono e ds _ h2)
  | .dict ds, _, h => by cases h with | dic h1 h2 => exact .dic (Same.rd e h1) (RpK.mono e ds _ h2)
theorem RpL.mono (e : Same S S') : ∀ (ds : List PyData) (vs : List V), RpL K S vs ds → RpL K S' vs ds
  | [], _, h => by cases h; exact .nil
  | d :: ds, _, h => by cases h with | cons h1 h2 => exact .cons (Rp.mono e d _ h1) (RpL.mono e ds _ h2)
theorem RpK.mono (e : Same S S') : ∀ (ds : List (PyData × PyData)) (vs : List (Key × V)), RpK K S vs ds → RpK K S' vs ds
  | [], _, h => by cases h; exact .nil
  | (k, d) :: ds, _, h => by cases h with | cons h1 h2 => exact .cons (Rp.mono e d _ h1) (RpK.mono e ds _ h2)
end
theorem Rp.mn {v : V} {d : PyData} (h : Rp K S v d) (e : Same S S') : Rp K S' v d := Rp.mono e d v h
theorem RpL.mn {v : List V} {d : List PyData} (h : RpL K S v d) (e : Same S S') : RpL K S' v d := RpL.mono e d v h
theorem RpK.mn {v : List (Key × V)} {d : List (PyData × PyData)} (h : RpK K S v d) (e : Same S S') : RpK K S' v d := RpK.mono e d v h
theorem RpL.length : ∀ {vs : List V} {ds : List PyData}, RpL K S vs ds → vs.length = ds.length
  | _, _, .nil => rfl
  | _, _, .cons _ h => congrArg (· + 1) (RpL.length h)
theorem RpL.get : ∀ {vs : List V} {ds : List PyData} {i : Nat} {d : PyData}, RpL K S vs ds → ds[i]? = some d → ∃ v, vs[i]? = some v ∧ Rp K S v d
  | _, _, _, _, .nil, e => by simp at e
  | _, _, 0, _, .cons h _, e => by simp at e; subst e; exact ⟨_, rfl, h⟩
  | _, _, i + 1, _, .cons _ h, e => by
    obtain ⟨v, e1, h1⟩ := RpL.get (i := i) h (by simpa using e)
    exact ⟨v, by simpa using e1, h1⟩
theorem RpL.getV : ∀ {vs : List V} {ds : List PyData} {i : Nat} {v : V}, RpL K S vs ds → vs[i]? = some v → ∃ d, ds[i]? = some d ∧ Rp K S v d
  | _, _, _, _, .nil, e => by simp at e
  | _, _, 0, _, .cons h _, e => by simp at e; subst e; exact ⟨_, rfl, h⟩
  | _, _, i + 1, _, .cons _ h, e => by
    obtain ⟨v, e1, h1⟩ := RpL.getV (i := i) h (by simpa using e)
    exact ⟨v, by simpa using e1, h1⟩
theorem RpL.append : ∀ {vs ws : List V} {ds es : List PyData}, RpL K S vs ds → RpL K S ws es → RpL K S (vs ++ ws) (ds ++ es)
  | _, _, _, _, .nil, h => h
  | _, _, _, _, .cons a b, h => .cons a (RpL.append b h)
theorem RpL.take : ∀ (n : Nat) {vs : List V} {ds : List PyData}, RpL K S vs ds → RpL K S (vs.take n) (ds.take n)
  | 0, _, _, _ => .nil
  | _ + 1, _, _, .nil => .nil
  | n + 1, _, _, .cons a b => .cons a (RpL.take n b)
theorem RpL.drop : ∀ (n : Nat) {vs : List V} {ds : List PyData}, RpL K S vs ds → RpL K S (vs.drop n) (ds.drop n)
  | 0, _, _, h => h
  | _ + 1, _, _, .nil => .nil
  | n + 1, _, _, .cons _ b => RpL.drop n b
theorem RpL.reverse {vs : List V} {ds : List PyData} (h : RpL K S vs ds) : RpL K S vs.reverse ds.reverse := by
  induction ds generalizing vs with
  | nil => cases h; exact .nil
  | cons d ds ih =>
    cases h with
    | cons a b =>
      rw [List.reverse_cons, List.reverse_cons]
      exact (ih b).append (.cons a .nil)
theorem RpL.ints : ∀ {vs : List V} (ns : List Int), RpL K S vs (ns.map PyData.int) → vs = ns.map V.int
  | _, [], h => by cases h; rfl
  | _, n :: ns, h => by
    cases h with
    | cons a b => cases a; rw [List.map_cons, RpL.ints ns b]
theorem RpL.of_ints : ∀ (ns : List Int), RpL K S (ns.map V.int) (ns.map PyData.int)
  | [] => .nil
  | n :: ns => .cons (.int n) (RpL.of_ints ns)
end

/-! ### owned data -/
inductive OwL (F : V → PyData → List Addr → Prop) : List V → List PyData → List Addr → Prop
  | nil : OwL F [] [] []
  | cons {v : V} {vs : List V} {d : PyData} {ds : List PyData} {f g : List Addr} : F v d f → OwL F vs ds g → OwL F (v :: vs) (d :: ds) (f ++ g)
inductive OwK (F : V → PyData → List Addr → Prop) : List (Key × V) → List (PyData × PyData) → List Addr → Prop
  | nil : OwK F [] [] []
  | cons {k : Key} {v : V} {vs : List (Key × V)} {d : PyData} {ds : List (PyData × PyData)} {f g : List Addr} : F v d f → OwK F vs ds g → OwK F ((k, v) :: vs) ((kD k, d) :: ds) (f ++ g)

def atom : PyData → Bool
  | .none | .bool _ | .int _ | .str _ => true
  | _ => false

def Own (K : PySem.W.Frag) (S H : Hp) : Nat → V → PyData → List Addr → Prop
  | 0, v, d, fp => fp = [] ∧ Rp K S v d
  | n + 1, v, d, fp =>
    (∃ (a : Addr) (vs : List V) (ds : List PyData) (f : List Addr), v = .ref a ∧ d = .list ds ∧ H a = some (.lst vs) ∧ fp = a :: f ∧ OwL (Own K S H n) vs ds f) ∨
    (∃ (a : Addr) (vs : List (Key × V)) (ds : List (PyData × PyData)) (f : List Addr), v = .ref a ∧ d = .dict ds ∧ H a = some (.dK vs) ∧ fp = a :: f ∧ OwK (Own K S H n) vs ds f) ∨
    (∃ (a : Addr) (vs : List V) (ds : List PyData), v = .ref a ∧ d = .tuple ds ∧ SqT K S a vs ∧ OwL (Own K S H n) vs ds fp) ∨
    (atom d = true ∧ fp = [] ∧ Rp K S v d)

section
variable {K : PySem.W.Frag} {S S' H H' : Hp}
theorem OwL.imp {F G : V → PyData → List Addr → Prop} : ∀ {vs : List V} {ds : List PyData} {f : List Addr}, OwL F vs ds f → (∀ v d g, (∀ a ∈ g, a ∈ f) → F v d g → G v d g) → OwL G vs ds f
  | _, _, _, .nil, _ => .nil
  | _, _, _, .cons a b, h => .cons (h _ _ _ (fun _ z => List.mem_append_left _ z) a) (OwL.imp b fun v d g hg => h v d g fun x z => List.mem_append_right _ (hg x z))
theorem OwK.imp {F G : V → PyData → List Addr → Prop} : ∀ {vs : List (Key × V)} {ds : List (PyData × PyData)} {f : List Addr}, OwK F vs ds f → (∀ v d g, (∀ a ∈ g, a ∈ f) → F v d g → G v d g) → OwK G vs ds f
  | _, _, _, .nil, _ => .nil
  | _, _, _, .cons a b, h => .cons (h _ _ _ (fun _ z => List.mem_append_left _ z) a) (OwK.imp b fun v d g hg => h v d g fun x z => List.mem_append_right _ (hg x z))
theorem OwL.length {F : V → PyData → List Addr → Prop} : ∀ {vs : List V} {ds : List PyData} {f : List Addr}, OwL F vs ds f → vs.length = ds.length
  | _, _, _, .nil => rfl
  | _, _, _, .cons _ b => congrArg (· + 1) (OwL.length b)
theorem OwL.rp {F : V → PyData → List Addr → Prop} : ∀ {vs : List V} {ds : List PyData} {f : List Addr}, OwL F vs ds f → (∀ v d g, (∀ a ∈ g, a ∈ f) → F v d g → Rp K S v d) → RpL K S vs ds
  | _, _, _, .nil, _ => .nil
  | _, _, _, .cons a b, h => .cons (h _ _ _ (fun _ z => List.mem_append_left _ z) a) (OwL.rp b fun v d g hg => h v d g fun x z => List.mem_append_right _ (hg x z))
theorem OwK.rp {F : V → PyData → List Addr → Prop} : ∀ {vs : List (Key × V)} {ds : List (PyData × PyData)} {f : List Addr}, OwK F vs ds f → (∀ v d g, (∀ a ∈ g, a ∈ f) → F v d g → Rp K S v d) → RpK K S vs ds
  | _, _, _, .nil, _ => .nil
  | _, _, _, .cons a b, h => .cons (h _ _ _ (fun _ z => List.mem_append_left _ z) a) (OwK.rp b fun v d g hg => h v d g fun x z => List.mem_append_right _ (hg x z))
/-- shared elements: no address owned -/
theorem OwL.of_rp : ∀ {vs : List V} {ds : List PyData}, RpL K S vs ds → OwL (Own K S H 0) vs ds []
  | _, _, .nil => .nil
  | _, _, .cons a b => OwL.cons (f := []) (g := []) ⟨rfl, a⟩ (OwL.of_rp b)
theorem OwL.fp0 : ∀ {vs : List V} {ds : List PyData} {f : List Addr}, OwL (Own K S H 0) vs ds f → f = [] ∧ RpL K S vs ds
  | _, _, _, .nil => ⟨rfl, .nil⟩
  | _, _, _, .cons ⟨e, a⟩ b => by
    obtain ⟨e2, h2⟩ := OwL.fp0 b
    subst e e2
    exact ⟨rfl, .cons a h2⟩

/-- owned data, when the shared part grows and the owned objects stay -/
theorem Own.keep (e : Same S S') : ∀ {n : Nat} {v : V} {d : PyData} {f : List Addr}, Own K S H n v d f → (∀ b ∈ f, ∀ o, H b = some o → H' b = some o) → Own K S' H' n v d f
  | 0, _, _, _, ⟨e0, h⟩, _ => ⟨e0, h.mn e⟩
  | n + 1, _, _, _, .inl ⟨a, vs, ds, f, e1, e2, h, e3, ho⟩, k => .inl ⟨a, vs, ds, f, e1, e2, k a (e3 ▸ List.mem_cons_self) _ h, e3, ho.imp fun v d g hg h' => Own.keep e h' fun b hb => k b (e3 ▸ List.mem_cons_of_mem _ (hg b hb))⟩
  | n + 1, _, _, _, .inr (.inl ⟨a, vs, ds, f, e1, e2, h, e3, ho⟩), k => .inr (.inl ⟨a, vs, ds, f, e1, e2, k a (e3 ▸ List.mem_cons_self) _ h, e3, ho.imp fun v d g hg h' => Own.keep e h' fun b hb => k b (e3 ▸ List.mem_cons_of_mem _ (hg b hb))⟩)
  | n + 1, _, _, _, .inr (.inr (.inl ⟨a, vs, ds, e1, e2, h, ho⟩)), k => .inr (.inr (.inl ⟨a, vs, ds, e1, e2, Same.seqT e h, ho.imp fun v d g hg h' => Own.keep e h' fun b hb => k b (hg b hb)⟩))
  | n + 1, _, _, _, .inr (.inr (.inr ⟨h1, h2, h3⟩)), k => .inr (.inr (.inr ⟨h1, h2, h3.mn e⟩))

theorem OwL.mem {F : V → PyData → List Addr → Prop} {P : Addr → Prop} : ∀ {vs : List V} {ds : List PyData} {f : List Addr}, OwL F vs ds f → (∀ v d g, F v d g → ∀ a ∈ g, P a) → ∀ a ∈ f, P a
  | _, _, _, .nil, _, _, z => nomatch z
  | _, _, _, .cons x y, h, a, z => (List.mem_append.mp z).elim (h _ _ _ x a) (OwL.mem y h a)
theorem OwK.mem {F : V → PyData → List Addr → Prop} {P : Addr → Prop} : ∀ {vs : List (Key × V)} {ds : List (PyData × PyData)} {f : List Addr}, OwK F vs ds f → (∀ v d g, F v d g → ∀ a ∈ g, P a) → ∀ a ∈ f, P a
  | _, _, _, .nil, _, _, z => nomatch z
  | _, _, _, .cons x y, h, a, z => (List.mem_append.mp z).elim (h _ _ _ x a) (OwK.mem y h a)
/-- what is owned is a list or a dict that is tracked as it is -/
def Box (H : Hp) (a : Addr) : Prop := (∃ vs, H a = some (.lst vs)) ∨ ∃ vs, H a = some (.dK vs)
theorem Own.box : ∀ {n : Nat} {v : V} {d : PyData} {f : List Addr}, Own K S H n v d f → ∀ a ∈ f, Box H a
  | 0, _, _, _, ⟨e0, _⟩, _, z => by rw [e0] at z; exact nomatch z
  | n + 1, _, _, _, .inl ⟨a, vs, ds, f, _, _, h, e3, ho⟩, x, z => by
    rw [e3] at z
    rcases List.mem_cons.mp z with z | z
    · exact .inl ⟨vs, z ▸ h⟩
    · exact ho.mem (fun _ _ _ q => Own.box q) x z
  | n + 1, _, _, _, .inr (.inl ⟨a, vs, ds, f, _, _, h, e3, ho⟩), x, z => by
    rw [e3] at z
    rcases List.mem_cons.mp z with z | z
    · exact .inr ⟨vs, z ▸ h⟩
    · exact ho.mem (fun _ _ _ q => Own.box q) x z
  | n + 1, _, _, _, .inr (.inr (.inl ⟨a, vs, ds, _, _, _, ho⟩)), x, z => ho.mem (fun _ _ _ q => Own.box q) x z
  | n + 1, _, _, _, .inr (.inr (.inr ⟨_, h2, _⟩)), _, z => by rw [h2] at z; exact nomatch z
theorem Box.some {a : Addr} (h : Box H a) : H a ≠ none := by
  rcases h with ⟨_, h⟩ | ⟨_, h⟩ <;> rw [h] <;> exact fun z => nomatch z

/-! ### parts of heaps -/
/-- S, and H's objects at l -/
def addH (S H : Hp) (l : List Addr) : Hp := fun b => if b ∈ l then H b else S b
def cutH (S : Hp) (l : List Addr) : Hp := fun b => if b ∈ l then none else S b
theorem addH_in {l : List Addr} {b : Addr} (h : b ∈ l) : addH S H l b = H b := if_pos h
theorem addH_out {l : List Addr} {b : Addr} (h : b ∉ l) : addH S H l b = S b := if_neg h
theorem cutH_in {l : List Addr} {b : Addr} (h : b ∈ l) : cutH S l b = none := if_pos h
theorem cutH_out {l : List Addr} {b : Addr} (h : b ∉ l) : cutH S l b = S b := if_neg h
theorem same_addH (e : Same S H) (l : List Addr) : Same S (addH S H l) := fun b o h => by
  unfold addH
  split
  · exact e b o h
  · exact h
theorem addH_same (e : Same S H) (l : List Addr) : Same (addH S H l) H := fun b o h => by
  unfold addH at h
  split at h
  · exact h
  · exact e b o h
theorem cutH_same (l : List Addr) : Same (cutH S l) S := fun b o h => by
  unfold cutH at h
  split at h
  · cases h
  · exact h
theorem same_cutH {l : List Addr} (e : Same S S') (h : ∀ a ∈ l, S a = none) : Same S (cutH S' l) := fun b o q => by
  have hb : b ∉ l := fun z => by rw [h b z] at q; cases q
  rw [cutH_out hb]
  exact e b o q

/-- owned data may be read as shared -/
theorem Own.freeze (e : Same S H) : ∀ {n : Nat} {v : V} {d : PyData} {f l : List Addr}, Own K S H n v d f → (∀ a ∈ f, a ∈ l) → Rp K (addH S H l) v d
  | 0, _, _, _, l, ⟨_, h⟩, _ => h.mn (same_addH e l)
  | n + 1, _, _, _, l, .inl ⟨a, vs, ds, f, e1, e2, h, e3, ho⟩, k => by
    subst e1 e2 e3
    refine .lst ?_ (ho.rp fun v d g hg q => Own.freeze e q fun x z => k x (List.mem_cons_of_mem _ (hg x z)))
    rw [addH_in (k a List.mem_cons_self)]
    exact h
  | n + 1, _, _, _, l, .inr (.inl ⟨a, vs, ds, f, e1, e2, h, e3, ho⟩), k => by
    subst e1 e2 e3
    refine .dic (.inl ?_) (ho.rp fun v d g hg q => Own.freeze e q fun x z => k x (List.mem_cons_of_mem _ (hg x z)))
    rw [addH_in (k a List.mem_cons_self)]
    exact h
  | n + 1, _, _, _, l, .inr (.inr (.inl ⟨a, vs, ds, e1, e2, h, ho⟩)), k => by
    subst e1 e2
    exact .tup (Same.seqT (same_addH e l) h) (ho.rp fun v d g hg q => Own.freeze e q fun x z => k x (hg x z))
  | n + 1, _, _, _, l, .inr (.inr (.inr ⟨_, _, h⟩)), _ => h.mn (same_addH e l)
theorem Own.read (e : Same S H) {n : Nat} {v : V} {d : PyData} {f : List Addr} (h : Own K S H n v d f) : Rp K H v d :=
  (h.freeze e (l := f) fun _ z => z).mn (addH_same e f)

/-! ### data without lists and dicts below n levels -/
mutual
def noMut : PyData → Bool
  | .none | .bool _ | .int _ | .str _ => true
  | .tuple xs => noMutL xs
  | .list _ | .dict _ => false
def noMutL : List PyData → Bool
  | [] => true
  | x :: xs => noMut x && noMutL xs
end
def flatAt : Nat → PyData → Bool
  | 0, d => noMut d
  | n + 1, .list ds => ds.all (flatAt n)
  | n + 1, .tuple ds => ds.all (flatAt n)
  | n + 1, .dict ds => ds.all fun p => flatAt n p.2
  | _ + 1, _ => true

theorem SqT.del {l : List Addr} {a : Addr} {vs : List V} (hl : ∀ x ∈ l, S x = none ∨ Box S x) (h : SqT K S a vs) : SqT K (cutH S l) a vs := by
  rcases h with (h | ⟨o, h⟩) | h
  · refine .inl (.inl ?_)
    rw [cutH_out fun z => ?_]
    · exact h
    · rcases hl a z with q | ⟨_, q⟩ | ⟨_, q⟩ <;> rw [h] at q <;> cases q
  · refine .inl (.inr ⟨o, ?_⟩)
    rw [cutH_out fun z => ?_]
    · exact h
    · rcases hl a z with q | ⟨_, q⟩ | ⟨_, q⟩ <;> rw [h] at q <;> cases q
  · exact .inr h
mutual
theorem Rp.del {l : List Addr} (hl : ∀ x ∈ l, S x = none ∨ Box S x) : ∀ (d : PyData) (v : V), noMut d = true → Rp K S v d → Rp K (cutH S l) v d
  | .none, _, _, h => by cases h; exact .non
  | .bool b, _, _, h => by cases h; exact .bl b
  | .int i, _, _, h => by cases h; exact .int i
  | .str x, _, _, h => by cases h; exact .str x
  | .list _, _, n, _ => by simp [noMut] at n
  | .dict _, _, n, _ => by simp [noMut] at n
  | .tuple ds, _, n, h => by
    cases h with
    | tup h1 h2 => exact .tup (SqT.del hl h1) (RpL.del hl ds _ (by simpa [noMut] using n) h2)
theorem RpL.del {l : List Addr} (hl : ∀ x ∈ l, S x = none ∨ Box S x) : ∀ (ds : List PyData) (vs : List V), noMutL ds = true → RpL K S vs ds → RpL K (cutH S l) vs ds
  | [], _, _, h => by cases h; exact .nil
  | d :: ds, _, n, h => by
    have n' : noMut d = true ∧ noMutL ds = true := by simpa [noMutL] using n
    cases h with
    | cons h1 h2 => exact .cons (Rp.del hl d _ n'.1 h1) (RpL.del hl ds _ n'.2 h2)
end
theorem OwL.all {F G : V → PyData → List Addr → Prop} {p : PyData → Bool} : ∀ {vs : List V} {ds : List PyData} {f : List Addr}, OwL F vs ds f → ds.all p = true → (∀ v d g, p d = true → F v d g → G v d g) → OwL G vs ds f
  | _, _, _, .nil, _, _ => .nil
  | _, _, _, .cons a b, h, k => by
    rw [List.all_cons, Bool.and_eq_true] at h
    exact .cons (k _ _ _ h.1 a) (OwL.all b h.2 k)
theorem OwK.all {F G : V → PyData → List Addr → Prop} {p : PyData → Bool} : ∀ {vs : List (Key × V)} {ds : List (PyData × PyData)} {f : List Addr}, OwK F vs ds f → (ds.all fun q => p q.2) = true → (∀ v d g, p d = true → F v d g → G v d g) → OwK G vs ds f
  | _, _, _, .nil, _, _ => .nil
  | _, _, _, .cons a b, h, k => by
    rw [List.all_cons, Bool.and_eq_true] at h
    exact .cons (k _ _ _ h.1 a) (OwK.all b h.2 k)
theorem Own.del {l : List Addr} (hl : ∀ x ∈ l, S x = none ∨ Box S x) : ∀ {n : Nat} {v : V} {d : PyData} {f : List Addr}, flatAt n d = true → Own K S H n v d f → Own K (cutH S l) H n v d f
  | 0, _, d, _, hf, ⟨e0, h⟩ => ⟨e0, Rp.del hl d _ hf h⟩
  | n + 1, _, _, _, hf, .inl ⟨a, vs, ds, f, e1, e2, h, e3, ho⟩ => by
    subst e2
    exact .inl ⟨a, vs, ds, f, e1, rfl, h, e3, ho.all hf fun v d g q r => Own.del hl q r⟩
  | n + 1, _, _, _, hf, .inr (.inl ⟨a, vs, ds, f, e1, e2, h, e3, ho⟩) => by
    subst e2
    exact .inr (.inl ⟨a, vs, ds, f, e1, rfl, h, e3, ho.all hf fun v d g q r => Own.del hl q r⟩)
  | n + 1, _, _, _, hf, .inr (.inr (.inl ⟨a, vs, ds, e1, e2, h, ho⟩)) => by
    subst e2
    exact .inr (.inr (.inl ⟨a, vs, ds, e1, rfl, SqT.del hl h, ho.all hf fun v d g q r => Own.del hl q r⟩))
  | n + 1, _, d, _, hf, .inr (.inr (.inr ⟨h1, h2, h3⟩)) => .inr (.inr (.inr ⟨h1, h2, Rp.del hl d _ (by cases d <;> first | rfl | (simp [atom] at h1)) h3⟩))
end
end PV

/-! PVB: slots, the state with temporaries (Cu), steps, the judgement of an expression (tR), primitive operations (use). -/
namespace PV
open PySem PySem.Spec PyProof.Rows L2

/-- an exception object of the class cls at a, raised already or not -/
def ExQ (cls : Value) (a : Addr) : HO := .ext fun h => ∃ oe : Obj, h.get? a = some oe ∧ Zc cls none oe ∧ ∃ vs : Array Value, oe.data = .fields vs
/-- what a slot holds: data, with the number of its owned levels; an exception by its class's name -/
inductive Vl where
  | dt (d : PyData) (n : Nat)
  | ex (c : Str)
  | fz (d : List PyData)
abbrev Ev := List (Option Vl)
/-- an expression's value: data of its own, a slot's owned data (borrowed), an exception -/
inductive RV where
  | val (d : PyData) (n : Nat)
  | bor (i : Nat)
  | ex (c : Str)
inductive Res (α : Type) where
  | ok (a : α) (e : Ev)
  | exc (c : Str) (e : Ev)
  | no
def Res.bind {α β : Type} : Res α → (α → Ev → Res β) → Res β
  | .ok a e, f => f a e
  | .exc c e, _ => .exc c e
  | .no, _ => .no
/-- the written part, the classes by name -/
structure Gx where
  K : PySem.W.Frag
  cl : Str → Option Addr

inductive Slots (G : Gx) (S H : Hp) : L2.St → Ev → List Addr → Prop
  | nil : Slots G S H [] [] []
  | none {σ : L2.St} {e : Ev} {A : List Addr} {x : Option V} : Slots G S H σ e A → Slots G S H (x :: σ) (none :: e) A
  | dt {σ : L2.St} {e : Ev} {A f : List Addr} {n : Nat} {v : V} {d : PyData} : Own G.K S H n v d f → Slots G S H σ e A → Slots G S H (some v :: σ) (some (.dt d n) :: e) (f ++ A)
  | ex {σ : L2.St} {e : Ev} {A : List Addr} {a C : Addr} {c : Str} : S a = some (ExQ (.ref C) a) → G.cl c = some C → Slots G S H σ e A → Slots G S H (some (.ref a) :: σ) (some (.ex c) :: e) A
  | fz {σ : L2.St} {e : Ev} {A : List Addr} {a : Addr} {vs : List V} {ds : List PyData} : SqL G.K S a vs → RpL G.K S vs ds → Slots G S H σ e A → Slots G S H (some (.ref a) :: σ) (some (.fz ds) :: e) A

def RvOk (G : Gx) (S H : Hp) (σ : L2.St) : RV → V → List Addr → Prop
  | .val d n, v, fp => Own G.K S H n v d fp
  | .bor i, v, fp => fp = [] ∧ σ[i]? = some (some v)
  | .ex c, v, fp => fp = [] ∧ ∃ a C, v = .ref a ∧ S a = some (ExQ (.ref C) a) ∧ G.cl c = some C
structure Tmp where
  r : RV
  v : V
  f : List Addr
def fps (ts : List Tmp) : List Addr := (ts.map (·.f)).flatten

structure Cu (G : Gx) (S H : Hp) (σ : L2.St) (e : Ev) (A : List Addr) (ts : List Tmp) : Prop where
  sub : Same S H
  nod : (A ++ fps ts).Nodup
  off : ∀ a ∈ A ++ fps ts, S a = none
  slots : Slots G S H σ e A
  tmps : ∀ t ∈ ts, RvOk G S H σ t.r t.v t.f

structure Step (S : Hp) (A : List Addr) (H S' : Hp) (A' : List Addr) (H' : Hp) : Prop where
  frame : ∀ b o, H b = some o → b ∉ A → H' b = some o
  grow : ∀ b, H b ≠ none → H' b ≠ none
  sub : Same S S'
  subF : ∀ b o, S' b = some o → S b = some o ∨ H b = none ∨ b ∈ A
  own : ∀ a ∈ A', a ∈ A ∨ H a = none

section
variable {G : Gx} {S S' S1 S2 H H' H1 H2 : Hp} {σ : L2.St} {e : Ev} {A A' A1 A2 : List Addr} {ts : List Tmp}
theorem Step.refl : Step S A H S A H := ⟨fun _ _ h _ => h, fun _ h => h, Same.refl S, fun _ _ h => .inl h, fun _ h => .inl h⟩
theorem Step.trans (a : Step S A H S1 A1 H1) (b : Step S1 A1 H1 S2 A2 H2) : Step S A H S2 A2 H2 where
  frame := fun x o h n => b.frame x o (a.frame x o h n) fun z => by
    rcases a.own x z with q | q
    · exact n q
    · rw [h] at q; cases q
  grow := fun x h => b.grow x (a.grow x h)
  sub := a.sub.trans b.sub
  subF := fun x o h => by
    rcases b.subF x o h with q | q | q
    · exact a.subF x o q
    · refine .inr (.inl ?_)
      cases z : H x with
      | none => rfl
      | some u => exact absurd q (a.grow x (by rw [z]; exact fun w => nomatch w))
    · rcases a.own x q with w | w
      · exact .inr (.inr w)
      · exact .inr (.inl w)
  own := fun x h => by
    rcases b.own x h with q | q
    · exact a.own x q
    · refine .inr ?_
      cases z : H x with
      | none => rfl
      | some u => exact absurd q (a.grow x (by rw [z]; exact fun w => nomatch w))
theorem Step.less (a : Step S A H S1 A1 H1) (h : ∀ x ∈ A2, x ∈ A1) : Step S A H S1 A2 H1 := ⟨a.frame, a.grow, a.sub, a.subF, fun x z => a.own x (h x z)⟩
theorem Step.more (a : Step S A H S1 A1 H1) (h : ∀ x ∈ A, x ∈ A2) : Step S A2 H S1 A1 H1 :=
  ⟨fun b o q n => a.frame b o q fun z => n (h b z), a.grow, a.sub, fun b o q => (a.subF b o q).imp id (.imp id (h b)), fun x z => (a.own x z).imp (h x) id⟩

theorem fps_append (ts us : List Tmp) : fps (ts ++ us) = fps ts ++ fps us := by
  unfold fps
  rw [List.map_append, List.flatten_append]
theorem fps_one (t : Tmp) : fps [t] = t.f := by
  unfold fps
  rw [List.map_singleton, List.flatten_singleton]
theorem mem_fps {a : Addr} : a ∈ fps ts ↔ ∃ t ∈ ts, a ∈ t.f := by
  unfold fps
  rw [List.mem_flatten]
  constructor
  · rintro ⟨l, h1, h2⟩
    obtain ⟨t, h3, rfl⟩ := List.mem_map.mp h1
    exact ⟨t, h3, h2⟩
  · rintro ⟨t, h1, h2⟩
    exact ⟨_, List.mem_map.mpr ⟨t, h1, rfl⟩, h2⟩

theorem Slots.keep (es : Same S S') : ∀ {σ : L2.St} {e : Ev} {A : List Addr}, Slots G S H σ e A → (∀ b ∈ A, ∀ o, H b = some o → H' b = some o) → Slots G S' H' σ e A
  | _, _, _, .nil, _ => .nil
  | _, _, _, .none h, k => .none (Slots.keep es h k)
  | _, _, _, .dt o h, k => .dt (o.keep es fun b hb => k b (List.mem_append_left _ hb)) (Slots.keep es h fun b hb => k b (List.mem_append_right _ hb))
  | _, _, _, .ex h1 h2 h, k => .ex (es _ _ h1) h2 (Slots.keep es h k)
  | _, _, _, .fz h1 h2 h, k => .fz (Same.seqL es h1) (h2.mn es) (Slots.keep es h k)
theorem Slots.length : ∀ {σ : L2.St} {e : Ev} {A : List Addr}, Slots G S H σ e A → σ.length = e.length
  | _, _, _, .nil => rfl
  | _, _, _, .none h => congrArg (· + 1) (Slots.length h)
  | _, _, _, .dt _ h => congrArg (· + 1) (Slots.length h)
  | _, _, _, .ex _ _ h => congrArg (· + 1) (Slots.length h)
  | _, _, _, .fz _ _ h => congrArg (· + 1) (Slots.length h)
theorem Slots.box : ∀ {σ : L2.St} {e : Ev} {A : List Addr}, Slots G S H σ e A → ∀ a ∈ A, Box H a
  | _, _, _, .nil, _, z => nomatch z
  | _, _, _, .none h, a, z => Slots.box h a z
  | _, _, _, .dt o h, a, z => (List.mem_append.mp z).elim (o.box a) (Slots.box h a)
  | _, _, _, .ex _ _ h, a, z => Slots.box h a z
  | _, _, _, .fz _ _ h, a, z => Slots.box h a z
/-- the slot at i: its value, its own addresses, and what may be put in its place -/
theorem Slots.at (i : Nat) : ∀ {σ : L2.St} {e : Ev} {A : List Addr} {d : PyData} {n : Nat}, Slots G S H σ e A → e[i]? = some (some (.dt d n)) →
    ∃ v f B C, σ[i]? = some (some v) ∧ A = B ++ f ++ C ∧ Own G.K S H n v d f ∧
      (∀ {S' H' : Hp} {d' : PyData} {n' : Nat} {f' : List Addr}, Same S S' → (∀ b ∈ B ++ C, ∀ o, H b = some o → H' b = some o) → Own G.K S' H' n' v d' f' → Slots G S' H' σ (e.set i (some (.dt d' n'))) (B ++ f' ++ C)) ∧ Slots G S H σ (e.set i Option.none) (B ++ C) := by
  induction i with
  | zero =>
    intro σ e A d n h q
    cases h with
    | nil => simp at q
    | none h => simp at q
    | ex _ _ h => simp at q
    | fz _ _ h => simp at q
    | dt o h =>
      simp at q
      obtain ⟨rfl, rfl⟩ := q
      refine ⟨_, _, [], _, rfl, rfl, o, fun es k o' => ?_, .none h⟩
      exact .dt o' (h.keep es fun b hb => k b hb)
  | succ i ih =>
    intro σ e A d n h q
    cases h with
    | nil => simp at q
    | none h =>
      obtain ⟨v, f, B, C, e1, e2, o, k, tk⟩ := ih h (by simpa using q)
      refine ⟨v, f, B, C, by simpa using e1, e2, o, fun es kk o' => ?_, .none tk⟩
      exact .none (k es kk o')
    | ex h1 h2 h =>
      obtain ⟨v, f, B, C, e1, e2, o, k, tk⟩ := ih h (by simpa using q)
      refine ⟨v, f, B, C, by simpa using e1, e2, o, fun es kk o' => ?_, .ex h1 h2 tk⟩
      exact .ex (es _ _ h1) h2 (k es kk o')
    | fz h1 h2 h =>
      obtain ⟨v, f, B, C, e1, e2, o, k, tk⟩ := ih h (by simpa using q)
      refine ⟨v, f, B, C, by simpa using e1, e2, o, fun es kk o' => ?_, .fz h1 h2 tk⟩
      exact .fz (Same.seqL es h1) (h2.mn es) (k es kk o')
    | dt o0 h =>
      rename_i f0 _ v0 d0
      obtain ⟨v, f, B, C, e1, e2, o, k, tk⟩ := ih h (by simpa using q)
      refine ⟨v, f, f0 ++ B, C, by simpa using e1, by rw [e2]; simp [List.append_assoc], o, fun es kk o' => ?_, by have := Slots.dt o0 tk; simpa [List.append_assoc] using this⟩
      have := Slots.dt (o0.keep es fun b hb => kk b (by simp [hb])) (k es (fun b hb => kk b (by
        rcases List.mem_append.mp hb with z | z <;> simp [z])) o')
      simpa [List.append_assoc] using this
/-- any slot may be stored to, or forgotten -/
theorem Slots.put (i : Nat) (w : Option V) (nw : Option Vl) (F : List Addr) : ∀ {σ : L2.St} {e : Ev} {A : List Addr}, Slots G S H σ e A → i < σ.length → Slots G S H [w] [nw] F →
    ∃ B f C, A = B ++ f ++ C ∧ Slots G S H (σ.set i w) (e.set i nw) (B ++ F ++ C) := by
  induction i with
  | zero =>
    intro σ e A h hi hn
    have key : ∀ {σ : L2.St} {e : Ev} {A : List Addr}, Slots G S H σ e A → Slots G S H (w :: σ) (nw :: e) (F ++ A) := by
      intro σ e A h
      cases hn with
      | none h0 => cases h0; exact .none h
      | dt o h0 => cases h0; rw [List.append_nil]; exact .dt o h
      | ex h1 h2 h0 => cases h0; exact .ex h1 h2 h
      | fz h1 h2 h0 => cases h0; exact .fz h1 h2 h
    cases h with
    | nil => simp at hi
    | none h => exact ⟨[], [], _, rfl, key h⟩
    | ex _ _ h => exact ⟨[], [], _, rfl, key h⟩
    | fz _ _ h => exact ⟨[], [], _, rfl, key h⟩
    | dt o h => exact ⟨[], _, _, rfl, key h⟩
  | succ i ih =>
    intro σ e A h hi hn
    cases h with
    | nil => simp at hi
    | none h =>
      obtain ⟨B, f, C, e1, k⟩ := ih h (by simpa using hi) hn
      exact ⟨B, f, C, e1, .none k⟩
    | ex h1 h2 h =>
      obtain ⟨B, f, C, e1, k⟩ := ih h (by simpa using hi) hn
      exact ⟨B, f, C, e1, .ex h1 h2 k⟩
    | fz h1 h2 h =>
      obtain ⟨B, f, C, e1, k⟩ := ih h (by simpa using hi) hn
      exact ⟨B, f, C, e1, .fz h1 h2 k⟩
    | dt o h =>
      rename_i f0 _ v0 d0
      obtain ⟨B, f, C, e1, k⟩ := ih h (by simpa using hi) hn
      refine ⟨f0 ++ B, f, C, by rw [e1]; simp [List.append_assoc], ?_⟩
      have := Slots.dt o k
      simpa [List.append_assoc] using this

theorem RvOk.keep {r : RV} {v : V} {f : List Addr} (es : Same S S') (h : RvOk G S H σ r v f) (k : ∀ b ∈ f, ∀ o, H b = some o → H' b = some o) : RvOk G S' H' σ r v f := by
  cases r with
  | val d n => exact Own.keep es h k
  | bor i => exact h
  | ex c =>
    obtain ⟨e1, a, C, e2, h1, h2⟩ := h
    exact ⟨e1, a, C, e2, es _ _ h1, h2⟩
theorem RvOk.box {r : RV} {v : V} {f : List Addr} (h : RvOk G S H σ r v f) : ∀ a ∈ f, Box H a := by
  cases r with
  | val d n => exact Own.box h
  | bor i => rw [h.1]; exact fun _ z => nomatch z
  | ex c => rw [h.1]; exact fun _ z => nomatch z
theorem Cu.box (R : Cu G S H σ e A ts) : ∀ a ∈ A ++ fps ts, Box H a := fun a ha => by
  rcases List.mem_append.mp ha with z | z
  · exact R.slots.box a z
  · obtain ⟨t, h1, h2⟩ := mem_fps.mp z
    exact (R.tmps t h1).box a h2
theorem Cu.trk (R : Cu G S H σ e A ts) {a : Addr} (h : a ∈ A ++ fps ts) : H a ≠ none := (R.box a h).some

theorem nodup_app {α : Type} {l m : List α} : (l ++ m).Nodup ↔ l.Nodup ∧ m.Nodup ∧ ∀ a ∈ l, a ∉ m := by
  rw [List.nodup_append]
  constructor
  · rintro ⟨a, b, c⟩
    exact ⟨a, b, fun x hx hm => c x hx x hm rfl⟩
  · rintro ⟨a, b, c⟩
    exact ⟨a, b, fun x hx y hy z => c x hx (z ▸ hy)⟩

theorem Cu.base (R : Cu G S H σ e A ts) : Cu G S H σ e A [] := by
  refine ⟨R.sub, ?_, fun a ha => R.off a ?_, R.slots, fun t ht => nomatch ht⟩
  · have := (nodup_app.mp R.nod).1
    show (A ++ []).Nodup
    rw [List.append_nil]; exact this
  · have : a ∈ A := by
      have h : a ∈ A ++ [] := ha
      rwa [List.append_nil] at h
    exact List.mem_append_left _ this
/-- temporaries stay while another expression runs -/
theorem Cu.under {e2 : Ev} {us : List Tmp} (R : Cu G S H σ e A ts) (R2 : Cu G S2 H2 σ e2 A2 us) (st : Step S A H S2 (A2 ++ fps us) H2) :
    Cu G S2 H2 σ e2 A2 (ts ++ us) ∧ Step S (A ++ fps ts) H S2 (A2 ++ fps (ts ++ us)) H2 := by
  obtain ⟨n1, n2, n3⟩ := nodup_app.mp R.nod
  obtain ⟨m1, m2, m3⟩ := nodup_app.mp R2.nod
  have hA : ∀ a ∈ fps ts, a ∉ A := fun a ha z => n3 a z ha
  have hN : ∀ a ∈ fps ts, a ∉ A2 ++ fps us := fun a ha z => by
    rcases st.own a z with q | q
    · exact hA a ha q
    · exact R.trk (List.mem_append_right _ ha) q
  have hO : ∀ a ∈ fps ts, S2 a = none := fun a ha => by
    cases z : S2 a with
    | none => rfl
    | some o =>
      rcases st.subF a o z with q | q | q
      · rw [R.off a (List.mem_append_right _ ha)] at q; cases q
      · exact absurd q (R.trk (List.mem_append_right _ ha))
      · exact absurd q (hA a ha)
  refine ⟨⟨R2.sub, ?_, ?_, R2.slots, ?_⟩, ?_⟩
  · rw [fps_append]
    refine nodup_app.mpr ⟨m1, nodup_app.mpr ⟨n2, m2, fun a ha z => hN a ha (List.mem_append_right _ z)⟩, fun a ha z => ?_⟩
    rcases List.mem_append.mp z with z | z
    · exact hN a z (List.mem_append_left _ ha)
    · exact m3 a ha z
  · intro a ha
    rw [fps_append] at ha
    rcases List.mem_append.mp ha with z | z
    · exact R2.off a (List.mem_append_left _ z)
    · rcases List.mem_append.mp z with z | z
      · exact hO a z
      · exact R2.off a (List.mem_append_right _ z)
  · intro t ht
    rcases List.mem_append.mp ht with z | z
    · exact (R.tmps t z).keep st.sub fun b hb o q => st.frame b o q (hA b (mem_fps.mpr ⟨t, z, hb⟩))
    · exact R2.tmps t z
  · refine ⟨fun b o q n => st.frame b o q fun z => n (List.mem_append_left _ z), st.grow, st.sub, fun b o q => (st.subF b o q).imp id (.imp id fun z => List.mem_append_left _ z), fun a ha => ?_⟩
    rw [fps_append] at ha
    rcases List.mem_append.mp ha with z | z
    · exact (st.own a (List.mem_append_left _ z)).imp (fun w => List.mem_append_left _ w) id
    · rcases List.mem_append.mp z with z | z
      · exact .inl (List.mem_append_right _ z)
      · exact (st.own a (List.mem_append_right _ z)).imp (fun w => List.mem_append_left _ w) id
end

/-! ### the judgement of an expression -/
section
variable (G : Gx) (W : WX)
def PostE (S H : Hp) (σ : L2.St) (A : List Addr) (Q : VK) : Res RV → Prop
  | .ok r e' => ∀ v H' S' A' f, Cu G S' H' σ e' A' [⟨r, v, f⟩] → Step S A H S' (A' ++ f) H' → Q v H'
  | .exc c e' => ∀ H' S' A' C, G.cl c = some C → Cu G S' H' σ e' A' [] → Step S A H S' A' H' → W (.ref C) none σ H'
  | .no => False
def tR (f : Ev → Res RV) : TE := fun σ H Q => ∃ S e A, Cu G S H σ e A [] ∧ PostE G W S H σ A Q (f e)
def tArgs : List (Ev → Res RV) → TA
  | [] => tNil
  | f :: fs => tCons (tR G W f) (tArgs fs)
end
def fArgs : List (Ev → Res RV) → Ev → Res (List RV)
  | [], e => .ok [] e
  | f :: fs, e => (f e).bind fun r e1 => (fArgs fs e1).bind fun rs e2 => .ok (r :: rs) e2

section
variable {G : Gx} {W : WX} {S S0 H H0 : Hp} {σ : L2.St} {e : Ev} {A A0 : List Addr} {ts : List Tmp}
/-- what is asked of a further expression, over temporaries -/
def PostT (G : Gx) (W : WX) (S0 : Hp) (A0 : List Addr) (H0 : Hp) (σ : L2.St) (ts : List Tmp) (Q : VK) : Res RV → Prop
  | .ok r e' => ∀ v H' S' A' f, Cu G S' H' σ e' A' (ts ++ [⟨r, v, f⟩]) → Step S0 A0 H0 S' (A' ++ fps (ts ++ [⟨r, v, f⟩])) H' → Q v H'
  | .exc c e' => ∀ H' S' A' C, G.cl c = some C → Cu G S' H' σ e' A' [] → Step S0 A0 H0 S' A' H' → W (.ref C) none σ H'
  | .no => False
theorem tR_next {f : Ev → Res RV} {Q : VK} (R : Cu G S H σ e A ts) (st : Step S0 A0 H0 S (A ++ fps ts) H) (h : PostT G W S0 A0 H0 σ ts Q (f e)) : tR G W f σ H Q := by
  refine ⟨S, e, A, R.base, ?_⟩
  cases q : f e with
  | no => rw [q] at h; exact h
  | ok r e' =>
    rw [q] at h
    intro v H' S' A' g R' st'
    obtain ⟨R2, st2⟩ := R.under R' (by rw [fps_one]; exact st')
    exact h v H' S' A' g R2 (st.trans st2)
  | exc c e' =>
    rw [q] at h
    intro H' S' A' C hC R' st'
    obtain ⟨R2, st2⟩ := R.under R' (by show Step S A H S' (A' ++ []) H'; rw [List.append_nil]; exact st')
    exact h H' S' A' C hC R' ((st.trans st2).less fun x hx => List.mem_append_left _ hx)
/-- .. of a list of arguments -/
def PostTA (G : Gx) (W : WX) (S0 : Hp) (A0 : List Addr) (H0 : Hp) (σ : L2.St) (ts : List Tmp) (Q : List V → Hp → Prop) : Res (List RV) → Prop
  | .ok rs e' => ∀ us H' S' A', us.map (·.r) = rs → Cu G S' H' σ e' A' (ts ++ us) → Step S0 A0 H0 S' (A' ++ fps (ts ++ us)) H' → Q (us.map (·.v)) H'
  | .exc c e' => ∀ H' S' A' C, G.cl c = some C → Cu G S' H' σ e' A' [] → Step S0 A0 H0 S' A' H' → W (.ref C) none σ H'
  | .no => False
theorem tArgs_next : ∀ {fs : List (Ev → Res RV)} {S H : Hp} {e : Ev} {A : List Addr} {ts : List Tmp} {Q : List V → Hp → Prop}, Cu G S H σ e A ts → Step S0 A0 H0 S (A ++ fps ts) H → PostTA G W S0 A0 H0 σ ts Q (fArgs fs e) → tArgs G W fs σ H Q
  | [], S, H, e, A, ts, Q, R, st, h => h [] H S A rfl (by rw [List.append_nil]; exact R) (by rw [List.append_nil]; exact st)
  | f :: fs, S, H, e, A, ts, Q, R, st, h => by
    refine tR_next R st ?_
    have h' : PostTA G W S0 A0 H0 σ ts Q ((f e).bind fun r e1 => (fArgs fs e1).bind fun rs e2 => .ok (r :: rs) e2) := h
    cases q : f e with
    | no => rw [q] at h'; exact h'
    | exc c e' => rw [q] at h'; exact h'
    | ok r e1 =>
      rw [q] at h'
      intro v H1 S1 A1 g R1 st1
      refine tArgs_next R1 st1 ?_
      have h2 : PostTA G W S0 A0 H0 σ ts Q ((fArgs fs e1).bind fun rs e2 => .ok (r :: rs) e2) := h'
      cases q2 : fArgs fs e1 with
      | no => rw [q2] at h2; exact h2
      | exc c e' => rw [q2] at h2; exact h2
      | ok rs e2 =>
        rw [q2] at h2
        intro us H2 S2 A2 eu R2 st2
        refine h2 (⟨r, v, g⟩ :: us) H2 S2 A2 (by rw [List.map_cons, eu]) ?_ ?_
        · rw [List.append_assoc] at R2; exact R2
        · rw [List.append_assoc] at st2; exact st2
end

/-! ### primitive operations: they read data and give new data -/
structure Made (S H S' H' : Hp) (f : List Addr) : Prop where
  ss : Same S S'
  hh : Same H H'
  sh : Same S' H'
  fresh : ∀ b o, S' b = some o → S b = some o ∨ H b = none
  nod : f.Nodup
  new : ∀ a ∈ f, S' a = none ∧ H a = none
abbrev Op := List PyData → Option (PyData × Nat)
/-- the reading R, upon values that stand for data, gives what op says -/
def Prim (K : PySem.W.Frag) (R : List V → Hp → VK → Prop) (op : Op) : Prop :=
  ∀ vs ds S H Q r m, RpL K S vs ds → Same S H → op ds = some (r, m) → (∀ v H' S' f, Made S H S' H' f → Own K S' H' m v r f → Q v H') → R vs H Q

def deref (e : Ev) : RV → Option PyData
  | .val d _ => some d
  | .bor i => match e[i]? with
    | some (some (.dt d _)) => some d
    | _ => none
  | .ex _ => none
def derefs (e : Ev) : List RV → Option (List PyData)
  | [] => some []
  | r :: rs => match deref e r with
    | some d => match derefs e rs with
      | some ds => some (d :: ds)
      | none => none
    | none => none
def isBor : RV → Bool
  | .bor _ => true
  | _ => false
def use (op : Op) (rs : List RV) (e : Ev) : Res RV :=
  match derefs e rs with
  | none => .no
  | some ds => match op ds with
    | none => .no
    | some (r, m) => if rs.any isBor && !flatAt m r then .no else .ok (.val r m) e

section
variable {G : Gx} {W : WX} {S S0 H H0 : Hp} {σ : L2.St} {e : Ev} {A A0 : List Addr}
theorem derefs_ok {l : List Addr} : ∀ {ts : List Tmp} {ds : List PyData}, Same S H → Slots G S H σ e A → (∀ t ∈ ts, RvOk G S H σ t.r t.v t.f) → (∀ a ∈ fps ts, a ∈ l) → (ts.any (fun t => isBor t.r) = true → ∀ a ∈ A, a ∈ l) →
    derefs e (ts.map (·.r)) = some ds → RpL G.K (addH S H l) (ts.map (·.v)) ds
  | [], ds, _, _, _, _, _, h => by
    cases h
    exact .nil
  | t :: ts, ds, hs, sl, k, hf, hb, h => by
    rw [List.map_cons, derefs] at h
    cases q : deref e t.r with
    | none => rw [q] at h; cases h
    | some d =>
      rw [q] at h
      cases q2 : derefs e (ts.map (·.r)) with
      | none => rw [q2] at h; cases h
      | some ds' =>
        rw [q2] at h
        cases h
        refine .cons ?_ (derefs_ok hs sl (fun u hu => k u (List.mem_cons_of_mem _ hu)) (fun a ha => hf a ?_) (fun z => hb (by simp [z])) q2)
        · have ht := k t List.mem_cons_self
          have hft : ∀ a ∈ t.f, a ∈ l := fun a ha => hf a (mem_fps.mpr ⟨t, List.mem_cons_self, ha⟩)
          cases er : t.r with
          | val d' n =>
            rw [er] at q ht
            cases q
            exact Own.freeze hs ht hft
          | ex c => rw [er] at q; cases q
          | bor i =>
            rw [er] at q ht
            obtain ⟨_, hv⟩ := ht
            have hb' := hb (by simp [er, isBor])
            have key : ∀ o : Option (Option Vl), e[i]? = o → (match o with | some (some (.dt d _)) => some d | _ => none) = some d → Rp G.K (addH S H l) t.v d := by
              intro o ho hq
              match o, ho, hq with
              | some (some (.dt d' n)), ho, hq =>
                cases hq
                obtain ⟨v, f, B, C, e1, e2, o, _⟩ := sl.at i ho
                rw [hv] at e1
                cases e1
                exact o.freeze hs fun a ha => hb' a (by rw [e2]; simp [ha])
            exact key _ rfl q
        · obtain ⟨u, hu, hau⟩ := mem_fps.mp ha
          exact mem_fps.mpr ⟨u, List.mem_cons_of_mem _ hu, hau⟩

/-- THE RULE for a primitive operation -/
theorem use_ok {ts : List Tmp} {R : List V → Hp → VK → Prop} {op : Op} {Q : VK} (hp : Prim G.K R op) (C : Cu G S H σ e A ts) (st : Step S0 A0 H0 S (A ++ fps ts) H) (h : PostE G W S0 H0 σ A0 Q (use op (ts.map (·.r)) e)) :
    R (ts.map (·.v)) H Q := by
  unfold use at h
  cases q : derefs e (ts.map (·.r)) with
  | none => rw [q] at h; exact h.elim
  | some ds =>
    rw [q] at h
    cases q2 : op ds with
    | none => simp only [q2] at h; exact h.elim
    | some rm =>
      obtain ⟨r, m⟩ := rm
      simp only [q2] at h
      obtain ⟨n1, n2, n3⟩ := nodup_app.mp C.nod
      by_cases hb : (ts.map (·.r)).any isBor = true
      · -- something borrowed: the result is flat
        have hbt : ts.any (fun t => isBor t.r) = true := by
          rw [List.any_map] at hb; exact hb
        by_cases hfl : flatAt m r = true
        · have hc : ((ts.map (·.r)).any isBor && !flatAt m r) = false := by rw [hb, hfl]; rfl
          rw [hc] at h
          have rp : RpL G.K (addH S H (A ++ fps ts)) (ts.map (·.v)) ds := derefs_ok C.sub C.slots C.tmps (fun a ha => List.mem_append_right _ ha) (fun _ a ha => List.mem_append_left _ ha) q
          refine hp _ _ _ _ _ _ _ rp (addH_same C.sub _) q2 fun v H' S' f M o => ?_
          have hA' : ∀ a ∈ A, ∀ u, H a = some u → H' a = some u := fun a _ u z => M.hh a u z
          have offA : ∀ a ∈ A, cutH S' A a = none := fun a ha => cutH_in ha
          have SS : Same S (cutH S' A) := fun b u z => by
            have hb : b ∉ A := fun w => by rw [C.off b (List.mem_append_left _ w)] at z; cases z
            rw [cutH_out hb]
            exact M.ss b u (same_addH C.sub _ b u z)
          have hbox : ∀ x ∈ A, S' x = none ∨ Box S' x := fun x hx => by
            have hx2 : x ∈ A ++ fps ts := List.mem_append_left _ hx
            rcases C.slots.box x hx with ⟨vs, z⟩ | ⟨vs, z⟩
            · exact .inr (.inl ⟨vs, M.ss x _ (by rw [addH_in hx2]; exact z)⟩)
            · exact .inr (.inr ⟨vs, M.ss x _ (by rw [addH_in hx2]; exact z)⟩)
          have fA : ∀ a ∈ A, a ∉ f := fun a ha z => C.trk (List.mem_append_left _ ha) (M.new a z).2
          refine h v H' (cutH S' A) A f ⟨(cutH_same A).trans M.sh, ?_, ?_, C.slots.keep SS hA', ?_⟩ (st.trans ⟨fun b u z _ => M.hh b u z, fun b z w => ?_, SS, fun b u z => ?_, fun a ha => ?_⟩)
          · rw [fps_one]
            exact nodup_app.mpr ⟨n1, M.nod, fA⟩
          · intro a ha
            rw [fps_one] at ha
            rcases List.mem_append.mp ha with z | z
            · exact offA a z
            · unfold cutH
              split
              · rfl
              · exact (M.new a z).1
          · intro t ht
            rw [List.mem_singleton] at ht
            subst ht
            exact Own.del hbox hfl o
          · cases y : H b with
            | none => exact z y
            | some u => rw [M.hh b u y] at w; cases w
          · have z' := cutH_same A b u z
            rcases M.fresh b u z' with y | y
            · unfold addH at y
              split at y
              · rename_i hm; exact .inr (.inr hm)
              · exact .inl y
            · exact .inr (.inl y)
          · rcases List.mem_append.mp ha with z | z
            · exact .inl (List.mem_append_left _ z)
            · exact .inr (M.new a z).2
        · have hc : ((ts.map (·.r)).any isBor && !flatAt m r) = true := by rw [hb, Bool.eq_false_iff.mpr hfl]; rfl
          rw [hc] at h
          exact h.elim
      · have hb0 : (ts.map (·.r)).any isBor = false := Bool.eq_false_iff.mpr hb
        have hbt : ¬ ts.any (fun t => isBor t.r) = true := by
          rw [List.any_map] at hb; exact hb
        have hc : ((ts.map (·.r)).any isBor && !flatAt m r) = false := by rw [hb0]; rfl
        rw [hc] at h
        have rp : RpL G.K (addH S H (fps ts)) (ts.map (·.v)) ds := derefs_ok C.sub C.slots C.tmps (fun a ha => ha) (fun z => absurd z hbt) q
        refine hp _ _ _ _ _ _ _ rp (addH_same C.sub _) q2 fun v H' S' f M o => ?_
        have offA : ∀ a ∈ A, S' a = none := fun a ha => by
          cases z : S' a with
          | none => rfl
          | some u =>
            rcases M.fresh a u z with y | y
            · rw [addH_out (fun w => n3 a ha w), C.off a (List.mem_append_left _ ha)] at y
              cases y
            · exact absurd y (C.trk (List.mem_append_left _ ha))
        have SS : Same S S' := (same_addH C.sub _).trans M.ss
        have fA : ∀ a ∈ A, a ∉ f := fun a ha z => C.trk (List.mem_append_left _ ha) (M.new a z).2
        refine h v H' S' A f ⟨M.sh, ?_, ?_, C.slots.keep SS fun a _ u z => M.hh a u z, ?_⟩ (st.trans ⟨fun b u z _ => M.hh b u z, fun b z w => ?_, SS, fun b u z => ?_, fun a ha => ?_⟩)
        · rw [fps_one]
          exact nodup_app.mpr ⟨n1, M.nod, fA⟩
        · intro a ha
          rw [fps_one] at ha
          rcases List.mem_append.mp ha with z | z
          · exact offA a z
          · exact (M.new a z).1
        · intro t ht
          rw [List.mem_singleton] at ht
          subst ht
          exact o
        · cases y : H b with
          | none => exact z y
          | some u => rw [M.hh b u y] at w; cases w
        · rcases M.fresh b u z with y | y
          · unfold addH at y
            split at y
            · rename_i hm; exact .inr (.inr (List.mem_append_right _ hm))
            · exact .inl y
          · exact .inr (.inl y)
        · rcases List.mem_append.mp ha with z | z
          · exact .inl (List.mem_append_left _ z)
          · exact .inr (M.new a z).2
end
end PV

/-! PVC: rules for expressions (EE), tests (ET). -/
namespace PV
open PySem PySem.Spec PyProof.Rows L2

def clOf (mg : Str → Option Value) (c : Str) : Option Addr := match mg c with
  | some (.ref C) => some C
  | _ => none
abbrev gx (X : Cx) : Gx := ⟨X.K, clOf X.mg⟩

theorem PE.imp {X : Cx} {e : Expr} {t t' : TE} (h : PE X e t) (k : ∀ σ H Q, t' σ H Q → t σ H Q) : PE X e t' := ⟨fun pins s σ H Q I q => h.run pins s σ H Q I (k σ H Q q)⟩
theorem PT.imp {X : Cx} {e : Expr} {t t' : TT} (h : PT X e t) (k : ∀ σ H Q, t' σ H Q → t σ H Q) : PT X e t' := ⟨fun pins s σ H Q I q => h.run pins s σ H Q I (k σ H Q q)⟩
theorem PW.imp {X : Cx} {e : Expr} {t t' : TT} (h : PW X e t) (k : ∀ σ H Q, t' σ H Q → t σ H Q) : PW X e t' := ⟨fun wh pins s σ H Q I q => h.run wh pins s σ H Q I (k σ H Q q)⟩

abbrev EE (X : Cx) (W : WX) (e : Expr) (f : Ev → Res RV) : Prop := PE X e (tR (gx X) W f)

/-! ### tests -/
section
variable (G : Gx) (W : WX)
def PostB (S H : Hp) (σ : L2.St) (A : List Addr) (Q : Bool → Hp → Prop) : Res RV → Prop
  | .ok (.val (.bool b) _) e' => ∀ H' S' A', Cu G S' H' σ e' A' [] → Step S A H S' A' H' → Q b H'
  | .exc c e' => ∀ H' S' A' C, G.cl c = some C → Cu G S' H' σ e' A' [] → Step S A H S' A' H' → W (.ref C) none σ H'
  | _ => False
def tT (f : Ev → Res RV) : TT := fun σ H Q => ∃ S e A, Cu G S H σ e A [] ∧ PostB G W S H σ A Q (f e)
end
abbrev ET (X : Cx) (W : WX) (e : Expr) (f : Ev → Res RV) : Prop := PT X e (tT (gx X) W f)
abbrev EW (X : Cx) (W : WX) (e : Expr) (f : Ev → Res RV) : Prop := PW X e (tT (gx X) W f)

section
variable {G : Gx} {W : WX} {S S' H H' S0 H0 : Hp} {σ : L2.St} {e : Ev} {A A' A0 : List Addr} {ts : List Tmp}
theorem own_bool {K : PySem.W.Frag} {n : Nat} {v : V} {b : Bool} {f : List Addr} (h : Own K S H n v (.bool b) f) : v = .bl b ∧ f = [] := by
  cases n with
  | zero => obtain ⟨e, h⟩ := h; cases h; exact ⟨rfl, e⟩
  | succ n =>
    rcases h with ⟨_, _, _, _, _, q, _⟩ | ⟨_, _, _, _, _, q, _⟩ | ⟨_, _, _, _, q, _⟩ | ⟨_, e, h⟩
    · cases q
    · cases q
    · cases q
    · cases h; exact ⟨rfl, e⟩
theorem Cu.drop {r : RV} {v : V} (R : Cu G S H σ e A [⟨r, v, []⟩]) : Cu G S H σ e A [] := R.base
theorem nil_fps {r : RV} {v : V} : fps [⟨r, v, []⟩] = [] := rfl

theorem PostB.of {Q : Bool → Hp → Prop} {r : Res RV} (h : PostB G W S H σ A Q r) : PostE G W S H σ A (fun x H1 => ∃ c, x = .bl c ∧ Q c H1) r := by
  cases r with
  | no => exact h
  | exc c e' => exact h
  | ok r e' =>
    cases r with
    | bor i => exact h.elim
    | ex c => exact h.elim
    | val d n =>
      cases d with
      | bool b =>
        intro v H' S' A' f R st
        obtain ⟨ev, ef⟩ := own_bool (R.tmps _ (List.mem_singleton.mpr rfl))
        subst ev ef
        rw [List.append_nil] at st
        exact ⟨b, rfl, h H' S' A' R.drop st⟩
      | _ => exact h.elim
theorem tT_tB {f : Ev → Res RV} {Q : Bool → Hp → Prop} (h : tT G W f σ H Q) : tB (tR G W f) σ H Q := by
  obtain ⟨S, e, A, R, h⟩ := h
  exact ⟨S, e, A, R, h.of⟩
end

/-- a test by its value -/
theorem et_val {X : Cx} {W : WX} {e : Expr} {f : Ev → Res RV} (h : EE X W e f) (he : ∀ whole, isTrue e X.env whole = (do let v ← whole; standAt e.pos; holding [v] (truthy v)) := by intro _; rfl) : ET X W e f :=
  PT.imp (pt_val h he) fun _ _ _ q => tT_tB q

/-! ### names, constants -/
def fVar (i : Nat) (e : Ev) : Res RV := match e[i]? with
  | some (some (.dt d 0)) => .ok (.val d 0) e
  | some (some (.dt _ (_ + 1))) => .ok (.bor i) e
  | some (some (.ex c)) => .ok (.ex c) e
  | some (some (.fz _)) => .ok (.bor i) e
  | _ => .no
def fC (d : PyData) (e : Ev) : Res RV := .ok (.val d 0) e

section
variable {G : Gx} {W : WX} {S S' H H' S0 H0 : Hp} {σ : L2.St} {e : Ev} {A A' A0 : List Addr} {ts : List Tmp}
theorem Slots.exAt {i : Nat} {c : Str} : ∀ {σ : L2.St} {e : Ev} {A : List Addr} {i : Nat}, Slots G S H σ e A → e[i]? = some (some (.ex c)) → ∃ a C, σ[i]? = some (some (.ref a)) ∧ S a = some (ExQ (.ref C) a) ∧ G.cl c = some C
  | _, _, _, _, .nil, q => by simp at q
  | _, _, _, 0, .none h, q => by simp at q
  | _, _, _, i + 1, .none h, q => by
    obtain ⟨a, C, h1, h2, h3⟩ := Slots.exAt (i := i) h (by simpa using q)
    exact ⟨a, C, by simpa using h1, h2, h3⟩
  | _, _, _, 0, .dt _ h, q => by simp at q
  | _, _, _, i + 1, .dt _ h, q => by
    obtain ⟨a, C, h1, h2, h3⟩ := Slots.exAt (i := i) h (by simpa using q)
    exact ⟨a, C, by simpa using h1, h2, h3⟩
  | _, _, _, 0, .ex h1 h2 h, q => by
    simp at q
    subst q
    exact ⟨_, _, rfl, h1, h2⟩
  | _, _, _, i + 1, .ex _ _ h, q => by
    obtain ⟨a, C, h1, h2, h3⟩ := Slots.exAt (i := i) h (by simpa using q)
    exact ⟨a, C, by simpa using h1, h2, h3⟩
  | _, _, _, 0, .fz _ _ h, q => by simp at q
  | _, _, _, i + 1, .fz _ _ h, q => by
    obtain ⟨a, C, h1, h2, h3⟩ := Slots.exAt (i := i) h (by simpa using q)
    exact ⟨a, C, by simpa using h1, h2, h3⟩
theorem Slots.fzAt : ∀ {σ : L2.St} {e : Ev} {A : List Addr} {i : Nat} {ds : List PyData}, Slots G S H σ e A → e[i]? = some (some (.fz ds)) → ∃ a vs, σ[i]? = some (some (.ref a)) ∧ SqL G.K S a vs ∧ RpL G.K S vs ds
  | _, _, _, _, _, .nil, q => by simp at q
  | _, _, _, 0, _, .none h, q => by simp at q
  | _, _, _, i + 1, _, .none h, q => by
    obtain ⟨a, C, h1, h2, h3⟩ := Slots.fzAt (i := i) h (by simpa using q)
    exact ⟨a, C, by simpa using h1, h2, h3⟩
  | _, _, _, 0, _, .dt _ h, q => by simp at q
  | _, _, _, i + 1, _, .dt _ h, q => by
    obtain ⟨a, C, h1, h2, h3⟩ := Slots.fzAt (i := i) h (by simpa using q)
    exact ⟨a, C, by simpa using h1, h2, h3⟩
  | _, _, _, 0, _, .fz h1 h2 h, q => by
    simp at q
    subst q
    exact ⟨_, _, rfl, h1, h2⟩
  | _, _, _, i + 1, _, .fz _ _ h, q => by
    obtain ⟨a, C, h1, h2, h3⟩ := Slots.fzAt (i := i) h (by simpa using q)
    exact ⟨a, C, by simpa using h1, h2, h3⟩
  | _, _, _, 0, _, .ex _ _ h, q => by simp at q
  | _, _, _, i + 1, _, .ex _ _ h, q => by
    obtain ⟨a, C, h1, h2, h3⟩ := Slots.fzAt (i := i) h (by simpa using q)
    exact ⟨a, C, by simpa using h1, h2, h3⟩
theorem Cu.one {r : RV} {v : V} {f : List Addr} (R : Cu G S H σ e A []) (h : RvOk G S H σ r v f) (hf : f = []) : Cu G S H σ e A [⟨r, v, f⟩] := by
  subst hf
  refine ⟨R.sub, R.nod, R.off, R.slots, fun t ht => ?_⟩
  rw [List.mem_singleton] at ht
  subst ht
  exact h
theorem Step.refl0 : Step S A H S (A ++ []) H := by rw [List.append_nil]; exact .refl
end
section
variable {X : Cx} {W : WX} {pos : Pos}
theorem ee_var {i : Nat} {x : Str} (h : PE X (.Name x pos) (tVar i)) : EE X W (.Name x pos) (fVar i) := by
  refine PE.imp h fun σ H Q q => ?_
  obtain ⟨S, e, A, R, q⟩ := q
  unfold fVar at q
  match hi : e[i]?, q with
  | some (some (.dt d 0)), q =>
    obtain ⟨v, f, B, C, e1, e2, o, _⟩ := R.slots.at i hi
    obtain ⟨ef, rp⟩ := o
    exact ⟨v, e1, q v H S A [] (R.one ⟨rfl, rp⟩ rfl) .refl0⟩
  | some (some (.dt d (n + 1))), q =>
    obtain ⟨v, f, B, C, e1, e2, o, _⟩ := R.slots.at i hi
    exact ⟨v, e1, q v H S A [] (R.one ⟨rfl, e1⟩ rfl) .refl0⟩
  | some (some (.ex c)), q =>
    obtain ⟨a, C, e1, h1, h2⟩ := R.slots.exAt (i := i) hi
    exact ⟨.ref a, e1, q _ H S A [] (R.one ⟨rfl, a, C, rfl, h1, h2⟩ rfl) .refl0⟩
  | some (some (.fz ds)), q =>
    obtain ⟨a, vs, e1, _, _⟩ := R.slots.fzAt hi
    exact ⟨_, e1, q _ H S A [] (R.one ⟨rfl, e1⟩ rfl) .refl0⟩
  | some none, q => exact q.elim
  | none, q => exact q.elim
/-- a value that is known beforehand -/
theorem ee_const {e : Expr} {v : V} {d : PyData} (h : PE X e (tC v)) (r : ∀ S, Rp X.K S v d) : EE X W e (fC d) := by
  refine PE.imp h fun σ H Q q => ?_
  obtain ⟨S, e, A, R, q⟩ := q
  exact q v H S A [] (R.one ⟨rfl, r S⟩ rfl) .refl0
theorem ee_int {i : Int} {j} : EE X W (.Constant (.int i) j pos) (fC (.int i)) := ee_const pe_int fun _ => .int i
theorem ee_bl {b : Bool} {j} : EE X W (.Constant (.bool b) j pos) (fC (.bool b)) := ee_const pe_bl fun _ => .bl b
theorem ee_non {j} : EE X W (.Constant .none j pos) (fC .none) := ee_const pe_non fun _ => .non
theorem ee_str {x : Str} {j} : EE X W (.Constant (.str x) j pos) (fC (.str x)) := ee_const pe_str fun _ => .str x
/-- a module's constant -/
theorem ee_glob {x : Str} {v : V} {u : Value} {d : PyData} (hg : Gl X x) (hm : X.mg x = some u) (r : RelV v u) (rp : ∀ S, Rp X.K S v d) (hd : (x == ("__debug__" : Str)) = false := by decide) : EE X W (.Name x pos) (fC d) := ee_const (pe_glob hg hm r hd) rp
end

/-! ### one, two operands; calls of built-ins -/
def f1 (op : Op) (fa : Ev → Res RV) (e : Ev) : Res RV := (fa e).bind fun r e1 => use op [r] e1
def f2 (op : Op) (fa fb : Ev → Res RV) (e : Ev) : Res RV := (fa e).bind fun r e1 => (fb e1).bind fun s e2 => use op [r, s] e2
def fN (op : Op) (fs : List (Ev → Res RV)) (e : Ev) : Res RV := (fArgs fs e).bind fun rs e1 => use op rs e1

section
variable {G : Gx} {W : WX} {S S' H H' S0 H0 : Hp} {σ : L2.St} {e : Ev} {A A' A0 : List Addr} {ts : List Tmp}
theorem one_ok {R : V → Hp → VK → Prop} {op : Op} {fa : Ev → Res RV} {Q : VK} (hp : Prim G.K (fun vs H Q => ∀ x, vs = [x] → R x H Q) op) (h : tR G W (f1 op fa) σ H Q) : tR G W fa σ H fun x H1 => R x H1 Q := by
  obtain ⟨S, e, A, C, h⟩ := h
  refine tR_next C (S0 := S) (A0 := A) (H0 := H) (by show Step S A H S (A ++ []) H; exact .refl0) ?_
  have h' : PostE G W S H σ A Q ((fa e).bind fun r e1 => use op [r] e1) := h
  cases q : fa e with
  | no => rw [q] at h'; exact h'
  | exc c e1 => rw [q] at h'; exact h'
  | ok r e1 =>
    rw [q] at h'
    intro v H1 S1 A1 g R1 st1
    exact use_ok (ts := [⟨r, v, g⟩]) hp R1 st1 h' v rfl
theorem two_ok {R : R2} {op : Op} {fa fb : Ev → Res RV} {Q : VK} (hp : Prim G.K (fun vs H Q => ∀ x y, vs = [x, y] → R x y H Q) op) (h : tR G W (f2 op fa fb) σ H Q) : tOp R (tR G W fa) (tR G W fb) σ H Q := by
  obtain ⟨S, e, A, C, h⟩ := h
  refine tR_next C (S0 := S) (A0 := A) (H0 := H) (by show Step S A H S (A ++ []) H; exact .refl0) ?_
  have h' : PostE G W S H σ A Q ((fa e).bind fun r e1 => (fb e1).bind fun s e2 => use op [r, s] e2) := h
  cases q : fa e with
  | no => rw [q] at h'; exact h'
  | exc c e1 => rw [q] at h'; exact h'
  | ok r e1 =>
    rw [q] at h'
    intro v H1 S1 A1 g R1 st1
    refine tR_next R1 st1 ?_
    have h2 : PostE G W S H σ A Q ((fb e1).bind fun s e2 => use op [r, s] e2) := h'
    cases q2 : fb e1 with
    | no => rw [q2] at h2; exact h2
    | exc c e1 => rw [q2] at h2; exact h2
    | ok s e2 =>
      rw [q2] at h2
      intro w H2 S2 A2 g2 R2 st2
      exact use_ok (ts := [⟨r, v, g⟩, ⟨s, w, g2⟩]) hp R2 st2 h2 v w rfl
theorem many_ok {R : List V → Hp → VK → Prop} {op : Op} {fs : List (Ev → Res RV)} {Q : VK} (hp : Prim G.K R op) (h : tR G W (fN op fs) σ H Q) : tArgs G W fs σ H fun vs H1 => R vs H1 Q := by
  obtain ⟨S, e, A, C, h⟩ := h
  refine tArgs_next C (S0 := S) (A0 := A) (H0 := H) (by show Step S A H S (A ++ []) H; exact .refl0) ?_
  have h' : PostE G W S H σ A Q ((fArgs fs e).bind fun rs e1 => use op rs e1) := h
  cases q : fArgs fs e with
  | no => rw [q] at h'; exact h'
  | exc c e1 => rw [q] at h'; exact h'
  | ok rs e1 =>
    rw [q] at h'
    intro us H1 S1 A1 eu R1 st1
    subst eu
    exact use_ok (ts := us) hp R1 st1 h'
end

/-- a list of arguments -/
abbrev EA (X : Cx) (W : WX) (es : List Expr) (fs : List (Ev → Res RV)) : Prop := PA X es (tArgs (gx X) W fs)
section
variable {X : Cx} {W : WX} {pos : Pos} {a b : Expr} {fa fb : Ev → Res RV} {es : List Expr} {fs : List (Ev → Res RV)}
theorem ea_nil : EA X W [] [] := pa_nil
theorem ea_cons {e : Expr} {f : Ev → Res RV} (ha : EE X W e f) (hr : EA X W es fs) (hs : starEach (e :: es) X.env = (false, eval e X.env) :: starEach es X.env := by rfl) : EA X W (e :: es) (f :: fs) := pa_cons ha hr hs
theorem ee_op {op : Operator} {R : R2} {o : Op} (ho : OpR X (binaryOp op) R) (hp : Prim X.K (fun vs H Q => ∀ x y, vs = [x, y] → R x y H Q) o) (ha : EE X W a fa) (hb : EE X W b fb) : EE X W (.BinOp a op b pos) (f2 o fa fb) :=
  PE.imp (pe_op ho ha hb) fun _ _ _ q => two_ok hp q
theorem ee_un {op : UnaryOp} {R : V → Hp → VK → Prop} {o : Op} (ho : UnR X (unaryOp op) R) (hp : Prim X.K (fun vs H Q => ∀ x, vs = [x] → R x H Q) o) (ha : EE X W a fa) : EE X W (.UnaryOp op a pos) (f1 o fa) :=
  PE.imp (pe_un ho ha) fun _ _ _ q => one_ok hp q
theorem ee_cmp {op : CmpOp} {R : R2} {o : Op} (ho : OpR X (compareOp op) R) (hp : Prim X.K (fun vs H Q => ∀ x y, vs = [x, y] → R x y H Q) o) (ha : EE X W a fa) (hb : EE X W b fb) (hm : behindInMarks op b = false) : EE X W (.Compare a [op] [b] pos) (f2 o fa fb) :=
  PE.imp (pe_cmpR ho ha hb hm) fun _ _ _ q => two_ok hp q
theorem et_cmp {op : CmpOp} {R : R2} {o : Op} (ho : OpR X (compareOp op) R) (hp : Prim X.K (fun vs H Q => ∀ x y, vs = [x, y] → R x y H Q) o) (ha : EE X W a fa) (hb : EE X W b fb) (hm : behindInMarks op b = false) : ET X W (.Compare a [op] [b] pos) (f2 o fa fb) :=
  PT.imp (pt_cmpR ho ha hb hm) fun σ H Q q => by
    have q' := tT_tB q
    exact two_ok (G := gx X) (Q := fun x H' => ∃ k, x = .bl k ∧ Q k H') hp q'
theorem ee_ix {R : R2} {o : Op} (hr : IxR X R) (hp : Prim X.K (fun vs H Q => ∀ x y, vs = [x, y] → R x y H Q) o) (ha : EE X W a fa) (hb : EE X W b fb) (hs : PlainIx b) : EE X W (.Subscript a b pos) (f2 o fa fb) :=
  PE.imp (pe_ix hr ha hb hs) fun _ _ _ q => two_ok hp q
theorem ee_callB {x : Str} {p : Pos} {id : String} {R : List V → Hp → VK → Prop} {o : Op} {e : Expr} (hc : CallR X (.builtin id) R) (hp : Prim X.K R o) (hg : Gl X x) (hm : X.mg x = none) (hv : bootBuiltins x = some (.builtin id)) (ha : EA X W (e :: es) fs)
    (hn : x ≠ "__name__" := by decide) (hdb : (x == ("__debug__" : Str)) = false := by decide) (he : starEach (e :: es) X.env = (false, eval e X.env) :: starEach es X.env := by rfl) (hpl : (backTo pos (starEach es X.env)).any (·.1) = false := by rfl) :
    EE X W (.Call (.Name x p) (e :: es) [] pos) (fN o fs) :=
  PE.imp (pe_callB hc hg hm hv ha hn hdb he hpl) fun _ _ _ q => many_ok hp q
theorem ee_callTy {x : Str} {p : Pos} {T : String} {R : List V → Hp → VK → Prop} {o : Op} {e : Expr} (hc : CallR X (.type T) R) (hp : Prim X.K R o) (hg : Gl X x) (hm : X.mg x = none) (hv : bootBuiltins x = some (.type T)) (ha : EA X W (e :: es) fs)
    (hn : x ≠ "__name__" := by decide) (hdb : (x == ("__debug__" : Str)) = false := by decide) (he : starEach (e :: es) X.env = (false, eval e X.env) :: starEach es X.env := by rfl) (hpl : (backTo pos (starEach es X.env)).any (·.1) = false := by rfl) :
    EE X W (.Call (.Name x p) (e :: es) [] pos) (fN o fs) :=
  PE.imp (pe_callTy hc hg hm hv ha hn hdb he hpl) fun _ _ _ q => many_ok hp q
end

/-! ### and, or, not, if else -/
def onBool (r : RV) (t f : Res RV) : Res RV := match r with
  | .val (.bool true) _ => t
  | .val (.bool false) _ => f
  | _ => .no
def fIte (fc fa fb : Ev → Res RV) (e : Ev) : Res RV := (fc e).bind fun r e1 => onBool r (fa e1) (fb e1)
def fAnd (fa fb : Ev → Res RV) : Ev → Res RV := fIte fa fb (fC (.bool false))
def fOr (fa fb : Ev → Res RV) : Ev → Res RV := fIte fa (fC (.bool true)) fb
def fNot (fa : Ev → Res RV) : Ev → Res RV := fIte fa (fC (.bool false)) (fC (.bool true))
section
variable {G : Gx} {W : WX} {S S' H H' S0 H0 : Hp} {σ : L2.St} {e : Ev} {A A' A0 : List Addr} {ts : List Tmp}
theorem PostE.pre {Q : VK} {r : Res RV} (st : Step S0 A0 H0 S A H) (h : PostE G W S0 H0 σ A0 Q r) : PostE G W S H σ A Q r := by
  cases r with
  | no => exact h
  | ok r e' => exact fun v H' S' A' f R st' => h v H' S' A' f R (st.trans st')
  | exc c e' => exact fun H' S' A' C hC R st' => h H' S' A' C hC R (st.trans st')
theorem PostB.pre {Q : Bool → Hp → Prop} {r : Res RV} (st : Step S0 A0 H0 S A H) (h : PostB G W S0 H0 σ A0 Q r) : PostB G W S H σ A Q r := by
  cases r with
  | no => exact h
  | exc c e' => exact fun H' S' A' C hC R st' => h H' S' A' C hC R (st.trans st')
  | ok r e' =>
    cases r with
    | bor i => exact h
    | ex c => exact h
    | val d n => cases d <;> first | exact h | exact fun H' S' A' R st' => h H' S' A' R (st.trans st')
/-- a test, then what hangs on it -/
theorem tT_then {fc : Ev → Res RV} {Q : Bool → Hp → Prop} {k : RV → Ev → Res RV} {Z : Res RV → Prop} (C : Cu G S H σ e A []) (hno : ¬ Z .no) (hexc : ∀ c e', Z (.exc c e') → ∀ H' S' A' D, G.cl c = some D → Cu G S' H' σ e' A' [] → Step S A H S' A' H' → W (.ref D) none σ H')
    (hk : ∀ b n e1, fc e = .ok (.val (.bool b) n) e1 → Z (k (.val (.bool b) n) e1) → ∀ H' S' A', Cu G S' H' σ e1 A' [] → Step S A H S' A' H' → Q b H')
    (hbad : ∀ r e1, (∀ b n, r ≠ .val (.bool b) n) → ¬ Z (k r e1)) (h : Z ((fc e).bind k)) : tT G W fc σ H Q := by
  refine ⟨S, e, A, C, ?_⟩
  cases q : fc e with
  | no => rw [q] at h; exact absurd h hno
  | exc c e1 => rw [q] at h; exact hexc c e1 h
  | ok r e1 =>
    rw [q] at h
    have h' : Z (k r e1) := h
    cases r with
    | bor i => exact absurd h' (hbad _ _ fun _ _ z => nomatch z)
    | ex c => exact absurd h' (hbad _ _ fun _ _ z => nomatch z)
    | val d n =>
      cases d with
      | bool b => exact hk b n e1 q h'
      | _ => exact absurd h' (hbad _ _ fun _ _ z => nomatch z)
theorem onBool_bad {t f : Res RV} {r : RV} (h : ∀ b n, r ≠ .val (.bool b) n) : onBool r t f = .no := by
  cases r with
  | bor i => rfl
  | ex c => rfl
  | val d n =>
    cases d with
    | bool b => exact absurd rfl (h b n)
    | _ => rfl
theorem ite_okE {fc fa fb : Ev → Res RV} {Q : VK} (h : tR G W (fIte fc fa fb) σ H Q) : tT G W fc σ H fun c H1 => if c = true then tR G W fa σ H1 Q else tR G W fb σ H1 Q := by
  obtain ⟨S, e, A, C, h⟩ := h
  refine tT_then C (Z := PostE G W S H σ A Q) (fun z => z) (fun _ _ z => z) (fun b n e1 q z H' S' A' R st => ?_) (fun r e1 hb z => by rw [onBool_bad hb] at z; exact z) h
  cases b with
  | true => rw [if_pos rfl]; exact ⟨S', e1, A', R, z.pre st⟩
  | false => rw [if_neg Bool.false_ne_true]; exact ⟨S', e1, A', R, z.pre st⟩
theorem ite_okT {fc fa fb : Ev → Res RV} {Q : Bool → Hp → Prop} (h : tT G W (fIte fc fa fb) σ H Q) : tT G W fc σ H fun c H1 => if c = true then tT G W fa σ H1 Q else tT G W fb σ H1 Q := by
  obtain ⟨S, e, A, C, h⟩ := h
  refine tT_then C (Z := PostB G W S H σ A Q) (fun z => z) (fun _ _ z => z) (fun b n e1 q z H' S' A' R st => ?_) (fun r e1 hb z => by rw [onBool_bad hb] at z; exact z) h
  cases b with
  | true => rw [if_pos rfl]; exact ⟨S', e1, A', R, z.pre st⟩
  | false => rw [if_neg Bool.false_ne_true]; exact ⟨S', e1, A', R, z.pre st⟩
theorem tT_const {b : Bool} {Q : Bool → Hp → Prop} (h : tT G W (fC (.bool b)) σ H Q) : Q b H := by
  obtain ⟨S, e, A, C, h⟩ := h
  exact h H S A C .refl
theorem tR_const {b : Bool} {Q : VK} (h : tR G W (fC (.bool b)) σ H Q) : Q (.bl b) H := by
  obtain ⟨S, e, A, C, h⟩ := h
  exact h _ H S A [] (C.one ⟨rfl, .bl b⟩ rfl) .refl0
end
section
variable {X : Cx} {W : WX} {pos : Pos} {a b c : Expr} {fa fb fc : Ev → Res RV} {rest : List Expr}
theorem ee_ite (hc : ET X W c fc) (ha : EE X W a fa) (hb : EE X W b fb) : EE X W (.IfExp c a b pos) (fIte fc fa fb) :=
  PE.imp (pe_ifExp hc ha hb) fun _ _ _ q => ite_okE q
theorem tT_mono {G : Gx} {σ : L2.St} {H : Hp} {f : Ev → Res RV} {Q Q' : Bool → Hp → Prop} (h : tT G W f σ H Q) (k : ∀ b H, Q b H → Q' b H) : tT G W f σ H Q' := by
  obtain ⟨S, e, A, C, h⟩ := h
  refine ⟨S, e, A, C, ?_⟩
  revert h
  cases f e with
  | no => exact id
  | exc c e1 => exact id
  | ok r e1 =>
    cases r with
    | bor i => exact id
    | ex c => exact id
    | val d n => cases d <;> first | exact id | exact fun h H' S' A' R st => k _ _ (h H' S' A' R st)
theorem et_not (ha : ET X W a fa) : ET X W (.UnaryOp .Not a pos) (fNot fa) :=
  PT.imp (pt_not ha) fun σ H Q q => tT_mono (ite_okT q) fun b H1 z => by
    cases b with
    | true => rw [if_pos rfl] at z; exact tT_const z
    | false => rw [if_neg Bool.false_ne_true] at z; exact tT_const z
theorem ew_and1 (ha : ET X W a fa) : EW X W (.BoolOp .And [a] pos) fa := pw_and1 ha
theorem ew_or1 (ha : ET X W a fa) : EW X W (.BoolOp .Or [a] pos) fa := pw_or1 ha
theorem ew_and (ha : ET X W a fa) (hb : EW X W (.BoolOp .And (b :: rest) pos) fb) : EW X W (.BoolOp .And (a :: b :: rest) pos) (fAnd fa fb) :=
  PW.imp (pw_and ha hb) fun σ H Q q => by
    refine tT_mono (ite_okT q) fun k H1 z => ?_
    cases k with
    | true => exact z
    | false => rw [if_neg Bool.false_ne_true] at z ⊢; exact tT_const z
theorem ew_or (ha : ET X W a fa) (hb : EW X W (.BoolOp .Or (b :: rest) pos) fb) : EW X W (.BoolOp .Or (a :: b :: rest) pos) (fOr fa fb) :=
  PW.imp (pw_or ha hb) fun σ H Q q => by
    refine tT_mono (ite_okT q) fun k H1 z => ?_
    cases k with
    | true => rw [if_pos rfl] at z ⊢; exact tT_const z
    | false => exact z
theorem et_bop {op : BoolOp} {es : List Expr} (h : EW X W (.BoolOp op es pos) fa) : ET X W (.BoolOp op es pos) fa := PW.pt h
theorem ee_one {op : BoolOp} (h : EE X W a fa) : EE X W (.BoolOp op [a] pos) fa := pe_one h
theorem tR_mono {G : Gx} {σ : L2.St} {H : Hp} {f : Ev → Res RV} {Q Q' : VK} (h : tR G W f σ H Q) (k : ∀ v H, Q v H → Q' v H) : tR G W f σ H Q' := by
  obtain ⟨S, e, A, C, h⟩ := h
  refine ⟨S, e, A, C, ?_⟩
  revert h
  cases f e with
  | no => exact id
  | exc c e1 => exact id
  | ok r e1 => exact fun h v H' S' A' f R st => k _ _ (h v H' S' A' f R st)
/-- a value that is a truth, and what hangs on it -/
theorem ite_val {G : Gx} {σ : L2.St} {H : Hp} {Q : VK} (h : tR G W (fIte fc fa fb) σ H Q) : tR G W fc σ H fun x H1 => ∃ k, x = .bl k ∧ if k = true then tR G W fa σ H1 Q else tR G W fb σ H1 Q := tT_tB (ite_okE h)
theorem ee_and (ha : EE X W a fa) (hb : EE X W (.BoolOp .And (b :: rest) pos) fb) : EE X W (.BoolOp .And (a :: b :: rest) pos) (fAnd fa fb) :=
  PE.imp (pe_and ha hb) fun σ H Q q => by
    refine tR_mono (ite_val q) fun v H1 ⟨k, ek, z⟩ => ⟨k, ek, ?_⟩
    cases k with
    | true => exact z
    | false => rw [if_neg Bool.false_ne_true] at z ⊢; exact tR_const z
theorem ee_or (ha : EE X W a fa) (hb : EE X W (.BoolOp .Or (b :: rest) pos) fb) : EE X W (.BoolOp .Or (a :: b :: rest) pos) (fOr fa fb) :=
  PE.imp (pe_or ha hb) fun σ H Q q => by
    refine tR_mono (ite_val q) fun v H1 ⟨k, ek, z⟩ => ⟨k, ek, ?_⟩
    cases k with
    | true => rw [if_pos rfl] at z ⊢; exact tR_const z
    | false => exact z
theorem ee_not (ha : EE X W a fa) : EE X W (.UnaryOp .Not a pos) (fNot fa) :=
  PE.imp (pe_not ha) fun σ H Q q => by
    refine tR_mono (ite_val q) fun v H1 ⟨k, ek, z⟩ => ⟨k, ek, ?_⟩
    cases k with
    | true => rw [if_pos rfl] at z; exact tR_const z
    | false => rw [if_neg Bool.false_ne_true] at z; exact tR_const z
end
end PV

/-! PVD: displays, statements, a def's promise, calls of defs. -/
namespace PV
open PySem PySem.Spec PyProof.Rows L2

/-! ### values given away: owned data is shared from then on -/
def settle : List RV → Ev → Option (List PyData × Ev)
  | [], e => some ([], e)
  | .val d _ :: rs, e => match settle rs e with
    | some (ds, e') => some (d :: ds, e')
    | none => none
  | .bor i :: rs, e => match e[i]? with
    | some (some (.dt d _)) => match settle rs (e.set i (some (.dt d 0))) with
      | some (ds, e') => some (d :: ds, e')
      | none => none
    | _ => none
  | .ex _ :: _, _ => none

section
variable {G : Gx} {W : WX} {S S' H H' S0 H0 : Hp} {σ : L2.St} {e : Ev} {A A' A0 : List Addr} {ts : List Tmp}
theorem addH_sub {l m : List Addr} (h : ∀ a ∈ l, a ∈ m) (e : Same S H) : Same (addH S H l) (addH S H m) := fun b o q => by
  unfold addH at q ⊢
  split at q
  · rename_i hm
    rw [if_pos (h b hm)]
    exact q
  · split
    · exact e b o q
    · exact q
/-- the heap stays, some owned objects go over to the shared part -/
theorem Step.give {l : List Addr} (R : Same S H) (hl : ∀ a ∈ l, a ∈ A) (h : ∀ a ∈ A', a ∈ A) : Step S A H (addH S H l) A' H :=
  ⟨fun _ _ q _ => q, fun _ q => q, same_addH R l, fun b o q => by
    unfold addH at q
    split at q
    · rename_i hm; exact .inr (.inr (hl b hm))
    · exact .inl q, fun a ha => .inl (h a ha)⟩
theorem Cu.share {i : Nat} {d : PyData} {n : Nat} (R : Cu G S H σ e A ts) (h : e[i]? = some (some (.dt d n))) :
    ∃ S' A' v, Cu G S' H σ (e.set i (some (.dt d 0))) A' ts ∧ σ[i]? = some (some v) ∧ Rp G.K S' v d ∧ Step S (A ++ fps ts) H S' (A' ++ fps ts) H := by
  obtain ⟨v, f, B, C, e1, e2, o, k, _⟩ := R.slots.at i h
  obtain ⟨n1, n2, n3⟩ := nodup_app.mp R.nod
  have fA : ∀ a ∈ f, a ∈ A := fun a ha => by rw [e2]; simp [ha]
  have sub : ∀ a ∈ B ++ [] ++ C, a ∈ A := fun a ha => by
    rw [List.append_nil] at ha
    rw [e2]
    rcases List.mem_append.mp ha with z | z <;> simp [z]
  have nBC : ∀ a ∈ B ++ [] ++ C, a ∉ f := fun a ha z => by
    rw [e2] at n1
    rw [List.append_nil] at ha
    rcases List.mem_append.mp ha with w | w
    · exact (nodup_app.mp (nodup_app.mp n1).1).2.2 a w z
    · exact (nodup_app.mp n1).2.2 a (List.mem_append_right _ z) w
  have nA' : (B ++ [] ++ C).Nodup := by
    rw [e2] at n1
    rw [List.append_nil]
    obtain ⟨p, q, r⟩ := nodup_app.mp n1
    exact nodup_app.mpr ⟨(nodup_app.mp p).1, q, fun a ha => r a (List.mem_append_left _ ha)⟩
  refine ⟨addH S H f, B ++ [] ++ C, v, ⟨addH_same R.sub f, ?_, ?_, ?_, ?_⟩, e1, o.freeze R.sub fun _ z => z, ?_⟩
  · exact nodup_app.mpr ⟨nA', n2, fun a ha => n3 a (sub a ha)⟩
  · intro a ha
    have hf : a ∉ f := by
      rcases List.mem_append.mp ha with z | z
      · exact nBC a z
      · exact fun w => n3 a (fA a w) z
    rw [addH_out hf]
    refine R.off a ?_
    rcases List.mem_append.mp ha with z | z
    · exact List.mem_append_left _ (sub a z)
    · exact List.mem_append_right _ z
  · exact k (same_addH R.sub f) (fun _ _ _ q => q) ⟨rfl, o.freeze R.sub fun _ z => z⟩
  · exact fun t ht => (R.tmps t ht).keep (same_addH R.sub f) fun _ _ _ q => q
  · exact Step.give R.sub (fun a ha => List.mem_append_left _ (fA a ha)) fun a ha => by
      rcases List.mem_append.mp ha with z | z
      · exact List.mem_append_left _ (sub a z)
      · exact List.mem_append_right _ z
theorem settle_ok : ∀ {ts : List Tmp} {S : Hp} {e : Ev} {A : List Addr} {ds : List PyData} {e' : Ev}, Cu G S H σ e A ts → settle (ts.map (·.r)) e = some (ds, e') →
    ∃ S' A', Cu G S' H σ e' A' [] ∧ RpL G.K S' (ts.map (·.v)) ds ∧ Step S (A ++ fps ts) H S' A' H
  | [], S, e, A, ds, e', R, h => by
    cases h
    exact ⟨S, A, R, .nil, Step.refl.less fun a ha => List.mem_append_left _ ha⟩
  | ⟨r, v, f⟩ :: ts, S, e, A, ds, e', R, h => by
    obtain ⟨n1, n2, n3⟩ := nodup_app.mp R.nod
    have hfp : fps (⟨r, v, f⟩ :: ts) = f ++ fps ts := rfl
    rw [hfp] at n2 n3
    obtain ⟨m1, m2, m3⟩ := nodup_app.mp n2
    have hr := R.tmps _ List.mem_cons_self
    have tail : ∀ {S1 : Hp}, Same S S1 → Same S1 H → (∀ a ∈ A ++ fps ts, S1 a = none) → Cu G S1 H σ e A ts := fun {S1} s1 s2 off =>
      ⟨s2, nodup_app.mpr ⟨n1, m2, fun a ha z => n3 a ha (List.mem_append_right _ z)⟩, off, R.slots.keep s1 fun _ _ _ q => q, fun t ht => (R.tmps t (List.mem_cons_of_mem _ ht)).keep s1 fun _ _ _ q => q⟩
    cases r with
    | ex c => simp [settle] at h
    | val d n =>
      rw [List.map_cons, settle] at h
      cases q : settle (ts.map (·.r)) e with
      | none => rw [q] at h; cases h
      | some p =>
        obtain ⟨ds', e2⟩ := p
        rw [q] at h
        cases h
        have hr' : Own G.K S H n v d f := hr
        have T := tail (same_addH R.sub f) (addH_same R.sub f) fun a ha => by
          rw [addH_out]
          · refine R.off a ?_
            rw [hfp]
            rcases List.mem_append.mp ha with z | z
            · exact List.mem_append_left _ z
            · exact List.mem_append_right _ (List.mem_append_right _ z)
          · intro z
            rcases List.mem_append.mp ha with w | w
            · exact n3 a w (List.mem_append_left _ z)
            · exact m3 a z w
        obtain ⟨S', A', R', rp, st⟩ := settle_ok T q
        refine ⟨S', A', R', .cons ((hr'.freeze R.sub fun _ z => z).mn st.sub) rp, (Step.give R.sub ?_ ?_).trans st⟩
        · intro a ha
          rw [hfp]
          exact List.mem_append_right _ (List.mem_append_left _ ha)
        · intro a ha
          rw [hfp]
          rcases List.mem_append.mp ha with z | z
          · exact List.mem_append_left _ z
          · exact List.mem_append_right _ (List.mem_append_right _ z)
    | bor i =>
      obtain ⟨ef, ev⟩ := hr
      have ef' : f = [] := ef
      subst ef'
      have R1 : Cu G S H σ e A ts := tail (Same.refl S) R.sub fun a ha => R.off a (by rw [hfp]; exact ha)
      rw [List.map_cons, settle] at h
      match hi : e[i]?, h with
      | some (some (.dt d n)), h =>
        simp only [hi] at h
        cases q : settle (ts.map (·.r)) (e.set i (some (.dt d 0))) with
        | none => rw [q] at h; cases h
        | some p =>
          obtain ⟨ds', e2⟩ := p
          rw [q] at h
          cases h
          obtain ⟨S1, A1, v1, R2, e1, rp1, st1⟩ := R1.share hi
          have ev' : σ[i]? = some (some v) := ev
          rw [ev'] at e1
          cases e1
          obtain ⟨S', A', R', rp, st⟩ := settle_ok R2 q
          refine ⟨S', A', R', .cons (rp1.mn st.sub) rp, ?_⟩
          exact st1.trans st

/-- a new list, a new tuple -/
theorem Cu.newLst {vs : List V} {ds : List PyData} {p : Addr} (R : Cu G S H σ e A []) (rp : RpL G.K S vs ds) (hp : H p = none) :
    Cu G S (upd H p (.lst vs)) σ e A [⟨.val (.list ds) 1, .ref p, [p]⟩] ∧ Step S A H S (A ++ [p]) (upd H p (.lst vs)) := by
  have n0 : (A ++ []).Nodup := R.nod
  rw [List.append_nil] at n0
  have hpS : S p = none := by
    cases z : S p with
    | none => rfl
    | some o => rw [R.sub p o z] at hp; cases hp
  have hpA : p ∉ A := fun z => R.trk (List.mem_append_left _ z) hp
  have sm : Same H (upd H p (.lst vs)) := fun b o z => by rw [upd_ne (ne_of_none z hp)]; exact z
  refine ⟨⟨R.sub.trans sm, ?_, ?_, R.slots.keep (Same.refl S) fun b _ o z => sm b o z, ?_⟩, ⟨fun b o z _ => sm b o z, fun b z w => ?_, Same.refl S, fun b o z => .inl z, fun a ha => ?_⟩⟩
  · rw [fps_one]
    refine nodup_app.mpr ⟨n0, List.nodup_cons.mpr ⟨List.not_mem_nil, List.nodup_nil⟩, fun a ha z => ?_⟩
    rw [List.mem_singleton] at z
    exact hpA (z ▸ ha)
  · intro a ha
    rw [fps_one] at ha
    rcases List.mem_append.mp ha with z | z
    · exact R.off a (List.mem_append_left _ z)
    · rw [List.mem_singleton] at z
      rw [z]; exact hpS
  · intro t ht
    rw [List.mem_singleton] at ht
    subst ht
    exact .inl ⟨p, vs, ds, [], rfl, rfl, upd_same, rfl, OwL.of_rp rp⟩
  · cases y : H b with
    | none => exact z y
    | some u => rw [sm b u y] at w; cases w
  · rcases List.mem_append.mp ha with z | z
    · exact .inl z
    · rw [List.mem_singleton] at z
      rw [z]; exact .inr hp
theorem Cu.newTup {vs : List V} {ds : List PyData} {p : Addr} (R : Cu G S H σ e A []) (rp : RpL G.K S vs ds) (hp : H p = none) :
    Cu G (upd S p (.tup vs)) (upd H p (.tup vs)) σ e A [⟨.val (.tuple ds) 0, .ref p, []⟩] ∧ Step S A H (upd S p (.tup vs)) (A ++ []) (upd H p (.tup vs)) := by
  have hpS : S p = none := by
    cases z : S p with
    | none => rfl
    | some o => rw [R.sub p o z] at hp; cases hp
  have hpA : p ∉ A := fun z => R.trk (List.mem_append_left _ z) hp
  have sm : Same H (upd H p (.tup vs)) := fun b o z => by rw [upd_ne (ne_of_none z hp)]; exact z
  have ss : Same S (upd S p (.tup vs)) := fun b o z => by rw [upd_ne (ne_of_none z hpS)]; exact z
  have R2 : Cu G (upd S p (.tup vs)) (upd H p (.tup vs)) σ e A [] := by
    refine ⟨fun b o z => ?_, R.nod, fun a ha => ?_, R.slots.keep ss fun b _ o z => sm b o z, fun t ht => nomatch ht⟩
    · by_cases hb : b = p
      · subst hb; rw [upd_same] at z ⊢; exact z
      · rw [upd_ne hb] at z ⊢; exact R.sub b o z
    · have ha' : a ∈ A := by
        have h : a ∈ A ++ [] := ha
        rwa [List.append_nil] at h
      have hne : a ≠ p := fun z => hpA (by rw [← z]; exact ha')
      rw [upd_ne hne]
      exact R.off a ha
  refine ⟨R2.one ⟨rfl, .tup (.inl (.inl upd_same)) (rp.mn ss)⟩ rfl, ?_⟩
  rw [List.append_nil]
  refine ⟨fun b o z _ => sm b o z, fun b z w => ?_, ss, fun b o z => ?_, fun a ha => .inl ha⟩
  · cases y : H b with
    | none => exact z y
    | some u => rw [sm b u y] at w; cases w
  · by_cases hb : b = p
    · subst hb; exact .inr (.inl hp)
    · rw [upd_ne hb] at z; exact .inl z
theorem small_line {n : Nat} (h : n ≤ 1000) : n ≤ sizeLine := Nat.le_of_lt (small1000 h)
end

def fLst (fs : List (Ev → Res RV)) (e : Ev) : Res RV := (fArgs fs e).bind fun rs e1 => match settle rs e1 with
  | some (ds, e2) => if ds.length ≤ 1000 then .ok (.val (.list ds) 1) e2 else .no
  | none => .no
def fTup (fs : List (Ev → Res RV)) (e : Ev) : Res RV := (fArgs fs e).bind fun rs e1 => match settle rs e1 with
  | some (ds, e2) => if ds.length ≤ 1000 then .ok (.val (.tuple ds) 0) e2 else .no
  | none => .no
section
variable {X : Cx} {W : WX} {pos : Pos} {es : List Expr} {fs : List (Ev → Res RV)}
theorem settle_len {G : Gx} {S : Hp} {vs : List V} {ds : List PyData} (h : RpL G.K S vs ds) (k : ds.length ≤ 1000) : vs.length ≤ sizeLine := by
  rw [h.length]; exact small_line k
theorem ee_lst (h : EA X W es fs) : EE X W (.List es pos) (fLst fs) :=
  PE.imp (pe_lst h) fun σ H Q q => by
    obtain ⟨S, e, A, C, q⟩ := q
    refine tArgs_next (G := gx X) C (S0 := S) (A0 := A) (H0 := H) Step.refl0 ?_
    have q' : PostE (gx X) W S H σ A Q ((fArgs fs e).bind _) := q
    cases r : fArgs fs e with
    | no => rw [r] at q'; exact q'
    | exc c e1 => rw [r] at q'; exact q'
    | ok rs e1 =>
      rw [r] at q'
      intro us H1 S1 A1 eu R1 st1
      subst eu
      have R1' : Cu (gx X) S1 H1 σ e1 A1 us := R1
      have q2 : PostE (gx X) W S H σ A Q (match settle (us.map (·.r)) e1 with | some (ds, e2) => if ds.length ≤ 1000 then .ok (.val (.list ds) 1) e2 else .no | none => .no) := q'
      cases r2 : settle (us.map (·.r)) e1 with
      | none => rw [r2] at q2; exact q2.elim
      | some p =>
        obtain ⟨ds, e2⟩ := p
        rw [r2] at q2
        simp only at q2
        by_cases hz : ds.length ≤ 1000
        · rw [if_pos hz] at q2
          obtain ⟨S2, A2, R2, rp, st2⟩ := settle_ok R1' r2
          refine ⟨settle_len rp hz, fun p hp => ?_⟩
          obtain ⟨R3, st3⟩ := R2.newLst rp hp
          exact q2 _ _ _ _ _ R3 ((st1.trans st2).trans st3)
        · rw [if_neg hz] at q2; exact q2.elim
theorem ee_tup {x1} (h : EA X W es fs) : EE X W (.Tuple es x1 pos) (fTup fs) :=
  PE.imp (pe_tup h) fun σ H Q q => by
    obtain ⟨S, e, A, C, q⟩ := q
    refine tArgs_next (G := gx X) C (S0 := S) (A0 := A) (H0 := H) Step.refl0 ?_
    have q' : PostE (gx X) W S H σ A Q ((fArgs fs e).bind _) := q
    cases r : fArgs fs e with
    | no => rw [r] at q'; exact q'
    | exc c e1 => rw [r] at q'; exact q'
    | ok rs e1 =>
      rw [r] at q'
      intro us H1 S1 A1 eu R1 st1
      subst eu
      have R1' : Cu (gx X) S1 H1 σ e1 A1 us := R1
      have q2 : PostE (gx X) W S H σ A Q (match settle (us.map (·.r)) e1 with | some (ds, e2) => if ds.length ≤ 1000 then .ok (.val (.tuple ds) 0) e2 else .no | none => .no) := q'
      cases r2 : settle (us.map (·.r)) e1 with
      | none => rw [r2] at q2; exact q2.elim
      | some p =>
        obtain ⟨ds, e2⟩ := p
        rw [r2] at q2
        simp only at q2
        by_cases hz : ds.length ≤ 1000
        · rw [if_pos hz] at q2
          obtain ⟨S2, A2, R2, rp, st2⟩ := settle_ok R1' r2
          refine ⟨settle_len rp hz, fun p hp => ?_⟩
          obtain ⟨R3, st3⟩ := R2.newTup rp hp
          exact q2 _ _ _ _ _ R3 ((st1.trans st2).trans st3)
        · rw [if_neg hz] at q2; exact q2.elim
end

/-! ### statements -/
inductive SRes where
  | nx (e : Ev)
  | rt (d : PyData) (n : Nat) (e : Ev)
  | bk (e : Ev)
  | ct (e : Ev)
  | exc (c : Str) (e : Ev)
  | no
def Res.toS {α : Type} : Res α → (α → Ev → SRes) → SRes
  | .ok a e, k => k a e
  | .exc c e, _ => .exc c e
  | .no, _ => .no
def Pin (P : Nat → Bool) (σ σ' : L2.St) : Prop := σ'.length = σ.length ∧ ∀ i, P i = true → σ'[i]? = σ[i]?
def PostS (G : Gx) (W : WX) (P : Nat → Bool) (D : Ends) (S : Hp) (A : List Addr) (H : Hp) (σ : L2.St) : SRes → Prop
  | .nx e' => ∀ σ' H' S' A', Cu G S' H' σ' e' A' [] → Step S A H S' A' H' → Pin P σ σ' → D.nx σ' H'
  | .bk e' => ∀ σ' H' S' A', Cu G S' H' σ' e' A' [] → Step S A H S' A' H' → Pin P σ σ' → D.bk σ' H'
  | .ct e' => ∀ σ' H' S' A', Cu G S' H' σ' e' A' [] → Step S A H S' A' H' → Pin P σ σ' → D.ct σ' H'
  | .rt d n e' => ∀ v σ' H' S' A' f, Cu G S' H' σ' e' A' [⟨.val d n, v, f⟩] → Step S A H S' (A' ++ f) H' → Pin P σ σ' → D.rt v H'
  | .exc c e' => ∀ σ' H' S' A' C, G.cl c = some C → Cu G S' H' σ' e' A' [] → Step S A H S' A' H' → Pin P σ σ' → W (.ref C) none σ' H'
  | .no => False
def tS (G : Gx) (W : WX) (P : Nat → Bool) (f : Ev → SRes) : TS := fun D σ H => ∃ S e A, Cu G S H σ e A [] ∧ PostS G W P D S A H σ (f e)
abbrev ES (X : Cx) (W : WX) (P : Nat → Bool) (st : Stmt) (f : Ev → SRes) : Prop := PS X st (tS (gx X) W P f)
abbrev ESs (X : Cx) (W : WX) (P : Nat → Bool) (st : List Stmt) (f : Ev → SRes) : Prop := PSs X st (tS (gx X) W P f)
theorem PS.imp {X : Cx} {st : Stmt} {t t' : TS} (h : PS X st t) (k : ∀ D σ H, t' D σ H → t D σ H) : PS X st t' := ⟨fun pins s σ H D I q => h.run pins s σ H D I (k D σ H q)⟩
theorem PSs.imp {X : Cx} {st : List Stmt} {t t' : TS} (h : PSs X st t) (k : ∀ D σ H, t' D σ H → t D σ H) : PSs X st t' := ⟨fun pins s σ H D I q => h.run pins s σ H D I (k D σ H q)⟩

def SRes.bind : SRes → (Ev → SRes) → SRes
  | .nx e, k => k e
  | r, _ => r
def fNx (e : Ev) : SRes := .nx e
def fSeq (f g : Ev → SRes) (e : Ev) : SRes := (f e).bind g
def fIf (fc : Ev → Res RV) (f g : Ev → SRes) (e : Ev) : SRes := (fc e).toS fun r e1 => match r with
  | .val (.bool true) _ => f e1
  | .val (.bool false) _ => g e1
  | _ => .no
def fDrop (fa : Ev → Res RV) (e : Ev) : SRes := (fa e).toS fun _ e1 => .nx e1
/-- a value stored at slot i: what was borrowed is shared -/
def putR (i : Nat) (r : RV) (e : Ev) : Option Ev := if i < e.length then match r with
    | .val d n => some (e.set i (some (.dt d n)))
    | .bor j => match e[j]? with
      | some (some (.dt d _)) => some ((e.set j (some (.dt d 0))).set i (some (.dt d 0)))
      | _ => none
    | .ex c => some (e.set i (some (.ex c)))
  else none
def fSet (i : Nat) (fa : Ev → Res RV) (e : Ev) : SRes := (fa e).toS fun r e1 => match putR i r e1 with
  | some e2 => .nx e2
  | none => .no
/-- what is returned is given away whole -/
def fRet (fa : Ev → Res RV) (e : Ev) : SRes := (fa e).toS fun r e1 => match r with
  | .val d n => .rt d n e1
  | .bor j => match e1[j]? with
    | some (some (.dt d n)) => .rt d n (e1.set j none)
    | _ => .no
  | .ex _ => .no

section
variable {G : Gx} {W : WX} {P : Nat → Bool} {S S' H H' S0 H0 S1 H1 : Hp} {σ σ1 : L2.St} {e : Ev} {A A' A0 A1 : List Addr} {ts : List Tmp} {D : Ends}
theorem Pin.refl : Pin P σ σ := ⟨rfl, fun _ _ => rfl⟩
theorem Pin.trans {σ2 : L2.St} (a : Pin P σ σ1) (b : Pin P σ1 σ2) : Pin P σ σ2 := ⟨b.1.trans a.1, fun i h => (b.2 i h).trans (a.2 i h)⟩
theorem PostS.pre {r : SRes} (st : Step S0 A0 H0 S1 A1 H1) (pn : Pin P σ σ1) (h : PostS G W P D S0 A0 H0 σ r) : PostS G W P D S1 A1 H1 σ1 r := by
  cases r with
  | no => exact h
  | nx e' => exact fun σ' H' S' A' R s p => h σ' H' S' A' R (st.trans s) (pn.trans p)
  | bk e' => exact fun σ' H' S' A' R s p => h σ' H' S' A' R (st.trans s) (pn.trans p)
  | ct e' => exact fun σ' H' S' A' R s p => h σ' H' S' A' R (st.trans s) (pn.trans p)
  | rt d n e' => exact fun v σ' H' S' A' f R s p => h v σ' H' S' A' f R (st.trans s) (pn.trans p)
  | exc c e' => exact fun σ' H' S' A' C hC R s p => h σ' H' S' A' C hC R (st.trans s) (pn.trans p)
theorem seq_ok {f g : Ev → SRes} (h : tS G W P (fSeq f g) D σ H) : tS G W P f { D with nx := fun σ1 H1 => tS G W P g D σ1 H1 } σ H := by
  obtain ⟨S, e, A, C, h⟩ := h
  refine ⟨S, e, A, C, ?_⟩
  have h' : PostS G W P D S A H σ ((f e).bind g) := h
  cases q : f e with
  | no => rw [q] at h'; exact h'
  | nx e1 =>
    rw [q] at h'
    exact fun σ' H' S' A' R st pn => ⟨S', e1, A', R, PostS.pre st pn (show PostS G W P D S A H σ (g e1) from h')⟩
  | bk e1 => rw [q] at h'; exact h'
  | ct e1 => rw [q] at h'; exact h'
  | rt d n e1 => rw [q] at h'; exact h'
  | exc c e1 => rw [q] at h'; exact h'
theorem nx_ok (h : tS G W P fNx D σ H) : D.nx σ H := by
  obtain ⟨S, e, A, C, h⟩ := h
  exact h σ H S A C .refl .refl
/-- a statement that begins with an expression -/
theorem toS_ok {fa : Ev → Res RV} {k : RV → Ev → SRes} {Q : VK} (h : tS G W P (fun e : Ev => (fa e).toS k) D σ H)
    (hk : ∀ (S : Hp) (A : List Addr) (r : RV) (e1 : Ev) (v : V) (H1 S1 : Hp) (A1 f : List Addr), PostS G W P D S A H σ (k r e1) → Cu G S1 H1 σ e1 A1 [⟨r, v, f⟩] → Step S A H S1 (A1 ++ f) H1 → Q v H1) : tR G W fa σ H Q := by
  obtain ⟨S, e, A, C, h⟩ := h
  refine ⟨S, e, A, C, ?_⟩
  have h' : PostS G W P D S A H σ ((fa e).toS k) := h
  cases q : fa e with
  | no => rw [q] at h'; exact h'
  | exc c e1 =>
    rw [q] at h'
    exact fun H' S' A' C hC R st => h' σ H' S' A' C hC R st .refl
  | ok r e1 =>
    rw [q] at h'
    exact fun v H' S' A' f R st => hk S A r e1 v H' S' A' f h' R st
theorem Cu.forget {t : Tmp} (R : Cu G S H σ e A [t]) : Cu G S H σ e A [] := R.base
theorem Pin.set {i : Nat} {x : Option V} (h : P i = false) : Pin P σ (σ.set i x) := ⟨by simp, fun j hj => by
  have : i ≠ j := fun z => by rw [z, hj] at h; cases h
  rw [List.getElem?_set_ne this]⟩
theorem putR_ok {i : Nat} {r : RV} {v : V} {f : List Addr} {e2 : Ev} (R : Cu G S H σ e A [⟨r, v, f⟩]) (h : putR i r e = some e2) :
    ∃ S' A', Cu G S' H (σ.set i (some v)) e2 A' [] ∧ Step S (A ++ f) H S' A' H := by
  unfold putR at h
  have store : ∀ {S : Hp} {e : Ev} {A F : List Addr} {nw : Option Vl}, i < e.length → Cu G S H σ e A [] → (A ++ F).Nodup → (∀ a ∈ F, S a = none) → Slots G S H [some v] [nw] F → ∃ A', Cu G S H (σ.set i (some v)) (e.set i nw) A' [] ∧ Step S (A ++ F) H S A' H := by
    intro S e A F nw hi R nd off hn
    obtain ⟨B, f', C, e1, sl⟩ := R.slots.put i (some v) nw F (by rw [R.slots.length]; exact hi) hn
    obtain ⟨n1, n2, n3⟩ := nodup_app.mp nd
    have sub : ∀ a ∈ B ++ F ++ C, a ∈ A ++ F := fun a ha => by
      rw [e1]
      rcases List.mem_append.mp ha with z | z
      · rcases List.mem_append.mp z with z | z <;> simp [z]
      · simp [z]
    refine ⟨B ++ F ++ C, ⟨R.sub, ?_, ?_, sl, fun t ht => nomatch ht⟩, Step.refl.less sub⟩
    · show (B ++ F ++ C ++ []).Nodup
      rw [List.append_nil]
      rw [e1] at n1 n3
      obtain ⟨p, q, r⟩ := nodup_app.mp n1
      refine nodup_app.mpr ⟨nodup_app.mpr ⟨(nodup_app.mp p).1, n2, fun a ha z => n3 a (by simp [ha]) z⟩, q, fun a ha z => ?_⟩
      rcases List.mem_append.mp ha with w | w
      · exact r a (List.mem_append_left _ w) z
      · exact n3 a (by simp [z]) w
    · intro a ha
      have ha' : a ∈ B ++ F ++ C := by
        have : a ∈ B ++ F ++ C ++ [] := ha
        rwa [List.append_nil] at this
      rcases List.mem_append.mp (sub a ha') with z | z
      · exact R.off a (List.mem_append_left _ z)
      · exact off a z
  by_cases hi : i < e.length
  · rw [if_pos hi] at h
    have hr := R.tmps _ (List.mem_singleton.mpr rfl)
    have nd := R.nod
    rw [fps_one] at nd
    have off : ∀ a ∈ f, S a = none := fun a ha => R.off a (List.mem_append_right _ (by rw [fps_one]; exact ha))
    cases r with
    | val d n =>
      cases h
      obtain ⟨A', R', st⟩ := store hi R.forget nd off (by have := Slots.dt (σ := []) (e := []) (A := []) hr .nil; rw [List.append_nil] at this; exact this)
      exact ⟨S, A', R', st⟩
    | ex c =>
      cases h
      obtain ⟨ef, a, C, ev, h1, h2⟩ := hr
      have ef' : f = [] := ef
      have ev' : v = .ref a := ev
      subst ef' ev'
      obtain ⟨A', R', st⟩ := store hi R.forget nd off (Slots.ex h1 h2 .nil)
      exact ⟨S, A', R', st⟩
    | bor j =>
      obtain ⟨ef, ev⟩ := hr
      have ef' : f = [] := ef
      subst ef'
      have ev' : σ[j]? = some (some v) := ev
      match hj : e[j]?, h with
      | some (some (.dt d n)), h =>
        simp only [hj] at h
        cases h
        obtain ⟨S1, A1, w, R1, e1, rp, st1⟩ := R.forget.share hj
        rw [ev'] at e1
        cases e1
        have n1 : (A1 ++ []).Nodup := R1.nod
        obtain ⟨A', R', st⟩ := store (F := []) (by rw [List.length_set]; exact hi) R1 n1 (fun a ha => nomatch ha) (by have := Slots.dt (G := G) (S := S1) (H := H) (σ := []) (e := []) (A := []) (n := 0) (f := []) (v := v) (d := d) ⟨rfl, rp⟩ .nil; exact this)
        exact ⟨S1, A', R', st1.trans st⟩
      | some (some (.ex c)), h => simp [hj] at h
      | some (some (.fz c)), h => simp [hj] at h
      | some none, h => simp [hj] at h
      | none, h => simp [hj] at h
  · rw [if_neg hi] at h; cases h
theorem set_ok {i : Nat} {fa : Ev → Res RV} (hP : P i = false) (h : tS G W P (fSet i fa) D σ H) : tR G W fa σ H fun x H1 => D.nx (σ.set i (some x)) H1 :=
  toS_ok h fun S A r e1 v H1 S1 A1 f q R st => by
    have q : PostS G W P D S A H σ (match putR i r e1 with | some e2 => .nx e2 | none => .no) := q
    cases z : putR i r e1 with
    | none => rw [z] at q; exact q.elim
    | some e2 =>
      rw [z] at q
      obtain ⟨S2, A2, R2, st2⟩ := putR_ok R z
      exact q _ _ _ _ R2 (st.trans st2) (Pin.set hP)
theorem ret_ok {fa : Ev → Res RV} (h : tS G W P (fRet fa) D σ H) : tR G W fa σ H D.rt :=
  toS_ok h fun S A r e1 v H1 S1 A1 f q R st => by
    cases r with
    | val d n => exact q v σ H1 S1 A1 f R st .refl
    | ex c => exact q.elim
    | bor j =>
      have hr := R.tmps _ (List.mem_singleton.mpr rfl)
      obtain ⟨ef, ev⟩ := hr
      have ef' : f = [] := ef
      subst ef'
      have ev' : σ[j]? = some (some v) := ev
      simp only at q
      match hj : e1[j]?, q with
      | some (some (.dt d n)), q =>
        obtain ⟨w, g, B, C, e3, e4, o, k, sl2⟩ := R.slots.at j hj
        rw [ev'] at e3
        cases e3
        obtain ⟨n1, n2, n3⟩ := nodup_app.mp R.nod
        rw [e4] at n1
        obtain ⟨p, q3, r3⟩ := nodup_app.mp n1
        obtain ⟨p1, p2, p3⟩ := nodup_app.mp p
        have memA : ∀ a, a ∈ (B ++ C) ++ g → a ∈ A1 := fun a ha => by
          rw [e4]
          rcases List.mem_append.mp ha with z | z
          · rcases List.mem_append.mp z with z | z <;> simp [z]
          · simp [z]
        refine q v σ H1 S1 (B ++ C) g ⟨R.sub, ?_, ?_, sl2, ?_⟩ (st.less fun a ha => List.mem_append_left _ (memA a ha)) .refl
        · rw [fps_one]
          refine nodup_app.mpr ⟨nodup_app.mpr ⟨p1, q3, fun a ha => r3 a (List.mem_append_left _ ha)⟩, p2, fun a ha z => ?_⟩
          rcases List.mem_append.mp ha with w | w
          · exact p3 a w z
          · exact r3 a (List.mem_append_right _ z) w
        · intro a ha
          rw [fps_one] at ha
          exact R.off a (List.mem_append_left _ (memA a ha))
        · intro t ht
          rw [List.mem_singleton] at ht
          subst ht
          exact o
      | some (some (.ex c)), q => exact q.elim
      | some (some (.fz c)), q => exact q.elim
      | some none, q => exact q.elim
      | none, q => exact q.elim
end
end PV

/-! PVG0: defs called where no repr runs (guards known): FnG, its rule, its calls, the law's end. -/
namespace PV
open PySem PySem.Spec PyProof.Rows L2

theorem guards_deeper (A : Around) (env : Env) : (A.deeper env).guards = A.guards := by
  first | rfl | (cases A; rfl)

/-- as FnOk with the exceptions' CX, for callers outside every repr -/
structure FnG (P : Program) (w : World) (K : PySem.W.Frag) (mg : Str → Option Value) (base : Heap) (k : Nat) (f : Addr) (fd : FuncData) (ps : List Str) (sp : Sp) : Prop where
  len : ∀ vs H Q E, sp vs H Q E → vs.length = ps.length
  run : ∀ (A : Around) (outer : List Env) (s : Shared) (H : Hp) (args : Args) (us : List Value) (vs : List V) (Q : VK) (E : XK),
    Room k A → A.guards = some [] → Env0 P w K mg base A outer s H → BindsTo s fd args (ps.zip us) → Vals vs us → sp vs H Q E →
      codeAny (model P w) A (.call (.ref f) args) (CR (L2.CX P w) outer P w H s Q E) s
theorem FnG.mono {P : Program} {w : World} {K : PySem.W.Frag} {mg : Str → Option Value} {base : Heap} {j k : Nat} {f : Addr} {fd : FuncData} {ps : List Str} {sp : Sp} (F : FnG P w K mg base j f fd ps sp) (h : j ≤ k) : FnG P w K mg base k f fd ps sp :=
  ⟨F.len, fun A outer s H args us vs Q E r => F.run A outer s H args us vs Q E (r.mono h)⟩

/-- THE RULE for a def of the text -/
theorem fn_g {P : Program} {w : World} {K : PySem.W.Frag} {mg : Str → Option Value} {base : Heap} {x qual : Str} {st : Stmt} {f : Addr} {fd : FuncData} {N ps : List Str} {k : Nat} {sp : Sp}
    (F : Fun K x qual st f fd) (Sc : FnScope N ps (defScope st)) (len : ∀ vs H Q E, sp vs H Q E → vs.length = ps.length)
    (hb : ∀ (cdv : Value) (A : Around) (outer : List Env) (s : Shared) (H : Hp) (vs : List V) (Q : VK) (E : XK), Room k (A.deeper (envOfC qual (defScope st) s.heap.objs.size f cdv)) → A.guards = some [] → sp vs H Q E →
      ∃ t, PSs (cxOf (L2.CX P w) P w K mg base N qual (defScope st) f cdv A outer s H E) (defBody st) t ∧ t { nx := fun _ H' => Q .non H', rt := Q } (L2.start N vs) H) :
    FnG P w K mg base (k + 1) f fd ps sp := by
  obtain ⟨oc, od, kV, doc, pm, an, cdv, ct, osl, efd, lk, hcd⟩ := F.ex
  subst efd
  constructor
  · exact len
  intro A outer s H args us vs Q E room gd e0 bd vals hsp
  have lenV : vs.length = ps.length := len vs H Q E hsp
  have kin : K.In s.heap := e0.mod.kin.keeps (fun b o z => (e0.bs b o z).1)
  have nolim : s.heap.NoLimit := e0.mod.nolimit.keeps (fun b o z => (e0.bs b o z).1)
  have pars : ∀ y ∈ ps.zip us, (defScope st).names.lookup y.1 = some .local ∨
      ((defScope st).names.lookup y.1 = some .cell ∧ ((cellsFrom (s.heap.objs.size + 1) (defScope st).names []).lookup y.1).isSome = true) := by
    rintro ⟨n, u⟩ hy
    rcases Sc.par n (List.of_mem_zip hy).1 with q | q
    · exact Or.inl q
    · exact Or.inr ⟨q, PySem.W.cellsFrom_some _ _ _ (Or.inl q)⟩
  apply codeAny_call_function room.depth (kin _ _ lk) rfl Sc.co Sc.gen rfl (PySem.W.codeRec_of kin hcd)
  apply bd
  apply wpAny_newFunctionEnv_cells Sc.kind pars
  intro env henv s1 made
  subst henv
  refine ⟨nolim.keeps made.toInCall.keep, codeAny_func ?_⟩
  obtain ⟨t, ht, hq⟩ := hb cdv A outer s H vs Q E (room.deeper _) gd hsp
  have inv : Inv (cxOf (L2.CX P w) P w K mg base N qual (defScope st) f cdv A outer s H E) [] (L2.start N vs) H s1 := inv_start Sc room.hd e0 lenV vals made
  apply wpAny_mono (ht.run [] s1 (L2.start N vs) H _ inv hq)
  · intro fl s' hs
    cases fl with
    | ret u => exact (let ⟨v, _, H', J, rv, q⟩ := hs; ⟨v, H', J.os, J.bare, J.base, J.hok, rv, q⟩)
    | next => exact (let ⟨_, H', J, q⟩ := hs; ⟨V.non, H', J.os, J.bare, J.base, J.hok, rfl, q⟩)
    | brk => exact (let ⟨_, _, _, q⟩ := hs; False.elim q)
    | cont => exact (let ⟨_, _, _, q⟩ := hs; False.elim q)
  · exact fun e s' hs => hs

section
variable {X : Cx} {k : Nat} {f : Addr} {fd : FuncData} {ps : List Str} {sp : Sp} {E : L2.St → XK} {x : Str} {p pos : Pos} {e : Expr} {es : List Expr} {t : TA}
/-- a call of such a def, at a function's value -/
theorem run_g {pins : List (Addr × Obj)} {σ : L2.St} {H : Hp} {s : Shared} {Q : VK} {us : List Value} {vs : List V} (F : FnG X.prog X.w X.K X.mg X.base k f fd ps sp) (room : Room k X.A) (gd : X.A.guards = some []) (bd : Binds X.K fd ps [])
    (hx : PassesAt (L2.CX X.prog X.w) X σ (E σ)) (I : Inv X pins σ H s) (r : Vals vs us) (h : sp vs H Q (E σ)) : wpAny (model X.prog X.w) X.A (call (.ref f) us) (EP X pins σ Q) X.xe s := by
  have hl : us.length = ps.length := r.length.symm.trans (F.len vs H Q _ h)
  have b := bd s us I.kIn (by simpa using hl)
  rw [List.append_nil] at b
  apply wpAny_call
  apply codeAny_mono (F.run X.A X.stack s H ⟨us, []⟩ us vs Q (E σ) room gd I.env0 b r h)
  intro res s' hq
  cases res with
  | error e => exact hx pins H s e s' I hq
  | ok fl => cases fl <;> first | exact I.after hq | exact hq.elim
theorem pe_g (F : FnG X.prog X.w X.K X.mg X.base k f fd ps sp) (room : Room k X.A) (gd : X.A.guards = some []) (hg : Gl X x) (hm : X.mg x = some (.ref f)) (hk : PySem.W.keepIn X.K (.ref f) = true) (bd : Binds X.K fd ps []) (hx : ∀ σ, PassesAt (L2.CX X.prog X.w) X σ (E σ))
    (ha : PA X (e :: es) t) (hdb : (x == ("__debug__" : Str)) = false := by decide) (he : starEach (e :: es) X.env = (false, eval e X.env) :: starEach es X.env := by rfl) (hpl : (backTo pos (starEach es X.env)).any (·.1) = false := by rfl) :
    PE X (.Call (.Name x p) (e :: es) [] pos) (tCallS sp E t) := by
  constructor
  intro pins s σ H Q I h
  apply wpAny_Call_Name_kw
  apply ld_glob I hg hm _ hdb
  refine PySem.W.callWith_K (h₀ := X.base) I.ok.mod.kin hk (thn (ha.run pos pins s σ H _ I h) ?_) he hpl
  rintro us s1 ⟨vs, H1, I1, r, q⟩
  exact ⟨I1.kIn, run_g F room gd bd (hx σ) I1 r q⟩
end
end PV

/-! PVE: rules for statements, a def's promise (spF), its body, its calls. -/
namespace PV
open PySem PySem.Spec PyProof.Rows L2

section
variable {X : Cx} {W : WX} {P : Nat → Bool} {pos : Pos} {fa fc : Ev → Res RV} {f g : Ev → SRes} {st : Stmt} {rest a b : List Stmt} {e c : Expr}
theorem ess_nil : ESs X W P [] fNx := PSs.imp pss_nil fun _ _ _ q => nx_ok q
theorem ess_cons (h1 : ES X W P st f) (h2 : ESs X W P rest g) : ESs X W P (st :: rest) (fSeq f g) := PSs.imp (pss_cons h1 h2) fun _ _ _ q => seq_ok q
theorem ess_one (h1 : ES X W P st f) : ESs X W P [st] f := pss_one h1
theorem es_pass : ES X W P (.Pass pos) fNx := PS.imp ps_pass fun _ _ _ q => nx_ok q
theorem es_expr (he : EE X W e fa) (hs : swapsWith e none pos.line X.env = pure false := by rfl) : ES X W P (.Expr e pos) (fDrop fa) :=
  PS.imp (ps_expr he hs) fun _ _ _ q => toS_ok q fun S A r e1 v H1 S1 A1 f q R st => q _ _ _ _ R.forget (st.less fun _ z => List.mem_append_left _ z) .refl
theorem es_set {i : Nat} {x : Str} {pos' : Pos} (hP : P i = false) (hN : X.N.Nodup) (hi : X.N[i]? = some x) (hx : Loc X.env.scope x) (he : EE X W e fa) (hs : swapsWith e (some (.Name x pos')) pos.line X.env = pure false := by rfl) (hf : X.fn x = true ∨ X.env.scope.names.lookup x = some .local := by first | exact .inl rfl | exact .inr rfl | assumption) :
    ES X W P (.Assign [.Name x pos'] e pos) (fSet i fa) := PS.imp (ps_set hN hi hx he hs hf) fun _ _ _ q => set_ok hP q
theorem es_ret (he : EE X W e fa) : ES X W P (.Return (some e) pos) (fRet fa) := PS.imp (ps_ret he) fun _ _ _ q => ret_ok q
def fRetN (e : Ev) : SRes := .rt .none 0 e
theorem es_retN : ES X W P (.Return none pos) fRetN := PS.imp ps_retN fun D σ H q => by
  obtain ⟨S, e, A, C, q⟩ := q
  exact q .non σ H S A [] (C.one ⟨rfl, .non⟩ rfl) .refl0 .refl
def fBk (e : Ev) : SRes := .bk e
def fCt (e : Ev) : SRes := .ct e
theorem es_break : ES X W P (.Break pos) fBk := PS.imp ps_break fun D σ H q => by
  obtain ⟨S, e, A, C, q⟩ := q
  exact q σ H S A C .refl .refl
theorem es_continue : ES X W P (.Continue pos) fCt := PS.imp ps_continue fun D σ H q => by
  obtain ⟨S, e, A, C, q⟩ := q
  exact q σ H S A C .refl .refl
theorem if_ok {G : Gx} {D : Ends} {σ : L2.St} {H : Hp} (h : tS G W P (fIf fc f g) D σ H) : tT G W fc σ H fun b H1 => if b = true then tS G W P f D σ H1 else tS G W P g D σ H1 := by
  obtain ⟨S, e, A, C, h⟩ := h
  refine ⟨S, e, A, C, ?_⟩
  have h' : PostS G W P D S A H σ ((fc e).toS fun r e1 => match r with | .val (.bool true) _ => f e1 | .val (.bool false) _ => g e1 | _ => .no) := h
  cases q : fc e with
  | no => rw [q] at h'; exact h'
  | exc c e1 => rw [q] at h'; exact fun H' S' A' C hC R st => h' σ H' S' A' C hC R st .refl
  | ok r e1 =>
    rw [q] at h'
    cases r with
    | bor i => exact h'
    | ex c => exact h'
    | val d n =>
      cases d with
      | bool b =>
        intro H' S' A' R st
        cases b with
        | true => rw [if_pos rfl]; exact ⟨S', e1, A', R, PostS.pre st .refl (show PostS G W P D S A H σ (f e1) from h')⟩
        | false => rw [if_neg Bool.false_ne_true]; exact ⟨S', e1, A', R, PostS.pre st .refl (show PostS G W P D S A H σ (g e1) from h')⟩
      | _ => exact h'
theorem es_if (hc : ET X W c fc) (ha : ESs X W P a f) (hb : ESs X W P b g) : ES X W P (.If c a b pos) (fIf fc f g) := PS.imp (ps_if hc ha hb) fun _ _ _ q => if_ok q
end

/-! ### a def's promise -/
/-- what a def gives: data with its owned levels (and, of a def that changes its first argument, what this is then); an exception; nothing is claimed -/
inductive FRes where
  | rt (d : PyData) (n : Nat) (o : PyData)
  | exc (c : Str)
  | no
abbrev Den := List Vl → FRes
/-- io: the first argument is an owned list, changed by the def -/
def spF (G : Gx) (io : Bool) (np : Nat) (F : Den) : Sp := fun vs H Q E => vs.length = np ∧ ∃ S as A0, Slots G S H (vs.map some) (as.map some) A0 ∧ Same S H ∧ A0.Nodup ∧ (∀ a ∈ A0, S a = none) ∧ (io = false → A0 = []) ∧
  match F as with
  | .rt d n o => ∀ v H' S' A' f, Step S A0 H S' (A' ++ f) H' → Same S' H' → (A' ++ f).Nodup → (∀ a ∈ A' ++ f, S' a = none) → Own G.K S' H' n v d f → (io = true → ∃ v0, vs[0]? = some v0 ∧ Own G.K S' H' 1 v0 o A') → (io = false → A' = []) → Q v H'
  | .exc c => ∀ H' S' A' C, G.cl c = some C → Step S A0 H S' A' H' → Same S' H' → E (.ref C) none H'
  | .no => False

/-- a def's body, run -/
def ioOf (io : Bool) (e : Ev) : Option PyData := if io = true then (match e[0]? with
    | some (some (Vl.dt o 1)) => some o
    | _ => none) else some .none
def runDef (io : Bool) (N : Nat) (fb : Ev → SRes) (as : List Vl) : FRes :=
  match fb (as.map some ++ List.replicate (N - as.length) none) with
  | .rt d n e' => match ioOf io e' with
    | some o => .rt d n o
    | none => .no
  | .nx e' => match ioOf io e' with
    | some o => .rt .none 0 o
    | none => .no
  | .exc c _ => .exc c
  | _ => .no
theorem ioOf_ok {io : Bool} {e : Ev} {o : PyData} (h : ioOf io e = some o) : (io = true → e[0]? = some (some (.dt o 1))) ∧ (io = false → o = .none) := by
  unfold ioOf at h
  cases io with
  | false => rw [if_neg Bool.false_ne_true] at h; cases h; exact ⟨fun z => (nomatch z), fun _ => rfl⟩
  | true =>
    rw [if_pos rfl] at h
    refine ⟨fun _ => ?_, fun z => (nomatch z)⟩
    split at h
    · rename_i o' q
      cases h
      exact q
    · cases h
def pinOf (io : Bool) (i : Nat) : Bool := io && i == 0

section
variable {G : Gx} {S H : Hp}
theorem Slots.app : ∀ {σ : L2.St} {e : Ev} {A : List Addr} (m : Nat), Slots G S H σ e A → Slots G S H (σ ++ List.replicate m Option.none) (e ++ List.replicate m Option.none) A
  | _, _, _, 0, .nil => .nil
  | _, _, _, m + 1, .nil => .none (Slots.app m .nil)
  | _, _, _, m, .none h => .none (Slots.app m h)
  | _, _, _, m, .dt o h => .dt o (Slots.app m h)
  | _, _, _, m, .ex h1 h2 h => .ex h1 h2 (Slots.app m h)
  | _, _, _, m, .fz h1 h2 h => .fz h1 h2 (Slots.app m h)
end
abbrev wE (E : XK) : WX := fun cls d _ H => E cls d H
/-- THE RULE for a def -/
theorem fn_den {Pg : Program} {w : World} {K : PySem.W.Frag} {mg : Str → Option Value} {base : Heap} {x qual : Str} {st : Stmt} {f : Addr} {fd : FuncData} {N ps : List Str} {k : Nat} {io : Bool} {fb : Ev → SRes}
    (F : Fun K x qual st f fd) (Sc : FnScope N ps (defScope st)) (hps : io = true → 0 < ps.length)
    (hb : ∀ (cdv : Value) (A : Around) (outer : List Env) (s : Shared) (H : Hp) (E : XK), Room k (A.deeper (envOfC qual (defScope st) s.heap.objs.size f cdv)) → A.guards = some [] →
      ESs (cxOf (L2.CX Pg w) Pg w K mg base N qual (defScope st) f cdv A outer s H E) (wE E) (pinOf io) (defBody st) fb) :
    FnG Pg w K mg base (k + 1) f fd ps (spF ⟨K, clOf mg⟩ io ps.length (runDef io N.length fb)) := by
  refine fn_g F Sc (fun vs H Q E h => h.1) fun cdv A outer s H vs Q E hr gd h => ⟨_, hb cdv A outer s H E hr gd, ?_⟩
  obtain ⟨hl, S, as, A0, sl, sub, nd, off, hio, h⟩ := h
  have hla : as.length = vs.length := by
    have := sl.length
    rw [List.length_map, List.length_map] at this
    exact this.symm
  have sl' := sl.app (N.length - vs.length)
  have C0 : Cu ⟨K, clOf mg⟩ S H (L2.start N vs) (as.map some ++ List.replicate (N.length - as.length) none) A0 [] := by
    refine ⟨sub, ?_, fun a ha => off a ?_, by rw [hla]; exact sl', fun t ht => nomatch ht⟩
    · show (A0 ++ []).Nodup
      rw [List.append_nil]; exact nd
    · have : a ∈ A0 ++ [] := ha
      rwa [List.append_nil] at this
  refine ⟨S, _, A0, C0, ?_⟩
  have key : ∀ {o : PyData} {v : V} {d : PyData} {n : Nat} {e' : Ev} {σ' : L2.St} {H' S' : Hp} {A' f' : List Addr}, ioOf io e' = some o →
      (∀ v H' S' A' f, Step S A0 H S' (A' ++ f) H' → Same S' H' → (A' ++ f).Nodup → (∀ a ∈ A' ++ f, S' a = none) → Own K S' H' n v d f → (io = true → ∃ v0, vs[0]? = some v0 ∧ Own K S' H' 1 v0 o A') → (io = false → A' = []) → Q v H') →
      Cu ⟨K, clOf mg⟩ S' H' σ' e' A' [⟨.val d n, v, f'⟩] → Step S A0 H S' (A' ++ f') H' → Pin (pinOf io) (L2.start N vs) σ' → Q v H' := by
    intro o v d n e' σ' H' S' A' f' ho hq R st' pn
    obtain ⟨ho1, ho2⟩ := ioOf_ok ho
    have nd' := R.nod
    rw [fps_one] at nd'
    have off' : ∀ a ∈ A' ++ f', S' a = none := fun a ha => R.off a (by rw [fps_one]; exact ha)
    have ow : Own K S' H' n v d f' := R.tmps _ (List.mem_singleton.mpr rfl)
    cases io with
    | false => exact hq v H' S' [] f' (st'.less fun a ha => List.mem_append_right _ ha) R.sub (nodup_app.mp nd').2.1 (fun a ha => off' a (List.mem_append_right _ ha)) ow (fun z => nomatch z) fun _ => rfl
    | true =>
      obtain ⟨v0, f0, B, C, e1, e2, o0, _⟩ := R.slots.at 0 (ho1 rfl)
      have e3 := pn.2 0 rfl
      rw [e1] at e3
      have e4 : vs[0]? = some v0 := by
        have h0 : 0 < vs.length := by rw [hl]; exact hps rfl
        cases vs with
        | nil => simp at h0
        | cons a r =>
          unfold L2.start at e3
          rw [List.map_cons, List.cons_append, List.getElem?_cons_zero] at e3
          simp at e3
          simp [e3]
      have memA : ∀ a, a ∈ f0 ++ f' → a ∈ A' ++ f' := fun a ha => by
        rcases List.mem_append.mp ha with z | z
        · rw [e2]; simp [z]
        · simp [z]
      refine hq v H' S' f0 f' (st'.less memA) R.sub ?_ (fun a ha => off' a (memA a ha)) ow (fun _ => ⟨v0, e4, o0⟩) fun z => nomatch z
      obtain ⟨p, q, r⟩ := nodup_app.mp nd'
      rw [e2] at p r
      exact nodup_app.mpr ⟨(nodup_app.mp (nodup_app.mp p).1).2.1, q, fun a ha => r a (by simp [ha])⟩
  unfold runDef at h
  cases q : fb (as.map some ++ List.replicate (N.length - as.length) none) with
  | no => rw [q] at h; exact h
  | bk e' => rw [q] at h; exact h.elim
  | ct e' => rw [q] at h; exact h.elim
  | exc c e' =>
    rw [q] at h
    intro σ' H' S' A' C hC R st' pn
    exact h H' S' A' C hC st' R.sub
  | rt d n e' =>
    rw [q] at h
    intro v σ' H' S' A' f' R st' pn
    simp only at h
    cases ho : ioOf io e' with
    | none => rw [ho] at h; exact h.elim
    | some o => rw [ho] at h; exact key ho h R st' pn
  | nx e' =>
    rw [q] at h
    intro σ' H' S' A' R st' pn
    have R' : Cu ⟨K, clOf mg⟩ S' H' σ' e' A' [⟨.val .none 0, .non, []⟩] := R.one ⟨rfl, .non⟩ rfl
    have st2 : Step S A0 H S' (A' ++ []) H' := by rw [List.append_nil]; exact st'
    simp only at h
    cases ho : ioOf io e' with
    | none => rw [ho] at h; exact h.elim
    | some o => rw [ho] at h; exact key ho h R' st2 pn
end PV

/-! PVF: calls of defs. -/
namespace PV
open PySem PySem.Spec PyProof.Rows L2

def settleV : List RV → Ev → Option (List Vl × Ev)
  | [], e => some ([], e)
  | .val d _ :: rs, e => match settleV rs e with
    | some (ds, e') => some (.dt d 0 :: ds, e')
    | none => none
  | .bor i :: rs, e => match e[i]? with
    | some (some (.dt d _)) => match settleV rs (e.set i (some (.dt d 0))) with
      | some (ds, e') => some (.dt d 0 :: ds, e')
      | none => none
    | some (some (.fz l)) => match settleV rs e with
      | some (ds, e') => some (.fz l :: ds, e')
      | none => none
    | _ => none
  | .ex c :: rs, e => match settleV rs e with
    | some (ds, e') => some (.ex c :: ds, e')
    | none => none

section
variable {G : Gx} {W : WX} {S S' H H' S0 H0 : Hp} {σ : L2.St} {e : Ev} {A A' A0 : List Addr} {ts : List Tmp}
theorem Cu.tail {t : Tmp} {S1 : Hp} (R : Cu G S H σ e A (t :: ts)) (s1 : Same S S1) (s2 : Same S1 H) (off : ∀ a ∈ A ++ fps ts, S1 a = none) : Cu G S1 H σ e A ts := by
  obtain ⟨n1, n2, n3⟩ := nodup_app.mp R.nod
  have hfp : fps (t :: ts) = t.f ++ fps ts := rfl
  rw [hfp] at n2 n3
  obtain ⟨m1, m2, m3⟩ := nodup_app.mp n2
  exact ⟨s2, nodup_app.mpr ⟨n1, m2, fun a ha z => n3 a ha (List.mem_append_right _ z)⟩, off, R.slots.keep s1 fun _ _ _ q => q, fun u hu => (R.tmps u (List.mem_cons_of_mem _ hu)).keep s1 fun _ _ _ q => q⟩
theorem settleV_ok : ∀ {ts : List Tmp} {S : Hp} {e : Ev} {A : List Addr} {ds : List Vl} {e' : Ev}, Cu G S H σ e A ts → settleV (ts.map (·.r)) e = some (ds, e') →
    ∃ S' A', Cu G S' H σ e' A' [] ∧ (∀ S2 H2, Same S' S2 → Slots G S2 H2 ((ts.map (·.v)).map some) (ds.map some) []) ∧ Step S (A ++ fps ts) H S' A' H
  | [], S, e, A, ds, e', R, h => by
    cases h
    exact ⟨S, A, R, fun _ _ _ => .nil, Step.refl.less fun a ha => List.mem_append_left _ ha⟩
  | ⟨r, v, f⟩ :: ts, S, e, A, ds, e', R, h => by
    obtain ⟨n1, n2, n3⟩ := nodup_app.mp R.nod
    have hfp : fps (⟨r, v, f⟩ :: ts) = f ++ fps ts := rfl
    rw [hfp] at n2 n3
    obtain ⟨m1, m2, m3⟩ := nodup_app.mp n2
    have hr := R.tmps _ List.mem_cons_self
    have st0 : Step S (A ++ fps (⟨r, v, f⟩ :: ts)) H S (A ++ fps ts) H := Step.refl.less fun a ha => by
      rw [hfp]
      rcases List.mem_append.mp ha with z | z
      · exact List.mem_append_left _ z
      · exact List.mem_append_right _ (List.mem_append_right _ z)
    have R1 : Cu G S H σ e A ts := R.tail (Same.refl S) R.sub fun a ha => R.off a (by
      rw [hfp]
      rcases List.mem_append.mp ha with z | z
      · exact List.mem_append_left _ z
      · exact List.mem_append_right _ (List.mem_append_right _ z))
    cases r with
    | ex c =>
      obtain ⟨ef, a, C, ev, h1, h2⟩ := hr
      have ev' : v = .ref a := ev
      subst ev'
      rw [List.map_cons, settleV] at h
      cases q : settleV (ts.map (·.r)) e with
      | none => rw [q] at h; cases h
      | some p =>
        obtain ⟨ds', e2⟩ := p
        rw [q] at h
        cases h
        obtain ⟨S', A', R', rp, st⟩ := settleV_ok R1 q
        exact ⟨S', A', R', fun S2 H2 z => .ex (z _ _ (st.sub _ _ h1)) h2 (rp S2 H2 z), st0.trans st⟩
    | val d n =>
      rw [List.map_cons, settleV] at h
      cases q : settleV (ts.map (·.r)) e with
      | none => rw [q] at h; cases h
      | some p =>
        obtain ⟨ds', e2⟩ := p
        rw [q] at h
        cases h
        have hr' : Own G.K S H n v d f := hr
        have T : Cu G (addH S H f) H σ e A ts := R.tail (same_addH R.sub f) (addH_same R.sub f) fun a ha => by
          rw [addH_out]
          · refine R.off a ?_
            rw [hfp]
            rcases List.mem_append.mp ha with z | z
            · exact List.mem_append_left _ z
            · exact List.mem_append_right _ (List.mem_append_right _ z)
          · intro z
            rcases List.mem_append.mp ha with w | w
            · exact n3 a w (List.mem_append_left _ z)
            · exact m3 a z w
        obtain ⟨S', A', R', rp, st⟩ := settleV_ok T q
        have hp := (hr'.freeze R.sub (l := f) fun _ z => z).mn st.sub
        refine ⟨S', A', R', fun S2 H2 z => ?_, (Step.give R.sub ?_ ?_).trans st⟩
        · have := Slots.dt (G := G) (S := S2) (H := H2) (n := 0) (v := v) (d := d) (f := []) ⟨rfl, hp.mn z⟩ (rp S2 H2 z)
          exact this
        · intro a ha
          rw [hfp]
          exact List.mem_append_right _ (List.mem_append_left _ ha)
        · intro a ha
          rw [hfp]
          rcases List.mem_append.mp ha with z | z
          · exact List.mem_append_left _ z
          · exact List.mem_append_right _ (List.mem_append_right _ z)
    | bor i =>
      obtain ⟨ef, ev⟩ := hr
      rw [List.map_cons, settleV] at h
      match hi : e[i]?, h with
      | some (some (.dt d n)), h =>
        simp only [hi] at h
        cases q : settleV (ts.map (·.r)) (e.set i (some (.dt d 0))) with
        | none => rw [q] at h; cases h
        | some p =>
          obtain ⟨ds', e2⟩ := p
          rw [q] at h
          cases h
          obtain ⟨S1, A1, v1, R2, e1, rp1, st1⟩ := R1.share hi
          have ev' : σ[i]? = some (some v) := ev
          rw [ev'] at e1
          cases e1
          obtain ⟨S', A', R', rp, st⟩ := settleV_ok R2 q
          refine ⟨S', A', R', fun S2 H2 z => ?_, st0.trans (st1.trans st)⟩
          have := Slots.dt (G := G) (S := S2) (H := H2) (n := 0) (v := v) (d := d) (f := []) ⟨rfl, (rp1.mn st.sub).mn z⟩ (rp S2 H2 z)
          exact this
      | some (some (.ex c)), h => simp [hi] at h
      | some (some (.fz l)), h =>
        simp only [hi] at h
        cases q : settleV (ts.map (·.r)) e with
        | none => rw [q] at h; cases h
        | some p =>
          obtain ⟨ds', e2⟩ := p
          rw [q] at h
          cases h
          obtain ⟨a, vs, e1, h1, h2⟩ := R1.slots.fzAt hi
          have ev' : σ[i]? = some (some v) := ev
          rw [e1] at ev'
          cases ev'
          obtain ⟨S', A', R', rp, st⟩ := settleV_ok R1 q
          exact ⟨S', A', R', fun S2 H2 z => .fz (Same.seqL (st.sub.trans z) h1) (h2.mn (st.sub.trans z)) (rp S2 H2 z), st0.trans st⟩
      | some none, h => simp [hi] at h
      | none, h => simp [hi] at h
end

/-- a call's value, its arguments reckoned -/
def callK (np : Nat) (F : Den) (rs : List RV) (e : Ev) : Res RV := match settleV rs e with
  | some (as, e2) => if as.length = np then (match F as with
    | .rt d n _ => .ok (.val d n) e2
    | .exc c => .exc c e2
    | .no => .no) else .no
  | none => .no
def fCall (np : Nat) (F : Den) (fs : List (Ev → Res RV)) (e : Ev) : Res RV := (fArgs fs e).bind fun rs e1 => callK np F rs e1
/-- the def changes its first argument, slot i's owned list -/
def ioK (np : Nat) (F : Den) (i : Nat) (rs : List RV) (e : Ev) : Res RV := match e[i]? with
  | some (some (.dt w 1)) => match settleV rs (e.set i none) with
    | some (as, e2) => if as.length + 1 = np then (match F (.dt w 1 :: as) with
      | .rt d n o => .ok (.val d n) (e2.set i (some (.dt o 1)))
      | _ => .no) else .no
    | none => .no
  | _ => .no
def fCallIo (np : Nat) (F : Den) (i : Nat) (fs : List (Ev → Res RV)) (e : Ev) : Res RV := match e[i]? with
  | some (some (.dt _ _)) => (fArgs fs e).bind fun rs e1 => ioK np F i rs e1
  | _ => .no
section
variable {G : Gx} {W : WX} {S S1 H H1 S0 H0 : Hp} {σ : L2.St} {e e1 : Ev} {A A1 A0 : List Addr} {us : List Tmp} {Q : VK}
theorem call_ok {np : Nat} {F : Den} (R1 : Cu G S1 H1 σ e1 A1 us) (st1 : Step S0 A0 H0 S1 (A1 ++ fps us) H1) (q2 : PostE G W S0 H0 σ A0 Q (callK np F (us.map (·.r)) e1)) : spF G false np F (us.map (·.v)) H1 Q (WE W σ) := by
  unfold callK at q2
  cases r2 : settleV (us.map (·.r)) e1 with
  | none => rw [r2] at q2; exact q2.elim
  | some p =>
    obtain ⟨as, e2⟩ := p
    rw [r2] at q2
    simp only at q2
    by_cases hl : as.length = np
    · rw [if_pos hl] at q2
      obtain ⟨S2, A2, R2, sl, st2⟩ := settleV_ok R1 r2
      have sl2 := sl S2 H1 (Same.refl S2)
      have hlen : (us.map (·.v)).length = np := by
        have h := sl2.length
        rw [List.length_map, List.length_map, List.length_map] at h
        rw [List.length_map, h]; exact hl
      have hA : ∀ a ∈ A2, H1 a ≠ none := fun a ha => R2.trk (List.mem_append_left _ ha)
      have nA2 : A2.Nodup := by
        have h2 : (A2 ++ []).Nodup := R2.nod
        rwa [List.append_nil] at h2
      have oA2 : ∀ a ∈ A2, S2 a = none := fun a ha => R2.off a (List.mem_append_left _ ha)
      have offA : ∀ {S' H' : Hp} {B : List Addr}, Step S2 [] H1 S' B H' → ∀ a ∈ A2, S' a = none := fun {S' H' B} st a ha => by
        cases z : S' a with
        | none => rfl
        | some o =>
          rcases st.subF a o z with y | y | y
          · rw [oA2 a ha] at y; cases y
          · exact absurd y (hA a ha)
          · exact nomatch y
      refine ⟨hlen, S2, as, [], sl2, R2.sub, List.nodup_nil, (fun a z => absurd z List.not_mem_nil), (fun _ => rfl), ?_⟩
      cases r3 : F as with
      | no => rw [r3] at q2; exact q2
      | exc c =>
        rw [r3] at q2
        intro H' S' A' C hC st sub
        refine q2 H' S' A2 C hC ⟨sub, R2.nod, fun a ha => ?_, R2.slots.keep st.sub fun b _ o z => st.frame b o z (List.not_mem_nil), fun t ht => nomatch ht⟩ ((st1.trans st2).trans ⟨fun b o z _ => st.frame b o z (List.not_mem_nil), st.grow, st.sub, fun b o z => (st.subF b o z).imp id (.imp id fun y => nomatch y), fun a ha => .inl ha⟩)
        have ha' : a ∈ A2 := by
          have h : a ∈ A2 ++ [] := ha
          rwa [List.append_nil] at h
        exact offA st a ha'
      | rt d n o =>
        rw [r3] at q2
        intro v H' S' A' g st sub nd off ow _ hA'
        have eA : A' = [] := hA' rfl
        subst eA
        have ndg : g.Nodup := nd
        have offg : ∀ a ∈ g, S' a = none := off
        have gH : ∀ a ∈ g, H1 a = none := fun a ha => by
          rcases st.own a ha with y | y
          · exact nomatch y
          · exact y
        refine q2 v H' S' A2 g ⟨sub, ?_, ?_, R2.slots.keep st.sub fun b _ o z => st.frame b o z (List.not_mem_nil), ?_⟩ ((st1.trans st2).trans ⟨fun b o z _ => st.frame b o z (List.not_mem_nil), st.grow, st.sub, fun b o z => (st.subF b o z).imp id (.imp id fun y => nomatch y), fun a ha => ?_⟩)
        · rw [fps_one]
          exact nodup_app.mpr ⟨nA2, ndg, fun a ha z => hA a ha (gH a z)⟩
        · intro a ha
          rw [fps_one] at ha
          rcases List.mem_append.mp ha with z | z
          · exact offA st a z
          · exact offg a z
        · intro t ht
          rw [List.mem_singleton] at ht
          subst ht
          exact ow
        · rcases List.mem_append.mp ha with z | z
          · exact .inl z
          · exact .inr (gH a z)
    · rw [if_neg hl] at q2; exact q2.elim
theorem set_same {α : Type} {l : List (Option α)} {i : Nat} {v : α} (h : l[i]? = some (some v)) : l.set i (some v) = l := by
  apply List.ext_getElem?
  intro j
  by_cases hj : i = j
  · subst hj
    rw [List.getElem?_set_self (List.getElem?_eq_some_iff.mp h).1, h]
  · rw [List.getElem?_set_ne hj]
theorem io_ok {np : Nat} {F : Den} {i : Nat} {v0 : V} (hv : σ[i]? = some (some v0)) (R1 : Cu G S1 H1 σ e1 A1 us) (st1 : Step S0 A0 H0 S1 (A1 ++ fps us) H1) (q2 : PostE G W S0 H0 σ A0 Q (ioK np F i (us.map (·.r)) e1)) : spF G true np F (v0 :: us.map (·.v)) H1 Q (WE W σ) := by
  unfold ioK at q2
  match hi : e1[i]?, q2 with
  | some (some (.dt w 1)), q2 =>
    simp only [hi] at q2
    obtain ⟨v1, f, B, C, h1, eA, ow, _, tk⟩ := R1.slots.at i hi
    rw [hv] at h1
    cases h1
    obtain ⟨n1, n2, n3⟩ := nodup_app.mp R1.nod
    have inA : ∀ a, a ∈ B ++ C ∨ a ∈ f → a ∈ A1 := fun a ha => by
      rw [eA]
      rcases ha with z | z
      · rcases List.mem_append.mp z with y | y <;> simp [y]
      · simp [z]
    have nBC : (B ++ C).Nodup ∧ f.Nodup ∧ ∀ a ∈ B ++ C, a ∉ f := by
      rw [eA] at n1
      obtain ⟨p, q, r⟩ := nodup_app.mp n1
      obtain ⟨p1, p2, p3⟩ := nodup_app.mp p
      refine ⟨nodup_app.mpr ⟨p1, q, fun a ha => r a (List.mem_append_left _ ha)⟩, p2, fun a ha z => ?_⟩
      rcases List.mem_append.mp ha with y | y
      · exact p3 a y z
      · exact r a (List.mem_append_right _ z) y
    have R1' : Cu G S1 H1 σ (e1.set i none) (B ++ C) us := ⟨R1.sub, nodup_app.mpr ⟨nBC.1, n2, fun a ha => n3 a (inA a (.inl ha))⟩, fun a ha => R1.off a (by
      rcases List.mem_append.mp ha with z | z
      · exact List.mem_append_left _ (inA a (.inl z))
      · exact List.mem_append_right _ z), tk, R1.tmps⟩
    cases r2 : settleV (us.map (·.r)) (e1.set i none) with
    | none => rw [r2] at q2; exact q2.elim
    | some p =>
      obtain ⟨as, e2⟩ := p
      rw [r2] at q2
      simp only at q2
      by_cases hl : as.length + 1 = np
      · rw [if_pos hl] at q2
        obtain ⟨S2, A2, R2, sl, st2⟩ := settleV_ok R1' r2
        have sl2 := sl S2 H1 (Same.refl S2)
        have hlen : (v0 :: us.map (·.v)).length = np := by
          have h := sl2.length
          rw [List.length_map, List.length_map, List.length_map] at h
          rw [List.length_cons, List.length_map, h]; exact hl
        have fT : ∀ a ∈ f, H1 a ≠ none := fun a ha => R1.trk (List.mem_append_left _ (inA a (.inr ha)))
        have fS1 : ∀ a ∈ f, S1 a = none := fun a ha => R1.off a (List.mem_append_left _ (inA a (.inr ha)))
        have fN : ∀ a ∈ f, a ∉ (B ++ C) ++ fps us := fun a ha z => by
          rcases List.mem_append.mp z with y | y
          · exact nBC.2.2 a y ha
          · exact n3 a (inA a (.inr ha)) y
        have fS2 : ∀ a ∈ f, S2 a = none := fun a ha => by
          cases z : S2 a with
          | none => rfl
          | some o =>
            rcases st2.subF a o z with y | y | y
            · rw [fS1 a ha] at y; cases y
            · exact absurd y (fT a ha)
            · exact absurd y (fN a ha)
        have fA2 : ∀ a ∈ f, a ∉ A2 := fun a ha z => by
          rcases st2.own a z with y | y
          · exact fN a ha y
          · exact fT a ha y
        have hA : ∀ a ∈ A2, H1 a ≠ none := fun a ha => R2.trk (List.mem_append_left _ ha)
        have nA2 : A2.Nodup := by
          have h2 : (A2 ++ []).Nodup := R2.nod
          rwa [List.append_nil] at h2
        have oA2 : ∀ a ∈ A2, S2 a = none := fun a ha => R2.off a (List.mem_append_left _ ha)
        have ow2 : Own G.K S2 H1 1 v0 w f := ow.keep st2.sub fun _ _ _ z => z
        refine ⟨hlen, S2, .dt w 1 :: as, f, ?_, R2.sub, nBC.2.1, fS2, (fun z => nomatch z), ?_⟩
        · have := Slots.dt ow2 sl2
          rw [List.append_nil] at this
          exact this
        · cases r3 : F (.dt w 1 :: as) with
          | no => rw [r3] at q2; exact q2
          | exc c => rw [r3] at q2; exact q2.elim
          | rt d n o =>
            rw [r3] at q2
            intro v H' S' A' g st sub nd off ow3 hio _
            obtain ⟨v0', hv0, ow4⟩ := hio rfl
            have ev : v0' = v0 := by simp at hv0; exact hv0.symm
            subst ev
            obtain ⟨d1, d2, d3⟩ := nodup_app.mp nd
            have agA : ∀ a ∈ A' ++ g, a ∉ A2 := fun a ha z => by
              rcases st.own a ha with y | y
              · exact fA2 a y z
              · exact hA a z y
            have kA2 : ∀ b ∈ A2, ∀ o, H1 b = some o → H' b = some o := fun b hb o z => st.frame b o z fun y => fA2 b y hb
            have sl3 : Slots G S' H' σ e2 A2 := R2.slots.keep st.sub kA2
            have hi2 : i < σ.length := (List.getElem?_eq_some_iff.mp hv).1
            obtain ⟨B', f', C', eA2, sl4⟩ := sl3.put i (some v0') (some (.dt o 1)) A' hi2 (by have := Slots.dt (σ := []) (e := []) (A := []) ow4 .nil; rwa [List.append_nil] at this)
            rw [set_same hv] at sl4
            have sub2 : ∀ a ∈ B' ++ A' ++ C', a ∈ A2 ∨ a ∈ A' := fun a ha => by
              rw [eA2]
              rcases List.mem_append.mp ha with z | z
              · rcases List.mem_append.mp z with y | y
                · exact .inl (by simp [y])
                · exact .inr y
              · exact .inl (by simp [z])
            have nBAC : (B' ++ A' ++ C').Nodup := by
              rw [eA2] at nA2 agA
              obtain ⟨p, q, r⟩ := nodup_app.mp nA2
              refine nodup_app.mpr ⟨nodup_app.mpr ⟨(nodup_app.mp p).1, d1, fun a ha z => agA a (List.mem_append_left _ z) (by simp [ha])⟩, q, fun a ha z => ?_⟩
              rcases List.mem_append.mp ha with y | y
              · exact r a (List.mem_append_left _ y) z
              · exact agA a (List.mem_append_left _ y) (by simp [z])
            have offA2 : ∀ a ∈ A2, S' a = none := fun a ha => by
              cases z : S' a with
              | none => rfl
              | some u =>
                rcases st.subF a u z with y | y | y
                · rw [oA2 a ha] at y; cases y
                · exact absurd y (hA a ha)
                · exact absurd ha (fA2 a y)
            have offAll : ∀ a ∈ B' ++ A' ++ C', S' a = none := fun a ha => (sub2 a ha).elim (offA2 a) fun z => off a (List.mem_append_left _ z)
            refine q2 v H' S' (B' ++ A' ++ C') g ⟨sub, ?_, ?_, sl4, ?_⟩ ?_
            · rw [fps_one]
              refine nodup_app.mpr ⟨nBAC, d2, fun a ha z => ?_⟩
              rcases sub2 a ha with y | y
              · exact agA a (List.mem_append_right _ z) y
              · exact d3 a y z
            · intro a ha
              rw [fps_one] at ha
              rcases List.mem_append.mp ha with z | z
              · exact offAll a z
              · exact off a (List.mem_append_right _ z)
            · intro t ht
              rw [List.mem_singleton] at ht
              subst ht
              exact ow3
            · have stA : Step S1 (A1 ++ fps us) H1 S2 (A2 ++ f) H1 := ⟨fun _ _ z _ => z, fun _ z => z, st2.sub, fun b u z => (st2.subF b u z).imp id (.imp id fun y => by
                rcases List.mem_append.mp y with y | y
                · exact List.mem_append_left _ (inA b (.inl y))
                · exact List.mem_append_right _ y), fun a ha => by
                rcases List.mem_append.mp ha with y | y
                · exact (st2.own a y).imp (fun y => by
                    rcases List.mem_append.mp y with y | y
                    · exact List.mem_append_left _ (inA a (.inl y))
                    · exact List.mem_append_right _ y) id
                · exact .inl (List.mem_append_left _ (inA a (.inr y)))⟩
              refine (st1.trans stA).trans ⟨fun b u z n => st.frame b u z fun y => n (List.mem_append_right _ y), st.grow, st.sub, fun b u z => (st.subF b u z).imp id (.imp id fun y => List.mem_append_right _ y), fun a ha => ?_⟩
              rcases List.mem_append.mp ha with z | z
              · rcases sub2 a z with y | y
                · exact .inl (List.mem_append_left _ y)
                · exact (st.own a (List.mem_append_left _ y)).imp (fun y => List.mem_append_right _ y) id
              · exact (st.own a (List.mem_append_right _ z)).imp (fun y => List.mem_append_right _ y) id
      · rw [if_neg hl] at q2; exact q2.elim
  | some (some (.dt w 0)), q2 => simp only [hi] at q2; exact q2.elim
  | some (some (.dt w (n + 2))), q2 => simp only [hi] at q2; exact q2.elim
  | some (some (.ex c)), q2 => simp only [hi] at q2; exact q2.elim
  | some (some (.fz c)), q2 => simp only [hi] at q2; exact q2.elim
  | some none, q2 => simp only [hi] at q2; exact q2.elim
  | none, q2 => simp only [hi] at q2; exact q2.elim
end
section
variable {X : Cx} {W : WX} {pos : Pos} {es : List Expr} {fs : List (Ev → Res RV)}
theorem ee_call {k : Nat} {f : Addr} {fd : FuncData} {ps : List Str} {np : Nat} {F : Den} {x : Str} {p : Pos} {e : Expr}
    (Fk : FnG X.prog X.w X.K X.mg X.base k f fd ps (spF (gx X) false np F)) (hr : Room k X.A) (gd : X.A.guards = some []) (hg : Gl X x) (hm : X.mg x = some (.ref f)) (hk : PySem.W.keepIn X.K (.ref f) = true) (hb : Binds X.K fd ps []) (tk : Takes X W)
    (ha : EA X W (e :: es) fs) (hdb : (x == ("__debug__" : Str)) = false := by decide) (he : starEach (e :: es) X.env = (false, eval e X.env) :: starEach es X.env := by rfl) (hpl : (backTo pos (starEach es X.env)).any (·.1) = false := by rfl) :
    EE X W (.Call (.Name x p) (e :: es) [] pos) (fCall np F fs) :=
  PE.imp (pe_g Fk hr gd hg hm hk hb (fun σ => passAt tk σ) ha hdb he hpl) fun σ H Q q => by
    obtain ⟨S, ev, A, C, q⟩ := q
    refine tArgs_next (G := gx X) C (S0 := S) (A0 := A) (H0 := H) Step.refl0 ?_
    have q' : PostE (gx X) W S H σ A Q ((fArgs fs ev).bind _) := q
    cases r : fArgs fs ev with
    | no => rw [r] at q'; exact q'
    | exc c e1 => rw [r] at q'; exact q'
    | ok rs e1 =>
      rw [r] at q'
      intro us H1 S1 A1 eu R1 st1
      subst eu
      exact call_ok (G := gx X) R1 st1 q'
theorem ee_callIo {k : Nat} {f : Addr} {fd : FuncData} {ps : List Str} {np : Nat} {F : Den} {x y : Str} {p py : Pos} {i : Nat}
    (Fk : FnG X.prog X.w X.K X.mg X.base k f fd ps (spF (gx X) true np F)) (hr : Room k X.A) (gd : X.A.guards = some []) (hg : Gl X x) (hm : X.mg x = some (.ref f)) (hk : PySem.W.keepIn X.K (.ref f) = true) (hb : Binds X.K fd ps []) (tk : Takes X W)
    (hi : PE X (.Name y py) (tVar i)) (ha : EA X W es fs) (hs : starEach (.Name y py :: es) X.env = (false, eval (.Name y py) X.env) :: starEach es X.env := by rfl) (hdb : (x == ("__debug__" : Str)) = false := by decide) (hpl : (backTo pos (starEach es X.env)).any (·.1) = false := by rfl) :
    EE X W (.Call (.Name x p) (.Name y py :: es) [] pos) (fCallIo np F i fs) :=
  PE.imp (pe_g Fk hr gd hg hm hk hb (fun σ => passAt tk σ) (pa_cons hi ha hs) hdb hs hpl) fun σ H Q q => by
    obtain ⟨S, ev, A, C, q⟩ := q
    have q0 : PostE (gx X) W S H σ A Q (match ev[i]? with | some (some (.dt _ _)) => (fArgs fs ev).bind fun rs e1 => ioK np F i rs e1 | _ => .no) := q
    match hi : ev[i]?, q0 with
    | some (some (.dt w n)), q0 =>
      simp only [hi] at q0
      obtain ⟨v0, f0, B0, C0, hv, _⟩ := C.slots.at i hi
      refine ⟨v0, hv, tArgs_next (G := gx X) C (S0 := S) (A0 := A) (H0 := H) Step.refl0 ?_⟩
      cases r : fArgs fs ev with
      | no => rw [r] at q0; exact q0
      | exc c e1 => rw [r] at q0; exact q0
      | ok rs e1 =>
        rw [r] at q0
        intro us H1 S1 A1 eu R1 st1
        subst eu
        exact io_ok (G := gx X) hv R1 st1 q0
    | some (some (.ex c)), q0 => simp only [hi] at q0; exact q0.elim
    | some (some (.fz c)), q0 => simp only [hi] at q0; exact q0.elim
    | some none, q0 => simp only [hi] at q0; exact q0.elim
    | none, q0 => simp only [hi] at q0; exact q0.elim

end
end PV

/-! PVG: targets, what is walked, for, while, list comprehensions. -/
namespace PV
open PySem PySem.Spec PyProof.Rows L2

/-! ### targets -/
abbrev Tgt := PyData → Ev → Option Ev
def tG (G : Gx) (P : Nat → Bool) (ft : Tgt) : TG := fun v σ H Q => ∃ S e A d, Cu G S H σ e A [] ∧ Rp G.K S v d ∧ match ft d e with
  | none => False
  | some e' => ∀ σ' S' A', Cu G S' H σ' e' A' [] → Step S A H S' A' H → Pin P σ σ' → Q σ' H
abbrev EG (X : Cx) (P : Nat → Bool) (tg : Expr) (ft : Tgt) : Prop := PG X tg (tG (gx X) P ft)
theorem PG.imp {X : Cx} {e : Expr} {t t' : TG} (h : PG X e t) (k : ∀ v σ H Q, t' v σ H Q → t v σ H Q) : PG X e t' := ⟨fun pins s σ H v u Q I r q => h.run pins s σ H v u Q I r (k v σ H Q q)⟩
def tgName (i : Nat) : Tgt := fun d e => putR i (.val d 0) e
abbrev Tgts := List PyData → Ev → Option Ev
def tgNil : Tgts := fun ds e => match ds with
  | [] => some e
  | _ :: _ => none
def tgCons (f : Tgt) (g : Tgts) : Tgts := fun ds e => match ds with
  | [] => none
  | d :: ds => match f d e with
    | some e1 => g ds e1
    | none => none
def tgTup (g : Tgts) : Tgt := fun d e => match d with
  | .tuple ds => g ds e
  | .list ds => g ds e
  | _ => none
theorem PG.or {X : Cx} {e : Expr} {t t' : TG} (h : PG X e t) (h' : PG X e t') : PG X e (fun v σ H Q => t v σ H Q ∨ t' v σ H Q) := ⟨fun pins s σ H v u Q I r q => q.elim (h.run pins s σ H v u Q I r) (h'.run pins s σ H v u Q I r)⟩
def tGs (G : Gx) (P : Nat → Bool) (ft : Tgts) : TGs := fun vs σ H Q => ∃ S e A ds, Cu G S H σ e A [] ∧ RpL G.K S vs ds ∧ match ft ds e with
  | none => False
  | some e' => ∀ σ' S' A', Cu G S' H σ' e' A' [] → Step S A H S' A' H → Pin P σ σ' → Q σ' H
abbrev EGs (X : Cx) (P : Nat → Bool) (tgs : List Expr) (ft : Tgts) : Prop := PGs X tgs (tGs (gx X) P ft)
theorem PGs.imp {X : Cx} {e : List Expr} {t t' : TGs} (h : PGs X e t) (k : ∀ v σ H Q, t' v σ H Q → t v σ H Q) : PGs X e t' := ⟨fun pins s σ H vs us Q I r q => h.run pins s σ H vs us Q I r (k vs σ H Q q)⟩
section
variable {X : Cx} {P : Nat → Bool} {pos : Pos}
theorem eg_name {i : Nat} {x : Str} (hP : P i = false) (hN : X.N.Nodup) (hi : X.N[i]? = some x) (hx : Loc X.env.scope x) (hf : X.fn x = true ∨ X.env.scope.names.lookup x = some .local := by first | exact .inl rfl | exact .inr rfl | assumption) : EG X P (.Name x pos) (tgName i) :=
  PG.imp (pg_name hN hi hx hf) fun v σ H Q q => by
    obtain ⟨S, e, A, d, R, rp, q⟩ := q
    unfold tgName at q
    cases z : putR i (.val d 0) e with
    | none => rw [z] at q; exact q.elim
    | some e2 =>
      rw [z] at q
      obtain ⟨S2, A2, R2, st2⟩ := putR_ok (R.one (r := .val d 0) (v := v) ⟨rfl, rp⟩ rfl) z
      rw [List.append_nil] at st2
      exact q _ _ _ R2 st2 (Pin.set hP)
theorem egs_nil : EGs X P [] tgNil := PGs.imp pgs_nil fun vs σ H Q q => by
  obtain ⟨S, e, A, ds, R, rp, q⟩ := q
  cases rp with
  | nil => exact ⟨rfl, q σ S A R .refl .refl⟩
  | cons a b => exact q.elim
theorem egs_cons {e : Expr} {es : List Expr} {f : Tgt} {g : Tgts} (h1 : EG X P e f) (h2 : EGs X P es g) (hs : (assignEach (e :: es) X.env).map (·.2) = assign e X.env :: (assignEach es X.env).map (·.2) := by rfl) : EGs X P (e :: es) (tgCons f g) := PGs.imp (pgs_cons h1 h2 hs) fun vs σ H Q q => by
  obtain ⟨S, e, A, ds, R, rp, q⟩ := q
  cases rp with
  | nil => exact q.elim
  | cons a b =>
    rename_i v vs d ds
    refine ⟨v, vs, rfl, S, e, A, d, R, a, ?_⟩
    have q' : match (match f d e with | some e1 => g ds e1 | none => none) with | none => False | some e' => ∀ σ' S' A', Cu (gx X) S' H σ' e' A' [] → Step S A H S' A' H → Pin P σ σ' → Q σ' H := q
    cases z : f d e with
    | none => rw [z] at q'; exact q'
    | some e1 =>
      rw [z] at q'
      intro σ1 S1 A1 R1 st1 pn1
      refine ⟨S1, e1, A1, ds, R1, b.mn st1.sub, ?_⟩
      simp only at q'
      cases z2 : g ds e1 with
      | none => rw [z2] at q'; exact q'
      | some e2 =>
        rw [z2] at q'
        exact fun σ' S' A' R' st' pn' => q' σ' S' A' R' (st1.trans st') (pn1.trans pn')
end
theorem tGs_len {G : Gx} {P : Nat → Bool} {g : Tgts} {n : Nat} (hg : ∀ ds e e', g ds e = some e' → ds.length = n) {vs : List V} {σ : L2.St} {H : Hp} {Q : L2.St → Hp → Prop} (h : tGs G P g vs σ H Q) : vs.length = n := by
  obtain ⟨S, e, A, ds, R, rp, q⟩ := h
  cases z : g ds e with
  | none => rw [z] at q; exact q.elim
  | some e' => rw [rp.length]; exact hg _ _ _ z
theorem tgNil_len : ∀ ds e e', tgNil ds e = some e' → ds.length = 0 := fun ds e e' h => by
  cases ds with
  | nil => rfl
  | cons d ds => cases h
theorem tgCons_len {f : Tgt} {g : Tgts} {n : Nat} (hg : ∀ ds e e', g ds e = some e' → ds.length = n) : ∀ ds e e', tgCons f g ds e = some e' → ds.length = n + 1 := fun ds e e' h => by
  cases ds with
  | nil => cases h
  | cons d ds =>
    have h' : (match f d e with | some e1 => g ds e1 | none => none) = some e' := h
    cases z : f d e with
    | none => rw [z] at h'; cases h'
    | some e1 => rw [z] at h'; exact congrArg (· + 1) (hg _ _ _ h')
theorem eg_tup {X : Cx} {P : Nat → Bool} {pos : Pos} {es : List Expr} {k : Nat} {g : Tgts} {n : Nat} (hc : X.calm = true) (h : EGs X P es g) (hg : ∀ ds e e', g ds e = some e' → ds.length = n) (hn : (assignEach es X.env).length = n := by rfl) (hst : (assignEach es X.env).findIdx? (·.1) = none := by rfl) : EG X P (.Tuple es k pos) (tgTup g) := by
  refine PG.imp (PV.PG.or (pg_tup (n := n) hc h hn hst) (pg_lst (n := n) hc h hn hst)) fun v σ H Q q => ?_
  obtain ⟨S, e, A, d, R, rp, q⟩ := q
  cases d with
  | tuple ds =>
    cases rp with
    | tup hs ha =>
      have t : tGs (gx X) P g _ σ H Q := ⟨S, e, A, ds, R, ha, q⟩
      exact .inl ⟨_, _, rfl, Same.seqT R.sub hs, tGs_len hg t, t⟩
  | list ds =>
    cases rp with
    | lst hs ha =>
      have t : tGs (gx X) P g _ σ H Q := ⟨S, e, A, ds, R, ha, q⟩
      exact .inr ⟨_, _, rfl, .inl (.inl (R.sub _ _ hs)), tGs_len hg t, t⟩
  | _ => exact q.elim

/-! ### what is walked -/
def ItOk (K : PySem.W.Frag) (J : It) (S1 : Hp) (ds : List PyData) : Prop := ∀ i S H, Same S1 S → Same S H →
  (∀ d, ds[i]? = some d → J.go i H ∧ ∀ x H', J.yld i H x H' → ∃ S', Made S H S' H' [] ∧ Rp K S' x d) ∧ (ds.length ≤ i → J.stop i H)
def tI (G : Gx) (W : WX) (fi : Ev → Res (List PyData)) : TI := fun σ H R => ∃ S e A, Cu G S H σ e A [] ∧ match fi e with
  | .ok ds e' => ∀ J H' S' A', Cu G S' H' σ e' A' [] → Step S A H S' A' H' → ItOk G.K J S' ds → R J H'
  | .exc c e' => ∀ H' S' A' C, G.cl c = some C → Cu G S' H' σ e' A' [] → Step S A H S' A' H' → W (.ref C) none σ H'
  | .no => False
abbrev EI (X : Cx) (W : WX) (tg iter : Expr) (fi : Ev → Res (List PyData)) : Prop := PI X tg iter (tI (gx X) W fi)
theorem PI.imp {X : Cx} {tg e : Expr} {t t' : TI} (h : PI X tg e t) (k : ∀ σ H Q, t' σ H Q → t σ H Q) : PI X tg e t' := ⟨fun pins s σ H R I q => h.run pins s σ H R I (k σ H R q)⟩
theorem PI.or {X : Cx} {tg e : Expr} {t t' : TI} (h : PI X tg e t) (h' : PI X tg e t') : PI X tg e (fun σ H R => t σ H R ∨ t' σ H R) := ⟨fun pins s σ H R I q => q.elim (h.run pins s σ H R I) (h'.run pins s σ H R I)⟩

section
variable {K : PySem.W.Frag} {S H : Hp}
theorem Made.refl (h : Same S H) : Made S H S H [] := ⟨Same.refl S, Same.refl H, h, fun _ _ z => .inl z, List.nodup_nil, fun _ z => nomatch z⟩
theorem Made.tup {vs : List V} {T : Addr} (h : Same S H) (hT : H T = none) : Made S H (upd S T (.tup vs)) (upd H T (.tup vs)) [] := by
  have hS : S T = none := by
    cases z : S T with
    | none => rfl
    | some o => rw [h T o z] at hT; cases hT
  refine ⟨fun b o z => by rw [upd_ne (ne_of_none z hS)]; exact z, fun b o z => by rw [upd_ne (ne_of_none z hT)]; exact z, fun b o z => ?_, fun b o z => ?_, List.nodup_nil, fun _ z => nomatch z⟩
  · by_cases hb : b = T
    · subst hb; rw [upd_same] at z ⊢; exact z
    · rw [upd_ne hb] at z ⊢; exact h b o z
  · by_cases hb : b = T
    · subst hb; exact .inr hT
    · rw [upd_ne hb] at z; exact .inl z
theorem sqL_eq {a : Addr} {vs : List V} (hS : S a = some (.lst vs)) {S' H' : Hp} (h1 : Same S S') (h2 : Same S' H') : SqL K H' a vs := .inl (.inl (h2 _ _ (h1 _ _ hS)))
theorem it_list {a : Addr} {vs : List V} {ds : List PyData} (hS : S a = some (.lst vs)) (rp : RpL K S vs ds) : ItOk K (Itl K a) S ds := fun i S' H' h1 h2 => by
  have hq : SqL K H' a vs := sqL_eq hS h1 h2
  refine ⟨fun d hd => ?_, fun hi => ⟨vs, hq, by rw [rp.length]; exact hi⟩⟩
  obtain ⟨v, hv, r⟩ := rp.get hd
  refine ⟨⟨vs, v, hq, hv⟩, fun x H2 ⟨e1, e2⟩ => ?_⟩
  subst e1
  have := e2 vs hq
  rw [hv] at this
  cases this
  exact ⟨S', Made.refl h2, r.mn h1⟩
theorem it_tup {a : Addr} {vs : List V} {ds : List PyData} (hS : SqT K S a vs) (rp : RpL K S vs ds) : ItOk K (Itt K a) S ds := fun i S' H' h1 h2 => by
  have hq : SqT K H' a vs := Same.seqT (h1.trans h2) hS
  refine ⟨fun d hd => ?_, fun hi => ⟨vs, hq, by rw [rp.length]; exact hi⟩⟩
  obtain ⟨v, hv, r⟩ := rp.get hd
  refine ⟨⟨vs, v, hq, hv⟩, fun x H2 ⟨e1, e2⟩ => ?_⟩
  subst e1
  have := e2 vs hq
  rw [hv] at this
  cases this
  exact ⟨S', Made.refl h2, r.mn h1⟩
def chars (x : Str) : List PyData := x.cps.toList.map fun c => .str ⟨#[c]⟩
theorem it_str {x : Str} : ItOk K (Its x) S (chars x) := fun i S' H' h1 h2 => by
  refine ⟨fun d hd => ?_, fun hi => ?_⟩
  · unfold chars at hd
    rw [List.getElem?_map] at hd
    cases z : x.cps.toList[i]? with
    | none => rw [z] at hd; cases hd
    | some c =>
      rw [z] at hd
      cases hd
      have hl : i < x.cps.size := by have := (List.getElem?_eq_some_iff.mp z).1; simpa using this
      refine ⟨hl, fun v H2 ⟨e1, c', e2, e3⟩ => ?_⟩
      subst e1 e3
      have e4 : x.cps[i]? = some c := by rw [← Array.getElem?_toList]; exact z
      rw [e4] at e2
      cases e2
      exact ⟨S', Made.refl h2, .str _⟩
  · unfold chars at hi
    rw [List.length_map] at hi
    show x.cps.size ≤ i
    simpa using hi
def ranged (lo : Int) (n : Nat) : List PyData := (List.range n).map fun (i : Nat) => PyData.int (lo + (i : Int))
theorem it_range {lo : Int} {n : Nat} : ItOk K (Itr lo n) S (ranged lo n) := fun i S' H' h1 h2 => by
  refine ⟨fun d hd => ?_, fun hi => ?_⟩
  · unfold ranged at hd
    rw [List.getElem?_map] at hd
    by_cases hl : i < n
    · rw [List.getElem?_range hl] at hd
      cases hd
      refine ⟨hl, fun v H2 ⟨e1, e2⟩ => ?_⟩
      subst e1 e2
      exact ⟨S', Made.refl h2, .int _⟩
    · rw [List.getElem?_eq_none (by simpa using hl)] at hd
      cases hd
  · unfold ranged at hi
    show n ≤ i
    simpa using hi
def rangedC (lo c : Int) (n : Nat) : List PyData := (List.range n).map fun (i : Nat) => PyData.int (lo + (i : Int) * c)
theorem it_rangeC {lo c : Int} {n : Nat} : ItOk K (Itc lo c n) S (rangedC lo c n) := fun i S' H' h1 h2 => by
  refine ⟨fun d hd => ?_, fun hi => ?_⟩
  · unfold rangedC at hd
    rw [List.getElem?_map] at hd
    by_cases hl : i < n
    · rw [List.getElem?_range hl] at hd
      cases hd
      refine ⟨hl, fun v H2 ⟨e1, e2⟩ => ?_⟩
      subst e1 e2
      exact ⟨S', Made.refl h2, .int _⟩
    · rw [List.getElem?_eq_none (by simpa using hl)] at hd
      cases hd
  · unfold rangedC at hi
    show n ≤ i
    simpa using hi
def enumed (k : Nat) : List PyData → List PyData
  | [] => []
  | d :: ds => .tuple [.int (k : Int), d] :: enumed (k + 1) ds
theorem enumed_get : ∀ (ds : List PyData) (k i : Nat), (enumed k ds)[i]? = ds[i]?.map fun d => .tuple [.int ((k + i : Nat) : Int), d]
  | [], k, i => by simp [enumed]
  | d :: ds, k, 0 => by simp [enumed]
  | d :: ds, k, i + 1 => by
    rw [enumed, List.getElem?_cons_succ, enumed_get ds (k + 1) i, List.getElem?_cons_succ]
    have : k + 1 + i = k + (i + 1) := by omega
    rw [this]
theorem enumed_len : ∀ (ds : List PyData) (k : Nat), (enumed k ds).length = ds.length
  | [], _ => rfl
  | d :: ds, k => congrArg (· + 1) (enumed_len ds (k + 1))
theorem it_enum {a : Addr} {vs : List V} {ds : List PyData} (hS : S a = some (.lst vs)) (rp : RpL K S vs ds) : ItOk K (Ite K a) S (enumed 0 ds) := fun i S' H' h1 h2 => by
  have hq : SqL K H' a vs := sqL_eq hS h1 h2
  refine ⟨fun d hd => ?_, fun hi => ⟨vs, hq, by rw [rp.length]; rw [enumed_len] at hi; exact hi⟩⟩
  rw [enumed_get] at hd
  cases z : ds[i]? with
  | none => rw [z] at hd; cases hd
  | some d' =>
    rw [z] at hd
    cases hd
    obtain ⟨v, hv, r⟩ := rp.get z
    refine ⟨⟨vs, v, hq, hv⟩, fun x H2 ⟨T, y, e1, hT, e2, e3⟩ => ?_⟩
    subst e1 e2
    have := e3 vs hq
    rw [hv] at this
    cases this
    have M := Made.tup (vs := [.int (i : Nat), v]) h2 hT
    refine ⟨_, M, .tup (.inl (.inl upd_same)) (.cons ?_ (.cons ((r.mn h1).mn M.ss) .nil))⟩
    rw [Nat.zero_add]
    exact .int _
def zipped : List PyData → List PyData → List PyData
  | a :: as, b :: bs => .tuple [a, b] :: zipped as bs
  | _, _ => []
theorem zipped_get : ∀ (as bs : List PyData) (i : Nat) (d : PyData), (zipped as bs)[i]? = some d → ∃ a b, as[i]? = some a ∧ bs[i]? = some b ∧ d = .tuple [a, b]
  | [], _, i, d, h => by simp [zipped] at h
  | _ :: _, [], i, d, h => by simp [zipped] at h
  | a :: as, b :: bs, 0, d, h => by
    simp [zipped] at h
    exact ⟨a, b, rfl, rfl, h.symm⟩
  | a :: as, b :: bs, i + 1, d, h => by
    obtain ⟨x, y, h1, h2, h3⟩ := zipped_get as bs i d (by simpa [zipped] using h)
    exact ⟨x, y, by simpa using h1, by simpa using h2, h3⟩
theorem zipped_len : ∀ (as bs : List PyData), (zipped as bs).length = min as.length bs.length
  | [], _ => by simp [zipped]
  | _ :: _, [] => by simp [zipped]
  | a :: as, b :: bs => by simp [zipped, zipped_len as bs] <;> omega
theorem it_zip {a b : Addr} {vs ws : List V} {ds es : List PyData} (hS : S a = some (.lst vs)) (rp : RpL K S vs ds) (hS' : S b = some (.lst ws)) (rp' : RpL K S ws es) : ItOk K (Itz K a b) S (zipped ds es) := fun i S' H' h1 h2 => by
  have hq : SqL K H' a vs := sqL_eq hS h1 h2
  have hq' : SqL K H' b ws := sqL_eq hS' h1 h2
  refine ⟨fun d hd => ?_, fun hi => ⟨vs, ws, hq, hq', ?_⟩⟩
  · obtain ⟨x, y, e1, e2, rfl⟩ := zipped_get _ _ _ _ hd
    obtain ⟨v, hv, r⟩ := rp.get e1
    obtain ⟨w, hw, r'⟩ := rp'.get e2
    refine ⟨⟨vs, ws, v, w, hq, hq', hv, hw⟩, fun z H2 ⟨T, x', y', e1, hT, e2, e3, e4⟩ => ?_⟩
    subst e1 e2
    have z1 := e3 vs hq
    rw [hv] at z1
    cases z1
    have z2 := e4 ws hq'
    rw [hw] at z2
    cases z2
    have M := Made.tup (vs := [v, w]) h2 hT
    exact ⟨_, M, .tup (.inl (.inl upd_same)) (.cons ((r.mn h1).mn M.ss) (.cons ((r'.mn h1).mn M.ss) .nil))⟩
  · rw [rp.length, rp'.length]
    rw [zipped_len] at hi
    omega
end

def fIt1 (k : List PyData → Option (List PyData)) (fa : Ev → Res RV) (e : Ev) : Res (List PyData) := (fa e).bind fun r e1 => match settle [r] e1 with
  | some (ds, e2) => match k ds with
    | some l => .ok l e2
    | none => .no
  | none => .no
def fIt (k : List PyData → Option (List PyData)) (fs : List (Ev → Res RV)) (e : Ev) : Res (List PyData) := (fArgs fs e).bind fun rs e1 => match settle rs e1 with
  | some (ds, e2) => match k ds with
    | some l => .ok l e2
    | none => .no
  | none => .no
section
variable {G : Gx} {W : WX} {σ : L2.St} {H : Hp} {R : It → Hp → Prop}
theorem it_one {k : List PyData → Option (List PyData)} {fa : Ev → Res RV} {Z : VK} (h : tI G W (fIt1 k fa) σ H R) (hk : ∀ v ds l S' H', RpL G.K S' [v] ds → Same S' H' → k ds = some l → (∀ J, ItOk G.K J S' l → R J H') → Z v H') : tR G W fa σ H Z := by
  obtain ⟨S, e, A, C, h⟩ := h
  refine ⟨S, e, A, C, ?_⟩
  cases q : fa e with
  | no => simp only [fIt1, q, Res.bind] at h
  | exc c e1 => simp only [fIt1, q, Res.bind] at h; exact h
  | ok r e1 =>
    simp only [fIt1, q, Res.bind] at h
    intro v H1 S1 A1 f R1 st1
    cases q2 : settle [r] e1 with
    | none => simp only [q2] at h
    | some p =>
      obtain ⟨ds, e2⟩ := p
      simp only [q2] at h
      cases q3 : k ds with
      | none => simp only [q3] at h
      | some l =>
        simp only [q3] at h
        obtain ⟨S2, A2, R2, rp, st2⟩ := settle_ok (ts := [⟨r, v, f⟩]) R1 q2
        rw [fps_one] at st2
        exact hk v ds l S2 H1 rp R2.sub q3 fun J hJ => h J H1 S2 A2 R2 (st1.trans st2) hJ
theorem it_args {k : List PyData → Option (List PyData)} {fs : List (Ev → Res RV)} {Z : List V → Hp → Prop} (h : tI G W (fIt k fs) σ H R) (hk : ∀ vs ds l S' H', RpL G.K S' vs ds → Same S' H' → k ds = some l → (∀ J, ItOk G.K J S' l → R J H') → Z vs H') : tArgs G W fs σ H Z := by
  obtain ⟨S, e, A, C, h⟩ := h
  refine tArgs_next C (S0 := S) (A0 := A) (H0 := H) Step.refl0 ?_
  cases q : fArgs fs e with
  | no => simp only [fIt, q, Res.bind] at h
  | exc c e1 => simp only [fIt, q, Res.bind] at h; exact h
  | ok rs e1 =>
    simp only [fIt, q, Res.bind] at h
    intro us H1 S1 A1 eu R1 st1
    subst eu
    have R1' : Cu G S1 H1 σ e1 A1 us := R1
    cases q2 : settle (us.map (·.r)) e1 with
    | none => simp only [q2] at h
    | some p =>
      obtain ⟨ds, e2⟩ := p
      simp only [q2] at h
      cases q3 : k ds with
      | none => simp only [q3] at h
      | some l =>
        simp only [q3] at h
        obtain ⟨S2, A2, R2, rp, st2⟩ := settle_ok R1' q2
        exact hk _ ds l S2 H1 rp R2.sub q3 fun J hJ => h J H1 S2 A2 R2 (st1.trans st2) hJ
end
def kSeq : List PyData → Option (List PyData)
  | [.list ds] => some ds
  | [.tuple ds] => some ds
  | [.str x] => some (chars x)
  | _ => none
def big : Int := 2 ^ 62
def kRange1 : List PyData → Option (List PyData)
  | [.int j] => if -big ≤ j ∧ j < big then some (ranged 0 j.toNat) else none
  | _ => none
def kRange2 : List PyData → Option (List PyData)
  | [.int i, .int j] => if -big ≤ i ∧ i < big ∧ -big ≤ j ∧ j < big then some (ranged i (j - i).toNat) else none
  | _ => none
def kRangeDown : List PyData → Option (List PyData)
  | [.int i, .int j, .int c] => if c = -1 ∧ -big ≤ i ∧ i < big ∧ -big ≤ j ∧ j < big then some (rangedC i (-1) (i - j).toNat) else none
  | _ => none
def kEnum : List PyData → Option (List PyData)
  | [.list ds] => some (enumed 0 ds)
  | _ => none
def kZip : List PyData → Option (List PyData)
  | [.list ds, .list es] => some (zipped ds es)
  | _ => none
section
variable {X : Cx} {W : WX} {tg a : Expr} {pos p : Pos} {fa : Ev → Res RV} {fs : List (Ev → Res RV)}
theorem ei_seq (ha : EE X W a fa) : EI X W tg a (fIt1 kSeq fa) :=
  PI.imp (PI.or (pi_list ha) (PI.or (pi_tup ha) (pi_str ha))) fun σ H R q => by
    have q0 := q
    obtain ⟨S, e, A, C, q1⟩ := q
    cases r : fa e with
    | no => simp only [fIt1, r, Res.bind] at q1
    | exc c e1 => 
      refine .inl ⟨S, e, A, C, ?_⟩
      rw [r]
      simp only [fIt1, r, Res.bind] at q1
      exact q1
    | ok rv e1 =>
      simp only [fIt1, r, Res.bind] at q1
      cases q2 : settle [rv] e1 with
      | none => simp only [q2] at q1
      | some pr =>
        obtain ⟨ds, e2⟩ := pr
        simp only [q2] at q1
        have mk : ∀ (Z : VK) (l : List PyData), kSeq ds = some l → (∀ v S' H', RpL X.K S' [v] ds → Same S' H' → (∀ J, ItOk X.K J S' l → R J H') → Z v H') → tR (gx X) W fa σ H Z := fun Z l hl hz => by
          refine ⟨S, e, A, C, ?_⟩
          rw [r]
          intro v H1 S1 A1 f R1 st1
          simp only [hl] at q1
          obtain ⟨S2, A2, R2, rp, st2⟩ := settle_ok (ts := [⟨rv, v, f⟩]) R1 q2
          rw [fps_one] at st2
          exact hz v S2 H1 rp R2.sub fun J hJ => q1 J H1 S2 A2 R2 (st1.trans st2) hJ
        match ds, mk, q1 with
        | [.list l], mk, q1 =>
          refine .inl (mk _ l rfl fun v S' H' rp sb hJ => ?_)
          cases rp with
          | cons h1 h2 =>
            cases h1 with
            | lst h3 h4 => exact ⟨_, rfl, ⟨_, .inl (.inl (sb _ _ h3))⟩, hJ _ (it_list h3 h4)⟩
        | [.tuple l], mk, q1 =>
          refine .inr (.inl (mk _ l rfl fun v S' H' rp sb hJ => ?_))
          cases rp with
          | cons h1 h2 =>
            cases h1 with
            | tup h3 h4 => exact ⟨_, rfl, ⟨_, Same.seqT sb h3⟩, hJ _ (it_tup h3 h4)⟩
        | [.str x], mk, q1 =>
          refine .inr (.inr (mk _ _ rfl fun v S' H' rp sb hJ => ?_))
          cases rp with
          | cons h1 h2 => cases h1; exact ⟨_, rfl, hJ _ it_str⟩
        | [], mk, q1 => exact q1.elim
        | [.none], mk, q1 => exact q1.elim
        | [.bool _], mk, q1 => exact q1.elim
        | [.int _], mk, q1 => exact q1.elim
        | [.dict _], mk, q1 => exact q1.elim
        | .none :: _ :: _, mk, q1 => exact q1.elim
        | .bool _ :: _ :: _, mk, q1 => exact q1.elim
        | .int _ :: _ :: _, mk, q1 => exact q1.elim
        | .str _ :: _ :: _, mk, q1 => exact q1.elim
        | .list _ :: _ :: _, mk, q1 => exact q1.elim
        | .tuple _ :: _ :: _, mk, q1 => exact q1.elim
        | .dict _ :: _ :: _, mk, q1 => exact q1.elim
theorem kR1 {ds l : List PyData} (h : kRange1 ds = some l) : ∃ j, ds = [.int j] ∧ (-big ≤ j ∧ j < big) ∧ l = ranged 0 j.toNat := by
  unfold kRange1 at h
  split at h
  · split at h
    · cases h; exact ⟨_, rfl, by assumption, rfl⟩
    · cases h
  · cases h
theorem kR2 {ds l : List PyData} (h : kRange2 ds = some l) : ∃ i j, ds = [.int i, .int j] ∧ (-big ≤ i ∧ i < big ∧ -big ≤ j ∧ j < big) ∧ l = ranged i (j - i).toNat := by
  unfold kRange2 at h
  split at h
  · split at h
    · cases h; exact ⟨_, _, rfl, by assumption, rfl⟩
    · cases h
  · cases h
theorem kR3 {ds l : List PyData} (h : kRangeDown ds = some l) : ∃ i j, ds = [.int i, .int j, .int (-1)] ∧ (-big ≤ i ∧ i < big ∧ -big ≤ j ∧ j < big) ∧ l = rangedC i (-1) (i - j).toNat := by
  unfold kRangeDown at h
  split at h
  · split at h
    · rename_i hc
      obtain ⟨rfl, hc⟩ := hc
      cases h; exact ⟨_, _, rfl, hc, rfl⟩
    · cases h
  · cases h
theorem kEn {ds l : List PyData} (h : kEnum ds = some l) : ∃ x, ds = [.list x] ∧ l = enumed 0 x := by
  unfold kEnum at h
  split at h
  · cases h; exact ⟨_, rfl, rfl⟩
  · cases h
theorem kZi {ds l : List PyData} (h : kZip ds = some l) : ∃ x y, ds = [.list x, .list y] ∧ l = zipped x y := by
  unfold kZip at h
  split at h
  · cases h; exact ⟨_, _, rfl, rfl⟩
  · cases h
theorem rp_int1 {K : PySem.W.Frag} {S : Hp} {vs : List V} {i : Int} (h : RpL K S vs [.int i]) : vs = [.int i] := by
  cases h with
  | cons a b => cases a; cases b; rfl
theorem rp_int2 {K : PySem.W.Frag} {S : Hp} {vs : List V} {i j : Int} (h : RpL K S vs [.int i, .int j]) : vs = [.int i, .int j] := by
  cases h with
  | cons a b => cases a; rw [rp_int1 b]
theorem rp_int3 {K : PySem.W.Frag} {S : Hp} {vs : List V} {i j k : Int} (h : RpL K S vs [.int i, .int j, .int k]) : vs = [.int i, .int j, .int k] := by
  cases h with
  | cons a b => cases a; rw [rp_int2 b]
theorem ei_range1 (hg : Gl X "range") (hm : X.mg "range" = none) (ha : EA X W [a] fs) (hs : starEach [a] X.env = [(false, eval a X.env)] := by rfl) : EI X W tg (.Call (.Name "range" p) [a] [] pos) (fIt kRange1 fs) :=
  PI.imp (pi_range1 hg hm ha hs) fun σ H R q => it_args q fun vs ds l S' H' rp sb hk hJ => by
    obtain ⟨j, rfl, ⟨h1, h2⟩, rfl⟩ := kR1 hk
    exact ⟨j, rp_int1 rp, h1, h2, hJ _ it_range⟩
theorem ei_range2 {b : Expr} (hg : Gl X "range") (hm : X.mg "range" = none) (ha : EA X W [a, b] fs) (hs : starEach [a, b] X.env = [(false, eval a X.env), (false, eval b X.env)] := by rfl) (hs2 : starEach [b] X.env = [(false, eval b X.env)] := by rfl) : EI X W tg (.Call (.Name "range" p) [a, b] [] pos) (fIt kRange2 fs) :=
  PI.imp (pi_range2 hg hm ha hs hs2) fun σ H R q => it_args q fun vs ds l S' H' rp sb hk hJ => by
    obtain ⟨i, j, rfl, h, rfl⟩ := kR2 hk
    exact ⟨i, j, rp_int2 rp, h, hJ _ it_range⟩
theorem ei_range3 {b c : Expr} (hg : Gl X "range") (hm : X.mg "range" = none) (ha : EA X W [a, b, c] fs) (hs : starEach [a, b, c] X.env = (false, eval a X.env) :: starEach [b, c] X.env := by rfl) (hpl : (backTo pos (starEach [b, c] X.env)).any (·.1) = false := by rfl) : EI X W tg (.Call (.Name "range" p) [a, b, c] [] pos) (fIt kRangeDown fs) :=
  PI.imp (pi_range3 hg hm ha hs hpl) fun σ H R q => it_args q fun vs ds l S' H' rp sb hk hJ => by
    obtain ⟨i, j, rfl, ⟨h1, h2, h3, h4⟩, rfl⟩ := kR3 hk
    exact ⟨i, j, -1, _, rp_int3 rp, RgC.neg h1 h2 h3 h4, hJ _ it_rangeC⟩
theorem ei_enum {tpos : Pos} {elts : List Expr} {kk : Nat} (hg : Gl X "enumerate") (hm : X.mg "enumerate" = none) (ha : EA X W [a] fs) (hs : starEach [a] X.env = [(false, eval a X.env)] := by rfl) : EI X W (.Tuple elts kk tpos) (.Call (.Name "enumerate" p) [a] [] pos) (fIt kEnum fs) :=
  PI.imp (pi_enum hg hm ha hs) fun σ H R q => it_args q fun vs ds l S' H' rp sb hk hJ => by
    obtain ⟨x, rfl, rfl⟩ := kEn hk
    cases rp with
    | cons h1 h2 =>
      cases h2
      cases h1 with
      | lst h3 h4 => exact ⟨_, _, rfl, .inl (.inl (sb _ _ h3)), hJ _ (it_enum h3 h4)⟩
theorem ei_zip {tpos : Pos} {elts : List Expr} {kk : Nat} {b : Expr} (hg : Gl X "zip") (hm : X.mg "zip" = none) (ha : EA X W [a, b] fs) (hs : starEach [a, b] X.env = (false, eval a X.env) :: starEach [b] X.env := by rfl) (hpl : (backTo pos (starEach [b] X.env)).any (·.1) = false := by rfl) : EI X W (.Tuple elts kk tpos) (.Call (.Name "zip" p) [a, b] [] pos) (fIt kZip fs) :=
  PI.imp (pi_zip hg hm ha hs hpl) fun σ H R q => it_args q fun vs ds l S' H' rp sb hk hJ => by
    obtain ⟨x, y, rfl, rfl⟩ := kZi hk
    cases rp with
    | cons h1 h2 =>
      cases h2 with
      | cons g1 g2 =>
        cases g2
        cases h1 with
        | lst h3 h4 =>
          cases g1 with
          | lst g3 g4 => exact ⟨_, _, _, _, rfl, .inl (.inl (sb _ _ h3)), .inl (.inl (sb _ _ g3)), hJ _ (it_zip h3 h4 g3 g4)⟩
end
end PV

/-! PVH: for, while, list comprehensions. -/
namespace PV
open PySem PySem.Spec PyProof.Rows L2

def loopF (ft : Tgt) (fb : Ev → SRes) : List PyData → Ev → SRes
  | [], e => .nx e
  | d :: ds, e => match ft d e with
    | none => .no
    | some e1 => match fb e1 with
      | .nx e2 => loopF ft fb ds e2
      | .ct e2 => loopF ft fb ds e2
      | .bk e2 => .nx e2
      | r => r
def fFor (fi : Ev → Res (List PyData)) (ft : Tgt) (fb : Ev → SRes) (e : Ev) : SRes := (fi e).toS fun ds e1 => loopF ft fb ds e1
def fWhile (fc : Ev → Res RV) (fb : Ev → SRes) : Nat → Ev → SRes
  | 0, _ => .no
  | n + 1, e => fIf fc (fun e1 => match fb e1 with
      | .nx e2 => fWhile fc fb n e2
      | .ct e2 => fWhile fc fb n e2
      | .bk e2 => .nx e2
      | r => r) fNx e

section
variable {G : Gx} {W : WX} {P : Nat → Bool} {S S' H H' S0 H0 S1 H1 : Hp} {σ σ1 : L2.St} {e : Ev} {A A' A0 A1 : List Addr} {ts : List Tmp} {D : Ends}
theorem ItOk.later {K : PySem.W.Frag} {J : It} {ds : List PyData} (h : ItOk K J S ds) (s : Same S S1) : ItOk K J S1 ds := fun i S2 H2 a b => h i S2 H2 (s.trans a) b
theorem Made.cu {f : List Addr} (M : Made S H S' H' []) (R : Cu G S H σ e A []) : Cu G S' H' σ e A [] ∧ Step S A H S' A H' := by
  have off : ∀ a ∈ A, S' a = none := fun a ha => by
    cases z : S' a with
    | none => rfl
    | some o =>
      rcases M.fresh a o z with y | y
      · rw [R.off a (List.mem_append_left _ ha)] at y; cases y
      · exact absurd y (R.trk (List.mem_append_left _ ha))
  refine ⟨⟨M.sh, R.nod, fun a ha => off a ?_, R.slots.keep M.ss fun b _ o z => M.hh b o z, fun t ht => nomatch ht⟩, ⟨fun b o z _ => M.hh b o z, fun b z w => ?_, M.ss, fun b o z => (M.fresh b o z).imp id .inl, fun a ha => .inl ha⟩⟩
  · have h : a ∈ A ++ [] := ha
    rwa [List.append_nil] at h
  · cases y : H b with
    | none => exact z y
    | some u => rw [M.hh b u y] at w; cases w
/-- a turn's body, whose ends go on at k -/
theorem turn_ok {fb : Ev → SRes} {k : Ev → SRes} {N : L2.St → Hp → Prop} (R : Cu G S H σ e A [])
    (h : PostS G W P D S A H σ (match fb e with | .nx e2 => k e2 | .ct e2 => k e2 | .bk e2 => .nx e2 | r => r))
    (hN : ∀ σ' H' S' A' e', PostS G W P D S A H σ (k e') → Cu G S' H' σ' e' A' [] → Step S A H S' A' H' → Pin P σ σ' → N σ' H') :
    tS G W P fb { D with nx := N, ct := N, bk := D.nx } σ H := by
  refine ⟨S, e, A, R, ?_⟩
  cases q : fb e with
  | no => rw [q] at h; exact h
  | nx e2 => rw [q] at h; exact fun σ' H' S' A' R' st pn => hN σ' H' S' A' e2 h R' st pn
  | ct e2 => rw [q] at h; exact fun σ' H' S' A' R' st pn => hN σ' H' S' A' e2 h R' st pn
  | bk e2 => rw [q] at h; exact h
  | rt d n e2 => rw [q] at h; exact h
  | exc c e2 => rw [q] at h; exact h
theorem for_ok {fi : Ev → Res (List PyData)} {ft : Tgt} {fb : Ev → SRes} {σ0 : L2.St} {H0 : Hp} (h : tS G W P (fFor fi ft fb) D σ0 H0) : tFor (tI G W fi) (tG G P ft) (tS G W P fb) D σ0 H0 := by
  obtain ⟨S0, e0, A0, C0, h⟩ := h
  refine ⟨S0, e0, A0, C0, ?_⟩
  have h' : PostS G W P D S0 A0 H0 σ0 ((fi e0).toS fun ds e1 => loopF ft fb ds e1) := h
  cases q : fi e0 with
  | no => rw [q] at h'; exact h'
  | exc c e1 => rw [q] at h'; exact fun H' S' A' C hC R st => h' σ0 H' S' A' C hC R st .refl
  | ok ds e1 =>
    rw [q] at h'
    have h1 : PostS G W P D S0 A0 H0 σ0 (loopF ft fb ds e1) := h'
    intro J H1 S1 A1 R1 st1 it
    refine ⟨fun i m σ H => m = ds.length - i ∧ ∃ S e A, Cu G S H σ e A [] ∧ Same S1 S ∧ PostS G W P D S A H σ (loopF ft fb (ds.drop i) e), ⟨ds.length, by simp, S1, e1, A1, R1, Same.refl S1, by rw [List.drop_zero]; exact PostS.pre st1 .refl h1⟩, ?_⟩
    rintro i m σ H ⟨rfl, S, e, A, R, ss, hp⟩
    obtain ⟨go, stop⟩ := it i S H ss R.sub
    by_cases hi : ds.length ≤ i
    · refine .inl ⟨stop hi, ?_⟩
      rw [List.drop_eq_nil_of_le hi] at hp
      exact hp σ H S A R .refl .refl
    · have hi' : i < ds.length := by omega
      refine .inr ?_
      have hd : ds[i]? = some ds[i] := List.getElem?_eq_getElem hi'
      obtain ⟨g1, g2⟩ := go _ hd
      refine ⟨g1, fun σ' H' => ∃ S' e' A', Cu G S' H' σ' e' A' [] ∧ Same S1 S' ∧ PostS G W P D S' A' H' σ' (loopF ft fb (ds.drop (i + 1)) e'), fun σ' H' hN => ⟨ds.length - (i + 1), by omega, rfl, hN⟩, fun x H' hy => ?_⟩
      obtain ⟨S2, M, rp⟩ := g2 x H' hy
      obtain ⟨R2, st2⟩ := M.cu (f := []) R
      refine ⟨S2, e, A, ds[i], R2, rp, ?_⟩
      rw [List.drop_eq_getElem_cons hi', loopF] at hp
      cases z : ft ds[i] e with
      | none => rw [z] at hp; exact hp
      | some e2 =>
        rw [z] at hp
        intro σ3 S3 A3 R3 st3 pn3
        refine turn_ok (k := fun e2 => loopF ft fb (ds.drop (i + 1)) e2) R3 (PostS.pre (st2.trans st3) pn3 hp) fun σ' H' S' A' e' hk R' st' pn' => ?_
        exact ⟨S', e', A', R', (ss.trans st2.sub).trans (st3.sub.trans st'.sub), PostS.pre st' pn' hk⟩
theorem while_ok {fc : Ev → Res RV} {fb : Ev → SRes} {n : Nat} (h : tS G W P (fWhile fc fb n) D σ H) : tWhile (tT G W fc) (tS G W P fb) D σ H := by
  refine ⟨fun m σ H => tS G W P (fWhile fc fb m) D σ H, ⟨n, h⟩, fun m σ H h => ?_⟩
  cases m with
  | zero =>
    obtain ⟨S, e, A, R, h⟩ := h
    exact h.elim
  | succ m =>
    have h' : tS G W P (fIf fc (fun e1 => match fb e1 with | .nx e2 => fWhile fc fb m e2 | .ct e2 => fWhile fc fb m e2 | .bk e2 => .nx e2 | r => r) fNx) D σ H := h
    refine tT_mono (if_ok h') fun b H1 z => ?_
    cases b with
    | false =>
      rw [if_neg Bool.false_ne_true] at z ⊢
      exact nx_ok z
    | true =>
      rw [if_pos rfl] at z ⊢
      obtain ⟨S, e, A, R, z⟩ := z
      refine ⟨fun σ' H' => tS G W P (fWhile fc fb m) D σ' H', fun σ' H' q => ⟨m, Nat.lt_succ_self m, q⟩, ?_⟩
      exact turn_ok (k := fun e2 => fWhile fc fb m e2) R z fun σ' H' S' A' e' hk R' st' pn' => ⟨S', e', A', R', PostS.pre st' pn' hk⟩
end
section
variable {X : Cx} {W : WX} {P : Nat → Bool} {pos : Pos} {tg iter c : Expr} {body : List Stmt} {fi : Ev → Res (List PyData)} {ft : Tgt} {fb : Ev → SRes} {fc : Ev → Res RV}
theorem es_for (hp : PassesOwn (model X.prog X.w) X.A X.env X.xe) (hc : X.calm = true) (hi : EI X W tg iter fi) (hg : EG X P tg ft) (hb : ESs X W P body fb) (hs : ∀ x, foldedSetIterable iter X.env x = pure x := by intro _; rfl) : ES X W P (.For tg iter body [] pos) (fFor fi ft fb) :=
  PS.imp (ps_for hp hc hi hg hb hs) fun _ _ _ q => for_ok q
theorem es_while (n : Nat) (hp : PassesOwn (model X.prog X.w) X.A X.env X.xe) (hc : ET X W c fc) (hb : ESs X W P body fb) : ES X W P (.While c body [] pos) (fWhile fc fb n) :=
  PS.imp (ps_while hp hc hb) fun _ _ _ q => while_ok q
end

/-! ### list comprehensions: the elements are shared -/
def wipeE (e : Ev) : List Nat → Option Ev
  | [] => some e
  | v :: vs => match wipeE e vs with
    | none => none
    | some e1 => match e1[v]? with
      | some (some (.dt _ (_ + 1))) => none
      | _ => some (e1.set v none)
/-- behind the block: the block's own slots as they were -/
def unwipe (e0 e : Ev) : List Nat → Ev
  | [] => e
  | v :: vs => (unwipe e0 e vs).set v (e0[v]?.getD none)
def most : Nat := 16000000
def loopC (ft : Tgt) (fc fe : Ev → Res RV) (own : List Nat) : List PyData → List PyData → Ev → Res (List PyData)
  | [], acc, e => .ok acc e
  | d :: ds, acc, e => match wipeE e own with
    | none => .no
    | some e0 => match ft d e0 with
      | none => .no
      | some e1 => match fc e1 with
        | .ok (.val (.bool true) _) e2 => match fe e2 with
          | .ok r e3 => match settle [r] e3 with
            | some ([y], e4) => loopC ft fc fe own ds (acc ++ [y]) e4
            | _ => .no
          | _ => .no
        | .ok (.val (.bool false) _) e2 => loopC ft fc fe own ds acc e2
        | _ => .no
def fLc (fi : Ev → Res (List PyData)) (ft : Tgt) (fc fe : Ev → Res RV) (own : List Nat) (e : Ev) : Res RV := (fi e).bind fun ds e1 =>
  if ds.length ≤ most then (match wipeE e1 own with
    | none => .no
    | some _ => match loopC ft fc fe own ds [] e1 with
      | .ok acc e3 => .ok (.val (.list acc) 1) (unwipe e1 e3 own)
      | _ => .no)
  else .no
def fYes (e : Ev) : Res RV := .ok (.val (.bool true) 0) e

section
variable {G : Gx} {W : WX} {P : Nat → Bool} {S S' H H' S0 H0 S1 H1 : Hp} {σ σ1 σ2 : L2.St} {e e1 e2 : Ev} {A A' A0 A1 : List Addr} {ts : List Tmp} {D : Ends}
theorem nodup_nil {A : List Addr} : (A ++ fps []).Nodup ↔ A.Nodup := by show (A ++ []).Nodup ↔ _; rw [List.append_nil]
theorem mem_nil {A : List Addr} {a : Addr} : a ∈ A ++ fps [] ↔ a ∈ A := by show a ∈ A ++ [] ↔ _; rw [List.append_nil]
/-- a slot stored to, nothing owned comes in -/
theorem Cu.put0 {i : Nat} {w : Option V} {nw : Option Vl} (R : Cu G S H σ e A []) (hi : i < σ.length) (hn : Slots G S H [w] [nw] []) : ∃ A', Cu G S H (σ.set i w) (e.set i nw) A' [] ∧ ∀ a ∈ A', a ∈ A := by
  obtain ⟨B, f, C, e1, sl⟩ := R.slots.put i w nw [] hi hn
  have sub : ∀ a ∈ B ++ [] ++ C, a ∈ A := fun a ha => by
    rw [List.append_nil] at ha
    rw [e1]
    rcases List.mem_append.mp ha with z | z <;> simp [z]
  refine ⟨B ++ [] ++ C, ⟨R.sub, nodup_nil.mpr ?_, fun a ha => R.off a (mem_nil.mpr (sub a (mem_nil.mp ha))), sl, fun t ht => nomatch ht⟩, sub⟩
  have n := nodup_nil.mp R.nod
  rw [e1] at n
  rw [List.append_nil]
  obtain ⟨p, q, r⟩ := nodup_app.mp n
  exact nodup_app.mpr ⟨(nodup_app.mp p).1, q, fun a ha => r a (List.mem_append_left _ ha)⟩
theorem wipe_cu : ∀ {vs : List Nat} {e' : Ev}, Cu G S H σ e A [] → wipeE e vs = some e' → (∀ v ∈ vs, v < σ.length) → ∃ A', Cu G S H (wipe σ vs) e' A' [] ∧ ∀ a ∈ A', a ∈ A
  | [], e', R, h, _ => by
    cases h
    exact ⟨A, R, fun _ z => z⟩
  | v :: vs, e', R, h, hv => by
    have h' : (match wipeE e vs with | none => none | some e1 => match e1[v]? with | some (some (.dt _ (_ + 1))) => none | _ => some (e1.set v none)) = some e' := h
    cases z : wipeE e vs with
    | none => rw [z] at h'; cases h'
    | some e1 =>
      rw [z] at h'
      obtain ⟨A1, R1, s1⟩ := wipe_cu R z fun w hw => hv w (List.mem_cons_of_mem _ hw)
      have hl : v < (wipe σ vs).length := by rw [wipe_length]; exact hv v List.mem_cons_self
      obtain ⟨A2, R2, s2⟩ := R1.put0 (i := v) (w := none) (nw := none) hl (.none .nil)
      have he : e' = e1.set v none := by
        simp only at h'
        split at h'
        · cases h'
        · cases h'; rfl
      rw [he]
      exact ⟨A2, R2, fun a ha => s1 a (s2 a ha)⟩
/-- a block's own slots are not owned -/
theorem wipeE_lv : ∀ {vs : List Nat} {e' : Ev}, wipeE e vs = some e' → ∀ v ∈ vs, ∀ d n, e[v]? ≠ some (some (.dt d (n + 1)))
  | [], _, _, v, hv, _, _ => nomatch hv
  | w :: vs, e', h, v, hv, d, n => by
    have h' : (match wipeE e vs with | none => none | some e1 => match e1[w]? with | some (some (.dt _ (_ + 1))) => none | _ => some (e1.set w none)) = some e' := h
    cases z : wipeE e vs with
    | none => rw [z] at h'; cases h'
    | some e1 =>
      rw [z] at h'
      by_cases hm : v ∈ vs
      · exact wipeE_lv z v hm d n
      · rcases List.mem_cons.mp hv with rfl | q
        · intro hd
          have : e1[v]? = e[v]? := wipeE_out z hm
          simp only [this, hd] at h'
          cases h'
        · exact absurd q hm
where
  wipeE_out : ∀ {vs : List Nat} {e' : Ev} {i : Nat}, wipeE e vs = some e' → i ∉ vs → e'[i]? = e[i]?
    | [], _, _, h, _ => by cases h; rfl
    | w :: vs, e', i, h, hi => by
      have h' : (match wipeE e vs with | none => none | some e1 => match e1[w]? with | some (some (.dt _ (_ + 1))) => none | _ => some (e1.set w none)) = some e' := h
      cases z : wipeE e vs with
      | none => rw [z] at h'; cases h'
      | some e1 =>
        rw [z] at h'
        have he : e' = e1.set w none := by
          simp only at h'
          split at h'
          · cases h'
          · cases h'; rfl
        rw [he, List.getElem?_set_ne (fun q => hi (by rw [← q]; exact List.mem_cons_self)), wipeE_out z fun q => hi (List.mem_cons_of_mem _ q)]
theorem wipe_at {vs : List Nat} {i : Nat} (h : i ∉ vs) : (wipe σ vs)[i]? = σ[i]? := wipe_out h
theorem wipe_eq {vs : List Nat} (hl : σ2.length = σ.length) (h : ∀ i, i ∉ vs → σ2[i]? = σ[i]?) : wipe σ2 vs = wipe σ vs := by
  apply List.ext_getElem?
  intro i
  by_cases hi : i ∈ vs
  · by_cases hs : i < σ.length
    · rw [wipe_in hi (by rw [hl]; exact hs), wipe_in hi hs]
    · rw [List.getElem?_eq_none (by rw [wipe_length, hl]; omega), List.getElem?_eq_none (by rw [wipe_length]; omega)]
  · rw [wipe_at hi, wipe_at hi, h i hi]
where
  wipe_in {σ : L2.St} : ∀ {vs : List Nat} {i : Nat}, i ∈ vs → i < σ.length → (wipe σ vs)[i]? = some none
    | [], _, h, _ => nomatch h
    | v :: vs, i, h, hl => by
      unfold wipe
      by_cases hv : v = i
      · subst hv
        rw [List.getElem?_set_self (by rw [wipe_length]; exact hl)]
      · rw [List.getElem?_set_ne hv]
        rcases List.mem_cons.mp h with q | q
        · exact absurd q.symm hv
        · exact wipe_in q hl
/-- the slots of the block's names as they were ahead of it -/
def back (σ σ2 : L2.St) : List Nat → L2.St
  | [] => σ2
  | v :: vs => (back σ σ2 vs).set v (σ[v]?.getD none)
theorem back_len : ∀ (vs : List Nat), (back σ σ2 vs).length = σ2.length
  | [] => rfl
  | v :: vs => by rw [back, List.length_set, back_len vs]
theorem back_cu {vs : List Nat} (R1 : Cu G S1 H1 σ e1 A1 []) (lv : ∀ v ∈ vs, ∀ d n, e1[v]? ≠ some (some (.dt d (n + 1)))) (hv : ∀ v ∈ vs, v < σ.length) (hl : σ2.length = σ.length) (ss : Same S1 S) (R : Cu G S H σ2 e A []) :
    ∃ A', Cu G S H (back σ σ2 vs) (unwipe e1 e vs) A' [] ∧ ∀ a ∈ A', a ∈ A := by
  induction vs with
  | nil => exact ⟨A, R, fun _ z => z⟩
  | cons v vs ih =>
    obtain ⟨A2, R2, s2⟩ := ih (fun w hw => lv w (List.mem_cons_of_mem _ hw)) fun w hw => hv w (List.mem_cons_of_mem _ hw)
    have hlen : v < (back σ σ2 vs).length := by rw [back_len, hl]; exact hv v List.mem_cons_self
    have key : Slots G S H [σ[v]?.getD none] [e1[v]?.getD none] [] := by
      have hle : v < e1.length := by rw [← R1.slots.length]; exact hv v List.mem_cons_self
      cases q : e1[v]? with
      | none => exact .none .nil
      | some o =>
        cases o with
        | none => exact .none .nil
        | some x =>
          cases x with
          | ex c =>
            obtain ⟨a, C, h1, h2, h3⟩ := R1.slots.exAt (i := v) q
            rw [h1]
            exact .ex (ss _ _ h2) h3 .nil
          | fz ds =>
            obtain ⟨a, C, h1, h2, h3⟩ := R1.slots.fzAt (i := v) q
            rw [h1]
            exact .fz (Same.seqL ss h2) (h3.mn ss) .nil
          | dt d n =>
            cases n with
            | succ n => exact absurd q (lv v List.mem_cons_self d n)
            | zero =>
              obtain ⟨w, f, B, C, h1, h2, o, _⟩ := R1.slots.at v q
              rw [h1]
              exact Slots.dt (f := []) (A := []) ⟨rfl, o.2.mn ss⟩ .nil
    obtain ⟨A3, R3, s3⟩ := R2.put0 hlen key
    exact ⟨A3, R3, fun a ha => s2 a (s3 a ha)⟩
theorem back_eq {vs : List Nat} (hl : σ2.length = σ.length) (h : wipe σ2 vs = wipe σ vs) (hv : ∀ v ∈ vs, v < σ.length) : back σ σ2 vs = σ := by
  apply List.ext_getElem?
  intro i
  have out : ∀ {vs : List Nat} {i : Nat}, i ∉ vs → (back σ σ2 vs)[i]? = σ2[i]? := by
    intro vs
    induction vs with
    | nil => intro i _; rfl
    | cons v vs ih =>
      intro i hi
      rw [back, List.getElem?_set_ne (fun q => hi (by rw [← q]; exact List.mem_cons_self)), ih fun q => hi (List.mem_cons_of_mem _ q)]
  have inn : ∀ {vs : List Nat} {i : Nat}, i ∈ vs → i < σ.length → (back σ σ2 vs)[i]? = σ[i]? := by
    intro vs
    induction vs with
    | nil => intro i hi; exact nomatch hi
    | cons v vs ih =>
      intro i hi hil
      rw [back]
      by_cases hvi : v = i
      · subst hvi
        rw [List.getElem?_set_self (by rw [back_len, hl]; exact hil), List.getElem?_eq_getElem hil]
        rfl
      · rw [List.getElem?_set_ne hvi]
        rcases List.mem_cons.mp hi with q | q
        · exact absurd q.symm hvi
        · exact ih q hil
  by_cases hi : i ∈ vs
  · exact inn hi (hv i hi)
  · rw [out hi]
    have this : (wipe σ2 vs)[i]? = (wipe σ vs)[i]? := by rw [h]
    rw [wipe_at hi, wipe_at hi] at this
    exact this
/-- an object of nobody's is changed -/
theorem Cu.poke {p : Addr} {o : HO} (R : Cu G S H σ e A []) (hS : S p = none) (hA : p ∉ A) : Cu G S (upd H p o) σ e A [] := by
  refine ⟨fun b u z => ?_, R.nod, R.off, R.slots.keep (Same.refl S) fun b hb u z => ?_, fun t ht => nomatch ht⟩
  · have hb : b ≠ p := fun w => by rw [w, hS] at z; cases z
    rw [upd_ne hb]; exact R.sub b u z
  · have hb' : b ≠ p := fun w => hA (by rw [← w]; exact hb)
    rw [upd_ne hb']; exact z
theorem Step.poke {p : Addr} {o : HO} (st : Step S A H S' A' H') (hp : H p ≠ none) : Step S (A ++ [p]) H S' (A' ++ [p]) (upd H' p o) := by
  refine ⟨fun b u z n => ?_, fun b z => ?_, st.sub, fun b u z => (st.subF b u z).imp id (.imp id fun w => List.mem_append_left _ w), fun a ha => ?_⟩
  · have hb : b ≠ p := fun w => n (by simp [w])
    rw [upd_ne hb]
    exact st.frame b u z fun w => n (List.mem_append_left _ w)
  · by_cases hb : b = p
    · subst hb; rw [upd_same]; exact fun w => nomatch w
    · rw [upd_ne hb]; exact st.grow b z
  · rcases List.mem_append.mp ha with z | z
    · exact (st.own a z).imp (fun w => List.mem_append_left _ w) id
    · exact .inl (List.mem_append_right _ z)
end
end PV

/-! PVI: list comprehensions: the rule. -/
namespace PV
open PySem PySem.Spec PyProof.Rows L2

abbrev wF : WX := fun _ _ _ _ => False
def notIn (own : List Nat) (i : Nat) : Bool := !own.contains i
theorem notIn_of {own : List Nat} {i : Nat} (h : i ∉ own) : notIn own i = true := by
  unfold notIn
  simpa using h

section
variable {G : Gx} {W : WX} {σ : L2.St} {S0 H0 : Hp} {A0 : List Addr} {D : Addr}
/-- between two turns of a block -/
structure Bt (G : Gx) (σ : L2.St) (own : List Nat) (S1 : Hp) (A1 : List Addr) (H1 : Hp) (D : Addr) (Z : Res (List PyData) → Prop) (ft : Tgt) (fc fe : Ev → Res RV) (ds : List PyData) (i : Nat) (H : Hp) : Prop where
  ex : ∃ S e A σ2 vacc acc, wipe σ2 own = wipe σ own ∧ σ2.length = σ.length ∧ Cu G S H σ2 e A [] ∧ H D = some (.lst vacc) ∧ RpL G.K S vacc acc ∧ S D = none ∧ D ∉ A ∧ acc.length ≤ i ∧ Same S1 S ∧ Step S1 (A1 ++ [D]) H1 S (A ++ [D]) H ∧ Z (loopC ft fc fe own (ds.drop i) acc e)

/-- as ItOk, with objects T that nobody else holds -/
def ItT (K : PySem.W.Frag) (J : It) (S1 T : Hp) (ds : List PyData) : Prop := ∀ i S H, Same S1 S → Same S H → Same T H →
  (∀ d, ds[i]? = some d → J.go i H ∧ ∀ x H', J.yld i H x H' → ∃ S', Made S H S' H' [] ∧ Rp K S' x d) ∧ (ds.length ≤ i → J.stop i H)
theorem ItOk.toT {K : PySem.W.Frag} {J : It} {S1 T : Hp} {ds : List PyData} (h : ItOk K J S1 ds) : ItT K J S1 T ds := fun i S H a b _ => h i S H a b
theorem lc_turns {T : Hp} {J : It} {own : List Nat} {S1 : Hp} {A1 : List Addr} {H1 : Hp} {Z : Res (List PyData) → Prop} {ft : Tgt} {fc fe : Ev → Res RV} {ds : List PyData} {Q : VK}
    (hv : ∀ v ∈ own, v < σ.length) (hn : ¬ Z .no) (hz : ds.length ≤ most) (it : ItT G.K J S1 T ds) (hT : Same T H1) (hTA : ∀ b o, T b = some o → b ∉ A1 ++ [D])
    (hQ : ∀ S e A σ2 vacc acc H, wipe σ2 own = wipe σ own → σ2.length = σ.length → Cu G S H σ2 e A [] → H D = some (.lst vacc) → RpL G.K S vacc acc → S D = none → D ∉ A → Same S1 S → Step S1 (A1 ++ [D]) H1 S (A ++ [D]) H → Z (.ok acc e) → Q (.ref D) H) :
    ∀ i m H, (m = ds.length - i ∧ Bt G σ own S1 A1 H1 D Z ft fc fe ds i H) →
      (J.stop i H ∧ Q (.ref D) H) ∨ (J.go i H ∧ ∃ Nx : Hp → Prop, (∀ H', Nx H' → ∃ m', m' < m ∧ (m' = ds.length - (i + 1) ∧ Bt G σ own S1 A1 H1 D Z ft fc fe ds (i + 1) H')) ∧ ∀ x H', J.yld i H x H' → tG G (notIn own) ft x (wipe σ own) H' fun σ2 H2 => wipe σ2 own = wipe σ own ∧ tT G wF fc σ2 H2 fun b H3 =>
        if b = true then tR G wF fe σ2 H3 fun y H4 => ∃ acc, H4 D = some (.lst acc) ∧ acc.length < sizeLine ∧ Nx (upd H4 D (.lst (acc ++ [y]))) else Nx H3) := by
  rintro i m H ⟨rfl, ⟨S, e, A, σ2, vacc, acc, ew, el, R, hD, rp, hSD, hDA, ha, ss, st, hZ⟩⟩
  obtain ⟨go, stop⟩ := it i S H ss R.sub fun b o z => st.frame b o (hT b o z) (hTA b o z)
  by_cases hi : ds.length ≤ i
  · refine .inl ⟨stop hi, ?_⟩
    rw [List.drop_eq_nil_of_le hi] at hZ
    exact hQ S e A σ2 vacc acc H ew el R hD rp hSD hDA ss st hZ
  · have hi' : i < ds.length := by omega
    obtain ⟨g1, g2⟩ := go _ (List.getElem?_eq_getElem hi')
    refine .inr ⟨g1, fun H' => Bt G σ own S1 A1 H1 D Z ft fc fe ds (i + 1) H', fun H' hN => ⟨ds.length - (i + 1), by omega, rfl, hN⟩, fun x H' hy => ?_⟩
    obtain ⟨S2, M, rx⟩ := g2 x H' hy
    obtain ⟨R2, st2⟩ := M.cu (f := []) R
    have hDn : H D ≠ none := by rw [hD]; exact fun z => nomatch z
    have hS2D : S2 D = none := by
      cases z : S2 D with
      | none => rfl
      | some o =>
        rcases M.fresh D o z with y | y
        · rw [hSD] at y; cases y
        · exact absurd y hDn
    rw [List.drop_eq_getElem_cons hi', loopC] at hZ
    cases zw : wipeE e own with
    | none => rw [zw] at hZ; exact absurd hZ hn
    | some e0 =>
      rw [zw] at hZ
      obtain ⟨A3, R3, s3⟩ := wipe_cu R2 zw (fun v h => by rw [el]; exact hv v h)
      rw [ew] at R3
      refine ⟨S2, e0, A3, ds[i], R3, rx, ?_⟩
      simp only at hZ
      cases zt : ft ds[i] e0 with
      | none => rw [zt] at hZ; exact absurd hZ hn
      | some e1 =>
        rw [zt] at hZ
        simp only at hZ
        intro σ3 S3 A4 R4 st4 pn
        have el3 : σ3.length = σ.length := by rw [pn.1, wipe_length]
        have ew3 : wipe σ3 own = wipe σ own := by
          have := wipe_eq (σ2 := σ3) (σ := wipe σ own) (vs := own) pn.1 fun j hj => pn.2 j (notIn_of hj)
          rw [this]
          exact wipe_eq (by rw [wipe_length]) fun j hj => wipe_at hj
        refine ⟨ew3, ?_⟩
        -- the state at the test, D apart
        have stA : Step S A H S3 A4 H' := (st2.trans (Step.refl.less s3)).trans st4
        have hD3 : H' D = some (.lst vacc) := M.hh D _ hD
        have outD : ∀ {S' : Hp} {A' : List Addr} {H2 : Hp}, Step S A H S' A' H2 → S' D = none ∧ D ∉ A' ∧ H2 D = some (.lst vacc) := fun {S' A' H2} q => by
          refine ⟨?_, fun z => ?_, q.frame D _ hD hDA⟩
          · cases z : S' D with
            | none => rfl
            | some o =>
              rcases q.subF D o z with y | y | y
              · rw [hSD] at y; cases y
              · exact absurd y hDn
              · exact absurd y hDA
          · rcases q.own D z with y | y
            · exact hDA y
            · exact hDn y
        have pk : ∀ {S' : Hp} {A' : List Addr} {H2 : Hp} {o : HO}, Step S A H S' A' H2 → Step S1 (A1 ++ [D]) H1 S' (A' ++ [D]) (upd H2 D o) := fun {S' A' H2 o} q => st.trans (q.poke hDn)
        have same : ∀ {H2 : Hp} {o : HO}, H2 D = some o → upd H2 D o = H2 := fun {H2 o} q => by
          funext b
          by_cases hb : b = D
          · subst hb; rw [upd_same, q]
          · rw [upd_ne hb]
        refine ⟨S3, e1, A4, R4, ?_⟩
        cases qc : fc e1 with
        | no => rw [qc] at hZ; exact absurd hZ hn
        | exc c e2 => rw [qc] at hZ; exact absurd hZ hn
        | ok rv e2 =>
          rw [qc] at hZ
          cases rv with
          | bor j => exact absurd hZ hn
          | ex c => exact absurd hZ hn
          | val d n =>
            cases d with
            | bool b =>
              intro H5 S5 A5 R5 st5
              have q5 := stA.trans st5
              cases b with
              | false =>
                rw [if_neg Bool.false_ne_true]
                obtain ⟨o1, o2, o3⟩ := outD q5
                have p5 := pk (o := .lst vacc) q5
                rw [same o3] at p5
                exact ⟨S5, e2, A5, σ3, vacc, acc, ew3, el3, R5, o3, rp.mn q5.sub, o1, o2, by omega, ss.trans q5.sub, p5, hZ⟩
              | true =>
                rw [if_pos rfl]
                refine ⟨S5, e2, A5, R5, ?_⟩
                simp only at hZ
                cases qe : fe e2 with
                | no => rw [qe] at hZ; exact absurd hZ hn
                | exc c e3 => rw [qe] at hZ; exact absurd hZ hn
                | ok r e3 =>
                  rw [qe] at hZ
                  simp only at hZ
                  intro y H6 S6 A6 f R6 st6
                  cases qs : settle [r] e3 with
                  | none => rw [qs] at hZ; exact absurd hZ hn
                  | some p =>
                    obtain ⟨ys, e4⟩ := p
                    rw [qs] at hZ
                    obtain ⟨S7, A7, R7, rp7, st7⟩ := settle_ok (ts := [⟨r, y, f⟩]) R6 qs
                    rw [fps_one] at st7
                    match ys, rp7, hZ with
                    | [yd], rp7, hZ =>
                      have q7 := (q5.trans st6).trans st7
                      obtain ⟨o1, o2, o3⟩ := outD q7
                      have hl : vacc.length < sizeLine := by
                        rw [rp.length]
                        have h1 : acc.length < most := by omega
                        have h2 : most ≤ sizeLine := by rw [sizeLine_eq]; decide
                        omega
                      refine ⟨vacc, o3, hl, S7, e4, A7, σ3, vacc ++ [y], acc ++ [yd], ew3, el3, R7.poke o1 o2, upd_same, (rp.mn q7.sub).append rp7, o1, o2, ?_, ss.trans q7.sub, pk q7, hZ⟩
                      rw [List.length_append]
                      simp
                      omega
                    | [], rp7, hZ => exact absurd hZ hn
                    | _ :: _ :: _, rp7, hZ => exact absurd hZ hn
            | _ => exact absurd hZ hn
end
theorem lc_ok {G : Gx} {W : WX} {σ : L2.St} {H : Hp} {Q : VK} {fi : Ev → Res (List PyData)} {ft : Tgt} {fc fe : Ev → Res RV} {own : List Nat} (hv : ∀ v ∈ own, v < σ.length) (h : tR G W (fLc fi ft fc fe own) σ H Q) :
    tLc (tI G W fi) (tG G (notIn own) ft) (tT G wF fc) (tR G wF fe) own σ H Q := by
  obtain ⟨S, e, A, C, h⟩ := h
  refine ⟨S, e, A, C, ?_⟩
  cases q : fi e with
  | no => simp only [fLc, q, Res.bind] at h; exact h
  | exc c e1 => simp only [fLc, q, Res.bind] at h; exact h
  | ok ds e1 =>
    simp only [fLc, q, Res.bind] at h
    by_cases hz : ds.length ≤ most
    · rw [if_pos hz] at h
      cases zw : wipeE e1 own with
      | none => rw [zw] at h; exact h.elim
      | some e0 =>
        rw [zw] at h
        simp only at h
        intro J H1 S1 A1 R1 st1 it D hD
        have hSD : S1 D = none := by
          cases z : S1 D with
          | none => rfl
          | some o => rw [R1.sub D o z] at hD; cases hD
        have hDA : D ∉ A1 := fun z => R1.trk (mem_nil.mpr z) hD
        have sm : Same H1 (upd H1 D (.lst [])) := fun b o z => by rw [upd_ne (ne_of_none z hD)]; exact z
        let Z : Res (List PyData) → Prop := fun r => PostE G W S H σ A Q (match r with | .ok acc e3 => .ok (.val (.list acc) 1) (unwipe e1 e3 own) | _ => .no)
        have T := lc_turns (T := fun _ => none) (G := G) (σ := σ) (D := D) (J := J) (own := own) (S1 := S1) (A1 := A1) (H1 := upd H1 D (.lst [])) (Z := Z) (ft := ft) (fc := fc) (fe := fe) (ds := ds) (Q := Q) hv (fun z => z) hz it.toT (fun _ _ z => nomatch z) (fun _ _ z => nomatch z)
          (fun S2 e2 A2 σ2 vacc acc H2 ew el R2 hD2 rp hS2 hA2 ss st2 hZ => ?_)
        · refine ⟨fun i m H' => m = ds.length - i ∧ Bt G σ own S1 A1 (upd H1 D (.lst [])) D Z ft fc fe ds i H', ⟨ds.length, by simp, ⟨S1, e1, A1, σ, [], [], rfl, rfl, R1.poke hSD hDA, upd_same, .nil, hSD, hDA, Nat.zero_le _, Same.refl S1, Step.refl, ?_⟩⟩, T⟩
          rw [List.drop_zero]
          exact h
        · have hZ' : PostE G W S H σ A Q (.ok (.val (.list acc) 1) (unwipe e1 e2 own)) := hZ
          obtain ⟨A3, R3, s3⟩ := back_cu (vs := own) R1 (wipeE_lv zw) hv el ss R2
          rw [back_eq el ew hv] at R3
          have n3 := nodup_nil.mp R3.nod
          have hDA3 : D ∉ A3 := fun z => hA2 (s3 D z)
          refine hZ' (.ref D) H2 S2 A3 [D] ⟨R3.sub, ?_, ?_, R3.slots, ?_⟩ ?_
          · rw [fps_one]
            refine nodup_app.mpr ⟨n3, List.nodup_cons.mpr ⟨List.not_mem_nil, List.nodup_nil⟩, fun a ha z => ?_⟩
            rw [List.mem_singleton] at z
            exact hDA3 (by rw [← z]; exact ha)
          · intro a ha
            rw [fps_one] at ha
            rcases List.mem_append.mp ha with z | z
            · exact R3.off a (mem_nil.mpr z)
            · rw [List.mem_singleton] at z
              rw [z]; exact hS2
          · intro t ht
            rw [List.mem_singleton] at ht
            subst ht
            exact .inl ⟨D, vacc, acc, [], rfl, rfl, hD2, rfl, OwL.of_rp rp⟩
          · refine st1.trans ⟨fun b o z n => ?_, fun b z => ?_, st2.sub, fun b o z => ?_, fun a ha => ?_⟩
            · have hb : b ≠ D := ne_of_none z hD
              refine st2.frame b o (sm b o z) fun w => ?_
              rcases List.mem_append.mp w with y | y
              · exact n y
              · rw [List.mem_singleton] at y; exact hb y
            · refine st2.grow b ?_
              cases y : H1 b with
              | none => exact absurd y z
              | some u => rw [sm b u y]; exact fun w => nomatch w
            · rcases st2.subF b o z with y | y | y
              · exact .inl y
              · refine .inr (.inl ?_)
                cases w : H1 b with
                | none => rfl
                | some u => rw [sm b u w] at y; cases y
              · rcases List.mem_append.mp y with w | w
                · exact .inr (.inr w)
                · rw [List.mem_singleton] at w
                  rw [w]; exact .inr (.inl hD)
            · rcases List.mem_append.mp ha with z | z
              · rcases st2.own a (List.mem_append_left _ (s3 a z)) with y | y
                · rcases List.mem_append.mp y with w | w
                  · exact .inl w
                  · rw [List.mem_singleton] at w
                    rw [w]; exact .inr hD
                · refine .inr ?_
                  cases w : H1 a with
                  | none => rfl
                  | some u => rw [sm a u w] at y; cases y
              · rw [List.mem_singleton] at z
                rw [z]; exact .inr hD
    · rw [if_neg hz] at h; exact h.elim

section
variable {X : Cx} {W : WX} {pos : Pos} {elt tg iter : Expr} {ifs : List Expr} {scope : Scope} {own : List (Str × Nat)} {fi : Ev → Res (List PyData)} {ft : Tgt} {fc fe : Ev → Res RV}
abbrev ETs (X : Cx) (W : WX) (ifs : List Expr) (f : Ev → Res RV) : Prop := PTs X ifs (tT (gx X) W f)
theorem PTs.imp {X : Cx} {e : List Expr} {t t' : TT} (h : PTs X e t) (k : ∀ σ H Q, t' σ H Q → t σ H Q) : PTs X e t' := ⟨fun pins s σ H Q I q => h.run pins s σ H Q I (k σ H Q q)⟩
theorem ets_nil {X : Cx} {W : WX} : ETs X W [] fYes := PTs.imp pts_nil fun σ H Q q => by
  obtain ⟨S, e, A, C, q⟩ := q
  exact q H S A C .refl
theorem ets_one {X : Cx} {W : WX} {c : Expr} {f : Ev → Res RV} (h : ET X W c f) : ETs X W [c] f := pts_one h
theorem own_lt {N : List Str} {sc scope : Scope} (ok : BlkOk N sc scope own) {n : Nat} (hn : n = N.length) : ∀ v ∈ own.map (·.2), v < n := fun v hv => by
  obtain ⟨p, hp, rfl⟩ := List.mem_map.mp hv
  rw [hn]
  exact (List.getElem?_eq_some_iff.mp (ok.ix p hp)).1
theorem ee_lc (hc : X.calm = true) (hN : X.N.Nodup) (hi : EI X W tg iter fi) (ok : BlkOk X.N X.env.scope scope own)
    (hg : ∀ (s : Shared) (H : Hp) (C : Addr) (cl : List (Str × Addr)) (fp : List Addr), EG (X.blk s H scope (compEnvC scope cl C X.env) fp) (notIn (own.map (·.2))) tg ft)
    (ht : ∀ (s : Shared) (H : Hp) (C : Addr) (cl : List (Str × Addr)) (fp : List Addr), ETs (X.blk s H scope (compEnvC scope cl C X.env) fp) wF ifs fc)
    (he : ∀ (s : Shared) (H : Hp) (C : Addr) (cl : List (Str × Addr)) (fp : List Addr), EE (X.blk s H scope (compEnvC scope cl C X.env) fp) wF elt fe) (hs : ∀ x, foldedSetIterable iter X.env x = pure x := by intro _; rfl) :
    EE X W (.ListComp elt [⟨tg, iter, ifs, 0⟩] scope pos) (fLc fi ft fc fe (own.map (·.2))) :=
  ⟨fun pins s σ H Q I q => (pe_lc hc hN hi ok hg ht he hs).run pins s σ H Q I (lc_ok (own_lt ok I.len) q)⟩
theorem es_setLc {P : Nat → Bool} {i : Nat} {y : Str} {py spos : Pos} (hP : P i = false) (hc : X.calm = true) (hN : X.N.Nodup) (hy : X.N[i]? = some y) (hyl : X.env.scope.names.lookup y = some .local)
    (hsw : swapsWith (.ListComp elt [⟨tg, iter, ifs, 0⟩] scope pos) (some (.Name y py)) spos.line X.env = pure true) (hi : EI X W tg iter fi) (ok : BlkOk X.N X.env.scope scope own)
    (hg : ∀ (s : Shared) (H : Hp) (C : Addr) (cl : List (Str × Addr)) (fp : List Addr), EG (X.blk s H scope (compEnvC scope cl C X.env) fp) (notIn (own.map (·.2))) tg ft)
    (ht : ∀ (s : Shared) (H : Hp) (C : Addr) (cl : List (Str × Addr)) (fp : List Addr), ETs (X.blk s H scope (compEnvC scope cl C X.env) fp) wF ifs fc)
    (he : ∀ (s : Shared) (H : Hp) (C : Addr) (cl : List (Str × Addr)) (fp : List Addr), EE (X.blk s H scope (compEnvC scope cl C X.env) fp) wF elt fe) (hs : ∀ x, foldedSetIterable iter X.env x = pure x := by intro _; rfl) :
    ES X W P (.Assign [.Name y py] (.ListComp elt [⟨tg, iter, ifs, 0⟩] scope pos) spos) (fSet i (fLc fi ft fc fe (own.map (·.2)))) :=
  ⟨fun pins s σ H D I q => (ps_setLc hc hN hy hyl hsw hi ok hg ht he hs).run pins s σ H D I (lc_ok (own_lt ok I.len) (set_ok hP q))⟩
end
end PV

/-! PVJ: a comprehension over a slot's own list, which stays the slot's own. -/
namespace PV
open PySem PySem.Spec PyProof.Rows L2

def fLcO (i : Nat) (ft : Tgt) (fc fe : Ev → Res RV) (own : List Nat) (e : Ev) : Res RV := match e[i]? with
  | some (some (.dt (.list ds) 1)) => if ds.length ≤ most then (match wipeE (e.set i none) own with
    | none => .no
    | some _ => match loopC ft fc fe own ds [] (e.set i none) with
      | .ok acc e3 => .ok (.val (.list acc) 1) ((unwipe (e.set i none) e3 own).set i (some (.dt (.list ds) 1)))
      | _ => .no) else .no
  | _ => fLc (fIt1 kSeq (fVar i)) ft fc fe own e
section
variable {G : Gx} {W : WX} {σ : L2.St} {H : Hp} {Q : VK} {ft : Tgt} {fc fe : Ev → Res RV} {own : List Nat} {i : Nat}
theorem set_back {l : L2.St} {i : Nat} {v : V} (h : l[i]? = some (some v)) : l.set i (some v) = l := set_same h
theorem lco_own {ds : List PyData} {S : Hp} {e : Ev} {A : List Addr} (hv : ∀ v ∈ own, v < σ.length) (C : Cu G S H σ e A []) (hi : e[i]? = some (some (.dt (.list ds) 1)))
    (h : PostE G W S H σ A Q (if ds.length ≤ most then (match wipeE (e.set i none) own with
    | none => .no
    | some _ => match loopC ft fc fe own ds [] (e.set i none) with
      | .ok acc e3 => .ok (.val (.list acc) 1) ((unwipe (e.set i none) e3 own).set i (some (.dt (.list ds) 1)))
      | _ => .no) else .no)) : tLc (iList G.K (tVar i)) (tG G (notIn own) ft) (tT G wF fc) (tR G wF fe) own σ H Q := by
  obtain ⟨v, f, B, E, ev, eA, o, _, tk⟩ := C.slots.at i hi
  have oh : ∃ a vs, v = .ref a ∧ f = [a] ∧ H a = some (.lst vs) ∧ RpL G.K S vs ds := by
    rcases o with ⟨a, vs, ds', g, e1, e2, h, e3, ho⟩ | ⟨a, vs, ds', g, e1, e2, h, e3, ho⟩ | ⟨a, vs, ds', e1, e2, _⟩ | ⟨h1, _, _⟩
    · cases e2
      obtain ⟨eg, r⟩ := ho.fp0
      subst eg
      exact ⟨a, vs, e1, e3, h, r⟩
    · cases e2
    · cases e2
    · cases h1
  obtain ⟨a, vs, rfl, rfl, ha, rv⟩ := oh
  have nA : A.Nodup := nodup_nil.mp C.nod
  have aA : a ∈ A := by rw [eA]; simp
  have aS : S a = none := C.off a (List.mem_append_left _ aA)
  have sub : ∀ b ∈ B ++ E, b ∈ A := fun b hb => by
    rw [eA]
    rcases List.mem_append.mp hb with z | z <;> simp [z]
  have aBE : a ∉ B ++ E := fun z => by
    rw [eA] at nA
    obtain ⟨p, q, r⟩ := nodup_app.mp nA
    rcases List.mem_append.mp z with w | w
    · exact (nodup_app.mp p).2.2 a w (List.mem_singleton.mpr rfl)
    · exact r a (by simp) w
  have nBE : (B ++ E).Nodup := by
    rw [eA] at nA
    obtain ⟨p, q, r⟩ := nodup_app.mp nA
    exact nodup_app.mpr ⟨(nodup_app.mp p).1, q, fun b hb => r b (List.mem_append_left _ hb)⟩
  have R1 : Cu G S H σ (e.set i none) (B ++ E) [] := ⟨C.sub, nodup_nil.mpr nBE, fun b hb => C.off b (List.mem_append_left _ (sub b (mem_nil.mp hb))), tk, fun t ht => nomatch ht⟩
  have st1 : Step S A H S (B ++ E) H := Step.refl.less sub
  refine ⟨_, ev, a, rfl, ⟨vs, .inl (.inl ha)⟩, fun D hD => ?_⟩
  by_cases hz : ds.length ≤ most
  · rw [if_pos hz] at h
    cases zw : wipeE (e.set i none) own with
    | none => rw [zw] at h; exact h.elim
    | some e0 =>
      rw [zw] at h
      simp only at h
      have aD : a ≠ D := fun z => by rw [z, hD] at ha; cases ha
      have hSD : S D = none := by
        cases z : S D with
        | none => rfl
        | some o => rw [C.sub D o z] at hD; cases hD
      have hDA : D ∉ B ++ E := fun z => R1.trk (mem_nil.mpr z) hD
      have sm : Same H (upd H D (.lst [])) := fun b o z => by rw [upd_ne (ne_of_none z hD)]; exact z
      let Z : Res (List PyData) → Prop := fun r => PostE G W S H σ A Q (match r with | .ok acc e3 => .ok (.val (.list acc) 1) ((unwipe (e.set i none) e3 own).set i (some (.dt (.list ds) 1))) | _ => .no)
      let T : Hp := fun b => if b = a then some (.lst vs) else none
      have hTa : ∀ b o, T b = some o → b = a ∧ o = .lst vs := fun b o z => by
        by_cases hb : b = a
        · have z2 : (if b = a then some (HO.lst vs) else none) = some o := z
          rw [if_pos hb] at z2
          exact ⟨hb, (Option.some.inj z2).symm⟩
        · have z2 : (if b = a then some (HO.lst vs) else none) = some o := z
          rw [if_neg hb] at z2
          cases z2
      have it : ItT G.K (Itl G.K a) S T ds := fun j S' H' h1 h2 h3 => by
        have haH : H' a = some (.lst vs) := h3 a _ (show (if a = a then some (HO.lst vs) else none) = some (HO.lst vs) from if_pos rfl)
        have hq : SqL G.K H' a vs := .inl (.inl haH)
        refine ⟨fun d hd => ?_, fun hj => ⟨vs, hq, by rw [rv.length]; exact hj⟩⟩
        obtain ⟨v, hv, r⟩ := rv.get hd
        refine ⟨⟨vs, v, hq, hv⟩, fun x H2 ⟨e1, e2⟩ => ?_⟩
        subst e1
        have := e2 vs hq
        rw [hv] at this
        cases this
        exact ⟨S', Made.refl h2, r.mn h1⟩
      have hT1 : Same T (upd H D (.lst [])) := fun b o z => by
        obtain ⟨rfl, rfl⟩ := hTa b o z
        rw [upd_ne aD]; exact ha
      have hTA : ∀ b o, T b = some o → b ∉ (B ++ E) ++ [D] := fun b o z w => by
        obtain ⟨rfl, rfl⟩ := hTa b o z
        rcases List.mem_append.mp w with y | y
        · exact aBE y
        · rw [List.mem_singleton] at y; exact aD y
      have TT := lc_turns (T := T) (G := G) (σ := σ) (D := D) (J := Itl G.K a) (own := own) (S1 := S) (A1 := B ++ E) (H1 := upd H D (.lst [])) (Z := Z) (ft := ft) (fc := fc) (fe := fe) (ds := ds) (Q := Q) hv (fun z => z) hz it hT1 hTA
        (fun S2 e2 A2 σ2 vacc acc H2 ew el R2 hD2 rp hS2 hA2 ss st2 hZ => ?_)
      · refine ⟨fun j m H' => m = ds.length - j ∧ Bt G σ own S (B ++ E) (upd H D (.lst [])) D Z ft fc fe ds j H', ⟨ds.length, by simp, ⟨S, e.set i none, B ++ E, σ, [], [], rfl, rfl, R1.poke hSD hDA, upd_same, .nil, hSD, hDA, Nat.zero_le _, Same.refl S, Step.refl, ?_⟩⟩, TT⟩
        rw [List.drop_zero]
        exact h
      · have hZ' : PostE G W S H σ A Q (.ok (.val (.list acc) 1) ((unwipe (e.set i none) e2 own).set i (some (.dt (.list ds) 1)))) := hZ
        obtain ⟨A3, R3, s3⟩ := back_cu (vs := own) R1 (wipeE_lv zw) hv el ss R2
        rw [back_eq el ew hv] at R3
        have n3 := nodup_nil.mp R3.nod
        have hDA3 : D ∉ A3 := fun z => hA2 (s3 D z)
        have haT : H (a) ≠ none := by rw [ha]; exact fun z => nomatch z
        have haU : upd H D (.lst []) a ≠ none := by rw [upd_ne aD, ha]; exact fun z => nomatch z
        have aout : a ∉ (B ++ E) ++ [D] := hTA a _ (show (if a = a then some (HO.lst vs) else none) = some (HO.lst vs) from if_pos rfl)
        have ha2 : H2 a = some (.lst vs) := st2.frame a _ (by rw [upd_ne aD]; exact ha) aout
        have aA3 : a ∉ A3 := fun z => by
          rcases st2.own a (List.mem_append_left _ (s3 a z)) with y | y
          · exact aout y
          · exact haU y
        have aS2 : S2 a = none := by
          cases z : S2 a with
          | none => rfl
          | some o =>
            rcases st2.subF a o z with y | y | y
            · rw [aS] at y; cases y
            · exact absurd y haU
            · exact absurd y aout
        have ilt : i < σ.length := (List.getElem?_eq_some_iff.mp ev).1
        have ow : Own G.K S2 H2 1 (.ref a) (.list ds) [a] := .inl ⟨a, vs, ds, [], rfl, rfl, ha2, rfl, OwL.of_rp (rv.mn ss)⟩
        obtain ⟨B', f', C', e3, sl⟩ := R3.slots.put i (some (.ref a)) (some (.dt (.list ds) 1)) [a] ilt (by have := Slots.dt (G := G) (S := S2) (H := H2) (σ := []) (e := []) (A := []) ow .nil; rwa [List.append_nil] at this)
        rw [set_same ev] at sl
        have sub3 : ∀ b ∈ B' ++ [a] ++ C', b ∈ A3 ∨ b = a := fun b hb => by
          rw [e3]
          rcases List.mem_append.mp hb with z | z
          · rcases List.mem_append.mp z with y | y
            · exact .inl (by simp [y])
            · rw [List.mem_singleton] at y; exact .inr y
          · exact .inl (by simp [z])
        have n4 : (B' ++ [a] ++ C').Nodup := by
          rw [e3] at n3 aA3
          obtain ⟨p, q, r⟩ := nodup_app.mp n3
          refine nodup_app.mpr ⟨nodup_app.mpr ⟨(nodup_app.mp p).1, List.nodup_cons.mpr ⟨List.not_mem_nil, List.nodup_nil⟩, fun b hb z => ?_⟩, q, fun b hb z => ?_⟩
          · rw [List.mem_singleton] at z
            exact aA3 (by rw [← z]; simp [hb])
          · rcases List.mem_append.mp hb with y | y
            · exact r b (List.mem_append_left _ y) z
            · rw [List.mem_singleton] at y
              exact aA3 (by rw [← y]; simp [z])
        refine hZ' (.ref D) H2 S2 (B' ++ [a] ++ C') [D] ⟨R3.sub, ?_, ?_, sl, ?_⟩ ?_
        · rw [fps_one]
          refine nodup_app.mpr ⟨n4, List.nodup_cons.mpr ⟨List.not_mem_nil, List.nodup_nil⟩, fun b hb z => ?_⟩
          rw [List.mem_singleton] at z
          rcases sub3 b hb with y | y
          · exact hDA3 (by rw [← z]; exact y)
          · exact aD (by rw [← y, z])
        · intro b hb
          rw [fps_one] at hb
          rcases List.mem_append.mp hb with z | z
          · rcases sub3 b z with y | y
            · exact R3.off b (mem_nil.mpr y)
            · rw [y]; exact aS2
          · rw [List.mem_singleton] at z
            rw [z]; exact hS2
        · intro t ht
          rw [List.mem_singleton] at ht
          subst ht
          exact .inl ⟨D, vacc, acc, [], rfl, rfl, hD2, rfl, OwL.of_rp rp⟩
        · refine ⟨fun b o z n => ?_, fun b z => ?_, st2.sub, fun b o z => ?_, fun b hb => ?_⟩
          · have hb : b ≠ D := ne_of_none z hD
            refine st2.frame b o (sm b o z) fun w => ?_
            rcases List.mem_append.mp w with y | y
            · exact n (sub b y)
            · rw [List.mem_singleton] at y; exact hb y
          · refine st2.grow b ?_
            cases y : H b with
            | none => exact absurd y z
            | some u => rw [sm b u y]; exact fun w => nomatch w
          · rcases st2.subF b o z with y | y | y
            · exact .inl y
            · refine .inr (.inl ?_)
              cases w : H b with
              | none => rfl
              | some u => rw [sm b u w] at y; cases y
            · rcases List.mem_append.mp y with w | w
              · exact .inr (.inr (sub b w))
              · rw [List.mem_singleton] at w
                rw [w]; exact .inr (.inl hD)
          · rcases List.mem_append.mp hb with z | z
            · rcases sub3 b z with y | y
              · rcases st2.own b (List.mem_append_left _ (s3 b y)) with w | w
                · rcases List.mem_append.mp w with u | u
                  · exact .inl (sub b u)
                  · rw [List.mem_singleton] at u
                    rw [u]; exact .inr hD
                · refine .inr ?_
                  cases u : H b with
                  | none => rfl
                  | some o => rw [sm b o u] at w; cases w
              · rw [y]; exact .inl aA
            · rw [List.mem_singleton] at z
              rw [z]; exact .inr hD
  · rw [if_neg hz] at h; exact h.elim
theorem tLc_mono {wi wi' : TI} {g : TG} {tt : TT} {te : TE} {vs : List Nat} {σ : L2.St} {H : Hp} {Q : VK} (h : tLc wi g tt te vs σ H Q) (k : ∀ R, wi σ H R → wi' σ H R) : tLc wi' g tt te vs σ H Q := k _ h
theorem lco_ok (hv : ∀ v ∈ own, v < σ.length) (h : tR G W (fLcO i ft fc fe own) σ H Q) :
    tLc (fun σ H R => iList G.K (tVar i) σ H R ∨ tI G W (fIt1 kSeq (fVar i)) σ H R) (tG G (notIn own) ft) (tT G wF fc) (tR G wF fe) own σ H Q := by
  obtain ⟨S, e, A, C, h⟩ := h
  have other : PostE G W S H σ A Q (fLc (fIt1 kSeq (fVar i)) ft fc fe own e) → tLc (fun σ H R => iList G.K (tVar i) σ H R ∨ tI G W (fIt1 kSeq (fVar i)) σ H R) (tG G (notIn own) ft) (tT G wF fc) (tR G wF fe) own σ H Q := fun q =>
    tLc_mono (lc_ok hv ⟨S, e, A, C, q⟩) fun R z => .inr z
  unfold fLcO at h
  match hi : e[i]?, h with
  | some (some (.dt (.list ds) 1)), h =>
    simp only [hi] at h
    exact tLc_mono (lco_own hv C hi h) fun R z => .inl z
  | some (some (.dt (.list ds) 0)), h => simp only [hi] at h; exact other h
  | some (some (.dt (.list ds) (n + 2))), h => simp only [hi] at h; exact other h
  | some (some (.dt .none n)), h => simp only [hi] at h; exact other h
  | some (some (.dt (.bool b) n)), h => simp only [hi] at h; exact other h
  | some (some (.dt (.int b) n)), h => simp only [hi] at h; exact other h
  | some (some (.dt (.str b) n)), h => simp only [hi] at h; exact other h
  | some (some (.dt (.tuple b) n)), h => simp only [hi] at h; exact other h
  | some (some (.dt (.dict b) n)), h => simp only [hi] at h; exact other h
  | some (some (.ex c)), h => simp only [hi] at h; exact other h
  | some (some (.fz c)), h => simp only [hi] at h; exact other h
  | some none, h => simp only [hi] at h; exact other h
  | none, h => simp only [hi] at h; exact other h
end
section
variable {X : Cx} {W : WX} {pos : Pos} {elt tg iter : Expr} {ifs : List Expr} {scope : Scope} {own : List (Str × Nat)} {ft : Tgt} {fc fe : Ev → Res RV} {j : Nat}
theorem ee_lcO (hc : X.calm = true) (hN : X.N.Nodup) (hi : PE X iter (tVar j)) (hi2 : EE X W iter (fVar j)) (ok : BlkOk X.N X.env.scope scope own)
    (hg : ∀ (s : Shared) (H : Hp) (C : Addr) (cl : List (Str × Addr)) (fp : List Addr), EG (X.blk s H scope (compEnvC scope cl C X.env) fp) (notIn (own.map (·.2))) tg ft)
    (ht : ∀ (s : Shared) (H : Hp) (C : Addr) (cl : List (Str × Addr)) (fp : List Addr), ETs (X.blk s H scope (compEnvC scope cl C X.env) fp) wF ifs fc)
    (he : ∀ (s : Shared) (H : Hp) (C : Addr) (cl : List (Str × Addr)) (fp : List Addr), EE (X.blk s H scope (compEnvC scope cl C X.env) fp) wF elt fe) (hs : ∀ x, foldedSetIterable iter X.env x = pure x := by intro _; rfl) :
    EE X W (.ListComp elt [⟨tg, iter, ifs, 0⟩] scope pos) (fLcO j ft fc fe (own.map (·.2))) :=
  ⟨fun pins s σ H Q I q => (pe_lc hc hN (PI.or (pi_list hi) (ei_seq hi2)) ok hg ht he hs).run pins s σ H Q I (lco_ok (own_lt ok I.len) q)⟩
theorem es_setLcO {P : Nat → Bool} {i : Nat} {y : Str} {py spos : Pos} (hP : P i = false) (hc : X.calm = true) (hN : X.N.Nodup) (hy : X.N[i]? = some y) (hyl : X.env.scope.names.lookup y = some .local)
    (hsw : swapsWith (.ListComp elt [⟨tg, iter, ifs, 0⟩] scope pos) (some (.Name y py)) spos.line X.env = pure true) (hi : PE X iter (tVar j)) (hi2 : EE X W iter (fVar j)) (ok : BlkOk X.N X.env.scope scope own)
    (hg : ∀ (s : Shared) (H : Hp) (C : Addr) (cl : List (Str × Addr)) (fp : List Addr), EG (X.blk s H scope (compEnvC scope cl C X.env) fp) (notIn (own.map (·.2))) tg ft)
    (ht : ∀ (s : Shared) (H : Hp) (C : Addr) (cl : List (Str × Addr)) (fp : List Addr), ETs (X.blk s H scope (compEnvC scope cl C X.env) fp) wF ifs fc)
    (he : ∀ (s : Shared) (H : Hp) (C : Addr) (cl : List (Str × Addr)) (fp : List Addr), EE (X.blk s H scope (compEnvC scope cl C X.env) fp) wF elt fe) (hs : ∀ x, foldedSetIterable iter X.env x = pure x := by intro _; rfl) :
    ES X W P (.Assign [.Name y py] (.ListComp elt [⟨tg, iter, ifs, 0⟩] scope pos) spos) (fSet i (fLcO j ft fc fe (own.map (·.2)))) :=
  ⟨fun pins s σ H D I q => (ps_setLc hc hN hy hyl hsw (PI.or (pi_list hi) (ei_seq hi2)) ok hg ht he hs).run pins s σ H D I (lco_ok (own_lt ok I.len) (set_ok hP q))⟩
end
end PV

/-! PVK: primitive operations. -/
namespace PV
open PySem PySem.Spec PyProof.Rows L2

section
variable {K : PySem.W.Frag} {S H : Hp}
theorem Made.lst {vs : List V} {p : Addr} (h : Same S H) (hp : H p = none) : Made S H S (upd H p (.lst vs)) [p] := by
  have sm : Same H (upd H p (.lst vs)) := fun b o z => by rw [upd_ne (ne_of_none z hp)]; exact z
  refine ⟨Same.refl S, sm, h.trans sm, fun b o z => .inl z, List.nodup_cons.mpr ⟨List.not_mem_nil, List.nodup_nil⟩, fun a ha => ?_⟩
  rw [List.mem_singleton] at ha
  subst ha
  refine ⟨?_, hp⟩
  cases z : S a with
  | none => rfl
  | some o => rw [h a o z] at hp; cases hp
theorem Own.newLst {vs : List V} {ds : List PyData} {p : Addr} (rp : RpL K S vs ds) : Own K S (upd H p (.lst vs)) 1 (.ref p) (.list ds) [p] := .inl ⟨p, vs, ds, [], rfl, rfl, upd_same, rfl, OwL.of_rp rp⟩
theorem rp_two {vs : List V} {a b : PyData} (h : RpL K S vs [a, b]) {x y : V} (e : vs = [x, y]) : Rp K S x a ∧ Rp K S y b := by
  subst e
  cases h with
  | cons h1 h2 => cases h2 with
    | cons h3 h4 => exact ⟨h1, h3⟩
theorem rp_one {vs : List V} {a : PyData} (h : RpL K S vs [a]) {x : V} (e : vs = [x]) : Rp K S x a := by
  subst e
  cases h with
  | cons h1 h2 => exact h1
theorem rp_one' {vs : List V} {a : PyData} (h : RpL K S vs [a]) : ∃ x, vs = [x] ∧ Rp K S x a := by
  cases h with
  | cons h1 h2 => cases h2; exact ⟨_, rfl, h1⟩
theorem rp_two' {vs : List V} {a b : PyData} (h : RpL K S vs [a, b]) : ∃ x y, vs = [x, y] ∧ Rp K S x a ∧ Rp K S y b := by
  cases h with
  | cons h1 h2 => cases h2 with
    | cons h3 h4 => cases h4; exact ⟨_, _, rfl, h1, h3⟩
/-- an operation of two, one: what gives a plain value without touching the heap -/
theorem prim2 {R : R2} {op : PyData → PyData → Option PyData} (h : ∀ x y a b r S H Q, Rp K S x a → Rp K S y b → Same S H → op a b = some r → (∀ v, Rp K S v r → Q v H) → R x y H Q) :
    Prim K (fun vs H Q => ∀ x y, vs = [x, y] → R x y H Q) (fun ds => match ds with | [a, b] => (op a b).map fun r => (r, 0) | _ => none) := by
  intro vs ds S H Q r m rp sb e q x y ev
  match ds, e, rp with
  | [a, b], e, rp =>
    obtain ⟨h1, h2⟩ := rp_two rp ev
    cases z : op a b with
    | none => simp only [z] at e; cases e
    | some r' =>
      simp only [z] at e
      cases e
      exact h x y a b r S H Q h1 h2 sb z fun v hv => q v H S [] (Made.refl sb) ⟨rfl, hv⟩
theorem prim1 {R : V → Hp → VK → Prop} {op : PyData → Option PyData} (h : ∀ x a r S H Q, Rp K S x a → Same S H → op a = some r → (∀ v, Rp K S v r → Q v H) → R x H Q) :
    Prim K (fun vs H Q => ∀ x, vs = [x] → R x H Q) (fun ds => match ds with | [a] => (op a).map fun r => (r, 0) | _ => none) := by
  intro vs ds S H Q r m rp sb e q x ev
  match ds, e, rp with
  | [a], e, rp =>
    have h1 := rp_one rp ev
    cases z : op a with
    | none => simp only [z] at e; cases e
    | some r' =>
      simp only [z] at e
      cases e
      exact h x a r S H Q h1 sb z fun v hv => q v H S [] (Made.refl sb) ⟨rfl, hv⟩

/-! ### numbers -/
def lift2 (op : PyData → PyData → Option PyData) : Op := fun ds => match ds with | [a, b] => (op a b).map fun r => (r, 0) | _ => none
def lift1 (op : PyData → Option PyData) : Op := fun ds => match ds with | [a] => (op a).map fun r => (r, 0) | _ => none
def opInt (f : Int → Int → Option Int) : PyData → PyData → Option PyData := fun a b => match a, b with
  | .int i, .int j => (f i j).map .int
  | _, _ => none
def opCmp (f : Int → Int → Bool) : PyData → PyData → Option PyData := fun a b => match a, b with
  | .int i, .int j => some (.bool (f i j))
  | _, _ => none
theorem opInt_ok {f : Int → Int → Option Int} {a b r : PyData} (h : opInt f a b = some r) : ∃ i j k, a = .int i ∧ b = .int j ∧ f i j = some k ∧ r = .int k := by
  unfold opInt at h
  split at h
  · rename_i i j
    cases z : f i j with
    | none => rw [z] at h; cases h
    | some k => rw [z] at h; cases h; exact ⟨i, j, k, rfl, rfl, z, rfl⟩
  · cases h
theorem opCmp_ok {f : Int → Int → Bool} {a b r : PyData} (h : opCmp f a b = some r) : ∃ i j, a = .int i ∧ b = .int j ∧ r = .bool (f i j) := by
  unfold opCmp at h
  split at h
  · cases h; exact ⟨_, _, rfl, rfl, rfl⟩
  · cases h
theorem p_int {C : Int → Int → Prop} {g : Int → Int → Int} {f : Int → Int → Option Int} (hf : ∀ i j k, f i j = some k → C i j ∧ k = g i j) : Prim K (fun vs H Q => ∀ x y, vs = [x, y] → rI C (fun i j => .int (g i j)) x y H Q) (lift2 (opInt f)) :=
  prim2 fun x y a b r S H Q hx hy sb e q => by
    obtain ⟨i, j, k, rfl, rfl, ek, rfl⟩ := opInt_ok e
    cases hx; cases hy
    obtain ⟨c, rfl⟩ := hf i j k ek
    exact ⟨i, j, rfl, rfl, c, q _ (.int _)⟩
theorem p_int0 {g : Int → Int → Int} : Prim K (fun vs H Q => ∀ x y, vs = [x, y] → rI0 (fun i j => .int (g i j)) x y H Q) (lift2 (opInt fun i j => some (g i j))) :=
  prim2 fun x y a b r S H Q hx hy sb e q => by
    obtain ⟨i, j, k, rfl, rfl, ek, rfl⟩ := opInt_ok e
    cases hx; cases hy
    cases ek
    exact ⟨i, j, rfl, rfl, q _ (.int _)⟩
theorem p_cmp {f : Int → Int → Bool} : Prim K (fun vs H Q => ∀ x y, vs = [x, y] → rI0 (fun i j => .bl (f i j)) x y H Q) (lift2 (opCmp f)) :=
  prim2 fun x y a b r S H Q hx hy sb e q => by
    obtain ⟨i, j, rfl, rfl, rfl⟩ := opCmp_ok e
    cases hx; cases hy
    exact ⟨i, j, rfl, rfl, q _ (.bl _)⟩
end
def o64 : Int := 2 ^ 64
def fMul (i j : Int) : Option Int := if (-o64 < i ∧ i < o64) ∨ (-o64 < j ∧ j < o64) then some (i * j) else none
def fDiv (i j : Int) : Option Int := if 0 < j ∧ j.natAbs.log2 < 9000 then some (i / j) else none
def fDivN (i j : Int) : Option Int := if j ≠ 0 ∧ j.natAbs < 1073741824 then some (i.fdiv j) else none
def fMod (i j : Int) : Option Int := if 0 < j then some (i % j) else none
def fPow (i j : Int) : Option Int := if 0 ≤ j ∧ j ≤ 1000000 ∧ i.natAbs < 2 ^ 64 then some (i ^ j.toNat) else none
/-! bools among ints -/
def rBI (f : Int → Int → V) : R2 := fun x y H Q => ∃ i j, x = .bl i ∧ y = .int j ∧ Q (f (if i = true then (1 : Int) else 0) j) H
theorem op_add_bi {X : Cx} : OpR X (binaryOp .Add) (rBI fun i j => .int (i + j)) := by
  intro pins s σ H x y v u Q I rx ry h
  obtain ⟨i, j, rfl, rfl, q⟩ := h
  obtain ⟨t, rfl⟩ := ry
  cases rx
  exact PySem.IntBool.add_bool_int ⟨.int _, H, I.tok _, ⟨_, rfl⟩, q⟩
theorem op_sub_bi {X : Cx} : OpR X (binaryOp .Sub) (rBI fun i j => .int (i - j)) := by
  intro pins s σ H x y v u Q I rx ry h
  obtain ⟨i, j, rfl, rfl, q⟩ := h
  obtain ⟨t, rfl⟩ := ry
  cases rx
  exact PySem.IntBool.sub_bool_int ⟨.int _, H, I.tok _, ⟨_, rfl⟩, q⟩
theorem gives_lt_bi (a : Bool) (b : Int) (u : Tok) : Gives (Builtin.«int.__lt__» ⟨[.bool a, .int b u], []⟩) (.val (Value.bool ((fun x1 x2 => decide (x1 < x2)) (if a = true then (1 : Int) else 0) b))) :=
  .of_wp fun M A E s Q h => by
    obtain ⟨hp, g, d, tk, os⟩ := s
    wp_walk
    exact ⟨_, rfl, h⟩
theorem op_lt_bi {X : Cx} : OpR X (compareOp .Lt) (rBI fun i j => .bl (decide (i < j))) := by
  intro pins s σ H x y v u Q I rx ry h
  obtain ⟨i, j, rfl, rfl, q⟩ := h
  obtain ⟨t, rfl⟩ := ry
  cases rx
  refine SeqAt.rc_left_or (op := .Lt) rfl (typeIs_int s j t) (by decide) F.sub_int_bool F.slot_bool_lt (call_gives F.slot_bool_lt rfl F.entry_int_lt (F.args_int_lt_2 _ _) (gives_lt_bi i j t) ⟨nofun, ?_⟩) (.inl rfl)
  exact ⟨.bl _, H, I, rfl, q⟩
def rSubU : R2 := fun x y H Q => rI0 (fun i j => .int (i - j)) x y H Q ∨ rBI (fun i j => .int (i - j)) x y H Q
def rLtU : R2 := fun x y H Q => rI0 (fun i j => .bl (decide (i < j))) x y H Q ∨ rBI (fun i j => .bl (decide (i < j))) x y H Q
theorem op_subU {X : Cx} : OpR X (binaryOp .Sub) rSubU := op_sub.or op_sub_bi
theorem op_ltU {X : Cx} : OpR X (compareOp .Lt) rLtU := op_lt.or op_lt_bi
def oSub : Op := lift2 fun a b => match a, b with | .int i, .int j => some (.int (i - j)) | .bool i, .int j => some (.int ((if i = true then (1 : Int) else 0) - j)) | _, _ => none
def oDiv : Op := lift2 (opInt fDiv)
def oDivN : Op := lift2 (opInt fDivN)
def oMod : Op := lift2 (opInt fMod)
def oPow : Op := lift2 (opInt fPow)
def oLt : Op := lift2 fun a b => match a, b with | .int i, .int j => some (.bool (decide (i < j))) | .bool i, .int j => some (.bool (decide ((if i = true then (1 : Int) else 0) < j))) | _, _ => none
def oLe : Op := lift2 (opCmp fun i j => decide (i ≤ j))
def oGt : Op := lift2 (opCmp fun i j => decide (j < i))
def oGe : Op := lift2 (opCmp fun i j => decide (j ≤ i))
def oNeg : Op := lift1 fun a => match a with | .int i => some (.int (-i)) | _ => none
section
variable {K : PySem.W.Frag}
theorem p_sub : Prim K (fun vs H Q => ∀ x y, vs = [x, y] → rSubU x y H Q) oSub := prim2 fun x y a b r S H Q hx hy sb e q => by
  split at e
  · cases e; cases hx; cases hy
    exact .inl ⟨_, _, rfl, rfl, q _ (.int _)⟩
  · cases e; cases hx; cases hy
    exact .inr ⟨_, _, rfl, rfl, q _ (.int _)⟩
  · cases e
theorem p_div : Prim K (fun vs H Q => ∀ x y, vs = [x, y] → rI CDivW (fun i j => .int (i / j)) x y H Q) oDiv := p_int fun i j k h => by
  unfold fDiv at h
  split at h
  · cases h; rename_i q; exact ⟨q, rfl⟩
  · cases h
theorem p_divN : Prim K (fun vs H Q => ∀ x y, vs = [x, y] → rI CDivN (fun i j => .int (i.fdiv j)) x y H Q) oDivN := p_int fun i j k h => by
  unfold fDivN at h
  split at h
  · cases h; rename_i q; exact ⟨q, rfl⟩
  · cases h
theorem p_mod : Prim K (fun vs H Q => ∀ x y, vs = [x, y] → rI (fun _ j => 0 < j) (fun i j => .int (i % j)) x y H Q) oMod := p_int fun i j k h => by
  unfold fMod at h
  split at h
  · cases h; rename_i q; exact ⟨q, rfl⟩
  · cases h
theorem p_pow : Prim K (fun vs H Q => ∀ x y, vs = [x, y] → rI CPow (fun i j => .int (i ^ j.toNat)) x y H Q) oPow := p_int fun i j k h => by
  unfold fPow at h
  split at h
  · cases h; rename_i q; exact ⟨q, rfl⟩
  · cases h
theorem p_lt : Prim K (fun vs H Q => ∀ x y, vs = [x, y] → rLtU x y H Q) oLt := prim2 fun x y a b r S H Q hx hy sb e q => by
  split at e
  · cases e; cases hx; cases hy
    exact .inl ⟨_, _, rfl, rfl, q _ (.bl _)⟩
  · cases e; cases hx; cases hy
    exact .inr ⟨_, _, rfl, rfl, q _ (.bl _)⟩
  · cases e
theorem p_le : Prim K (fun vs H Q => ∀ x y, vs = [x, y] → rI0 (fun i j => .bl (decide (i ≤ j))) x y H Q) oLe := p_cmp
theorem p_gt : Prim K (fun vs H Q => ∀ x y, vs = [x, y] → rI0 (fun i j => .bl (decide (j < i))) x y H Q) oGt := p_cmp
theorem p_ge : Prim K (fun vs H Q => ∀ x y, vs = [x, y] → rI0 (fun i j => .bl (decide (j ≤ i))) x y H Q) oGe := p_cmp
theorem p_neg : Prim K (fun vs H Q => ∀ x, vs = [x] → rU (fun i => .int (-i)) x H Q) oNeg := prim1 fun x a r S H Q hx sb e q => by
  split at e
  · cases e; cases hx; exact ⟨_, rfl, q _ (.int _)⟩
  · cases e
end

/-! ### + and * -/
def oAdd : Op := fun ds => match ds with
  | [.int i, .int j] => some (.int (i + j), 0)
  | [.bool i, .int j] => some (.int ((if i = true then (1 : Int) else 0) + j), 0)
  | [.list a, .list b] => if a.length + b.length ≤ most then some (.list (a ++ b), 1) else none
  | [.tuple a, .tuple b] => if a ≠ [] ∧ b ≠ [] ∧ a.length + b.length ≤ most then some (.tuple (a ++ b), 0) else none
  | [.str a, .str b] => if a.length + b.length ≤ most then some (.str (a ++ b), 0) else none
  | _ => none
def oMul : Op := fun ds => match ds with
  | [.int i, .int j] => (fMul i j).map fun k => (.int k, 0)
  | [.list a, .int k] => if -big ≤ k ∧ k < big ∧ a.length * k.toNat ≤ most then some (.list (List.replicate k.toNat a).flatten, 1) else none
  | _ => none
def rAddU (K : PySem.W.Frag) : R2 := fun x y H Q => rI0 (fun i j => .int (i + j)) x y H Q ∨ rCat x y H Q ∨ rCatT K x y H Q ∨ (∃ i j, x = .str i ∧ y = .str j ∧ i.length + j.length ≤ sizeLine ∧ Q (.str (i ++ j)) H) ∨ rBI (fun i j => .int (i + j)) x y H Q
def rMulU : R2 := fun x y H Q => rI CMul (fun i j => .int (i * j)) x y H Q ∨ rRep x y H Q
theorem op_addU {X : Cx} : OpR X (binaryOp .Add) (rAddU X.K) := op_add.or (op_cat.or (op_catT.or (op_add_str.or op_add_bi)))
theorem op_mulU {X : Cx} : OpR X (binaryOp .Mult) rMulU := op_mul.or op_rep
theorem most_le : most ≤ sizeLine := by rw [sizeLine_eq]; decide
section
variable {K : PySem.W.Frag}
theorem RpL.rep {S : Hp} {vs : List V} {ds : List PyData} (h : RpL K S vs ds) : ∀ k : Nat, RpL K S (List.replicate k vs).flatten (List.replicate k ds).flatten
  | 0 => .nil
  | k + 1 => by
    rw [List.replicate_succ, List.replicate_succ, List.flatten_cons, List.flatten_cons]
    exact h.append (h.rep k)
theorem p_add : Prim K (fun vs H Q => ∀ x y, vs = [x, y] → rAddU K x y H Q) oAdd := by
  intro vs ds S H Q r m rp sb e q x y ev
  unfold oAdd at e
  split at e
  · cases e
    obtain ⟨h1, h2⟩ := rp_two rp ev
    cases h1; cases h2
    exact .inl ⟨_, _, rfl, rfl, q _ _ _ _ (Made.refl sb) ⟨rfl, .int _⟩⟩
  · cases e
    obtain ⟨h1, h2⟩ := rp_two rp ev
    cases h1; cases h2
    exact .inr (.inr (.inr (.inr ⟨_, _, rfl, rfl, q _ _ _ _ (Made.refl sb) ⟨rfl, .int _⟩⟩)))
  · split at e
    · rename_i a b hz
      cases e
      obtain ⟨h1, h2⟩ := rp_two rp ev
      cases h1 with
      | lst p1 p2 =>
        cases h2 with
        | lst p3 p4 =>
          refine .inr (.inl ⟨_, _, _, _, rfl, rfl, sb _ _ p1, sb _ _ p3, ?_, fun p hp => q _ _ _ _ (Made.lst sb hp) (Own.newLst (p2.append p4))⟩)
          rw [p2.length, p4.length]; exact Nat.le_trans hz most_le
    · cases e
  · split at e
    · rename_i a b hz
      cases e
      obtain ⟨h1, h2⟩ := rp_two rp ev
      cases h1 with
      | tup p1 p2 =>
        cases h2 with
        | tup p3 p4 =>
          have hx : ∀ {vs}, RpL K S vs a → vs ≠ [] := fun h z => by subst z; cases h; exact hz.1 rfl
          have hy : ∀ {vs}, RpL K S vs b → vs ≠ [] := fun h z => by subst z; cases h; exact hz.2.1 rfl
          refine .inr (.inr (.inl ⟨_, _, _, _, rfl, rfl, Same.seqT sb p1, Same.seqT sb p3, hx p2, ?_, ?_⟩))
          · rw [p2.length, p4.length]; exact Nat.le_trans hz.2.2 most_le
          · exact ⟨fun z => absurd z (hy p4), fun _ p hp => q _ _ _ _ (Made.tup sb hp) ⟨rfl, .tup (.inl (.inl upd_same)) ((p2.append p4).mn (Made.tup sb hp).ss)⟩⟩
    · cases e
  · split at e
    · rename_i a b hz
      cases e
      obtain ⟨h1, h2⟩ := rp_two rp ev
      cases h1; cases h2
      exact .inr (.inr (.inr (.inl ⟨_, _, rfl, rfl, Nat.le_trans hz most_le, q _ _ _ _ (Made.refl sb) ⟨rfl, .str _⟩⟩)))
    · cases e
  · cases e
theorem p_mul : Prim K (fun vs H Q => ∀ x y, vs = [x, y] → rMulU x y H Q) oMul := by
  intro vs ds S H Q r m rp sb e q x y ev
  unfold oMul at e
  split at e
  · rename_i i j
    cases z : fMul i j with
    | none => rw [z] at e; cases e
    | some k =>
      rw [z] at e
      cases e
      obtain ⟨h1, h2⟩ := rp_two rp ev
      cases h1; cases h2
      unfold fMul at z
      split at z
      · cases z
        rename_i hc
        exact .inl ⟨_, _, rfl, rfl, hc, q _ _ _ _ (Made.refl sb) ⟨rfl, .int _⟩⟩
      · cases z
  · split at e
    · rename_i a k hz
      cases e
      obtain ⟨h1, h2⟩ := rp_two rp ev
      cases h2
      cases h1 with
      | lst p1 p2 =>
        have hb : big = 2 ^ 62 := rfl
        refine .inr ⟨_, _, _, rfl, rfl, sb _ _ p1, by omega, by omega, ?_, fun p hp => q _ _ _ _ (Made.lst sb hp) (Own.newLst (p2.rep _))⟩
        rw [p2.length]; exact Nat.le_trans hz.2.2 most_le
    · cases e
  · cases e
end

/-! ### items, slices -/
def chAt (x : Str) (i : Int) : Option PyData := (atI x.cps.toList i).map fun c => .str ⟨#[c]⟩
def oIx : Op := lift2 fun a b => match a, b with
  | .list ds, .int i => atI ds i
  | .tuple ds, .int i => atI ds i
  | .str x, .int i => if x.length ≤ most then chAt x i else none
  | _, _ => none
theorem RpL.atI {K : PySem.W.Frag} {S : Hp} {vs : List V} {ds : List PyData} {i : Int} {d : PyData} (h : RpL K S vs ds) (e : L2.atI ds i = some d) : ∃ v, L2.atI vs i = some v ∧ Rp K S v d := by
  unfold L2.atI at e ⊢
  rw [h.length]
  cases z : ixN ds.length i with
  | none => rw [z] at e; cases e
  | some j =>
    rw [z] at e
    exact h.get e
theorem p_ix {K : PySem.W.Frag} : Prim K (fun vs H Q => ∀ x y, vs = [x, y] → rIx K x y H Q) oIx := prim2 fun x y a b r S H Q hx hy sb e q => by
  split at e
  · cases hy
    cases hx with
    | lst p1 p2 =>
      obtain ⟨v, h1, h2⟩ := p2.atI e
      exact .inl ⟨_, _, _, _, rfl, rfl, .inl (.inl (sb _ _ p1)), h1, q _ h2⟩
  · cases hy
    cases hx with
    | tup p1 p2 =>
      obtain ⟨v, h1, h2⟩ := p2.atI e
      exact .inr (.inl ⟨_, _, _, _, rfl, rfl, Same.seqT sb p1, h1, q _ h2⟩)
  · split at e
    · rename_i x i hz
      cases hy; cases hx
      unfold chAt at e
      cases z : L2.atI x.cps.toList i with
      | none => rw [z] at e; cases e
      | some c =>
        rw [z] at e
        cases e
        exact .inr (.inr ⟨_, _, c, rfl, rfl, Nat.le_trans hz most_le, z, q _ (.str _)⟩)
    · cases e
  · cases e

/-- a part of a slice: none, or a number -/
inductive Prt where
  | none
  | some (f : Ev → Res RV)
def cutD (ds : List PyData) (lo hi : Option Int) : List PyData := (ds.drop (HT.sIx ds.length 0 lo)).take (HT.sIx ds.length ds.length hi - HT.sIx ds.length 0 lo)
theorem RpL.cut {K : PySem.W.Frag} {S : Hp} {vs : List V} {ds : List PyData} (h : RpL K S vs ds) (lo hi : Option Int) : RpL K S (cutV vs lo hi) (cutD ds lo hi) := by
  unfold cutV cutD
  rw [h.length]
  exact (h.drop _).take _

/-! ### len, list, tuple, int, bool, min, max, sum, sorted -/
def oLen : Op := lift1 fun a => match a with
  | .list ds => some (.int ds.length)
  | .tuple ds => some (.int ds.length)
  | .str x => if x.length ≤ most then some (.int x.length) else none
  | _ => none
def rLen (K : PySem.W.Frag) : List V → Hp → VK → Prop := fun xs H Q => ∃ x n, xs = [x] ∧ LenV K x H n ∧ Q (.int n) H
theorem p_len {K : PySem.W.Frag} : Prim K (rLen K) oLen := fun vs ds S H Q r m rp sb e q => by
  have := prim1 (K := K) (R := fun x H Q => rLen K [x] H Q) (op := fun a => match a with
    | .list ds => some (.int ds.length)
    | .tuple ds => some (.int ds.length)
    | .str x => if x.length ≤ most then some (.int x.length) else none
    | _ => none) (fun x a r S H Q hx sb e q => by
    split at e
    · cases e
      cases hx with
      | lst p1 p2 => exact ⟨_, _, rfl, .inl ⟨_, .inl (.inl (sb _ _ p1)), rfl⟩, by rw [p2.length]; exact q _ (.int _)⟩
    · cases e
      cases hx with
      | tup p1 p2 => exact ⟨_, _, rfl, .inr ⟨_, Same.seqT sb p1, rfl⟩, by rw [p2.length]; exact q _ (.int _)⟩
    · split at e
      · rename_i hz
        cases e
        cases hx
        exact ⟨_, _, rfl, ⟨Nat.le_trans hz most_le, rfl⟩, q _ (.int _)⟩
      · cases e
    · cases e)
  match ds, rp, e with
  | [a], rp, e =>
    obtain ⟨x, rfl, _⟩ := rp_one' rp
    exact this _ _ S H Q r m rp sb e q x rfl
def oList : Op := fun ds => match ds with
  | [.list a] => some (.list a, 1)
  | [.tuple a] => some (.list a, 1)
  | _ => none
def rListU (K : PySem.W.Frag) : List V → Hp → VK → Prop := fun xs H Q => ∃ p ys, xs = [.ref p] ∧ (SqL K H p ys ∨ SqT K H p ys) ∧ ∀ l, H l = none → Q (.ref l) (upd H l (.lst ys))
theorem p_list {K : PySem.W.Frag} : Prim K (rListU K) oList := fun vs ds S H Q r m rp sb e q => by
  unfold oList at e
  split at e
  · cases e
    obtain ⟨x, rfl, h⟩ := rp_one' rp
    cases h with
    | lst p1 p2 => exact ⟨_, _, rfl, .inl (.inl (.inl (sb _ _ p1))), fun l hl => q _ _ _ _ (Made.lst sb hl) (Own.newLst p2)⟩
  · cases e
    obtain ⟨x, rfl, h⟩ := rp_one' rp
    cases h with
    | tup p1 p2 => exact ⟨_, _, rfl, .inr (Same.seqT sb p1), fun l hl => q _ _ _ _ (Made.lst sb hl) (Own.newLst p2)⟩
  · cases e
def oTuple : Op := fun ds => match ds with
  | [.list a] => some (.tuple a, 0)
  | [.tuple a] => some (.tuple a, 0)
  | _ => none
def rTupleU (K : PySem.W.Frag) : List V → Hp → VK → Prop := fun xs H Q => ∃ p ys, xs = [.ref p] ∧ ((SqL K H p ys ∧ ∀ l, H l = none → Q (.ref l) (upd H l (.tup ys))) ∨ (SqT K H p ys ∧ Q (.ref p) H))
theorem p_tuple {K : PySem.W.Frag} : Prim K (rTupleU K) oTuple := fun vs ds S H Q r m rp sb e q => by
  unfold oTuple at e
  split at e
  · cases e
    obtain ⟨x, rfl, h⟩ := rp_one' rp
    cases h with
    | lst p1 p2 => exact ⟨_, _, rfl, .inl ⟨.inl (.inl (sb _ _ p1)), fun l hl => q _ _ _ _ (Made.tup sb hl) ⟨rfl, .tup (.inl (.inl upd_same)) (p2.mn (Made.tup sb hl).ss)⟩⟩⟩
  · cases e
    obtain ⟨x, rfl, h⟩ := rp_one' rp
    cases h with
    | tup p1 p2 => exact ⟨_, _, rfl, .inr ⟨Same.seqT sb p1, q _ _ _ _ (Made.refl sb) ⟨rfl, .tup p1 p2⟩⟩⟩
  · cases e
def b01 (b : Bool) : Int := if b then 1 else 0
def oInt : Op := fun ds => match ds with
  | [.int i] => some (.int i, 0)
  | [.bool b] => some (.int (b01 b), 0)
  | _ => none
def rIntU : List V → Hp → VK → Prop := fun xs H Q => (∃ i, xs = [.int i] ∧ Q (.int i) H) ∨ ∃ k, xs = [.bl k] ∧ Q (.int (if k then 1 else 0)) H
theorem p_toInt {K : PySem.W.Frag} : Prim K rIntU oInt := fun vs ds S H Q r m rp sb e q => by
  unfold oInt at e
  split at e
  · cases e
    obtain ⟨x, rfl, h⟩ := rp_one' rp
    cases h
    exact .inl ⟨_, rfl, q _ _ _ _ (Made.refl sb) ⟨rfl, .int _⟩⟩
  · cases e
    obtain ⟨x, rfl, h⟩ := rp_one' rp
    cases h
    exact .inr ⟨_, rfl, q _ _ _ _ (Made.refl sb) ⟨rfl, .int _⟩⟩
  · cases e
def oBool : Op := fun ds => match ds with
  | [.int i] => some (.bool (i != 0), 0)
  | [.bool b] => some (.bool b, 0)
  | _ => none
def rBoolU : List V → Hp → VK → Prop := fun xs H Q => (∃ i, xs = [.int i] ∧ Q (.bl (i != 0)) H) ∨ ∃ k, xs = [.bl k] ∧ Q (.bl k) H
theorem p_toBool {K : PySem.W.Frag} : Prim K rBoolU oBool := fun vs ds S H Q r m rp sb e q => by
  unfold oBool at e
  split at e
  · cases e
    obtain ⟨x, rfl, h⟩ := rp_one' rp
    cases h
    exact .inl ⟨_, rfl, q _ _ _ _ (Made.refl sb) ⟨rfl, .bl _⟩⟩
  · cases e
    obtain ⟨x, rfl, h⟩ := rp_one' rp
    cases h
    exact .inr ⟨_, rfl, q _ _ _ _ (Made.refl sb) ⟨rfl, .bl _⟩⟩
  · cases e
def oMax2 : Op := fun ds => match ds with
  | [.int i, .int j] => some (.int (max i j), 0)
  | _ => none
def oMin2 : Op := fun ds => match ds with
  | [.int i, .int j] => some (.int (min i j), 0)
  | _ => none
theorem p_max2 {K : PySem.W.Frag} : Prim K (fun xs H Q => ∃ i j, xs = [.int i, .int j] ∧ Q (.int (if j > i then j else i)) H) oMax2 := fun vs ds S H Q r m rp sb e q => by
  unfold oMax2 at e
  split at e
  · cases e
    obtain ⟨x, y, rfl, h1, h2⟩ := rp_two' rp
    cases h1; cases h2
    refine ⟨_, _, rfl, ?_⟩
    rename_i i j
    have : (if j > i then j else i) = max i j := by split <;> omega
    rw [this]
    exact q _ _ _ _ (Made.refl sb) ⟨rfl, .int _⟩
  · cases e
theorem p_min2 {K : PySem.W.Frag} : Prim K (fun xs H Q => ∃ i j, xs = [.int i, .int j] ∧ Q (.int (if j < i then j else i)) H) oMin2 := fun vs ds S H Q r m rp sb e q => by
  unfold oMin2 at e
  split at e
  · cases e
    obtain ⟨x, y, rfl, h1, h2⟩ := rp_two' rp
    cases h1; cases h2
    refine ⟨_, _, rfl, ?_⟩
    rename_i i j
    have : (if j < i then j else i) = min i j := by split <;> omega
    rw [this]
    exact q _ _ _ _ (Made.refl sb) ⟨rfl, .int _⟩
  · cases e
/-- a list of whole numbers as such -/
def intsOf : List PyData → Option (List Int)
  | [] => some []
  | .int i :: ds => match intsOf ds with
    | some ns => some (i :: ns)
    | none => none
  | _ :: _ => none
theorem intsOf_ok : ∀ {ds : List PyData} {ns : List Int}, intsOf ds = some ns → ds = ns.map .int
  | [], ns, h => by cases h; rfl
  | d :: ds, ns, h => by
    cases d with
    | int i =>
      have h' : (match intsOf ds with | some ns => some (i :: ns) | none => none) = some ns := h
      cases z : intsOf ds with
      | none => rw [z] at h'; cases h'
      | some ms =>
        rw [z] at h'
        cases h'
        rw [List.map_cons, ← intsOf_ok z]
    | _ => cases h
theorem intsOf_map : ∀ (ns : List Int), intsOf (ns.map .int) = some ns
  | [] => rfl
  | n :: ns => by
    rw [List.map_cons]
    show (match intsOf (ns.map .int) with | some ms => some (n :: ms) | none => none) = some (n :: ns)
    rw [intsOf_map ns]
def ins (x : Int) : List Int → List Int
  | [] => [x]
  | y :: l => if x ≤ y then x :: y :: l else y :: ins x l
def isort : List Int → List Int
  | [] => []
  | x :: l => ins x (isort l)
theorem ins_perm (x : Int) : ∀ l : List Int, (ins x l).Perm (x :: l)
  | [] => .refl _
  | y :: l => by
    unfold ins
    split
    · exact .refl _
    · exact ((ins_perm x l).cons y).trans (.swap x y l)
theorem isort_perm : ∀ l : List Int, (isort l).Perm l
  | [] => .refl _
  | x :: l => (ins_perm x (isort l)).trans ((isort_perm l).cons x)
theorem ins_sorted (x : Int) : ∀ l : List Int, l.Pairwise (· ≤ ·) → (ins x l).Pairwise (· ≤ ·)
  | [], _ => by simp [ins]
  | y :: l, h => by
    have ⟨h1, h2⟩ := List.pairwise_cons.mp h
    unfold ins
    split
    · rename_i hxy
      refine List.pairwise_cons.mpr ⟨fun z hz => ?_, h⟩
      rcases List.mem_cons.mp hz with e | e
      · rw [e]; exact hxy
      · exact Int.le_trans hxy (h1 z e)
    · rename_i hxy
      refine List.pairwise_cons.mpr ⟨fun z hz => ?_, ins_sorted x l h2⟩
      rcases List.mem_cons.mp ((ins_perm x l).mem_iff.mp hz) with e | e
      · rw [e]; omega
      · exact h1 z e
theorem isort_sorted : ∀ l : List Int, (isort l).Pairwise (· ≤ ·)
  | [] => List.Pairwise.nil
  | x :: l => ins_sorted x _ (isort_sorted l)
theorem sorted_uniq : ∀ {l m : List Int}, l.Perm m → l.Pairwise (· ≤ ·) → m.Pairwise (· ≤ ·) → l = m
  | [], m, h, _, _ => (List.nil_perm.mp h).symm
  | x :: l, [], h, _, _ => absurd h.symm (by simp)
  | x :: l, y :: m, h, hl, hm => by
    have ⟨a1, a2⟩ := List.pairwise_cons.mp hl
    have ⟨b1, b2⟩ := List.pairwise_cons.mp hm
    have e : x = y := by
      have hx : x ∈ y :: m := h.mem_iff.mp List.mem_cons_self
      have hy : y ∈ x :: l := h.mem_iff.mpr List.mem_cons_self
      rcases List.mem_cons.mp hx with q | q
      · exact q
      · rcases List.mem_cons.mp hy with q' | q'
        · exact q'.symm
        · have := b1 x q
          have := a1 y q'
          omega
    subst e
    rw [sorted_uniq (List.perm_cons x |>.mp h) a2 b2]
def oSorted : Op := fun ds => match ds with
  | [.list a] => (intsOf a).map fun ns => (.list ((isort ns).map .int), 1)
  | _ => none
theorem p_sorted {K : PySem.W.Frag} : Prim K (rSortedI K) oSorted := fun vs ds S H Q r m rp sb e q => by
  unfold oSorted at e
  split at e
  · rename_i a
    cases z : intsOf a with
    | none => rw [z] at e; cases e
    | some ns =>
      rw [z] at e
      cases e
      obtain ⟨x, rfl, h⟩ := rp_one' rp
      cases h with
      | lst p1 p2 =>
        rw [intsOf_ok z] at p2
        have ev := RpL.ints ns p2
        subst ev
        refine ⟨_, ns, rfl, .inl (.inl (sb _ _ p1)), fun ns' p hp hs hn => ?_⟩
        have : ns' = isort ns := sorted_uniq (hp.trans (isort_perm ns).symm) hs (isort_sorted ns)
        subst this
        exact q _ _ _ _ (Made.lst sb hn) (Own.newLst (RpL.of_ints _))
  · cases e
def oSum : Op := fun ds => match ds with
  | [.list a] => (intsOf a).map fun ns => (.int ns.sum, 0)
  | _ => none
theorem p_sum {K : PySem.W.Frag} : Prim K (rSum K) oSum := fun vs ds S H Q r m rp sb e q => by
  unfold oSum at e
  split at e
  · rename_i a
    cases z : intsOf a with
    | none => rw [z] at e; cases e
    | some ns =>
      rw [z] at e
      cases e
      obtain ⟨x, rfl, h⟩ := rp_one' rp
      cases h with
      | lst p1 p2 =>
        rw [intsOf_ok z] at p2
        have ev := RpL.ints ns p2
        subst ev
        exact ⟨_, ns, rfl, .inl (.inl (sb _ _ p1)), q _ _ _ _ (Made.refl sb) ⟨rfl, .int _⟩⟩
  · cases e

/-! ### == and in -/
mutual
theorem Rp.dp {K : PySem.W.Frag} {H : Hp} : ∀ (d : PyData) (v : V), d.canLay0 = true → Rp K H v d → Dp K H v d
  | .none, _, _, h => by cases h; exact .non
  | .bool b, _, _, h => by cases h; exact .bl b
  | .int i, _, _, h => by cases h; exact .int i
  | .str x, _, _, h => by cases h; exact .str x
  | .list ds, _, c, h => by cases h with | lst h1 h2 => exact .lst (.inl (.inl h1)) (RpL.dp ds _ (by simpa [PyData.canLay0] using c) h2)
  | .tuple ds, _, c, h => by cases h with | tup h1 h2 => exact .tup h1 (RpL.dp ds _ (by simpa [PyData.canLay0] using c) h2)
  | .dict ds, _, c, h => by simp [PyData.canLay0] at c
theorem RpL.dp {K : PySem.W.Frag} {H : Hp} : ∀ (ds : List PyData) (vs : List V), PyData.canLayAll0 ds = true → RpL K H vs ds → DpAll K H vs ds
  | [], _, _, h => by cases h; exact .nil
  | d :: ds, _, c, h => by
    have c' : d.canLay0 = true ∧ PyData.canLayAll0 ds = true := by simpa [PyData.canLayAll0] using c
    cases h with | cons h1 h2 => exact .cons (Rp.dp d _ c'.1 h1) (RpL.dp ds _ c'.2 h2)
end
def isS : PyData → Bool
  | .str _ => true
  | _ => false
/-- a list, compared with the empty one -/
def nilR : PyData → PyData → Bool
  | .list _, .list [] => true
  | _, _ => false
def oEq : Op := lift2 fun a b => if (SeqAt.shaped a = true ∧ SeqAt.shaped b = true) ∨ (isS a = true ∧ isS b = true) ∨ nilR a b = true then some (.bool (PyData.eqv a b)) else none
def oNe : Op := lift2 fun a b => if (SeqAt.shaped a = true ∧ SeqAt.shaped b = true) ∨ (isS a = true ∧ isS b = true) ∨ nilR a b = true then some (.bool (!PyData.eqv a b)) else none
def rEqNil (K : PySem.W.Frag) (c : Bool) : R2 := fun x y H Q => ∃ a b xs, x = .ref a ∧ y = .ref b ∧ SqL K H a xs ∧ SqL K H b [] ∧ Q (.bl (xs.isEmpty == c)) H
theorem eqv_nil : PyData.eqv (.list []) (.list []) = true := by unfold PyData.eqv; rfl
theorem op_eqNil {X : Cx} (hu : X.A.units + 64 < cLine) : OpR X (compareOp .Eq) (rEqNil X.K true) := by
  intro pins s σ H x y v u Q I rx ry h
  obtain ⟨a, b, xs, rfl, rfl, h1, h2, q⟩ := h
  cases rx; cases ry
  obtain ⟨i1, r1, ⟨o1, n1, p1, c1, _, d1⟩, _⟩ := I.list h1
  obtain ⟨i2, r2, ⟨o2, n2, p2, c2, _, d2⟩, _⟩ := I.list h2
  cases r2
  cases xs with
  | nil =>
    cases r1
    exact SeqAt.compareEq_shaped (da := .list []) (db := .list []) (.list p1 c1 d1 .nil) (.list p2 c2 d2 .nil) rfl rfl hu ⟨.bl _, H, I, by rw [eqv_nil]; rfl, q⟩
  | cons z zs =>
    cases r1
    refine SeqAt.eq_list_lengthsAt ⟨o1, p1, c1, n1, d1⟩ ⟨o2, p2, c2, n2, d2⟩ (by simp) (by omega) ⟨.bl _, H, I, rfl, q⟩
theorem op_neNil {X : Cx} (hu : X.A.units + 64 < cLine) : OpR X (compareOp .NotEq) (rEqNil X.K false) := by
  intro pins s σ H x y v u Q I rx ry h
  obtain ⟨a, b, xs, rfl, rfl, h1, h2, q⟩ := h
  cases rx; cases ry
  obtain ⟨i1, r1, ⟨o1, n1, p1, c1, _, d1⟩, _⟩ := I.list h1
  obtain ⟨i2, r2, ⟨o2, n2, p2, c2, _, d2⟩, _⟩ := I.list h2
  cases r2
  cases xs with
  | nil =>
    cases r1
    exact SeqAt.compareNe_shaped (da := .list []) (db := .list []) (.list p1 c1 d1 .nil) (.list p2 c2 d2 .nil) rfl rfl hu ⟨.bl _, H, I, by rw [eqv_nil]; rfl, q⟩
  | cons z zs =>
    cases r1
    exact SeqAt.RcNeAt.lists_lengths ⟨o1, p1, c1, n1, d1⟩ ⟨o2, p2, c2, n2, d2⟩ (by simp) (by omega) _ _ _ _ ⟨.bl _, H, I, rfl, q⟩
def rEqU (K : PySem.W.Frag) : R2 := fun x y H Q => rEqD K x y H Q ∨ rEq x y H Q ∨ rEqNil K true x y H Q
def rNeU (K : PySem.W.Frag) : R2 := fun x y H Q => rNeD K x y H Q ∨ rNe x y H Q ∨ rEqNil K false x y H Q
theorem op_eqU {X : Cx} (hu : X.A.units + 64 < cLine) : OpR X (compareOp .Eq) (rEqU X.K) := (op_eqD hu).or (op_eq.or (op_eqNil hu))
theorem op_neU {X : Cx} (hu : X.A.units + 64 < cLine) : OpR X (compareOp .NotEq) (rNeU X.K) := (op_neD hu).or (op_ne.or (op_neNil hu))
theorem isS_ok {K : PySem.W.Frag} {S : Hp} {a b : PyData} {x y : V} (ha : isS a = true) (hb : isS b = true) (hx : Rp K S x a) (hy : Rp K S y b) : ∃ i j, x = .str i ∧ y = .str j ∧ PyData.eqv a b = decide (V.str i = V.str j) := by
  cases hx <;> first | (cases ha; done) | skip
  cases hy <;> first | (cases hb; done) | skip
  exact ⟨_, _, rfl, rfl, by rw [dec_str]; simp [PyData.eqv]⟩
section
variable {K : PySem.W.Frag}
theorem nilR_ok {S : Hp} {a b : PyData} {x y : V} (h : nilR a b = true) (hx : Rp K S x a) (hy : Rp K S y b) : ∃ p q xs, x = .ref p ∧ y = .ref q ∧ SqL K S p xs ∧ SqL K S q [] ∧ PyData.eqv a b = xs.isEmpty := by
  cases hx <;> first | (cases hy <;> cases h; done) | skip
  all_goals cases hy <;> first | (simp [nilR] at h; done) | skip
  rename_i a0 xs0 ds0 h1 h2 b0 ys0 es0 h3 h4
  cases es0 with
  | cons _ _ => simp [nilR] at h
  | nil =>
    cases h4
    refine ⟨_, _, _, rfl, rfl, .inl (.inl h1), .inl (.inl h3), ?_⟩
    cases h2 with
    | nil => exact eqv_nil
    | cons _ _ => rfl
theorem p_eq : Prim K (fun vs H Q => ∀ x y, vs = [x, y] → rEqU K x y H Q) oEq := prim2 fun x y a b r S H Q hx hy sb e q => by
  split at e
  · rename_i hs
    cases e
    rcases hs with hs | hs | hs
    case inr.inl =>
      obtain ⟨i, j, rfl, rfl, ee⟩ := isS_ok hs.1 hs.2 hx hy
      rw [ee] at q
      exact .inr (.inl ⟨rfl, q _ (.bl _)⟩)
    case inr.inr =>
      obtain ⟨i, j, xs, rfl, rfl, z1, z2, ee⟩ := nilR_ok hs hx hy
      rw [ee] at q
      exact .inr (.inr ⟨i, j, xs, rfl, rfl, Same.seqL sb z1, Same.seqL sb z2, q _ (by cases xs <;> exact .bl _)⟩)
    exact .inl ⟨a, b, Rp.dp a x (SeqAt.canLay_of_shaped hs.1) (hx.mn sb), Rp.dp b y (SeqAt.canLay_of_shaped hs.2) (hy.mn sb), hs.1, hs.2, q _ (.bl _)⟩
  · cases e
theorem p_ne : Prim K (fun vs H Q => ∀ x y, vs = [x, y] → rNeU K x y H Q) oNe := prim2 fun x y a b r S H Q hx hy sb e q => by
  split at e
  · rename_i hs
    cases e
    rcases hs with hs | hs | hs
    case inr.inl =>
      obtain ⟨i, j, rfl, rfl, ee⟩ := isS_ok hs.1 hs.2 hx hy
      rw [ee] at q
      exact .inr (.inl ⟨rfl, q _ (.bl _)⟩)
    case inr.inr =>
      obtain ⟨i, j, xs, rfl, rfl, z1, z2, ee⟩ := nilR_ok hs hx hy
      rw [ee] at q
      exact .inr (.inr ⟨i, j, xs, rfl, rfl, Same.seqL sb z1, Same.seqL sb z2, q _ (by cases xs <;> exact .bl _)⟩)
    exact .inl ⟨a, b, Rp.dp a x (SeqAt.canLay_of_shaped hs.1) (hx.mn sb), Rp.dp b y (SeqAt.canLay_of_shaped hs.2) (hy.mn sb), hs.1, hs.2, q _ (.bl _)⟩
  · cases e
/-- in: a list of data of any depth, a tuple of plain data -/
def memD (a : PyData) (ds : List PyData) : Bool := ds.any fun z => PyData.eqv z a
def oIn : Op := lift2 fun a b => match b with
  | .list ds => if SeqAt.shaped a = true ∧ SeqAt.shaped (.list ds) = true then some (.bool (memD a ds)) else none
  | .tuple ds => if atom a = true ∧ ds.all atom = true then some (.bool (memD a ds)) else none
  | _ => none
def oNotIn : Op := lift2 fun a b => match b with
  | .list ds => if SeqAt.shaped a = true ∧ SeqAt.shaped (.list ds) = true then some (.bool (!memD a ds)) else none
  | .tuple ds => if atom a = true ∧ ds.all atom = true then some (.bool (!memD a ds)) else none
  | _ => none
def rInU (K : PySem.W.Frag) : R2 := fun x y H Q => rInD K x y H Q ∨ rIn K false x y H Q
def rNotInU (K : PySem.W.Frag) : R2 := fun x y H Q => rNotInD K x y H Q ∨ rIn K true x y H Q
theorem op_inU {X : Cx} (hu : X.A.units + 65 < cLine) : OpR X (compareOp .In) (rInU X.K) := (op_inD hu).or op_in_seq
theorem op_notInU {X : Cx} (hu : X.A.units + 65 < cLine) : OpR X (compareOp .NotIn) (rNotInU X.K) := (op_notInD hu).or op_notIn_seq
theorem atom_flat {S : Hp} {v : V} {d : PyData} (h : Rp K S v d) (a : atom d = true) : flatV v = true := by
  cases h <;> first | rfl | simp [atom] at a
theorem atom_eqV {S : Hp} {v w : V} {d c : PyData} (h : Rp K S v d) (a : atom d = true) (h' : Rp K S w c) (a' : atom c = true) : eqV v w = PyData.eqv d c := by
  cases h <;> cases h' <;> first | rfl | (simp [atom] at a) | (simp [atom] at a')
theorem atoms_flat {S : Hp} : ∀ {vs : List V} {ds : List PyData}, RpL K S vs ds → ds.all atom = true → vs.all flatV = true
  | _, _, .nil, _ => rfl
  | _, _, .cons h t, a => by
    rw [List.all_cons, Bool.and_eq_true] at a
    rw [List.all_cons, atom_flat h a.1, atoms_flat t a.2]
    rfl
theorem atoms_in {S : Hp} {v : V} {d : PyData} (h0 : Rp K S v d) (a0 : atom d = true) : ∀ {vs : List V} {ds : List PyData}, RpL K S vs ds → ds.all atom = true → inV v vs = memD d ds
  | _, _, .nil, _ => rfl
  | _, _, .cons h t, a => by
    rw [List.all_cons, Bool.and_eq_true] at a
    have ih := atoms_in h0 a0 t a.2
    unfold inV memD at ih ⊢
    rw [List.any_cons, List.any_cons, ih, atom_eqV h a.1 h0 a0]
theorem p_in : Prim K (fun vs H Q => ∀ x y, vs = [x, y] → rInU K x y H Q) oIn := prim2 fun x y a b r S H Q hx hy sb e q => by
  split at e
  · split at e
    · rename_i hs
      cases e
      exact .inl ⟨a, _, Rp.dp a x (SeqAt.canLay_of_shaped hs.1) (hx.mn sb), Rp.dp _ y (SeqAt.canLay_of_shaped hs.2) (hy.mn sb), hs.1, hs.2, q _ (.bl _)⟩
    · cases e
  · split at e
    · rename_i hs
      cases e
      cases hy with
      | tup p1 p2 =>
        refine .inr ⟨_, _, rfl, .inr (Same.seqT sb p1), atom_flat hx hs.1, atoms_flat p2 hs.2, ?_⟩
        rw [if_neg Bool.false_ne_true, atoms_in hx hs.1 p2 hs.2]
        exact q _ (.bl _)
    · cases e
  · cases e
theorem p_notIn : Prim K (fun vs H Q => ∀ x y, vs = [x, y] → rNotInU K x y H Q) oNotIn := prim2 fun x y a b r S H Q hx hy sb e q => by
  split at e
  · split at e
    · rename_i hs
      cases e
      exact .inl ⟨a, _, Rp.dp a x (SeqAt.canLay_of_shaped hs.1) (hx.mn sb), Rp.dp _ y (SeqAt.canLay_of_shaped hs.2) (hy.mn sb), hs.1, hs.2, q _ (.bl _)⟩
    · cases e
  · split at e
    · rename_i hs
      cases e
      cases hy with
      | tup p1 p2 =>
        refine .inr ⟨_, _, rfl, .inr (Same.seqT sb p1), atom_flat hx hs.1, atoms_flat p2 hs.2, ?_⟩
        rw [if_pos rfl, atoms_in hx hs.1 p2 hs.2]
        exact q _ (.bl _)
    · cases e
  · cases e
/-- is None, is not None -/
def isNone : PyData → Bool
  | .none => true
  | _ => false
def oIsN : Op := lift2 fun a b => match b with | .none => some (.bool (isNone a)) | _ => none
def oNotN : Op := lift2 fun a b => match b with | .none => some (.bool (!isNone a)) | _ => none
theorem isNone_ok {S : Hp} {v : V} {d : PyData} (h : Rp K S v d) : decide (v = .non) = isNone d := by
  cases h <;> rfl
theorem p_isN : Prim K (fun vs H Q => ∀ x y, vs = [x, y] → (y = .non ∧ Q (.bl (decide (x = .non))) H)) oIsN := prim2 (R := fun x y H Q => y = .non ∧ Q (.bl (decide (x = .non))) H) fun x y a b r S H Q hx hy sb e q => by
  split at e
  · cases e; cases hy; rw [isNone_ok hx]; exact ⟨rfl, q _ (.bl _)⟩
  · cases e
theorem p_notN : Prim K (fun vs H Q => ∀ x y, vs = [x, y] → (y = .non ∧ Q (.bl (!decide (x = .non))) H)) oNotN := prim2 (R := fun x y H Q => y = .non ∧ Q (.bl (!decide (x = .non))) H) fun x y a b r S H Q hx hy sb e q => by
  split at e
  · cases e; cases hy; rw [isNone_ok hx]; exact ⟨rfl, q _ (.bl _)⟩
  · cases e
/-- is True, is False: of truths -/
def oIsB : Op := lift2 fun a b => match a, b with | .bool x, .bool y => some (.bool (decide (x = y))) | _, _ => none
theorem p_isB : Prim K (fun vs H Q => ∀ x y, vs = [x, y] → rIsB x y H Q) oIsB := prim2 fun x y a b r S H Q hx hy sb e q => by
  split at e
  · cases e; cases hy; cases hx; exact ⟨_, _, rfl, rfl, q _ (.bl _)⟩
  · cases e
end
end PV

/-! PVL: what changes an owned list or dict of a slot; item stores; assignments to targets. -/
namespace PV
open PySem PySem.Spec PyProof.Rows L2

/-- an object that holds shared data -/
def Held (K : PySem.W.Frag) (S : Hp) (u : HO) (d : PyData) : Prop :=
  (∃ vs ds, u = .lst vs ∧ d = .list ds ∧ RpL K S vs ds) ∨ ∃ vs ds, u = .dK vs ∧ d = .dict ds ∧ RpK K S vs ds
def boxD : PyData → Bool
  | .list _ | .dict _ => true
  | _ => false
section
variable {K : PySem.W.Frag} {S H : Hp}
theorem OwK.fp0 : ∀ {vs : List (Key × V)} {ds : List (PyData × PyData)} {f : List Addr}, OwK (Own K S H 0) vs ds f → f = [] ∧ RpK K S vs ds
  | _, _, _, .nil => ⟨rfl, .nil⟩
  | _, _, _, .cons ⟨e, a⟩ b => by
    obtain ⟨e2, h2⟩ := OwK.fp0 b
    subst e e2
    exact ⟨rfl, .cons a h2⟩
theorem OwK.of_rp : ∀ {vs : List (Key × V)} {ds : List (PyData × PyData)}, RpK K S vs ds → OwK (Own K S H 0) vs ds []
  | _, _, .nil => .nil
  | _, _, .cons a b => OwK.cons (f := []) (g := []) ⟨rfl, a⟩ (OwK.of_rp b)
theorem Own.held {v : V} {d : PyData} {f : List Addr} (h : Own K S H 1 v d f) (b : boxD d = true) : ∃ a u, v = .ref a ∧ f = [a] ∧ H a = some u ∧ Held K S u d := by
  rcases h with ⟨a, vs, ds, g, e1, e2, h, e3, ho⟩ | ⟨a, vs, ds, g, e1, e2, h, e3, ho⟩ | ⟨a, vs, ds, e1, e2, _⟩ | ⟨h1, _, _⟩
  · obtain ⟨eg, r⟩ := ho.fp0
    subst eg
    exact ⟨a, _, e1, e3, h, .inl ⟨vs, ds, rfl, e2, r⟩⟩
  · obtain ⟨eg, r⟩ := ho.fp0
    subst eg
    exact ⟨a, _, e1, e3, h, .inr ⟨vs, ds, rfl, e2, r⟩⟩
  · subst e2; cases b
  · cases d <;> first | (cases b; done) | (cases h1; done)
theorem Held.own {a : Addr} {u : HO} {d : PyData} (h : Held K S u d) (e : H a = some u) : Own K S H 1 (.ref a) d [a] := by
  rcases h with ⟨vs, ds, rfl, rfl, r⟩ | ⟨vs, ds, rfl, rfl, r⟩
  · exact .inl ⟨a, vs, ds, [], rfl, rfl, e, rfl, OwL.of_rp r⟩
  · exact .inr (.inl ⟨a, vs, ds, [], rfl, rfl, e, rfl, OwK.of_rp r⟩)
theorem Held.mn {S' : Hp} {u : HO} {d : PyData} (h : Held K S u d) (e : Same S S') : Held K S' u d := by
  rcases h with ⟨vs, ds, e1, e2, r⟩ | ⟨vs, ds, e1, e2, r⟩
  · exact .inl ⟨vs, ds, e1, e2, r.mn e⟩
  · exact .inr ⟨vs, ds, e1, e2, r.mn e⟩
end
section
variable {G : Gx} {W : WX} {S S' H H' S0 H0 : Hp} {σ : L2.St} {e : Ev} {A A' A0 : List Addr}
/-- the object of slot i is rewritten -/
theorem Cu.mut {i : Nat} {d : PyData} (R : Cu G S H σ e A []) (h : e[i]? = some (some (.dt d 1))) (b : boxD d = true) : ∃ a u, σ[i]? = some (some (.ref a)) ∧ H a = some u ∧ Held G.K S u d ∧
    ∀ u' d', Held G.K S u' d' → Cu G S (upd H a u') σ (e.set i (some (.dt d' 1))) A [] ∧ Step S A H S A (upd H a u') := by
  obtain ⟨v, f, B, C, e1, e2, o, k, _⟩ := R.slots.at i h
  obtain ⟨a, u, rfl, rfl, ha, hu⟩ := o.held b
  refine ⟨a, u, e1, ha, hu, fun u' d' hd => ?_⟩
  have nA : A.Nodup := nodup_nil.mp R.nod
  have aA : a ∈ A := by rw [e2]; simp
  have aS : S a = none := R.off a (List.mem_append_left _ aA)
  have nBC : ∀ b ∈ B ++ C, b ≠ a := fun b hb z => by
    subst z
    rw [e2] at nA
    obtain ⟨p, q, r⟩ := nodup_app.mp nA
    rcases List.mem_append.mp hb with w | w
    · exact (nodup_app.mp p).2.2 b w (List.mem_singleton.mpr rfl)
    · exact r b (by simp) w
  have sm : Same S (upd H a u') := fun b o z => by
    have : b ≠ a := fun w => by rw [w, aS] at z; cases z
    rw [upd_ne this]; exact R.sub b o z
  have sl := k (Same.refl S) (H' := upd H a u') (fun b hb o z => by rw [upd_ne (nBC b hb)]; exact z) (hd.own (H := upd H a u') upd_same)
  have eA : B ++ [a] ++ C = A := e2.symm
  rw [eA] at sl
  refine ⟨⟨sm, R.nod, R.off, sl, fun t ht => nomatch ht⟩, ⟨fun b o z n => ?_, fun b z => ?_, Same.refl S, fun b o z => .inl z, fun b z => .inl z⟩⟩
  · have : b ≠ a := fun w => n (w ▸ aA)
    rw [upd_ne this]; exact z
  · by_cases hb : b = a
    · rw [hb, upd_same]; exact fun w => nomatch w
    · rw [upd_ne hb]; exact z
end

/-! ### methods that change the list or dict -/
abbrev MOp := PyData → List PyData → Option (PyData × PyData)
def typD (T : String) : PyData → Bool
  | .list _ => T == "list"
  | .dict _ => T == "dict"
  | _ => false
def metK (T : String) (m : MOp) (i : Nat) (rs : List RV) (e : Ev) : Res RV := match settle rs e with
  | some (as, e2) => match e2[i]? with
    | some (some (.dt d 1)) => if typD T d = true then match m d as with
      | some (d', r) => .ok (.val r 0) (e2.set i (some (.dt d' 1)))
      | none => .no else .no
    | _ => .no
  | none => .no
def fMet (T : String) (m : MOp) (i : Nat) (fs : List (Ev → Res RV)) (e : Ev) : Res RV := match e[i]? with
  | some (some (.dt d 1)) => if typD T d = true then (fArgs fs e).bind fun rs e1 => metK T m i rs e1 else .no
  | _ => .no
def MPrim (K : PySem.W.Frag) (T : String) (r : V → List V → Hp → VK → Prop) (m : MOp) : Prop :=
  ∀ a u d ws as S H Q d' res, H a = some u → Held K S u d → typD T d = true → RpL K S ws as → Same S H → m d as = some (d', res) → (∀ u' v, Held K S u' d' → Rp K S v res → Q v (upd H a u')) → r (.ref a) ws H Q
theorem typD_box {T : String} {d : PyData} (h : typD T d = true) : boxD d = true := by cases d <;> first | rfl | cases h
theorem typD_ty {K : PySem.W.Frag} {S H : Hp} {T : String} {d : PyData} {a : Addr} {u : HO} (h : typD T d = true) (e : H a = some u) (hd : Held K S u d) : tyV K T (.ref a) H := by
  rcases hd with ⟨vs, ds, rfl, rfl, r⟩ | ⟨vs, ds, rfl, rfl, r⟩
  · have : T = "list" := by simpa [typD] using h
    exact .inl ⟨this, vs, .inl (.inl e)⟩
  · have : T = "dict" := by simpa [typD] using h
    exact .inr (.inr (.inl ⟨this, .inl ⟨vs, e⟩⟩))
section
variable {G : Gx} {W : WX} {S S1 S' H H' H1 S0 H0 : Hp} {σ : L2.St} {e e1 : Ev} {A A1 A' A0 : List Addr} {us : List Tmp} {Q : VK}
theorem met_ok {T : String} {r : V → List V → Hp → VK → Prop} {m : MOp} {i : Nat} {v0 : V} (hp : MPrim G.K T r m) (hv : σ[i]? = some (some v0)) (R1 : Cu G S1 H1 σ e1 A1 us) (st1 : Step S0 A0 H0 S1 (A1 ++ fps us) H1)
    (q2 : PostE G W S0 H0 σ A0 Q (metK T m i (us.map (·.r)) e1)) : r v0 (us.map (·.v)) H1 Q := by
  unfold metK at q2
  cases r2 : settle (us.map (·.r)) e1 with
  | none => rw [r2] at q2; exact q2.elim
  | some p =>
    obtain ⟨as, e2⟩ := p
    rw [r2] at q2
    simp only at q2
    obtain ⟨S2, A2, R2, rp, st2⟩ := settle_ok R1 r2
    match hi : e2[i]?, q2 with
    | some (some (.dt d 1)), q2 =>
      simp only [hi] at q2
      by_cases ht : typD T d = true
      · rw [if_pos ht] at q2
        obtain ⟨a, u, ea, ha, hu, k⟩ := R2.mut hi (typD_box ht)
        rw [hv] at ea
        cases ea
        cases r3 : m d as with
        | none => rw [r3] at q2; exact q2.elim
        | some p =>
          obtain ⟨d', res⟩ := p
          rw [r3] at q2
          simp only at q2
          refine hp a u d _ as S2 H1 Q d' res ha hu ht rp R2.sub r3 fun u' v hu' rv => ?_
          obtain ⟨R3, st3⟩ := k u' d' hu'
          refine q2 v _ S2 A2 [] (R3.one ⟨rfl, rv⟩ rfl) ?_
          rw [List.append_nil]
          exact (st1.trans st2).trans st3
      · rw [if_neg ht] at q2; exact q2.elim
    | some (some (.dt w 0)), q2 => simp only [hi] at q2; exact q2.elim
    | some (some (.dt w (n + 2))), q2 => simp only [hi] at q2; exact q2.elim
    | some (some (.ex c)), q2 => simp only [hi] at q2; exact q2.elim
    | some (some (.fz c)), q2 => simp only [hi] at q2; exact q2.elim
    | some none, q2 => simp only [hi] at q2; exact q2.elim
    | none, q2 => simp only [hi] at q2; exact q2.elim
theorem fmet_go {T : String} {r : V → List V → Hp → VK → Prop} {m : MOp} {i : Nat} {fs : List (Ev → Res RV)} (hp : MPrim G.K T r m) (q : tR G W (fMet T m i fs) σ H Q) :
    tVar i σ H fun x H1 => tyV G.K T x H1 ∧ tArgs G W fs σ H1 fun xs H2 => r x xs H2 Q := by
  obtain ⟨S, e, A, C, q⟩ := q
  unfold fMet at q
  match hi : e[i]?, q with
  | some (some (.dt d 1)), q =>
    simp only [hi] at q
    by_cases ht : typD T d = true
    · rw [if_pos ht] at q
      obtain ⟨a, u, ea, ha, hu, k⟩ := C.mut hi (typD_box ht)
      refine ⟨_, ea, typD_ty ht ha hu, tArgs_next C (S0 := S) (A0 := A) (H0 := H) Step.refl0 ?_⟩
      cases r2 : fArgs fs e with
      | no => rw [r2] at q; exact q
      | exc c e1 => rw [r2] at q; exact q
      | ok rs e1 =>
        rw [r2] at q
        intro us H1 S1 A1 eu R1 st1
        subst eu
        exact met_ok hp ea R1 st1 q
    · rw [if_neg ht] at q; exact q.elim
  | some (some (.dt w 0)), q => simp only [hi] at q; exact q.elim
  | some (some (.dt w (n + 2))), q => simp only [hi] at q; exact q.elim
  | some (some (.ex c)), q => simp only [hi] at q; exact q.elim
  | some (some (.fz c)), q => simp only [hi] at q; exact q.elim
  | some none, q => simp only [hi] at q; exact q.elim
  | none, q => simp only [hi] at q; exact q.elim
end
section
variable {X : Cx} {W : WX} {apos cpos : Pos} {es : List Expr} {fs : List (Ev → Res RV)} {e o : Expr} {name : Str} {T id : String} {r : V → List V → Hp → VK → Prop} {m : MOp} {i : Nat}
theorem ee_met (pa : PlainAttrs T) (slot : Slot T name id) (hty : typeOf (.builtin id) = pure (.type "method_descriptor")) (hm : MtR X id r) (hp : MPrim X.K T r m) (ho : PE X o (tVar i)) (ha : EA X W (e :: es) fs)
    (hbase : attributeBase o name X.env (eval o X.env) = eval o X.env := by rfl)
    (hfew : ((backTo cpos (starEach (e :: es) X.env)).all (fun x => !x.1) && (backToKw cpos (keywordEach [] X.env)).all (fun x => x.1.isSome)
      && decide ((e :: es).length + ([] : List Keyword).length + (if ([] : List Keyword).isEmpty then 0 else 1) < 30)) = true := by rfl)
    (hline : (apos.endLine == cpos.line) = true := by rfl) (hs : starEach (e :: es) X.env = (false, eval e X.env) :: starEach es X.env := by rfl) (hplain : (backTo cpos (starEach es X.env)).any (·.1) = false := by rfl) :
    EE X W (.Call (.Attribute o name apos) (e :: es) [] cpos) (fMet T m i fs) :=
  PE.imp (pe_bm pa slot hty hm ho ha hbase hfew hline hs hplain) fun _ _ _ q => fmet_go hp q
theorem ee_met0 (pa : PlainAttrs T) (slot : Slot T name id) (hty : typeOf (.builtin id) = pure (.type "method_descriptor")) (hm : MtR X id r) (hp : MPrim X.K T r m) (ho : PE X o (tVar i))
    (hbase : attributeBase o name X.env (eval o X.env) = eval o X.env := by rfl) (hline : (apos.endLine == cpos.line) = true := by rfl) :
    EE X W (.Call (.Attribute o name apos) [] [] cpos) (fMet T m i []) :=
  PE.imp (pe_bm0 pa slot hty hm ho hbase hline) fun _ _ _ q => fmet_go hp q
end

/-! ### the list's own -/
def mAppend : MOp := fun d as => match d, as with
  | .list ds, [x] => if ds.length < most then some (.list (ds ++ [x]), .none) else none
  | _, _ => none
def mPop : MOp := fun d as => match d, as with
  | .list ds, [] => match ds[ds.length - 1]? with
    | some x => some (.list ds.dropLast, x)
    | none => none
  | _, _ => none
def mPopAt : MOp := fun d as => match d, as with
  | .list ds, [.int i] => if -big ≤ i ∧ i < big then match ixN ds.length i with
    | some k => match ds[k]? with
      | some x => some (.list (ds.eraseIdx k), x)
      | none => none
    | none => none else none
  | _, _ => none
def mInsert : MOp := fun d as => match d, as with
  | .list ds, [.int i, x] => if 0 ≤ i ∧ i < big ∧ ds.length < most then some (.list (ds.take i.toNat ++ [x] ++ ds.drop i.toNat), .none) else none
  | _, _ => none
def mClear : MOp := fun d as => match d, as with
  | .list _, [] => some (.list [], .none)
  | _, _ => none
def mExtend : MOp := fun d as => match d, as with
  | .list ds, [.list es] => if ds.length + es.length ≤ most then some (.list (ds ++ es), .none) else none
  | _, _ => none
def mRemove : MOp := fun d as => match d, as with
  | .list ds, [.int k] => match intsOf ds with
    | some ns => if k ∈ ns then some (.list ((ns.eraseIdx (ns.idxOf k)).map .int), .none) else none
    | none => none
  | _, _ => none
section
variable {K : PySem.W.Frag} {S : Hp}
theorem RpL.dropLast {vs : List V} {ds : List PyData} (h : RpL K S vs ds) : RpL K S vs.dropLast ds.dropLast := by
  rw [List.dropLast_eq_take, List.dropLast_eq_take, h.length]
  exact h.take _
theorem RpL.erase : ∀ {vs : List V} {ds : List PyData} (i : Nat), RpL K S vs ds → RpL K S (vs.eraseIdx i) (ds.eraseIdx i)
  | _, _, _, .nil => .nil
  | _, _, 0, .cons _ t => t
  | _, _, i + 1, .cons a t => .cons a (RpL.erase i t)
theorem RpL.set {v : V} {d : PyData} (hv : Rp K S v d) : ∀ {vs : List V} {ds : List PyData} (i : Nat), RpL K S vs ds → RpL K S (vs.set i v) (ds.set i d)
  | _, _, _, .nil => .nil
  | _, _, 0, .cons _ t => .cons hv t
  | _, _, i + 1, .cons a t => .cons a (RpL.set hv i t)
theorem Held.lst {u : HO} {ds : List PyData} (h : Held K S u (.list ds)) : ∃ vs, u = .lst vs ∧ RpL K S vs ds := by
  rcases h with ⟨vs, ds', e, e2, r⟩ | ⟨vs, ds', e, e2, r⟩
  · cases e2; exact ⟨vs, e, r⟩
  · cases e2
theorem Held.dic {u : HO} {ds : List (PyData × PyData)} (h : Held K S u (.dict ds)) : ∃ vs, u = .dK vs ∧ RpK K S vs ds := by
  rcases h with ⟨vs, ds', e, e2, r⟩ | ⟨vs, ds', e, e2, r⟩
  · cases e2
  · cases e2; exact ⟨vs, e, r⟩
theorem Held.mkL {vs : List V} {ds : List PyData} (r : RpL K S vs ds) : Held K S (.lst vs) (.list ds) := .inl ⟨vs, ds, rfl, rfl, r⟩
theorem Held.mkD {vs : List (Key × V)} {ds : List (PyData × PyData)} (r : RpK K S vs ds) : Held K S (.dK vs) (.dict ds) := .inr ⟨vs, ds, rfl, rfl, r⟩
theorem rp_nil {vs : List V} (h : RpL K S vs []) : vs = [] := by cases h; rfl
theorem mp_append : MPrim K "list" rAppend mAppend := by
  intro a u d ws as S H Q d' res ha hu ht rp sb e q
  unfold mAppend at e
  split at e
  · split at e
    · rename_i ds x hz
      cases e
      obtain ⟨vs, rfl, r⟩ := hu.lst
      obtain ⟨y, rfl, hy⟩ := rp_one' rp
      exact ⟨a, vs, y, rfl, rfl, ha, by rw [r.length]; exact Nat.lt_of_lt_of_le hz most_le, q _ _ (.mkL (r.append (.cons hy .nil))) .non⟩
    · cases e
  · cases e
theorem mp_pop : MPrim K "list" rPop mPop := by
  intro a u d ws as S H Q d' res ha hu ht rp sb e q
  unfold mPop at e
  split at e
  · rename_i ds
    obtain ⟨vs, rfl, r⟩ := hu.lst
    have := rp_nil rp
    subst this
    cases z : ds[ds.length - 1]? with
    | none => rw [z] at e; cases e
    | some x =>
      rw [z] at e
      cases e
      obtain ⟨y, hy, ry⟩ := r.get z
      exact ⟨a, vs, y, rfl, rfl, ha, by rw [r.length]; exact hy, q _ _ (.mkL r.dropLast) ry⟩
  · cases e
theorem mp_popAt : MPrim K "list" rPopAt mPopAt := by
  intro a u d ws as S H Q d' res ha hu ht rp sb e q
  unfold mPopAt at e
  split at e
  · rename_i ds i
    split at e
    · rename_i hz
      obtain ⟨vs, rfl, r⟩ := hu.lst
      obtain ⟨y0, rfl, hy0⟩ := rp_one' rp
      cases hy0
      cases z : ixN ds.length i with
      | none => rw [z] at e; cases e
      | some k =>
        rw [z] at e
        simp only at e
        cases z2 : ds[k]? with
        | none => rw [z2] at e; cases e
        | some x =>
          rw [z2] at e
          cases e
          obtain ⟨y, hy, ry⟩ := r.get z2
          have hb : big = 2 ^ 62 := rfl
          exact ⟨a, vs, i, k, y, rfl, rfl, ha, by omega, by omega, by rw [r.length]; exact (ixN_seq z).1, hy, q _ _ (.mkL (r.erase k)) ry⟩
    · cases e
  · cases e
theorem mp_insert : MPrim K "list" (fun x vs H Q => ∃ (l : Addr) (xs : List V) (i : Int) (y : V), x = .ref l ∧ vs = [.int i, y] ∧ H l = some (.lst xs) ∧ xs.length < sizeLine ∧ 0 ≤ i ∧ i < 2 ^ 63 ∧
    Q .non (upd H l (.lst (xs.take i.toNat ++ [y] ++ xs.drop i.toNat)))) mInsert := by
  intro a u d ws as S H Q d' res ha hu ht rp sb e q
  unfold mInsert at e
  split at e
  · rename_i ds i x
    split at e
    · rename_i hz
      cases e
      obtain ⟨vs, rfl, r⟩ := hu.lst
      obtain ⟨y0, y, rfl, hy0, hy⟩ := rp_two' rp
      cases hy0
      have hb : big = 2 ^ 62 := rfl
      exact ⟨a, vs, i, y, rfl, rfl, ha, by rw [r.length]; exact Nat.lt_of_lt_of_le hz.2.2 most_le, hz.1, by omega, q _ _ (.mkL (((r.take _).append (.cons hy .nil)).append (r.drop _))) .non⟩
    · cases e
  · cases e
theorem mp_clear : MPrim K "list" rClear mClear := by
  intro a u d ws as S H Q d' res ha hu ht rp sb e q
  unfold mClear at e
  split at e
  · cases e
    obtain ⟨vs, rfl, r⟩ := hu.lst
    have := rp_nil rp
    subst this
    exact ⟨a, vs, rfl, rfl, ha, q _ _ (.mkL .nil) .non⟩
  · cases e
theorem mp_extend : MPrim K "list" rExtend mExtend := by
  intro a u d ws as S H Q d' res ha hu ht rp sb e q
  unfold mExtend at e
  split at e
  · split at e
    · rename_i ds es hz
      cases e
      obtain ⟨vs, rfl, r⟩ := hu.lst
      obtain ⟨y, rfl, hy⟩ := rp_one' rp
      cases hy with
      | lst h1 h2 =>
        exact ⟨a, _, vs, _, rfl, rfl, ha, sb _ _ h1, by rw [r.length, h2.length]; exact Nat.le_trans hz most_le, q _ _ (.mkL (r.append h2)) .non⟩
    · cases e
  · cases e
theorem mp_remove : MPrim K "list" rRemI mRemove := by
  intro a u d ws as S H Q d' res ha hu ht rp sb e q
  unfold mRemove at e
  split at e
  · rename_i ds k
    cases z : intsOf ds with
    | none => rw [z] at e; cases e
    | some ns =>
      rw [z] at e
      simp only at e
      split at e
      · rename_i hk
        cases e
        obtain ⟨vs, rfl, r⟩ := hu.lst
        obtain ⟨y, rfl, hy⟩ := rp_one' rp
        cases hy
        rw [intsOf_ok z] at r
        have ev := RpL.ints ns r
        subst ev
        refine ⟨a, ns, k, ns.idxOf k, rfl, rfl, ha, ?_, fun m hm hq => ?_, q _ _ (.mkL (RpL.of_ints _)) .non⟩
        · have hl := List.idxOf_lt_length_of_mem hk
          rw [List.getElem?_eq_getElem hl, List.getElem_idxOf]
        · obtain ⟨hl, e⟩ := List.getElem?_eq_some_iff.mp hq
          have := List.not_of_lt_findIdx (p := (· == k)) (xs := ns) (i := m) hm
          simp [e] at this
      · cases e
  · cases e
end

/-! ### x[i] = v -/
def sIx (d : PyData) (ix v : PyData) : Option PyData := match d, ix with
  | .list ds, .int i => match ixN ds.length i with
    | some j => some (.list (ds.set j v))
    | none => none
  | _, _ => none
def isDt (e : Ev) (i : Nat) : Bool := match e[i]? with
  | some (some (.dt _ _)) => true
  | _ => false
def tgSub (st : PyData → PyData → PyData → Option PyData) (i : Nat) (fi : Ev → Res RV) : Tgt := fun d e => if isDt e i = true then match fi e with
  | .ok r e1 => match settle [r] e1 with
    | some ([ix], e2) => match e2[i]? with
      | some (some (.dt c 1)) => if boxD c = true then match st c ix d with
        | some c' => some (e2.set i (some (.dt c' 1)))
        | none => none else none
      | _ => none
    | _ => none
  | _ => none else none
def SPrim (K : PySem.W.Frag) (t : TSet) (st : PyData → PyData → PyData → Option PyData) : Prop :=
  ∀ a u c x ix v d S H Q c', H a = some u → Held K S u c → Rp K S x ix → Rp K S v d → Same S H → st c ix d = some c' → (∀ u', Held K S u' c' → Q (upd H a u')) → t (.ref a) x v H Q
theorem sp_list {K : PySem.W.Frag} : SPrim K rSetL sIx := by
  intro a u c x ix v d S H Q c' ha hu hx hv sb e q
  unfold sIx at e
  split at e
  · rename_i ds i
    cases z : ixN ds.length i with
    | none => rw [z] at e; cases e
    | some j =>
      rw [z] at e
      cases e
      obtain ⟨vs, rfl, r⟩ := hu.lst
      cases hx
      exact ⟨a, vs, i, j, rfl, rfl, ha, by rw [r.length]; exact z, q _ (.mkL (r.set hv j))⟩
  · cases e
/-- targets that may change an object -/
def tGA (G : Gx) (P : Nat → Bool) (ft : Tgt) : TG := fun v σ H Q => ∃ S e A d, Cu G S H σ e A [] ∧ Rp G.K S v d ∧ match ft d e with
  | none => False
  | some e' => ∀ σ' H' S' A', Cu G S' H' σ' e' A' [] → Step S A H S' A' H' → Pin P σ σ' → Q σ' H'
abbrev EGA (X : Cx) (P : Nat → Bool) (tg : Expr) (ft : Tgt) : Prop := PG X tg (tGA (gx X) P ft)
theorem ega {X : Cx} {P : Nat → Bool} {tg : Expr} {ft : Tgt} (h : EG X P tg ft) : EGA X P tg ft := PG.imp h fun v σ H Q q => by
  obtain ⟨S, e, A, d, R, rp, q⟩ := q
  refine ⟨S, e, A, d, R, rp, ?_⟩
  cases z : ft d e with
  | none => rw [z] at q; exact q
  | some e' => rw [z] at q; exact fun σ' S' A' => q σ' H S' A'
theorem eg_sub {X : Cx} {W : WX} {P : Nat → Bool} {pos : Pos} {o ie : Expr} {i : Nat} {fi : Ev → Res RV} {t : TSet} {st : PyData → PyData → PyData → Option PyData} (hs : PSet X t) (hp : SPrim X.K t st) (ho : PE X o (tVar i)) (hi : EE X W ie fi)
    (ha : ∀ v, assign (.Subscript o ie pos) X.env v = (do
      let ov ← holding [v] (eval o X.env)
      let iv ← holding [v, ov] (eval ie X.env)
      standAt pos
      holding [v, ov, iv] (setItem ov iv v)
      release [v, ov, iv] []) := by intro _; rfl) : EGA X P (.Subscript o ie pos) (tgSub st i fi) :=
  PG.imp (pg_sub ho hi hs ha) fun v σ H Q q => by
    obtain ⟨S, e, A, d, R, rp, q⟩ := q
    unfold tgSub at q
    by_cases hd : isDt e i = true
    · rw [if_pos hd] at q
      obtain ⟨v0, hv⟩ : ∃ v0, σ[i]? = some (some v0) := by
        unfold isDt at hd
        match hi : e[i]?, hd with
        | some (some (.dt d n)), hd =>
          obtain ⟨v0, _, _, _, h1, _⟩ := R.slots.at i hi
          exact ⟨v0, h1⟩
      refine ⟨v0, hv, tR_next (G := gx X) R (S0 := S) (A0 := A) (H0 := H) Step.refl0 ?_⟩
      cases r1 : fi e with
      | no => rw [r1] at q; exact q.elim
      | exc c e1 => rw [r1] at q; exact q.elim
      | ok r e1 =>
        rw [r1] at q
        simp only at q
        intro x H1 S1 A1 f R1 st1
        have R1' : Cu (gx X) S1 H1 σ e1 A1 [⟨r, x, f⟩] := R1
        match r2 : settle [r] e1, q with
        | some ([ix], e2), q =>
          simp only at q
          obtain ⟨S2, A2, R2, rp2, st2⟩ := settle_ok R1' r2
          match hi2 : e2[i]?, q with
          | some (some (.dt c 1)), q =>
            simp only at q
            by_cases hb : boxD c = true
            · rw [if_pos hb] at q
              obtain ⟨a, u, ea, hau, hu, k⟩ := R2.mut hi2 hb
              rw [hv] at ea
              cases ea
              cases r3 : st c ix d with
              | none => rw [r3] at q; exact q.elim
              | some c' =>
                rw [r3] at q
                simp only at q
                refine hp a u c x ix v d S2 H1 _ c' hau hu (rp_one rp2 rfl) (rp.mn (st1.sub.trans st2.sub)) R2.sub r3 fun u' hu' => ?_
                obtain ⟨R3, st3⟩ := k u' c' hu'
                exact q σ _ S2 A2 R3 ((st1.trans st2).trans st3) .refl
            · rw [if_neg hb] at q; exact q.elim
          | some (some (.dt w 0)), q => exact q.elim
          | some (some (.dt w (n + 2))), q => exact q.elim
          | some (some (.ex c)), q => exact q.elim
          | some (some (.fz c)), q => exact q.elim
          | some none, q => exact q.elim
          | none, q => exact q.elim
        | some ([], e2), q => exact q.elim
        | some (_ :: _ :: _, e2), q => exact q.elim
        | none, q => exact q.elim
    · rw [if_neg hd] at q; exact q.elim
/-- target = value, any target -/
def fAsg (ft : Tgt) (fa : Ev → Res RV) (e : Ev) : SRes := (fa e).toS fun r e1 => match settle [r] e1 with
  | some ([d], e2) => match ft d e2 with
    | some e3 => .nx e3
    | none => .no
  | _ => .no
theorem es_asg {X : Cx} {W : WX} {P : Nat → Bool} {pos : Pos} {tg a : Expr} {ft : Tgt} {fa : Ev → Res RV} (he : EE X W a fa) (hg : EGA X P tg ft) (hs : swapsWithSole [tg] a pos.line X.env = pure false := by rfl) (hw : swappedStores [tg] a X.env = pure none := by rfl)
    (h1 : (assignEach [tg] X.env).map (·.2) = [assign tg X.env] := by rfl) : ES X W P (.Assign [tg] a pos) (fAsg ft fa) :=
  PS.imp (ps_asg he hg hs hw h1) fun D σ H q => toS_ok q fun S A r e1 v H1 S1 A1 f q R st => by
    have q : PostS (gx X) W P D S A H σ (match settle [r] e1 with | some ([d], e2) => (match ft d e2 with | some e3 => .nx e3 | none => .no) | _ => .no) := q
    have R' : Cu (gx X) S1 H1 σ e1 A1 [⟨r, v, f⟩] := R
    match r2 : settle [r] e1, q with
    | some ([d], e2), q =>
      simp only at q
      obtain ⟨S2, A2, R2, rp2, st2⟩ := settle_ok R' r2
      rw [fps_one] at st2
      refine ⟨S2, e2, A2, d, R2, rp_one rp2 rfl, ?_⟩
      cases r3 : ft d e2 with
      | none => rw [r3] at q; exact q
      | some e3 =>
        rw [r3] at q
        exact fun σ' H' S' A' R3 st3 pn => q σ' H' S' A' R3 ((st.trans st2).trans st3) pn
    | some ([], e2), q => exact q.elim
    | some (_ :: _ :: _, e2), q => exact q.elim
    | none, q => exact q.elim
end PV

/-! PVM: slices, list(range()), isinstance, chained comparisons, calls out of a menu, repr, the script. -/
namespace PV
open PySem PySem.Spec PyProof.Rows L2

theorem own_int {K : PySem.W.Frag} {S H : Hp} {n : Nat} {v : V} {i : Int} {f : List Addr} (h : Own K S H n v (.int i) f) : v = .int i ∧ f = [] := by
  cases n with
  | zero => obtain ⟨e, h⟩ := h; cases h; exact ⟨rfl, e⟩
  | succ n =>
    rcases h with ⟨_, _, _, _, _, q, _⟩ | ⟨_, _, _, _, _, q, _⟩ | ⟨_, _, _, _, q, _⟩ | ⟨_, e, h⟩
    · cases q
    · cases q
    · cases q
    · cases h; exact ⟨rfl, e⟩

/-! ### slices -/
/-- an expression that may be left out: an int -/
def fPart (f : Option (Ev → Res RV)) (e : Ev) : Res (Option Int) := match f with
  | none => .ok none e
  | some g => (g e).bind fun r e1 => match r with
    | .val (.int i) _ => .ok (some i) e1
    | _ => .no
def oSl (lo hi : Option Int) : Op := fun ds => match ds with
  | [.list xs] => some (.list (cutD xs lo hi), 1)
  | [.tuple xs] => if HT.sIx xs.length 0 lo = 0 ∧ HT.sIx xs.length xs.length hi = xs.length then none else some (.tuple (cutD xs lo hi), 0)
  | [.str x] => if x.length ≤ most then some (.str (cutS x lo hi), 0) else none
  | _ => none
def rSlU (K : PySem.W.Frag) : V → Option Int → Option Int → Hp → VK → Prop := fun x lo hi H Q => (rSlL K x lo hi H Q ∨ rSlT K x lo hi H Q) ∨ rSlS x lo hi H Q
theorem sl_any {X : Cx} : SlR X (rSlU X.K) := (sl_list.or sl_tup).or sl_str
theorem p_slice {K : PySem.W.Frag} (lo hi : Option Int) : Prim K (fun vs H Q => ∀ x, vs = [x] → rSlU K x lo hi H Q) (oSl lo hi) := fun vs ds S H Q r m rp sb e q x ev => by
  unfold oSl at e
  split at e
  · cases e
    cases rp_one rp ev with
    | lst p1 p2 => exact .inl (.inl ⟨_, _, rfl, .inl (.inl (sb _ _ p1)), fun p hp => q _ _ _ _ (Made.lst sb hp) (Own.newLst (p2.cut lo hi))⟩)
  · split at e
    · cases e
    · rename_i xs hz
      cases e
      cases rp_one rp ev with
      | tup p1 p2 =>
        refine .inl (.inr ⟨_, _, rfl, Same.seqT sb p1, by rw [p2.length]; exact hz, fun p hp => q _ _ _ _ (Made.tup sb hp) ⟨rfl, .tup (.inl (.inl upd_same)) ((p2.cut lo hi).mn (Made.tup sb hp).ss)⟩⟩)
  · split at e
    · rename_i x hz
      cases e
      cases rp_one rp ev
      exact .inr ⟨_, rfl, Nat.le_trans hz most_le, q _ _ _ _ (Made.refl sb) ⟨rfl, .str _⟩⟩
    · cases e
  · cases e
def fSl (fa : Ev → Res RV) (fl fh : Option (Ev → Res RV)) (e : Ev) : Res RV := (fa e).bind fun r e1 => (fPart fl e1).bind fun lo e2 => (fPart fh e2).bind fun hi e3 => use (oSl lo hi) [r] e3
/-- the judgement of a part -/
def tPa (G : Gx) (W : WX) (f : Option (Ev → Res RV)) : TO := match f with
  | none => tNoPart
  | some g => tPart (tR G W g)
abbrev EPa (X : Cx) (W : WX) (a : Option Expr) (f : Option (Ev → Res RV)) : Prop := PO X a (tPa (gx X) W f)
theorem ep_none {X : Cx} {W : WX} : EPa X W none none := po_none
theorem ep_some {X : Cx} {W : WX} {a : Expr} {f : Ev → Res RV} (h : EE X W a f) : EPa X W (some a) (some f) := po_some h
section
variable {G : Gx} {W : WX} {S S0 H H0 : Hp} {σ : L2.St} {e : Ev} {A A0 : List Addr} {ts : List Tmp}
def PostP (G : Gx) (W : WX) (S0 : Hp) (A0 : List Addr) (H0 : Hp) (σ : L2.St) (ts : List Tmp) (Q : Option Int → Hp → Prop) : Res (Option Int) → Prop
  | .ok o e' => ∀ H' S' A', Cu G S' H' σ e' A' ts → Step S0 A0 H0 S' (A' ++ fps ts) H' → Q o H'
  | .exc c e' => ∀ H' S' A' C, G.cl c = some C → Cu G S' H' σ e' A' [] → Step S0 A0 H0 S' A' H' → W (.ref C) none σ H'
  | .no => False
theorem tPa_next {f : Option (Ev → Res RV)} {Q : Option Int → Hp → Prop} (R : Cu G S H σ e A ts) (st : Step S0 A0 H0 S (A ++ fps ts) H) (h : PostP G W S0 A0 H0 σ ts Q (fPart f e)) : tPa G W f σ H Q := by
  cases f with
  | none => exact h H S A R st
  | some g =>
    refine tR_next R st ?_
    have h' : PostP G W S0 A0 H0 σ ts Q ((g e).bind fun r e1 => match r with | .val (.int i) _ => .ok (some i) e1 | _ => .no) := h
    cases q : g e with
    | no => rw [q] at h'; exact h'
    | exc c e1 => rw [q] at h'; exact h'
    | ok r e1 =>
      rw [q] at h'
      cases r with
      | bor i => exact h'.elim
      | ex c => exact h'.elim
      | val d n =>
        cases d with
        | int i =>
          intro v H1 S1 A1 f R1 st1
          obtain ⟨ev, ef⟩ := own_int (R1.tmps ⟨.val (.int i) n, v, f⟩ (by simp))
          subst ev ef
          have eqf : fps (ts ++ [⟨.val (.int i) n, .int i, []⟩]) = fps ts := by rw [fps_append, fps_one, List.append_nil]
          rw [eqf] at st1
          refine ⟨i, rfl, h' H1 S1 A1 ⟨R1.sub, ?_, ?_, R1.slots, fun t ht => R1.tmps t (List.mem_append_left _ ht)⟩ st1⟩
          · have := R1.nod; rw [eqf] at this; exact this
          · have := R1.off; rw [eqf] at this; exact this
        | _ => exact h'.elim
end
theorem ee_slice {X : Cx} {W : WX} {a : Expr} {fa : Ev → Res RV} {lo hi : Option Expr} {fl fh : Option (Ev → Res RV)} {p2 pos : Pos} (ha : EE X W a fa) (hl : EPa X W lo fl) (hh : EPa X W hi fh) : EE X W (.Subscript a (.Slice lo hi none p2) pos) (fSl fa fl fh) :=
  PE.imp (pe_slice sl_any ha hl hh) fun σ H Q q => by
    obtain ⟨S, e, A, C, q⟩ := q
    refine tR_next (G := gx X) C (S0 := S) (A0 := A) (H0 := H) Step.refl0 ?_
    have q' : PostE (gx X) W S H σ A Q ((fa e).bind fun r e1 => (fPart fl e1).bind fun lo e2 => (fPart fh e2).bind fun hi e3 => use (oSl lo hi) [r] e3) := q
    cases r1 : fa e with
    | no => rw [r1] at q'; exact q'
    | exc c e1 => rw [r1] at q'; exact q'
    | ok r e1 =>
      rw [r1] at q'
      intro v H1 S1 A1 g R1 st1
      refine tPa_next R1 st1 ?_
      have q2 : PostE (gx X) W S H σ A Q ((fPart fl e1).bind fun lo e2 => (fPart fh e2).bind fun hi e3 => use (oSl lo hi) [r] e3) := q'
      cases r2 : fPart fl e1 with
      | no => rw [r2] at q2; exact q2
      | exc c e2 => rw [r2] at q2; exact q2
      | ok lo e2 =>
        rw [r2] at q2
        intro H2 S2 A2 R2 st2
        refine tPa_next R2 st2 ?_
        have q3 : PostE (gx X) W S H σ A Q ((fPart fh e2).bind fun hi e3 => use (oSl lo hi) [r] e3) := q2
        cases r3 : fPart fh e2 with
        | no => rw [r3] at q3; exact q3
        | exc c e3 => rw [r3] at q3; exact q3
        | ok hi e3 =>
          rw [r3] at q3
          intro H3 S3 A3 R3 st3
          exact use_ok (ts := [⟨r, v, g⟩]) (p_slice lo hi) R3 st3 q3 v rfl

/-! ### the script -/
def fFz (i : Nat) (k : List PyData → Option (PyData × Nat)) (e : Ev) : Res RV := match e[i]? with
  | some (some (.fz ds)) => match k ds with
    | some (d, n) => .ok (.val d n) e
    | none => .no
  | _ => .no
/-- script[lo:hi], constants -/
theorem ee_fzSl {X : Cx} {W : WX} {a : Expr} {i : Nat} {lo hi : Option Expr} {l h : Option Int} {p2 pos : Pos} (ha : PE X a (tVar i)) (hl : PO X lo (fun _ H Q => Q l H)) (hh : PO X hi (fun _ H Q => Q h H)) :
    EE X W (.Subscript a (.Slice lo hi none p2) pos) (fFz i fun ds => some (.list (cutD ds l h), 1)) :=
  PE.imp (pe_slice sl_list ha hl hh) fun σ H Q q => by
    obtain ⟨S, e, A, C, q⟩ := q
    unfold fFz at q
    match hi : e[i]?, q with
    | some (some (.fz ds)), q =>
      simp only [hi] at q
      obtain ⟨a, vs, ea, h1, h2⟩ := C.slots.fzAt hi
      refine ⟨_, ea, a, vs, rfl, Same.seqL C.sub h1, fun p hp => ?_⟩
      obtain ⟨R1, st1⟩ := C.newLst (h2.cut l h) hp
      exact q _ _ _ _ _ R1 st1
    | some (some (.dt w n)), q => exact q.elim
    | some (some (.ex c)), q => exact q.elim
    | some none, q => exact q.elim
    | none, q => exact q.elim
theorem po_c {X : Cx} {e : Expr} {i : Int} (h : PE X e (tC (.int i))) : PO X (some e) (fun _ H Q => Q (some i) H) := ⟨fun pins s σ H Q I q => (po_some h).run pins s σ H Q I ⟨i, rfl, q⟩⟩
theorem po_n {X : Cx} : PO X none (fun _ H Q => Q none H) := po_none
/-- len(script) -/
theorem ee_fzLen {X : Cx} {W : WX} {a : Expr} {i : Nat} {p pos : Pos} (hg : Gl X "len") (hm : X.mg "len" = none) (ha : PE X a (tVar i)) (he : starEach [a] X.env = (false, eval a X.env) :: starEach [] X.env := by rfl) :
    EE X W (.Call (.Name "len" p) [a] [] pos) (fFz i fun ds => some (.int ds.length, 0)) :=
  PE.imp (pe_callB call_len hg hm boot_len (pa_cons ha pa_nil he) (he := he)) fun σ H Q q => by
    obtain ⟨S, e, A, C, q⟩ := q
    unfold fFz at q
    match hi : e[i]?, q with
    | some (some (.fz ds)), q =>
      simp only [hi] at q
      obtain ⟨a, vs, ea, h1, h2⟩ := C.slots.fzAt hi
      refine ⟨_, ea, _, vs.length, rfl, .inl ⟨vs, Same.seqL C.sub h1, rfl⟩, ?_⟩
      rw [h2.length]
      exact q _ _ _ _ _ (C.one ⟨rfl, .int _⟩ rfl) .refl0
    | some (some (.dt w n)), q => exact q.elim
    | some (some (.ex c)), q => exact q.elim
    | some none, q => exact q.elim
    | none, q => exact q.elim
/-- script[k] -/
def fFzIx (i : Nat) (fk : Ev → Res RV) (e : Ev) : Res RV := match e[i]? with
  | some (some (.fz ds)) => (fk e).bind fun r e1 => match r with
    | .val (.int k) _ => match atI ds k with
      | some d => .ok (.val d 0) e1
      | none => .no
    | _ => .no
  | _ => .no
theorem ee_fzIx {X : Cx} {W : WX} {a b : Expr} {fk : Ev → Res RV} {i : Nat} {pos : Pos} (ha : PE X a (tVar i)) (hb : EE X W b fk) (hs : PlainIx b) : EE X W (.Subscript a b pos) (fFzIx i fk) :=
  PE.imp (pe_ix ix_list ha hb hs) fun σ H Q q => by
    obtain ⟨S, e, A, C, q⟩ := q
    unfold fFzIx at q
    match hi : e[i]?, q with
    | some (some (.fz ds)), q =>
      simp only [hi] at q
      obtain ⟨a, vs, ea, h1, h2⟩ := C.slots.fzAt hi
      refine ⟨_, ea, tR_next (G := gx X) C (S0 := S) (A0 := A) (H0 := H) Step.refl0 ?_⟩
      have q' : PostE (gx X) W S H σ A Q ((fk e).bind fun r e1 => match r with | .val (.int k) _ => (match atI ds k with | some d => .ok (.val d 0) e1 | none => .no) | _ => .no) := q
      cases r1 : fk e with
      | no => rw [r1] at q'; exact q'
      | exc c e1 => rw [r1] at q'; exact q'
      | ok r e1 =>
        rw [r1] at q'
        cases r with
        | bor i => exact q'.elim
        | ex c => exact q'.elim
        | val d n =>
          cases d with
          | int k =>
            intro v H1 S1 A1 f R1 st1
            have R1' : Cu (gx X) S1 H1 σ e1 A1 [⟨.val (.int k) n, v, f⟩] := R1
            obtain ⟨ev, ef⟩ := own_int (R1'.tmps _ (List.mem_singleton.mpr rfl))
            subst ev ef
            have q2 : PostE (gx X) W S H σ A Q (match atI ds k with | some d => .ok (.val d 0) e1 | none => .no) := q'
            cases r2 : atI ds k with
            | none => rw [r2] at q2; exact q2.elim
            | some d =>
              rw [r2] at q2
              obtain ⟨v, hv, rv⟩ := h2.atI r2
              have rv' := rv.mn st1.sub
              exact ⟨a, vs, k, v, rfl, rfl, Same.seqL (st1.sub.trans R1'.sub) h1, hv, q2 _ _ _ _ _ (R1'.drop.one ⟨rfl, rv'⟩ rfl) st1⟩
          | _ => exact q'.elim
    | some (some (.dt w n)), q => exact q.elim
    | some (some (.ex c)), q => exact q.elim
    | some none, q => exact q.elim
    | none, q => exact q.elim

/-! ### list(range(..)) -/
def fLstRg (fa : Ev → Res RV) (fb : Option (Ev → Res RV)) (e : Ev) : Res RV := match fb with
  | none => (fa e).bind fun r e1 => match r with
    | .val (.int n) _ => if -big ≤ n ∧ n ≤ most then .ok (.val (.list (ranged 0 n.toNat)) 1) e1 else .no
    | _ => .no
  | some g => (fa e).bind fun r e1 => match r with
    | .val (.int a) _ => (g e1).bind fun s e2 => match s with
      | .val (.int b) _ => if -big ≤ a ∧ a < big ∧ -big ≤ b ∧ b < big ∧ b - a ≤ most then .ok (.val (.list (ranged a (b - a).toNat)) 1) e2 else .no
      | _ => .no
    | _ => .no
theorem ranged_rp {K : PySem.W.Frag} {S : Hp} (lo : Int) (n : Nat) : RpL K S ((List.range n).map fun (i : Nat) => V.int (lo + (i : Int))) (ranged lo n) := by
  unfold ranged
  induction n with
  | zero => exact .nil
  | succ n ih =>
    rw [List.range_succ, List.map_append, List.map_append]
    exact ih.append (.cons (.int _) .nil)
theorem ee_listRg1 {X : Cx} {W : WX} {a : Expr} {fa : Ev → Res RV} {p p2 pos pos2 : Pos} (hc : X.calm = true) (hg : Gl X "list") (hm : X.mg "list" = none) (hg2 : Gl X "range") (hm2 : X.mg "range" = none) (ha : EE X W a fa)
    (na : starEach [.Call (.Name "range" p2) [a] [] pos2] X.env = (false, eval (.Call (.Name "range" p2) [a] [] pos2) X.env) :: starEach [] X.env := by rfl) (na2 : starEach [a] X.env = (false, eval a X.env) :: starEach [] X.env := by rfl) :
    EE X W (.Call (.Name "list" p) [.Call (.Name "range" p2) [a] [] pos2] [] pos) (fLstRg fa none) :=
  PE.imp (pe_listRg hc hg hm (prg_1 hg2 hm2 ha na2) na) fun σ H Q q => by
    obtain ⟨S, e, A, C, q⟩ := q
    refine tR_next (G := gx X) C (S0 := S) (A0 := A) (H0 := H) Step.refl0 ?_
    have q' : PostE (gx X) W S H σ A Q ((fa e).bind fun r e1 => match r with | .val (.int n) _ => (if -big ≤ n ∧ n ≤ most then .ok (.val (.list (ranged 0 n.toNat)) 1) e1 else .no) | _ => .no) := q
    cases r1 : fa e with
    | no => rw [r1] at q'; exact q'
    | exc c e1 => rw [r1] at q'; exact q'
    | ok r e1 =>
      rw [r1] at q'
      cases r with
      | bor i => exact q'.elim
      | ex c => exact q'.elim
      | val d n =>
        cases d with
        | int k =>
          intro v H1 S1 A1 f R1 st1
          have R1' : Cu (gx X) S1 H1 σ e1 A1 [⟨.val (.int k) n, v, f⟩] := R1
          obtain ⟨ev, ef⟩ := own_int (R1'.tmps _ (List.mem_singleton.mpr rfl))
          subst ev ef
          have q2 : PostE (gx X) W S H σ A Q (if -big ≤ k ∧ k ≤ most then .ok (.val (.list (ranged 0 k.toNat)) 1) e1 else .no) := q'
          by_cases hz : -big ≤ k ∧ k ≤ most
          · rw [if_pos hz] at q2
            have hb : big = 2 ^ 62 := rfl
            have hm : (most : Int) = 16000000 := rfl
            refine ⟨k, rfl, ⟨by omega, by omega, by omega, by omega, by omega⟩, fun p hp => ?_⟩
            have rp : RpL X.K S1 (rgV 0 k) (ranged 0 k.toNat) := by
              unfold rgV
              rw [Int.sub_zero]
              exact ranged_rp 0 _
            obtain ⟨R2, st2⟩ := R1'.drop.newLst (G := gx X) rp hp
            have st1' : Step S A H S1 A1 H1 := by have := st1; rw [show fps ([] ++ [⟨.val (.int k) n, .int k, []⟩]) = [] from rfl, List.append_nil] at this; exact this
            exact q2 _ _ _ _ _ R2 (st1'.trans st2)
          · rw [if_neg hz] at q2; exact q2.elim
        | _ => exact q'.elim
theorem ee_listRg2 {X : Cx} {W : WX} {a b : Expr} {fa fb : Ev → Res RV} {p p2 pos pos2 : Pos} (hc : X.calm = true) (hg : Gl X "list") (hm : X.mg "list" = none) (hg2 : Gl X "range") (hm2 : X.mg "range" = none) (ha : EE X W a fa) (hb : EE X W b fb)
    (na : starEach [.Call (.Name "range" p2) [a, b] [] pos2] X.env = (false, eval (.Call (.Name "range" p2) [a, b] [] pos2) X.env) :: starEach [] X.env := by rfl) (na2 : starEach [a, b] X.env = (false, eval a X.env) :: starEach [b] X.env := by rfl)
    (nb : starEach [b] X.env = (false, eval b X.env) :: starEach [] X.env := by rfl) (hp : (backTo pos2 (starEach [b] X.env)).any (·.1) = false := by rfl) :
    EE X W (.Call (.Name "list" p) [.Call (.Name "range" p2) [a, b] [] pos2] [] pos) (fLstRg fa (some fb)) :=
  PE.imp (pe_listRg hc hg hm (prg_2 hg2 hm2 ha hb na2 nb hp) na) fun σ H Q q => by
    obtain ⟨S, e, A, C, q⟩ := q
    refine tR_next (G := gx X) C (S0 := S) (A0 := A) (H0 := H) Step.refl0 ?_
    have q' : PostE (gx X) W S H σ A Q ((fa e).bind fun r e1 => match r with | .val (.int a) _ => ((fb e1).bind fun s e2 => match s with | .val (.int b) _ => (if -big ≤ a ∧ a < big ∧ -big ≤ b ∧ b < big ∧ b - a ≤ most then .ok (.val (.list (ranged a (b - a).toNat)) 1) e2 else .no) | _ => .no) | _ => .no) := q
    cases r1 : fa e with
    | no => rw [r1] at q'; exact q'
    | exc c e1 => rw [r1] at q'; exact q'
    | ok r e1 =>
      rw [r1] at q'
      cases r with
      | bor i => exact q'.elim
      | ex c => exact q'.elim
      | val d n =>
        cases d with
        | int k =>
          intro v H1 S1 A1 f R1 st1
          have R1' : Cu (gx X) S1 H1 σ e1 A1 [⟨.val (.int k) n, v, f⟩] := R1
          obtain ⟨ev, ef⟩ := own_int (R1'.tmps _ (List.mem_singleton.mpr rfl))
          subst ev ef
          have st1' : Step S A H S1 (A1 ++ []) H1 := st1
          refine tR_next (G := gx X) R1'.drop (S0 := S) (A0 := A) (H0 := H) st1' ?_
          have q2 : PostE (gx X) W S H σ A Q ((fb e1).bind fun s e2 => match s with | .val (.int b) _ => (if -big ≤ k ∧ k < big ∧ -big ≤ b ∧ b < big ∧ b - k ≤ most then .ok (.val (.list (ranged k (b - k).toNat)) 1) e2 else .no) | _ => .no) := q'
          cases r2 : fb e1 with
          | no => rw [r2] at q2; exact q2
          | exc c e1 => rw [r2] at q2; exact q2
          | ok s e2 =>
            rw [r2] at q2
            cases s with
            | bor i => exact q2.elim
            | ex c => exact q2.elim
            | val d2 n2 =>
              cases d2 with
              | int j =>
                intro v H2 S2 A2 f R2 st2
                have R2' : Cu (gx X) S2 H2 σ e2 A2 [⟨.val (.int j) n2, v, f⟩] := R2
                obtain ⟨ev, ef⟩ := own_int (R2'.tmps _ (List.mem_singleton.mpr rfl))
                subst ev ef
                have q3 : PostE (gx X) W S H σ A Q (if -big ≤ k ∧ k < big ∧ -big ≤ j ∧ j < big ∧ j - k ≤ most then .ok (.val (.list (ranged k (j - k).toNat)) 1) e2 else .no) := q2
                by_cases hz : -big ≤ k ∧ k < big ∧ -big ≤ j ∧ j < big ∧ j - k ≤ most
                · rw [if_pos hz] at q3
                  have hb : big = 2 ^ 62 := rfl
                  have hm : (most : Int) = 16000000 := rfl
                  refine ⟨k, j, rfl, rfl, ⟨by omega, by omega, by omega, by omega, by omega⟩, fun p hp => ?_⟩
                  have rp : RpL X.K S2 (rgV k j) (ranged k (j - k).toNat) := by
                    unfold rgV
                    exact ranged_rp k _
                  obtain ⟨R3, st3⟩ := R2'.drop.newLst (G := gx X) rp hp
                  have st2' : Step S A H S2 A2 H2 := by have := st2; rw [show fps ([] ++ [⟨.val (.int j) n2, .int j, []⟩]) = [] from rfl, List.append_nil] at this; exact this
                  exact q3 _ _ _ _ _ R3 (st2'.trans st3)
                · rw [if_neg hz] at q3; exact q3.elim
              | _ => exact q2.elim
        | _ => exact q'.elim
end PV

/-! PVN: isinstance, chained comparisons, calls out of a menu, repr. -/
namespace PV
open PySem PySem.Spec PyProof.Rows L2

/-! ### isinstance -/
def tyN : PyData → String
  | .none => "NoneType"
  | .bool _ => "bool"
  | .int _ => "int"
  | .str _ => "str"
  | .list _ => "list"
  | .tuple _ => "tuple"
  | .dict _ => "dict"
def isN (T n : String) : Bool := n == T || (T == "int" && n == "bool")
def isT (T : String) (d : PyData) : Bool := isN T (tyN d)
def tyNs : List String := ["NoneType", "bool", "int", "str", "list", "tuple", "dict"]
theorem tyN_mem (d : PyData) : tyN d ∈ tyNs := by cases d <;> (show _ ∈ tyNs) <;> simp [tyN, tyNs]
theorem tyX {K : PySem.W.Frag} {S : Hp} {v : V} {d : PyData} (h : Rp K S v d) : TyX K S v (.type (tyN d)) := by
  cases h with
  | non => exact .base .non
  | bl b => exact .base (.bl b)
  | int i => exact .base (.int i)
  | str x => exact .base (.str x)
  | lst h _ => exact .base (.lst h)
  | tup h _ =>
    rcases h with (h | ⟨o, h⟩) | ⟨o, its, n, hk, hc, _⟩
    · exact .base (.tup h)
    · exact .fTuple h
    · exact .kTuple hk hc
  | dic h _ =>
    rcases h with h | ⟨o, h⟩
    · exact .base (.dK h)
    · exact .fDict h
def TyOk (T : String) : Prop := ∀ d : PyData, kitB (tyN d) T = some (isT T d)
theorem tyOk_int : TyOk "int" := fun d => (show ∀ n ∈ tyNs, kitB n "int" = some (isN "int" n) by decide +kernel) _ (tyN_mem d)
theorem tyOk_bool : TyOk "bool" := fun d => (show ∀ n ∈ tyNs, kitB n "bool" = some (isN "bool" n) by decide +kernel) _ (tyN_mem d)
theorem tyOk_str : TyOk "str" := fun d => (show ∀ n ∈ tyNs, kitB n "str" = some (isN "str" n) by decide +kernel) _ (tyN_mem d)
theorem tyOk_list : TyOk "list" := fun d => (show ∀ n ∈ tyNs, kitB n "list" = some (isN "list" n) by decide +kernel) _ (tyN_mem d)
theorem tyOk_tuple : TyOk "tuple" := fun d => (show ∀ n ∈ tyNs, kitB n "tuple" = some (isN "tuple" n) by decide +kernel) _ (tyN_mem d)
theorem tyOk_dict : TyOk "dict" := fun d => (show ∀ n ∈ tyNs, kitB n "dict" = some (isN "dict" n) by decide +kernel) _ (tyN_mem d)
def oIsi (T : String) : Op := lift1 fun a => some (.bool (isT T a))
theorem p_isi {K : PySem.W.Frag} {T : String} (hT : TyOk T) : Prim K (fun vs H Q => ∀ x, vs = [x] → rIsi K [x, .ty T] H Q) (oIsi T) := prim1 (R := fun x H Q => rIsi K [x, .ty T] H Q) fun x a r S H Q hx sb e q => by
  cases e
  exact ⟨x, .ty T, _, _, _, rfl, .ty T, tyX (hx.mn sb), kit_ty (hT a), q _ (.bl _)⟩
theorem ee_isi {X : Cx} {W : WX} {T : String} {y : Str} {a : Expr} {fa : Ev → Res RV} {p p2 pos : Pos} (hT : TyOk T) (hg : Gl X "isinstance") (hm : X.mg "isinstance" = none) (hg2 : Gl X y) (hm2 : X.mg y = none) (hv2 : bootBuiltins y = some (.type T)) (ha : EE X W a fa)
    (hn2 : y ≠ "__name__" := by decide) (hd2 : (y == ("__debug__" : Str)) = false := by decide)
    (na : starEach [a, .Name y p2] X.env = (false, eval a X.env) :: starEach [.Name y p2] X.env := by rfl) (nb : starEach [.Name y p2] X.env = (false, eval (.Name y p2) X.env) :: starEach [] X.env := by rfl)
    (hpl : (backTo pos (starEach [.Name y p2] X.env)).any (·.1) = false := by rfl) : EE X W (.Call (.Name "isinstance" p) [a, .Name y p2] [] pos) (f1 (oIsi T) fa) :=
  PE.imp (pe_callB call_isi hg hm (by decide +kernel) (pa_cons ha (pa_cons (pe_bltn hg2 hm2 hv2 (show RelV (.ty T) (.type T) from rfl) hn2 hd2) pa_nil nb) na) (he := na) (hpl := hpl)) fun σ H Q q => one_ok (R := fun x H Q => rIsi X.K [x, .ty T] H Q) (p_isi hT) q

/-! ### chained comparisons -/
def fChain (o1 o2 : Op) (fa fb fc : Ev → Res RV) (e : Ev) : Res RV := (fa e).bind fun r e1 => (fb e1).bind fun s e2 => match s with
  | .val (.int j) _ => (use o1 [r, .val (.int j) 0] e2).bind fun z e3 => onBool z ((fc e3).bind fun t e4 => use o2 [.val (.int j) 0, t] e4) (.ok (.val (.bool false) 0) e3)
  | _ => .no
section
variable {G : Gx} {W : WX} {S S0 H H0 : Hp} {σ : L2.St} {e : Ev} {A A0 : List Addr} {ts : List Tmp}
theorem Cu.last {t : Tmp} {v : V} {i : Int} {f : List Addr} {n : Nat} (R : Cu G S H σ e A [t, ⟨.val (.int i) n, v, f⟩]) : v = .int i ∧ f = [] ∧ Cu G S H σ e A [t, ⟨.val (.int i) 0, .int i, []⟩] := by
  obtain ⟨ev, ef⟩ := own_int (R.tmps ⟨.val (.int i) n, v, f⟩ (by simp))
  subst ev ef
  refine ⟨rfl, rfl, R.sub, R.nod, R.off, R.slots, fun u hu => ?_⟩
  rcases List.mem_cons.mp hu with z | z
  · exact R.tmps u (by rw [z]; exact List.mem_cons_self)
  · rw [List.mem_singleton] at z
    subst z
    exact ⟨rfl, .int i⟩
theorem chain_ok {R1 R2 : L2.R2} {o1 o2 : Op} {fa fb fc : Ev → Res RV} {Q : VK} (h1 : Prim G.K (fun vs H Q => ∀ x y, vs = [x, y] → R1 x y H Q) o1) (h2 : Prim G.K (fun vs H Q => ∀ x y, vs = [x, y] → R2 x y H Q) o2)
    (h : tR G W (fChain o1 o2 fa fb fc) σ H Q) : tChain R1 R2 (tR G W fa) (tR G W fb) (tR G W fc) σ H Q := by
  obtain ⟨S, e, A, C, h⟩ := h
  refine tR_next C (S0 := S) (A0 := A) (H0 := H) Step.refl0 ?_
  have h' : PostE G W S H σ A Q ((fa e).bind fun r e1 => (fb e1).bind fun s e2 => match s with | .val (.int j) _ => ((use o1 [r, .val (.int j) 0] e2).bind fun z e3 => onBool z ((fc e3).bind fun t e4 => use o2 [.val (.int j) 0, t] e4) (.ok (.val (.bool false) 0) e3)) | _ => .no) := h
  cases q : fa e with
  | no => rw [q] at h'; exact h'
  | exc c e1 => rw [q] at h'; exact h'
  | ok r e1 =>
    rw [q] at h'
    intro v H1 S1 A1 g C1 st1
    refine tR_next C1 st1 ?_
    have h2' : PostE G W S H σ A Q ((fb e1).bind fun s e2 => match s with | .val (.int j) _ => ((use o1 [r, .val (.int j) 0] e2).bind fun z e3 => onBool z ((fc e3).bind fun t e4 => use o2 [.val (.int j) 0, t] e4) (.ok (.val (.bool false) 0) e3)) | _ => .no) := h'
    cases q2 : fb e1 with
    | no => rw [q2] at h2'; exact h2'
    | exc c e1 => rw [q2] at h2'; exact h2'
    | ok s e2 =>
      rw [q2] at h2'
      cases s with
      | bor i => exact h2'.elim
      | ex c => exact h2'.elim
      | val d n =>
        cases d with
        | int j =>
          intro w H2 S2 A2 g2 C2 st2
          have C2' : Cu G S2 H2 σ e2 A2 [⟨r, v, g⟩, ⟨.val (.int j) n, w, g2⟩] := C2
          obtain ⟨ew, eg, C3⟩ := C2'.last
          subst ew eg
          have h3 : PostE G W S H σ A Q ((use o1 [r, .val (.int j) 0] e2).bind fun z e3 => onBool z ((fc e3).bind fun t e4 => use o2 [.val (.int j) 0, t] e4) (.ok (.val (.bool false) 0) e3)) := h2'
          refine use_ok (W := W) (ts := [⟨r, v, g⟩, ⟨.val (.int j) 0, .int j, []⟩]) (R := fun vs H Q => ∀ x y, vs = [x, y] → R1 x y H Q) h1 C3 st2 (Q := fun z H3 => ∃ k, z = .bl k ∧ (if k = true then tR G W fc σ H3 (fun w' H4 => R2 (.int j) w' H4 Q) else Q (.bl false) H3)) ?_ v (.int j) rfl
          show PostE G W S H σ A _ (use o1 [r, .val (.int j) 0] e2)
          cases q3 : use o1 [r, .val (.int j) 0] e2 with
          | no => rw [q3] at h3; exact h3
          | exc c e3 => rw [q3] at h3; exact h3
          | ok z e3 =>
            rw [q3] at h3
            have h4 : PostE G W S H σ A Q (onBool z ((fc e3).bind fun t e4 => use o2 [.val (.int j) 0, t] e4) (.ok (.val (.bool false) 0) e3)) := h3
            cases z with
            | bor i => exact h4.elim
            | ex c => exact h4.elim
            | val d n2 =>
              cases d with
              | bool b =>
                intro y H3 S3 A3 f C4 st3
                obtain ⟨ey, ef⟩ := own_bool (C4.tmps _ (List.mem_singleton.mpr rfl))
                subst ey ef
                rw [List.append_nil] at st3
                refine ⟨b, rfl, ?_⟩
                cases b with
                | false =>
                  rw [if_neg Bool.false_ne_true]
                  exact h4 _ H3 S3 A3 [] (C4.drop.one ⟨rfl, .bl false⟩ rfl) (by rw [List.append_nil]; exact st3)
                | true =>
                  rw [if_pos rfl]
                  have C5 : Cu G S3 H3 σ e3 A3 [⟨.val (.int j) 0, .int j, []⟩] := C4.drop.one ⟨rfl, .int j⟩ rfl
                  refine tR_next C5 (S0 := S) (A0 := A) (H0 := H) (by show Step S A H S3 (A3 ++ []) H3; rw [List.append_nil]; exact st3) ?_
                  have h5 : PostE G W S H σ A Q ((fc e3).bind fun t e4 => use o2 [.val (.int j) 0, t] e4) := h4
                  cases q5 : fc e3 with
                  | no => rw [q5] at h5; exact h5
                  | exc c e4 => rw [q5] at h5; exact h5
                  | ok t e4 =>
                    rw [q5] at h5
                    intro u H4 S4 A4 g4 C6 st4
                    exact use_ok (ts := [⟨.val (.int j) 0, .int j, []⟩, ⟨t, u, g4⟩]) (R := fun vs H Q => ∀ x y, vs = [x, y] → R2 x y H Q) h2 C6 st4 h5 _ _ rfl
              | _ => exact h4.elim
        | _ => exact h2'.elim
end
section
variable {X : Cx} {W : WX} {pos : Pos} {a b c : Expr} {fa fb fc : Ev → Res RV} {op op' : CmpOp} {R1 R2 : L2.R2} {o1 o2 : Op}
theorem ee_chain (h1 : OpR X (compareOp op) R1) (h2 : OpR X (compareOp op') R2) (p1 : Prim X.K (fun vs H Q => ∀ x y, vs = [x, y] → R1 x y H Q) o1) (p2 : Prim X.K (fun vs H Q => ∀ x y, vs = [x, y] → R2 x y H Q) o2) (ha : EE X W a fa) (hb : EE X W b fb) (hc : EE X W c fc)
    (hm : lastMarks [op, op'] [b, c] = false := by with_unfolding_all rfl) : EE X W (.Compare a [op, op'] [b, c] pos) (fChain o1 o2 fa fb fc) :=
  PE.imp (pe_chain h1 h2 ha hb hc hm) fun σ H Q q => chain_ok p1 p2 q
theorem et_chain (h1 : OpR X (compareOp op) R1) (h2 : OpR X (compareOp op') R2) (p1 : Prim X.K (fun vs H Q => ∀ x y, vs = [x, y] → R1 x y H Q) o1) (p2 : Prim X.K (fun vs H Q => ∀ x y, vs = [x, y] → R2 x y H Q) o2) (ha : EE X W a fa) (hb : EE X W b fb) (hc : EE X W c fc)
    (hm : lastMarks [op, op'] [b, c] = false := by with_unfolding_all rfl) : ET X W (.Compare a [op, op'] [b, c] pos) (fChain o1 o2 fa fb fc) :=
  PT.imp (pt_chain h1 h2 ha hb hc hm) fun σ H Q q => chain_ok (G := gx X) (Q := fun x H' => ∃ k, x = .bl k ∧ Q k H') p1 p2 (tT_tB q)
end

/-! ### a call out of a menu of defs: [f, g][i](..) -/
inductive Menu (X : Cx) (np : Nat) : List Expr → List V → List Den → Prop
  | nil : Menu X np [] [] []
  | cons {x : Str} {p : Pos} {f : Addr} {fd : FuncData} {ps : List Str} {k : Nat} {F : Den} {es : List Expr} {vs : List V} {Fs : List Den} :
      FnG X.prog X.w X.K X.mg X.base k f fd ps (spF (gx X) false np F) → Room k X.A → PE X (.Name x p) (tC (.ref f)) → PySem.W.keepIn X.K (.ref f) = true → Binds X.K fd ps [] →
      starEach (.Name x p :: es) X.env = (false, eval (.Name x p) X.env) :: starEach es X.env → Menu X np es vs Fs → Menu X np (.Name x p :: es) (.ref f :: vs) (F :: Fs)
section
variable {X : Cx} {W : WX} {np : Nat} {ns : List Expr} {vs : List V} {Fs : List Den}
theorem Menu.len (h : Menu X np ns vs Fs) : vs.length = Fs.length := by
  induction h with
  | nil => rfl
  | cons _ _ _ _ _ _ _ ih => exact congrArg (· + 1) ih
theorem Menu.get (h : Menu X np ns vs Fs) : ∀ {j : Nat} {F : Den}, Fs[j]? = some F → ∃ f fd ps k, vs[j]? = some (.ref f) ∧ FnG X.prog X.w X.K X.mg X.base k f fd ps (spF (gx X) false np F) ∧ Room k X.A ∧ PySem.W.keepIn X.K (.ref f) = true ∧ Binds X.K fd ps [] := by
  induction h with
  | nil => intro j F e; simp at e
  | cons a b c d e1 e2 t ih =>
    intro j F e
    cases j with
    | zero => simp at e; subst e; exact ⟨_, _, _, _, rfl, a, b, d, e1⟩
    | succ j =>
      obtain ⟨f, fd, ps, k, h1, h2⟩ := ih (j := j) (by simpa using e)
      exact ⟨f, fd, ps, k, by simpa using h1, h2⟩
def tAll (vs : List V) : TA := fun _ H Q => Q vs H
theorem Menu.pa (h : Menu X np ns vs Fs) : PA X ns (tAll vs) := by
  induction h with
  | nil => exact pa_nil
  | cons a b c d e1 e2 t ih =>
    exact ⟨fun pos pins s σ H Q I q => (pa_cons c ih e2).run pos pins s σ H Q I q⟩
def fMenu (np : Nat) (Fs : List Den) (fi : Ev → Res RV) (fs : List (Ev → Res RV)) (e : Ev) : Res RV := (fi e).bind fun r e1 => match r with
  | .val (.int k) _ => match atI Fs k with
    | some F => (fArgs fs e1).bind fun rs e2 => callK np F rs e2
    | none => .no
  | _ => .no
theorem ee_menu {ie e : Expr} {es : List Expr} {fi : Ev → Res RV} {fs : List (Ev → Res RV)} {pl ps pos : Pos} (M : Menu X np ns vs Fs) (hz : vs.length ≤ 1000) (gd : X.A.guards = some []) (tk : Takes X W) (hi : EE X W ie fi) (hs : PlainIx ie) (ha : EA X W (e :: es) fs)
    (ht : eval (.Call (.Subscript (.List ns pl) ie ps) (e :: es) [] pos) X.env = (do callWith pos (← eval (.Subscript (.List ns pl) ie ps) X.env) [] (backTo pos (starEach (e :: es) X.env)) (backToKw pos (keywordEach [] X.env))) := by rfl)
    (he : starEach (e :: es) X.env = (false, eval e X.env) :: starEach es X.env := by rfl) (hpl : (backTo pos (starEach es X.env)).any (·.1) = false := by rfl) :
    EE X W (.Call (.Subscript (.List ns pl) ie ps) (e :: es) [] pos) (fMenu np Fs fi fs) := by
  constructor
  intro pins s σ H Q I q
  obtain ⟨S, ev, A, C, q⟩ := q
  have callee := pe_ix (pos := ps) ix_list (pe_lst (pos := pl) M.pa) hi hs
  have go : tOp (rIxL X.K) (tLst (tAll vs)) (tR (gx X) W fi) σ H fun y H2 => ∃ (j : Nat) (F : Den) (S1 : Hp) (e1 : Ev) (A1 : List Addr), Fs[j]? = some F ∧ vs[j]? = some y ∧ Cu (gx X) S1 H2 σ e1 A1 [] ∧ Step S A H S1 A1 H2 ∧ PostE (gx X) W S H σ A Q ((fArgs fs e1).bind fun rs e2 => callK np F rs e2) := by
    refine ⟨small_line hz, fun p hp => ?_⟩
    have sm : Same H (upd H p (.lst vs)) := fun b o z => by rw [upd_ne (ne_of_none z hp)]; exact z
    have hpA : p ∉ A := fun z => C.trk (List.mem_append_left _ z) hp
    have C1 : Cu (gx X) S (upd H p (.lst vs)) σ ev A [] := ⟨C.sub.trans sm, C.nod, C.off, C.slots.keep (Same.refl S) fun b _ o z => sm b o z, fun t ht => nomatch ht⟩
    have st0 : Step S A H S A (upd H p (.lst vs)) := by
      refine ⟨fun b o z _ => sm b o z, fun b z => ?_, Same.refl S, fun b o z => .inl z, fun b z => .inl z⟩
      cases y : H b with
      | none => exact absurd y z
      | some u => rw [sm b u y]; exact fun w => nomatch w
    refine tR_next (G := gx X) C1 (S0 := S) (A0 := A) (H0 := upd H p (.lst vs)) Step.refl0 ?_
    have q' : PostE (gx X) W S H σ A Q ((fi ev).bind fun r e1 => match r with | .val (.int k) _ => (match atI Fs k with | some F => (fArgs fs e1).bind fun rs e2 => callK np F rs e2 | none => .no) | _ => .no) := q
    cases r1 : fi ev with
    | no => rw [r1] at q'; exact q'
    | exc c e1 =>
      rw [r1] at q'
      exact fun H' S' A' C' hC R st => q' H' S' A' C' hC R (st0.trans st)
    | ok r e1 =>
      rw [r1] at q'
      cases r with
      | bor i => exact q'.elim
      | ex c => exact q'.elim
      | val d n =>
        cases d with
        | int k =>
          intro v H2 S2 A2 f R2 st2
          have R2' : Cu (gx X) S2 H2 σ e1 A2 [⟨.val (.int k) n, v, f⟩] := R2
          obtain ⟨ev', ef⟩ := own_int (R2'.tmps _ (List.mem_singleton.mpr rfl))
          subst ev' ef
          have st2' : Step S A (upd H p (.lst vs)) S2 A2 H2 := by have := st2; rw [show fps ([] ++ [⟨.val (.int k) n, .int k, []⟩]) = [] from rfl, List.append_nil] at this; exact this
          have q2 : PostE (gx X) W S H σ A Q (match atI Fs k with | some F => (fArgs fs e1).bind fun rs e2 => callK np F rs e2 | none => .no) := q'
          cases r2 : atI Fs k with
          | none => rw [r2] at q2; exact q2.elim
          | some F =>
            rw [r2] at q2
            have hH2 : H2 p = some (.lst vs) := st2'.frame p _ upd_same hpA
            unfold atI at r2
            cases r3 : ixN Fs.length k with
            | none => rw [r3] at r2; cases r2
            | some j =>
              rw [r3] at r2
              have r2' : Fs[j]? = some F := r2
              obtain ⟨g, fd, ps', k', hv, _⟩ := M.get r2'
              refine ⟨p, vs, k, .ref g, rfl, rfl, .inl (.inl hH2), ?_, j, F, S2, e1, A2, r2', hv, R2'.drop, st0.trans st2', q2⟩
              unfold atI
              rw [M.len, r3]
              exact hv
        | _ => exact q'.elim
  refine Call_ (thn (callee.run pins s σ H _ I go) fun u s1 ⟨y, H1, I1, ry, j, F, S1, e1, A1, hF, hy, C1, st1, q1⟩ => ?_) ht
  obtain ⟨g, fd, ps', k', hv, hFn, hr, hk, hb⟩ := M.get hF
  rw [hv] at hy
  cases hy
  obtain rfl : u = Value.ref g := ry
  have args : tArgs (gx X) W fs σ H1 fun ws H2 => spF (gx X) false np F ws H2 Q (WE W σ) := by
    refine tArgs_next (G := gx X) C1 (S0 := S) (A0 := A) (H0 := H) (by show Step S A H S1 (A1 ++ []) H1; rw [List.append_nil]; exact st1) ?_
    cases r : fArgs fs e1 with
    | no => rw [r] at q1; exact q1
    | exc c e2 => rw [r] at q1; exact q1
    | ok rs e2 =>
      rw [r] at q1
      intro us H2 S2 A2 eu R2 st2
      subst eu
      exact call_ok (G := gx X) R2 st2 q1
  refine PySem.W.callWith_K (h₀ := X.base) I1.ok.mod.kin hk (thn (ha.run pos pins s1 σ H1 _ I1 args) ?_) he hpl
  rintro us s2 ⟨ws, H2, I2, r, q2⟩
  exact ⟨I2.kIn, run_g hFn hr gd hb (passAt tk σ) I2 r q2⟩
end

/-! ### repr -/
mutual
theorem reads_of {X : Cx} {pins : List (Addr × Obj)} {σ : L2.St} {H : Hp} {s : Shared} (I : Inv X pins σ H s) : ∀ (d : PyData) (v : V) (u : Value), d.hasDict = false → Rp X.K H v d → RelV v u → ∃ as, Reads s.heap u d as
  | .none, _, u, _, h, r => by cases h; cases r; exact ⟨_, .none⟩
  | .bool b, _, u, _, h, r => by cases h; cases r; exact ⟨_, .bool b⟩
  | .int i, _, u, _, h, r => by cases h; obtain ⟨t, rfl⟩ := r; exact ⟨_, .int i t⟩
  | .str x, _, u, _, h, r => by cases h; obtain ⟨t, rfl⟩ := r; exact ⟨_, .str x t⟩
  | .dict ds, _, u, n, _, _ => by simp [PyData.hasDict] at n
  | .list ds, _, u, n, h, r => by
    cases h with
    | lst h1 h2 =>
      cases r
      obtain ⟨its, rv, ⟨o, m, ho, hc, _, hd⟩, _⟩ := I.list (.inl (.inl h1))
      obtain ⟨as, ra⟩ := readsAll_of I ds _ its (by simpa [PyData.hasDict] using n) h2 rv
      exact ⟨_, .list ho hc hd (by simpa using ra)⟩
  | .tuple ds, _, u, n, h, r => by
    cases h with
    | tup h1 h2 =>
      cases r
      obtain ⟨its, rv, ⟨o, ho, hc, m, hd⟩, _⟩ := I.tuple h1
      obtain ⟨as, ra⟩ := readsAll_of I ds _ its (by simpa [PyData.hasDict] using n) h2 rv
      exact ⟨_, .tuple ho hc hd (by simpa using ra)⟩
theorem readsAll_of {X : Cx} {pins : List (Addr × Obj)} {σ : L2.St} {H : Hp} {s : Shared} (I : Inv X pins σ H s) : ∀ (ds : List PyData) (vs : List V) (us : List Value), PyData.hasDictAll ds = false → RpL X.K H vs ds → Vals vs us → ∃ as, ReadsAll s.heap us ds as
  | [], _, us, _, h, r => by cases h; cases r; exact ⟨_, .nil⟩
  | d :: ds, _, us, n, h, r => by
    have n' : d.hasDict = false ∧ PyData.hasDictAll ds = false := by simpa [PyData.hasDictAll] using n
    cases h with
    | cons h1 h2 =>
      cases r with
      | cons r1 r2 =>
        obtain ⟨as, ra⟩ := reads_of I d _ _ n'.1 h1 r1
        obtain ⟨bs, rb⟩ := readsAll_of I ds _ _ n'.2 h2 r2
        exact ⟨_, .cons ra rb⟩
end
def compound : PyData → Bool
  | .list _ | .tuple _ => true
  | _ => false
def oRepr : Op := lift1 fun d => if compound d = true ∧ d.showable = true ∧ d.hasDict = false ∧ d.depth ≤ 60 ∧ d.shown.length ≤ most then some (.str d.shown) else none
def rRepr (K : PySem.W.Frag) : List V → Hp → VK → Prop := fun xs H Q => ∃ v d, xs = [v] ∧ Rp K H v d ∧ compound d = true ∧ d.showable = true ∧ d.hasDict = false ∧ d.depth ≤ 60 ∧ d.shown.length ≤ sizeLine ∧ Q (.str d.shown) H
theorem call_repr {X : Cx} (gd : X.A.guards = some []) (hu : X.A.units + 65 < cLine) : CallR X (.builtin "repr") (rRepr X.K) := by
  intro pins s σ H xs us Q I r h
  obtain ⟨v, d, rfl, rp, hc, hs, hd, hp, hl, q⟩ := h
  cases r with
  | cons r1 r2 =>
    cases r2
    obtain ⟨as, ra⟩ := reads_of I d v _ hd rp r1
    rename_i u
    obtain ⟨a, rfl⟩ : ∃ a, u = Value.ref a := by
      cases d with
      | list ds => cases rp; cases r1; exact ⟨_, rfl⟩
      | tuple ds => cases rp; cases r1; exact ⟨_, rfl⟩
      | _ => cases hc
    exact repr_of_reads' ra hs (fun z => by rw [hd] at z; cases z) gd (by omega) (fun b o z => z) (fun h' u tk hk => ⟨.str d.shown, H, I.kept (t' := tk) hk, ⟨_, rfl⟩, q⟩) hl
theorem p_repr {K : PySem.W.Frag} : Prim K (rRepr K) oRepr := fun vs ds S H Q r m rp sb e q => by
  match ds, rp, e with
  | [d], rp, e =>
    obtain ⟨v, rfl, hv⟩ := rp_one' rp
    have e' : ((if compound d = true ∧ d.showable = true ∧ d.hasDict = false ∧ d.depth ≤ 60 ∧ d.shown.length ≤ most then some (PyData.str d.shown) else none).map fun r => (r, 0)) = some (r, m) := e
    by_cases hz : compound d = true ∧ d.showable = true ∧ d.hasDict = false ∧ d.depth ≤ 60 ∧ d.shown.length ≤ most
    · rw [if_pos hz] at e'
      cases e'
      exact ⟨v, d, rfl, hv.mn sb, hz.1, hz.2.1, hz.2.2.1, hz.2.2.2.1, Nat.le_trans hz.2.2.2.2 most_le, q _ _ _ _ (Made.refl sb) ⟨rfl, .str _⟩⟩
    · rw [if_neg hz] at e'; cases e'
end PV

/-! PVO: reversed copies, methods that only read. -/
namespace PV
open PySem PySem.Spec PyProof.Rows L2

/-! ### xs[::-1] of a list, of a pair -/
theorem pair_rev {prog : Program} {w : World} {A : Around} {E : Value → Shared → Prop} {s : Shared} {tp sl : Addr} {x y vl vu vs : Value} {Q : Value → Shared → Prop} (pt : IsTup s.heap tp #[x, y]) (ps : s.heap.IsSliceOf sl vl vu vs) (pl : IsPart vl none) (pu : IsPart vu none) (pv : IsPart vs (some (-1)))
    (h : Q (.ref s.heap.objs.size) { s with heap := s.heap.push { cls := .type "tuple", data := .seq #[y, x] } }) : wpAny (model prog w) A (getItem (.ref tp) (.ref sl)) Q E s := by
  obtain ⟨o1, ho1, hc1, hd1⟩ := id ps
  have ts : s.TypeIs (.ref sl) "slice" := ⟨o1, ho1, hc1⟩
  have fits : sizeOk (.seq #[y, x]) := by show 2 ≤ sizeLine; rw [sizeLine_eq]; omega
  unfold getItem
  try with_reducible refine wpAny_holding ?_
  first | refine wpAny_bind (wpAny_pure ?_) | skip
  refine wpAny_bind (wpAny_sequenceKey pt.typeIs (by decide) ?_)
  refine wpAny_bind (wpAny_callSpecial?_slot (name := Str.ofString "__getitem__") pt.typeIs PyProof.Rows.slot_tuple_getitem (wpAny_call_entry PyProof.Rows.slot_tuple_getitem pt.typeIs PyProof.Rows.entry_tuple_getitem ?_ (PyProof.Rows.args_tuple_getitem _ _)))
  show wpAny (model prog w) _ (Builtin.Tuple.tupleItemsOf (.ref tp) >>= _) _ _ s
  refine wpAny_bind (PyProof.Rows.tupleItemsOf_ pt (wpAny_bind (wpAny_typeOf ts ?_)))
  rw [if_pos (by decide)]
  have sa : ∀ {B : Around} {F : Value → Shared → Prop} {R : Int × Int × Nat → Shared → Prop}, R (1, -1, 2) s → wpAny (model prog w) B (Builtin.Slice.sliceApplied (.ref sl) (pure (((#[x, y] : Array Value).size : Nat) : Int))) R F s := by
    intro B F R hR
    unfold Builtin.Slice.sliceApplied Builtin.Slice.sliceFields
    refine wpAny_bind (wpAny_bind (wpAny_field ho1 hd1 (x := vl) rfl (wpAny_bind (wpAny_field ho1 hd1 (x := vu) rfl (wpAny_bind (wpAny_field ho1 hd1 (x := vs) rfl (wpAny_pure ?_)))))))
    refine wpAny_bind (HT.slicePart_ pv ?_)
    show wpAny (model prog w) B (if ((-1 : Int) == 0) = true then _ else _) _ F s
    rw [if_neg (by decide)]
    exact wpAny_bind (HT.slicePart_ pl (wpAny_bind (HT.slicePart_ pu (wpAny_bind (wpAny_pure (wpAny_pure (by with_unfolding_all exact hR)))))))
  refine wpAny_bind (sa ?_)
  first
    | exact wpAny_bind (m := Builtin.Tuple.tupleExact _) (wpAny_newObj_type (wpAny_pure ⟨_, rfl, wpAny_pure h⟩) fits)
    | exact wpAny_bind (m := Builtin.Tuple.tupleExact _) (wpAny_newObj_type (wpAny_bind (wpAny_pure (wpAny_pure ⟨_, rfl, wpAny_pure h⟩))) fits)
    | exact wpAny_bind (wpAny_bind (m := Builtin.Tuple.tupleExact _) (wpAny_newObj_type (wpAny_pure (wpAny_pure ⟨_, rfl, wpAny_pure h⟩)) fits))
    | exact wpAny_bind (wpAny_bind (m := Builtin.Tuple.tupleExact _) (wpAny_newObj_type (wpAny_pure ⟨_, rfl, wpAny_pure h⟩) fits))
def rRevU (K : PySem.W.Frag) : V → Hp → VK → Prop := fun x H Q => (∃ a xs, x = .ref a ∧ SqL K H a xs ∧ ∀ p, H p = none → Q (.ref p) (upd H p (.lst xs.reverse))) ∨
  ∃ a x1 x2, x = .ref a ∧ SqT K H a [x1, x2] ∧ ∀ p, H p = none → Q (.ref p) (upd H p (.tup [x2, x1]))
def tRevU (K : PySem.W.Frag) (te : TE) : TE := fun σ H Q => te σ H fun x H1 => rRevU K x H1 Q
theorem pe_rev2 {X : Cx} {e : Expr} {te : TE} {k : Nat} {p1 p2 p3 pos : Pos} (he : PE X e te) : PE X (.Subscript e (.Slice none none (some (.UnaryOp .USub (.Constant (.int 1) k p1) p2)) p3) pos) (tRevU X.K te) := by
  constructor
  intro pins s σ H Q I h
  apply Subscript_
  refine thn (he.run pins s σ H _ I h) fun v s1 ⟨x, H1, I1, r1, q1⟩ => ?_
  have neg1 : PO X (some (.UnaryOp .USub (.Constant (.int 1) k p1) p2)) (tPart (tUn (rU fun i => .int (-i)) (tC (.int 1)))) := po_some (pe_un un_neg pe_int)
  apply wpAny_Slice
  refine thn (po_none.run pins s1 σ H1 (fun o H2 => o = none ∧ H2 = H1) I1 ⟨rfl, rfl⟩) fun vl s2 ⟨l, H2, I2, pl, el, e2⟩ => ?_
  cases el
  cases e2
  refine thn (po_none.run pins s2 σ H1 (fun o H3 => o = none ∧ H3 = H1) I2 ⟨rfl, rfl⟩) fun vu s3 ⟨u, H3, I3, pu, eu, e3⟩ => ?_
  cases eu
  cases e3
  refine thn (neg1.run pins s3 σ H1 (fun o H4 => o = some (-1) ∧ H4 = H1) I3 ⟨1, rfl, -1, rfl, rfl, rfl⟩) fun vs s4 ⟨o, H4, I4, pv, eo, e4⟩ => ?_
  cases eo
  cases e4
  have J : Inv X pins σ H1 { s4 with heap := s4.heap.push { cls := .type "slice", data := .fields #[vl, vu, vs] } } := I4.kept (t' := s4.toks) fun b ob z => Heap.get?_push_of_some _ z
  have ns : (s4.heap.push { cls := .type "slice", data := .fields #[vl, vu, vs] }).IsSliceOf s4.heap.objs.size vl vu vs := Heap.IsSliceOf.new _ vl vu vs
  show wpAny (model X.prog X.w) X.A (subscriptTail e (.Slice none none (some (.UnaryOp .USub (.Constant (.int 1) k p1) p2)) p3) v (.ref s4.heap.objs.size)) (EP X pins σ Q) X.xe { s4 with heap := s4.heap.push { cls := .type "slice", data := .fields #[vl, vu, vs] } }
  rcases q1 with ⟨a, xs, rfl, hx, q⟩ | ⟨a, x1, x2, rfl, hx, q⟩
  · cases r1
    obtain ⟨its, r, ht, hz⟩ := J.list hx
    have hlen := r.length
    refine tail_any (ops := [.ref a, .ref s4.heap.objs.size]) ht.isList.typeIs (PySem.slot_list_getitem.lookup) ?_ (by with_unfolding_all rfl)
    refine wpAny_getItem_list_slice ht.isList ns pl pu pv (by decide) ?_ (by rw [List.size_toArray]; omega)
    rw [PySem.W.krv_pick]
    refine ⟨.ref _, _, J.laid (t' := s4.toks) (o := .lst xs.reverse) (fun b ob z => Heap.get?_push_of_some _ z) (Nat.le_refl _) ?_, rfl, q _ (J.hok.fresh (Nat.le_refl _))⟩
    exact ⟨by rw [List.length_reverse]; exact hz, _, 0, r.reverse, Heap.get?_push_size _ rfl⟩
  · cases r1
    obtain ⟨its, r, ht, hz⟩ := J.tuple hx
    obtain ⟨u1, u2, rfl, r1, r2⟩ := r.two
    refine tail_any (ops := [.ref a, .ref s4.heap.objs.size]) ht.typeIs (PyProof.Rows.slot_tuple_getitem.lookup) ?_ (by with_unfolding_all rfl)
    refine pair_rev ht ns pl pu pv ?_
    exact ⟨.ref _, _, J.laid (t' := s4.toks) (o := .tup [x2, x1]) (fun b ob z => Heap.get?_push_of_some _ z) (Nat.le_refl _) ⟨by show 2 ≤ sizeLine; rw [sizeLine_eq]; omega, [u2, u1], .cons r2 (.cons r1 .nil), IsTup.new _ _⟩, rfl, q _ (J.hok.fresh (Nat.le_refl _))⟩
def oRev : Op := fun ds => match ds with
  | [.list xs] => some (.list xs.reverse, 1)
  | [.tuple [a, b]] => some (.tuple [b, a], 0)
  | _ => none
theorem p_rev {K : PySem.W.Frag} : Prim K (fun vs H Q => ∀ x, vs = [x] → rRevU K x H Q) oRev := fun vs ds S H Q r m rp sb e q x ev => by
  unfold oRev at e
  split at e
  · cases e
    cases rp_one rp ev with
    | lst p1 p2 => exact .inl ⟨_, _, rfl, .inl (.inl (sb _ _ p1)), fun p hp => q _ _ _ _ (Made.lst sb hp) (Own.newLst p2.reverse)⟩
  · cases e
    cases rp_one rp ev with
    | tup p1 p2 =>
      obtain ⟨x1, x2, rfl, h1, h2⟩ := rp_two' p2
      have M := fun {p : Addr} (hp : H p = none) => Made.tup (vs := [x2, x1]) sb hp
      exact .inr ⟨_, x1, x2, rfl, Same.seqT sb p1, fun p hp => q _ _ _ _ (M hp) ⟨rfl, .tup (.inl (.inl upd_same)) (.cons (h2.mn (M hp).ss) (.cons (h1.mn (M hp).ss) .nil))⟩⟩
  · cases e
theorem ee_rev {X : Cx} {W : WX} {a : Expr} {fa : Ev → Res RV} {k : Nat} {p1 p2 p3 pos : Pos} (ha : EE X W a fa) : EE X W (.Subscript a (.Slice none none (some (.UnaryOp .USub (.Constant (.int 1) k p1) p2)) p3) pos) (f1 oRev fa) :=
  PE.imp (pe_rev2 ha) fun σ H Q q => one_ok p_rev q
end PV

/-! PVP: methods that only read, str(), name op= value. -/
namespace PV
open PySem PySem.Spec PyProof.Rows L2

/-! ### methods that only read -/
def tyOfD (T : String) : PyData → Bool
  | .list _ => T == "list"
  | .str _ => T == "str"
  | _ => false
def fMe (T : String) (op : Op) (f0 : Ev → Res RV) (fs : List (Ev → Res RV)) (e : Ev) : Res RV := (f0 e).bind fun r e1 => match deref e1 r with
  | some d => if tyOfD T d = true then (fArgs fs e1).bind fun rs e2 => use op (r :: rs) e2 else .no
  | none => .no
theorem tyOfD_ok {K : PySem.W.Frag} {H : Hp} {T : String} {v : V} {d : PyData} (h : tyOfD T d = true) (r : Rp K H v d) : tyV K T v H := by
  cases r with
  | lst h1 h2 =>
    have : T = "list" := by simpa [tyOfD] using h
    exact .inl ⟨this, _, .inl (.inl h1)⟩
  | str x =>
    have : T = "str" := by simpa [tyOfD] using h
    exact this
  | _ => cases h
theorem me_go {G : Gx} {W : WX} {σ : L2.St} {H : Hp} {Q : VK} {T : String} {op : Op} {f0 : Ev → Res RV} {fs : List (Ev → Res RV)} {r : V → List V → Hp → VK → Prop} (hp : Prim G.K (fun vs H Q => ∀ x xs, vs = x :: xs → r x xs H Q) op) (q : tR G W (fMe T op f0 fs) σ H Q) :
    tR G W f0 σ H fun x H1 => tyV G.K T x H1 ∧ tArgs G W fs σ H1 fun xs H2 => r x xs H2 Q := by
  obtain ⟨S, e, A, C, q⟩ := q
  refine tR_next C (S0 := S) (A0 := A) (H0 := H) Step.refl0 ?_
  unfold fMe at q
  cases r1 : f0 e with
  | no => rw [r1] at q; exact q
  | exc c e1 => rw [r1] at q; exact q
  | ok rv e1 =>
    rw [r1] at q
    intro v H1 S1 A1 g R1 st1
    have R1' : Cu G S1 H1 σ e1 A1 [⟨rv, v, g⟩] := R1
    have q2 : PostE G W S H σ A Q (match deref e1 rv with | some d => (if tyOfD T d = true then (fArgs fs e1).bind fun rs e2 => use op (rv :: rs) e2 else .no) | none => .no) := q
    cases r2 : deref e1 rv with
    | none => rw [r2] at q2; exact q2.elim
    | some d =>
      rw [r2] at q2
      simp only at q2
      by_cases ht : tyOfD T d = true
      · rw [if_pos ht] at q2
        have rp : RpL G.K (addH S1 H1 (A1 ++ fps [⟨rv, v, g⟩])) [v] [d] := derefs_ok (ts := [⟨rv, v, g⟩]) R1'.sub R1'.slots R1'.tmps (fun a ha => List.mem_append_right _ ha) (fun _ a ha => List.mem_append_left _ ha) (by show derefs e1 [rv] = some [d]; unfold derefs; rw [r2]; rfl)
        refine ⟨tyOfD_ok ht ((rp_one rp rfl).mn (addH_same R1'.sub _)), tArgs_next R1 st1 ?_⟩
        cases r3 : fArgs fs e1 with
        | no => rw [r3] at q2; exact q2
        | exc c e2 => rw [r3] at q2; exact q2
        | ok rs e2 =>
          rw [r3] at q2
          intro us H2 S2 A2 eu R2 st2
          subst eu
          exact use_ok (ts := ⟨rv, v, g⟩ :: us) (R := fun vs H Q => ∀ x xs, vs = x :: xs → r x xs H Q) hp R2 st2 q2 v _ rfl
      · rw [if_neg ht] at q2; exact q2.elim
section
variable {X : Cx} {W : WX} {apos cpos : Pos} {es : List Expr} {fs : List (Ev → Res RV)} {e o : Expr} {name : Str} {T id : String} {r : V → List V → Hp → VK → Prop} {op : Op} {f0 : Ev → Res RV}
theorem ee_me (pa : PlainAttrs T) (slot : Slot T name id) (hty : typeOf (.builtin id) = pure (.type "method_descriptor")) (hm : MtR X id r) (hp : Prim X.K (fun vs H Q => ∀ x xs, vs = x :: xs → r x xs H Q) op) (ho : EE X W o f0) (ha : EA X W (e :: es) fs)
    (hbase : attributeBase o name X.env (eval o X.env) = eval o X.env := by rfl)
    (hfew : ((backTo cpos (starEach (e :: es) X.env)).all (fun x => !x.1) && (backToKw cpos (keywordEach [] X.env)).all (fun x => x.1.isSome)
      && decide ((e :: es).length + ([] : List Keyword).length + (if ([] : List Keyword).isEmpty then 0 else 1) < 30)) = true := by rfl)
    (hline : (apos.endLine == cpos.line) = true := by rfl) (hs : starEach (e :: es) X.env = (false, eval e X.env) :: starEach es X.env := by rfl) (hplain : (backTo cpos (starEach es X.env)).any (·.1) = false := by rfl) :
    EE X W (.Call (.Attribute o name apos) (e :: es) [] cpos) (fMe T op f0 fs) :=
  PE.imp (pe_bm pa slot hty hm ho ha hbase hfew hline hs hplain) fun _ _ _ q => me_go hp q
end
def oIndex : Op := fun ds => match ds with
  | [.list xs, d] => if SeqAt.shaped (.list xs) = true ∧ SeqAt.shaped d = true then (xs.findIdx? fun z => PyData.eqv z d).map fun j => (.int (j : Nat), 0) else none
  | _ => none
theorem p_index {K : PySem.W.Frag} : Prim K (fun vs H Q => ∀ x xs, vs = x :: xs → rIndexD K x xs H Q) oIndex := fun vs ds S H Q r m rp sb e q x xs ev => by
  unfold oIndex at e
  split at e
  · rename_i zs d
    split at e
    · rename_i hs
      obtain ⟨v1, v2, rfl, h1, h2⟩ := rp_two' rp
      cases ev
      cases r2 : zs.findIdx? fun z => PyData.eqv z d with
      | none => rw [r2] at e; cases e
      | some j =>
        rw [r2] at e
        cases e
        obtain ⟨hj, hp, hno⟩ := List.findIdx?_eq_some_iff_getElem.mp r2
        have hd1 := Rp.dp (.list zs) _ (SeqAt.canLay_of_shaped hs.1) (h1.mn sb)
        have hd2 := Rp.dp d _ (SeqAt.canLay_of_shaped hs.2) (h2.mn sb)
        cases h1 with
        | lst p1 p2 =>
          refine ⟨_, _, d, zs, j, zs[j], rfl, rfl, hd1, hd2, hs.1, hs.2, List.getElem?_eq_getElem hj, hp, fun m z' hm hz => ?_, q _ _ _ _ (Made.refl sb) ⟨rfl, .int _⟩⟩
          obtain ⟨hl, rfl⟩ := List.getElem?_eq_some_iff.mp hz
          simpa using hno m hm
    · cases e
  · cases e
def oCount : Op := fun ds => match ds with
  | [.list xs, .int k] => (intsOf xs).map fun ns => (.int ((ns.count k : Nat) : Int), 0)
  | _ => none
theorem p_count {K : PySem.W.Frag} : Prim K (fun vs H Q => ∀ x xs, vs = x :: xs → rCntI K x xs H Q) oCount := fun vs ds S H Q r m rp sb e q x xs ev => by
  unfold oCount at e
  split at e
  · rename_i zs k
    cases r2 : intsOf zs with
    | none => rw [r2] at e; cases e
    | some ns =>
      rw [r2] at e
      cases e
      obtain ⟨v1, v2, rfl, h1, h2⟩ := rp_two' rp
      cases ev
      cases h2
      cases h1 with
      | lst p1 p2 =>
        rw [intsOf_ok r2] at p2
        have ev := RpL.ints ns p2
        subst ev
        exact ⟨_, ns, k, rfl, rfl, .inl (.inl (sb _ _ p1)), q _ _ _ _ (Made.refl sb) ⟨rfl, .int _⟩⟩
  · cases e
/-! ### str() -/
def oStr : Op := fun ds => match ds with
  | [.int i] => if i.natAbs.log2 < 1920 then some (.str (toString i), 0) else none
  | [.str x] => some (.str x, 0)
  | _ => none
def rStrU : List V → Hp → VK → Prop := fun xs H Q => (∃ i : Int, xs = [.int i] ∧ i.natAbs.log2 < 1920 ∧ Q (.str (toString i)) H) ∨ ∃ a, xs = [.str a] ∧ Q (.str a) H
theorem call_strU {X : Cx} : CallR X (.type "str") rStrU := CallR.or call_str_int SkE.call_str_str
theorem p_str {K : PySem.W.Frag} : Prim K rStrU oStr := fun vs ds S H Q r m rp sb e q => by
  unfold oStr at e
  split at e
  · split at e
    · rename_i hz
      cases e
      obtain ⟨x, rfl, h⟩ := rp_one' rp
      cases h
      exact .inl ⟨_, rfl, hz, q _ _ _ _ (Made.refl sb) ⟨rfl, .str _⟩⟩
    · cases e
  · cases e
    obtain ⟨x, rfl, h⟩ := rp_one' rp
    cases h
    exact .inr ⟨_, rfl, q _ _ _ _ (Made.refl sb) ⟨rfl, .str _⟩⟩
  · cases e
end PV

/-! PVQ: empty dict displays. -/
namespace PV
open PySem PySem.Spec PyProof.Rows L2
def fDic0 (e : Ev) : Res RV := .ok (.val (.dict []) 1) e
theorem Cu.newDic {G : Gx} {S H : Hp} {σ : L2.St} {e : Ev} {A : List Addr} {p : Addr} (R : Cu G S H σ e A []) (hp : H p = none) :
    Cu G S (upd H p (.dK [])) σ e A [⟨.val (.dict []) 1, .ref p, [p]⟩] ∧ Step S A H S (A ++ [p]) (upd H p (.dK [])) := by
  have nA : A.Nodup := nodup_nil.mp R.nod
  have pS : S p = none := by
    cases z : S p with
    | none => rfl
    | some o => rw [R.sub p o z] at hp; cases hp
  have pA : p ∉ A := fun z => R.trk (List.mem_append_left _ z) hp
  have sm : Same H (upd H p (.dK [])) := fun b o z => by rw [upd_ne (ne_of_none z hp)]; exact z
  constructor
  · refine ⟨R.sub.trans sm, ?_, ?_, R.slots.keep (Same.refl S) fun b _ o z => sm b o z, ?_⟩
    · rw [fps_one]
      refine nodup_app.mpr ⟨nA, List.nodup_cons.mpr ⟨List.not_mem_nil, List.nodup_nil⟩, fun a ha z => ?_⟩
      rw [List.mem_singleton] at z
      exact pA (by rw [← z]; exact ha)
    · intro a ha
      rw [fps_one] at ha
      rcases List.mem_append.mp ha with z | z
      · exact R.off a (List.mem_append_left _ z)
      · rw [List.mem_singleton] at z
        rw [z]; exact pS
    · intro t ht
      rw [List.mem_singleton] at ht
      subst ht
      exact .inr (.inl ⟨p, [], [], [], rfl, rfl, upd_same, rfl, .nil⟩)
  · refine ⟨fun b o z _ => sm b o z, fun b z => ?_, Same.refl S, fun b o z => .inl z, fun a ha => ?_⟩
    · cases y : H b with
      | none => exact absurd y z
      | some u => rw [sm b u y]; exact fun w => nomatch w
    · rcases List.mem_append.mp ha with z | z
      · exact .inl z
      · rw [List.mem_singleton] at z
        rw [z]; exact .inr hp
theorem ee_dic0 {X : Cx} {W : WX} {pos : Pos} : EE X W (.Dict [] [] pos) fDic0 :=
  PE.imp pe_dnewK fun σ H Q q => by
    obtain ⟨S, e, A, C, q⟩ := q
    intro p hp
    obtain ⟨R, st⟩ := C.newDic hp
    exact q _ _ _ _ _ R st
end PV

/-! PVR: repr of any data; x == []; dict(pairs). -/
namespace PV
open PySem PySem.Spec PyProof.Rows L2

section
variable {X : Cx} {pins : List (Addr × Obj)} {σ : L2.St} {H : Hp} {s : Shared}
/-- what repr needs of a value that stands for data -/
def Shw (X : Cx) (s : Shared) (u : Value) (d : PyData) : Prop :=
  (∃ as, Reads s.heap u d as) ∧ ∃ bs, ReadAtMost s.heap d.depth bs ∧ ReprK X.prog X.w bs s.heap d.depth u d.shown
def ShwAll (X : Cx) (s : Shared) (us : List Value) (ds : List PyData) : Prop :=
  (∃ as, ReadsAll s.heap us ds as) ∧ ∃ bs, ReadAtMost s.heap (PyData.depthAll ds) bs ∧ ReprAllK X.prog X.w bs s.heap (PyData.depthAll ds) us (PyData.shownAll ds)
theorem shwNil : ShwAll X s [] [] := ⟨⟨_, .nil⟩, [], (fun _ h => nomatch h), by simp only [PyData.shownAll]; exact .nil⟩
theorem shwCons {u : Value} {d : PyData} {us : List Value} {ds : List PyData} (h : Shw X s u d) (t : ShwAll X s us ds) : ShwAll X s (u :: us) (d :: ds) := by
  obtain ⟨⟨as, ra⟩, b1, hb1, k1⟩ := h
  obtain ⟨⟨cs, rc⟩, b2, hb2, k2⟩ := t
  refine ⟨⟨_, .cons ra rc⟩, b1 ++ b2, fun b hm => ?_, ?_⟩
  · simp only [PyData.depthAll]
    rcases List.mem_append.mp hm with z | z
    · obtain ⟨x, ys, r, hl⟩ := hb1 b z
      exact ⟨x, ys, r, by omega⟩
    · obtain ⟨x, ys, r, hl⟩ := hb2 b z
      exact ⟨x, ys, r, by omega⟩
  · simp only [PyData.depthAll, PyData.shownAll]
    refine .cons ((k1.more fun b hb => ?_).level_le (by omega)) (k2.more_le (fun b hb => ?_) (by omega))
    · exact List.mem_append_left _ hb
    · exact List.mem_append_right _ hb
theorem shw_int (i : Int) (t : Tok) (h : i.natAbs.log2 < 1920) : Shw X s (.int i t) (.int i) :=
  ⟨⟨_, .int i t⟩, [], (fun _ h => nomatch h), by simp only [PyData.shown]; exact ReprK.of_is (ReprIs.int t h) _ _ _⟩
theorem shw_str (x : Str) (t : Tok) (h : (reprText x).length ≤ sizeLine) : Shw X s (.str x t) (.str x) :=
  ⟨⟨_, .str x t⟩, [], (fun _ h => nomatch h), by simp only [PyData.shown]; exact ReprK.of_is (ReprIs.str x t h) _ _ _⟩

/-- a list, a tuple, a dict of shown things: shown, and by a call -/
structure ShwR (X : Cx) (s : Shared) (a : Addr) (d : PyData) : Prop where
  shw : Shw X s (.ref a) d
  call : ∀ (A : Around) (E : Value → Shared → Prop) (Q : Value → Shared → Prop), A.guards = some [] → A.units + (d.depth + 1) < cLine →
    (∀ h' u tk, (∀ b o, s.heap.get? b = some o → h'.get? b = some o) → Q (.str d.shown u) { s with heap := h', toks := tk }) → wpAny (model X.prog X.w) A (call (.builtin "repr") [.ref a]) Q E s
theorem shw_list {a : Addr} {o : Obj} {vs : List Value} {n : Nat} {xs : List PyData} (h1 : s.heap.get? a = some o) (h2 : o.cls = .type "list") (h3 : o.data = .seq vs.toArray n) (h4 : ShwAll X s vs xs) (hz : (PyData.shown (.list xs)).length ≤ sizeLine) : ShwR X s a (.list xs) := by
  obtain ⟨⟨as, ra⟩, bs, hb, hk⟩ := h4
  have rr : Reads s.heap (.ref a) (.list xs) _ := Reads.list h1 h2 h3 (by simpa using ra)
  have hna : a ∉ bs := not_mem_of_deeper rr (n := PyData.depthAll xs) (by simp only [PyData.depth]; omega) hb
  have hz1 : (listText (PyData.shownAll xs)).length ≤ sizeLine := by simpa only [PyData.shown] using hz
  have refl : ∀ b o, s.heap.get? b = some o → s.heap.get? b = some o := fun _ _ e => e
  cases vs with
  | nil =>
    cases ra
    refine ⟨⟨⟨_, rr⟩, a :: bs, ReadAtMost.cons rr (by simp only [PyData.depth]; omega) hb, ?_⟩, fun A E Q hg hu hQ => ?_⟩
    · simp only [PyData.depth, PyData.shown, PyData.shownAll, listText_nil]
      exact ReprK.listEmpty h1 h2 h3
    · simp only [PyData.shown, PyData.shownAll, listText_nil] at hQ
      simp only [PyData.depth] at hu
      have hT : s.TypeIs (.ref a) "list" := ⟨o, h1, h2⟩
      exact call_repr_slot (by omega) hT F.slot_list_repr.toG (call_list_repr_empty hT h1 h3 ⟨_, _, rfl, hQ s.heap _ _ refl⟩)
  | cons x l =>
    have itm : ∀ (i : Nat) (y : Value), (x :: l).toArray[i]? = some y → ∃ t, (PyData.shownAll xs)[i]? = some t ∧ ReprK X.prog X.w bs s.heap (PyData.depthAll xs) y t := fun i y e => hk.item i y (by simpa using e)
    refine ⟨⟨⟨_, rr⟩, a :: bs, ReadAtMost.cons rr (by simp only [PyData.depth]; omega) hb, ?_⟩, fun A E Q hg hu hQ => ?_⟩
    · simp only [PyData.depth, PyData.shown]
      exact ReprK.list h1 h2 h3 hna (by simpa using hk.length_eq) itm
    · simp only [PyData.shown] at hQ
      simp only [PyData.depth] at hu
      refine call_repr_slot (by omega) ⟨o, h1, h2⟩ F.slot_list_repr.toG (call_list_reprK h1 h2 h3 hna (by simpa using hk.length_eq) itm (A := A.in1) hg (fun b _ => Clear.nil b) ?_ refl (fun h' u tk k => ⟨_, _, rfl, hQ h' u tk k⟩) hz1)
      show A.units + 1 + (PyData.depthAll xs + 1) < cLine
      omega
theorem shw_tuple {a : Addr} {o : Obj} {vs : List Value} {n : Nat} {xs : List PyData} (h1 : s.heap.get? a = some o) (h2 : o.cls = .type "tuple") (h3 : o.data = .seq vs.toArray n) (h4 : ShwAll X s vs xs) (hz : (PyData.shown (.tuple xs)).length ≤ sizeLine) : ShwR X s a (.tuple xs) := by
  obtain ⟨⟨as, ra⟩, bs, hb, hk⟩ := h4
  have rr : Reads s.heap (.ref a) (.tuple xs) _ := Reads.tuple h1 h2 h3 (by simpa using ra)
  have hna : a ∉ bs := not_mem_of_deeper rr (n := PyData.depthAll xs) (by simp only [PyData.depth]; omega) hb
  have hz1 : (tupleText (PyData.shownAll xs)).length ≤ sizeLine := by simpa only [PyData.shown] using hz
  have refl : ∀ b o, s.heap.get? b = some o → s.heap.get? b = some o := fun _ _ e => e
  have hk' : ReprAllK X.prog X.w bs s.heap (PyData.depthAll xs) vs.toArray.toList (PyData.shownAll xs) := by simpa using hk
  refine ⟨⟨⟨_, rr⟩, a :: bs, ReadAtMost.cons rr (by simp only [PyData.depth]; omega) hb, ?_⟩, fun A E Q hg hu hQ => ?_⟩
  · simp only [PyData.depth, PyData.shown]
    exact ReprK.tuple h1 h2 h3 hna hk'
  · simp only [PyData.shown] at hQ
    simp only [PyData.depth] at hu
    refine call_repr_slot (by omega) ⟨o, h1, h2⟩ F.slot_tuple_repr (call_tuple_reprK h1 h2 h3 hna hk' (A := A.in1) hg (fun b _ => Clear.nil b) ?_ refl (fun h' u tk k => ⟨_, _, rfl, hQ h' u tk k⟩) hz1)
    show A.units + 1 + (PyData.depthAll xs + 1) < cLine
    omega
theorem shw_dict {a : Addr} {o : Obj} {es : Array DictEntry} {n : Nat} {kvs : List (PyData × PyData)} (h1 : s.heap.get? a = some o) (h2 : o.cls = .type "dict") (h3 : o.data = .dict es n) (hsys : (a == sysModules) = false)
    (hk : ShwAll X s (es.toList.map (·.key)) (kvs.map (·.1))) (hv : ShwAll X s (es.toList.map (·.val)) (kvs.map (·.2))) (hz : (PyData.shown (.dict kvs)).length ≤ sizeLine) : ShwR X s a (.dict kvs) := by
  obtain ⟨⟨as, ra⟩, b1, hb1, k1⟩ := hk
  obtain ⟨⟨cs, rc⟩, b2, hb2, k2⟩ := hv
  have rr : Reads s.heap (.ref a) (.dict kvs) _ := Reads.dict h1 h2 h3 ra rc
  have hb : ReadAtMost s.heap (PyData.depthKv kvs) (b1 ++ b2) := (hb1.mono (PyData.depthAll_keys_le kvs)).append (hb2.mono (PyData.depthAll_vals_le kvs))
  have hna : a ∉ b1 ++ b2 := not_mem_of_deeper rr (n := PyData.depthKv kvs) (by simp only [PyData.depth]; omega) hb
  have hz1 : (dictText (PyData.shownKv kvs)).length ≤ sizeLine := by simpa only [PyData.shown] using hz
  have refl : ∀ b o, s.heap.get? b = some o → s.heap.get? b = some o := fun _ _ e => e
  have two : ReprEntriesK X.prog X.w (b1 ++ b2) s.heap (PyData.depthKv kvs) es.toList (List.zipWith (fun k v : Str => k ++ ": " ++ v) (PyData.shownAll (kvs.map (·.1))) (PyData.shownAll (kvs.map (·.2)))) := by
    refine ReprEntriesK.of_two es.toList _ _ (k1.more_le (fun b z => ?_) (PyData.depthAll_keys_le kvs)) (k2.more_le (fun b z => ?_) (PyData.depthAll_vals_le kvs))
    · exact List.mem_append_left _ z
    · exact List.mem_append_right _ z
  rw [← PyData.shownKv_eq] at two
  refine ⟨⟨⟨_, rr⟩, a :: (b1 ++ b2), ReadAtMost.cons rr (by simp only [PyData.depth]; omega) hb, ?_⟩, fun A E Q hg hu hQ => ?_⟩
  · simp only [PyData.depth, PyData.shown]
    exact ReprK.dict h1 h2 h3 hsys hna two
  · simp only [PyData.shown] at hQ
    simp only [PyData.depth] at hu
    refine call_repr_slot (by omega) ⟨o, h1, h2⟩ F.slot_dict_repr (call_dict_reprK h1 h2 h3 hsys hna two (A := A.in1) hg (fun b _ => Clear.nil b) ?_ refl (fun h' u tk k => ⟨_, _, rfl, hQ h' u tk k⟩) hz1)
    show A.units + 1 + (PyData.depthKv kvs + 1) < cLine
    omega

theorem shwKeys : ∀ {es : List DictEntry} {vs : List (Key × Value)} {kvs : List (Key × V)} {ds : List (PyData × PyData)}, Pairs (mixKind X.prog X.w) es vs → KV kvs vs → RpK X.K H kvs ds →
    PyData.showableKv ds = true → (∀ p ∈ PyData.shownKv ds, p.length ≤ sizeLine) → ShwAll X s (es.map (·.key)) (ds.map (·.1))
  | [], _, _, _, .nil, .nil, .nil, _, _ => shwNil
  | e :: es, kv :: vs, (k, v) :: kvs, (_, d) :: ds, .cons h1 h2 t, .cons r rt, .cons a b, hs, hz => by
    have hs' : ((kD k).showable = true ∧ d.showable = true) ∧ PyData.showableKv ds = true := by simpa [PyData.showableKv] using hs
    have ih := shwKeys t rt b hs'.2 fun p hp => hz p (by simp only [PyData.shownKv]; exact List.mem_cons_of_mem _ hp)
    have hz0 : (PyData.shown (kD k) ++ ": " ++ PyData.shown d).length ≤ sizeLine := hz _ (by simp only [PyData.shownKv]; exact List.mem_cons_self)
    have ek : kv.1 = k := r.1.symm
    have h1' : keyIs k e.key = true := by rw [← ek]; exact h1
    refine shwCons ?_ ih
    rcases keyIs_shape h1' with ⟨i, t, z1, z2⟩ | ⟨x, t, z1, z2⟩
    · subst z1
      show Shw X s e.key _
      rw [z2]
      exact shw_int i t (by simpa [PyData.showable, kD] using hs'.1.1)
    · subst z1
      show Shw X s e.key _
      rw [z2]
      refine shw_str x t ?_
      have : (PyData.shown (kD (.inr x))).length ≤ (PyData.shown (kD (.inr x)) ++ ": " ++ PyData.shown d).length := by
        rw [Str.length_append, Str.length_append]; omega
      simpa only [kD, PyData.shown] using Nat.le_trans this hz0
mutual
theorem shw_of (I : Inv X pins σ H s) : ∀ (d : PyData) (v : V) (u : Value), d.showable = true → d.shown.length ≤ sizeLine → Rp X.K H v d → RelV v u → Shw X s u d
  | .none, _, _, _, _, h, r => by
    cases h; cases r
    exact ⟨⟨_, .none⟩, [], (fun _ h => nomatch h), by simp only [PyData.shown]; exact ReprK.of_is ReprIs.none _ _ _⟩
  | .bool b, _, _, _, _, h, r => by
    cases h; cases r
    exact ⟨⟨_, .bool b⟩, [], (fun _ h => nomatch h), by simp only [PyData.shown]; exact ReprK.of_is (ReprIs.bool b) _ _ _⟩
  | .int i, _, _, hs, _, h, r => by
    cases h; obtain ⟨t, rfl⟩ := r
    exact shw_int i t (by simpa [PyData.showable] using hs)
  | .str x, _, _, _, hz, h, r => by
    cases h; obtain ⟨t, rfl⟩ := r
    exact shw_str x t (by simpa only [PyData.shown] using hz)
  | .list xs, v, u, hs, hz, h, r => by
    obtain ⟨a, rfl⟩ : ∃ a, u = Value.ref a := by cases h; cases r; exact ⟨_, rfl⟩
    exact (shwR_of I (.list xs) v a rfl hs hz h r).shw
  | .tuple xs, v, u, hs, hz, h, r => by
    obtain ⟨a, rfl⟩ : ∃ a, u = Value.ref a := by cases h; cases r; exact ⟨_, rfl⟩
    exact (shwR_of I (.tuple xs) v a rfl hs hz h r).shw
  | .dict xs, v, u, hs, hz, h, r => by
    obtain ⟨a, rfl⟩ : ∃ a, u = Value.ref a := by cases h; cases r; exact ⟨_, rfl⟩
    exact (shwR_of I (.dict xs) v a rfl hs hz h r).shw
theorem shwR_of (I : Inv X pins σ H s) : ∀ (d : PyData) (v : V) (a : Addr), atom d = false → d.showable = true → d.shown.length ≤ sizeLine → Rp X.K H v d → RelV v (.ref a) → ShwR X s a d
  | .none, _, _, n, _, _, _, _ => by cases n
  | .bool _, _, _, n, _, _, _, _ => by cases n
  | .int _, _, _, n, _, _, _, _ => by cases n
  | .str _, _, _, n, _, _, _, _ => by cases n
  | .list xs, _, a, _, hs, hz, h, r => by
    cases h with
    | lst h1 h2 =>
      cases r
      obtain ⟨its, rv, ⟨o, m, ho, hc, _, hd⟩, _⟩ := I.list (.inl (.inl h1))
      have hz1 : (listText (PyData.shownAll xs)).length ≤ sizeLine := by simpa only [PyData.shown] using hz
      exact shw_list ho hc hd (shwAll_of I xs _ its (by simpa [PyData.showable] using hs) (fun t ht => Nat.le_trans (listText_mem_le ht) hz1) h2 rv) hz
  | .tuple xs, _, a, _, hs, hz, h, r => by
    cases h with
    | tup h1 h2 =>
      cases r
      obtain ⟨its, rv, ⟨o, ho, hc, m, hd⟩, _⟩ := I.tuple h1
      have hz1 : (tupleText (PyData.shownAll xs)).length ≤ sizeLine := by simpa only [PyData.shown] using hz
      exact shw_tuple ho hc hd (shwAll_of I xs _ its (by simpa [PyData.showable] using hs) (fun t ht => Nat.le_trans (tupleText_mem_le ht) hz1) h2 rv) hz
  | .dict xs, _, a, _, hs, hz, h, r => by
    cases h with
    | dic h1 h2 =>
      cases r
      obtain ⟨_, lo, vs, rk, o, es, ep, ho, hx, hd, _, hp, _⟩ := dk_rd I.hok h1
      have hz1 : (dictText (PyData.shownKv xs)).length ≤ sizeLine := by simpa only [PyData.shown] using hz
      have hs1 : PyData.showableKv xs = true := by simpa [PyData.showable] using hs
      have hl : ∀ p ∈ PyData.shownKv xs, p.length ≤ sizeLine := fun p hp => Nat.le_trans (dictText_mem_le hp) hz1
      exact shw_dict ho hx.1 hd lo (shwKeys hp rk h2 hs1 hl) (shwVals I xs _ _ _ hp rk h2 hs1 hl) hz
theorem shwAll_of (I : Inv X pins σ H s) : ∀ (ds : List PyData) (vs : List V) (us : List Value), PyData.showableAll ds = true → (∀ t ∈ PyData.shownAll ds, t.length ≤ sizeLine) → RpL X.K H vs ds → Vals vs us → ShwAll X s us ds
  | [], _, _, _, _, h, r => by cases h; cases r; exact shwNil
  | d :: ds, _, _, hs, hz, h, r => by
    have hs' : d.showable = true ∧ PyData.showableAll ds = true := by simpa [PyData.showableAll] using hs
    cases h with
    | cons h1 h2 =>
      cases r with
      | cons r1 r2 =>
        refine shwCons (shw_of I d _ _ hs'.1 (hz _ (by simp only [PyData.shownAll]; exact List.mem_cons_self)) h1 r1) (shwAll_of I ds _ _ hs'.2 (fun t ht => hz t ?_) h2 r2)
        simp only [PyData.shownAll]
        exact List.mem_cons_of_mem _ ht
theorem shwVals (I : Inv X pins σ H s) : ∀ (ds : List (PyData × PyData)) (kvs : List (Key × V)) (vs : List (Key × Value)) (es : List DictEntry), Pairs (mixKind X.prog X.w) es vs → KV kvs vs → RpK X.K H kvs ds →
    PyData.showableKv ds = true → (∀ p ∈ PyData.shownKv ds, p.length ≤ sizeLine) → ShwAll X s (es.map (·.val)) (ds.map (·.2))
  | [], _, _, _, h, r, k, _, _ => by
    cases k; cases r; cases h
    exact shwNil
  | (kd, d) :: ds, kvs, vs, es, h, r, k, hs, hz => by
    have hs' : (kd.showable = true ∧ d.showable = true) ∧ PyData.showableKv ds = true := by simpa [PyData.showableKv] using hs
    have hz0 : (PyData.shown kd ++ ": " ++ PyData.shown d).length ≤ sizeLine := hz _ (by simp only [PyData.shownKv]; exact List.mem_cons_self)
    have hzd : (PyData.shown d).length ≤ sizeLine := by
      refine Nat.le_trans ?_ hz0
      rw [Str.length_append, Str.length_append]; omega
    cases k with
    | cons a b =>
      cases r with
      | cons r rt =>
        cases h with
        | cons h1 h2 t =>
          refine shwCons (shw_of I d _ _ hs'.1.2 hzd a (by show RelV _ (DictEntry.val _); rw [h2]; exact r.2)) (shwVals I ds _ _ _ t rt b hs'.2 fun p hp => hz p ?_)
          simp only [PyData.shownKv]
          exact List.mem_cons_of_mem _ hp
end
end
def oRepr2 : Op := lift1 fun d => if d.showable = true ∧ d.depth ≤ 60 ∧ d.shown.length ≤ most then some (.str d.shown) else none
def rRepr2 (K : PySem.W.Frag) : List V → Hp → VK → Prop := fun xs H Q => ∃ v d, xs = [v] ∧ Rp K H v d ∧ d.showable = true ∧ d.depth ≤ 60 ∧ d.shown.length ≤ sizeLine ∧ Q (.str d.shown) H
theorem call_repr2 {X : Cx} (gd : X.A.guards = some []) (hu : X.A.units + 65 < cLine) : CallR X (.builtin "repr") (rRepr2 X.K) := by
  intro pins s σ H xs us Q I r h
  obtain ⟨v, d, rfl, rp, hs, hp, hl, q⟩ := h
  cases r with
  | cons r1 r2 =>
    cases r2
    rename_i u
    have hl' := hl
    cases d with
    | none => cases rp; cases r1; simp only [PyData.shown] at q; exact P.repr_of_none ⟨.str _, H, I.kept (t' := _) (fun _ _ e => e), ⟨_, rfl⟩, q⟩
    | bool b => cases rp; cases r1; simp only [PyData.shown] at q; exact P.repr_of_bool ⟨.str _, H, I.kept (t' := _) (fun _ _ e => e), ⟨_, rfl⟩, q⟩
    | int i => cases rp; obtain ⟨t, rfl⟩ := r1; simp only [PyData.shown] at q; exact P.repr_of_int (by simpa [PyData.showable] using hs) ⟨.str _, H, I.kept (t' := _) (fun _ _ e => e), ⟨_, rfl⟩, q⟩
    | str x => cases rp; obtain ⟨t, rfl⟩ := r1; simp only [PyData.shown] at q hl; exact P.repr_of_str ⟨.str _, H, I.kept (t' := _) (fun _ _ e => e), ⟨_, rfl⟩, q⟩ hl
    | list ds =>
      obtain ⟨a, rfl⟩ : ∃ a, u = Value.ref a := by cases rp; cases r1; exact ⟨_, rfl⟩
      exact (shwR_of I _ v a rfl hs hl rp r1).call X.A _ _ gd (by omega) fun h' u tk hk => ⟨.str _, H, I.kept (t' := tk) hk, ⟨_, rfl⟩, q⟩
    | tuple ds =>
      obtain ⟨a, rfl⟩ : ∃ a, u = Value.ref a := by cases rp; cases r1; exact ⟨_, rfl⟩
      exact (shwR_of I _ v a rfl hs hl rp r1).call X.A _ _ gd (by omega) fun h' u tk hk => ⟨.str _, H, I.kept (t' := tk) hk, ⟨_, rfl⟩, q⟩
    | dict ds =>
      obtain ⟨a, rfl⟩ : ∃ a, u = Value.ref a := by cases rp; cases r1; exact ⟨_, rfl⟩
      exact (shwR_of I _ v a rfl hs hl rp r1).call X.A _ _ gd (by omega) fun h' u tk hk => ⟨.str _, H, I.kept (t' := tk) hk, ⟨_, rfl⟩, q⟩
theorem p_repr2 {K : PySem.W.Frag} : Prim K (rRepr2 K) oRepr2 := fun vs ds S H Q r m rp sb e q => by
  match ds, rp, e with
  | [d], rp, e =>
    obtain ⟨v, rfl, hv⟩ := rp_one' rp
    have e' : ((if d.showable = true ∧ d.depth ≤ 60 ∧ d.shown.length ≤ most then some (PyData.str d.shown) else none).map fun r => (r, 0)) = some (r, m) := e
    by_cases hz : d.showable = true ∧ d.depth ≤ 60 ∧ d.shown.length ≤ most
    · rw [if_pos hz] at e'
      cases e'
      exact ⟨v, d, rfl, hv.mn sb, hz.1, hz.2.1, Nat.le_trans hz.2.2 most_le, q _ _ _ _ (Made.refl sb) ⟨rfl, .str _⟩⟩
    · rw [if_neg hz] at e'; cases e'
end PV

/-! PVS: dicts: dict(pairs), in, d[k], d.get(k, x), d[k] = v, len. -/
namespace PV
open PySem PySem.Spec PyProof.Rows L2

/-! ### the data of dicts -/
def keq : Key → PyData → Bool
  | .inl i, .int j => decide (j = i)
  | .inr x, .str y => decide (y = x)
  | _, _ => false
def keyOf : PyData → Option Key
  | .int i => some (.inl i)
  | .str x => some (.inr x)
  | _ => none
def dput (l : List (PyData × PyData)) (k : Key) (v : PyData) : List (PyData × PyData) :=
  if (l.any fun p => keq k p.1) = true then l.map (fun p => if keq k p.1 = true then (p.1, v) else p) else l ++ [(kD k, v)]
def dget (l : List (PyData × PyData)) (k : Key) : Option PyData := (l.find? fun p => keq k p.1).map (·.2)
theorem keq_kD (k k' : Key) : keq k (kD k') = decide (k' = k) := by
  cases k <;> cases k' <;> simp [keq, kD]
theorem keyOf_kD {d : PyData} {k : Key} (h : keyOf d = some k) : d = kD k := by
  cases d <;> simp [keyOf] at h <;> subst h <;> rfl
section
variable {K : PySem.W.Frag} {S : Hp}
theorem RpK.any : ∀ {kvs : List (Key × V)} {ds : List (PyData × PyData)} (k : Key), RpK K S kvs ds → (kvs.any fun kv => decide (kv.1 = k)) = ds.any fun p => keq k p.1
  | _, _, _, .nil => rfl
  | _, _, k, .cons _ t => by rw [List.any_cons, List.any_cons, RpK.any k t, keq_kD]
theorem RpK.app : ∀ {kvs kws : List (Key × V)} {ds es : List (PyData × PyData)}, RpK K S kvs ds → RpK K S kws es → RpK K S (kvs ++ kws) (ds ++ es)
  | _, _, _, _, .nil, h => h
  | _, _, _, _, .cons a b, h => .cons a (RpK.app b h)
theorem RpK.mapPut {v : V} {d : PyData} (hv : Rp K S v d) (k : Key) : ∀ {kvs : List (Key × V)} {ds : List (PyData × PyData)}, RpK K S kvs ds →
    RpK K S (kvs.map fun kv => if kv.1 = k then (kv.1, v) else kv) (ds.map fun p => if keq k p.1 = true then (p.1, d) else p)
  | _, _, .nil => .nil
  | (k', _) :: _, _, .cons a b => by
    rw [List.map_cons, List.map_cons]
    have ih := RpK.mapPut hv k b
    by_cases h : k' = k
    · rw [if_pos h, if_pos (by rw [keq_kD]; simpa using h)]
      exact .cons hv ih
    · rw [if_neg h, if_neg (by rw [keq_kD]; simpa using h)]
      exact .cons a ih
theorem RpK.put {v : V} {d : PyData} (hv : Rp K S v d) (k : Key) {kvs : List (Key × V)} {ds : List (PyData × PyData)} (h : RpK K S kvs ds) : RpK K S (putK kvs k v) (dput ds k d) := by
  unfold putK dput
  rw [h.any k]
  split
  · exact h.mapPut hv k
  · exact h.app (.cons hv .nil)
theorem RpK.find : ∀ {kvs : List (Key × V)} {ds : List (PyData × PyData)} (k : Key), RpK K S kvs ds → (∀ d, dget ds k = some d → ∃ v, valV kvs k = some v ∧ Rp K S v d) ∧ (dget ds k = none → valV kvs k = none)
  | _, _, _, .nil => ⟨fun _ h => (by cases h), fun _ => rfl⟩
  | (k', v) :: kvs, _, k, .cons (d := d) a b => by
    have ih := RpK.find k b
    unfold dget valV at ih ⊢
    rw [List.find?_cons, List.find?_cons, keq_kD]
    by_cases h : k' = k
    · simp only [h, decide_true]
      refine ⟨fun d' e => ?_, fun e => nomatch e⟩
      cases e
      exact ⟨_, rfl, a⟩
    · simp only [h, decide_false]
      exact ih
theorem RpK.length : ∀ {kvs : List (Key × V)} {ds : List (PyData × PyData)}, RpK K S kvs ds → kvs.length = ds.length
  | _, _, .nil => rfl
  | _, _, .cons _ b => congrArg (· + 1) b.length
end

/-! ### dict(pairs) -/
def pairsOf : List PyData → Option (List (Key × PyData))
  | [] => some []
  | .tuple [k, v] :: r => match keyOf k with
    | some k => (pairsOf r).map ((k, v) :: ·)
    | none => none
  | _ :: _ => none
def dmerge (l : List (Key × PyData)) (acc : List (PyData × PyData)) : List (PyData × PyData) := l.foldl (fun acc kv => dput acc kv.1 kv.2) acc
def oDict : Op := fun ds => match ds with
  | [.list ps] => (pairsOf ps).map fun l => (.dict (dmerge l []), 1)
  | _ => none
def rDictP (K : PySem.W.Frag) : List V → Hp → VK → Prop := fun xs H Q => ∃ (a : Addr) (ps : List Addr) (kvs : List (Key × V)), xs = [.ref a] ∧ SqL K H a (ps.map V.ref) ∧ Paired (fun p kv => SqT K H p [kV kv.1, kv.2]) ps kvs ∧
    ∀ p, H p = none → Q (.ref p) (upd H p (.dK (mergeK [] kvs)))
theorem call_dictD {X : Cx} (hc : X.calm = true) : CallR X (.type "dict") (rDictP X.K) := call_dictP hc
theorem rp_key {K : PySem.W.Frag} {S : Hp} {x : V} {k : Key} (h : Rp K S x (kD k)) : x = kV k := by
  cases k <;> cases h <;> rfl
theorem pairs_rp {K : PySem.W.Frag} {S : Hp} : ∀ {vs : List V} {ps : List PyData} {l : List (Key × PyData)}, RpL K S vs ps → pairsOf ps = some l →
    ∃ (as : List Addr) (kvs : List (Key × V)), vs = as.map V.ref ∧ Paired (fun p kv => SqT K S p [kV kv.1, kv.2]) as kvs ∧ ∀ ks ds, RpK K S ks ds → RpK K S (mergeK ks kvs) (dmerge l ds)
  | [], _, l, .nil, h => by
    cases h
    exact ⟨[], [], rfl, .nil, fun ks ds h => h⟩
  | v :: vs, d :: ps, l, .cons a b, h => by
    cases a with
    | tup h1 h2 =>
      cases h2 with
      | nil => cases h
      | cons x1 x2 =>
        cases x2 with
        | nil => cases h
        | cons y1 y2 =>
          cases y2 with
          | cons _ _ => cases h
          | nil =>
            rename_i ad kx dk vx dv
            unfold pairsOf at h
            cases hk : keyOf dk with
            | none => rw [hk] at h; cases h
            | some k =>
              rw [hk] at h
              cases hr : pairsOf ps with
              | none => simp only [hr] at h; cases h
              | some l' =>
                simp only [hr] at h
                cases h
                obtain ⟨as, kvs, e1, e2, e3⟩ := pairs_rp b hr
                have ek := keyOf_kD hk
                subst ek
                have ex := rp_key x1
                subst ex
                refine ⟨ad :: as, (k, vx) :: kvs, by rw [List.map_cons, e1], .cons h1 e2, fun ks ds hh => ?_⟩
                exact e3 _ _ (hh.put y1 k)
    | _ => cases h
theorem Made.dic {S H : Hp} {vs : List (Key × V)} {p : Addr} (h : Same S H) (hp : H p = none) : Made S H S (upd H p (.dK vs)) [p] := by
  have sm : Same H (upd H p (.dK vs)) := fun b o z => by rw [upd_ne (ne_of_none z hp)]; exact z
  refine ⟨Same.refl S, sm, h.trans sm, fun b o z => .inl z, List.nodup_cons.mpr ⟨List.not_mem_nil, List.nodup_nil⟩, fun a ha => ?_⟩
  rw [List.mem_singleton] at ha
  subst ha
  refine ⟨?_, hp⟩
  cases z : S a with
  | none => rfl
  | some o => rw [h a o z] at hp; cases hp
theorem Own.newDic {K : PySem.W.Frag} {S H : Hp} {vs : List (Key × V)} {ds : List (PyData × PyData)} {p : Addr} (rp : RpK K S vs ds) : Own K S (upd H p (.dK vs)) 1 (.ref p) (.dict ds) [p] := .inr (.inl ⟨p, vs, ds, [], rfl, rfl, upd_same, rfl, OwK.of_rp rp⟩)
theorem p_dict {K : PySem.W.Frag} : Prim K (rDictP K) oDict := fun vs ds S H Q r m rp sb e q => by
  unfold oDict at e
  split at e
  · rename_i ps
    obtain ⟨x, rfl, hx⟩ := rp_one' rp
    cases hl : pairsOf ps with
    | none => rw [hl] at e; cases e
    | some l =>
      rw [hl] at e
      cases e
      cases hx with
      | lst h1 h2 =>
        obtain ⟨as, kvs, e1, e2, e3⟩ := pairs_rp h2 hl
        subst e1
        refine ⟨_, as, kvs, rfl, .inl (.inl (sb _ _ h1)), Paired.mapP e2 fun p kv z => Same.seqT sb z, fun p hp => q _ _ _ _ (Made.dic sb hp) (Own.newDic (e3 [] [] .nil))⟩
  · cases e
end PV

/-! PVT: dict(enumerate(xs)), dict displays, d.get(k, x), k in d, d[k] and d[k] = v, targets that change two things. -/
namespace PV
open PySem PySem.Spec PyProof.Rows L2

/-! ### dict(enumerate(xs)) -/
def enumK : Nat → List V → List (Key × V)
  | _, [] => []
  | i, v :: vs => (.inl (i : Int), v) :: enumK (i + 1) vs
def enumD : Nat → List PyData → List (Key × PyData)
  | _, [] => []
  | i, v :: vs => (.inl (i : Int), v) :: enumD (i + 1) vs
def enumV : Nat → List Value → List (Key × Value)
  | _, [] => []
  | i, v :: vs => (.inl (i : Int), v) :: enumV (i + 1) vs
theorem enumV_len : ∀ (i : Nat) (vs : List Value), (enumV i vs).length = vs.length
  | _, [] => rfl
  | i, v :: vs => congrArg (· + 1) (enumV_len (i + 1) vs)
theorem enumV_get : ∀ (i : Nat) (vs : List Value) (j : Nat) (v : Value), vs[j]? = some v → (enumV i vs)[j]? = some (.inl ((i + j : Nat) : Int), v)
  | _, [], j, v, h => by simp at h
  | i, x :: vs, 0, v, h => by simp at h; subst h; rfl
  | i, x :: vs, j + 1, v, h => by
    have := enumV_get (i + 1) vs j v (by simpa using h)
    show (enumV (i + 1) vs)[j]? = _
    rw [this, show i + 1 + j = i + (j + 1) by omega]
theorem enum_kv : ∀ (i : Nat) {xs : List V} {us : List Value}, Vals xs us → KV (enumK i xs) (enumV i us)
  | _, [], _, .nil => .nil
  | i, x :: xs, u :: us, .cons r t => .cons ⟨rfl, r⟩ (enum_kv (i + 1) t)
theorem enum_rp {K : PySem.W.Frag} {S : Hp} : ∀ (i : Nat) {vs : List V} {ds : List PyData}, RpL K S vs ds → ∀ ks es, RpK K S ks es → RpK K S (mergeK ks (enumK i vs)) (dmerge (enumD i ds) es)
  | _, [], _, .nil, ks, es, h => h
  | i, _ :: _, _ :: _, .cons a b, ks, es, h => enum_rp (i + 1) b _ _ (h.put a _)
def tDictEnum (K : PySem.W.Frag) (te : TE) : TE := fun σ H Q => te σ H fun x H1 => ∃ a xs, x = .ref a ∧ SqL K H1 a xs ∧ ∀ q, H1 q = none → Q (.ref q) (upd H1 q (.dK (mergeK [] (enumK 0 xs))))
theorem pe_dictEnum {X : Cx} {e : Expr} {te : TE} {x y : Str} {p p2 pos pos2 : Pos} (hc : X.calm = true) (hg : Gl X x) (hm : X.mg x = none) (hv : bootBuiltins x = some (.type "dict")) (hg2 : Gl X y) (hm2 : X.mg y = none) (hv2 : bootBuiltins y = some (.type "enumerate")) (he : PE X e te)
    (hn : x ≠ "__name__" := by decide) (hdb : (x == ("__debug__" : Str)) = false := by decide) (hn2 : y ≠ "__name__" := by decide) (hdb2 : (y == ("__debug__" : Str)) = false := by decide)
    (s1 : starEach [.Call (.Name y p2) [e] [] pos2] X.env = (false, eval (.Call (.Name y p2) [e] [] pos2) X.env) :: starEach [] X.env := by rfl) (s2 : starEach [e] X.env = (false, eval e X.env) :: starEach [] X.env := by rfl) :
    PE X (.Call (.Name x p) [.Call (.Name y p2) [e] [] pos2] [] pos) (tDictEnum X.K te) := by
  refine ⟨fun pins s σ H Q I h => ?_⟩
  refine wpAny_Call_Name_kw (ld_blt I hg hm hv ?_ hn hdb)
  refine PyProof.Rows.callWith_type1 ?_ s1 rfl
  rw [s1]
  refine Calls.spliced_cons (wpAny_Call_Name_kw (ld_blt I hg2 hm2 hv2 ?_ hn2 hdb2))
  refine PyProof.Rows.callWith_type1 ?_ s2 rfl
  rw [s2]
  refine Calls.spliced_cons (thn (he.run pins s σ H _ I h) fun u s1 ⟨z, H1, I1, rz, a, xs, ez, hq, q⟩ => Calls.spliced_nil ?_)
  subst ez
  cases rz
  obtain ⟨its, rv, pl, hz⟩ := I1.list hq
  refine call_enumerate_list pl.isList fun h' hen hit hsz hk => Calls.spliced_nil ?_
  have I2 : Inv X pins σ H1 { s1 with heap := h' } := I1.kept (t' := s1.toks) hk
  have hla : a < s1.heap.objs.size := by
    obtain ⟨o, ho, _⟩ := pl.isList
    exact Heap.lt_size ho
  have hl' : h'.IsList a its.toArray := by
    obtain ⟨o, ho, hc, n, hd⟩ := pl.isList
    exact ⟨o, hk _ _ ho, hc, n, hd⟩
  have hlen : (enumV 0 its).length = its.toArray.size := by rw [enumV_len]; simp
  have hxl : xs.length = its.length := rv.length
  refine PySem.call_dict_pairs (knd := mixKind X.prog X.w) (kvs := enumV 0 its) (PairArg.enumerate (s1.heap.objs.size + 1) s1.heap.objs.size a (Nat.succ_ne_self _) (Nat.ne_of_lt (Nat.lt_succ_of_lt hla)) (Nat.ne_of_lt hla) its.toArray) (I2.ok.hd hc) ⟨⟨.none, hen⟩, hit, hl'⟩ ⟨hlen, fun i key v r => ?_⟩ (by simp; omega) fun h2 tk hd2 hk2 => ?_
  · obtain ⟨⟨t, rfl⟩, hv⟩ := r
    refine ⟨.inl (i : Int), ?_, ?_⟩
    · have := enumV_get 0 its i v (by simpa using hv)
      rw [Nat.zero_add] at this
      exact this
    · show Value.isInt (i : Int) (.int (i : Int) t) = true
      simp [Value.isInt]
  · have kk : ∀ b o, s1.heap.get? b = some o → h2.get? b = some o := fun b o e => by
      have hb := Heap.lt_size e
      refine hk2 b o ?_ (hk _ _ e)
      simp only [List.mem_cons, List.not_mem_nil, or_false]
      rintro (z | z)
      · rw [z] at hb; exact absurd hb (Nat.not_lt.mpr (Nat.le_succ _))
      · rw [z] at hb; exact absurd hb (Nat.lt_irrefl _)
    have hbig : s1.heap.objs.size ≤ h'.objs.size := by rw [hsz]; omega
    have hm : (h'.objs.size == sysModules) = false := beq_eq_false_iff_ne.mpr (Nat.ne_of_gt (Nat.lt_of_lt_of_le I1.big hbig))
    have hkv := KV.merge (enum_kv 0 rv) (.nil : KV ([] : List (Key × V)) [])
    have hlen2 : (mergeK [] (enumK 0 xs)).length ≤ sizeLine := by
      refine Nat.le_trans (length_mergeK _ []) ?_
      have := (enum_kv 0 rv).length
      rw [enumV_len] at this
      simp only [List.length_nil]
      omega
    exact ⟨.ref h'.objs.size, upd H1 h'.objs.size (.dK (mergeK [] (enumK 0 xs))), I1.laid (t' := tk) kk hbig (show ObjOk X.prog X.w _ _ _ (.dK _) from ⟨hlen2, hm, _, hkv, hd2⟩), rfl, q _ (I1.hok.fresh hbig)⟩
def oDictEnum : Op := fun ds => match ds with
  | [.list xs] => some (.dict (dmerge (enumD 0 xs) []), 1)
  | _ => none
theorem p_dictEnum {K : PySem.W.Frag} : Prim K (fun vs H Q => ∀ x, vs = [x] → ∃ a xs, x = .ref a ∧ SqL K H a xs ∧ ∀ q, H q = none → Q (.ref q) (upd H q (.dK (mergeK [] (enumK 0 xs))))) oDictEnum := fun vs ds S H Q r m rp sb e q x ev => by
  unfold oDictEnum at e
  split at e
  · cases e
    obtain ⟨y, rfl, hy⟩ := rp_one' rp
    cases ev
    cases hy with
    | lst h1 h2 => exact ⟨_, _, rfl, .inl (.inl (sb _ _ h1)), fun p hp => q _ _ _ _ (Made.dic sb hp) (Own.newDic (enum_rp 0 h2 [] [] .nil))⟩
  · cases e
theorem ee_dictEnum {X : Cx} {W : WX} {a : Expr} {fa : Ev → Res RV} {x y : Str} {p p2 pos pos2 : Pos} (hc : X.calm = true) (hg : Gl X x) (hm : X.mg x = none) (hv : bootBuiltins x = some (.type "dict")) (hg2 : Gl X y) (hm2 : X.mg y = none) (hv2 : bootBuiltins y = some (.type "enumerate")) (ha : EE X W a fa)
    (hn : x ≠ "__name__" := by decide) (hdb : (x == ("__debug__" : Str)) = false := by decide) (hn2 : y ≠ "__name__" := by decide) (hdb2 : (y == ("__debug__" : Str)) = false := by decide)
    (s1 : starEach [.Call (.Name y p2) [a] [] pos2] X.env = (false, eval (.Call (.Name y p2) [a] [] pos2) X.env) :: starEach [] X.env := by rfl) (s2 : starEach [a] X.env = (false, eval a X.env) :: starEach [] X.env := by rfl) :
    EE X W (.Call (.Name x p) [.Call (.Name y p2) [a] [] pos2] [] pos) (f1 oDictEnum fa) :=
  PE.imp (pe_dictEnum hc hg hm hv hg2 hm2 hv2 ha hn hdb hn2 hdb2 s1 s2) fun σ H Q q => one_ok (R := fun x H Q => ∃ a xs, x = .ref a ∧ SqL X.K H a xs ∧ ∀ q, H q = none → Q (.ref q) (upd H q (.dK (mergeK [] (enumK 0 xs))))) p_dictEnum q

/-! ### several targets that may change objects -/
def tGAs (G : Gx) (P : Nat → Bool) (ft : Tgts) : TGs := fun vs σ H Q => ∃ S e A ds, Cu G S H σ e A [] ∧ RpL G.K S vs ds ∧ match ft ds e with
  | none => False
  | some e' => ∀ σ' H' S' A', Cu G S' H' σ' e' A' [] → Step S A H S' A' H' → Pin P σ σ' → Q σ' H'
abbrev EGAs (X : Cx) (P : Nat → Bool) (tgs : List Expr) (ft : Tgts) : Prop := PGs X tgs (tGAs (gx X) P ft)
section
variable {X : Cx} {P : Nat → Bool} {pos : Pos}
theorem egas_nil : EGAs X P [] tgNil := PGs.imp pgs_nil fun vs σ H Q q => by
  obtain ⟨S, e, A, ds, R, rp, q⟩ := q
  cases rp with
  | nil => exact ⟨rfl, q σ H S A R .refl .refl⟩
  | cons a b => exact q.elim
theorem egas_cons {e : Expr} {es : List Expr} {f : Tgt} {g : Tgts} (h1 : EGA X P e f) (h2 : EGAs X P es g) (hs : (assignEach (e :: es) X.env).map (·.2) = assign e X.env :: (assignEach es X.env).map (·.2) := by rfl) : EGAs X P (e :: es) (tgCons f g) := PGs.imp (pgs_cons h1 h2 hs) fun vs σ H Q q => by
  obtain ⟨S, e, A, ds, R, rp, q⟩ := q
  cases rp with
  | nil => exact q.elim
  | cons a b =>
    rename_i v vs d ds
    refine ⟨v, vs, rfl, S, e, A, d, R, a, ?_⟩
    have q' : match (match f d e with | some e1 => g ds e1 | none => none) with | none => False | some e' => ∀ σ' H' S' A', Cu (gx X) S' H' σ' e' A' [] → Step S A H S' A' H' → Pin P σ σ' → Q σ' H' := q
    cases z : f d e with
    | none => rw [z] at q'; exact q'
    | some e1 =>
      rw [z] at q'
      intro σ1 H1 S1 A1 R1 st1 pn1
      refine ⟨S1, e1, A1, ds, R1, b.mn st1.sub, ?_⟩
      simp only at q'
      cases z2 : g ds e1 with
      | none => rw [z2] at q'; exact q'
      | some e2 =>
        rw [z2] at q'
        exact fun σ' H' S' A' R' st' pn' => q' σ' H' S' A' R' (st1.trans st') (pn1.trans pn')
end
theorem tGAs_len {G : Gx} {P : Nat → Bool} {g : Tgts} {n : Nat} (hg : ∀ ds e e', g ds e = some e' → ds.length = n) {vs : List V} {σ : L2.St} {H : Hp} {Q : L2.St → Hp → Prop} (h : tGAs G P g vs σ H Q) : vs.length = n := by
  obtain ⟨S, e, A, ds, R, rp, q⟩ := h
  cases z : g ds e with
  | none => rw [z] at q; exact q.elim
  | some e' => rw [rp.length]; exact hg _ _ _ z
theorem ega_tup {X : Cx} {P : Nat → Bool} {pos : Pos} {es : List Expr} {k : Nat} {g : Tgts} {n : Nat} (hc : X.calm = true) (h : EGAs X P es g) (hg : ∀ ds e e', g ds e = some e' → ds.length = n) (hn : (assignEach es X.env).length = n := by rfl) (hst : (assignEach es X.env).findIdx? (·.1) = none := by rfl) : EGA X P (.Tuple es k pos) (tgTup g) := by
  refine PG.imp (PV.PG.or (pg_tup (n := n) hc h hn hst) (pg_lst (n := n) hc h hn hst)) fun v σ H Q q => ?_
  obtain ⟨S, e, A, d, R, rp, q⟩ := q
  cases d with
  | tuple ds =>
    cases rp with
    | tup hs ha =>
      have t : tGAs (gx X) P g _ σ H Q := ⟨S, e, A, ds, R, ha, q⟩
      exact .inl ⟨_, _, rfl, Same.seqT R.sub hs, tGAs_len hg t, t⟩
  | list ds =>
    cases rp with
    | lst hs ha =>
      have t : tGAs (gx X) P g _ σ H Q := ⟨S, e, A, ds, R, ha, q⟩
      exact .inr ⟨_, _, rfl, .inl (.inl (R.sub _ _ hs)), tGAs_len hg t, t⟩
  | _ => exact q.elim
end PV

/-! PVU: items and slices of a slot's own list, whose items may be lists. -/
namespace PV
open PySem PySem.Spec PyProof.Rows L2

section
variable {G : Gx} {S H : Hp} {σ : L2.St} {e : Ev} {A : List Addr} {ts : List Tmp}
/-- the list in a slot: its items are shared -/
theorem slotL {i n : Nat} {ds : List PyData} (R : Cu G S H σ e A ts) (h : e[i]? = some (some (.dt (.list ds) n))) (hn : n ≤ 1) : ∃ a vs, σ[i]? = some (some (.ref a)) ∧ SqL G.K H a vs ∧ RpL G.K S vs ds := by
  obtain ⟨v, f, B, C, e1, e2, o, _⟩ := R.slots.at i h
  match n, hn, o with
  | 0, _, o =>
    obtain ⟨_, rp⟩ := o
    cases rp with
    | lst h1 h2 => exact ⟨_, _, e1, .inl (.inl (R.sub _ _ h1)), h2⟩
  | 1, _, o =>
    obtain ⟨a, u, rfl, _, hu, hd⟩ := o.held rfl
    obtain ⟨vs, rfl, r⟩ := hd.lst
    exact ⟨a, vs, e1, .inl (.inl hu), r⟩
theorem slotD {i n : Nat} {ds : List (PyData × PyData)} (R : Cu G S H σ e A ts) (h : e[i]? = some (some (.dt (.dict ds) n))) (hn : n ≤ 1) : ∃ a vs, σ[i]? = some (some (.ref a)) ∧ Rd H a (.dK vs) ∧ RpK G.K S vs ds := by
  obtain ⟨v, f, B, C, e1, e2, o, _⟩ := R.slots.at i h
  match n, hn, o with
  | 0, _, o =>
    obtain ⟨_, rp⟩ := o
    cases rp with
    | dic h1 h2 => exact ⟨_, _, e1, Same.rd R.sub h1, h2⟩
  | 1, _, o =>
    obtain ⟨a, u, rfl, _, hu, hd⟩ := o.held rfl
    obtain ⟨vs, rfl, r⟩ := hd.dic
    exact ⟨a, vs, e1, .inl hu, r⟩
end
/-- x[k] of a slot's list or dict -/
def ixV (c k : PyData) : Option PyData := match c, k with
  | .list ds, .int j => atI ds j
  | .dict ds, k => match keyOf k with
    | some k => dget ds k
    | none => none
  | _, _ => none
def fIxV (i : Nat) (fk : Ev → Res RV) (e : Ev) : Res RV := match e[i]? with
  | some (some (.dt _ _)) => (fk e).bind fun r e1 => match settle [r] e1 with
    | some ([k], e2) => match e2[i]? with
      | some (some (.dt c n)) => if n ≤ 1 then (match ixV c k with
        | some d => .ok (.val d 0) e2
        | none => .no) else .no
      | _ => .no
    | _ => .no
  | _ => .no
/-- a new list of a slot's list's items -/
def fSlV (i : Nat) (fl fh : Option (Ev → Res RV)) (e : Ev) : Res RV := match e[i]? with
  | some (some (.dt _ _)) => (fPart fl e).bind fun lo e1 => (fPart fh e1).bind fun hi e2 => match e2[i]? with
    | some (some (.dt (.list ds) n)) => if n ≤ 1 then .ok (.val (.list (cutD ds lo hi)) 1) e2 else .no
    | _ => .no
  | _ => .no
section
variable {X : Cx} {W : WX} {a b : Expr} {i : Nat} {fk : Ev → Res RV} {pos p2 : Pos}
theorem isSlot {G : Gx} {S H : Hp} {σ : L2.St} {e : Ev} {A : List Addr} {ts : List Tmp} {d : PyData} {n : Nat} (R : Cu G S H σ e A ts) (h : e[i]? = some (some (.dt d n))) : ∃ v, σ[i]? = some (some v) := by
  obtain ⟨v, f, B, C, e1, _⟩ := R.slots.at i h
  exact ⟨v, e1⟩
def rIxD (K : PySem.W.Frag) : R2 := fun x y H Q => ∃ a v, x = .ref a ∧ DGet H a y (some v) ∧ Q v H
theorem ix_dict (hu : X.A.units + 1 < cLine) : IxR X (rIxD X.K) := by
  intro value slice pins s σ H x y v u Q I rx ry h hs
  obtain ⟨p, z, rfl, g, q⟩ := h
  obtain rfl : v = Value.ref p := rx
  exact tail_any (dict_typeIs I g) PySem.F.slot_dict_getitem.lookup (d_getItem hu I g ry fun w' s3 I3 rw' => ⟨z, H, I3, rw', q⟩) hs
theorem ee_ixV (hu : X.A.units + 1 < cLine) (ha : PE X a (tVar i)) (hb : EE X W b fk) (hs : PlainIx b := by intro _ _; rfl) : EE X W (.Subscript a b pos) (fIxV i fk) :=
  PE.imp (pe_ix (ix_list.or (ix_dict hu)) ha hb hs) fun σ H Q q => by
    obtain ⟨S, e, A, C, q⟩ := q
    unfold fIxV at q
    match hi : e[i]?, q with
    | some (some (.dt d0 n0)), q =>
      simp only [hi] at q
      obtain ⟨v0, hv0⟩ := isSlot C hi
      refine ⟨v0, hv0, tR_next (G := gx X) C (S0 := S) (A0 := A) (H0 := H) Step.refl0 ?_⟩
      cases r1 : fk e with
      | no => rw [r1] at q; exact q
      | exc c e1 => rw [r1] at q; exact q
      | ok r e1 =>
        rw [r1] at q
        intro y H1 S1 A1 f R1 st1
        have R1' : Cu (gx X) S1 H1 σ e1 A1 [⟨r, y, f⟩] := R1
        have q : PostE (gx X) W S H σ A Q (match settle [r] e1 with | some ([k], e2) => (match e2[i]? with | some (some (.dt c n)) => if n ≤ 1 then (match ixV c k with | some d => .ok (.val d 0) e2 | none => .no) else .no | _ => .no) | _ => .no) := q
        match r2 : settle [r] e1, q with
        | some ([k], e2), q =>
          simp only at q
          obtain ⟨S2, A2, R2, rp2, st2⟩ := settle_ok R1' r2
          have ry := rp_one rp2 rfl
          match hi2 : e2[i]?, q with
          | some (some (.dt c n)), q =>
            simp only at q
            by_cases hn : n ≤ 1
            · rw [if_pos hn] at q
              cases r3 : ixV c k with
              | none => rw [r3] at q; exact q.elim
              | some d =>
                rw [r3] at q
                have fin : ∀ z, Rp X.K S2 z d → Q z H1 := fun z hz => q z H1 S2 A2 [] (R2.one ⟨rfl, hz⟩ rfl) (by rw [List.append_nil]; exact st1.trans st2)
                cases c with
                | list ds =>
                  cases k with
                  | int j =>
                    obtain ⟨p, vs, e1, h1, h2⟩ := slotL R2 hi2 hn
                    rw [hv0] at e1
                    cases e1
                    cases ry
                    obtain ⟨z, hz, rz⟩ := h2.atI r3
                    exact .inl ⟨_, _, _, z, rfl, rfl, h1, hz, fin z rz⟩
                  | _ => cases r3
                | dict ds =>
                  have r4 : (match keyOf k with | some k => dget ds k | none => none) = some d := r3
                  cases hk : keyOf k with
                  | none => rw [hk] at r4; cases r4
                  | some kk =>
                    rw [hk] at r4
                    obtain ⟨p, vs, e1, h1, h2⟩ := slotD R2 hi2 hn
                    rw [hv0] at e1
                    cases e1
                    have ek := keyOf_kD hk
                    subst ek
                    have ey := rp_key ry
                    subst ey
                    obtain ⟨z, hz, rz⟩ := (h2.find kk).1 d r4
                    exact .inr ⟨p, z, rfl, .inl ⟨vs, kk, h1, rfl, hz.symm⟩, fin z rz⟩
                | _ => cases r3
            · rw [if_neg hn] at q; exact q.elim
          | some (some (.ex c)), q => exact q.elim
          | some (some (.fz c)), q => exact q.elim
          | some none, q => exact q.elim
          | none, q => exact q.elim
        | some ([], e2), q => exact q.elim
        | some (_ :: _ :: _, e2), q => exact q.elim
        | none, q => exact q.elim
    | some (some (.ex c)), q => simp only [hi] at q; exact q.elim
    | some (some (.fz c)), q => simp only [hi] at q; exact q.elim
    | some none, q => simp only [hi] at q; exact q.elim
    | none, q => simp only [hi] at q; exact q.elim
theorem ee_sliceV {lo hi : Option Expr} {fl fh : Option (Ev → Res RV)} (ha : PE X a (tVar i)) (hl : EPa X W lo fl) (hh : EPa X W hi fh) : EE X W (.Subscript a (.Slice lo hi none p2) pos) (fSlV i fl fh) :=
  PE.imp (pe_slice sl_list ha hl hh) fun σ H Q q => by
    obtain ⟨S, e, A, C, q⟩ := q
    unfold fSlV at q
    match hi : e[i]?, q with
    | some (some (.dt d0 n0)), q =>
      simp only [hi] at q
      obtain ⟨v0, hv0⟩ := isSlot C hi
      refine ⟨v0, hv0, tPa_next (G := gx X) C (S0 := S) (A0 := A) (H0 := H) Step.refl0 ?_⟩
      cases r2 : fPart fl e with
      | no => rw [r2] at q; exact q
      | exc c e2 => rw [r2] at q; exact q
      | ok lo e2 =>
        rw [r2] at q
        intro H2 S2 A2 R2 st2
        refine tPa_next R2 st2 ?_
        have q3 : PostE (gx X) W S H σ A Q ((fPart fh e2).bind fun hi e3 => match e3[i]? with | some (some (.dt (.list ds) n)) => if n ≤ 1 then .ok (.val (.list (cutD ds lo hi)) 1) e3 else .no | _ => .no) := q
        cases r3 : fPart fh e2 with
        | no => rw [r3] at q3; exact q3
        | exc c e3 => rw [r3] at q3; exact q3
        | ok hi e3 =>
          rw [r3] at q3
          intro H3 S3 A3 R3 st3
          have q4 : PostE (gx X) W S H σ A Q (match e3[i]? with | some (some (.dt (.list ds) n)) => if n ≤ 1 then .ok (.val (.list (cutD ds lo hi)) 1) e3 else .no | _ => .no) := q3
          match hi2 : e3[i]?, q4 with
          | some (some (.dt (.list ds) n)), q4 =>
            simp only at q4
            by_cases hn : n ≤ 1
            · rw [if_pos hn] at q4
              obtain ⟨p, vs, e1, h1, h2⟩ := slotL R3 hi2 hn
              rw [hv0] at e1
              cases e1
              refine ⟨p, vs, rfl, h1, fun p hp => ?_⟩
              obtain ⟨R4, st4⟩ := R3.newLst (h2.cut lo hi) hp
              exact q4 _ _ _ _ _ R4 ((by have := st3; rw [show fps [] = [] from rfl, List.append_nil] at this; exact this : Step S A H S3 A3 H3).trans st4)
            · rw [if_neg hn] at q4; exact q4.elim
          | some (some (.dt .none n)), q4 => exact q4.elim
          | some (some (.dt (.bool _) n)), q4 => exact q4.elim
          | some (some (.dt (.int _) n)), q4 => exact q4.elim
          | some (some (.dt (.str _) n)), q4 => exact q4.elim
          | some (some (.dt (.tuple _) n)), q4 => exact q4.elim
          | some (some (.dt (.dict _) n)), q4 => exact q4.elim
          | some (some (.ex c)), q4 => exact q4.elim
          | some (some (.fz c)), q4 => exact q4.elim
          | some none, q4 => exact q4.elim
          | none, q4 => exact q4.elim
    | some (some (.ex c)), q => simp only [hi] at q; exact q.elim
    | some (some (.fz c)), q => simp only [hi] at q; exact q.elim
    | some none, q => simp only [hi] at q; exact q.elim
    | none, q => simp only [hi] at q; exact q.elim
end
end PV

/-! PVZ: the law's def and the law's end. -/
namespace PV
open PySem PySem.Spec PyProof.Rows L2

/-- a run that returns True -/
def yes : SRes → Prop
  | .rt (.bool true) _ _ => True
  | _ => False
def lawEv (N : Nat) (ns : List Int) : Ev := some (.fz (ns.map .int)) :: List.replicate (N - 1) none
def spL (K : PySem.W.Frag) (N : Nat) (fb : Ev → SRes) : Sp := fun vs H Q _ => ∃ a ns, vs = [.ref a] ∧ SqL K H a (ns.map V.int) ∧ yes (fb (lawEv N ns)) ∧ ∀ H', Q (.bl true) H'
theorem fn_law {Pg : Program} {w : World} {K : PySem.W.Frag} {mg : Str → Option Value} {base : Heap} {x qual p : Str} {st : Stmt} {f : Addr} {fd : FuncData} {N : List Str} {k : Nat} {fb : Ev → SRes}
    (F : Fun K x qual st f fd) (Sc : FnScope N [p] (defScope st))
    (hb : ∀ (cdv : Value) (A : Around) (outer : List Env) (s : Shared) (H : Hp) (E : XK), Room k (A.deeper (envOfC qual (defScope st) s.heap.objs.size f cdv)) → A.guards = some [] →
      ESs (cxOf (L2.CX Pg w) Pg w K mg base N qual (defScope st) f cdv A outer s H E) (wE E) (pinOf false) (defBody st) fb) :
    FnG Pg w K mg base (k + 1) f fd [p] (spL K N.length fb) := by
  refine fn_g F Sc (fun vs H Q E h => ?_) fun cdv A outer s H vs Q E hr gd h => ⟨_, hb cdv A outer s H E hr gd, ?_⟩
  · obtain ⟨a, ns, rfl, _⟩ := h
    rfl
  · obtain ⟨a, ns, rfl, hS, hy, hq⟩ := h
    have sl : Slots ⟨K, clOf mg⟩ H H ([.ref a].map some) ([Vl.fz (ns.map .int)].map some) [] := .fz hS (RpL.of_ints ns) .nil
    have sl' := sl.app (N.length - 1)
    refine ⟨H, lawEv N.length ns, [], ⟨Same.refl H, List.nodup_nil, fun a z => (nomatch z), sl', fun t z => (nomatch z)⟩, ?_⟩
    unfold yes at hy
    split at hy
    · rename_i n e' q
      rw [q]
      intro v σ' H' S' A' g R st' pn
      obtain ⟨ev, _⟩ := own_bool (R.tmps _ (List.mem_singleton.mpr rfl))
      have ev2 : v = .bl true := ev
      subst ev2
      exact hq H'
    · exact hy.elim

theorem ints_vals : ∀ {us : List Value} {ns : List Int}, IntsAre us ns → Vals (ns.map V.int) us
  | _, _, .nil => .nil
  | _, _, .cons _ t h => .cons ⟨t, rfl⟩ (ints_vals h)
/-- the law's call, from the heap behind the top -/
theorem law_g {Pg : Program} {w : World} {K : PySem.W.Frag} {mg mbl : Str → Option Value} {k : Nat} {fa a : Addr} {fd : FuncData} {x : Str} {sp : Sp} {t : Shared} {us : List Value} {ns : List Int}
    (kin : K.In t.heap) (nsg : t.heap.Ns mainGlobals mg) (nsb : t.heap.Ns builtinsNs mbl) (boot : ∀ x : Str, x ≠ "__name__" → mbl x = bootBuiltins x) (nol : t.heap.NoLimit) (gn : t.gens = #[])
    (obj : t.heap.get? a = some { cls := .type "list", data := .seq us.toArray }) (iar : IntsAre us ns) (len : ns.length ≤ sizeLine) (room : Room k callerA)
    (F : ∀ base : Heap, K.In base → base.Ns mainGlobals mg → FnG Pg w K mg base k fa fd [x] sp) (bnd : ∀ (s : Shared) (u : Value), BindsTo s fd ⟨[u], []⟩ [(x, u)])
    (prom : ∀ H : Hp, Only H → SqL K H a (ns.map V.int) → sp [.ref a] H (fun v _ => v = .bl true) fun _ _ _ => False)
    (noX : ∀ H e s', L2.CX Pg w [] H t (fun _ _ _ => False) e s' → False) :
    codeAny (model Pg w) callerA (.call (.ref fa) ⟨[.ref a], []⟩) (fun r s' => r = .ok (.ret (.bool true)) ∧ OldK t.heap s'.heap ∧ s'.os = t.os ∧ AllBare s'.gens) t := by
  have vals := ints_vals iar
  have lenU := iar.length
  have main : ∀ H : Hp, Only H → SqL K H a (ns.map V.int) → HOk Pg w H t.heap → (∀ b, H b ≠ none → b = a) → (H a ≠ none → K.lookup a = none) →
      codeAny (model Pg w) callerA (.call (.ref fa) ⟨[.ref a], []⟩) (fun r s' => r = .ok (.ret (.bool true)) ∧ OldK t.heap s'.heap ∧ s'.os = t.os ∧ AllBare s'.gens) t := by
    intro H only seq ok at_a free
    have old : ∀ {b : Addr} {o : Obj}, t.heap.get? b = some o → H b = none → (hidT t.heap H).get? b = some o := fun g n => hidT_get g n
    have notA : ∀ {b : Addr} {o : Obj} {es : Array DictEntry} {ep : Nat}, t.heap.get? b = some o → o.data = .dict es ep → H b = none := by
      intro b o es ep g d
      cases z : H b with
      | none => rfl
      | some u =>
        have eb : b = a := at_a b (by rw [z]; exact fun w => nomatch w)
        rw [eb, obj] at g
        cases g
        have d2 : Data.seq us.toArray _ = Data.dict es ep := d
        cases d2
    have ns2 : ∀ {b : Addr} {m : Str → Option Value}, t.heap.Ns b m → (hidT t.heap H).Ns b m := by
      rintro b m ⟨o, es, ep, g, d, r⟩
      exact ⟨o, es, ep, old g (notA g d), d, r⟩
    have kin2 : K.In (hidT t.heap H) := by
      intro b o g
      refine old (kin b o g) ?_
      cases z : H b with
      | none => rfl
      | some u =>
        have eb : b = a := at_a b (by rw [z]; exact fun w => nomatch w)
        subst eb
        rw [free (by rw [z]; exact fun w => nomatch w)] at g
        cases g
    have modl : Mod K mg (hidT t.heap H) := by
      refine ⟨kin2, ns2 nsg, ⟨mbl, ns2 nsb, boot⟩, ?_⟩
      obtain ⟨mc, h1, h2⟩ := nol
      exact ⟨mc, ns2 h1, h2⟩
    have start : Env0 Pg w K mg (hidT t.heap H) callerA [] t H := ⟨rfl, modl, fun b o g => of_hidT g, Nat.le_of_eq (hidT_size _ _), trivial, fun b z => (nomatch z), ok, .of_eq gn⟩
    refine codeAny_mono ((F _ kin2 (ns2 nsg)).run callerA [] t H ⟨[.ref a], []⟩ [.ref a] [.ref a] _ _ room rfl start (bnd t (.ref a)) (.cons rfl .nil) (prom H only seq)) ?_
    intro r s' fin
    cases r with
    | error e => exact (noX H e s' fin).elim
    | ok fl =>
      cases fl with
      | next => exact False.elim fin
      | brk => exact False.elim fin
      | cont => exact False.elim fin
      | ret u =>
        obtain ⟨v, H', os, bare, un, ok', rv, q⟩ := fin
        have ev : v = .bl true := q
        subst ev
        obtain rfl : u = Value.bool true := rv
        refine ⟨rfl, OldK.of_keep fun b o g => ?_, os, bare⟩
        cases z : H b with
        | none => exact un.keep b o g z (by intro w; exact nomatch w) (by simp)
        | some y =>
          rcases only b with e | ⟨ob, xs, e⟩
          · rw [z] at e; cases e
          · obtain ⟨e1, _⟩ := ok b _ e
            obtain ⟨e2, _⟩ := ok' b _ (un.frzs b ob _ e)
            rw [g] at e1
            cases e1
            exact e2
  cases lk : K.lookup a with
  | some o =>
    have g := kin a o lk
    rw [obj] at g
    cases g
    refine main (fun _ => none) (fun _ => .inl rfl) (.inr ⟨_, us.toArray, _, lk, rfl, rfl, rfl, by rw [List.size_toArray, lenU]; exact len, by simpa using vals⟩) (fun b u z => ?_) (fun b z => absurd rfl z) fun z => absurd rfl z
    have z2 : (none : Option HO) = some u := z
    cases z2
  | none =>
    refine main (fun b => if b = a then some (.frz { cls := .type "list", data := .seq us.toArray } (.lst (ns.map V.int))) else none) ?_ (.inl (.inr ⟨{ cls := .type "list", data := .seq us.toArray }, if_pos rfl⟩)) ?_ ?_ fun _ => lk
    · intro b
      by_cases hb : b = a
      · exact .inr ⟨_, _, if_pos hb⟩
      · exact .inl (if_neg hb)
    · intro b u z
      by_cases hb : b = a
      · have z2 := (if_pos hb).symm.trans z
        cases z2
        subst hb
        refine ⟨obj, ?_, us, _, vals, obj⟩
        rw [List.length_map]; exact len
      · have z2 := (if_neg hb).symm.trans z
        cases z2
    · intro b z
      by_cases hb : b = a
      · exact hb
      · exact absurd (if_neg hb) z
/-- the goal that k_head leaves -/
theorem walk_g {l : PySem.W.OpenLaw} {n k : Nat} {q : Program} {loose : List Str} {XP : (Str → Option Value) → Heap → Prop} {YP : World → Heap → Prop} {d : DefRec} {K : Params → PySem.W.Frag} {x : Str} {N : Nat} {fb : Ev → SRes}
    (hn : l.most = some n) (hn2 : n ≤ sizeLine) (hdf : d.params.defaults = []) (room : Room k callerA)
    (hY : ∀ (w : World) (h : Heap), YP w h → (K w.params).In h)
    (F : ∀ (w : World) (mg : Str → Option Value) (fa : Addr) (h : Heap), (K w.params).In h → h.Ns mainGlobals mg → mg d.name = some (.ref fa) →
      ∃ fd : FuncData, (∀ (s : Shared) (u : Value), BindsTo s fd ⟨[u], []⟩ [(x, u)]) ∧
        ∀ base : Heap, (K w.params).In base → base.Ns mainGlobals mg → FnG l.prog w (K w.params) mg base k fa fd [x] (spL (K w.params) N fb))
    (law : ∀ ns : List Int, ns.length ≤ n → yes (fb (lawEv N ns)))
    (noX : ∀ (w : World) (H : Hp) (s : Shared) (e : Value) (s' : Shared), L2.CX l.prog w [] H s (fun _ _ _ => False) e s' → False) :
    PySem.W.WalkO q loose XP YP l.row.toRowW d [] (fun f vs => PySem.call f vs) := by
  refine Att.attach_call hn hdf fun w s0 t mg mb fa o pm cd doc a us ns G Y ho hd hcd hmg hobj iar hlen gn => ?_
  have kin := hY w _ Y
  obtain ⟨fd, bnd, hF⟩ := F w mg fa _ kin G.T.g hmg
  exact law_g kin G.T.g G.T.b G.T.builtins G.T.nolimit gn hobj iar (Nat.le_trans hlen hn2) room hF bnd (fun H _ seq => ⟨a, ns, rfl, seq, law ns hlen, fun _ => rfl⟩) fun H e s' => noX w H t e s'
end PV

/-! PVY: short words for the printed proofs. -/
namespace PV
open PySem PySem.Spec PyProof.Rows L2
/-- a def of the text that stands in the module -/
structure Has (K : PySem.W.Frag) (mg : Str → Option Value) (x : Str) (st : Stmt) (ps : List Str) (f : Addr) (fd : FuncData) : Prop where
  F : Fun K x x st f fd
  g : mg x = some (.ref f)
  b : Binds K fd ps []
theorem gA {A : Around} {env : Env} (gd : A.guards = some []) : (A.deeper env).guards = some [] := (guards_deeper A env).trans gd
theorem u64 {A : Around} {k : Nat} (h : Room k A) : A.units + 64 < cLine := by have := h.un; omega
theorem u65 {A : Around} {k : Nat} (h : Room k A) : A.units + 65 < cLine := by have := h.un; omega
theorem u1 {A : Around} {k : Nat} (h : Room k A) : A.units + 1 < cLine := by have := h.un; omega
def fNo (_ : Ev) : SRes := .no
theorem es_no {X : Cx} {W : WX} {P : Nat → Bool} {st : Stmt} : ES X W P st fNo := ⟨fun pins s σ H D I q => by
  obtain ⟨S, e, A, C, q⟩ := q
  exact q.elim⟩
section
variable {X : Cx} {W : WX} {pos : Pos} {a b c : Expr} {fa fb fc : Ev → Res RV}
theorem xAdd (ha : EE X W a fa) (hb : EE X W b fb) : EE X W (.BinOp a .Add b pos) (f2 oAdd fa fb) := ee_op op_addU p_add ha hb
theorem xSub (ha : EE X W a fa) (hb : EE X W b fb) : EE X W (.BinOp a .Sub b pos) (f2 oSub fa fb) := ee_op op_subU p_sub ha hb
theorem xMul (ha : EE X W a fa) (hb : EE X W b fb) : EE X W (.BinOp a .Mult b pos) (f2 oMul fa fb) := ee_op op_mulU p_mul ha hb
theorem xDiv (ha : EE X W a fa) (hb : EE X W b fb) : EE X W (.BinOp a .FloorDiv b pos) (f2 oDiv fa fb) := ee_op op_fdivW p_div ha hb
theorem xMod (ha : EE X W a fa) (hb : EE X W b fb) : EE X W (.BinOp a .Mod b pos) (f2 oMod fa fb) := ee_op op_mod p_mod ha hb
theorem xPow (ha : EE X W a fa) (hb : EE X W b fb) : EE X W (.BinOp a .Pow b pos) (f2 oPow fa fb) := ee_op op_pow p_pow ha hb
theorem xNeg (ha : EE X W a fa) : EE X W (.UnaryOp .USub a pos) (f1 oNeg fa) := ee_un un_neg p_neg ha
theorem xIx (ha : EE X W a fa) (hb : EE X W b fb) (hs : PlainIx b := by intro _ _; rfl) : EE X W (.Subscript a b pos) (f2 oIx fa fb) := ee_ix ix_seq p_ix ha hb hs
theorem vLt (ha : EE X W a fa) (hb : EE X W b fb) : EE X W (.Compare a [.Lt] [b] pos) (f2 oLt fa fb) := ee_cmp op_ltU p_lt ha hb (nomark _)
theorem vLtE (ha : EE X W a fa) (hb : EE X W b fb) : EE X W (.Compare a [.LtE] [b] pos) (f2 oLe fa fb) := ee_cmp op_le p_le ha hb (nomark _)
theorem vGt (ha : EE X W a fa) (hb : EE X W b fb) : EE X W (.Compare a [.Gt] [b] pos) (f2 oGt fa fb) := ee_cmp op_gt p_gt ha hb (nomark _)
theorem vGtE (ha : EE X W a fa) (hb : EE X W b fb) : EE X W (.Compare a [.GtE] [b] pos) (f2 oGe fa fb) := ee_cmp op_ge p_ge ha hb (nomark _)
theorem vEq (hu : X.A.units + 64 < cLine) (ha : EE X W a fa) (hb : EE X W b fb) : EE X W (.Compare a [.Eq] [b] pos) (f2 oEq fa fb) := ee_cmp (op_eqU hu) p_eq ha hb (nomark _)
theorem vNe (hu : X.A.units + 64 < cLine) (ha : EE X W a fa) (hb : EE X W b fb) : EE X W (.Compare a [.NotEq] [b] pos) (f2 oNe fa fb) := ee_cmp (op_neU hu) p_ne ha hb (nomark _)
theorem vIn (hu : X.A.units + 65 < cLine) (ha : EE X W a fa) (hb : EE X W b fb) (hm : behindInMarks .In b = false := by with_unfolding_all rfl) : EE X W (.Compare a [.In] [b] pos) (f2 oIn fa fb) := ee_cmp (op_inU hu) p_in ha hb hm
theorem vNotIn (hu : X.A.units + 65 < cLine) (ha : EE X W a fa) (hb : EE X W b fb) (hm : behindInMarks .NotIn b = false := by with_unfolding_all rfl) : EE X W (.Compare a [.NotIn] [b] pos) (f2 oNotIn fa fb) := ee_cmp (op_notInU hu) p_notIn ha hb hm
theorem vIsN (ha : EE X W a fa) (hb : EE X W b fb) : EE X W (.Compare a [.Is] [b] pos) (f2 oIsN fa fb) := ee_cmp op_isN p_isN ha hb (nomark _)
theorem vNotN (ha : EE X W a fa) (hb : EE X W b fb) : EE X W (.Compare a [.IsNot] [b] pos) (f2 oNotN fa fb) := ee_cmp op_notN p_notN ha hb (nomark _)
theorem vIsB (ha : EE X W a fa) (hb : EE X W b fb) : EE X W (.Compare a [.Is] [b] pos) (f2 oIsB fa fb) := ee_cmp op_isBl p_isB ha hb (nomark _)
theorem yLt (ha : EE X W a fa) (hb : EE X W b fb) : ET X W (.Compare a [.Lt] [b] pos) (f2 oLt fa fb) := et_cmp op_ltU p_lt ha hb (nomark _)
theorem yLtE (ha : EE X W a fa) (hb : EE X W b fb) : ET X W (.Compare a [.LtE] [b] pos) (f2 oLe fa fb) := et_cmp op_le p_le ha hb (nomark _)
theorem yGt (ha : EE X W a fa) (hb : EE X W b fb) : ET X W (.Compare a [.Gt] [b] pos) (f2 oGt fa fb) := et_cmp op_gt p_gt ha hb (nomark _)
theorem yGtE (ha : EE X W a fa) (hb : EE X W b fb) : ET X W (.Compare a [.GtE] [b] pos) (f2 oGe fa fb) := et_cmp op_ge p_ge ha hb (nomark _)
theorem yEq (hu : X.A.units + 64 < cLine) (ha : EE X W a fa) (hb : EE X W b fb) : ET X W (.Compare a [.Eq] [b] pos) (f2 oEq fa fb) := et_cmp (op_eqU hu) p_eq ha hb (nomark _)
theorem yNe (hu : X.A.units + 64 < cLine) (ha : EE X W a fa) (hb : EE X W b fb) : ET X W (.Compare a [.NotEq] [b] pos) (f2 oNe fa fb) := et_cmp (op_neU hu) p_ne ha hb (nomark _)
theorem yIn (hu : X.A.units + 65 < cLine) (ha : EE X W a fa) (hb : EE X W b fb) (hm : behindInMarks .In b = false := by with_unfolding_all rfl) : ET X W (.Compare a [.In] [b] pos) (f2 oIn fa fb) := et_cmp (op_inU hu) p_in ha hb hm
theorem yNotIn (hu : X.A.units + 65 < cLine) (ha : EE X W a fa) (hb : EE X W b fb) (hm : behindInMarks .NotIn b = false := by with_unfolding_all rfl) : ET X W (.Compare a [.NotIn] [b] pos) (f2 oNotIn fa fb) := et_cmp (op_notInU hu) p_notIn ha hb hm
theorem yIsN (ha : EE X W a fa) (hb : EE X W b fb) : ET X W (.Compare a [.Is] [b] pos) (f2 oIsN fa fb) := et_cmp op_isN p_isN ha hb (nomark _)
theorem yNotN (ha : EE X W a fa) (hb : EE X W b fb) : ET X W (.Compare a [.IsNot] [b] pos) (f2 oNotN fa fb) := et_cmp op_notN p_notN ha hb (nomark _)
theorem yIsB (ha : EE X W a fa) (hb : EE X W b fb) : ET X W (.Compare a [.Is] [b] pos) (f2 oIsB fa fb) := et_cmp op_isBl p_isB ha hb (nomark _)
end
end PV

/-! PVX: what a semantic function gives, stepwise (no program in sight). -/
namespace PV
open PySem PySem.Spec PyProof.Rows L2

def Ok {α : Type} (f : Ev → Res α) (e : Ev) (Q : α → Ev → Prop) : Prop := ∃ a e', f e = .ok a e' ∧ Q a e'
def OkA (fs : List (Ev → Res RV)) (e : Ev) (Q : List RV → Ev → Prop) : Prop := Ok (fArgs fs) e Q
def Us (op : Op) (rs : List RV) (e : Ev) (Q : RV → Ev → Prop) : Prop := ∃ d m, use op rs e = .ok (.val d m) e ∧ Q (.val d m) e
/-- a statement goes on (N), returns (R), breaks (B), continues (C) -/
def RuM (f : Ev → SRes) (e : Ev) (N : Ev → Prop) (R : PyData → Nat → Ev → Prop) (B C : Ev → Prop) : Prop := match f e with
  | .nx e' => N e'
  | .rt d n e' => R d n e'
  | .bk e' => B e'
  | .ct e' => C e'
  | _ => False
abbrev nope : Ev → Prop := fun _ => False
structure Ru (f : Ev → SRes) (e : Ev) (N : Ev → Prop) (R : PyData → Nat → Ev → Prop) (B C : Ev → Prop) : Prop where
  ok : RuM f e N R B C
def Ca (F : Den) (as : List Vl) (R : PyData → Nat → PyData → Prop) : Prop := ∃ d n o, F as = .rt d n o ∧ R d n o
section
variable {α β : Type} {f : Ev → Res α} {e : Ev} {Q Q' : RV → Ev → Prop} {fa fb fc : Ev → Res RV} {fs : List (Ev → Res RV)} {op : Op}
theorem Ok.mono {P P' : α → Ev → Prop} (h : Ok f e P) (k : ∀ a e', P a e' → P' a e') : Ok f e P' := let ⟨a, e', h1, h2⟩ := h; ⟨a, e', h1, k a e' h2⟩
theorem ok_bind {g : α → Ev → Res β} {P : β → Ev → Prop} (h : Ok f e fun a e1 => Ok (g a) e1 P) : Ok (fun e => (f e).bind g) e P := by
  obtain ⟨a, e1, h1, b, e2, h2, q⟩ := h
  exact ⟨b, e2, by show (f e).bind g = _; rw [h1]; exact h2, q⟩
theorem ok_c {d : PyData} (h : Q (.val d 0) e) : Ok (fC d) e Q := ⟨_, _, rfl, h⟩
theorem ok_v0 {i : Nat} {d : PyData} (hi : e[i]? = some (some (.dt d 0))) (h : Q (.val d 0) e) : Ok (fVar i) e Q := ⟨_, _, by unfold fVar; rw [hi], h⟩
theorem ok_vn {i n : Nat} {d : PyData} (hi : e[i]? = some (some (.dt d (n + 1)))) (h : Q (.bor i) e) : Ok (fVar i) e Q := ⟨_, _, by unfold fVar; rw [hi], h⟩
theorem ok_1 (h : Ok fa e fun r e1 => Us op [r] e1 Q) : Ok (f1 op fa) e Q := by
  obtain ⟨r, e1, h1, d, m, h2, q⟩ := h
  exact ⟨_, _, by unfold f1; rw [h1]; exact h2, q⟩
theorem ok_2 (h : Ok fa e fun r e1 => Ok fb e1 fun s e2 => Us op [r, s] e2 Q) : Ok (f2 op fa fb) e Q := by
  obtain ⟨r, e1, h1, s, e2, h2, d, m, h3, q⟩ := h
  exact ⟨_, _, by unfold f2; rw [h1]; show (fb e1).bind _ = _; rw [h2]; exact h3, q⟩
theorem oka_nil {P : List RV → Ev → Prop} (h : P [] e) : OkA [] e P := ⟨_, _, rfl, h⟩
theorem oka_cons {P : List RV → Ev → Prop} (h : Ok fa e fun r e1 => OkA fs e1 fun rs e2 => P (r :: rs) e2) : OkA (fa :: fs) e P := by
  obtain ⟨r, e1, h1, rs, e2, h2, q⟩ := h
  exact ⟨_, _, by unfold fArgs; rw [h1]; show (fArgs fs e1).bind _ = _; rw [h2]; rfl, q⟩
theorem ok_N (h : OkA fs e fun rs e1 => Us op rs e1 Q) : Ok (fN op fs) e Q := by
  obtain ⟨rs, e1, h1, d, m, h2, q⟩ := h
  exact ⟨_, _, by unfold fN; rw [h1]; exact h2, q⟩
theorem us_of {rs : List RV} {ds : List PyData} {d : PyData} {m : Nat} (h1 : derefs e rs = some ds) (h2 : op ds = some (d, m)) (h3 : (rs.any isBor && !flatAt m d) = false) (q : Q (.val d m) e) : Us op rs e Q :=
  ⟨d, m, by unfold use; rw [h1]; show (match op ds with | none => _ | some (r, m) => _) = _; rw [h2]; show (if (rs.any isBor && !flatAt m d) = true then _ else _) = _; rw [h3]; rfl, q⟩
theorem us_div {rs : List RV} {i j : Int} (h1 : derefs e rs = some [.int i, .int j]) (h2 : 0 < j ∧ j.natAbs.log2 < 9000) (q : Q (.val (.int (i / j)) 0) e) : Us oDiv rs e Q :=
  us_of (d := .int (i / j)) (m := 0) h1 (by simp only [oDiv, lift2, opInt, fDiv, if_pos h2]; rfl) (by show (_ && !true) = false; rw [Bool.not_true, Bool.and_false]) q
theorem us_mod {rs : List RV} {i j : Int} (h1 : derefs e rs = some [.int i, .int j]) (h2 : 0 < j) (q : Q (.val (.int (i % j)) 0) e) : Us oMod rs e Q :=
  us_of (d := .int (i % j)) (m := 0) h1 (by simp only [oMod, lift2, opInt, fMod, if_pos h2]; rfl) (by show (_ && !true) = false; rw [Bool.not_true, Bool.and_false]) q
theorem us_mul {rs : List RV} {i j : Int} (h1 : derefs e rs = some [.int i, .int j]) (h2 : (-o64 < i ∧ i < o64) ∨ (-o64 < j ∧ j < o64)) (q : Q (.val (.int (i * j)) 0) e) : Us oMul rs e Q :=
  us_of (d := .int (i * j)) (m := 0) h1 (by show (fMul i j).map _ = _; unfold fMul; rw [if_pos h2]; rfl) (by show (_ && !true) = false; rw [Bool.not_true, Bool.and_false]) q
theorem us_pow {rs : List RV} {i j : Int} (h1 : derefs e rs = some [.int i, .int j]) (h2 : 0 ≤ j ∧ j ≤ 1000000 ∧ i.natAbs < 2 ^ 64) (q : Q (.val (.int (i ^ j.toNat)) 0) e) : Us oPow rs e Q :=
  us_of (d := .int (i ^ j.toNat)) (m := 0) h1 (by simp only [oPow, lift2, opInt, fPow, if_pos h2]; rfl) (by show (_ && !true) = false; rw [Bool.not_true, Bool.and_false]) q
/-- an item of a list -/
theorem us_ixL {rs : List RV} {ds : List PyData} {i : Int} {d : PyData} (h1 : derefs e rs = some [.list ds, .int i]) (h2 : atI ds i = some d) (h3 : (rs.any isBor && !noMut d) = false) (q : Q (.val d 0) e) : Us oIx rs e Q :=
  us_of (d := d) (m := 0) h1 (by show (atI ds i).map _ = _; rw [h2]; rfl) h3 q
theorem us_ixT {rs : List RV} {ds : List PyData} {i : Int} {d : PyData} (h1 : derefs e rs = some [.tuple ds, .int i]) (h2 : atI ds i = some d) (h3 : (rs.any isBor && !noMut d) = false) (q : Q (.val d 0) e) : Us oIx rs e Q :=
  us_of (d := d) (m := 0) h1 (by show (atI ds i).map _ = _; rw [h2]; rfl) h3 q
theorem us_eq {rs : List RV} {a b : PyData} (h1 : derefs e rs = some [a, b]) (h2 : SeqAt.shaped a = true) (h3 : SeqAt.shaped b = true) (q : Q (.val (.bool (PyData.eqv a b)) 0) e) : Us oEq rs e Q :=
  us_of (d := .bool (PyData.eqv a b)) (m := 0) h1 (by show (if _ ∨ _ ∨ _ then some (PyData.bool (PyData.eqv a b)) else none).map _ = _; rw [if_pos (.inl ⟨h2, h3⟩)]; rfl) (by show (_ && !true) = false; rw [Bool.not_true, Bool.and_false]) q
theorem us_ne {rs : List RV} {a b : PyData} (h1 : derefs e rs = some [a, b]) (h2 : SeqAt.shaped a = true) (h3 : SeqAt.shaped b = true) (q : Q (.val (.bool (!PyData.eqv a b)) 0) e) : Us oNe rs e Q :=
  us_of (d := .bool (!PyData.eqv a b)) (m := 0) h1 (by show (if _ ∨ _ ∨ _ then some (PyData.bool (!PyData.eqv a b)) else none).map _ = _; rw [if_pos (.inl ⟨h2, h3⟩)]; rfl) (by show (_ && !true) = false; rw [Bool.not_true, Bool.and_false]) q
theorem us_neS {rs : List RV} {a b : Str} (h1 : derefs e rs = some [.str a, .str b]) (q : Q (.val (.bool (!PyData.eqv (.str a) (.str b))) 0) e) : Us oNe rs e Q :=
  us_of (d := .bool (!PyData.eqv (.str a) (.str b))) (m := 0) h1 (by show (if _ ∨ _ ∨ _ then some (PyData.bool (!PyData.eqv (.str a) (.str b))) else none).map _ = _; rw [if_pos (.inr (.inl ⟨rfl, rfl⟩))]; rfl) (by show (_ && !true) = false; rw [Bool.not_true, Bool.and_false]) q
theorem us_eqS {rs : List RV} {a b : Str} (h1 : derefs e rs = some [.str a, .str b]) (q : Q (.val (.bool (PyData.eqv (.str a) (.str b))) 0) e) : Us oEq rs e Q :=
  us_of (d := .bool (PyData.eqv (.str a) (.str b))) (m := 0) h1 (by show (if _ ∨ _ ∨ _ then some (PyData.bool (PyData.eqv (.str a) (.str b))) else none).map _ = _; rw [if_pos (.inr (.inl ⟨rfl, rfl⟩))]; rfl) (by show (_ && !true) = false; rw [Bool.not_true, Bool.and_false]) q
theorem eqv_isNil (a : List PyData) : PyData.eqv (.list a) (.list []) = a.isEmpty := by
  cases a with
  | nil => exact eqv_nil
  | cons _ _ => rfl
theorem us_eqNil {rs : List RV} {a : List PyData} (h1 : derefs e rs = some [.list a, .list []]) (q : Q (.val (.bool a.isEmpty) 0) e) : Us oEq rs e Q :=
  us_of (d := .bool a.isEmpty) (m := 0) h1 (by show (if _ ∨ _ ∨ _ then some (PyData.bool (PyData.eqv (.list a) (.list []))) else none).map _ = _; rw [if_pos (.inr (.inr rfl)), eqv_isNil]; rfl) (by show (_ && !true) = false; rw [Bool.not_true, Bool.and_false]) q
theorem us_neNil {rs : List RV} {a : List PyData} (h1 : derefs e rs = some [.list a, .list []]) (q : Q (.val (.bool (!a.isEmpty)) 0) e) : Us oNe rs e Q :=
  us_of (d := .bool (!a.isEmpty)) (m := 0) h1 (by show (if _ ∨ _ ∨ _ then some (PyData.bool (!PyData.eqv (.list a) (.list []))) else none).map _ = _; rw [if_pos (.inr (.inr rfl)), eqv_isNil]; rfl) (by show (_ && !true) = false; rw [Bool.not_true, Bool.and_false]) q
/-! ### tests -/
def Tb (f : Ev → Res RV) (e : Ev) (Q : Bool → Ev → Prop) : Prop := Ok f e fun r e1 => ∃ b n, r = .val (.bool b) n ∧ Q b e1
theorem ok_ite {P : RV → Ev → Prop} (h : Tb fc e fun b e1 => (b = true → Ok fa e1 P) ∧ (b = false → Ok fb e1 P)) : Ok (fIte fc fa fb) e P := by
  obtain ⟨r, e1, h1, b, n, rfl, h2, h3⟩ := h
  cases b with
  | true =>
    obtain ⟨s, e2, h4, q⟩ := h2 rfl
    exact ⟨s, e2, by unfold fIte; rw [h1]; exact h4, q⟩
  | false =>
    obtain ⟨s, e2, h4, q⟩ := h3 rfl
    exact ⟨s, e2, by unfold fIte; rw [h1]; exact h4, q⟩
theorem tb_of {P : Bool → Ev → Prop} (h : Ok fa e fun r e1 => ∃ b n, r = .val (.bool b) n ∧ P b e1) : Tb fa e P := h
theorem tb_and {P : Bool → Ev → Prop} (h : Tb fa e fun b e1 => (b = true → Tb fb e1 P) ∧ (b = false → P false e1)) : Tb (fAnd fa fb) e P :=
  ok_ite (h.mono fun r e1 ⟨b, n, er, h1, h2⟩ => ⟨b, n, er, h1, fun z => ok_c ⟨false, 0, rfl, h2 z⟩⟩)
theorem tb_or {P : Bool → Ev → Prop} (h : Tb fa e fun b e1 => (b = true → P true e1) ∧ (b = false → Tb fb e1 P)) : Tb (fOr fa fb) e P :=
  ok_ite (h.mono fun r e1 ⟨b, n, er, h1, h2⟩ => ⟨b, n, er, fun z => ok_c ⟨true, 0, rfl, h1 z⟩, h2⟩)
theorem tb_not {P : Bool → Ev → Prop} (h : Tb fa e fun b e1 => P (!b) e1) : Tb (fNot fa) e P :=
  ok_ite (h.mono fun r e1 ⟨b, n, er, h1⟩ => ⟨b, n, er, fun z => ok_c ⟨false, 0, rfl, by rw [z] at h1; exact h1⟩, fun z => ok_c ⟨true, 0, rfl, by rw [z] at h1; exact h1⟩⟩)
theorem ok_tb {P : RV → Ev → Prop} (h : Tb fa e fun b e1 => P (.val (.bool b) 0) e1) (h0 : ∀ b n e1, fa e = .ok (.val (.bool b) n) e1 → n = 0) : Ok fa e P := by
  obtain ⟨r, e1, h1, b, n, rfl, q⟩ := h
  have := h0 b n e1 h1
  subst this
  exact ⟨_, _, h1, q⟩
/-! ### statements -/
variable {N : Ev → Prop} {R : PyData → Nat → Ev → Prop} {B C : Ev → Prop}
theorem Ru.mono {f : Ev → SRes} {N' : Ev → Prop} {R' : PyData → Nat → Ev → Prop} {B' C' : Ev → Prop} (h : Ru f e N R B C) (h1 : ∀ e, N e → N' e) (h2 : ∀ d n e, R d n e → R' d n e) (h3 : ∀ e, B e → B' e) (h4 : ∀ e, C e → C' e) : Ru f e N' R' B' C' := by
  have h := h.ok
  refine ⟨?_⟩
  unfold RuM at h ⊢
  cases q : f e with
  | nx e1 => simp only [q] at h ⊢; exact h1 _ h
  | rt d n e1 => simp only [q] at h ⊢; exact h2 _ _ _ h
  | bk e1 => simp only [q] at h ⊢; exact h3 _ h
  | ct e1 => simp only [q] at h ⊢; exact h4 _ h
  | exc c e1 => simp only [q] at h
  | no => simp only [q] at h
theorem ru_seq {f g : Ev → SRes} (h : Ru f e (fun e1 => Ru g e1 N R B C) R B C) : Ru (fSeq f g) e N R B C := by
  have h := h.ok
  refine ⟨?_⟩
  unfold RuM at h ⊢
  unfold fSeq SRes.bind
  cases q : f e with
  | nx e1 => simp only [q] at h ⊢; exact h.ok
  | rt d n e1 => simp only [q] at h ⊢; exact h
  | bk e1 => simp only [q] at h ⊢; exact h
  | ct e1 => simp only [q] at h ⊢; exact h
  | exc c e1 => simp only [q] at h
  | no => simp only [q] at h
theorem ru_nx (h : N e) : Ru fNx e N R B C := ⟨h⟩
theorem ru_bk (h : B e) : Ru fBk e N R B C := ⟨h⟩
theorem ru_ct (h : C e) : Ru fCt e N R B C := ⟨h⟩
theorem ru_toS {k : RV → Ev → SRes} (h : Ok fa e fun r e1 => Ru (k r) e1 N R B C) : Ru (fun e => (fa e).toS k) e N R B C := by
  obtain ⟨r, e1, h1, h2⟩ := h
  refine ⟨?_⟩
  unfold RuM
  simp only [h1, Res.toS]
  exact h2.ok
theorem ru_set {i : Nat} (h : Ok fa e fun r e1 => ∃ e2, putR i r e1 = some e2 ∧ N e2) : Ru (fSet i fa) e N R B C := ru_toS (h.mono fun r e1 ⟨e2, h1, h2⟩ => by
  refine ⟨?_⟩
  unfold RuM
  simp only [h1]
  exact h2)
theorem ru_drop (h : Ok fa e fun _ e1 => N e1) : Ru (fDrop fa) e N R B C := ru_toS (h.mono fun r e1 q => ⟨q⟩)
/-- what a return gives -/
def Rt (R : PyData → Nat → Ev → Prop) (r : RV) (e : Ev) : Prop := match r with
  | .val d n => R d n e
  | .bor j => ∃ d n, e[j]? = some (some (.dt d n)) ∧ R d n (e.set j none)
  | .ex _ => False
theorem rt_val {d : PyData} {n : Nat} (h : R d n e) : Rt R (.val d n) e := h
theorem rt_bor {j : Nat} {d : PyData} {n : Nat} (h1 : e[j]? = some (some (.dt d n))) (h : R d n (e.set j none)) : Rt R (.bor j) e := ⟨d, n, h1, h⟩
theorem ru_ret (h : Ok fa e (Rt R)) : Ru (fRet fa) e N R B C := ru_toS (h.mono fun r e1 q => by
  cases r with
  | val d n => exact ⟨q⟩
  | ex c => exact q.elim
  | bor j =>
    obtain ⟨d, n, h1, h2⟩ := q
    refine ⟨?_⟩
    unfold RuM
    simp only [h1]
    exact h2)
theorem ru_if {f g : Ev → SRes} (h : Tb fc e fun b e1 => (b = true → Ru f e1 N R B C) ∧ (b = false → Ru g e1 N R B C)) : Ru (fIf fc f g) e N R B C := by
  obtain ⟨r, e1, h1, b, n, rfl, h2, h3⟩ := h
  refine ⟨?_⟩
  unfold RuM fIf
  simp only [h1, Res.toS]
  cases b with
  | true => exact (h2 rfl).ok
  | false => exact (h3 rfl).ok
theorem ru_asg {ft : Tgt} (h : Ok fa e fun r e1 => ∃ d e2 e3, settle [r] e1 = some ([d], e2) ∧ ft d e2 = some e3 ∧ N e3) : Ru (fAsg ft fa) e N R B C := ru_toS (h.mono fun r e1 ⟨d, e2, e3, h1, h2, h3⟩ => by
  refine ⟨?_⟩
  unfold RuM
  simp only [h1, h2]
  exact h3)
/-! ### displays, slices -/
theorem ok_lst (h : OkA fs e fun rs e1 => ∃ ds e2, settle rs e1 = some (ds, e2) ∧ ds.length ≤ 1000 ∧ Q (.val (.list ds) 1) e2) : Ok (fLst fs) e Q := by
  obtain ⟨rs, e1, h1, ds, e2, h2, h3, q⟩ := h
  exact ⟨_, _, by unfold fLst; rw [h1]; show (match settle rs e1 with | some (ds, e2) => _ | none => _) = _; rw [h2]; show (if ds.length ≤ 1000 then _ else _) = _; rw [if_pos h3], q⟩
theorem ok_tup (h : OkA fs e fun rs e1 => ∃ ds e2, settle rs e1 = some (ds, e2) ∧ ds.length ≤ 1000 ∧ Q (.val (.tuple ds) 0) e2) : Ok (fTup fs) e Q := by
  obtain ⟨rs, e1, h1, ds, e2, h2, h3, q⟩ := h
  exact ⟨_, _, by unfold fTup; rw [h1]; show (match settle rs e1 with | some (ds, e2) => _ | none => _) = _; rw [h2]; show (if ds.length ≤ 1000 then _ else _) = _; rw [if_pos h3], q⟩
def OkP (f : Option (Ev → Res RV)) (e : Ev) (Q : Option Int → Ev → Prop) : Prop := Ok (fPart f) e Q
theorem okp_n {P : Option Int → Ev → Prop} (h : P none e) : OkP none e P := ⟨_, _, rfl, h⟩
theorem okp_s {P : Option Int → Ev → Prop} (h : Ok fa e fun r e1 => ∃ i n, r = .val (.int i) n ∧ P (some i) e1) : OkP (some fa) e P := by
  obtain ⟨r, e1, h1, i, n, rfl, q⟩ := h
  exact ⟨_, _, by unfold fPart; simp only; rw [h1]; rfl, q⟩
theorem ok_sl {fl fh : Option (Ev → Res RV)} (h : Ok fa e fun r e1 => OkP fl e1 fun lo e2 => OkP fh e2 fun hi e3 => Us (oSl lo hi) [r] e3 Q) : Ok (fSl fa fl fh) e Q := by
  obtain ⟨r, e1, h1, lo, e2, h2, hi, e3, h3, d, m, h4, q⟩ := h
  exact ⟨_, _, by unfold fSl; rw [h1]; show (fPart fl e1).bind _ = _; rw [h2]; show (fPart fh e2).bind _ = _; rw [h3]; exact h4, q⟩
/-! ### calls -/
theorem Ca.mono {F : Den} {as : List Vl} {R R' : PyData → Nat → PyData → Prop} (h : Ca F as R) (k : ∀ d n o, R d n o → R' d n o) : Ca F as R' := let ⟨d, n, o, h1, h2⟩ := h; ⟨d, n, o, h1, k d n o h2⟩
theorem ok_call {np : Nat} {F : Den} (h : OkA fs e fun rs e1 => ∃ as e2, settleV rs e1 = some (as, e2) ∧ as.length = np ∧ Ca F as fun d n _ => Q (.val d n) e2) : Ok (fCall np F fs) e Q := by
  obtain ⟨rs, e1, h1, as, e2, h2, h3, d, n, o, h4, q⟩ := h
  exact ⟨_, _, by unfold fCall; rw [h1]; show callK np F rs e1 = _; unfold callK; rw [h2]; simp only; rw [if_pos h3, h4], q⟩
theorem ok_io {np : Nat} {F : Den} {i : Nat} {d0 : PyData} {n0 : Nat} (h0 : e[i]? = some (some (.dt d0 n0))) (h : OkA fs e fun rs e1 => ∃ w as e2, e1[i]? = some (some (.dt w 1)) ∧ settleV rs (e1.set i none) = some (as, e2) ∧ as.length + 1 = np ∧ Ca F (.dt w 1 :: as) fun d n o => Q (.val d n) (e2.set i (some (.dt o 1)))) : Ok (fCallIo np F i fs) e Q := by
  obtain ⟨rs, e1, h1, w, as, e2, hw, h2, h3, d, n, o, h4, q⟩ := h
  exact ⟨_, _, by unfold fCallIo; simp only [h0]; rw [h1]; show ioK np F i rs e1 = _; unfold ioK; simp only [hw, h2]; rw [if_pos h3, h4], q⟩
theorem ok_menu {np : Nat} {Fs : List Den} (h : Ok fa e fun r e1 => ∃ k n F, r = .val (.int k) n ∧ atI Fs k = some F ∧ OkA fs e1 fun rs e2 => ∃ as e3, settleV rs e2 = some (as, e3) ∧ as.length = np ∧ Ca F as fun d n _ => Q (.val d n) e3) : Ok (fMenu np Fs fa fs) e Q := by
  obtain ⟨r, e1, h1, k, n, F, rfl, hk, rs, e2, h2, as, e3, h3, h4, d, m, o, h5, q⟩ := h
  exact ⟨_, _, by unfold fMenu; rw [h1]; show (match atI Fs k with | some F => _ | none => _) = _; rw [hk]; show (fArgs fs e1).bind _ = _; rw [h2]; show callK np F rs e2 = _; unfold callK; rw [h3]; simp only; rw [if_pos h4, h5], q⟩
theorem ca_run {io : Bool} {M : Nat} {fb : Ev → SRes} {as : List Vl} {R : PyData → Nat → PyData → Prop} {e0 : Ev} (he : as.map some ++ List.replicate (M - as.length) none = e0) (h : Ru fb e0 (fun e' => ∃ o, ioOf io e' = some o ∧ R .none 0 o) (fun d n e' => ∃ o, ioOf io e' = some o ∧ R d n o) nope nope) : Ca (runDef io M fb) as R := by
  subst he
  have h := h.ok
  unfold RuM at h
  unfold Ca runDef
  cases q : fb (as.map some ++ List.replicate (M - as.length) none) with
  | nx e1 => rw [q] at h; obtain ⟨o, h1, h2⟩ := h; exact ⟨_, _, o, by simp only [h1], h2⟩
  | rt d n e1 => rw [q] at h; obtain ⟨o, h1, h2⟩ := h; exact ⟨_, _, o, by simp only [h1], h2⟩
  | bk e1 => rw [q] at h; exact h.elim
  | ct e1 => rw [q] at h; exact h.elim
  | exc c e1 => rw [q] at h; exact h.elim
  | no => rw [q] at h; exact h.elim
/-! ### methods that change -/
theorem ok_met {T : String} {m : MOp} {i : Nat} {d0 : PyData} (h0 : e[i]? = some (some (.dt d0 1))) (ht : typD T d0 = true) (h : OkA fs e fun rs e1 => ∃ as e2 d d' r, settle rs e1 = some (as, e2) ∧ e2[i]? = some (some (.dt d 1)) ∧ typD T d = true ∧ m d as = some (d', r) ∧ Q (.val r 0) (e2.set i (some (.dt d' 1)))) : Ok (fMet T m i fs) e Q := by
  obtain ⟨rs, e1, h1, as, e2, d, d', r, h2, h3, h4, h5, q⟩ := h
  exact ⟨_, _, by unfold fMet; simp only [h0]; rw [if_pos ht, h1]; show metK T m i rs e1 = _; unfold metK; simp only [h2, h3]; rw [if_pos h4, h5], q⟩
/-! ### loops -/
theorem ok_it1 {k : List PyData → Option (List PyData)} {P : List PyData → Ev → Prop} (h : Ok fa e fun r e1 => ∃ ds e2 l, settle [r] e1 = some (ds, e2) ∧ k ds = some l ∧ P l e2) : Ok (fIt1 k fa) e P := by
  obtain ⟨r, e1, h1, ds, e2, l, h2, h3, q⟩ := h
  exact ⟨_, _, by unfold fIt1; rw [h1]; show (match settle [r] e1 with | some (ds, e2) => _ | none => _) = _; rw [h2]; show (match k ds with | some l => _ | none => _) = _; rw [h3], q⟩
theorem ok_it {k : List PyData → Option (List PyData)} {P : List PyData → Ev → Prop} (h : OkA fs e fun rs e1 => ∃ ds e2 l, settle rs e1 = some (ds, e2) ∧ k ds = some l ∧ P l e2) : Ok (fIt k fs) e P := by
  obtain ⟨rs, e1, h1, ds, e2, l, h2, h3, q⟩ := h
  exact ⟨_, _, by unfold fIt; rw [h1]; show (match settle rs e1 with | some (ds, e2) => _ | none => _) = _; rw [h2]; show (match k ds with | some l => _ | none => _) = _; rw [h3], q⟩
/-- a for loop by an invariant over what is done -/
theorem loop_inv {ft : Tgt} {fb : Ev → SRes} (I : List PyData → Ev → Prop) (all : List PyData)
    (step : ∀ done d rest e, all = done ++ d :: rest → I done e → ∃ e1, ft d e = some e1 ∧ Ru fb e1 (I (done ++ [d])) R N (I (done ++ [d]))) (fin : ∀ e, I all e → N e) :
    ∀ (rest done : List PyData) (e : Ev), all = done ++ rest → I done e → Ru (loopF ft fb rest) e N R B C
  | [], done, e, ha, hi => by
    rw [List.append_nil] at ha
    exact ⟨fin e (ha ▸ hi)⟩
  | d :: rest, done, e, ha, hi => by
    obtain ⟨e1, h1, h2⟩ := step done d rest e ha hi
    have go : ∀ e2, I (done ++ [d]) e2 → Ru (loopF ft fb rest) e2 N R B C := fun e2 h => loop_inv I all step fin rest (done ++ [d]) e2 (by rw [ha, List.append_assoc]; rfl) h
    have h2 := h2.ok
    have go := fun e2 h => (go e2 h).ok
    refine ⟨?_⟩
    unfold RuM at h2 go ⊢
    unfold loopF
    simp only [h1]
    cases q : fb e1 with
    | nx e2 => simp only [q] at h2 ⊢; exact go e2 h2
    | ct e2 => simp only [q] at h2 ⊢; exact go e2 h2
    | bk e2 => simp only [q] at h2 ⊢; exact h2
    | rt d n e2 => simp only [q] at h2 ⊢; exact h2
    | exc c e2 => simp only [q] at h2
    | no => simp only [q] at h2
theorem ru_for {fi : Ev → Res (List PyData)} {ft : Tgt} {fb : Ev → SRes} (h : Ok fi e fun all e1 => ∃ I : List PyData → Ev → Prop, I [] e1 ∧ (∀ done d rest e, all = done ++ d :: rest → I done e → ∃ e1, ft d e = some e1 ∧ Ru fb e1 (I (done ++ [d])) R N (I (done ++ [d]))) ∧ ∀ e, I all e → N e) : Ru (fFor fi ft fb) e N R B C := by
  obtain ⟨all, e1, h1, I, i0, st, fin⟩ := h
  have := loop_inv (B := B) (C := C) I all st fin all [] e1 rfl i0
  have this := this.ok
  refine ⟨?_⟩
  unfold RuM at this ⊢
  unfold fFor
  simp only [h1, Res.toS]
  exact this
/-- a comprehension by an invariant over what is done and what is found -/
theorem lc_inv {ft : Tgt} {fc fe : Ev → Res RV} {own : List Nat} {P : List PyData → Ev → Prop} (I : List PyData → List PyData → Ev → Prop) (all : List PyData)
    (step : ∀ done acc d rest e, all = done ++ d :: rest → I done acc e → ∃ e0 e1, wipeE e own = some e0 ∧ ft d e0 = some e1 ∧ Tb fc e1 fun b e2 => (b = true → Ok fe e2 fun r e3 => ∃ y e4, settle [r] e3 = some ([y], e4) ∧ I (done ++ [d]) (acc ++ [y]) e4) ∧ (b = false → I (done ++ [d]) acc e2))
    (fin : ∀ acc e, I all acc e → P acc e) :
    ∀ (rest done acc : List PyData) (e : Ev), all = done ++ rest → I done acc e → Ok (loopC ft fc fe own rest acc) e P
  | [], done, acc, e, ha, hi => by
    rw [List.append_nil] at ha
    exact ⟨acc, e, rfl, fin acc e (ha ▸ hi)⟩
  | d :: rest, done, acc, e, ha, hi => by
    obtain ⟨e0, e1, h0, h1, r, e2, h2, b, n, rfl, ht, hf⟩ := step done acc d rest e ha hi
    have go : ∀ acc e2, I (done ++ [d]) acc e2 → Ok (loopC ft fc fe own rest acc) e2 P := fun acc e2 h => lc_inv I all step fin rest (done ++ [d]) acc e2 (by rw [ha, List.append_assoc]; rfl) h
    cases b with
    | false =>
      obtain ⟨a, e3, h3, q⟩ := go acc e2 (hf rfl)
      exact ⟨a, e3, by unfold loopC; simp only [h0, h1, h2]; exact h3, q⟩
    | true =>
      obtain ⟨r, e3, h3, y, e4, h4, hi'⟩ := ht rfl
      obtain ⟨a, e5, h5, q⟩ := go (acc ++ [y]) e4 hi'
      exact ⟨a, e5, by unfold loopC; simp only [h0, h1, h2, h3, h4]; exact h5, q⟩
theorem ok_lc {fi : Ev → Res (List PyData)} {ft : Tgt} {own : List Nat} (h : Ok fi e fun all e1 => all.length ≤ most ∧ (∃ x, wipeE e1 own = some x) ∧ ∃ I : List PyData → List PyData → Ev → Prop, I [] [] e1 ∧
    (∀ done acc d rest e, all = done ++ d :: rest → I done acc e → ∃ e0 e1, wipeE e own = some e0 ∧ ft d e0 = some e1 ∧ Tb fc e1 fun b e2 => (b = true → Ok fa e2 fun r e3 => ∃ y e4, settle [r] e3 = some ([y], e4) ∧ I (done ++ [d]) (acc ++ [y]) e4) ∧ (b = false → I (done ++ [d]) acc e2)) ∧
    ∀ acc e2, I all acc e2 → Q (.val (.list acc) 1) (unwipe e1 e2 own)) : Ok (fLc fi ft fc fa own) e Q := by
  obtain ⟨all, e1, h1, hl, ⟨x, hw⟩, I, i0, st, fin⟩ := h
  obtain ⟨acc, e2, h2, q⟩ := lc_inv (P := fun acc e2 => Q (.val (.list acc) 1) (unwipe e1 e2 own)) I all st fin all [] [] e1 rfl i0
  exact ⟨_, _, by unfold fLc; rw [h1]; show (if all.length ≤ most then _ else _) = _; rw [if_pos hl]; simp only [hw, h2], q⟩
theorem tb_yes {P : Bool → Ev → Prop} (h : P true e) : Tb fYes e P := ⟨_, _, rfl, true, 0, rfl, h⟩
end
end PV

/-! PVV: dict displays with pairs, d.get(k, x). -/
namespace PV
open PySem PySem.Spec PyProof.Rows L2

/-! ### displays -/
abbrev FF := (Ev → Res RV) × (Ev → Res RV)
def flat2 : List FF → List (Ev → Res RV)
  | [] => []
  | (k, v) :: r => k :: v :: flat2 r
def pairUp : List V → List (V × V)
  | x :: y :: r => (x, y) :: pairUp r
  | _ => []
def dispOf : List PyData → Option (List (Key × PyData))
  | [] => some []
  | k :: v :: r => match keyOf k with
    | some k => (dispOf r).map ((k, v) :: ·)
    | none => none
  | _ => none
def fDisp (ps : List FF) (e : Ev) : Res RV := (fArgs (flat2 ps) e).bind fun rs e1 => match settle rs e1 with
  | some (ds, e2) => (match dispOf ds with
    | some l => if l.length ≤ 15 then .ok (.val (.dict (dmerge l [])) 1) e2 else .no
    | none => .no)
  | none => .no
theorem pairs_args {G : Gx} {W : WX} : ∀ (l : List FF) (σ : L2.St) (H : Hp) (Q : List (V × V) → Hp → Prop), tPairs (l.map fun p => (tR G W p.1, tR G W p.2)) σ H Q = tArgs G W (flat2 l) σ H (fun vs H' => Q (pairUp vs) H')
  | [], σ, H, Q => rfl
  | (k, v) :: r, σ, H, Q => by
    show tR G W k σ H (fun x H1 => tR G W v σ H1 fun y H2 => tPairs (r.map fun p => (tR G W p.1, tR G W p.2)) σ H2 fun ps H3 => Q ((x, y) :: ps) H3) = tR G W k σ H (fun x H1 => tR G W v σ H1 fun y H2 => tArgs G W (flat2 r) σ H2 fun vs H3 => Q (pairUp (x :: y :: vs)) H3)
    congr 1
    funext x H1
    congr 1
    funext y H2
    exact pairs_args r σ H2 fun ps H3 => Q ((x, y) :: ps) H3
theorem disp_rp {K : PySem.W.Frag} {S : Hp} : ∀ {vs : List V} {ds : List PyData} {l : List (Key × PyData)}, RpL K S vs ds → dispOf ds = some l →
    ∃ kvs : List (Key × V), pairUp vs = kvs.map (fun kv => (kV kv.1, kv.2)) ∧ kvs.length = l.length ∧ ∀ ks es, RpK K S ks es → RpK K S (mergeK ks kvs) (dmerge l es)
  | _, _, l, .nil, h => by
    cases h
    exact ⟨[], rfl, rfl, fun ks es h => h⟩
  | _, _, l, .cons _ .nil, h => by cases h
  | _, _, l, .cons (v := x) (d := dk) a (.cons (v := y) (vs := vs) (ds := ds) b t), h => by
    unfold dispOf at h
    cases hk : keyOf dk with
    | none => rw [hk] at h; cases h
    | some k =>
      rw [hk] at h
      cases hr : dispOf ds with
      | none => simp only [hr] at h; cases h
      | some l' =>
        simp only [hr] at h
        cases h
        obtain ⟨kvs, e1, e2, e3⟩ := disp_rp t hr
        have ek := keyOf_kD hk
        subst ek
        have ex := rp_key a
        subst ex
        refine ⟨(k, y) :: kvs, ?_, congrArg (· + 1) e2, fun ks es hh => e3 _ _ (hh.put b k)⟩
        show (kV k, y) :: pairUp vs = _
        rw [e1]; rfl
section
variable {G : Gx} {S H S1 H1 : Hp} {σ : L2.St} {e e1 : Ev} {A A1 : List Addr} {p : Addr}
/-- an object of nobody's is laid -/
theorem Step.lay (R : Cu G S H σ e A []) (hp : H p = none) {o : HO} : Step S A H S A (upd H p o) := by
  have sm : Same H (upd H p o) := fun b u z => by rw [upd_ne (ne_of_none z hp)]; exact z
  refine ⟨fun b u z _ => sm b u z, fun b z => ?_, Same.refl S, fun b u z => .inl z, fun a ha => .inl ha⟩
  cases y : H b with
  | none => exact absurd y z
  | some u => rw [sm b u y]; exact fun w => nomatch w
/-- the display's dict gets its pairs -/
theorem Cu.fillDic {kvs : List (Key × V)} {ds : List (PyData × PyData)} (R : Cu G S H σ e A []) (hp : H p = none) (R1 : Cu G S1 H1 σ e1 A1 []) (st : Step S A (upd H p (.dK [])) S1 A1 H1) (rp : RpK G.K S1 kvs ds) :
    H1 p = some (.dK []) ∧ Cu G S1 (upd H1 p (.dK kvs)) σ e1 A1 [⟨.val (.dict ds) 1, .ref p, [p]⟩] ∧ Step S A H S1 (A1 ++ [p]) (upd H1 p (.dK kvs)) := by
  have pA : p ∉ A := fun z => R.trk (List.mem_append_left _ z) hp
  have h1 : H1 p = some (.dK []) := st.frame p _ upd_same pA
  have pS : S p = none := by
    cases z : S p with
    | none => rfl
    | some o => rw [R.sub p o z] at hp; cases hp
  have pS1 : S1 p = none := by
    cases z : S1 p with
    | none => rfl
    | some o =>
      rcases st.subF p o z with y | y | y
      · rw [pS] at y; cases y
      · rw [upd_same] at y; cases y
      · exact absurd y pA
  have pA1 : p ∉ A1 := fun z => by
    rcases st.own p z with y | y
    · exact pA y
    · rw [upd_same] at y; cases y
  have nA : A1.Nodup := nodup_nil.mp R1.nod
  have sub1 : Same S1 (upd H1 p (.dK kvs)) := fun b o z => by
    rw [upd_ne (fun y => by rw [y, pS1] at z; cases z)]; exact R1.sub b o z
  refine ⟨h1, ⟨sub1, ?_, ?_, R1.slots.keep (Same.refl S1) fun b hb o z => by rw [upd_ne (fun y => by rw [y] at hb; exact pA1 hb)]; exact z, ?_⟩, ?_⟩
  · rw [fps_one]
    refine nodup_app.mpr ⟨nA, List.nodup_cons.mpr ⟨List.not_mem_nil, List.nodup_nil⟩, fun a ha z => ?_⟩
    rw [List.mem_singleton] at z
    exact pA1 (by rw [← z]; exact ha)
  · intro a ha
    rw [fps_one] at ha
    rcases List.mem_append.mp ha with z | z
    · exact R1.off a (List.mem_append_left _ z)
    · rw [List.mem_singleton] at z
      rw [z]; exact pS1
  · intro t ht
    rw [List.mem_singleton] at ht
    subst ht
    exact Own.newDic rp
  · have back : ∀ b, upd H p (.dK []) b = none → H b = none := fun b z => by
      by_cases hb : b = p
      · rw [hb]; exact hp
      · rw [upd_ne hb] at z; exact z
    refine ⟨fun b o z hb => ?_, fun b z => ?_, st.sub, fun b o z => ?_, fun a ha => ?_⟩
    · have nb : b ≠ p := ne_of_none z hp
      rw [upd_ne nb]
      exact st.frame b o (by rw [upd_ne nb]; exact z) hb
    · by_cases hb : b = p
      · rw [hb, upd_same]; exact fun w => nomatch w
      · rw [upd_ne hb]
        exact st.grow b (by rw [upd_ne hb]; exact z)
    · rcases st.subF b o z with y | y | y
      · exact .inl y
      · exact .inr (.inl (back b y))
      · exact .inr (.inr y)
    · rcases List.mem_append.mp ha with z | z
      · rcases st.own a z with y | y
        · exact .inl y
        · exact .inr (back a y)
      · rw [List.mem_singleton] at z
        rw [z]; exact .inr hp
end
section
variable {X : Cx} {W : WX} {pos : Pos}
theorem ee_disp {keys : List (Option Expr)} {values : List Expr} {ps : List FF} (h : PPs X pos keys values (ps.map fun p => (tR (gx X) W p.1, tR (gx X) W p.2))) (hall : keys.all (·.isSome) = true := by rfl) (hl : keys.length = values.length := by rfl) (h0 : keys ≠ [] := by exact fun z => nomatch z)
    (h15 : keys.length ≤ 15 := by decide) : EE X W (.Dict keys values pos) (fDisp ps) :=
  PE.imp (pe_disp h hall hl h0 h15) fun σ H Q q => by
    obtain ⟨S, e, A, C, q⟩ := q
    intro p hp
    rw [pairs_args]
    have C0 : Cu (gx X) S (upd H p (.dK [])) σ e A [] := (C.newDic hp).1.base
    refine tArgs_next (G := gx X) C0 (S0 := S) (A0 := A) (H0 := upd H p (.dK [])) Step.refl0 ?_
    have q' : PostE (gx X) W S H σ A Q ((fArgs (flat2 ps) e).bind _) := q
    cases r : fArgs (flat2 ps) e with
    | no => rw [r] at q'; exact q'
    | exc c e1 =>
      rw [r] at q'
      intro H' S' A' C' hC R' st'
      exact q' H' S' A' C' hC R' ((Step.lay C hp).trans st')
    | ok rs e1 =>
      rw [r] at q'
      intro us H1 S1 A1 eu R1 st1
      subst eu
      have R1' : Cu (gx X) S1 H1 σ e1 A1 us := R1
      have q2 : PostE (gx X) W S H σ A Q (match settle (us.map (·.r)) e1 with | some (ds, e2) => (match dispOf ds with | some l => if l.length ≤ 15 then .ok (.val (.dict (dmerge l [])) 1) e2 else .no | none => .no) | none => .no) := q'
      cases r2 : settle (us.map (·.r)) e1 with
      | none => rw [r2] at q2; exact q2.elim
      | some w =>
        obtain ⟨ds, e2⟩ := w
        rw [r2] at q2
        simp only at q2
        cases r3 : dispOf ds with
        | none => rw [r3] at q2; exact q2.elim
        | some l =>
          rw [r3] at q2
          simp only at q2
          by_cases hz : l.length ≤ 15
          · rw [if_pos hz] at q2
            obtain ⟨S2, A2, R2, rp, st2⟩ := settle_ok R1' r2
            obtain ⟨kvs, e3, e4, e5⟩ := disp_rp rp r3
            obtain ⟨h1, R3, st3⟩ := C.fillDic hp R2 (st1.trans st2) (e5 [] [] .nil)
            exact ⟨h1, kvs, e3, by rw [e4]; exact hz, q2 _ _ _ _ _ R3 st3⟩
          · rw [if_neg hz] at q2; exact q2.elim

/-! ### d.get(k, x) -/
def isDic : PyData → Bool
  | .dict _ => true
  | _ => false
def fMd (op : Op) (f0 : Ev → Res RV) (fs : List (Ev → Res RV)) (e : Ev) : Res RV := (f0 e).bind fun r e1 => match deref e1 r with
  | some d => if isDic d = true then (fArgs fs e1).bind fun rs e2 => use op (r :: rs) e2 else .no
  | none => .no
theorem addH_rd {S H : Hp} {l : List Addr} (h : Same S H) {a : Addr} {u : HO} (r : Rd (addH S H l) a u) : Rd H a u := Same.rd (addH_same h l) r
theorem md_go {G : Gx} {σ : L2.St} {H : Hp} {Q : VK} {op : Op} {f0 : Ev → Res RV} {fs : List (Ev → Res RV)} {r : V → List V → Hp → VK → Prop} (hp : Prim G.K (fun vs H Q => ∀ x xs, vs = x :: xs → r x xs H Q) op) (q : tR G W (fMd op f0 fs) σ H Q) :
    tR G W f0 σ H fun x H1 => ∃ a, x = .ref a ∧ IsD H1 a ∧ tArgs G W fs σ H1 fun xs H2 => r x xs H2 Q := by
  obtain ⟨S, e, A, C, q⟩ := q
  refine tR_next C (S0 := S) (A0 := A) (H0 := H) Step.refl0 ?_
  unfold fMd at q
  cases r1 : f0 e with
  | no => rw [r1] at q; exact q
  | exc c e1 => rw [r1] at q; exact q
  | ok rv e1 =>
    rw [r1] at q
    intro v H1 S1 A1 g R1 st1
    have R1' : Cu G S1 H1 σ e1 A1 [⟨rv, v, g⟩] := R1
    have q2 : PostE G W S H σ A Q (match deref e1 rv with | some d => (if isDic d = true then (fArgs fs e1).bind fun rs e2 => use op (rv :: rs) e2 else .no) | none => .no) := q
    cases r2 : deref e1 rv with
    | none => rw [r2] at q2; exact q2.elim
    | some d =>
      rw [r2] at q2
      simp only at q2
      by_cases ht : isDic d = true
      · rw [if_pos ht] at q2
        have rp : RpL G.K (addH S1 H1 (A1 ++ fps [⟨rv, v, g⟩])) [v] [d] := derefs_ok (ts := [⟨rv, v, g⟩]) R1'.sub R1'.slots R1'.tmps (fun a ha => List.mem_append_right _ ha) (fun _ a ha => List.mem_append_left _ ha) (by show derefs e1 [rv] = some [d]; unfold derefs; rw [r2]; rfl)
        have rp1 := (rp_one rp rfl).mn (addH_same R1'.sub _)
        cases rp1 with
        | dic h1 h2 =>
          rename_i a kvs ds
          refine ⟨a, rfl, .inl ⟨kvs, h1⟩, tArgs_next R1 st1 ?_⟩
          cases r3 : fArgs fs e1 with
          | no => rw [r3] at q2; exact q2
          | exc c e2 => rw [r3] at q2; exact q2
          | ok rs e2 =>
            rw [r3] at q2
            intro us H2 S2 A2 eu R2 st2
            subst eu
            exact use_ok (ts := ⟨rv, .ref a, g⟩ :: us) (R := fun vs H Q => ∀ x xs, vs = x :: xs → r x xs H Q) hp R2 st2 q2 (.ref a) _ rfl
        | _ => cases ht
      · rw [if_neg ht] at q2; exact q2.elim
def oGet2 : Op := fun ds => match ds with
  | [.dict l, k, x] => match keyOf k with
    | some kk => some ((dget l kk).getD x, 0)
    | none => none
  | _ => none
def rGet2 (x : V) (xs : List V) (H : Hp) (Q : VK) : Prop := ∃ a y z o, x = .ref a ∧ xs = [y, z] ∧ DGet H a y o ∧ Q (o.getD z) H
theorem p_get2 {K : PySem.W.Frag} : Prim K (fun vs H Q => ∀ x xs, vs = x :: xs → rGet2 x xs H Q) oGet2 := fun vs ds S H Q r m rp sb e q x xs ev => by
  unfold oGet2 at e
  split at e
  · rename_i l k d
    cases hk : keyOf k with
    | none => rw [hk] at e; cases e
    | some kk =>
      rw [hk] at e
      cases e
      cases rp with
      | cons ha rest =>
        obtain ⟨y, z, rfl, hy, hz⟩ := rp_two' rest
        cases ev
        have ek := keyOf_kD hk
        subst ek
        have ey := rp_key hy
        subst ey
        cases ha with
        | dic h1 h2 =>
          rename_i a kvs
          refine ⟨a, kV kk, z, _, rfl, rfl, .inl ⟨kvs, kk, Same.rd sb h1, rfl, rfl⟩, ?_⟩
          have f := h2.find kk
          cases hd : dget l kk with
          | none =>
            rw [hd] at q
            rw [f.2 hd]
            exact q _ _ _ _ (Made.refl sb) ⟨rfl, hz⟩
          | some d' =>
            rw [hd] at q
            obtain ⟨v, hv, rv⟩ := f.1 d' hd
            rw [hv]
            exact q _ _ _ _ (Made.refl sb) ⟨rfl, rv⟩
  · cases e
theorem ee_get2 {o a b : Expr} {f0 fa fb : Ev → Res RV} {apos cpos : Pos} (hu : X.A.units + 1 < cLine) (ho : EE X W o f0) (ha : EE X W a fa) (hb : EE X W b fb) (m : M2 X o "get" apos a b cpos := by exact ⟨by rfl, by rfl, by rfl, by rfl⟩) : EE X W (.Call (.Attribute o "get" apos) [a, b] [] cpos) (fMd oGet2 f0 [fa, fb]) :=
  PE.imp (pe_dget2 hu ho ha hb m) fun σ H Q q => by
    refine tR_mono (md_go (G := gx X) p_get2 q) fun x H1 h => ?_
    obtain ⟨a, rfl, hd, h⟩ := h
    refine ⟨a, rfl, hd, ?_⟩
    have h' : tR (gx X) W fa σ H1 fun y H2 => tR (gx X) W fb σ H2 fun z H3 => rGet2 (.ref a) [y, z] H3 Q := h
    refine tR_mono h' fun y H2 h => ?_
    refine tR_mono h fun z H3 h => ?_
    obtain ⟨a', y', z', o, e1, e2, g, q⟩ := h
    cases e1
    cases e2
    exact ⟨o, g, q⟩
end

/-! ### their wp rules -/
section
variable {e : Ev} {Q : RV → Ev → Prop}
theorem ok_disp {ps : List FF} (h : OkA (flat2 ps) e fun rs e1 => ∃ ds e2 l, settle rs e1 = some (ds, e2) ∧ dispOf ds = some l ∧ Nat.ble l.length 15 = true ∧ Q (.val (.dict (dmerge l [])) 1) e2) : Ok (fDisp ps) e Q := by
  obtain ⟨rs, e1, h1, ds, e2, l, h2, h3, h4, q⟩ := h
  refine ⟨_, _, ?_, q⟩
  unfold fDisp
  rw [h1]
  show (match settle rs e1 with | some (ds, e2) => _ | none => _) = _
  rw [h2]
  show (match dispOf ds with | some l => _ | none => _) = _
  rw [h3]
  exact if_pos (Nat.le_of_ble_eq_true h4)
theorem ok_md {op : Op} {f0 : Ev → Res RV} {fs : List (Ev → Res RV)} (h : Ok f0 e fun r e1 => ∃ d, deref e1 r = some d ∧ isDic d = true ∧ OkA fs e1 fun rs e2 => Us op (r :: rs) e2 Q) : Ok (fMd op f0 fs) e Q := by
  obtain ⟨r, e1, h1, d, h2, h3, rs, e2, h4, x, m, h5, q⟩ := h
  exact ⟨_, _, by unfold fMd; rw [h1]; show (match deref e1 r with | some d => _ | none => _) = _; rw [h2]; show (if isDic d = true then _ else _) = _; rw [if_pos h3, h4]; exact h5, q⟩
end
end PV

/-! PVV1: xs[::step], step a name that holds 1 or -1. -/
namespace PV
open PySem PySem.Spec PyProof.Rows L2
theorem st_bounds (n : Nat) : sliceBounds none none (some 1) n = (0, (n : Int), 1) := by
  first
  | rfl
  | simp [sliceBounds]
theorem st_range (n : Nat) : sliceRange 0 (n : Int) 1 = List.range n := by
  unfold sliceRange
  have h1 : (1 : Int) > 0 := by decide
  by_cases h : (0 : Int) < n
  · have e : ((n : Int) - 0 + 1 - 1) / 1 = (n : Int) := by rw [Int.ediv_one]; omega
    simp only [h1, if_true, h, e, Int.toNat_natCast]
    refine List.ext_getElem (by simp) fun i a b => ?_
    rw [List.getElem_map, List.getElem_range]
    omega
  · have e : n = 0 := by omega
    subst e
    simp
theorem st_pick (items : Array Value) : slicePick items none none (some 1) = items := by
  unfold slicePick
  rw [st_bounds]
  show ((sliceRange 0 (items.size : Int) 1).filterMap (items[·]?)).toArray = _
  rw [st_range, PySem.W.krv_all]
def rStep (K : PySem.W.Frag) (x : V) (o : Option Int) (H : Hp) (Q : VK) : Prop := ∃ a xs, x = .ref a ∧ SqL K H a xs ∧
  ((o = some 1 ∧ ∀ p, H p = none → Q (.ref p) (upd H p (.lst xs))) ∨ (o = some (-1) ∧ ∀ p, H p = none → Q (.ref p) (upd H p (.lst xs.reverse))))
def tStp (K : PySem.W.Frag) (te tb : TE) : TE := fun σ H Q => te σ H fun x H1 => tPart tb σ H1 fun o H2 => rStep K x o H2 Q
theorem pe_step {X : Cx} {e : Expr} {te tb : TE} {z : Str} {p1 p3 pos : Pos} (he : PE X e te) (hb : PE X (.Name z p1) tb) : PE X (.Subscript e (.Slice none none (some (.Name z p1)) p3) pos) (tStp X.K te tb) := by
  refine ⟨fun pins s σ H Q I h => ?_⟩
  refine Subscript_ (thn (he.run pins s σ H _ I h) fun v s1 ⟨x, H1, I1, r1, q1⟩ => ?_)
  have hst : PO X (some (.Name z p1)) (tPart tb) := po_some hb
  refine wpAny_Slice (thn (po_none.run pins s1 σ H1 (fun o H2 => o = none ∧ H2 = H1) I1 ⟨rfl, rfl⟩) fun vl s2 ⟨l, H2, I2, pl, el, e2⟩ => ?_)
  subst el e2
  refine thn (po_none.run pins s2 σ H2 (fun o H3 => o = none ∧ H3 = H2) I2 ⟨rfl, rfl⟩) fun vu s3 ⟨u, H3, I3, pu, eu, e3⟩ => ?_
  subst eu e3
  refine thn (hst.run pins s3 σ H3 _ I3 q1) fun vs s4 ⟨o, H4, I4, ps, q2⟩ => ?_
  have I5 : Inv X pins σ H4 { s4 with heap := s4.heap.push { cls := .type "slice", data := .fields #[vl, vu, vs] } } := I4.kept (t' := s4.toks) fun b ob q => Heap.get?_push_of_some _ q
  obtain ⟨a, xs, ex, hx, q2⟩ := q2
  subst ex
  cases r1
  obtain ⟨its, r, ht, hz⟩ := I5.list hx
  have hlen := r.length
  show wpAny (model X.prog X.w) X.A (subscriptTail e (.Slice none none (some (.Name z p1)) p3) (.ref a) (.ref s4.heap.objs.size)) (EP X pins σ Q) X.xe { s4 with heap := s4.heap.push { cls := .type "slice", data := .fields #[vl, vu, vs] } }
  refine tail_any (ops := [.ref a, .ref s4.heap.objs.size]) ht.isList.typeIs (PySem.slot_list_getitem.lookup) ?_ (by with_unfolding_all rfl)
  rcases q2 with ⟨rfl, q⟩ | ⟨rfl, q⟩
  · refine wpAny_getItem_list_slice ht.isList (Heap.IsSliceOf.new _ vl vu vs) pl pu ps (by decide) ?_ (by rw [List.size_toArray]; omega)
    rw [st_pick]
    refine ⟨.ref _, _, I5.laid (t' := s4.toks) (o := .lst xs) (fun b ob q => Heap.get?_push_of_some _ q) (Nat.le_refl _) ?_, rfl, q _ (I5.hok.fresh (Nat.le_refl _))⟩
    exact ⟨hz, _, 0, r, Heap.get?_push_size _ rfl⟩
  · refine wpAny_getItem_list_slice ht.isList (Heap.IsSliceOf.new _ vl vu vs) pl pu ps (by decide) ?_ (by rw [List.size_toArray]; omega)
    rw [PySem.W.krv_pick]
    refine ⟨.ref _, _, I5.laid (t' := s4.toks) (o := .lst xs.reverse) (fun b ob q => Heap.get?_push_of_some _ q) (Nat.le_refl _) ?_, rfl, q _ (I5.hok.fresh (Nat.le_refl _))⟩
    exact ⟨by rw [List.length_reverse]; exact hz, _, 0, r.reverse, Heap.get?_push_size _ rfl⟩
def oStep : Op := fun ds => match ds with
  | [.list xs, .int i] => if i = 1 then some (.list xs, 1) else if i = -1 then some (.list xs.reverse, 1) else none
  | _ => none
theorem p_step {K : PySem.W.Frag} : Prim K (fun vs H Q => ∀ x y, vs = [x, y] → ∃ i, y = .int i ∧ rStep K x (some i) H Q) oStep := fun vs ds S H Q r m rp sb e q x y ev => by
  unfold oStep at e
  split at e
  · rename_i xs i
    obtain ⟨v1, v2, rfl, h1, h2⟩ := rp_two' rp
    cases ev
    cases h2
    cases h1 with
    | lst p1 p2 =>
      refine ⟨i, rfl, _, _, rfl, .inl (.inl (sb _ _ p1)), ?_⟩
      by_cases hi : i = 1
      · rw [if_pos hi] at e
        cases e
        exact .inl ⟨by rw [hi], fun p hp => q _ _ _ _ (Made.lst sb hp) (Own.newLst p2)⟩
      · rw [if_neg hi] at e
        by_cases hj : i = -1
        · rw [if_pos hj] at e
          cases e
          exact .inr ⟨by rw [hj], fun p hp => q _ _ _ _ (Made.lst sb hp) (Own.newLst p2.reverse)⟩
        · rw [if_neg hj] at e; cases e
  · cases e
theorem ee_step {X : Cx} {W : WX} {a : Expr} {fa fb : Ev → Res RV} {z : Str} {p1 p3 pos : Pos} (ha : EE X W a fa) (hb : EE X W (.Name z p1) fb) : EE X W (.Subscript a (.Slice none none (some (.Name z p1)) p3) pos) (f2 oStep fa fb) :=
  PE.imp (pe_step ha hb) fun σ H Q q => two_ok (R := fun x y H Q => ∃ i, y = .int i ∧ rStep X.K x (some i) H Q) p_step q
end PV

/-! PVV2: in and not in of dicts too. -/
namespace PV
open PySem PySem.Spec PyProof.Rows L2
def rDIn (neg : Bool) : R2 := fun x y H Q => ∃ a o, y = .ref a ∧ DGet H a x o ∧ Q (.bl (if neg then !o.isSome else o.isSome)) H
theorem op_dictIn {X : Cx} (hu : X.A.units + 1 < cLine) : OpR X (compareOp .In) (rDIn false) := by
  intro pins s σ H x y v u Q I rx ry h
  obtain ⟨a, o, rfl, g, q⟩ := h
  obtain rfl : u = Value.ref a := ry
  exact d_in hu I g rx fun s' I' => ⟨.bl o.isSome, H, I', rfl, q⟩
theorem op_dictNotIn {X : Cx} (hu : X.A.units + 1 < cLine) : OpR X (compareOp .NotIn) (rDIn true) := by
  intro pins s σ H x y v u Q I rx ry h
  obtain ⟨a, o, rfl, g, q⟩ := h
  obtain rfl : u = Value.ref a := ry
  exact d_notIn hu I g rx fun s' I' => ⟨.bl (!o.isSome), H, I', rfl, q⟩
def oInA : Op := fun ds => match ds with
  | [k, .dict l] => (keyOf k).map fun kk => (.bool (dget l kk).isSome, 0)
  | ds => oIn ds
def oNotInA : Op := fun ds => match ds with
  | [k, .dict l] => (keyOf k).map fun kk => (.bool (!(dget l kk).isSome), 0)
  | ds => oNotIn ds
section
variable {K : PySem.W.Frag}
theorem dget_isSome {S : Hp} {kvs : List (Key × V)} {l : List (PyData × PyData)} (h : RpK K S kvs l) (k : Key) : (valV kvs k).isSome = (dget l k).isSome := by
  have f := h.find k
  cases hd : dget l k with
  | none => rw [f.2 hd]; rfl
  | some d => obtain ⟨v, hv, _⟩ := f.1 d hd; rw [hv]; rfl
theorem dictIn_of {neg : Bool} {vs : List V} {k : PyData} {l : List (PyData × PyData)} {kk : Key} {S H : Hp} {Q : VK} (rp : RpL K S vs [k, .dict l]) (sb : Same S H) (hk : keyOf k = some kk) (q : Q (.bl (if neg then !(dget l kk).isSome else (dget l kk).isSome)) H) : ∀ x y, vs = [x, y] → rDIn neg x y H Q := by
  intro x y ev
  obtain ⟨v1, v2, rfl, h1, h2⟩ := rp_two' rp
  cases ev
  have ek := keyOf_kD hk
  subst ek
  have ex := rp_key h1
  subst ex
  cases h2 with
  | dic p1 p2 => exact ⟨_, _, rfl, .inl ⟨_, kk, Same.rd sb p1, rfl, rfl⟩, by rw [dget_isSome p2]; exact q⟩
theorem p_inA : Prim K (fun vs H Q => ∀ x y, vs = [x, y] → rInU K x y H Q ∨ rDIn false x y H Q) oInA := fun vs ds S H Q r m rp sb e q x y ev => by
  unfold oInA at e
  split at e
  · rename_i k l
    cases hk : keyOf k with
    | none => rw [hk] at e; cases e
    | some kk =>
      rw [hk] at e
      cases e
      exact .inr (dictIn_of (neg := false) rp sb hk (q _ _ _ _ (Made.refl sb) ⟨rfl, .bl _⟩) x y ev)
  · exact .inl (p_in vs _ S H Q r m rp sb e q x y ev)
theorem p_notInA : Prim K (fun vs H Q => ∀ x y, vs = [x, y] → rNotInU K x y H Q ∨ rDIn true x y H Q) oNotInA := fun vs ds S H Q r m rp sb e q x y ev => by
  unfold oNotInA at e
  split at e
  · rename_i k l
    cases hk : keyOf k with
    | none => rw [hk] at e; cases e
    | some kk =>
      rw [hk] at e
      cases e
      exact .inr (dictIn_of (neg := true) rp sb hk (q _ _ _ _ (Made.refl sb) ⟨rfl, .bl _⟩) x y ev)
  · exact .inl (p_notIn vs _ S H Q r m rp sb e q x y ev)
end
section
variable {X : Cx} {W : WX} {a b : Expr} {fa fb : Ev → Res RV} {pos : Pos}
theorem u1_of {n : Nat} (hu : n + 65 < cLine) : n + 1 < cLine := by omega
theorem vInA (hu : X.A.units + 65 < cLine) (ha : EE X W a fa) (hb : EE X W b fb) (hm : behindInMarks .In b = false := by with_unfolding_all rfl) : EE X W (.Compare a [.In] [b] pos) (f2 oInA fa fb) := ee_cmp ((op_inU hu).or (op_dictIn (u1_of hu))) p_inA ha hb hm
theorem vNotInA (hu : X.A.units + 65 < cLine) (ha : EE X W a fa) (hb : EE X W b fb) (hm : behindInMarks .NotIn b = false := by with_unfolding_all rfl) : EE X W (.Compare a [.NotIn] [b] pos) (f2 oNotInA fa fb) := ee_cmp ((op_notInU hu).or (op_dictNotIn (u1_of hu))) p_notInA ha hb hm
theorem yInA (hu : X.A.units + 65 < cLine) (ha : EE X W a fa) (hb : EE X W b fb) (hm : behindInMarks .In b = false := by with_unfolding_all rfl) : ET X W (.Compare a [.In] [b] pos) (f2 oInA fa fb) := et_cmp ((op_inU hu).or (op_dictIn (u1_of hu))) p_inA ha hb hm
theorem yNotInA (hu : X.A.units + 65 < cLine) (ha : EE X W a fa) (hb : EE X W b fb) (hm : behindInMarks .NotIn b = false := by with_unfolding_all rfl) : ET X W (.Compare a [.NotIn] [b] pos) (f2 oNotInA fa fb) := et_cmp ((op_notInU hu).or (op_dictNotIn (u1_of hu))) p_notInA ha hb hm
end
end PV

/-! PVW: further wp rules. -/
namespace PV
open PySem PySem.Spec PyProof.Rows L2
theorem o64_eq : o64 = 18446744073709551616 := by decide
theorem big_eq : big = 4611686018427387904 := by decide
theorem k1_ok {j : Int} (h0 : 0 ≤ j) (h1 : j < big) : kRange1 [.int j] = some (ranged 0 j.toNat) := by
  show (if -big ≤ j ∧ j < big then some (ranged 0 j.toNat) else none) = _
  rw [if_pos ⟨by rw [big_eq]; omega, h1⟩]
theorem ok_rg1 {fs : List (Ev → Res RV)} {e : Ev} {P : List PyData → Ev → Prop} (h : OkA fs e fun rs e1 => ∃ j e2, settle rs e1 = some ([.int j], e2) ∧ (0 ≤ j ∧ j ≤ 1000000) ∧ P (ranged 0 j.toNat) e2) : Ok (fIt kRange1 fs) e P :=
  ok_it (h.mono fun rs e1 ⟨j, e2, h1, h2, h3⟩ => ⟨_, e2, _, h1, k1_ok h2.1 (by rw [big_eq]; omega), h3⟩)
theorem lr_ok {fa : Ev → Res RV} {e : Ev} {Q : RV → Ev → Prop} (h : Ok fa e fun r e1 => ∃ k n, r = .val (.int k) n ∧ (0 ≤ k ∧ k ≤ 1000000) ∧ Q (.val (.list (ranged 0 k.toNat)) 1) e1) : Ok (fLstRg fa none) e Q := by
  obtain ⟨r, e1, h1, k, n, rfl, h2, q⟩ := h
  have hm : (most : Int) = 16000000 := rfl
  exact ⟨_, _, by show (fa e).bind _ = _; rw [h1]; show (if -big ≤ k ∧ k ≤ most then _ else _) = _; rw [if_pos ⟨by rw [big_eq]; omega, by omega⟩], q⟩
theorem ok_lst' {fs : List (Ev → Res RV)} {e : Ev} {Q : RV → Ev → Prop} (h : OkA fs e fun rs e1 => ∃ ds e2, settle rs e1 = some (ds, e2) ∧ Nat.ble ds.length 30 = true ∧ Q (.val (.list ds) 1) e2) : Ok (fLst fs) e Q :=
  ok_lst (h.mono fun rs e1 ⟨ds, e2, h1, h2, q⟩ => ⟨ds, e2, h1, Nat.le_trans (Nat.le_of_ble_eq_true h2) (by decide), q⟩)
theorem ok_tup' {fs : List (Ev → Res RV)} {e : Ev} {Q : RV → Ev → Prop} (h : OkA fs e fun rs e1 => ∃ ds e2, settle rs e1 = some (ds, e2) ∧ Nat.ble ds.length 30 = true ∧ Q (.val (.tuple ds) 0) e2) : Ok (fTup fs) e Q :=
  ok_tup (h.mono fun rs e1 ⟨ds, e2, h1, h2, q⟩ => ⟨ds, e2, h1, Nat.le_trans (Nat.le_of_ble_eq_true h2) (by decide), q⟩)
theorem ok_app {i : Nat} {fs : List (Ev → Res RV)} {e : Ev} {Q : RV → Ev → Prop} {l0 : List PyData} (h0 : e[i]? = some (some (.dt (.list l0) 1)))
    (h : OkA fs e fun rs e1 => ∃ x e2 ds, settle rs e1 = some ([x], e2) ∧ e2[i]? = some (some (.dt (.list ds) 1)) ∧ ds.length < 1000000 ∧ Q (.val .none 0) (e2.set i (some (.dt (.list (ds ++ [x])) 1)))) : Ok (fMet "list" mAppend i fs) e Q :=
  ok_met h0 rfl (h.mono fun rs e1 ⟨x, e2, ds, h1, h2, h3, q⟩ => ⟨_, e2, _, _, _, h1, h2, rfl, by
    have hm : most = 16000000 := rfl
    show (if ds.length < most then _ else _) = _
    rw [if_pos (by omega)], q⟩)
theorem cut_take {xs : List PyData} {c : Int} (h0 : 0 ≤ c) : PV.cutD xs none (some c) = xs.take c.toNat := by
  unfold PV.cutD
  obtain ⟨k, rfl⟩ := Int.eq_ofNat_of_zero_le h0
  rw [HT.sIx_none, HT.sIx_nat]
  rw [List.drop_zero, Nat.sub_zero, Int.toNat_natCast]
  rcases Nat.le_total k xs.length with h | h
  · rw [Nat.min_eq_left h]
  · rw [Nat.min_eq_right h, List.take_length, List.take_of_length_le h]
theorem cut_drop {xs : List PyData} {c : Int} (h0 : 0 ≤ c) : PV.cutD xs (some c) none = xs.drop c.toNat := by
  unfold PV.cutD
  obtain ⟨k, rfl⟩ := Int.eq_ofNat_of_zero_le h0
  rw [HT.sIx_none, HT.sIx_nat, Int.toNat_natCast]
  rcases Nat.le_total k xs.length with h | h
  · rw [Nat.min_eq_left h, List.take_of_length_le (by rw [List.length_drop]; omega)]
  · rw [Nat.min_eq_right h, Nat.sub_self, List.take_zero, List.drop_of_length_le h]
theorem ok_slT {i j : Nat} {e : Ev} {Q : RV → Ev → Prop} {xs : List PyData} {c : Int} (h1 : e[i]? = some (some (.dt (.list xs) 0))) (h2 : e[j]? = some (some (.dt (.int c) 0))) (h0 : 0 ≤ c) (q : Q (.val (.list (xs.take c.toNat)) 1) e) : Ok (fSl (fVar i) none (some (fVar j))) e Q := by
  refine ok_sl (ok_v0 h1 (okp_n (okp_s (ok_v0 h2 ⟨c, 0, rfl, us_of rfl rfl rfl ?_⟩))))
  rw [cut_take h0]; exact q
theorem ok_slD {i j : Nat} {e : Ev} {Q : RV → Ev → Prop} {xs : List PyData} {c : Int} (h1 : e[i]? = some (some (.dt (.list xs) 0))) (h2 : e[j]? = some (some (.dt (.int c) 0))) (h0 : 0 ≤ c) (q : Q (.val (.list (xs.drop c.toNat)) 1) e) : Ok (fSl (fVar i) (some (fVar j)) none) e Q := by
  refine ok_sl (ok_v0 h1 (okp_s (ok_v0 h2 ⟨c, 0, rfl, okp_n (us_of rfl rfl rfl ?_)⟩)))
  rw [cut_drop h0]; exact q
theorem all_flat {xs : List PyData} (h : ∀ x ∈ xs, noMut x = true) : flatAt 1 (.list xs) = true := by
  show xs.all (flatAt 0) = true
  exact List.all_eq_true.mpr h
theorem ok_slT1 {i j : Nat} {e : Ev} {Q : RV → Ev → Prop} {xs : List PyData} {c : Int} (h1 : e[i]? = some (some (.dt (.list xs) 1))) (hf : ∀ x ∈ xs, noMut x = true) (h2 : e[j]? = some (some (.dt (.int c) 0))) (h0 : 0 ≤ c) (q : Q (.val (.list (xs.take c.toNat)) 1) e) : Ok (fSl (fVar i) none (some (fVar j))) e Q := by
  refine ok_sl (ok_vn h1 (okp_n (okp_s (ok_v0 h2 ⟨c, 0, rfl, us_of (ds := [.list xs]) (d := .list (PV.cutD xs none (some c))) (m := 1) ?_ rfl ?_ ?_⟩))))
  · unfold derefs deref; simp only [h1]; rfl
  · rw [cut_take h0, all_flat fun x hx => hf x (List.mem_of_mem_take hx)]; rfl
  · rw [cut_take h0]; exact q
theorem ok_slD1 {i : Nat} {fc : Ev → Res RV} {e : Ev} {Q : RV → Ev → Prop} {xs : List PyData} {c : Int} (h1 : e[i]? = some (some (.dt (.list xs) 1))) (hf : ∀ x ∈ xs, noMut x = true) (h2 : fc e = .ok (.val (.int c) 0) e) (h0 : 0 ≤ c) (q : Q (.val (.list (xs.drop c.toNat)) 1) e) : Ok (fSl (fVar i) (some fc) none) e Q := by
  refine ok_sl (ok_vn h1 (okp_s ⟨_, _, h2, c, 0, rfl, okp_n (us_of (ds := [.list xs]) (d := .list (PV.cutD xs (some c) none)) (m := 1) ?_ rfl ?_ ?_)⟩))
  · unfold derefs deref; simp only [h1]; rfl
  · rw [cut_drop h0, all_flat fun x hx => hf x (List.mem_of_mem_drop hx)]; rfl
  · rw [cut_drop h0]; exact q
theorem done_len {all done rest : List PyData} {d : PyData} (h : all = done ++ d :: rest) : done.length < all.length := by
  rw [h, List.length_append, List.length_cons]; omega
theorem ranged_len (lo : Int) (n : Nat) : (ranged lo n).length = n := by unfold ranged; rw [List.length_map, List.length_range]
theorem ranged_at {lo : Int} {n : Nat} {done rest : List PyData} {d : PyData} (h : ranged lo n = done ++ d :: rest) : d = .int (lo + (done.length : Int)) ∧ done.length < n := by
  have hl := done_len h
  rw [ranged_len] at hl
  have e : (ranged lo n)[done.length]? = some d := by rw [h]; simp
  unfold ranged at e
  rw [List.getElem?_map, List.getElem?_range hl] at e
  cases e
  exact ⟨rfl, hl⟩
theorem ixN_ok {n : Nat} {i : Int} (h0 : 0 ≤ i) (h1 : i < n) : ixN n i = some i.toNat := by unfold ixN; rw [if_pos h0, if_pos h1]
theorem atI_ok {α : Type} {l : List α} {i : Int} {x : α} (h0 : 0 ≤ i) (h : l[i.toNat]? = some x) : atI l i = some x := by
  have hl := (List.getElem?_eq_some_iff.mp h).1
  unfold atI
  rw [ixN_ok h0 (by omega)]
  exact h
theorem pop_perm : ∀ (l : List PyData) (i : Nat) (h : i < l.length), ([l[i]] ++ l.eraseIdx i).Perm l
  | [], i, h => absurd h (by simp)
  | x :: l, 0, h => .refl _
  | x :: l, i + 1, h => by
    have h' : i < l.length := by simpa using h
    have ih := pop_perm l i h'
    show (l[i] :: x :: l.eraseIdx i).Perm (x :: l)
    exact (List.Perm.swap x l[i] _).trans (ih.cons x)
theorem ru_cut {f g : Ev → SRes} {e : Ev} {N : Ev → Prop} {R : PyData → Nat → Ev → Prop} {B C : Ev → Prop} (P : Ev → Prop) (h1 : Ru f e P R B C) (h2 : ∀ e, P e → Ru g e N R B C) : Ru (fSeq f g) e N R B C :=
  ru_seq (h1.mono h2 (fun _ _ _ z => z) (fun _ z => z) fun _ z => z)
theorem us_addL {rs : List RV} {e : Ev} {Q : RV → Ev → Prop} {a b : List PyData} (h1 : derefs e rs = some [.list a, .list b]) (h2 : a.length + b.length ≤ 1000000) (h3 : (rs.any isBor && !flatAt 1 (.list (a ++ b))) = false) (q : Q (.val (.list (a ++ b)) 1) e) : Us oAdd rs e Q :=
  us_of (d := .list (a ++ b)) (m := 1) h1 (by
    have hm : most = 16000000 := rfl
    show (if a.length + b.length ≤ most then some (PyData.list (a ++ b), 1) else none) = _
    rw [if_pos (by omega)]) h3 q
theorem tgs_ok {i j : Nat} {e : Ev} {ds : List PyData} {a : Int} {d : PyData} (h1 : e[i]? = some (some (.dt (.list ds) 1))) (h2 : e[j]? = some (some (.dt (.int a) 0))) (h3 : 0 ≤ a) (h4 : a < ds.length) : tgSub sIx i (fVar j) d e = some (e.set i (some (.dt (.list (ds.set a.toNat d)) 1))) := by
  unfold tgSub isDt fVar
  simp only [h1, h2]
  rw [if_pos True.intro]
  show (match e[i]? with | some (some (.dt c 1)) => _ | _ => none) = _
  simp only [h1]
  rw [if_pos (show boxD (.list ds) = true from rfl)]
  show (match (match ixN ds.length a with | some j => some (PyData.list (ds.set j d)) | none => none) with | some c' => _ | none => none) = _
  rw [ixN_ok h3 h4]
section
variable {e : Ev} {Q : RV → Ev → Prop} {fa fb fc : Ev → Res RV}
theorem ok_and (h : Tb fa e fun b e1 => (b = true → Ok fb e1 Q) ∧ (b = false → Q (.val (.bool false) 0) e1)) : Ok (fAnd fa fb) e Q :=
  ok_ite (h.mono fun r e1 ⟨b, n, er, h1, h2⟩ => ⟨b, n, er, h1, fun z => ok_c (h2 z)⟩)
theorem ok_or (h : Tb fa e fun b e1 => (b = true → Q (.val (.bool true) 0) e1) ∧ (b = false → Ok fb e1 Q)) : Ok (fOr fa fb) e Q :=
  ok_ite (h.mono fun r e1 ⟨b, n, er, h1, h2⟩ => ⟨b, n, er, fun z => ok_c (h1 z), h2⟩)
theorem ok_not (h : Tb fa e fun b e1 => Q (.val (.bool (!b)) 0) e1) : Ok (fNot fa) e Q :=
  ok_ite (h.mono fun r e1 ⟨b, n, er, h1⟩ => ⟨b, n, er, fun z => ok_c (by rw [z] at h1; exact h1), fun z => ok_c (by rw [z] at h1; exact h1)⟩)
theorem ok_chain {o1 o2 : Op} (h : Ok fa e fun r e1 => Ok fb e1 fun s e2 => ∃ j n, s = .val (.int j) n ∧ Us o1 [r, .val (.int j) 0] e2 fun z e3 => ∃ b n, z = .val (.bool b) n ∧ (b = true → Ok fc e3 fun t e4 => Us o2 [.val (.int j) 0, t] e4 Q) ∧ (b = false → Q (.val (.bool false) 0) e3)) : Ok (fChain o1 o2 fa fb fc) e Q := by
  obtain ⟨r, e1, h1, s, e2, h2, j, n, rfl, d, m, h3, b, n', ed, h4, h5⟩ := h
  cases ed
  cases b with
  | true =>
    obtain ⟨t, e4, h6, d2, m2, h7, q⟩ := h4 rfl
    exact ⟨_, _, by unfold fChain; rw [h1]; show (fb e1).bind _ = _; rw [h2]; show (use o1 [r, .val (.int j) 0] e2).bind _ = _; rw [h3]; show (fc e2).bind _ = _; rw [h6]; exact h7, q⟩
  | false =>
    exact ⟨_, _, by unfold fChain; rw [h1]; show (fb e1).bind _ = _; rw [h2]; show (use o1 [r, .val (.int j) 0] e2).bind _ = _; rw [h3]; rfl, h5 rfl⟩
end
theorem ok_lcO {fa fc : Ev → Res RV} {i : Nat} {ft : Tgt} {own : List Nat} {e : Ev} {Q : RV → Ev → Prop} {ds : List PyData} (h0 : e[i]? = some (some (.dt (.list ds) 1))) (hl : ds.length ≤ most) (hw : ∃ x, wipeE (e.set i none) own = some x) (I : List PyData → List PyData → Ev → Prop) (i0 : I [] [] (e.set i none))
    (st : ∀ done acc d rest e, ds = done ++ d :: rest → I done acc e → ∃ e0 e1, wipeE e own = some e0 ∧ ft d e0 = some e1 ∧ Tb fc e1 fun b e2 => (b = true → Ok fa e2 fun r e3 => ∃ y e4, settle [r] e3 = some ([y], e4) ∧ I (done ++ [d]) (acc ++ [y]) e4) ∧ (b = false → I (done ++ [d]) acc e2))
    (fin : ∀ acc e2, I ds acc e2 → Q (.val (.list acc) 1) ((unwipe (e.set i none) e2 own).set i (some (.dt (.list ds) 1)))) : Ok (fLcO i ft fc fa own) e Q := by
  obtain ⟨x, hw⟩ := hw
  obtain ⟨acc, e2, h2, q⟩ := lc_inv (P := fun acc e2 => Q (.val (.list acc) 1) ((unwipe (e.set i none) e2 own).set i (some (.dt (.list ds) 1)))) I ds st fin ds [] [] (e.set i none) rfl i0
  exact ⟨_, _, by unfold fLcO; simp only [h0]; rw [if_pos hl]; simp only [hw, h2], q⟩
theorem ranged_map (L : Nat) : ranged 0 L = ((List.range L).map Int.ofNat).map .int := by
  unfold ranged
  rw [List.map_map]
  refine List.map_congr_left fun i _ => ?_
  show PyData.int (0 + (i : Int)) = PyData.int (i : Int)
  rw [Int.zero_add]
theorem yes_of {f : Ev → SRes} {e : Ev} (h : Ru f e nope (fun d _ _ => d = .bool true) nope nope) : yes (f e) := by
  have h := h.ok
  unfold RuM at h
  unfold yes
  cases q : f e with
  | nx e1 => rw [q] at h; exact h.elim
  | rt d n e1 => rw [q] at h; have h' : d = .bool true := h; subst h'; trivial
  | bk e1 => rw [q] at h; exact h.elim
  | ct e1 => rw [q] at h; exact h.elim
  | exc c e1 => rw [q] at h; exact h.elim
  | no => rw [q] at h; exact h.elim
theorem ok_fz {i : Nat} {k : List PyData → Option (PyData × Nat)} {e : Ev} {Q : RV → Ev → Prop} {ds : List PyData} {d : PyData} {n : Nat} (h1 : e[i]? = some (some (.fz ds))) (h2 : k ds = some (d, n)) (q : Q (.val d n) e) : Ok (fFz i k) e Q :=
  ⟨_, _, by unfold fFz; simp only [h1, h2], q⟩
theorem shaped_ints (ns : List Int) : SeqAt.shaped (.list (ns.map .int)) = true := by
  have h1 : PyData.canLayAll0 (ns.map .int) = true := by
    induction ns with
    | nil => rfl
    | cons n ns ih => simpa [PyData.canLayAll0, PyData.canLay0] using ih
  have h2 : PyData.depthAll (ns.map .int) = 0 := by
    induction ns with
    | nil => rfl
    | cons n ns ih => 
      have : PyData.canLayAll0 (ns.map .int) = true := by simpa [PyData.canLayAll0, PyData.canLay0] using h1
      simp [PyData.depthAll, PyData.depth, ih this]
  unfold SeqAt.shaped
  simp [PyData.canLay0, PyData.depth, h1, h2]
theorem eqv_ints : ∀ ns : List Int, PyData.eqvAll (ns.map .int) (ns.map .int) = true
  | [] => by simp [PyData.eqvAll]
  | n :: ns => by simp [PyData.eqvAll, PyData.eqv, eqv_ints ns]
theorem flat_ints (ns : List Int) : flatAt 1 (.list (ns.map .int)) = true := all_flat fun x hx => by
  obtain ⟨i, _, rfl⟩ := List.mem_map.mp hx
  rfl
theorem enum_at {all done rest : List PyData} {d : PyData} (h : enumed 0 all = done ++ d :: rest) : ∃ t, all[done.length]? = some t ∧ d = .tuple [.int (done.length : Int), t] ∧ done.length < all.length := by
  have hl := done_len h
  rw [enumed_len] at hl
  have e : (enumed 0 all)[done.length]? = some d := by rw [h]; simp
  rw [enumed_get] at e
  have hg := List.getElem?_eq_getElem hl
  rw [hg] at e
  cases e
  exact ⟨_, hg, by simp, hl⟩
theorem int_eqv (a b : Int) : PyData.eqv (.int a) (.int b) = decide (a = b) := by
  simp [PyData.eqv]; rfl

theorem ca_eq {F : Den} {as : List Vl} {d o : PyData} {n : Nat} {R : PyData → Nat → PyData → Prop} (h : F as = .rt d n o) (q : R d n o) : Ca F as R := ⟨d, n, o, h, q⟩
theorem eq_of_ca {F : Den} {as : List Vl} {d o : PyData} {n : Nat} (h : Ca F as fun d' n' o' => d' = d ∧ n' = n ∧ o' = o) : F as = .rt d n o := by
  obtain ⟨_, _, _, h, rfl, rfl, rfl⟩ := h
  exact h
/-! ### wiped slots -/
theorem wipeE_len : ∀ {own : List Nat} {e w : Ev}, wipeE e own = some w → w.length = e.length
  | [], e, w, h => by cases h; rfl
  | v :: vs, e, w, h => by
    unfold wipeE at h
    cases q : wipeE e vs with
    | none => rw [q] at h; cases h
    | some e1 =>
      rw [q] at h
      have ih := wipeE_len q
      simp only at h
      split at h
      · cases h
      · cases h
        rw [List.length_set]; exact ih
theorem wipeE_out : ∀ {own : List Nat} {e w : Ev}, wipeE e own = some w → ∀ i, i ∉ own → w[i]? = e[i]?
  | [], e, w, h, i, _ => by cases h; rfl
  | v :: vs, e, w, h, i, hi => by
    unfold wipeE at h
    cases q : wipeE e vs with
    | none => rw [q] at h; cases h
    | some e1 =>
      rw [q] at h
      simp only at h
      split at h
      · cases h
      · cases h
        rw [List.getElem?_set_ne (by intro z; subst z; exact hi List.mem_cons_self)]
        exact wipeE_out q i fun z => hi (List.mem_cons_of_mem _ z)
theorem unwipe_len (e0 e : Ev) : ∀ own : List Nat, (unwipe e0 e own).length = e.length
  | [] => rfl
  | v :: vs => by unfold unwipe; rw [List.length_set]; exact unwipe_len e0 e vs
theorem unwipe_eq {e0 e w : Ev} : ∀ {own : List Nat}, wipeE e0 own = some w → wipeE e own = some w → unwipe e0 e own = e0 := by
  intro own h h'
  have key : ∀ (own own2 : List Nat) (e : Ev), e.length = e0.length → (∀ i, i ∉ own2 → e[i]? = e0[i]?) → (∀ i, i ∈ own2 → i ∈ own) → unwipe e0 e own = e0 := by
    intro own
    induction own with
    | nil =>
      intro own2 e hl ho hs
      unfold unwipe
      refine List.ext_getElem? fun i => ?_
      by_cases hi : i ∈ own2
      · exact absurd (hs i hi) List.not_mem_nil
      · exact ho i hi
    | cons v vs ih =>
      intro own2 e hl ho hs
      have comm : ∀ (vs : List Nat) (e : Ev) (x : Option Vl), e0[v]? = some x → (unwipe e0 e vs).set v x = unwipe e0 (e.set v x) vs := by
        intro vs
        induction vs with
        | nil => intro e x hx; rfl
        | cons u us ih2 =>
          intro e x hx
          unfold unwipe
          by_cases huv : u = v
          · subst huv
            rw [List.set_set, hx, ← ih2 e x hx, List.set_set]; rfl
          · rw [List.set_comm _ _ huv, ih2 e x hx]
      unfold unwipe
      cases hx : e0[v]? with
      | none =>
        have hv : e0.length ≤ v := List.getElem?_eq_none_iff.mp hx
        rw [List.set_eq_of_length_le (by rw [unwipe_len, hl]; exact hv)]
        refine ih (own2.filter fun i => decide (i ≠ v)) e hl (fun i hi => ?_) fun i hi => ?_
        · by_cases hiv : i = v
          · subst hiv
            rw [hx]; exact List.getElem?_eq_none_iff.mpr (by omega)
          · refine ho i fun z => hi ?_
            rw [List.mem_filter]; exact ⟨z, by simpa using hiv⟩
        · rw [List.mem_filter] at hi
          have := hs i hi.1
          rcases List.mem_cons.mp this with z | z
          · exact absurd z (by simpa using hi.2)
          · exact z
      | some x =>
        show (unwipe e0 e vs).set v x = e0
        rw [comm vs e x hx]
        refine ih (own2.filter fun i => decide (i ≠ v)) _ (by rw [List.length_set]; exact hl) (fun i hi => ?_) fun i hi => ?_
        · by_cases hiv : i = v
          · subst hiv
            have hlt : i < e.length := by rw [hl]; exact (List.getElem?_eq_some_iff.mp hx).1
            rw [List.getElem?_set_self hlt, hx]
          · rw [List.getElem?_set_ne (Ne.symm hiv)]
            refine ho i fun z => hi ?_
            rw [List.mem_filter]; exact ⟨z, by simpa using hiv⟩
        · rw [List.mem_filter] at hi
          have := hs i hi.1
          rcases List.mem_cons.mp this with z | z
          · exact absurd z (by simpa using hi.2)
          · exact z
  exact key own own e ((wipeE_len h').symm.trans (wipeE_len h)) (fun i hi => (wipeE_out h' i hi).symm.trans (wipeE_out h i hi)) fun _ z => z
/-- a comprehension that leaves everything else as it is: a filter and a map -/
structure LcP {α : Type} (xs : List α) (enc : α → PyData) (p : α → Bool) (f : α → PyData) (ft : Tgt) (fc fe : Ev → Res RV) (own : List Nat) (Q : RV → Ev → Prop) (all : List PyData) (e1 : Ev) : Prop where
  w : ∃ w, wipeE e1 own = some w ∧ ∀ x ∈ xs, ∃ e2, ft (enc x) w = some e2 ∧ Tb fc e2 fun b e3 => b = p x ∧ wipeE e3 own = some w ∧ (p x = true → Ok fe e3 fun r e4 => ∃ e5, settle [r] e4 = some ([f x], e5) ∧ wipeE e5 own = some w)
  all : all = xs.map enc
  len : xs.length ≤ 1000000
  q : Q (.val (.list ((xs.filter p).map f)) 1) e1
theorem ok_lcP {fi : Ev → Res (List PyData)} {ft : Tgt} {fc fe : Ev → Res RV} {own : List Nat} {e : Ev} {Q : RV → Ev → Prop} {α : Type} (xs : List α) (enc : α → PyData) (p : α → Bool) (f : α → PyData)
    (h : Ok fi e (LcP xs enc p f ft fc fe own Q)) : Ok (fLc fi ft fc fe own) e Q := by
  refine ok_lc (h.mono ?_)
  rintro all e1 ⟨⟨w, hw, st⟩, rfl, hl, q⟩
  have hm : most = 16000000 := rfl
  refine ⟨by rw [List.length_map]; omega, ⟨w, hw⟩, fun done acc e => wipeE e own = some w ∧ ∃ k, done = (xs.take k).map enc ∧ acc = ((xs.take k).filter p).map f, ⟨hw, 0, rfl, rfl⟩, ?_, ?_⟩
  · rintro done acc d rest e hd ⟨he, k, rfl, rfl⟩
    have hk : k < xs.length := by
      have := congrArg List.length hd
      simp only [List.length_map, List.length_append, List.length_cons, List.length_take] at this
      omega
    have hdk : d = enc xs[k] := by
      have h1 : (xs.map enc)[k]? = some d := by
        rw [hd, List.getElem?_append_right (by rw [List.length_map, List.length_take]; omega)]
        rw [List.length_map, List.length_take, Nat.min_eq_left (Nat.le_of_lt hk), Nat.sub_self]; rfl
      rw [List.getElem?_map, List.getElem?_eq_getElem hk] at h1
      cases h1; rfl
    subst hdk
    obtain ⟨e2, h2, t⟩ := st xs[k] (List.getElem_mem hk)
    have tk : xs.take (k + 1) = xs.take k ++ [xs[k]] := by rw [List.take_succ, List.getElem?_eq_getElem hk]; rfl
    refine ⟨w, e2, he, h2, Ok.mono t ?_⟩
    rintro r e3 ⟨b, n, rfl, rfl, h3, h4⟩
    refine ⟨_, n, rfl, fun hb => (h4 hb).mono ?_, fun hb => ⟨h3, k + 1, ?_, ?_⟩⟩
    · rintro r e4 ⟨e5, h5, h6⟩
      refine ⟨_, _, h5, h6, k + 1, ?_, ?_⟩
      · rw [tk, List.map_append]; rfl
      · rw [tk, List.filter_append, List.map_append, List.filter_cons_of_pos hb]; rfl
    · rw [tk, List.map_append]; rfl
    · rw [tk, List.filter_append, List.filter_cons_of_neg (by rw [hb]; exact Bool.false_ne_true), List.filter_nil, List.append_nil]
  · rintro acc e2 ⟨he, k, hk, rfl⟩
    have hk' : xs.length ≤ k := by
      have := congrArg List.length hk
      simp only [List.length_map, List.length_take] at this
      omega
    rw [List.take_of_length_le hk', unwipe_eq hw he]
    exact q
theorem us_repr2 {rs : List RV} {e : Ev} {Q : RV → Ev → Prop} {d : PyData} (h1 : derefs e rs = some [d]) (h2 : d.showable = true) (h3 : d.depth ≤ 60) (h4 : d.shown.length ≤ 16000000) (q : Q (.val (.str d.shown) 0) e) : Us oRepr2 rs e Q :=
  us_of (d := .str d.shown) (m := 0) h1 (by
    show (if d.showable = true ∧ d.depth ≤ 60 ∧ d.shown.length ≤ most then some (PyData.str d.shown) else none).map _ = _
    rw [if_pos ⟨h2, h3, h4⟩]; rfl) (by show (_ && !true) = false; rw [Bool.not_true, Bool.and_false]) q
theorem eqv_str (a : Str) : PyData.eqv (.str a) (.str a) = true := by simp [PyData.eqv]

theorem ok_dic0 {e : Ev} {Q : RV → Ev → Prop} (h : Q (.val (.dict []) 1) e) : Ok fDic0 e Q := ⟨_, _, rfl, h⟩
theorem us_slT {rs : List RV} {e : Ev} {Q : RV → Ev → Prop} {xs : List PyData} {c : Int} (h1 : derefs e rs = some [.list xs]) (h2 : rs.any isBor = false) (h0 : 0 ≤ c) (q : Q (.val (.list (xs.take c.toNat)) 1) e) : Us (oSl none (some c)) rs e Q :=
  us_of (d := .list (PV.cutD xs none (some c))) (m := 1) h1 rfl (by rw [h2]; rfl) (by rw [cut_take h0]; exact q)
theorem us_slD {rs : List RV} {e : Ev} {Q : RV → Ev → Prop} {xs : List PyData} {c : Int} (h1 : derefs e rs = some [.list xs]) (h2 : rs.any isBor = false) (h0 : 0 ≤ c) (q : Q (.val (.list (xs.drop c.toNat)) 1) e) : Us (oSl (some c) none) rs e Q :=
  us_of (d := .list (PV.cutD xs (some c) none)) (m := 1) h1 rfl (by rw [h2]; rfl) (by rw [cut_drop h0]; exact q)
theorem log2_small {i : Int} (h : -1000000 ≤ i) (h' : i ≤ 1000000) : i.natAbs.log2 < 1920 := by
  rcases Nat.eq_zero_or_pos i.natAbs with z | z
  · rw [z]; decide
  · have := (Nat.log2_lt (k := 20) (by omega)).mpr (show i.natAbs < 2 ^ 20 by omega)
    omega
theorem us_strI {rs : List RV} {e : Ev} {Q : RV → Ev → Prop} {i : Int} (h1 : derefs e rs = some [.int i]) (h : i.natAbs.log2 < 1920) (q : Q (.val (.str (toString i)) 0) e) : Us oStr rs e Q :=
  us_of (d := .str (toString i)) (m := 0) h1 (by show (if _ then some (PyData.str (toString i), 0) else none) = _; rw [if_pos h]) (by show (_ && !true) = false; rw [Bool.not_true, Bool.and_false]) q
theorem ok_me {T : String} {op : Op} {f0 : Ev → Res RV} {fs : List (Ev → Res RV)} {e : Ev} {Q : RV → Ev → Prop} (h : Ok f0 e fun r e1 => ∃ d, deref e1 r = some d ∧ tyOfD T d = true ∧ OkA fs e1 fun rs e2 => Us op (r :: rs) e2 Q) : Ok (fMe T op f0 fs) e Q := by
  obtain ⟨r, e1, h1, d, h2, h3, rs, e2, h4, x, m, h5, q⟩ := h
  exact ⟨_, _, by unfold fMe; rw [h1]; show (match deref e1 r with | some d => _ | none => _) = _; rw [h2]; show (if tyOfD T d = true then _ else _) = _; rw [if_pos h3, h4]; exact h5, q⟩
theorem br_t {b : Bool} {A B : Prop} (h : b = true) (a : A) : (b = true → A) ∧ (b = false → B) := ⟨fun _ => a, fun z => by rw [h] at z; cases z⟩
theorem br_f {b : Bool} {A B : Prop} (h : b = false) (a : B) : (b = true → A) ∧ (b = false → B) := ⟨fun z => by rw [h] at z; (cases z), fun _ => a⟩
theorem br_1 {A : Prop} (a : A) : true = true → A := fun _ => a
theorem unwipe_get (e0 : Ev) : ∀ (own : List Nat) (e : Ev) (i : Nat), (unwipe e0 e own)[i]? = if i ∈ own then (if i < e.length then some (e0[i]?.getD none) else none) else e[i]?
  | [], e, i => by unfold unwipe; rw [if_neg List.not_mem_nil]
  | v :: vs, e, i => by
    unfold unwipe
    by_cases h : v = i
    · subst h
      rw [if_pos List.mem_cons_self]
      by_cases hl : v < e.length
      · rw [List.getElem?_set_self (by rw [unwipe_len]; exact hl), if_pos hl]
      · rw [if_neg hl]
        exact List.getElem?_eq_none_iff.mpr (by rw [List.length_set, unwipe_len]; omega)
    · rw [List.getElem?_set_ne h, unwipe_get e0 vs e i]
      by_cases h2 : i ∈ vs
      · rw [if_pos h2, if_pos (List.mem_cons_of_mem _ h2)]
      · rw [if_neg h2, if_neg (fun z => (List.mem_cons.mp z).elim (fun y => h y.symm) h2)]
theorem unwipe_w {e0 e w : Ev} {own : List Nat} (h : wipeE e own = some w) : unwipe e0 e own = unwipe e0 w own := by
  refine List.ext_getElem? fun i => ?_
  rw [unwipe_get, unwipe_get, wipeE_len h]
  by_cases hi : i ∈ own
  · rw [if_pos hi, if_pos hi]
  · rw [if_neg hi, if_neg hi, wipeE_out h i hi]
/-- a comprehension without a test, whose turns change what is not its own -/
structure LcI (J : Nat → Ev → Prop) (P : Nat → PyData → Prop) (ft : Tgt) (fe : Ev → Res RV) (own : List Nat) (Q : RV → Ev → Prop) (all : List PyData) (e1 : Ev) : Prop where
  len : all.length ≤ 1000000
  w : ∃ w, wipeE e1 own = some w ∧ J 0 w
  step : ∀ k d w, all[k]? = some d → J k w → ∃ e2, ft d w = some e2 ∧ Ok fe e2 fun r e3 => ∃ y e4, settle [r] e3 = some ([y], e4) ∧ P k y ∧ ∃ w', wipeE e4 own = some w' ∧ J (k + 1) w'
  q : ∀ acc w, acc.length = all.length → (∀ k y, acc[k]? = some y → P k y) → J all.length w → Q (.val (.list acc) 1) (unwipe e1 w own)
theorem ok_lcI {fi : Ev → Res (List PyData)} {ft : Tgt} {fe : Ev → Res RV} {own : List Nat} {e : Ev} {Q : RV → Ev → Prop} (J : Nat → Ev → Prop) (P : Nat → PyData → Prop) (h : Ok fi e (LcI J P ft fe own Q)) : Ok (fLc fi ft fYes fe own) e Q := by
  refine ok_lc (h.mono ?_)
  rintro all e1 ⟨hl, ⟨w0, hw0, j0⟩, st, q⟩
  have hm : most = 16000000 := rfl
  refine ⟨by omega, ⟨w0, hw0⟩, fun done acc e => acc.length = done.length ∧ (∀ k y, acc[k]? = some y → P k y) ∧ ∃ w, wipeE e own = some w ∧ J done.length w, ⟨rfl, fun k y z => by simp at z, w0, hw0, j0⟩, ?_, ?_⟩
  · rintro done acc d rest e hd ⟨hla, hp, w, hw, j⟩
    have hk : all[done.length]? = some d := by rw [hd]; simp
    obtain ⟨e2, h2, t⟩ := st _ d w hk j
    refine ⟨w, e2, hw, h2, tb_yes ⟨fun _ => t.mono ?_, fun z => nomatch z⟩⟩
    rintro r e3 ⟨y, e4, h4, py, w', hw', j'⟩
    refine ⟨y, e4, h4, by rw [List.length_append, List.length_append, hla]; rfl, fun k z hz => ?_, w', hw', by rw [List.length_append]; exact j'⟩
    by_cases hk2 : k < acc.length
    · rw [List.getElem?_append_left hk2] at hz
      exact hp k z hz
    · rw [List.getElem?_append_right (by omega)] at hz
      have : k - acc.length = 0 := by
        have := (List.getElem?_eq_some_iff.mp hz).1
        simp at this; omega
      rw [this] at hz
      cases hz
      have : k = done.length := by omega
      rw [this]; exact py
  · rintro acc e2 ⟨hla, hp, w, hw, j⟩
    rw [unwipe_w hw]
    exact q acc w hla hp j
/-- a slot that is empty or holds shared data -/
def Sl0 (x : Option Vl) : Prop := x = none ∨ ∃ y, x = some (.dt y 0)
theorem Sl0.n : Sl0 none := .inl rfl
theorem Sl0.s {d : PyData} : Sl0 (some (.dt d 0)) := .inr ⟨d, rfl⟩
/-! ### small data: repr works -/
def Fn (k n : Nat) (d : PyData) : Prop := d.showable = true ∧ d.leavesShort 60 = true ∧ d.depth ≤ k ∧ d.bulk ≤ n
def FnL (k n : Nat) (ds : List PyData) : Prop := PyData.showableAll ds = true ∧ PyData.leavesShortAll 60 ds = true ∧ PyData.depthAll ds ≤ k ∧ PyData.bulkAll ds ≤ n
theorem Fn.le {k n k' n' : Nat} {d : PyData} (h : Fn k n d) (h1 : k ≤ k') (h2 : n ≤ n') : Fn k' n' d := ⟨h.1, h.2.1, Nat.le_trans h.2.2.1 h1, Nat.le_trans h.2.2.2 h2⟩
theorem FnL.le {k n k' n' : Nat} {d : List PyData} (h : FnL k n d) (h1 : k ≤ k') (h2 : n ≤ n') : FnL k' n' d := ⟨h.1, h.2.1, Nat.le_trans h.2.2.1 h1, Nat.le_trans h.2.2.2 h2⟩
theorem FnL.nil {k n : Nat} : FnL k n [] := ⟨rfl, rfl, Nat.zero_le _, Nat.zero_le _⟩
theorem FnL.cons {k n m : Nat} {d : PyData} {ds : List PyData} (h : Fn k n d) (t : FnL k m ds) : FnL k (n + 1 + m) (d :: ds) := by
  obtain ⟨h1, h2, h3, h4⟩ := h
  obtain ⟨t1, t2, t3, t4⟩ := t
  refine ⟨by simp [PyData.showableAll, h1, t1], by simp [PyData.leavesShortAll, h2, t2], ?_, ?_⟩
  · simp only [PyData.depthAll]; omega
  · simp only [PyData.bulkAll]; omega
theorem FnL.app {k n m : Nat} : ∀ {ds es : List PyData}, FnL k n ds → FnL k m es → FnL k (n + m) (ds ++ es)
  | [], es, _, t => t.le (Nat.le_refl _) (by omega)
  | d :: ds, es, h, t => by
    obtain ⟨h1, h2, h3, h4⟩ := h
    simp only [PyData.showableAll, PyData.leavesShortAll, PyData.depthAll, PyData.bulkAll, Bool.and_eq_true] at h1 h2 h3 h4
    have ih := FnL.app (n := n - (d.bulk + 1)) (m := m) ⟨h1.2, h2.2, by omega, by omega⟩ t
    exact (FnL.cons (n := d.bulk) ⟨h1.1, h2.1, by omega, Nat.le_refl _⟩ ih).le (Nat.le_refl _) (by omega)
theorem FnL.all {k n : Nat} : ∀ {ds : List PyData}, (∀ d ∈ ds, Fn k n d) → FnL k ((n + 1) * ds.length) ds
  | [], _ => .nil
  | d :: ds, h => (FnL.cons (h d List.mem_cons_self) (FnL.all fun x hx => h x (List.mem_cons_of_mem _ hx))).le (Nat.le_refl _) (by rw [List.length_cons, Nat.mul_add]; omega)
theorem FnL.mem {k n : Nat} : ∀ {ds : List PyData}, FnL k n ds → ∀ d ∈ ds, Fn k n d
  | [], _, d, hd => nomatch hd
  | x :: ds, h, d, hd => by
    obtain ⟨h1, h2, h3, h4⟩ := h
    simp only [PyData.showableAll, PyData.leavesShortAll, PyData.depthAll, PyData.bulkAll, Bool.and_eq_true] at h1 h2 h3 h4
    rcases List.mem_cons.mp hd with z | z
    · rw [z]; exact ⟨h1.1, h2.1, by omega, by omega⟩
    · exact FnL.mem (n := n) ⟨h1.2, h2.2, by omega, by omega⟩ d z
theorem Fn.list {k n : Nat} {ds : List PyData} (h : FnL k n ds) : Fn (k + 1) n (.list ds) := by
  obtain ⟨h1, h2, h3, h4⟩ := h
  exact ⟨by simpa [PyData.showable] using h1, by simpa [PyData.leavesShort] using h2, by simp only [PyData.depth]; omega, by simpa [PyData.bulk] using h4⟩
theorem Fn.tuple {k n : Nat} {ds : List PyData} (h : FnL k n ds) : Fn (k + 1) n (.tuple ds) := by
  obtain ⟨h1, h2, h3, h4⟩ := h
  exact ⟨by simpa [PyData.showable] using h1, by simpa [PyData.leavesShort] using h2, by simp only [PyData.depth]; omega, by simpa [PyData.bulk] using h4⟩
theorem Fn.dict1 {k n m : Nat} {a b : PyData} (h : Fn k n a) (t : Fn k m b) : Fn (k + 1) (n + m + 2) (.dict [(a, b)]) := by
  obtain ⟨h1, h2, h3, h4⟩ := h
  obtain ⟨t1, t2, t3, t4⟩ := t
  refine ⟨by simp [PyData.showable, PyData.showableKv, h1, t1], by simp [PyData.leavesShort, PyData.leavesShortKv, h2, t2], ?_, ?_⟩
  · simp only [PyData.depth, PyData.depthKv]; omega
  · simp only [PyData.bulk, PyData.bulkKv]; omega
theorem Fn.int {k n : Nat} {i : Int} (h : i.natAbs < 10 ^ 50) : Fn k n (.int i) := by
  have h2 : i.natAbs.log2 < 1920 := by
    rcases Nat.eq_zero_or_pos i.natAbs with z | z
    · rw [z]; decide
    · have : i.natAbs < 2 ^ 200 := Nat.lt_of_lt_of_le h (by decide +kernel)
      have := (Nat.log2_lt (k := 200) (by omega)).mpr this
      omega
  refine ⟨by simpa [PyData.showable] using h2, ?_, Nat.zero_le _, Nat.zero_le _⟩
  have e := int_text_length_le10 (k := 50) (by decide) h
  have e2 : (PyData.shown (.int i)).length ≤ 60 := by
    show (Str.ofString (toString i)).length ≤ 60
    rw [PySem.ofString_length]; omega
  simpa only [PyData.leavesShort, decide_eq_true_eq] using e2
theorem Fn.small {k n : Nat} {i : Int} (h : -1000000 ≤ i) (h' : i ≤ 1000000) : Fn k n (.int i) := Fn.int (Nat.lt_of_le_of_lt (m := 1000000) (by omega) (by decide +kernel))
theorem Fn.str {k n : Nat} {x : Str} (h : (x.cps.toList.all fun c => decide (c < 16 ^ 8)) = true) (hl : x.cps.size ≤ n) : Fn k n (.str x) := ⟨rfl, by simpa only [PyData.leavesShort] using h, Nat.zero_le _, by simpa only [PyData.bulk] using hl⟩
theorem Fn.bool {k n : Nat} {b : Bool} : Fn k n (.bool b) := ⟨rfl, rfl, Nat.zero_le _, Nat.zero_le _⟩
theorem Fn.none {k n : Nat} : Fn k n .none := ⟨rfl, rfl, Nat.zero_le _, Nat.zero_le _⟩
theorem Fn.shown {k n : Nat} {d : PyData} (h : Fn k n d) (hk : k ≤ 60) (hn : n ≤ 200000) : d.showable = true ∧ d.depth ≤ 60 ∧ d.shown.length ≤ 16000000 := by
  obtain ⟨h1, h2, h3, h4⟩ := h
  refine ⟨h1, by omega, ?_⟩
  have hb := PyData.shown_le_bulk 60 (by decide) d h2
  have := Nat.mul_le_mul_left 62 (Nat.le_trans h4 hn)
  omega
def fnB (k n : Nat) (d : PyData) : Bool := d.showable && d.leavesShort 60 && decide (d.depth ≤ k) && decide (d.bulk ≤ n)
theorem fn_of_all {k n : Nat} {ds : List PyData} (h : ds.all (fnB k n) = true) : ∀ d ∈ ds, Fn k n d := fun d hd => by
  have := List.all_eq_true.mp h d hd
  simp only [fnB, Bool.and_eq_true, decide_eq_true_eq] at this
  exact ⟨this.1.1.1, this.1.1.2, this.1.2, this.2⟩
theorem filter_yes {α : Type} (l : List α) : l.filter (fun _ => true) = l := by simp
theorem filter_no {α : Type} (l : List α) : l.filter (fun _ => false) = [] := by simp
theorem us_reprF {rs : List RV} {e : Ev} {Q : RV → Ev → Prop} {d : PyData} {k n : Nat} (h : Fn k n d) (hk : k ≤ 60) (hn : n ≤ 200000) (h1 : derefs e rs = some [d]) (q : Q (.val (.str d.shown) 0) e) : Us oRepr2 rs e Q :=
  us_repr2 h1 (h.shown hk hn).1 (h.shown hk hn).2.1 (h.shown hk hn).2.2 q
theorem mem_atI {α : Type} {l : List α} {i : Int} {x : α} (h : atI l i = some x) : x ∈ l := by
  unfold atI at h
  cases q : ixN l.length i with
  | none => rw [q] at h; cases h
  | some j =>
    rw [q] at h
    exact List.mem_of_getElem? (i := j) h
theorem atI_in {α : Type} {l : List α} {i : Int} (h0 : 0 ≤ i) (h1 : i < l.length) : ∃ x, atI l i = some x ∧ x ∈ l := by
  have hi : i.toNat < l.length := by omega
  exact ⟨l[i.toNat], atI_ok h0 (List.getElem?_eq_getElem hi), List.getElem_mem hi⟩
/-- an item of a shared list, of which only is known that it is one of them -/
theorem us_ixM {rs : List RV} {e : Ev} {Q : RV → Ev → Prop} {ds : List PyData} {i : Int} (h1 : derefs e rs = some [.list ds, .int i]) (h2 : rs.any isBor = false) (h3 : 0 ≤ i) (h4 : i < ds.length) (q : ∀ d ∈ ds, Q (.val d 0) e) : Us oIx rs e Q := by
  obtain ⟨x, hx, hm⟩ := atI_in h3 h4
  exact us_ixL h1 hx (by rw [h2]; rfl) (q x hm)
end PV

/-! PVV3: d[k] = v, sorted(d). -/
namespace PV
open PySem PySem.Spec PyProof.Rows L2
def sIxD (d ix v : PyData) : Option PyData := match d with
  | .dict l => match keyOf ix with
    | some k => if l.length ≤ 1000 then some (.dict (dput l k v)) else none
    | none => none
  | _ => none
theorem sp_dict {K : PySem.W.Frag} : SPrim K rSetD sIxD := by
  intro a u c x ix v d S H Q c' ha hu hx hv sb e q
  unfold sIxD at e
  split at e
  · rename_i l
    cases hk : keyOf ix with
    | none => rw [hk] at e; cases e
    | some k =>
      rw [hk] at e
      simp only at e
      split at e
      · rename_i hl
        cases e
        obtain ⟨vs, rfl, r⟩ := hu.dic
        have ek := keyOf_kD hk
        subst ek
        have ex := rp_key hx
        subst ex
        show ∃ a' H', V.ref a = .ref a' ∧ DPut H a' (kV k) v H' ∧ Q H'
        exact ⟨a, _, rfl, DPut.k ha (by rw [r.length, sizeLine_eq]; omega), q _ (.mkD (r.put hv k))⟩
      · cases e
  · cases e
/-- the whole numbers that are a dict's keys -/
def keysI (l : List (PyData × PyData)) : Option (List Int) := intsOf (l.map (·.1))
def oSortedA : Op := fun ds => match ds with
  | [.dict l] => if l.length < 64 then (keysI l).map fun ks => (.list ((isort ks).map .int), 1) else none
  | ds => oSorted ds
def rSortDI (K : PySem.W.Frag) : List V → Hp → VK → Prop := fun xs H Q => ∃ (a : Addr) (kvs : List (Key × V)) (ks : List Int), xs = [.ref a] ∧ Rd H a (.dK kvs) ∧ kvs.map (·.1) = ks.map Sum.inl ∧ ks.length < 64 ∧
    ∀ (ys : List Int) (p : Addr), ys.Perm ks → ys.Pairwise (· ≤ ·) → H p = none → Q (.ref p) (upd H p (.lst (ys.map V.int)))
theorem RpK.keysI {K : PySem.W.Frag} {S : Hp} : ∀ {kvs : List (Key × V)} {l : List (PyData × PyData)} (ks : List Int), RpK K S kvs l → l.map (·.1) = ks.map PyData.int → kvs.map (·.1) = ks.map Sum.inl
  | _, _, [], .nil, _ => rfl
  | _, _, [], .cons _ _, h => nomatch h
  | _, _, k :: ks, .nil, h => nomatch h
  | (k', _) :: _, _, k :: ks, .cons a b, h => by
    rw [List.map_cons, List.map_cons] at h
    injection h with h1 h2
    rw [List.map_cons, List.map_cons, RpK.keysI ks b h2]
    cases k' with
    | inl i => injection h1 with h1; rw [h1]
    | inr x => cases h1
theorem p_sortedA {K : PySem.W.Frag} : Prim K (fun vs H Q => rSortedI K vs H Q ∨ rSortDI K vs H Q) oSortedA := fun vs ds S H Q r m rp sb e q => by
  unfold oSortedA at e
  split at e
  · rename_i l
    split at e
    · rename_i hl
      cases z : PV.keysI l with
      | none => rw [z] at e; cases e
      | some ks =>
        rw [z] at e
        cases e
        obtain ⟨x, rfl, h⟩ := rp_one' rp
        have hk := intsOf_ok z
        cases h with
        | dic p1 p2 =>
          refine .inr ⟨_, _, ks, rfl, Same.rd sb p1, RpK.keysI ks p2 hk, ?_, fun ns' p hp hs hn => ?_⟩
          · have := congrArg List.length hk
            rw [List.length_map, List.length_map] at this
            omega
          · have : ns' = isort ks := sorted_uniq (hp.trans (isort_perm ks).symm) hs (isort_sorted ks)
            subst this
            exact q _ _ _ _ (Made.lst sb hn) (Own.newLst (RpL.of_ints _))
    · cases e
  · exact .inl (p_sorted vs _ S H Q r m rp sb e q)
theorem cr_sortedA {X : Cx} (hc : X.calm = true) : CallR X (.builtin "sorted") (fun vs H Q => rSortedI X.K vs H Q ∨ rSortDI X.K vs H Q) := CallR.or cr_sortedI (call_sortedDI hc)
/-! rules -/
section
variable {e : Ev} {Q : RV → Ev → Prop}
theorem tgs_dict {i : Nat} {fk : Ev → Res RV} {l : List (PyData × PyData)} {k : PyData} {kk : Key} {d : PyData} (h1 : e[i]? = some (some (.dt (.dict l) 1))) (h2 : Ok fk e fun r e1 => e1 = e ∧ settle [r] e1 = some ([k], e)) (h3 : keyOf k = some kk) (h4 : l.length ≤ 1000) :
    tgSub sIxD i fk d e = some (e.set i (some (.dt (.dict (dput l kk d)) 1))) := by
  obtain ⟨r, e1, h2, rfl, h5⟩ := h2
  unfold tgSub isDt
  simp only [h1, h2, h5]
  rw [if_pos True.intro]
  rw [if_pos (show boxD (.dict l) = true from rfl)]
  show (match (match keyOf k with | some k => if l.length ≤ 1000 then some (PyData.dict (dput l k d)) else none | none => none) with | some c' => _ | none => none) = _
  rw [h3]
  show (match (if l.length ≤ 1000 then some (PyData.dict (dput l kk d)) else none) with | some c' => _ | none => none) = _
  rw [if_pos h4]
theorem us_inD {rs : List RV} {k : PyData} {kk : Key} {l : List (PyData × PyData)} (h1 : derefs e rs = some [k, .dict l]) (h2 : keyOf k = some kk) (q : Q (.val (.bool (dget l kk).isSome) 0) e) : Us oInA rs e Q :=
  us_of (d := .bool (dget l kk).isSome) (m := 0) h1 (by show (keyOf k).map _ = _; rw [h2]; rfl) (by show (_ && !true) = false; rw [Bool.not_true, Bool.and_false]) q
theorem us_notInD {rs : List RV} {k : PyData} {kk : Key} {l : List (PyData × PyData)} (h1 : derefs e rs = some [k, .dict l]) (h2 : keyOf k = some kk) (q : Q (.val (.bool (!(dget l kk).isSome)) 0) e) : Us oNotInA rs e Q :=
  us_of (d := .bool (!(dget l kk).isSome)) (m := 0) h1 (by show (keyOf k).map _ = _; rw [h2]; rfl) (by show (_ && !true) = false; rw [Bool.not_true, Bool.and_false]) q
theorem us_sortD {rs : List RV} {l : List (PyData × PyData)} {ks : List Int} (h1 : derefs e rs = some [.dict l]) (h2 : l.map (·.1) = ks.map .int) (h3 : l.length < 64) (q : Q (.val (.list ((isort ks).map .int)) 1) e) : Us oSortedA rs e Q :=
  us_of (d := .list ((isort ks).map .int)) (m := 1) h1 (by
    show (if l.length < 64 then (keysI l).map _ else none) = _
    rw [if_pos h3]; unfold keysI; rw [h2, intsOf_map]; rfl) (by rw [flat_ints, Bool.not_true, Bool.and_false]) q
end
/-- while, by an invariant with a bound that falls -/
theorem ru_while {fc : Ev → Res RV} {fb : Ev → SRes} {n : Nat} {e : Ev} {N : Ev → Prop} {R : PyData → Nat → Ev → Prop} {B C : Ev → Prop} (I : Nat → Ev → Prop) (k : Nat) (hk : k < n) (h0 : I k e)
    (st : ∀ k e, I k e → Tb fc e fun b e1 => (b = true → Ru fb e1 (fun e2 => ∃ j, j < k ∧ I j e2) R N (fun e2 => ∃ j, j < k ∧ I j e2)) ∧ (b = false → N e1)) : Ru (fWhile fc fb n) e N R B C := by
  induction n generalizing k e with
  | zero => omega
  | succ n ih =>
    show Ru (fIf fc (fun e1 => match fb e1 with | .nx e2 => fWhile fc fb n e2 | .ct e2 => fWhile fc fb n e2 | .bk e2 => .nx e2 | r => r) fNx) e N R B C
    refine ru_if ((st k e h0).mono ?_)
    rintro r e1 ⟨b, m, er, h1, h2⟩
    refine ⟨b, m, er, fun hb => ?_, fun hb => ru_nx (h2 hb)⟩
    have h1 := (h1 hb).ok
    refine ⟨?_⟩
    unfold RuM at h1 ⊢
    cases q : fb e1 with
    | nx e2 =>
      simp only [q] at h1 ⊢
      obtain ⟨j, hj, hI⟩ := h1
      exact (ih j (by omega) hI).ok
    | ct e2 =>
      simp only [q] at h1 ⊢
      obtain ⟨j, hj, hI⟩ := h1
      exact (ih j (by omega) hI).ok
    | bk e2 => simp only [q] at h1 ⊢; exact h1
    | rt d n e2 => simp only [q] at h1 ⊢; exact h1
    | exc c e2 => simp only [q] at h1
    | no => simp only [q] at h1
end PV

/-! PVV4: <= of lists of whole numbers. -/
namespace PV
open PySem PySem.Spec PyProof.Rows L2
def rLeD (K : PySem.W.Frag) : R2 := fun x y H Q => ∃ ns ms : List Int, Rp K H x (.list (ns.map .int)) ∧ Rp K H y (.list (ms.map .int)) ∧ Q (.bl (!PySem.W.dataLt (.list (ms.map .int)) (.list (ns.map .int)))) H
theorem hasDictAll_ints : ∀ ns : List Int, PyData.hasDictAll (ns.map .int) = false
  | [] => rfl
  | n :: ns => by
    have := hasDictAll_ints ns
    simpa [PyData.hasDictAll, PyData.hasDict] using this
theorem depthAll_ints : ∀ ns : List Int, PyData.depthAll (ns.map .int) = 0
  | [] => rfl
  | n :: ns => by
    have := depthAll_ints ns
    simpa [PyData.depthAll, PyData.depth] using this
theorem alikeAll_ints : ∀ ns ms : List Int, PySem.W.alikeAll (ns.map .int) (ms.map .int) = true
  | [], ms => by cases ms <;> rfl
  | _ :: _, [] => rfl
  | n :: ns, m :: ms => by
    have := alikeAll_ints ns ms
    simpa [PySem.W.alikeAll, PySem.W.alike] using this
theorem op_leD {X : Cx} (hu : X.A.units + 65 < cLine) : OpR X (compareOp .LtE) (rLeD X.K) := by
  intro pins s σ H x y v u Q I rx ry h
  obtain ⟨ns, ms, hx, hy, q⟩ := h
  obtain ⟨as, ra⟩ := reads_of I _ _ v (by simpa [PyData.hasDict] using hasDictAll_ints ns) hx rx
  obtain ⟨bs, rb⟩ := reads_of I _ _ u (by simpa [PyData.hasDict] using hasDictAll_ints ms) hy ry
  refine PySem.W.le_data ra rb (by simpa [PySem.W.alike] using alikeAll_ints ns ms) (fun z => nomatch z) ?_ ⟨.bl _, H, I, rfl, q⟩
  have d1 : (PyData.list (ns.map .int)).depth ≤ 1 := by simp [PyData.depth, depthAll_ints]
  have : min (PyData.list (ns.map .int)).depth (PyData.list (ms.map .int)).depth ≤ 1 := Nat.le_trans (Nat.min_le_left _ _) d1
  omega
def oLeA : Op := fun ds => match ds with
  | [.list a, .list b] => (intsOf a).bind fun ns => (intsOf b).map fun ms => (.bool (!PySem.W.dataLt (.list (ms.map .int)) (.list (ns.map .int))), 0)
  | ds => oLe ds
theorem p_leA {K : PySem.W.Frag} : Prim K (fun vs H Q => ∀ x y, vs = [x, y] → rI0 (fun i j => .bl (decide (i ≤ j))) x y H Q ∨ rLeD K x y H Q) oLeA := fun vs ds S H Q r m rp sb e q x y ev => by
  unfold oLeA at e
  split at e
  · rename_i a b
    cases ha : intsOf a with
    | none => rw [ha] at e; cases e
    | some ns =>
      cases hb : intsOf b with
      | none => rw [ha] at e; simp only [Option.bind_some, hb] at e; cases e
      | some ms =>
        rw [ha] at e
        simp only [Option.bind_some, hb, Option.map_some] at e
        cases e
        obtain ⟨v1, v2, rfl, h1, h2⟩ := rp_two' rp
        cases ev
        rw [intsOf_ok ha] at h1
        rw [intsOf_ok hb] at h2
        exact .inr ⟨ns, ms, h1.mn sb, h2.mn sb, q _ _ _ _ (Made.refl sb) ⟨rfl, .bl _⟩⟩
  · exact .inl (p_le vs _ S H Q r m rp sb e q x y ev)
section
variable {X : Cx} {W : WX} {a b : Expr} {fa fb : Ev → Res RV} {pos : Pos}
theorem vLtEA (hu : X.A.units + 65 < cLine) (ha : EE X W a fa) (hb : EE X W b fb) (hm : behindInMarks .LtE b = false := by with_unfolding_all rfl) : EE X W (.Compare a [.LtE] [b] pos) (f2 oLeA fa fb) := ee_cmp (op_le.or (op_leD hu)) p_leA ha hb hm
theorem yLtEA (hu : X.A.units + 65 < cLine) (ha : EE X W a fa) (hb : EE X W b fb) (hm : behindInMarks .LtE b = false := by with_unfolding_all rfl) : ET X W (.Compare a [.LtE] [b] pos) (f2 oLeA fa fb) := et_cmp (op_le.or (op_leD hu)) p_leA ha hb hm
end
/-- lists as they are in order -/
def lexN : List Nat → List Nat → Bool
  | [], _ => true
  | _ :: _, [] => false
  | x :: xs, y :: ys => if x = y then lexN xs ys else decide (x < y)
theorem lexN_data : ∀ xs ys : List Nat, lexN xs ys = true → PySem.W.dataLt (.list ((ys.map Int.ofNat).map .int)) (.list ((xs.map Int.ofNat).map .int)) = false
  | [], ys, _ => by
    cases ys with
    | nil => exact lex_self (O := itemOrd) (.inl 0) [] []
    | cons y ys =>
      show PyProof.Rows.lexLt itemOrd (.inl 1 :: _) (.inl 0 :: []) = false
      rw [lex_diff (O := itemOrd) (by decide)]; rfl
  | _ :: _, [], h => by cases h
  | x :: xs, y :: ys, h => by
    have ih := lexN_data xs ys
    show PyProof.Rows.lexLt itemOrd (.inl 1 :: .inl (Int.ofNat y) :: PySem.W.keyToksAll ((ys.map Int.ofNat).map .int)) (.inl 1 :: .inl (Int.ofNat x) :: PySem.W.keyToksAll ((xs.map Int.ofNat).map .int)) = false
    rw [lex_self (O := itemOrd)]
    unfold lexN at h
    by_cases e : x = y
    · subst e
      rw [if_pos rfl] at h
      rw [lex_self (O := itemOrd)]
      exact ih h
    · rw [if_neg e] at h
      rw [lex_diff (O := itemOrd) (fun z => e (by injection z with z; exact (Int.ofNat.inj z).symm))]
      show decide (Int.ofNat y < Int.ofNat x) = false
      have := of_decide_eq_true h
      exact decide_eq_false (by simp; omega)
end PV

/-! PVV5: for a, b in [(x, y), (z, w)]: what is owned comes over to a and b, turn by turn. -/
namespace PV
open PySem PySem.Spec PyProof.Rows L2
def turn2 (i j : Nat) (fb : Ev → SRes) (r s : RV) (k : Ev → SRes) (e : Ev) : SRes := match putR i r e with
  | some e1 => (match putR j s e1 with
    | some e2 => (match fb e2 with
      | .nx e3 => k e3
      | .ct e3 => k e3
      | .bk e3 => .nx e3
      | r => r)
    | none => .no)
  | none => .no
def isVal : RV → Bool
  | .val _ _ => true
  | _ => false
def fFor2 (i j : Nat) (f1 f2 : List (Ev → Res RV)) (fb : Ev → SRes) (e : Ev) : SRes := match fArgs f1 e with
  | .ok rs e1 => (match fArgs f2 e1 with
    | .ok ss e2 => (match rs, ss with
      | [r1, s1], [r2, s2] => if (isVal r1 && isVal s1 && isVal r2 && isVal s2) = true then turn2 i j fb r1 s1 (fun e => turn2 i j fb r2 s2 SRes.nx e) e2 else .no
      | _, _ => .no)
    | _ => .no)
  | _ => .no
section
variable {G : Gx} {W : WX} {P : Nat → Bool} {S S1 S2 H H1 H2 : Hp} {σ σ1 σ2 : L2.St} {e e1 e2 : Ev} {A A1 A2 B : List Addr} {ts us : List Tmp} {D : Ends}
/-- an object of nobody's is laid, temporaries or not -/
theorem Cu.layT {p : Addr} {o : HO} (R : Cu G S H σ e A ts) (hp : H p = none) : Cu G S (upd H p o) σ e A ts ∧ Step S (A ++ fps ts) H S (A ++ fps ts) (upd H p o) ∧ p ∉ A ++ fps ts := by
  have sm : Same H (upd H p o) := fun b u z => by rw [upd_ne (ne_of_none z hp)]; exact z
  refine ⟨⟨R.sub.trans sm, R.nod, R.off, R.slots.keep (Same.refl S) fun b _ u z => sm b u z, fun t ht => (R.tmps t ht).keep (Same.refl S) fun b _ u z => sm b u z⟩, ⟨fun b u z _ => sm b u z, fun b z => ?_, Same.refl S, fun b u z => .inl z, fun a ha => .inl ha⟩, fun z => R.trk z hp⟩
  cases y : H b with
  | none => exact absurd y z
  | some u => rw [sm b u y]; exact fun w => nomatch w
/-- temporaries that are data stay, whatever the slots become -/
theorem keepT (nd : (B ++ fps ts).Nodup) (off : ∀ a ∈ fps ts, S a = none) (trk : ∀ a ∈ fps ts, H a ≠ none) (tm : ∀ t ∈ ts, RvOk G S H σ t.r t.v t.f) (hv : ∀ t ∈ ts, isVal t.r = true) (R2 : Cu G S2 H2 σ2 e2 A2 []) (st : Step S B H S2 A2 H2) :
    Cu G S2 H2 σ2 e2 A2 ts ∧ Step S (B ++ fps ts) H S2 (A2 ++ fps ts) H2 := by
  obtain ⟨n1, n2, n3⟩ := nodup_app.mp nd
  have m1 : A2.Nodup := nodup_nil.mp R2.nod
  have hB : ∀ a ∈ fps ts, a ∉ B := fun a ha z => n3 a z ha
  have hN : ∀ a ∈ fps ts, a ∉ A2 := fun a ha z => by
    rcases st.own a z with q | q
    · exact hB a ha q
    · exact trk a ha q
  have hO : ∀ a ∈ fps ts, S2 a = none := fun a ha => by
    cases z : S2 a with
    | none => rfl
    | some o =>
      rcases st.subF a o z with q | q | q
      · rw [off a ha] at q; cases q
      · exact absurd q (trk a ha)
      · exact absurd q (hB a ha)
  refine ⟨⟨R2.sub, nodup_app.mpr ⟨m1, n2, fun a ha z => hN a z ha⟩, fun a ha => ?_, R2.slots, fun t ht => ?_⟩, ?_⟩
  · rcases List.mem_append.mp ha with z | z
    · exact R2.off a (List.mem_append_left _ z)
    · exact hO a z
  · have k := (tm t ht).keep (S' := S2) (H' := H2) st.sub fun b hb o q => st.frame b o q (hB b (mem_fps.mpr ⟨t, ht, hb⟩))
    have v := hv t ht
    cases hr : t.r with
    | val d n => rw [hr] at k; exact k
    | bor i => rw [hr] at v; cases v
    | ex c => rw [hr] at v; cases v
  · refine ⟨fun b o q n => st.frame b o q fun z => n (List.mem_append_left _ z), st.grow, st.sub, fun b o q => (st.subF b o q).imp id (.imp id fun z => List.mem_append_left _ z), fun a ha => ?_⟩
    rcases List.mem_append.mp ha with z | z
    · exact (st.own a z).imp (fun w => List.mem_append_left _ w) id
    · exact .inl (List.mem_append_right _ z)
/-- the first temporary goes into a slot -/
theorem putT {i : Nat} {t : Tmp} (R : Cu G S H σ e A (t :: ts)) (hv : ∀ u ∈ ts, isVal u.r = true) (h : putR i t.r e = some e2) :
    ∃ S2 A2, Cu G S2 H (σ.set i (some t.v)) e2 A2 ts ∧ Step S (A ++ fps (t :: ts)) H S2 (A2 ++ fps ts) H := by
  have ef : fps (t :: ts) = t.f ++ fps ts := by unfold fps; rw [List.map_cons, List.flatten_cons]
  have e1 : A ++ fps (t :: ts) = (A ++ t.f) ++ fps ts := by rw [ef, List.append_assoc]
  have nd := R.nod
  rw [e1] at nd
  have R1 : Cu G S H σ e A [t] := ⟨R.sub, by rw [fps_one]; exact (nodup_app.mp nd).1, fun a ha => R.off a (by rw [e1]; rw [fps_one] at ha; exact List.mem_append_left _ ha), R.slots, fun u hu => R.tmps u (by rw [List.mem_singleton.mp hu]; exact List.mem_cons_self)⟩
  obtain ⟨S2, A2, R2, st⟩ := putR_ok (i := i) (r := t.r) (v := t.v) (f := t.f) R1 h
  obtain ⟨R3, st3⟩ := keepT (ts := ts) nd (fun a ha => R.off a (by rw [e1]; exact List.mem_append_right _ ha)) (fun a ha => R.trk (by rw [e1]; exact List.mem_append_right _ ha)) (fun u hu => R.tmps u (List.mem_cons_of_mem _ hu)) hv R2 st
  exact ⟨S2, A2, R3, by rw [e1]; exact st3⟩
/-- a turn's body under temporaries -/
theorem turnT {fb k : Ev → SRes} {N : L2.St → Hp → Prop} (R : Cu G S H σ e A ts) (hv : ∀ u ∈ ts, isVal u.r = true)
    (h : PostS G W P D S (A ++ fps ts) H σ (match fb e with | .nx e2 => k e2 | .ct e2 => k e2 | .bk e2 => .nx e2 | r => r))
    (hN : ∀ σ' H' S' A' e', PostS G W P D S' (A' ++ fps ts) H' σ' (k e') → Cu G S' H' σ' e' A' ts → Step S (A ++ fps ts) H S' (A' ++ fps ts) H' → N σ' H') : tS G W P fb { D with nx := N, ct := N, bk := D.nx } σ H := by
  refine ⟨S, e, A, R.base, ?_⟩
  have big : ∀ {S' H' : Hp} {A' : List Addr}, Step S A H S' A' H' → Step S (A ++ fps ts) H S' A' H' := fun st => st.more fun x hx => List.mem_append_left _ hx
  have go : ∀ {σ' : L2.St} {H' S' : Hp} {A' : List Addr} {e' : Ev}, PostS G W P D S (A ++ fps ts) H σ (k e') → Cu G S' H' σ' e' A' [] → Step S A H S' A' H' → Pin P σ σ' → N σ' H' := fun {σ' H' S' A' e'} hk R' st pn => by
    obtain ⟨R3, st3⟩ := keepT (σ := σ) R.nod (fun a ha => R.off a (List.mem_append_right _ ha)) (fun a ha => R.trk (List.mem_append_right _ ha)) R.tmps hv R' st
    exact hN σ' H' S' A' e' (PostS.pre st3 pn hk) R3 st3
  cases q : fb e with
  | no => rw [q] at h; exact h
  | nx e2 => rw [q] at h; exact fun σ' H' S' A' R' st pn => go h R' st pn
  | ct e2 => rw [q] at h; exact fun σ' H' S' A' R' st pn => go h R' st pn
  | bk e2 => rw [q] at h; exact fun σ' H' S' A' R' st pn => h σ' H' S' A' R' (big st) pn
  | rt d n e2 => rw [q] at h; exact fun v σ' H' S' A' f R' st pn => h v σ' H' S' A' f R' (big st) pn
  | exc c e2 => rw [q] at h; exact fun σ' H' S' A' C hC R' st pn => h σ' H' S' A' C hC R' (big st) pn
theorem turn2_ok {i j : Nat} {fb k : Ev → SRes} {N : L2.St → Hp → Prop} {t s : Tmp} (hi : P i = false) (hj : P j = false) (R : Cu G S H σ e A (t :: s :: ts)) (hv : ∀ u ∈ s :: ts, isVal u.r = true)
    (h : PostS G W P D S (A ++ fps (t :: s :: ts)) H σ (turn2 i j fb t.r s.r k e))
    (hN : ∀ σ' H' S' A' e', PostS G W P D S' (A' ++ fps ts) H' σ' (k e') → Cu G S' H' σ' e' A' ts → Step S (A ++ fps (t :: s :: ts)) H S' (A' ++ fps ts) H' → N σ' H') : tS G W P fb { D with nx := N, ct := N, bk := D.nx } ((σ.set i (some t.v)).set j (some s.v)) H := by
  unfold turn2 at h
  cases q1 : putR i t.r e with
  | none => rw [q1] at h; exact h.elim
  | some e1 =>
    rw [q1] at h
    simp only at h
    obtain ⟨S1, A1, R1, st1⟩ := putT R hv q1
    cases q2 : putR j s.r e1 with
    | none => rw [q2] at h; exact h.elim
    | some e2 =>
      rw [q2] at h
      simp only at h
      obtain ⟨S2, A2, R2, st2⟩ := putT R1 (fun u hu => hv u (List.mem_cons_of_mem _ hu)) q2
      have st := st1.trans st2
      refine turnT R2 (fun u hu => hv u (List.mem_cons_of_mem _ hu)) (PostS.pre st ((Pin.set hi).trans (Pin.set hj)) h) fun σ' H' S' A' e' hk R' st' => hN σ' H' S' A' e' hk R' (st.trans st')
end
theorem fArgs_len : ∀ {fs : List (Ev → Res RV)} {e e1 : Ev} {rs : List RV}, fArgs fs e = .ok rs e1 → rs.length = fs.length
  | [], e, e1, rs, h => by cases h; rfl
  | f :: fs, e, e1, rs, h => by
    unfold fArgs at h
    cases q : f e with
    | no => rw [q] at h; cases h
    | exc c e2 => rw [q] at h; cases h
    | ok r e2 =>
      rw [q] at h
      have h : (fArgs fs e2).bind (fun rs e3 => .ok (r :: rs) e3) = .ok rs e1 := h
      cases q2 : fArgs fs e2 with
      | no => rw [q2] at h; cases h
      | exc c e3 => rw [q2] at h; cases h
      | ok rs2 e3 =>
        rw [q2] at h
        cases h
        exact congrArg (· + 1) (fArgs_len q2)
theorem two_of {α : Type} {l : List α} (h : l.length = 2) : ∃ a b, l = [a, b] := by
  match l, h with
  | [a, b], _ => exact ⟨a, b, rfl⟩
/-- an object that nobody owns stays as it is -/
def Fx (H : Hp) (B : List Addr) (b : Addr) (o : HO) : Prop := H b = some o ∧ b ∉ B
theorem Fx.go {S S' H H' : Hp} {B B' : List Addr} {b : Addr} {o : HO} (h : Fx H B b o) (st : Step S B H S' B' H') : Fx H' B' b o :=
  ⟨st.frame b o h.1 h.2, fun z => (st.own b z).elim h.2 fun y => by rw [h.1] at y; cases y⟩
/-- the display of two pairs -/
def t2Pairs (t1 t2 : TA) : TE := tLst (tCons (tTup t1) (tCons (tTup t2) tNil))
section
variable {G : Gx} {W : WX} {P : Nat → Bool} {D : Ends}
theorem for2_ok {i j : Nat} {fa1 fb1 fa2 fb2 : Ev → Res RV} {fb : Ev → SRes} {σ0 : L2.St} {H0 : Hp} (hi : P i = false) (hj : P j = false) (h : tS G W P (fFor2 i j [fa1, fb1] [fa2, fb2] fb) D σ0 H0) :
    tFor (iList G.K (t2Pairs (tArgs G W [fa1, fb1]) (tArgs G W [fa2, fb2]))) (gTup G.K 2 (gCons (gName i) (gCons (gName j) gNil))) (tS G W P fb) D σ0 H0 := by
  obtain ⟨S0, e0, A0, C0, h⟩ := h
  have h : PostS G W P D S0 A0 H0 σ0 (match fArgs [fa1, fb1] e0 with | .ok rs e1 => (match fArgs [fa2, fb2] e1 with | .ok ss e2 => (match rs, ss with | [r1, s1], [r2, s2] => if (isVal r1 && isVal s1 && isVal r2 && isVal s2) = true then turn2 i j fb r1 s1 (fun e => turn2 i j fb r2 s2 SRes.nx e) e2 else .no | _, _ => .no) | _ => .no) | _ => .no) := h
  refine tArgs_next (G := G) C0 (S0 := S0) (A0 := A0) (H0 := H0) Step.refl0 ?_
  cases q1 : fArgs [fa1, fb1] e0 with
  | no => rw [q1] at h; exact h.elim
  | exc c e1 => rw [q1] at h; exact h.elim
  | ok rs e1 =>
    rw [q1] at h
    simp only at h
    intro us1 H1 S1 A1 eu1 R1 st1
    have l1 := fArgs_len q1
    have lu1 : us1.length = 2 := by rw [← List.length_map (f := fun t : Tmp => t.r), eu1]; exact l1
    refine ⟨by rw [List.length_map, lu1, sizeLine_eq]; omega, fun T1 hT1 => ?_⟩
    obtain ⟨R1', stT1, nT1⟩ := Cu.layT (o := .tup (us1.map (·.v))) R1 hT1
    refine tArgs_next (G := G) R1' (S0 := S1) (A0 := A1 ++ fps ([] ++ us1)) (H0 := upd H1 T1 (.tup (us1.map (·.v)))) Step.refl ?_
    cases q2 : fArgs [fa2, fb2] e1 with
    | no => rw [q2] at h; exact h.elim
    | exc c e2 => rw [q2] at h; exact h.elim
    | ok ss e2 =>
      rw [q2] at h
      simp only at h
      intro us2 H2 S2 A2 eu2 R2 st2
      have l2 := fArgs_len q2
      have lu2 : us2.length = 2 := by rw [← List.length_map (f := fun t : Tmp => t.r), eu2]; exact l2
      refine ⟨by rw [List.length_map, lu2, sizeLine_eq]; omega, fun T2 hT2 => ⟨by rw [sizeLine_eq]; show 2 ≤ _; omega, fun L hL => ?_⟩⟩
      obtain ⟨t1, s1, rfl⟩ : ∃ t1 s1, us1 = [t1, s1] := two_of lu1
      obtain ⟨t2, s2, rfl⟩ : ∃ t2 s2, us2 = [t2, s2] := two_of lu2
      subst eu1 eu2
      obtain ⟨R3, st3, nT2⟩ := Cu.layT (o := .tup ([t2, s2].map (·.v))) R2 hT2
      obtain ⟨R4, st4, nL⟩ := Cu.layT (o := .lst [.ref T1, .ref T2]) R3 hL
      have h : PostS G W P D S0 A0 H0 σ0 (if (isVal t1.r && isVal s1.r && isVal t2.r && isVal s2.r) = true then turn2 i j fb t1.r s1.r (fun e => turn2 i j fb t2.r s2.r SRes.nx e) e2 else .no) := h
      by_cases hv : (isVal t1.r && isVal s1.r && isVal t2.r && isVal s2.r) = true
      · rw [if_pos hv] at h
        simp only [Bool.and_eq_true] at hv
        obtain ⟨⟨⟨v1, v2⟩, v3⟩, v4⟩ := hv
        have F1 : Fx H2 (A2 ++ fps ([] ++ [t1, s1] ++ [t2, s2])) T1 (.tup [t1.v, s1.v]) := Fx.go ⟨upd_same, nT1⟩ st2
        have F1 := (F1.go st3).go st4
        have F2 : Fx (upd H2 T2 (.tup ([t2, s2].map (·.v)))) (A2 ++ fps ([] ++ [t1, s1] ++ [t2, s2])) T2 (.tup [t2.v, s2.v]) := ⟨upd_same, nT2⟩
        have F2 := F2.go st4
        have FL : Fx (upd (upd H2 T2 (.tup ([t2, s2].map (·.v)))) L (.lst [.ref T1, .ref T2])) (A2 ++ fps ([] ++ [t1, s1] ++ [t2, s2])) L (.lst [.ref T1, .ref T2]) := ⟨upd_same, nL⟩
        have hp := PostS.pre (((st1.trans stT1).trans st2).trans (st3.trans st4)) .refl h
        refine ⟨L, rfl, ⟨_, .inl (.inl FL.1)⟩, ?_⟩
        refine ⟨fun n m σ H => m = 2 - n ∧ ∃ S e A ts, Cu G S H σ e A ts ∧ Fx H (A ++ fps ts) T1 (.tup [t1.v, s1.v]) ∧ Fx H (A ++ fps ts) T2 (.tup [t2.v, s2.v]) ∧ Fx H (A ++ fps ts) L (.lst [.ref T1, .ref T2]) ∧
          ((n = 0 ∧ ts = [t1, s1, t2, s2] ∧ PostS G W P D S (A ++ fps ts) H σ (turn2 i j fb t1.r s1.r (fun e => turn2 i j fb t2.r s2.r SRes.nx e) e)) ∨ (n = 1 ∧ ts = [t2, s2] ∧ PostS G W P D S (A ++ fps ts) H σ (turn2 i j fb t2.r s2.r SRes.nx e)) ∨ (n = 2 ∧ ts = [] ∧ PostS G W P D S (A ++ fps ts) H σ (.nx e))),
          ⟨2, rfl, S2, e2, A2, _, R4, F1, F2, FL, .inl ⟨rfl, rfl, hp⟩⟩, ?_⟩
        rintro n m σ H ⟨rfl, S, e, A, ts, R, G1, G2, GL, c⟩
        rcases c with ⟨rfl, rfl, hp⟩ | ⟨rfl, rfl, hp⟩ | ⟨rfl, rfl, hp⟩
        · refine .inr ⟨⟨_, _, .inl (.inl GL.1), rfl⟩, fun σ' H' => ∃ S e A ts, Cu G S H' σ' e A ts ∧ Fx H' (A ++ fps ts) T1 (.tup [t1.v, s1.v]) ∧ Fx H' (A ++ fps ts) T2 (.tup [t2.v, s2.v]) ∧ Fx H' (A ++ fps ts) L (.lst [.ref T1, .ref T2]) ∧ ts = [t2, s2] ∧ PostS G W P D S (A ++ fps ts) H' σ' (turn2 i j fb t2.r s2.r SRes.nx e), fun σ' H' ⟨S, e, A, ts, a1, a2, a3, a4, a5, a6⟩ => ⟨1, by omega, rfl, S, e, A, ts, a1, a2, a3, a4, .inr (.inl ⟨rfl, a5, a6⟩)⟩, ?_⟩
          rintro x H' ⟨rfl, y⟩
          have ex := y _ (.inl (.inl GL.1))
          cases ex
          refine ⟨T1, _, rfl, .inl (.inl G1.1), rfl, _, _, rfl, _, _, rfl, rfl, turn2_ok (k := fun e => turn2 i j fb t2.r s2.r SRes.nx e) hi hj R ?_ hp fun σ' H' S' A' e' hk R' st' => ⟨S', e', A', _, R', G1.go st', G2.go st', GL.go st', rfl, hk⟩⟩
          intro u hu
          rcases List.mem_cons.mp hu with z | z
          · rw [z]; exact v2
          · rcases List.mem_cons.mp z with z | z
            · rw [z]; exact v3
            · rw [List.mem_singleton.mp z]; exact v4
        · refine .inr ⟨⟨_, _, .inl (.inl GL.1), rfl⟩, fun σ' H' => ∃ S e A ts, Cu G S H' σ' e A ts ∧ Fx H' (A ++ fps ts) T1 (.tup [t1.v, s1.v]) ∧ Fx H' (A ++ fps ts) T2 (.tup [t2.v, s2.v]) ∧ Fx H' (A ++ fps ts) L (.lst [.ref T1, .ref T2]) ∧ ts = [] ∧ PostS G W P D S (A ++ fps ts) H' σ' (.nx e), fun σ' H' ⟨S, e, A, ts, a1, a2, a3, a4, a5, a6⟩ => ⟨0, by omega, rfl, S, e, A, ts, a1, a2, a3, a4, .inr (.inr ⟨rfl, a5, a6⟩)⟩, ?_⟩
          rintro x H' ⟨rfl, y⟩
          have ex := y _ (.inl (.inl GL.1))
          cases ex
          refine ⟨T2, _, rfl, .inl (.inl G2.1), rfl, _, _, rfl, _, _, rfl, rfl, turn2_ok (ts := []) (k := SRes.nx) hi hj R ?_ hp fun σ' H' S' A' e' hk R' st' => ⟨S', e', A', _, R', G1.go st', G2.go st', GL.go st', rfl, hk⟩⟩
          intro u hu
          rw [List.mem_singleton.mp hu]; exact v4
        · refine .inl ⟨⟨_, .inl (.inl GL.1), by simp⟩, ?_⟩
          refine hp σ H S A R ?_ .refl
          show Step S (A ++ []) H S A H
          rw [List.append_nil]; exact .refl
      · rw [if_neg hv] at h; exact h.elim
end
section
variable {X : Cx} {W : WX} {P : Nat → Bool} {pos lp tp1 tp2 : Pos} {k1 k2 : Nat}
theorem es_for2 {i j : Nat} {tg a1 b1 a2 b2 : Expr} {body : List Stmt} {fa1 fb1 fa2 fb2 : Ev → Res RV} {fb : Ev → SRes} (hp : PassesOwn (model X.prog X.w) X.A X.env X.xe) (hc : X.calm = true) (hi : P i = false) (hj : P j = false)
    (h1 : EA X W [a1, b1] [fa1, fb1]) (h2 : EA X W [a2, b2] [fa2, fb2]) (hg : PG X tg (gTup X.K 2 (gCons (gName i) (gCons (gName j) gNil)))) (hb : ESs X W P body fb)
    (hs : starEach [Expr.Tuple [a1, b1] k1 tp1, Expr.Tuple [a2, b2] k2 tp2] X.env = (false, eval (.Tuple [a1, b1] k1 tp1) X.env) :: starEach [Expr.Tuple [a2, b2] k2 tp2] X.env := by rfl) (hs2 : starEach [Expr.Tuple [a2, b2] k2 tp2] X.env = (false, eval (.Tuple [a2, b2] k2 tp2) X.env) :: starEach [] X.env := by rfl)
    (hf : ∀ x, foldedSetIterable (.List [.Tuple [a1, b1] k1 tp1, .Tuple [a2, b2] k2 tp2] lp) X.env x = pure x := by intro _; rfl) : ES X W P (.For tg (.List [.Tuple [a1, b1] k1 tp1, .Tuple [a2, b2] k2 tp2] lp) body [] pos) (fFor2 i j [fa1, fb1] [fa2, fb2] fb) :=
  PS.imp (ps_for hp hc (pi_list (pe_lst (pa_cons (pe_tup h1) (pa_cons (pe_tup h2) pa_nil hs2) hs))) hg hb hf) fun D σ H q => for2_ok (G := gx X) hi hj q
end
/-! rules -/
theorem ru_turn2 {i j : Nat} {fb k : Ev → SRes} {r s : RV} {e : Ev} {N : Ev → Prop} {R : PyData → Nat → Ev → Prop} {B C : Ev → Prop}
    (h : ∃ e1 e2, putR i r e = some e1 ∧ putR j s e1 = some e2 ∧ Ru fb e2 (fun e3 => Ru k e3 N R B C) R N (fun e3 => Ru k e3 N R B C)) : Ru (turn2 i j fb r s k) e N R B C := by
  obtain ⟨e1, e2, h1, h2, h3⟩ := h
  have h3 := h3.ok
  refine ⟨?_⟩
  unfold RuM at h3 ⊢
  unfold turn2
  simp only [h1, h2]
  cases q : fb e2 with
  | nx e3 => simp only [q] at h3 ⊢; exact h3.ok
  | ct e3 => simp only [q] at h3 ⊢; exact h3.ok
  | bk e3 => simp only [q] at h3 ⊢; exact h3
  | rt d n e3 => simp only [q] at h3 ⊢; exact h3
  | exc c e3 => simp only [q] at h3
  | no => simp only [q] at h3
theorem ru_for2 {i j : Nat} {f1 f2 : List (Ev → Res RV)} {fb : Ev → SRes} {e : Ev} {N : Ev → Prop} {R : PyData → Nat → Ev → Prop} {B C : Ev → Prop}
    (h : OkA f1 e fun rs e1 => OkA f2 e1 fun ss e2 => ∃ r1 s1 r2 s2, rs = [r1, s1] ∧ ss = [r2, s2] ∧ (isVal r1 && isVal s1 && isVal r2 && isVal s2) = true ∧ Ru (turn2 i j fb r1 s1 fun e => turn2 i j fb r2 s2 SRes.nx e) e2 N R B C) : Ru (fFor2 i j f1 f2 fb) e N R B C := by
  obtain ⟨rs, e1, h1, ss, e2, h2, r1, s1, r2, s2, rfl, rfl, h3, h4⟩ := h
  have h4 := h4.ok
  refine ⟨?_⟩
  unfold RuM at h4 ⊢
  unfold fFor2
  simp only [h1, h2]
  rw [if_pos h3]
  exact h4
theorem ru_nx' {e : Ev} {N : Ev → Prop} {R : PyData → Nat → Ev → Prop} {B C : Ev → Prop} (h : N e) : Ru SRes.nx e N R B C := ⟨h⟩
end PV

/-! PVV6: sorted(set(a list of whole numbers)). -/
namespace PV
open PySem PySem.Spec PyProof.Rows L2
/-- a set just made -/
def set0 (w : World) : Obj := ⟨.type "set", none, .set #[] 0 (.fresh 0 0 (!w.params.followText "set-order")), #[]⟩
section
variable {P : Program} {w : World} {A : Around} {E : Value → Shared → Prop} {s : Shared}
theorem it_at {its : Array Value} {ns : List Int} (hi : IntsAre its.toList ns) {i : Nat} {v : Value} (hv : its[i]? = some v) : ∃ k t, ns[i]? = some k ∧ v = .int k t := by
  have hz := IntsAre.length hi
  rw [Array.length_toList] at hz
  have lt : i < ns.length := hz ▸ (Array.getElem?_eq_some_iff.mp hv).1
  have hv' : its.toList[i]? = some v := by rw [Array.getElem?_toList]; exact hv
  obtain ⟨t, rfl⟩ := hi.int_at i v hv'
  exact ⟨ns[i], t, by simp [lt], by simp [lt]⟩
theorem set_of_ints {l : Addr} {its : Array Value} {ns : List Int} {Q : Value → Shared → Prop} (calm : A.handled = none) (hl : s.heap.IsList l its) (hi : IntsAre its.toList ns) (few : ns.length + 1 < scanBound)
    (k : ∀ (h' : Heap) (tk c : Nat), SetR w h' s.heap.objs.size (fun j => decide (j ∈ ns)) c → c ≤ ns.length → (∀ b o, s.heap.get? b = some o → h'.get? b = some o) → Q (.ref s.heap.objs.size) { s with heap := h', toks := tk }) :
    wpAny (model P w) A (call (.type "set") [.ref l]) Q E s := by
  have hz : its.size = ns.length := by have := IntsAre.length hi; rwa [Array.length_toList] at this
  obtain ⟨_, _, m0⟩ := F.called_set.mro
  obtain ⟨m1, m2⟩ := And.intro F.called_set.made F.called_set.sub
  apply wpAny_call
  apply codeAny_of_tree
  show wpAny _ _ (callAny (.type "set") _) _ _ _
  apply wpAny_pure
  refine ⟨Code.quiet_builtin _ (by decide +kernel), ?_⟩
  apply codeAny_builtin F.entry_type_call
  rw [Around.under_plain (weight_type_call_type _ _ _) rfl]
  obtain ⟨n1, n2, n3⟩ := And.intro F.called_set.notType (And.intro F.called_set.canCreate (F.typeCall_set_1 (.ref l)))
  repeat any_goals first | assumption | wp_step
  refine codeAny_mono (code_set_led1 _ (E := E) (Q₁ := fun v t => v = .ref s.heap.objs.size ∧ t = { s with heap := s.heap.push (set0 w) }) ⟨rfl, rfl⟩) ?_
  intro r t ok
  match r, ok with
  | .error _, ok => exact ok
  | .ok (.ret v), ok =>
    obtain ⟨rfl, rfl⟩ := ok
    have at0 : (s.heap.push (set0 w)).get? s.heap.objs.size = some (set0 w) := Heap.get?_push_size _ rfl
    have ty : Shared.TypeIs { s with heap := s.heap.push (set0 w) } (.ref s.heap.objs.size) "set" := ⟨_, at0, rfl⟩
    have j1 := F.called_set.init.lookup
    have j2 := F.called_set.init.bind (.ref s.heap.objs.size)
    repeat any_goals first | assumption | wp_step
    refine codeAny_mono (codeAny_call_builtin (R := wants (fun v t => v = .none ∧ ∃ h' tk c, t = { s with heap := h', toks := tk } ∧ SetR w h' s.heap.objs.size (fun j => decide (j ∈ ns)) c ∧ c ≤ ns.length ∧
      (∀ b o, s.heap.get? b = some o → h'.get? b = some o)) E) F.called_set.init.plain F.entry_set_init (check_set_init_1 ty ?_)) ?_
    · obtain ⟨⟨oc, od, ot, os⟩, got, ec, len, ed⟩ := hl
      dsimp only at ec ed
      cases ec
      cases ed
      have inB : l < s.heap.objs.size := Heap.lt_size got
      have old : ∀ {b o}, s.heap.get? b = some o → (s.heap.push (set0 w)).get? b = some o := fun e => Heap.get?_push_of_some _ e
      have got' := old got
      obtain ⟨u1, u2⟩ := And.intro F.sub_list_set F.sub_list_frozenset
      have u3 : (Value.type "list" == Value.type "dict") = false := by decide
      have isl : (s.heap.push (set0 w)).IsList l its := ⟨_, got', rfl, len, rfl⟩
      unfold Builtin.«set.__init__» noKeywords Builtin.Frozenset.updateFrom
      generalize same : pyIter = G
      wp_walk
      subst same
      apply wpAny_pyIter_list isl
      apply wpAny_bind
      apply wpAny_runValue
      have calm3 : A.in1.in1.in1.handled = none := by simp [calm]
      have sz : (s.heap.push (set0 w)).objs.size = s.heap.objs.size + 1 := Heap.size_push ..
      have ne : l ≠ (s.heap.push (set0 w)).objs.size := by rw [sz]; exact Nat.ne_of_lt (Nat.lt_succ_of_lt inB)
      refine set_update_ints ((Walks.list calm3 _ l ne its).toS) s.heap.objs.size ?_ ns hz few (fun i v hv => it_at hi hv) (its.size - 0) 0 _ (by omega) (Nat.zero_le _) ⟨⟨_, Heap.get?_push_size _ rfl, rfl, rfl⟩, isl.push _⟩ ?_ ?_
      · simp only [List.mem_cons, List.not_mem_nil, or_false, not_or]
        exact ⟨by rw [sz]; exact Nat.ne_of_lt (Nat.lt_succ_self _), Nat.ne_of_gt inB⟩
      · exact ⟨0, Nat.le_refl 0, setR_new_at (Heap.get?_push_of_some _ at0)⟩
      · rintro ⟨h', g2, d2, tk, o2⟩ c mv le R
        cases (show g2 = s.gens from mv.gens)
        cases (show d2 = s.drawn from mv.drawn)
        cases (show o2 = s.os from mv.os)
        show wpAny _ _ _ _ _ _
        apply wpAny_pure
        show wpAny _ _ (ret Value.none) _ _ _
        apply wpAny_pure
        refine ⟨rfl, h', tk, c, rfl, R, hz ▸ le, ?_⟩
        intro b o e
        have lt := Heap.lt_size e
        refine mv.heap b o ?_ (Heap.get?_push_of_some _ (old e))
        simp only [List.mem_cons, List.not_mem_nil, or_false, not_or]
        exact ⟨Nat.ne_of_lt lt, by rw [sz]; exact Nat.ne_of_lt (Nat.lt_succ_of_lt lt)⟩
    · intro r2 t2 ok2
      match r2, ok2 with
      | .error _, ok2 => exact ok2
      | .ok (.ret v), ok2 =>
        obtain ⟨rfl, h', tk, c, rfl, R, le, keep⟩ := ok2
        repeat any_goals first | assumption | wp_step
        exact k _ _ _ R le keep
end
def ddup : List Int → List Int
  | [] => []
  | k :: ks => if k ∈ ddup ks then ddup ks else k :: ddup ks
theorem mem_ddup : ∀ {ks : List Int} {x : Int}, x ∈ ddup ks ↔ x ∈ ks
  | [], _ => Iff.rfl
  | k :: ks, x => by
    unfold ddup
    split
    · rename_i h
      rw [mem_ddup, List.mem_cons]
      exact ⟨.inr, fun z => z.elim (fun z => z ▸ mem_ddup.mp h) id⟩
    · rw [List.mem_cons, List.mem_cons, mem_ddup]
theorem nodup_ddup : ∀ {ks : List Int}, (ddup ks).Nodup
  | [] => List.nodup_nil
  | k :: ks => by
    unfold ddup
    split
    · exact nodup_ddup
    · rename_i h
      exact List.nodup_cons.mpr ⟨h, nodup_ddup⟩
theorem ddup_le : ∀ {ks : List Int}, (ddup ks).length ≤ ks.length
  | [] => Nat.le_refl _
  | k :: ks => by
    unfold ddup
    have := ddup_le (ks := ks)
    split <;> simp only [List.length_cons] <;> omega
/-- sorted(set(xs)) -/
def setSort (ks : List Int) : List Int := isort (ddup ks)
theorem mem_setSort {ks : List Int} {x : Int} : x ∈ setSort ks ↔ x ∈ ks := ((isort_perm _).mem_iff).trans mem_ddup
theorem setSort_lt {ks : List Int} : (setSort ks).Pairwise (· < ·) := by
  have h1 := isort_sorted (ddup ks)
  have h2 : (isort (ddup ks)).Nodup := ((isort_perm _).nodup_iff).mpr nodup_ddup
  exact (h1.and h2).imp fun {a b} h => by omega
theorem rise_uniq : ∀ {xs ys : List Int}, xs.Pairwise (· < ·) → ys.Pairwise (· < ·) → (∀ k, k ∈ xs ↔ k ∈ ys) → xs = ys
  | [], [], _, _, _ => rfl
  | [], y :: ys, _, _, h => absurd ((h y).mpr List.mem_cons_self) (by simp)
  | x :: xs, [], _, _, h => absurd ((h x).mp List.mem_cons_self) (by simp)
  | x :: xs, y :: ys, h1, h2, h => by
    rw [List.pairwise_cons] at h1 h2
    have e : x = y := by
      rcases List.mem_cons.mp ((h x).mp List.mem_cons_self) with z | z
      · exact z
      rcases List.mem_cons.mp ((h y).mpr List.mem_cons_self) with z' | z'
      · exact z'.symm
      have := h2.1 _ z
      have := h1.1 _ z'
      omega
    subst e
    congr 1
    refine rise_uniq h1.2 h2.2 fun k => ⟨fun z => ?_, fun z => ?_⟩
    · rcases List.mem_cons.mp ((h k).mp (List.mem_cons_of_mem _ z)) with q | q
      · have := h1.1 _ z; omega
      · exact q
    · rcases List.mem_cons.mp ((h k).mpr (List.mem_cons_of_mem _ z)) with q | q
      · have := h2.1 _ z; omega
      · exact q
def oSetSort : Op := fun ds => match ds with
  | [.list l] => match intsOf l with
    | some ks => if ks.length < 63 then some (.list ((setSort ks).map .int), 1) else none
    | none => none
  | _ => none
def tSetSort (K : PySem.W.Frag) (ta : TE) : TE := fun σ H Q => ta σ H fun x H1 => ∃ (l : Addr) (ns : List Int), x = .ref l ∧ SqL K H1 l (ns.map V.int) ∧ ns.length < 63 ∧ ∀ p, H1 p = none → Q (.ref p) (upd H1 p (.lst ((setSort ns).map V.int)))
theorem pe_setSort {X : Cx} {a : Expr} {ta : TE} {p p2 q pos : Pos} (hg : Gl X "sorted") (hm : X.mg "sorted" = none) (hg2 : Gl X "set") (hm2 : X.mg "set" = none) (ha : PE X a ta) (hc : X.calm = true)
    (na : starEach [a] X.env = (false, eval a X.env) :: starEach [] X.env := by rfl) (nb : starEach [.Call (.Name "set" p2) [a] [] q] X.env = (false, eval (.Call (.Name "set" p2) [a] [] q) X.env) :: starEach [] X.env := by rfl) :
    PE X (.Call (.Name "sorted" p) [.Call (.Name "set" p2) [a] [] q] [] pos) (tSetSort X.K ta) := by
  constructor
  intro pins s σ H Q I h
  refine Call_ (ld_blt I hg hm boot_sorted (callWith_builtin1 (args_cons ?_ nb) nb rfl))
  refine Call_ (ld_blt I hg2 hm2 boot_set (callWith_type1 (args_cons (thn (ha.run pins s σ H _ I h) ?_) na) na rfl))
  rintro v s1 ⟨x, H1, I1, r1, l, ns, rfl, hq, hl, q1⟩
  apply args_nil
  cases r1
  obtain ⟨its, r, pl, hz⟩ := I1.list hq
  have lz := r.length
  rw [List.length_map] at lz
  refine set_of_ints (I1.ok.hd hc) pl.isList (ns := ns) (by simpa using RZ.intsAre_vals r) (by unfold scanBound; omega) ?_
  intro h' tk c R le keep
  apply args_nil
  have I2 : Inv X pins σ H1 { s1 with heap := h', toks := tk } := I1.kept keep
  obtain ⟨s2, e2⟩ : ∃ s2, s2 = ({ s1 with heap := h', toks := tk } : Shared) := ⟨_, rfl⟩
  have R2 : SetR X.w s2.heap s1.heap.objs.size (fun j => decide (j ∈ ns)) c := e2 ▸ R
  rw [← e2] at I2 ⊢
  refine sorted_set R2 (I2.ok.hd hc) (by omega) ?_
  intro s3 b out cc ks k g o hp hg hi hs hm hl3
  have e3 : ks = setSort ns := rise_uniq hs setSort_lt fun j => by rw [hm, mem_setSort, decide_eq_true_eq]
  subst e3
  have off : H1 b = none := I2.hok.fresh hp
  have short : ((setSort ns).map V.int).length ≤ sizeLine := by rw [List.length_map, sizeLine_eq, hl3]; omega
  have J := (I2.call (ch := []) (Un.laid k hp off) (I2.hok.laid k hp ⟨short, out.toList, cc, vals_of_ints hi, hg⟩) (by rw [g]; exact I2.bare) (fun _ z => nomatch z) : Inv X pins σ (upd H1 b (.lst ((setSort ns).map V.int))) { heap := s3.heap, gens := s3.gens, drawn := s3.drawn, toks := s3.toks, os := s2.os })
  clear e2 R2
  cases s3
  cases s2
  cases o
  exact ⟨.ref b, _, J, rfl, q1 b off⟩
theorem p_setSort {K : PySem.W.Frag} : Prim K (fun vs H Q => ∀ x, vs = [x] → ∃ (l : Addr) (ns : List Int), x = .ref l ∧ SqL K H l (ns.map V.int) ∧ ns.length < 63 ∧ ∀ p, H p = none → Q (.ref p) (upd H p (.lst ((setSort ns).map V.int)))) oSetSort := fun vs ds S H Q r m rp sb e q x ev => by
  unfold oSetSort at e
  split at e
  · rename_i l
    cases z : intsOf l with
    | none => rw [z] at e; cases e
    | some ks =>
      rw [z] at e
      simp only at e
      split at e
      · rename_i hl
        cases e
        obtain ⟨y, rfl, hy⟩ := rp_one' rp
        cases ev
        have hk := intsOf_ok z
        subst hk
        cases hy with
        | lst h1 h2 =>
          have := h2.ints
          subst this
          exact ⟨_, ks, rfl, .inl (.inl (sb _ _ h1)), hl, fun p hp => q _ _ _ _ (Made.lst sb hp) (Own.newLst (RpL.of_ints _))⟩
      · cases e
  · cases e
theorem ee_setSort {X : Cx} {W : WX} {a : Expr} {fa : Ev → Res RV} {p p2 q pos : Pos} (hc : X.calm = true) (hg : Gl X "sorted") (hm : X.mg "sorted" = none) (hg2 : Gl X "set") (hm2 : X.mg "set" = none) (ha : EE X W a fa)
    (na : starEach [a] X.env = (false, eval a X.env) :: starEach [] X.env := by rfl) (nb : starEach [.Call (.Name "set" p2) [a] [] q] X.env = (false, eval (.Call (.Name "set" p2) [a] [] q) X.env) :: starEach [] X.env := by rfl) :
    EE X W (.Call (.Name "sorted" p) [.Call (.Name "set" p2) [a] [] q] [] pos) (f1 oSetSort fa) :=
  PE.imp (pe_setSort hg hm hg2 hm2 ha hc na nb) fun σ H Q h => one_ok (R := fun x H Q => ∃ (l : Addr) (ns : List Int), x = .ref l ∧ SqL X.K H l (ns.map V.int) ∧ ns.length < 63 ∧ ∀ p, H p = none → Q (.ref p) (upd H p (.lst ((setSort ns).map V.int)))) p_setSort h
section
variable {e : Ev} {Q : RV → Ev → Prop}
theorem us_setSort {rs : List RV} {ks : List Int} (h1 : derefs e rs = some [.list (ks.map .int)]) (h2 : ks.length < 63) (q : Q (.val (.list ((setSort ks).map .int)) 1) e) : Us oSetSort rs e Q :=
  us_of (d := .list ((setSort ks).map .int)) (m := 1) h1 (by
    show oSetSort [.list (ks.map .int)] = _
    unfold oSetSort
    simp only [intsOf_map]
    rw [if_pos h2]) (by rw [flat_ints, Bool.not_true, Bool.and_false]) q
end
end PV

/-! PVV7: two owned levels: a tuple of own lists; a method upon an own part of a slot. -/
namespace PV
open PySem PySem.Spec PyProof.Rows L2

/-! ### parts -/
section
variable {K : PySem.W.Frag} {S S' H H' : Hp}
theorem OwL.part {F : V → PyData → List Addr → Prop} : ∀ {vs : List V} {ds : List PyData} {f : List Addr} {j : Nat} {c : PyData}, OwL F vs ds f → ds[j]? = some c →
    ∃ v g1 g g2, vs[j]? = some v ∧ f = g1 ++ g ++ g2 ∧ F v c g ∧ ∀ F' : V → PyData → List Addr → Prop, (∀ v d h, (∀ x ∈ h, x ∈ g1 ++ g2) → F v d h → F' v d h) → ∀ c' g', F' v c' g' → OwL F' vs (ds.set j c') (g1 ++ g' ++ g2)
  | _, _, _, j, c, .nil, h => by simp at h
  | _, _, _, 0, c, .cons (f := f) (g := g) a b, h => by
    simp at h
    subst h
    refine ⟨_, [], f, g, rfl, rfl, a, fun F' k c' g' q => ?_⟩
    exact .cons q (b.imp fun v d h hh z => k v d h (fun x hx => by simpa using hh x hx) z)
  | _, _, _, j + 1, c, .cons (f := f) (g := g) a b, h => by
    obtain ⟨v, g1, g', g2, e1, e2, q, k⟩ := OwL.part b (by simpa using h)
    refine ⟨v, f ++ g1, g', g2, by simpa using e1, by rw [e2]; simp [List.append_assoc], q, fun F' kk c' g'' q' => ?_⟩
    have z := OwL.cons (kk _ _ f (fun x hx => by simp [hx]) a) (k F' (fun v d h hh z => kk v d h (fun x hx => by
      rcases List.mem_append.mp (hh x hx) with w | w <;> simp [w]) z) c' g'' q')
    simpa [List.append_assoc] using z
def dset : List (PyData × PyData) → Key → PyData → List (PyData × PyData)
  | [], _, _ => []
  | p :: l, k, c => if keq k p.1 = true then (p.1, c) :: l else p :: dset l k c
theorem dget_cons {p : PyData × PyData} {l : List (PyData × PyData)} {k : Key} : dget (p :: l) k = if keq k p.1 = true then some p.2 else dget l k := by
  unfold dget
  rw [List.find?_cons]
  cases keq k p.1 <;> rfl
theorem OwK.part {F : V → PyData → List Addr → Prop} : ∀ {vs : List (Key × V)} {ds : List (PyData × PyData)} {f : List Addr} {k : Key} {c : PyData}, OwK F vs ds f → dget ds k = some c →
    ∃ v g1 g g2, valV vs k = some v ∧ f = g1 ++ g ++ g2 ∧ F v c g ∧ ∀ F' : V → PyData → List Addr → Prop, (∀ v d h, (∀ x ∈ h, x ∈ g1 ++ g2) → F v d h → F' v d h) → ∀ c' g', F' v c' g' → OwK F' vs (dset ds k c') (g1 ++ g' ++ g2)
  | _, _, _, k, c, .nil, h => nomatch h
  | (k0, v0) :: vs, _, _, k, c, .cons (d := d0) (f := f) (g := g) a b, h => by
    rw [dget_cons, keq_kD] at h
    by_cases hk : k0 = k
    · subst hk
      simp only [decide_true, if_true] at h
      cases h
      refine ⟨v0, [], f, g, by simp [valV, List.find?_cons], rfl, a, fun F' kk c' g' q => ?_⟩
      rw [dset, keq_kD, decide_eq_true rfl, if_pos rfl]
      exact .cons q (b.imp fun v d h hh z => kk v d h (fun x hx => by simpa using hh x hx) z)
    · rw [decide_eq_false hk, if_neg Bool.false_ne_true] at h
      obtain ⟨v, g1, g', g2, e1, e2, q, kk⟩ := OwK.part b h
      refine ⟨v, f ++ g1, g', g2, ?_, by rw [e2]; simp [List.append_assoc], q, fun F' k3 c' g'' q' => ?_⟩
      · unfold valV at e1 ⊢
        rw [List.find?_cons]
        simp only [decide_eq_false hk]
        exact e1
      · rw [dset, keq_kD, decide_eq_false hk, if_neg Bool.false_ne_true]
        have z := OwK.cons (k := k0) (k3 _ _ f (fun x hx => by simp [hx]) a) (kk F' (fun v d h hh z => k3 v d h (fun x hx => by
          rcases List.mem_append.mp (hh x hx) with w | w <;> simp [w]) z) c' g'' q')
        simpa [List.append_assoc] using z

def subD (d k : PyData) : Option PyData := match d, k with
  | .tuple ds, .int j => atI ds j
  | .list ds, .int j => atI ds j
  | .dict l, k => match keyOf k with
    | some k => dget l k
    | none => none
  | _, _ => none
def setI (ds : List PyData) (j : Int) (c : PyData) : List PyData := match ixN ds.length j with
  | some n => ds.set n c
  | none => ds
def setD (d k c : PyData) : PyData := match d, k with
  | .tuple ds, .int j => .tuple (setI ds j c)
  | .list ds, .int j => .list (setI ds j c)
  | .dict l, k => match keyOf k with
    | some k => .dict (dset l k c)
    | none => .dict l
  | d, _ => d
/-- reading x[k] -/
def rSub (K : PySem.W.Frag) : R2 := fun x y H Q => rIxT K x y H Q ∨ rIxL K x y H Q ∨ rIxD K x y H Q
theorem owL_at {F : V → PyData → List Addr → Prop} {vs : List V} {ds : List PyData} {f : List Addr} {j : Int} {c : PyData} (h : OwL F vs ds f) (e : atI ds j = some c) :
    ∃ v g1 g g2, atI vs j = some v ∧ f = g1 ++ g ++ g2 ∧ F v c g ∧ ∀ F' : V → PyData → List Addr → Prop, (∀ v d h, (∀ x ∈ h, x ∈ g1 ++ g2) → F v d h → F' v d h) → ∀ c' g', F' v c' g' → OwL F' vs (setI ds j c') (g1 ++ g' ++ g2) := by
  unfold atI at e ⊢
  unfold setI
  rw [h.length]
  cases z : ixN ds.length j with
  | none => rw [z] at e; cases e
  | some n =>
    rw [z] at e
    exact h.part e
/-- a part of what is owned two levels deep -/
theorem Own.sub2 {v kv : V} {d kd c : PyData} {f : List Addr} (hS : Same S H) (h : Own K S H 2 v d f) (hk : Rp K S kv kd) (e : subD d kd = some c) (b : boxD c = true) :
    ∃ a u g1 g2, f = g1 ++ [a] ++ g2 ∧ H a = some u ∧ Held K S u c ∧ (∀ Q : VK, Q (.ref a) H → rSub K v kv H Q) ∧
      ∀ H' u' c', (∀ x ∈ g1 ++ g2, ∀ o, H x = some o → H' x = some o) → H' a = some u' → Held K S u' c' → Own K S H' 2 v (setD d kd c') f := by
  rcases h with ⟨p, vs, ds, fp, rfl, rfl, hp, rfl, ho⟩ | ⟨p, vs, ds, fp, rfl, rfl, hp, rfl, ho⟩ | ⟨p, vs, ds, rfl, rfl, hp, ho⟩ | ⟨h1, _, _⟩
  · cases kd with
    | int j =>
      obtain ⟨w, g1, g, g2, e1, rfl, o, k⟩ := owL_at ho e
      obtain ⟨a, u, rfl, rfl, ha, hu⟩ := o.held b
      cases hk
      refine ⟨a, u, p :: g1, g2, by simp, ha, hu, fun Q q => .inr (.inl ⟨p, vs, j, _, rfl, rfl, .inl (.inl hp), e1, q⟩), fun H' u' c' kp ha' hu' => ?_⟩
      refine .inl ⟨p, vs, _, _, rfl, rfl, kp p (by simp) _ hp, rfl, k _ (fun v d h hh z => Own.keep (Same.refl S) z fun x hx o ho => kp x (List.mem_cons_of_mem _ (hh x hx)) o ho) c' [a] (hu'.own ha')⟩
    | _ => cases e
  · have e' : (match keyOf kd with | some k => dget ds k | none => none) = some c := e
    cases hkk : keyOf kd with
    | none => rw [hkk] at e'; cases e'
    | some kk =>
      rw [hkk] at e'
      have ek := keyOf_kD hkk
      subst ek
      have ex := rp_key hk
      subst ex
      obtain ⟨w, g1, g, g2, e1, rfl, o, k⟩ := ho.part e'
      obtain ⟨a, u, rfl, rfl, ha, hu⟩ := o.held b
      refine ⟨a, u, p :: g1, g2, by simp, ha, hu, fun Q q => .inr (.inr ⟨p, _, rfl, .inl ⟨vs, kk, .inl hp, rfl, e1.symm⟩, q⟩), fun H' u' c' kp ha' hu' => ?_⟩
      have es : setD (.dict ds) (kD kk) c' = .dict (dset ds kk c') := by
        show (match keyOf (kD kk) with | some k => PyData.dict (dset ds k c') | none => .dict ds) = _
        rw [hkk]
      rw [es]
      exact .inr (.inl ⟨p, vs, _, _, rfl, rfl, kp p (by simp) _ hp, rfl, k _ (fun v d h hh z => Own.keep (Same.refl S) z fun x hx o ho => kp x (List.mem_cons_of_mem _ (hh x hx)) o ho) c' [a] (hu'.own ha')⟩)
  · cases kd with
    | int j =>
      obtain ⟨w, g1, g, g2, e1, rfl, o, k⟩ := owL_at ho e
      obtain ⟨a, u, rfl, rfl, ha, hu⟩ := o.held b
      cases hk
      refine ⟨a, u, g1, g2, rfl, ha, hu, fun Q q => .inl ⟨p, vs, j, _, rfl, rfl, ?_, e1, q⟩, fun H' u' c' kp ha' hu' => ?_⟩
      · exact Same.seqT hS hp
      · exact .inr (.inr (.inl ⟨p, vs, _, rfl, rfl, hp, k _ (fun v d h hh z => Own.keep (Same.refl S) z fun x hx o ho => kp x (hh x hx) o ho) c' [a] (hu'.own ha')⟩))
    | _ => cases e
  · cases d <;> first | (cases h1; done) | (cases e; done)
end

section
variable {G : Gx} {W : WX} {S S' H H' S0 H0 : Hp} {σ : L2.St} {e : Ev} {A A' A0 : List Addr}
theorem Cu.sub2 {i : Nat} {d kd c : PyData} {kv : V} (R : Cu G S H σ e A []) (h : e[i]? = some (some (.dt d 2))) (hk : Rp G.K S kv kd) (es : subD d kd = some c) (b : boxD c = true) :
    ∃ v a u, σ[i]? = some (some v) ∧ H a = some u ∧ Held G.K S u c ∧ (∀ Q : VK, Q (.ref a) H → rSub G.K v kv H Q) ∧
    ∀ u' c', Held G.K S u' c' → Cu G S (upd H a u') σ (e.set i (some (.dt (setD d kd c') 2))) A [] ∧ Step S A H S A (upd H a u') := by
  obtain ⟨v, f, B, C, e1, e2, o, k, _⟩ := R.slots.at i h
  obtain ⟨a, u, g1, g2, rfl, ha, hu, rd, wr⟩ := o.sub2 R.sub hk es b
  refine ⟨v, a, u, e1, ha, hu, rd, fun u' c' hd => ?_⟩
  have nA : A.Nodup := nodup_nil.mp R.nod
  have aA : a ∈ A := by rw [e2]; simp
  have aS : S a = none := R.off a (List.mem_append_left _ aA)
  have nO : (B ++ (g1 ++ ([a] ++ (g2 ++ C)))).Nodup := by rw [e2] at nA; simpa [List.append_assoc] using nA
  obtain ⟨m1, m2, m3⟩ := nodup_app.mp nO
  obtain ⟨m4, m5, m6⟩ := nodup_app.mp m2
  obtain ⟨m7, m8, m9⟩ := nodup_app.mp m5
  have nB : ∀ b ∈ B, b ≠ a := fun b hb z => m3 b hb (by simp [z])
  have n1 : ∀ b ∈ g1, b ≠ a := fun b hb z => m6 b hb (by simp [z])
  have n2 : ∀ b ∈ g2 ++ C, b ≠ a := fun b hb z => m9 a (by simp) (z ▸ hb)
  have sm : Same S (upd H a u') := fun b o z => by
    have : b ≠ a := fun w => by rw [w, aS] at z; cases z
    rw [upd_ne this]; exact R.sub b o z
  have ow := wr (upd H a u') u' c' (fun x hx o z => by
    have : x ≠ a := by
      rcases List.mem_append.mp hx with w | w
      · exact n1 x w
      · exact n2 x (List.mem_append_left _ w)
    rw [upd_ne this]; exact z) upd_same hd
  have sl := k (Same.refl S) (H' := upd H a u') (fun b hb o z => by
    have : b ≠ a := by
      rcases List.mem_append.mp hb with w | w
      · exact nB b w
      · exact n2 b (List.mem_append_right _ w)
    rw [upd_ne this]; exact z) ow
  rw [← e2] at sl
  refine ⟨⟨sm, R.nod, R.off, sl, fun t ht => nomatch ht⟩, ⟨fun b o z n => ?_, fun b z => ?_, Same.refl S, fun b o z => .inl z, fun b z => .inl z⟩⟩
  · have : b ≠ a := fun w => n (w ▸ aA)
    rw [upd_ne this]; exact z
  · by_cases hb : b = a
    · rw [hb, upd_same]; exact fun w => nomatch w
    · rw [upd_ne hb]; exact z
end
/-! ### simple expressions: a slot's atom, a constant -/
abbrev Sm := Nat ⊕ PyData
def atomV : PyData → V
  | .none => .non
  | .bool b => .bl b
  | .int i => .int i
  | .str x => .str x
  | _ => .non
def tSm : Sm → TE
  | .inl j => tVar j
  | .inr d => tC (atomV d)
def tSms : List Sm → TA
  | [] => tNil
  | s :: l => tCons (tSm s) (tSms l)
def simD (e : Ev) : Sm → Option PyData
  | .inl j => match e[j]? with
    | some (some (.dt d _)) => if atom d = true then some d else none
    | _ => none
  | .inr d => if atom d = true then some d else none
def simL (e : Ev) : List Sm → Option (List PyData)
  | [] => some []
  | s :: l => match simD e s with
    | some d => match simL e l with
      | some ds => some (d :: ds)
      | none => none
    | none => none
section
variable {G : Gx} {W : WX} {S S' H H' S0 H0 : Hp} {σ : L2.St} {e : Ev} {A A' A0 : List Addr} {ts : List Tmp}
theorem Own.atom {K : PySem.W.Frag} : ∀ {n : Nat} {v : V} {d : PyData} {f : List Addr}, Own K S H n v d f → atom d = true → f = [] ∧ Rp K S v d
  | 0, _, _, _, h, _ => h
  | n + 1, _, _, _, .inl ⟨_, _, _, _, _, e2, _⟩, b => by subst e2; cases b
  | n + 1, _, _, _, .inr (.inl ⟨_, _, _, _, _, e2, _⟩), b => by subst e2; cases b
  | n + 1, _, _, _, .inr (.inr (.inl ⟨_, _, _, _, e2, _⟩)), b => by subst e2; cases b
  | n + 1, _, _, _, .inr (.inr (.inr ⟨_, h2, h3⟩)), _ => ⟨h2, h3⟩
theorem atom_rp {K : PySem.W.Frag} {d : PyData} (h : atom d = true) : Rp K S (atomV d) d := by
  cases d with
  | none => exact .non
  | bool b => exact .bl b
  | int i => exact .int i
  | str x => exact .str x
  | _ => cases h
theorem Cu.sim {s : Sm} {d : PyData} (R : Cu G S H σ e A ts) (h : simD e s = some d) : ∃ v, Rp G.K S v d ∧ ∀ Q : VK, Q v H → tSm s σ H Q := by
  cases s with
  | inl j =>
    unfold simD at h
    match hj : e[j]?, h with
    | some (some (.dt d' n)), h =>
      simp only [hj] at h
      by_cases ha : PV.atom d' = true
      · rw [if_pos ha] at h
        cases h
        obtain ⟨v, f, B, C, e1, _, o, _⟩ := R.slots.at j hj
        exact ⟨v, (o.atom ha).2, fun Q q => ⟨v, e1, q⟩⟩
      · rw [if_neg ha] at h; cases h
    | some (some (.ex c)), h => simp only [hj] at h; cases h
    | some (some (.fz c)), h => simp only [hj] at h; cases h
    | some none, h => simp only [hj] at h; cases h
    | none, h => simp only [hj] at h; cases h
  | inr d' =>
    unfold simD at h
    simp only at h
    split at h
    · rename_i ha
      cases h
      exact ⟨_, atom_rp ha, fun Q q => q⟩
    · cases h
theorem Cu.sims : ∀ {l : List Sm} {ds : List PyData}, Cu G S H σ e A ts → simL e l = some ds → ∃ vs, RpL G.K S vs ds ∧ ∀ Q : List V → Hp → Prop, Q vs H → tSms l σ H Q
  | [], ds, R, h => by
    cases h
    exact ⟨[], .nil, fun Q q => q⟩
  | s :: l, ds, R, h => by
    rw [simL] at h
    cases z : simD e s with
    | none => rw [z] at h; cases h
    | some d =>
      rw [z] at h
      simp only at h
      cases z2 : simL e l with
      | none => rw [z2] at h; cases h
      | some ds' =>
        rw [z2] at h
        cases h
        obtain ⟨v, r, k⟩ := R.sim z
        obtain ⟨vs, rs, ks⟩ := R.sims z2
        exact ⟨v :: vs, .cons r rs, fun Q q => k _ (ks _ q)⟩
def fMetAt (T : String) (m : MOp) (i : Nat) (k : Sm) (as : List Sm) (e : Ev) : Res RV := match e[i]? with
  | some (some (.dt d 2)) => match simD e k, simL e as with
    | some kd, some ws => match subD d kd with
      | some c => if typD T c = true then match m c ws with
        | some (c', r) => .ok (.val r 0) (e.set i (some (.dt (setD d kd c') 2)))
        | none => .no else .no
      | none => .no
    | _, _ => .no
  | _ => .no
theorem fmetat_go {T : String} {r : V → List V → Hp → VK → Prop} {m : MOp} {i : Nat} {k : Sm} {as : List Sm} {Q : VK} (hp : MPrim G.K T r m) (q : tR G W (fMetAt T m i k as) σ H Q) :
    tOp (rSub G.K) (tVar i) (tSm k) σ H fun x H1 => tyV G.K T x H1 ∧ tSms as σ H1 fun xs H2 => r x xs H2 Q := by
  obtain ⟨S, e, A, C, q⟩ := q
  unfold fMetAt at q
  match hi : e[i]?, q with
  | some (some (.dt d 2)), q =>
    simp only [hi] at q
    match h1 : simD e k, h2 : simL e as, q with
    | some kd, some ws, q =>
      simp only [h1, h2] at q
      cases h3 : subD d kd with
      | none => rw [h3] at q; exact q.elim
      | some c =>
        rw [h3] at q
        simp only at q
        by_cases ht : typD T c = true
        · rw [if_pos ht] at q
          cases h4 : m c ws with
          | none => rw [h4] at q; exact q.elim
          | some p =>
            obtain ⟨c', res⟩ := p
            rw [h4] at q
            simp only at q
            obtain ⟨kv, rk, kk⟩ := C.sim h1
            obtain ⟨vs, rs, ks⟩ := C.sims h2
            obtain ⟨v, a, u, ev, ha, hu, rd, wr⟩ := C.sub2 hi rk h3 (typD_box ht)
            refine ⟨v, ev, kk _ (rd _ ⟨typD_ty ht ha hu, ks _ ?_⟩)⟩
            refine hp a u c vs ws S H Q c' res ha hu ht rs C.sub h4 fun u' w hu' rw' => ?_
            obtain ⟨R3, st3⟩ := wr u' c' hu'
            refine q w _ S A [] (R3.one ⟨rfl, rw'⟩ rfl) ?_
            rw [List.append_nil]
            exact st3
        · rw [if_neg ht] at q; exact q.elim
    | some kd, none, q => simp only [h1, h2] at q; exact q.elim
    | none, some _, q => simp only [h1, h2] at q; exact q.elim
    | none, none, q => simp only [h1, h2] at q; exact q.elim
  | some (some (.dt w 0)), q => simp only [hi] at q; exact q.elim
  | some (some (.dt w 1)), q => simp only [hi] at q; exact q.elim
  | some (some (.dt w (n + 3))), q => simp only [hi] at q; exact q.elim
  | some (some (.ex c)), q => simp only [hi] at q; exact q.elim
  | some (some (.fz c)), q => simp only [hi] at q; exact q.elim
  | some none, q => simp only [hi] at q; exact q.elim
  | none, q => simp only [hi] at q; exact q.elim
end
section
variable {X : Cx} {W : WX} {apos cpos p3 : Pos} {es : List Expr} {e o kx : Expr} {name : Str} {T id : String} {r : V → List V → Hp → VK → Prop} {m : MOp} {i : Nat} {k : Sm} {as : List Sm}
theorem ix_sub (hu : X.A.units + 1 < cLine) : IxR X (rSub X.K) := ix_tup.or (ix_list.or (ix_dict hu))
theorem ee_metAt (hu : X.A.units + 1 < cLine) (pa : PlainAttrs T) (slot : Slot T name id) (hty : typeOf (.builtin id) = pure (.type "method_descriptor")) (hm : MtR X id r) (hp : MPrim X.K T r m) (ho : PE X o (tVar i)) (hk : PE X kx (tSm k)) (ha : PA X (e :: es) (tSms as))
    (hs0 : PlainIx kx := by intro _ _; rfl) (hbase : attributeBase (.Subscript o kx p3) name X.env (eval (.Subscript o kx p3) X.env) = eval (.Subscript o kx p3) X.env := by rfl)
    (hfew : ((backTo cpos (starEach (e :: es) X.env)).all (fun x => !x.1) && (backToKw cpos (keywordEach [] X.env)).all (fun x => x.1.isSome) && decide ((e :: es).length + ([] : List Keyword).length + (if ([] : List Keyword).isEmpty then 0 else 1) < 30)) = true := by rfl)
    (hline : (apos.endLine == cpos.line) = true := by rfl) (hs : starEach (e :: es) X.env = (false, eval e X.env) :: starEach es X.env := by rfl) (hplain : (backTo cpos (starEach es X.env)).any (·.1) = false := by rfl) :
    EE X W (.Call (.Attribute (.Subscript o kx p3) name apos) (e :: es) [] cpos) (fMetAt T m i k as) :=
  PE.imp (pe_bm pa slot hty hm (pe_ix (ix_sub hu) ho hk hs0) ha hbase hfew hline hs hplain) fun _ _ _ q => fmetat_go hp q
theorem ee_metAt0 (hu : X.A.units + 1 < cLine) (pa : PlainAttrs T) (slot : Slot T name id) (hty : typeOf (.builtin id) = pure (.type "method_descriptor")) (hm : MtR X id r) (hp : MPrim X.K T r m) (ho : PE X o (tVar i)) (hk : PE X kx (tSm k))
    (hs0 : PlainIx kx := by intro _ _; rfl) (hbase : attributeBase (.Subscript o kx p3) name X.env (eval (.Subscript o kx p3) X.env) = eval (.Subscript o kx p3) X.env := by rfl) (hline : (apos.endLine == cpos.line) = true := by rfl) :
    EE X W (.Call (.Attribute (.Subscript o kx p3) name apos) [] [] cpos) (fMetAt T m i k []) :=
  PE.imp (pe_bm0 pa slot hty hm (pe_ix (ix_sub hu) ho hk hs0) hbase hline) fun _ _ _ q => fmetat_go hp q
theorem sm_int {j : Int} {q pos} : PE X (.Constant (.int j) q pos) (tSm (.inr (.int j))) := pe_int
theorem sm_str {x : Str} {q pos} : PE X (.Constant (.str x) q pos) (tSm (.inr (.str x))) := pe_str
theorem sm_bl {b : Bool} {q pos} : PE X (.Constant (.bool b) q pos) (tSm (.inr (.bool b))) := pe_bl
theorem sm_var {x : Str} {pos} {j : Nat} (h : PE X (.Name x pos) (tVar j)) : PE X (.Name x pos) (tSm (.inl j)) := h
theorem sms_nil : PA X [] (tSms []) := pa_nil
theorem sms_cons {s : Sm} {l : List Sm} (h : PE X e (tSm s)) (hr : PA X es (tSms l)) (hs : starEach (e :: es) X.env = (false, eval e X.env) :: starEach es X.env := by rfl) : PA X (e :: es) (tSms (s :: l)) := pa_cons h hr hs
end
/-! ### a tuple of own pieces -/
def lv1 : List RV → Option (List PyData)
  | [] => some []
  | .val d n :: rs => if (n == 1 || atom d) = true then match lv1 rs with
    | some ds => some (d :: ds)
    | none => none else none
  | _ :: _ => none
def fTup2 (fs : List (Ev → Res RV)) (e : Ev) : Res RV := (fArgs fs e).bind fun rs e1 => match lv1 rs with
  | some ds => if ds.length ≤ 1000 then .ok (.val (.tuple ds) 2) e1 else .no
  | none => .no
section
variable {G : Gx} {W : WX} {S S' H H' S0 H0 : Hp} {σ : L2.St} {e : Ev} {A A' A0 : List Addr}
theorem lv1_ok : ∀ {ts : List Tmp} {ds : List PyData}, (∀ t ∈ ts, RvOk G S H σ t.r t.v t.f) → lv1 (ts.map (·.r)) = some ds → OwL (Own G.K S H 1) (ts.map (·.v)) ds (fps ts)
  | [], ds, _, h => by
    cases h
    exact .nil
  | ⟨.val d n, v, f⟩ :: ts, ds, k, h => by
    rw [List.map_cons, lv1] at h
    by_cases hn : (n == 1 || PV.atom d) = true
    · rw [if_pos hn] at h
      cases z : lv1 (ts.map (·.r)) with
      | none => rw [z] at h; cases h
      | some ds' =>
        rw [z] at h
        cases h
        have o : Own G.K S H n v d f := k _ List.mem_cons_self
        have o1 : Own G.K S H 1 v d f := by
          by_cases ha : PV.atom d = true
          · obtain ⟨e1, e2⟩ := o.atom ha
            exact .inr (.inr (.inr ⟨ha, e1, e2⟩))
          · have : n = 1 := by simpa [ha] using hn
            exact this ▸ o
        exact .cons o1 (lv1_ok (fun t ht => k t (List.mem_cons_of_mem _ ht)) z)
    · rw [if_neg hn] at h; cases h
  | ⟨.bor _, _, _⟩ :: ts, ds, k, h => nomatch h
  | ⟨.ex _, _, _⟩ :: ts, ds, k, h => nomatch h
theorem Cu.newTup2 {us : List Tmp} {ds : List PyData} {p : Addr} (R : Cu G S H σ e A us) (rp : lv1 (us.map (·.r)) = some ds) (hp : H p = none) :
    Cu G (upd S p (.tup (us.map (·.v)))) (upd H p (.tup (us.map (·.v)))) σ e A [⟨.val (.tuple ds) 2, .ref p, fps us⟩] ∧ Step S (A ++ fps us) H (upd S p (.tup (us.map (·.v)))) (A ++ fps us) (upd H p (.tup (us.map (·.v)))) := by
  have hpS : S p = none := by
    cases z : S p with
    | none => rfl
    | some o => rw [R.sub p o z] at hp; cases hp
  have hpA : p ∉ A ++ fps us := fun z => R.trk z hp
  generalize hvs : us.map (·.v) = vs
  have sm : Same H (upd H p (.tup vs)) := fun b o z => by rw [upd_ne (ne_of_none z hp)]; exact z
  have ss : Same S (upd S p (.tup vs)) := fun b o z => by rw [upd_ne (ne_of_none z hpS)]; exact z
  refine ⟨⟨fun b o z => ?_, ?_, fun a ha => ?_, R.slots.keep ss fun b _ o z => sm b o z, fun t ht => ?_⟩, ⟨fun b o z _ => sm b o z, fun b z w => ?_, ss, fun b o z => ?_, fun a ha => .inl ha⟩⟩
  · by_cases hb : b = p
    · subst hb; rw [upd_same] at z ⊢; exact z
    · rw [upd_ne hb] at z ⊢; exact R.sub b o z
  · rw [fps_one]; exact R.nod
  · rw [fps_one] at ha
    have hne : a ≠ p := fun z => hpA (by rw [← z]; exact ha)
    rw [upd_ne hne]
    exact R.off a ha
  · rw [List.mem_singleton] at ht
    subst ht
    refine .inr (.inr (.inl ⟨p, vs, ds, rfl, rfl, .inl (.inl upd_same), ?_⟩))
    have := lv1_ok R.tmps rp
    rw [hvs] at this
    exact this.imp fun v d g hg z => Own.keep ss z fun b _ o q => sm b o q
  · cases y : H b with
    | none => exact z y
    | some u => rw [sm b u y] at w; cases w
  · by_cases hb : b = p
    · subst hb; exact .inr (.inl hp)
    · rw [upd_ne hb] at z; exact .inl z
end
section
variable {X : Cx} {W : WX} {pos : Pos} {es : List Expr} {fs : List (Ev → Res RV)}
theorem ee_tup2 {x1} (h : EA X W es fs) : EE X W (.Tuple es x1 pos) (fTup2 fs) :=
  PE.imp (pe_tup h) fun σ H Q q => by
    obtain ⟨S, e, A, C, q⟩ := q
    refine tArgs_next (G := gx X) C (S0 := S) (A0 := A) (H0 := H) Step.refl0 ?_
    have q' : PostE (gx X) W S H σ A Q ((fArgs fs e).bind _) := q
    cases r : fArgs fs e with
    | no => rw [r] at q'; exact q'
    | exc c e1 => rw [r] at q'; exact q'
    | ok rs e1 =>
      rw [r] at q'
      intro us H1 S1 A1 eu R1 st1
      subst eu
      have R1' : Cu (gx X) S1 H1 σ e1 A1 us := R1
      have q2 : PostE (gx X) W S H σ A Q (match lv1 (us.map (·.r)) with | some ds => if ds.length ≤ 1000 then .ok (.val (.tuple ds) 2) e1 else .no | none => .no) := q'
      cases r2 : lv1 (us.map (·.r)) with
      | none => rw [r2] at q2; exact q2.elim
      | some ds =>
        rw [r2] at q2
        simp only at q2
        by_cases hz : ds.length ≤ 1000
        · rw [if_pos hz] at q2
          have len := (lv1_ok R1'.tmps r2).length
          refine ⟨?_, fun p hp => ?_⟩
          · show (us.map (·.v)).length ≤ sizeLine
            rw [len]; exact small_line hz
          · obtain ⟨R3, st3⟩ := R1'.newTup2 r2 hp
            exact q2 _ _ _ _ _ R3 (st1.trans st3)
        · rw [if_neg hz] at q2; exact q2.elim
end
/-! rules -/
section
variable {fs : List (Ev → Res RV)} {e : Ev} {Q : RV → Ev → Prop}
theorem ok_tup2 (h : OkA fs e fun rs e1 => ∃ ds, lv1 rs = some ds ∧ Nat.ble ds.length 30 = true ∧ Q (.val (.tuple ds) 2) e1) : Ok (fTup2 fs) e Q := by
  obtain ⟨rs, e1, h1, ds, h2, h3, q⟩ := h
  have h3 := Nat.le_of_ble_eq_true h3
  exact ⟨_, _, by unfold fTup2; rw [h1]; show (match lv1 rs with | some ds => _ | none => _) = _; rw [h2]; show (if ds.length ≤ 1000 then _ else _) = _; rw [if_pos (by omega)], q⟩
theorem ok_metAt {T : String} {m : MOp} {i : Nat} {k : Sm} {as : List Sm} {d kd c c' r : PyData} {ws : List PyData} (h0 : e[i]? = some (some (.dt d 2))) (h1 : simD e k = some kd) (h2 : simL e as = some ws) (h3 : subD d kd = some c) (h4 : typD T c = true) (h5 : m c ws = some (c', r))
    (q : Q (.val r 0) (e.set i (some (.dt (setD d kd c') 2)))) : Ok (fMetAt T m i k as) e Q := by
  refine ⟨_, _, ?_, q⟩
  unfold fMetAt
  simp only [h0, h1, h2, h3]
  rw [if_pos h4, h5]
end
end PV

/-! PVV8: x is not True. -/
namespace PV
open PySem PySem.Spec PyProof.Rows L2
def oNotB : Op := lift2 fun a b => match a, b with | .bool x, .bool y => some (.bool (!decide (x = y))) | _, _ => none
theorem p_notB {K : PySem.W.Frag} : Prim K (fun vs H Q => ∀ x y, vs = [x, y] → rNotB x y H Q) oNotB := prim2 fun x y a b r S H Q hx hy sb e q => by
  cases a with
  | bool u =>
    cases b with
    | bool v =>
      cases e
      cases hx
      cases hy
      exact ⟨u, v, rfl, rfl, q _ (.bl _)⟩
    | _ => cases e
  | _ => cases e
section
variable {X : Cx} {W : WX} {a b : Expr} {fa fb : Ev → Res RV} {pos : Pos}
theorem vNotB (ha : EE X W a fa) (hb : EE X W b fb) : EE X W (.Compare a [.IsNot] [b] pos) (f2 oNotB fa fb) := ee_cmp op_notBl p_notB ha hb (nomark _)
theorem yNotB (ha : EE X W a fa) (hb : EE X W b fb) : ET X W (.Compare a [.IsNot] [b] pos) (f2 oNotB fa fb) := et_cmp op_notBl p_notB ha hb (nomark _)
end
end PV

/-! PVV9: a slot's own list + another. -/
namespace PV
open PySem PySem.Spec PyProof.Rows L2
def fAddV (i : Nat) (fb : Ev → Res RV) (e : Ev) : Res RV := match e[i]? with
  | some (some (.dt _ _)) => (fb e).bind fun r e1 => match settle [r] e1 with
    | some ([.list es], e2) => match e2[i]? with
      | some (some (.dt (.list ds) n)) => if n ≤ 1 ∧ ds.length + es.length ≤ most then .ok (.val (.list (ds ++ es)) 1) e2 else .no
      | _ => .no
    | _ => .no
  | _ => .no
section
variable {G : Gx} {S H : Hp} {σ : L2.St} {e : Ev} {A : List Addr} {ts : List Tmp}
theorem slotH {i n : Nat} {ds : List PyData} (R : Cu G S H σ e A ts) (h : e[i]? = some (some (.dt (.list ds) n))) (hn : n ≤ 1) : ∃ a vs, σ[i]? = some (some (.ref a)) ∧ H a = some (.lst vs) ∧ RpL G.K S vs ds := by
  obtain ⟨v, f, B, C, e1, e2, o, _⟩ := R.slots.at i h
  match n, hn, o with
  | 0, _, o =>
    obtain ⟨_, rp⟩ := o
    cases rp with
    | lst h1 h2 => exact ⟨_, _, e1, R.sub _ _ h1, h2⟩
  | 1, _, o =>
    obtain ⟨a, u, rfl, _, hu, hd⟩ := o.held rfl
    obtain ⟨vs, rfl, r⟩ := hd.lst
    exact ⟨a, vs, e1, hu, r⟩
end
section
variable {X : Cx} {W : WX} {a b : Expr} {i : Nat} {fb : Ev → Res RV} {pos : Pos}
theorem ee_addV (ha : PE X a (tVar i)) (hb : EE X W b fb) : EE X W (.BinOp a .Add b pos) (fAddV i fb) :=
  PE.imp (pe_op op_cat ha hb) fun σ H Q q => by
    obtain ⟨S, e, A, C, q⟩ := q
    unfold fAddV at q
    match hi : e[i]?, q with
    | some (some (.dt d0 n0)), q =>
      simp only [hi] at q
      obtain ⟨v0, hv0⟩ := isSlot C hi
      refine ⟨v0, hv0, tR_next (G := gx X) C (S0 := S) (A0 := A) (H0 := H) Step.refl0 ?_⟩
      cases r1 : fb e with
      | no => rw [r1] at q; exact q
      | exc c e1 => rw [r1] at q; exact q
      | ok r e1 =>
        rw [r1] at q
        intro y H1 S1 A1 f R1 st1
        have R1' : Cu (gx X) S1 H1 σ e1 A1 [⟨r, y, f⟩] := R1
        have q : PostE (gx X) W S H σ A Q (match settle [r] e1 with | some ([.list es], e2) => (match e2[i]? with | some (some (.dt (.list ds) n)) => if n ≤ 1 ∧ ds.length + es.length ≤ most then .ok (.val (.list (ds ++ es)) 1) e2 else .no | _ => .no) | _ => .no) := q
        match r2 : settle [r] e1, q with
        | some ([.list es], e2), q =>
          simp only at q
          obtain ⟨S2, A2, R2, rp2, st2⟩ := settle_ok R1' r2
          have ry := rp_one rp2 rfl
          match hi2 : e2[i]?, q with
          | some (some (.dt (.list ds) n)), q =>
            simp only at q
            by_cases hn : n ≤ 1 ∧ ds.length + es.length ≤ most
            · rw [if_pos hn] at q
              obtain ⟨p, vs, e1, h1, h2⟩ := slotH R2 hi2 hn.1
              rw [hv0] at e1
              cases e1
              cases ry with
              | lst h3 h4 =>
                rename_i pb ws
                have hl : vs.length + ws.length ≤ sizeLine := by rw [h2.length, h4.length]; exact Nat.le_trans hn.2 most_le
                refine ⟨p, pb, vs, ws, rfl, rfl, h1, R2.sub _ _ h3, hl, fun p hp => ?_⟩
                obtain ⟨R4, st4⟩ := R2.newLst (h2.append h4) hp
                exact q _ _ _ _ _ R4 ((st1.trans st2).trans st4)
            · rw [if_neg hn] at q; exact q.elim
          | some (some (.dt .none n)), q => exact q.elim
          | some (some (.dt (.bool _) n)), q => exact q.elim
          | some (some (.dt (.int _) n)), q => exact q.elim
          | some (some (.dt (.str _) n)), q => exact q.elim
          | some (some (.dt (.tuple _) n)), q => exact q.elim
          | some (some (.dt (.dict _) n)), q => exact q.elim
          | some (some (.ex c)), q => exact q.elim
          | some (some (.fz c)), q => exact q.elim
          | some none, q => exact q.elim
          | none, q => exact q.elim
        | some ([.none], e2), q => exact q.elim
        | some ([.bool _], e2), q => exact q.elim
        | some ([.int _], e2), q => exact q.elim
        | some ([.str _], e2), q => exact q.elim
        | some ([.tuple _], e2), q => exact q.elim
        | some ([.dict _], e2), q => exact q.elim
        | some ([], e2), q => exact q.elim
        | some (x :: y :: l, e2), q => cases x <;> exact q.elim
        | none, q => exact q.elim
    | some (some (.ex c)), q => simp only [hi] at q; exact q.elim
    | some (some (.fz c)), q => simp only [hi] at q; exact q.elim
    | some none, q => simp only [hi] at q; exact q.elim
    | none, q => simp only [hi] at q; exact q.elim
end
section
variable {e : Ev} {Q : RV → Ev → Prop}
theorem ok_addV {i n0 : Nat} {fb : Ev → Res RV} {d0 : PyData} (h0 : e[i]? = some (some (.dt d0 n0))) (h : Ok fb e fun r e1 => ∃ es e2 ds n, settle [r] e1 = some ([.list es], e2) ∧ e2[i]? = some (some (.dt (.list ds) n)) ∧ n ≤ 1 ∧ ds.length + es.length ≤ 1000000 ∧ Q (.val (.list (ds ++ es)) 1) e2) : Ok (fAddV i fb) e Q := by
  obtain ⟨r, e1, h1, es, e2, ds, n, h2, h3, h4, h5, q⟩ := h
  have hm : most = 16000000 := rfl
  exact ⟨_, _, by unfold fAddV; simp only [h0, h1, Res.bind, h2, h3]; rw [if_pos ⟨h4, by omega⟩], q⟩
end
end PV

/-! PVV10: sorted(lists of whole numbers). -/
namespace PV
open PySem PySem.Spec PyProof.Rows L2
def encL (xs : List Int) : PyData := .list (xs.map .int)
def encB (b : V × List Int) : PyData := encL b.2
def sortLL (xss : List (List Int)) : List (List Int) := xss.mergeSort (PySem.W.dataLe false encL)
theorem sortLL_perm (xss : List (List Int)) : (sortLL xss).Perm xss := List.mergeSort_perm _ _
theorem sort_snd (bs : List (V × List Int)) : (bs.mergeSort (PySem.W.dataLe false encB)).map (·.2) = sortLL (bs.map (·.2)) := List.map_mergeSort fun a _ b _ => rfl
def rSortedLL (K : PySem.W.Frag) : List V → Hp → VK → Prop := fun vs H Q => ∃ (a : Addr) (bs : List (V × List Int)), vs = [V.ref a] ∧ SqL K H a (bs.map (·.1)) ∧ (∀ b ∈ bs, Rp K H b.1 (encB b)) ∧
  ∀ p : Addr, H p = none → Q (.ref p) (upd H p (.lst ((bs.mergeSort (PySem.W.dataLe false encB)).map (·.1))))
theorem each_vals {P : V × List Int → Prop} : ∀ {bs : List (V × List Int)} {its : List Value}, Vals (bs.map (·.1)) its → (∀ b ∈ bs, P b) → PySem.W.EachIs (fun v b => RelV b.1 v ∧ P b) its bs
  | [], _, .nil, _ => .nil
  | b :: bs, _, .cons r t, h => .cons ⟨r, h b List.mem_cons_self⟩ (each_vals t fun x hx => h x (List.mem_cons_of_mem _ hx))
theorem vals_each : ∀ {bs : List (V × List Int)} {its : List Value}, PySem.W.EachIs (fun v b => RelV b.1 v) its bs → Vals (bs.map (·.1)) its
  | _, _, .nil => .nil
  | _, _, .cons r t => .cons r (vals_each t)
theorem cr_sortedLL {X : Cx} (hu : X.A.units + 65 < cLine) : CallR X (.builtin "sorted") (rSortedLL X.K) := by
  intro pins s σ H vs us Q I r h
  obtain ⟨a, bs, rfl, hs, hb, q⟩ := h
  obtain ⟨its, rv, hl, hz⟩ := I.list hs
  rw [Vals.ref1 r]
  have ev := each_vals rv hb
  have e : PySem.W.EachIs (fun v b => RelV b.1 v) its bs := ev.mono fun _ _ z => z.1
  have er : PySem.W.EachIs (fun v b => ∃ as, Reads s.heap v (encB b) as) its bs := ev.mono fun v b z => reads_of I _ _ v (by simpa [encB, encL, PyData.hasDict] using hasDictAll_ints b.2) z.2 z.1
  rw [List.length_map] at hz
  refine PySem.W.sorted_data hl.isList e er (PySem.W.AllAlike.of fun b b' => by simpa [encB, encL, PySem.W.alike] using alikeAll_ints b.2 b'.2) (PySem.W.Sortable.others fun b => ⟨fun z => (nomatch z), fun xs z => (nomatch z)⟩) hz (fun b _ => ?_) fun out ho eo => ?_
  · have d1 : (encB b).depth ≤ 1 := by simp [encB, encL, PyData.depth, depthAll_ints]
    omega
  · have rv2 := vals_each eo
    obtain ⟨ep, he'⟩ := PyProof.Rows.sortedAll_at s.heap its out.toArray
    have hlen : ((bs.mergeSort (PySem.W.dataLe false encB)).map (·.1)).length ≤ sizeLine := by rw [List.length_map, (List.mergeSort_perm _ _).length_eq]; exact hz
    have J := I.laid (t' := s.toks) (fun _ _ => PyProof.Rows.sortedAll_old) (Nat.le_succ _) (show ObjOk X.prog X.w _ _ _ (.lst _) from ⟨hlen, out, ep, rv2, he'⟩)
    exact ⟨.ref _, _, J, rfl, q _ (I.hok.fresh (Nat.le_succ _))⟩
def listsOf : List PyData → Option (List (List Int))
  | [] => some []
  | .list ds :: r => match intsOf ds with
    | some ns => (listsOf r).map (ns :: ·)
    | none => none
  | _ :: _ => none
theorem listsOf_ok : ∀ {ds : List PyData} {xss : List (List Int)}, listsOf ds = some xss → ds = xss.map encL
  | [], _, h => by cases h; rfl
  | .list d :: r, xss, h => by
    rw [listsOf] at h
    cases z : intsOf d with
    | none => rw [z] at h; cases h
    | some ns =>
      rw [z] at h
      cases z2 : listsOf r with
      | none => simp only [z2] at h; cases h
      | some yss =>
        simp only [z2] at h
        cases h
        rw [listsOf_ok z2, intsOf_ok z]; rfl
  | .none :: _, _, h => nomatch h
  | .bool _ :: _, _, h => nomatch h
  | .int _ :: _, _, h => nomatch h
  | .str _ :: _, _, h => nomatch h
  | .tuple _ :: _, _, h => nomatch h
  | .dict _ :: _, _, h => nomatch h
theorem listsOf_map : ∀ xss : List (List Int), listsOf (xss.map encL) = some xss
  | [] => rfl
  | xs :: xss => by
    rw [List.map_cons]
    show (match intsOf (xs.map .int) with | some ns => (listsOf (xss.map encL)).map (ns :: ·) | none => none) = _
    rw [intsOf_map, listsOf_map xss]; rfl
def oSortLL : Op := fun ds => match ds with
  | [.list l] => match listsOf l with
    | some xss => some (.list ((sortLL xss).map encL), 1)
    | none => none
  | _ => none
theorem zip_rp {K : PySem.W.Frag} {S : Hp} : ∀ {vs : List V} {xss : List (List Int)}, RpL K S vs (xss.map encL) → ∃ bs : List (V × List Int), vs = bs.map (·.1) ∧ xss = bs.map (·.2) ∧ ∀ b ∈ bs, Rp K S b.1 (encB b)
  | _, [], h => by cases h; exact ⟨[], rfl, rfl, fun _ z => nomatch z⟩
  | _, xs :: xss, h => by
    cases h with
    | cons a t =>
      rename_i v vs
      obtain ⟨bs, e1, e2, h2⟩ := zip_rp t
      refine ⟨(v, xs) :: bs, by rw [e1]; rfl, by rw [e2]; rfl, fun b hb => ?_⟩
      rcases List.mem_cons.mp hb with z | z
      · rw [z]; exact a
      · exact h2 b z
theorem rp_zip {K : PySem.W.Frag} {S : Hp} : ∀ {bs : List (V × List Int)}, (∀ b ∈ bs, Rp K S b.1 (encB b)) → RpL K S (bs.map (·.1)) ((bs.map (·.2)).map encL)
  | [], _ => .nil
  | b :: bs, h => .cons (h b List.mem_cons_self) (rp_zip fun x hx => h x (List.mem_cons_of_mem _ hx))
theorem p_sortLL {K : PySem.W.Frag} : Prim K (rSortedLL K) oSortLL := fun vs ds S H Q r m rp sb e q => by
  unfold oSortLL at e
  split at e
  · rename_i l
    cases z : listsOf l with
    | none => rw [z] at e; cases e
    | some xss =>
      rw [z] at e
      cases e
      obtain ⟨y, rfl, hy⟩ := rp_one' rp
      have hk := listsOf_ok z
      subst hk
      cases hy with
      | lst h1 h2 =>
        obtain ⟨bs, rfl, rfl, hb⟩ := zip_rp h2
        refine ⟨_, bs, rfl, .inl (.inl (sb _ _ h1)), fun b hbm => (hb b hbm).mn sb, fun p hp => q _ _ _ _ (Made.lst sb hp) ?_⟩
        rw [← sort_snd]
        exact Own.newLst (rp_zip fun b hbm => hb b ((List.mergeSort_perm _ _).mem_iff.mp hbm))
  · cases e
section
variable {e : Ev} {Q : RV → Ev → Prop}
theorem us_sortLL {rs : List RV} {xss : List (List Int)} (h1 : derefs e rs = some [.list (xss.map encL)]) (h2 : rs.any isBor = false) (q : Q (.val (.list ((sortLL xss).map encL)) 1) e) : Us oSortLL rs e Q :=
  us_of (d := .list ((sortLL xss).map encL)) (m := 1) h1 (by
    show oSortLL [.list (xss.map encL)] = _
    unfold oSortLL
    simp only [listsOf_map]) (by rw [h2]; rfl) q
end
end PV

/-! PVV11: len of a dict, for k in d. -/
namespace PV
open PySem PySem.Spec PyProof.Rows L2
/-! ### len -/
def rLenR : List V → Hp → VK → Prop := fun xs H Q => ∃ (a : Addr) (kvs : List (Key × V)), xs = [V.ref a] ∧ Rd H a (.dK kvs) ∧ Q (.int kvs.length) H
theorem call_lenR {X : Cx} : CallR X (.builtin "len") rLenR := by
  intro pins s σ H xs us Q I r h
  obtain ⟨a, kvs, rfl, ha, q⟩ := h
  rw [Vals.ref1 r]
  exact d_len I ha fun t s' I' => ⟨.int kvs.length, H, I', ⟨t, rfl⟩, q⟩
def oLenA : Op := fun ds => match ds with
  | [.dict l] => some (.int l.length, 0)
  | ds => oLen ds
theorem p_lenA {K : PySem.W.Frag} : Prim K (fun xs H Q => rLen K xs H Q ∨ rLenR xs H Q) oLenA := fun vs ds S H Q r m rp sb e q => by
  unfold oLenA at e
  split at e
  · rename_i l
    cases e
    obtain ⟨x, rfl, h⟩ := rp_one' rp
    cases h with
    | dic p1 p2 => exact .inr ⟨_, _, rfl, Same.rd sb p1, by rw [p2.length]; exact q _ _ _ _ (Made.refl sb) ⟨rfl, .int _⟩⟩
  · exact .inl (p_len vs _ S H Q r m rp sb e q)
theorem cr_lenA {X : Cx} : CallR X (.builtin "len") (fun xs H Q => rLen X.K xs H Q ∨ rLenR xs H Q) := CallR.or call_len call_lenR
/-! ### for k in d: the dict is locked for good -/
def tLk (td : TE) : TE := fun σ H Q => td σ H fun x H1 => ∃ d u, x = V.ref d ∧ H1 d = some u ∧ Mut (some u) ∧ ∀ od, Q x (upd H1 d (.frz od u))
theorem pe_lk {X : Cx} {e : Expr} {td : TE} (he : PE X e td) : PE X e (tLk td) := ⟨fun pins s σ H Q I h => thn (he.run pins s σ H _ I h) fun v s1 ⟨x, H1, I1, r1, d, u, ex, hu, mu, q⟩ => by
  obtain ⟨od, I2⟩ := I1.lock hu mu
  exact ⟨x, _, I2, r1, q od⟩⟩
def fItD (i : Nat) (e : Ev) : Res (List PyData) := match e[i]? with
  | some (some (.dt (.dict l) 1)) => .ok (l.map (·.1)) (e.set i (some (.dt (.dict l) 0)))
  | _ => .no
theorem kD_kV {K : PySem.W.Frag} {S : Hp} (k : Key) : Rp K S (kV k) (kD k) := by
  cases k with
  | inl i => exact .int i
  | inr x => exact .str x
theorem RpK.key {K : PySem.W.Frag} {S : Hp} : ∀ {kvs : List (Key × V)} {l : List (PyData × PyData)} {i : Nat} {d : PyData}, RpK K S kvs l → (l.map (·.1))[i]? = some d → ∃ k v, kvs[i]? = some (k, v) ∧ d = kD k
  | _, _, i, d, .nil, h => by simp at h
  | _, _, 0, d, .cons a b, h => by
    simp at h
    exact ⟨_, _, rfl, h.symm⟩
  | _, _, i + 1, d, .cons a b, h => by
    obtain ⟨k, v, h1, h2⟩ := RpK.key (i := i) b (by simpa using h)
    exact ⟨k, v, by simpa using h1, h2⟩
section
variable {G : Gx} {S H : Hp} {σ : L2.St} {e : Ev} {A : List Addr}
/-- an own dict becomes shared, and locked -/
theorem Cu.lockD {i : Nat} {l : List (PyData × PyData)} (R : Cu G S H σ e A []) (h : e[i]? = some (some (.dt (.dict l) 1))) : ∃ a kvs, σ[i]? = some (some (.ref a)) ∧ H a = some (.dK kvs) ∧ RpK G.K S kvs l ∧
    ∀ od, ∃ A', Cu G (upd S a (.frz od (.dK kvs))) (upd H a (.frz od (.dK kvs))) σ (e.set i (some (.dt (.dict l) 0))) A' [] ∧ Step S A H (upd S a (.frz od (.dK kvs))) A' (upd H a (.frz od (.dK kvs))) := by
  obtain ⟨v, f, B, C, e1, e2, o, k, _⟩ := R.slots.at i h
  obtain ⟨a, u, rfl, rfl, ha, hu⟩ := o.held rfl
  obtain ⟨kvs, rfl, rk⟩ := hu.dic
  refine ⟨a, kvs, e1, ha, rk, fun od => ?_⟩
  have nA : A.Nodup := nodup_nil.mp R.nod
  have aA : a ∈ A := by rw [e2]; simp
  have aS : S a = none := R.off a (List.mem_append_left _ aA)
  have nBC : ∀ b ∈ B ++ C, b ≠ a := fun b hb z => by
    subst z
    rw [e2] at nA
    obtain ⟨p, q, r⟩ := nodup_app.mp nA
    rcases List.mem_append.mp hb with w | w
    · exact (nodup_app.mp p).2.2 b w (List.mem_singleton.mpr rfl)
    · exact r b (by simp) w
  have subA : ∀ b ∈ B ++ C, b ∈ A := fun b hb => by
    rw [e2]
    rcases List.mem_append.mp hb with z | z <;> simp [z]
  have ss : Same S (upd S a (.frz od (.dK kvs))) := fun b o z => by
    have : b ≠ a := fun w => by rw [w, aS] at z; cases z
    rw [upd_ne this]; exact z
  have sl := k (S' := upd S a (.frz od (.dK kvs))) (H' := upd H a (.frz od (.dK kvs))) (n' := 0) (f' := []) (d' := .dict l) ss (fun b hb o z => by rw [upd_ne (nBC b hb)]; exact z) ⟨rfl, .dic (.inr ⟨od, upd_same⟩) (rk.mn ss)⟩
  rw [List.append_nil] at sl
  have nBC2 : (B ++ C).Nodup := by
    rw [e2] at nA
    obtain ⟨p, q, r⟩ := nodup_app.mp nA
    exact nodup_app.mpr ⟨(nodup_app.mp p).1, q, fun b hb => r b (List.mem_append_left _ hb)⟩
  refine ⟨B ++ C, ⟨fun b o z => ?_, nodup_nil.mpr nBC2, fun b hb => ?_, sl, fun t ht => nomatch ht⟩, ⟨fun b o z n => ?_, fun b z => ?_, ss, fun b o z => ?_, fun b hb => .inl (subA b hb)⟩⟩
  · by_cases hb : b = a
    · subst hb; rw [upd_same] at z ⊢; exact z
    · rw [upd_ne hb] at z ⊢; exact R.sub b o z
  · have hb' := mem_nil.mp hb
    rw [upd_ne (nBC b hb')]
    exact R.off b (List.mem_append_left _ (subA b hb'))
  · have : b ≠ a := fun w => n (w ▸ aA)
    rw [upd_ne this]; exact z
  · by_cases hb : b = a
    · rw [hb, upd_same]; exact fun w => nomatch w
    · rw [upd_ne hb]; exact z
  · by_cases hb : b = a
    · subst hb; exact .inr (.inr aA)
    · rw [upd_ne hb] at z; exact .inl z
end
theorem it_keys {K : PySem.W.Frag} {S : Hp} {a : Addr} {od : Obj} {kvs : List (Key × V)} {l : List (PyData × PyData)} (hS : S a = some (.frz od (.dK kvs))) (rk : RpK K S kvs l) : ItOk K (Itk a od kvs) S (l.map (·.1)) := fun i S' H' h1 h2 => by
  have hH : H' a = some (.frz od (.dK kvs)) := h2 _ _ (h1 _ _ hS)
  refine ⟨fun d hd => ?_, fun hi => ⟨hH, by rw [rk.length]; rwa [List.length_map] at hi⟩⟩
  obtain ⟨k, v, hk, rfl⟩ := rk.key hd
  refine ⟨⟨hH, (List.getElem?_eq_some_iff.mp hk).1⟩, fun x H2 ⟨e1, k', v', hk', e2⟩ => ?_⟩
  subst e1 e2
  rw [hk] at hk'
  cases hk'
  exact ⟨S', Made.refl h2, kD_kV k⟩
section
variable {X : Cx} {W : WX} {tg a : Expr} {i : Nat}
theorem ei_keys (ha : PE X a (tVar i)) : EI X W tg a (fItD i) :=
  PI.imp (pi_keys (pe_lk ha)) fun σ H R q => by
    obtain ⟨S, e, A, C, q⟩ := q
    unfold fItD at q
    match hi : e[i]?, q with
    | some (some (.dt (.dict l) 1)), q =>
      simp only [hi] at q
      obtain ⟨d, kvs, ev, hd, rk, k⟩ := C.lockD hi
      refine ⟨_, ev, d, _, rfl, hd, trivial, fun od => ⟨d, od, rfl, .inl ⟨kvs, upd_same, ?_⟩⟩⟩
      obtain ⟨A', R', st⟩ := k od
      exact q _ _ _ _ R' st (it_keys upd_same (rk.mn st.sub))
    | some (some (.dt (.dict l) 0)), q => simp only [hi] at q
    | some (some (.dt (.dict l) (n + 2))), q => simp only [hi] at q
    | some (some (.dt .none n)), q => simp only [hi] at q
    | some (some (.dt (.bool _) n)), q => simp only [hi] at q
    | some (some (.dt (.int _) n)), q => simp only [hi] at q
    | some (some (.dt (.str _) n)), q => simp only [hi] at q
    | some (some (.dt (.list _) n)), q => simp only [hi] at q
    | some (some (.dt (.tuple _) n)), q => simp only [hi] at q
    | some (some (.ex c)), q => simp only [hi] at q
    | some (some (.fz c)), q => simp only [hi] at q
    | some none, q => simp only [hi] at q
    | none, q => simp only [hi] at q
end
section
variable {e : Ev}
theorem ok_itD {i : Nat} {l : List (PyData × PyData)} {P : List PyData → Ev → Prop} (h : e[i]? = some (some (.dt (.dict l) 1))) (q : P (l.map (·.1)) (e.set i (some (.dt (.dict l) 0)))) : Ok (fItD i) e P := ⟨_, _, by unfold fItD; simp only [h], q⟩
theorem us_lenD {rs : List RV} {Q : RV → Ev → Prop} {l : List (PyData × PyData)} (h1 : derefs e rs = some [.dict l]) (q : Q (.val (.int l.length) 0) e) : Us oLenA rs e Q := us_of (d := .int l.length) (m := 0) h1 rfl (by show (_ && !true) = false; rw [Bool.not_true, Bool.and_false]) q
end
end PV

/-! PVV13: raise, try .. except T as e: caught = e, isinstance of an exception, caught is None. -/
namespace PV
open PySem PySem.Spec PyProof.Rows L2

/-! ### a caught exception is tracked on -/
section
variable {X : Cx} {H : Hp} {σ : L2.St} {s : Shared} {pins : List (Addr × Obj)}
theorem inv_held {a : Addr} {oe : Obj} {vs : Array Value} {cls : Value} (I : Inv X pins σ H s) (e : s.heap.get? a = some oe) (z : Zc cls none oe) (d : oe.data = .fields vs) (na : H a = none) (n0 : X.s_0.heap.get? a = none)
    (nL : a ≠ X.env.locals) (np : ∀ p ∈ X.pn ++ pins, p.1 ≠ a) : Inv X pins σ (upd H a (ExQ cls a)) s := by
  have nb : ∀ {b u}, H b = some u → b ≠ a := fun {b u} q w => by rw [w, na] at q; cases q
  refine ⟨I.ok, I.os, I.bare, ⟨I.base.keep, I.base.slot, fun b o q n hx => ?_, I.base.there, fun b xs q => ?_, fun b o u q => ?_, fun b ps q => ?_⟩, I.loc, I.cell, ?_, fun x c q => ?_, fun p hp => ?_, fun b u q => ?_, I.len⟩
  · rw [upd_ne (fun w => by rw [w, n0] at q; cases q)]; exact I.base.free b o q n hx
  · have q2 := I.base.tups b xs q
    rw [upd_ne (nb q2)]; exact q2
  · have q2 := I.base.frzs b o u q
    rw [upd_ne (nb q2)]; exact q2
  · obtain ⟨m, q2⟩ := I.base.tbls b ps q
    exact ⟨m, by rw [upd_ne (nb q2)]; exact q2⟩
  · rw [upd_ne (Ne.symm nL)]; exact I.free
  · obtain ⟨v, o, ho, hd⟩ := I.cell x c q
    have nc : c ≠ a := fun w => by
      rw [w, e] at ho
      cases ho
      rw [d] at hd
      cases hd
    rw [upd_ne nc]; exact I.freeC x c q
  · obtain ⟨e1, n, ne, nf, dd⟩ := I.pin p hp
    exact ⟨e1, by rw [upd_ne (np p hp)]; exact n, ne, nf, dd⟩
  · by_cases hb : b = a
    · subst hb
      rw [upd_same] at q
      cases q
      exact ⟨⟨oe, e, z, vs, d⟩, ⟨oe, e⟩, fun _ _ ⟨o, h1, h2⟩ k => ⟨o, k o h1, h2⟩⟩
    · rw [upd_ne hb] at q
      exact (I.hok b u q).stay (fun _ _ _ r => r) (fun c r => by rw [upd_ne (nb r)]; exact r) fun c xs r => by rw [upd_ne (nb r)]; exact r
end

/-- what is asked of an exception of the body: slot i is the clause's name; behind the suite the exception's object is tracked -/
def wHeld (K : PySem.W.Frag) (c : Value) (i : Nat) (ts : Addr → Value → TS) (Wo : WX) (D : Ends) : WX := fun cls d σ H =>
  ∃ b, PySem.W.exmOne K cls c = some b ∧ (b = true → d = none ∧ ∀ a, H a = none → ts a cls { nx := fun σ1 H1 => H1 a = none → D.nx (σ1.set i none) (upd H1 a (ExQ cls a)), rt := fun _ _ => False } (σ.set i (some (.ref a))) H) ∧
    (b = false → Wo cls d σ H)
section
variable {X : Cx} {x n : Str} {c : Value} {i : Nat} {body suite : List Stmt} {b0 : Stmt} {np pos pos2 : Pos} {tb : WX → TS} {ts : Addr → Value → TS} {Wo : WX}
theorem ps_tryHeld (hs : X.stack = X.env :: X.outer) (hf : X.env.frame = some X.env.locals) (hex : X.ex = []) (hN : X.N.Nodup) (hi : X.N[i]? = some n) (hln : X.env.kindOf n = some .local) (hc : Names X x c) (tk : Takes X Wo)
    (hb : ∀ (W : WX) (ps : List (Addr × Obj)) (xe : Value → Shared → Prop), Takes (X.tr ps xe) W → PassesOwn (model X.prog X.w) X.A X.env xe → PSs (X.tr ps xe) body (tb W))
    (hsu : ∀ (a : Addr) (oe : Obj) (cls : Value) (pn : List (Addr × Obj)), PSs (X.suite a ((a, oe) :: pn)) (b0 :: suite) (ts a cls)) :
    PS X (.Try body [.ExceptHandler (some (.Name x np)) (some n) (b0 :: suite) pos2] [] [] pos) (fun D σ H => tb (wHeld X.K c i ts Wo D) D σ H) := by
  constructor
  intro pins s σ H D I h
  have ok := I.ok
  have frm : X.A.frames = some (X.env :: X.outer) := ok.frames.trans (congrArg some hs)
  apply wpAny_Try_except
  refine wpAny_mono ((hb (wHeld X.K c i ts Wo D) (X.pn ++ pins) (fun u s1 => wpAny (model X.prog X.w) X.A (noteFrame u X.env) (fun _ s2 => wpAny (model X.prog X.w) X.A (setFlight u none) (fun _ s3 =>
    wpAny (model X.prog X.w) X.A (handleBy u X.env [.ExceptHandler (some (.Name x np)) (some n) (b0 :: suite) pos2]) (SP X pins D) X.xe s3) X.xe s2) X.xe s1) (fun u s1 ex => ?_) PassesOwn.looking).run [] s σ H D (I.toTry _) h) (fun f s1 q => ?_) (fun u s1 q => q)
  · obtain ⟨a, B, sI, pns, σ1, H1, cls, d, rfl, J0, nb, up, sky, na, os, ag, b, hb1, yes, no⟩ := ex
    have J : Inv X pins σ1 H1 sI := J0.ofTry ok
    rw [show (X.tr (X.pn ++ pins) _).stack = X.env :: X.outer from hs] at sky
    refine (show wpAny (model X.prog X.w) X.A (noteFrame (.ref a) X.env) _ _ _ from ?_)
    refine Sky.land Zc.steady frm hf sky fun h3 fl3 up3 => ?_
    have J3 : Inv X pins σ1 H1 { s1 with heap := h3 } := J.landed nb fl3.1 (up.trans up3) os ag
    obtain ⟨o3, v3, e3, z3, d3⟩ := fl3.there
    have nfr : a ∉ frs (X.env :: X.outer) := fun hm => by
      obtain ⟨_, o1, e1, hnf⟩ := fl3.2.2.1.mem hm
      rw [e3] at e1
      cases e1
      exact hnf _ d3
    have nL : a ≠ X.env.locals := fun w => nfr (List.mem_filterMap.mpr ⟨X.env, List.mem_cons_self, by rw [hf, w]⟩)
    have nF : a ∉ X.fs := fun hmem => by
      obtain ⟨v, hv, q⟩ := List.mem_filterMap.mp hmem
      exact nfr (List.mem_filterMap.mpr ⟨v, List.mem_cons_of_mem _ hv, q⟩)
    have nB : B.get? a = none := fl3.2.1
    have n0 : X.s_0.heap.get? a = none := by -- new since the entry
      cases w : X.s_0.heap.get? a with
      | none => rfl
      | some o =>
        obtain ⟨o1, w1⟩ := J.base.there a o w (by rw [hex]; exact List.not_mem_nil)
        have w2 := nb a o1 w1 (by rw [show (X.tr (X.pn ++ pins) _).stack = X.env :: X.outer from hs]; exact nfr)
        rw [nB] at w2
        cases w2
    have npin : ∀ p ∈ X.pn ++ pins, p.1 ≠ a := fun p hp w => by
      obtain ⟨w1, _, ne, nf, _⟩ := J.pin p hp
      have w2 := nb p.1 p.2 w1 (fun hm => (List.mem_cons.mp (J.stkSub p.1 hm)).elim ne nf)
      rw [w, nB] at w2
      cases w2
    have S3 := J3.suite e3 d3 na nL nF
    refine wpAny_handleBy_cons (codeAny_handlers_test ?_) (fun q => nomatch q)
    have LT : PySem.W.Looks (model X.prog X.w) h3 (typeOf (.ref a)) cls := fun A Q E s k q => wpAny_typeOf_ref (k _ _ e3) (z3.1.symm ▸ q)
    have LM := PySem.W.exm_one (M := model X.prog X.w) J3.kIn LT hb1
    have test : ∀ {Q : Value → Shared → Prop} {E : Value → Shared → Prop}, Q c { s1 with heap := h3 } → wpAny (model X.prog X.w) (X.A.mark (some (.ref a))) (eval (.Name x np) X.env) Q E { s1 with heap := h3 } := fun {Q E} q => by
      rcases hc with ⟨hg, hdb, ⟨hm⟩ | ⟨hm, hv, hnn⟩⟩
      · exact ld_glob (X := X.suite a ((a, o3) :: (X.pn ++ pins))) S3 hg ‹_› q hdb
      · exact ld_blt (X := X.suite a ((a, o3) :: (X.pn ++ pins))) S3 hg hm hv q hnn hdb
    refine test (LM.here ?_)
    cases b with
    | true =>
      obtain ⟨ed, go⟩ := yes rfl
      subst ed
      refine codeAny_handlers_suite_as (HandSPX.lands_againZ fl3 fun h4 fl4 up4 => ?_)
      have J4 : Inv X pins σ1 H1 { s1 with heap := h4 } := J.landed nb fl4.1 ((up.trans up3).trans up4) os ag
      obtain ⟨o4, v4, e4, z4, d4⟩ := fl4.there
      have S4 := J4.suite e4 d4 na nL nF
      refine store_ok (X := X.suite a ((a, o4) :: (X.pn ++ pins))) (v := .ref a) S4 hN hi (.inl hln) rfl (fun s5 S5 => ?_) (.inr hln)
      refine wpAny_mono ((hsu a o4 cls (X.pn ++ pins)).run [] s5 _ H1 _ S5 (go a na)) (fun f s6 hsp => ?_) (fun _ _ w => False.elim w)
      cases f with
      | next =>
        rcases hsp with ⟨σ6, H6, S6, q6⟩
        obtain ⟨e6, n6, _⟩ := S6.pin (a, o4) (List.mem_append_left _ List.mem_cons_self)
        have T6 := inv_held (S6.unsuite ok) e6 z4 d4 n6 n0 nL npin
        exact gone_ok T6 hN hi hln fun s7 J7 => ⟨_, _, J7, q6 n6⟩
      | brk =>
        obtain ⟨_, _, _, w⟩ := hsp
        exact w.elim
      | cont =>
        obtain ⟨_, _, _, w⟩ := hsp
        exact w.elim
      | ret u =>
        obtain ⟨_, _, _, _, _, w⟩ := hsp
        exact w.elim
    | false =>
      refine (show wpAny _ X.A (handleBy (.ref a) X.env []) _ _ _ from ?_)
      refine wpAny_handleBy_nil ?_
      obtain ⟨k1, k2, k3, o5, v5, T, oT, t5, e5, z5, d5, h5, hr⟩ := id fl3
      unfold PySem.passOn
      refine wpAny_bind (wpAny_field e5 d5 h5 ?_)
      rw [if_neg (by simp : ¬ ((Value.ref T == Value.none) = true))]
      have fin : wpAny (model X.prog X.w) X.A (setFlight (.ref a) X.env.frame) (fun _ s4 => wpAny (model X.prog X.w) X.A (throw (.ref a) : Sem Flow) (SP X pins D) X.xe s4) X.xe { s1 with heap := h3 } := by
        rw [hf]
        refine HandSPX.setFlight_upZ fl3 fun h4 w4 up4 => wpAny_throw (tk _ _ ?_)
        exact ⟨a, B, sI, pins, σ1, H1, cls, d, rfl, J, nb, (up.trans up3).trans up4, .inr (.inr (by rw [hs]; exact w4)), na, os, ag, no rfl⟩
      first
        | exact wpAny_bind fin
        | exact (wpAny_bind (wpAny_pure (wpAny_bind fin)))
  · cases f with
    | next =>
      obtain ⟨σ1, H1, J1, q⟩ := q
      exact wpAny_execs_nil ⟨σ1, H1, J1.ofTry ok, q⟩
    | brk =>
      obtain ⟨σ1, H1, J1, q⟩ := q
      exact ⟨σ1, H1, J1.ofTry ok, q⟩
    | cont =>
      obtain ⟨σ1, H1, J1, q⟩ := q
      exact ⟨σ1, H1, J1.ofTry ok, q⟩
    | ret u =>
      obtain ⟨v, σ1, H1, J1, r, q⟩ := q
      exact ⟨v, σ1, H1, J1.ofTry ok, r, q⟩
end

/-! ### the classes -/
structure ExFacts (K : PySem.W.Frag) (C : Addr) : Prop where
  x : PySem.W.excIn K C [.type "ValueError", .type "Exception", .type "BaseException", .type "object"] "ValueError.__new__" = true
  k : PySem.W.keepIn K (.ref C) = true
  b : PySem.W.subIn K (.ref C) (.type "BaseException") = some true
  t : PySem.W.typeIn K (.ref C) = some (.type "type")
  c : ExcC K C

theorem xf_at {K : PySem.W.Frag} {mg : Str → Option Value} {x : Str} {C : Addr} (h : ∃ C, mg x = some (.ref C) ∧ ExFacts K C) (e : mg x = some (.ref C)) : ExFacts K C := by
  obtain ⟨D, h1, h2⟩ := h
  rw [e] at h1
  cases h1
  exact h2

def fRaise (c : Str) (e : Ev) : SRes := .exc c e
theorem clOf_eq {mg : Str → Option Value} {c : Str} {C : Addr} (h : mg c = some (.ref C)) : clOf mg c = some C := by unfold clOf; rw [h]
theorem of_clOf {mg : Str → Option Value} {c : Str} {C : Addr} (h : clOf mg c = some C) : mg c = some (.ref C) := by
  unfold clOf at h
  split at h
  · cases h; assumption
  · cases h
section
variable {X : Cx} {W : WX} {P : Nat → Bool}
theorem es_raise {c m : Str} {C : Addr} {j : Nat} {p p2 p3 pos : Pos} (hc : X.calm = true) (tk : Takes X W) (h : X.mg c = some (.ref C) ∧ ExFacts X.K C) (hg : Gl X c) (hd : (c == ("__debug__" : Str)) = false := by decide) :
    ES X W P (.Raise (some (.Call (.Name c p) [.Constant (.str m) j p2] [] p3)) none pos) (fRaise c) :=
  PS.imp (ps_raise hc tk (pmk_own PySem.F.excBase_ValueError h.2.x h.1 h.2.k (raises_own h.2.b h.2.t) hg hd)) fun D σ H q => by
    obtain ⟨S, e, A, R, q⟩ := q
    exact q σ H S A C (clOf_eq h.1) R .refl .refl

def fTry (ks : List Str) (fb : Ev → SRes) (i ci : Nat) (e : Ev) : SRes := match fb e with
  | .exc k e1 => if k ∈ ks then .nx ((e1.set i none).set ci (some (.ex k))) else .no
  | r => r
theorem es_try {body : List Stmt} {fb : Ev → SRes} {x n cn : Str} {T : Addr} {i ci : Nat} {np p1 p2 p3 pos pos2 : Pos} (ks : List Str) (hP : P i = false) (hPc : P ci = false) (hs : X.stack = X.env :: X.outer) (hf : X.env.frame = some X.env.locals) (hex : X.ex = [])
    (hN : X.N.Nodup) (hi : X.N[i]? = some n) (hln : X.env.kindOf n = some .local) (hci : X.N[ci]? = some cn) (hcl : Loc X.env.scope cn) (hcf : X.fn cn = true ∨ X.env.scope.names.lookup cn = some .local) (hic : i ≠ ci)
    (hv : ∀ (a : Addr) (pn : List (Addr × Obj)), PE (X.suite a pn) (.Name n p2) (tVar i)) (hsw : swapsWith (.Name n p2) (some (.Name cn p1)) p3.line X.env = pure false) (hc : Names X x (.ref T)) (tk : Takes X W)
    (hks : ∀ k ∈ ks, ∀ C, X.mg k = some (.ref C) → PySem.W.exmOne X.K (.ref C) (.ref T) = some true)
    (hb : ∀ (W' : WX) (pn : List (Addr × Obj)) (xe : Value → Shared → Prop), Takes (X.tr pn xe) W' → PassesOwn (model X.prog X.w) X.A X.env xe → ESs (X.tr pn xe) W' P body fb) :
    ES X W P (.Try body [.ExceptHandler (some (.Name x np)) (some n) [.Assign [.Name cn p1] (.Name n p2) p3] pos2] [] [] pos) (fTry ks fb i ci) :=
  ⟨fun pins0 s0 σ H D I0 q => (ps_tryHeld (tb := fun W' => tS (gx X) W' P fb) (ts := fun a cls D σ H => σ[i]? = some (some (.ref a)) ∧ D.nx (σ.set ci (some (.ref a))) H) hs hf hex hN hi hln hc tk hb
    (fun a oe cls pn => ⟨fun pins s σ H D I q => (pss_one (ps_set (X := X.suite a ((a, oe) :: pn)) hN hci hcl (hv a _) hsw hcf)).run pins s σ H D I ⟨.ref a, q.1, q.2⟩⟩)).run pins0 s0 σ H D I0 (by
    obtain ⟨S, e, A, R, q⟩ := q
    refine ⟨S, e, A, R, ?_⟩
    unfold fTry at q
    cases h : fb e with
    | no => simp only [h] at q; exact q
    | nx e1 => simp only [h] at q; exact q
    | rt d m e1 => simp only [h] at q; exact q
    | bk e1 => simp only [h] at q; exact q
    | ct e1 => simp only [h] at q; exact q
    | exc k e1 =>
      simp only [h] at q
      by_cases hk : k ∈ ks
      · rw [if_pos hk] at q
        intro σ1 H1 S1 A1 C hC R1 st pn
        have hlX : σ1.length = X.N.length := pn.1.trans I0.len
        refine ⟨true, hks k hk C (of_clOf hC), fun _ => ⟨rfl, fun a ha => ⟨?_, fun _ => ?_⟩⟩, fun z => nomatch z⟩
        · rw [List.getElem?_set_self (by rw [hlX]; exact (List.getElem?_eq_some_iff.mp hi).1)]
        · have hSa : S1 a = none := by
            cases w : S1 a with
            | none => rfl
            | some o => rw [R1.sub a o w] at ha; cases ha
          have ss : Same S1 (upd S1 a (ExQ (.ref C) a)) := fun b o z => by rw [upd_ne (ne_of_none z hSa)]; exact z
          have hh : ∀ b o, H1 b = some o → upd H1 a (ExQ (.ref C) a) b = some o := fun b o z => by rw [upd_ne (ne_of_none z ha)]; exact z
          have R2 : Cu (gx X) (upd S1 a (ExQ (.ref C) a)) (upd H1 a (ExQ (.ref C) a)) σ1 e1 A1 [] := by
            refine ⟨fun b o z => ?_, R1.nod, fun b hb => ?_, R1.slots.keep ss fun b _ o z => hh b o z, fun t ht => nomatch ht⟩
            · by_cases hba : b = a
              · subst hba; rw [upd_same] at z ⊢; exact z
              · rw [upd_ne hba] at z ⊢; exact R1.sub b o z
            · have hba : b ≠ a := fun w => R1.trk hb (w ▸ ha)
              rw [upd_ne hba]; exact R1.off b hb
          have hil : i < σ1.length := by rw [hlX]; exact (List.getElem?_eq_some_iff.mp hi).1
          have hcil : ci < σ1.length := by rw [hlX]; exact (List.getElem?_eq_some_iff.mp hci).1
          obtain ⟨A2, R3, s3⟩ := R2.put0 (i := i) (w := none) (nw := none) hil (.none .nil)
          obtain ⟨A3, R4, s4⟩ := R3.put0 (i := ci) (w := some (.ref a)) (nw := some (.ex k)) (by rw [List.length_set]; exact hcil) (.ex upd_same hC .nil)
          have es : ((σ1.set i (some (.ref a))).set ci (some (.ref a))).set i none = (σ1.set i none).set ci (some (.ref a)) := by
            rw [List.set_comm _ _ hic, List.set_set, List.set_comm _ _ (Ne.symm hic)]
          show D.nx (((σ1.set i (some (.ref a))).set ci (some (.ref a))).set i none) _
          rw [es]
          refine q _ _ _ A3 R4 (st.trans ⟨fun b o z _ => hh b o z, fun b z => ?_, ss, fun b o z => ?_, fun b z => .inl (s3 b (s4 b z))⟩) (pn.trans ((Pin.set hP).trans (Pin.set hPc)))
          · by_cases hba : b = a
            · subst hba; rw [upd_same]; exact fun w => nomatch w
            · rw [upd_ne hba]; exact z
          · by_cases hba : b = a
            · subst hba; exact .inr (.inl ha)
            · rw [upd_ne hba] at z; exact .inl z
      · rw [if_neg hk] at q; exact q.elim)⟩
end

/-! ### isinstance of an exception -/
def rIsX (K : PySem.W.Frag) : List V → Hp → VK → Prop := fun xs H Q => (∃ (a C : Addr) (c : V) (u : Value) (b : Bool), xs = [.ref a, c] ∧ ClsV c u ∧ H a = some (ExQ (.ref C) a) ∧ ExcC K C ∧ PySem.W.kitOne K (.ref C) u = some b ∧ Q (.bl b) H) ∨ rIsi K xs H Q
def rIsXT (K : PySem.W.Frag) : List V → Hp → VK → Prop := fun xs H Q =>
  (∃ (a C tp : Addr) (cs : List V) (us : List Value) (b : Bool), xs = [.ref a, .ref tp] ∧ H tp = some (.tup cs) ∧ Paired ClsV cs us ∧ H a = some (ExQ (.ref C) a) ∧ ExcC K C ∧ PySem.W.kitAny K (.ref C) us = some b ∧ Q (.bl b) H) ∨ rIsiT K xs H Q
section
variable {X : Cx}
theorem inst_of {pins : List (Addr × Obj)} {σ : L2.St} {H : Hp} {s : Shared} {a C : Addr} (I : Inv X pins σ H s) (ha : H a = some (ExQ (.ref C) a)) : ∃ oe, PySem.W.InstAt s.heap a oe C none := by
  obtain ⟨⟨oe, ho, hz, vs, hd⟩, _, _⟩ := (show ObjOk X.prog X.w H s.heap a (ExQ (.ref C) a) from I.hok a _ ha)
  refine ⟨oe, ?_⟩
  rcases oe with ⟨oc, od, oda, osl⟩
  obtain ⟨h1, h2⟩ := hz
  dsimp only at h1 h2 hd
  subst h1 h2 hd
  exact ⟨ho, rfl, rfl, trivial⟩
theorem call_isX : CallR X (.builtin "isinstance") (rIsX X.K) := by
  intro pins s σ H xs ws Q I r h
  rcases h with ⟨a, C, c, u, b, rfl, k, ha, F, e, q⟩ | h
  · obtain ⟨u1, u2, rfl, r1, r2⟩ := vals2 r
    have eu1 : u1 = Value.ref a := r1
    subst eu1
    have e2 := k.eq r2
    subst e2
    obtain ⟨oe, J⟩ := inst_of I ha
    exact PySem.W.kia_one (PySem.W.handS_kitx_exc F.hg F.hk F.hs F.hd F.ha F.hn F.ht F.hm) I.kIn J e (fun z => nomatch z) fun tk => ⟨.bl b, H, I.tok tk, rfl, q⟩
  · exact call_isi pins s σ H xs ws Q I r h
theorem call_isXT : CallR X (.builtin "isinstance") (rIsXT X.K) := by
  intro pins s σ H xs ws Q I r h
  rcases h with ⟨a, C, tp, cs, ws, b, rfl, hT, k, ha, F, e, q⟩ | h
  · obtain ⟨u1, u2, rfl, r1, r2⟩ := vals2 r
    have eu1 : u1 = Value.ref a := r1
    subst eu1
    have eu2 : u2 = Value.ref tp := r2
    subst eu2
    obtain ⟨oe, J⟩ := inst_of I ha
    have tupOk : ObjOk X.prog X.w H s.heap tp (.tup cs) := I.hok tp _ hT
    obtain ⟨_, its, rv, o, h1, h2, n, h3⟩ := tupOk
    have e3 := ClsV.all k rv
    subst e3
    obtain ⟨oc, od, dt, sl⟩ := o
    simp only at h2 h3
    subst h2 h3
    exact PySem.W.kia_tup (PySem.W.handS_kitx_exc F.hg F.hk F.hs F.hd F.ha F.hn F.ht F.hm) I.kIn J h1 e (fun z => nomatch z) fun tk => ⟨.bl b, H, I.tok tk, rfl, q⟩
  · exact call_isiT pins s σ H xs ws Q I r h
end

/-- what isinstance says: of an exception by its class's name, of None -/
abbrev ITab := Option Str → Option Bool
def fIsE (tab : ITab) (i : Nat) (e : Ev) : Res RV := match e[i]? with
  | some (some (.ex c)) => match tab (some c) with
    | some b => .ok (.val (.bool b) 0) e
    | none => .no
  | some (some (.dt .none 0)) => match tab none with
    | some b => .ok (.val (.bool b) 0) e
    | none => .no
  | _ => .no
def tabL (n : Option Bool) (l : List (Str × Bool)) : ITab
  | none => n
  | some c => l.lookup c
def TabOk (K : PySem.W.Frag) (mg : Str → Option Value) (R : Value → Option Bool) (tab : ITab) : Prop :=
  (∀ c C b, tab (some c) = some b → mg c = some (.ref C) → ExcC K C ∧ R (.ref C) = some b) ∧ ∀ b, tab none = some b → R (.type "NoneType") = some b
theorem tab_nil {K : PySem.W.Frag} {mg : Str → Option Value} {R : Value → Option Bool} : TabOk K mg R (tabL none []) := ⟨fun c C b h => (nomatch h), fun b h => (nomatch h)⟩
theorem tab_none {K : PySem.W.Frag} {mg : Str → Option Value} {R : Value → Option Bool} {b : Bool} (h : R (.type "NoneType") = some b) : TabOk K mg R (tabL (some b) []) := ⟨fun c C b h => (nomatch h), fun b' e => by
  have e' : some b = some b' := e
  cases e'
  exact h⟩
theorem tab_cons {K : PySem.W.Frag} {mg : Str → Option Value} {R : Value → Option Bool} {n : Option Bool} {l : List (Str × Bool)} {c : Str} {b : Bool} (h : ∀ C, mg c = some (.ref C) → ExcC K C ∧ R (.ref C) = some b) (t : TabOk K mg R (tabL n l)) : TabOk K mg R (tabL n ((c, b) :: l)) := by
  refine ⟨fun c' C b' e m => ?_, t.2⟩
  have e' : ((c, b) :: l).lookup c' = some b' := e
  rw [List.lookup_cons] at e'
  cases hc : (c' == c) with
  | true =>
    rw [hc] at e'
    cases e'
    have := beq_iff_eq.mp hc
    subst this
    exact h C m
  | false =>
    rw [hc] at e'
    exact t.1 c' C b' e' m
section
variable {X : Cx} {W : WX} {pos p : Pos}
theorem is_at {tab : ITab} {i : Nat} {σ : L2.St} {H : Hp} {Q : VK} (q : tR (gx X) W (fIsE tab i) σ H Q) : ∃ v S e A, σ[i]? = some (some v) ∧ Cu (gx X) S H σ e A [] ∧ ∃ b, (∀ H' S' A', Cu (gx X) S' H' σ e A' [] → Step S A H S' A' H' → Q (.bl b) H') ∧
    ((∃ a c C, v = .ref a ∧ S a = some (ExQ (.ref C) a) ∧ X.mg c = some (.ref C) ∧ tab (some c) = some b) ∨ v = .non ∧ tab none = some b) := by
  obtain ⟨S, e, A, R, q⟩ := q
  unfold fIsE at q
  have fin : ∀ {b : Bool}, PostE (gx X) W S H σ A Q (.ok (.val (.bool b) 0) e) → ∀ H' S' A', Cu (gx X) S' H' σ e A' [] → Step S A H S' A' H' → Q (.bl b) H' := fun {b} q H' S' A' R' st' => by
    have st2 : Step S A H S' (A' ++ []) H' := by rw [List.append_nil]; exact st'
    exact q (.bl b) H' S' A' [] (R'.one ⟨rfl, .bl b⟩ rfl) st2
  match hi : e[i]?, q with
  | some (some (.ex c)), q =>
    obtain ⟨a, C, e1, h1, h2⟩ := R.slots.exAt (i := i) hi
    cases ht : tab (some c) with
    | none => simp only [ht] at q; exact q.elim
    | some b =>
      simp only [ht] at q
      exact ⟨_, S, e, A, e1, R, b, fin q, .inl ⟨a, c, C, rfl, h1, of_clOf h2, ht⟩⟩
  | some (some (.dt .none 0)), q =>
    obtain ⟨v, f, B, C, e1, e2, o, _⟩ := R.slots.at i hi
    obtain ⟨ef, rp⟩ := o
    cases rp
    match ht : tab none, q with
    | none, q => simp only [ht] at q; exact q.elim
    | some b, q =>
      simp only [ht] at q
      exact ⟨_, S, e, A, e1, R, b, fin q, .inr ⟨rfl, by first | exact ht | rfl⟩⟩
  | some (some (.dt .none (_ + 1))), q => exact q.elim
  | some (some (.dt (.bool _) _)), q => exact q.elim
  | some (some (.dt (.int _) _)), q => exact q.elim
  | some (some (.dt (.str _) _)), q => exact q.elim
  | some (some (.dt (.list _) _)), q => exact q.elim
  | some (some (.dt (.tuple _) _)), q => exact q.elim
  | some (some (.dt (.dict _) _)), q => exact q.elim
  | some (some (.fz _)), q => exact q.elim
  | some none, q => exact q.elim
  | none, q => exact q.elim
theorem ee_isE {y z : Str} {py pz : Pos} {i : Nat} {tab : ITab} {cv : V} {cu : Value} (hg : Gl X "isinstance") (hm : X.mg "isinstance" = none) (hi : PE X (.Name y py) (tVar i)) (hc : PE X (.Name z pz) (tC cv)) (hk : ClsV cv cu) (T : TabOk X.K X.mg (fun t => PySem.W.kitOne X.K t cu) tab)
    (na : starEach [.Name y py, .Name z pz] X.env = (false, eval (.Name y py) X.env) :: starEach [.Name z pz] X.env := by rfl) (nb : starEach [.Name z pz] X.env = (false, eval (.Name z pz) X.env) :: starEach [] X.env := by rfl)
    (hpl : (backTo pos (starEach [.Name z pz] X.env)).any (·.1) = false := by rfl) : EE X W (.Call (.Name "isinstance" p) [.Name y py, .Name z pz] [] pos) (fIsE tab i) :=
  PE.imp (pe_callB call_isX hg hm (by decide +kernel) (pa_cons hi (pa_cons hc pa_nil nb) na) (he := na) (hpl := hpl)) fun σ H Q q => by
    obtain ⟨v, S, e, A, e1, R, b, fin, h⟩ := is_at q
    refine ⟨v, e1, ?_⟩
    have q1 := fin H S A R .refl
    rcases h with ⟨a, c, C, rfl, h1, h2, h3⟩ | ⟨rfl, h3⟩
    · obtain ⟨F, k⟩ := T.1 c C b h3 h2
      exact .inl ⟨a, C, cv, cu, b, rfl, hk, R.sub _ _ h1, F, k, q1⟩
    · exact .inr ⟨.non, cv, _, cu, b, rfl, hk, .base .non, T.2 b h3, q1⟩
theorem cls_nil : PA X [] (fun σ H Q => Q [] H) := pa_nil
def tVs (vs : List V) : TA := fun _ H Q => Q vs H
theorem cls_one : PA X [] (tVs []) := pa_nil
theorem cls_cons {e : Expr} {es : List Expr} {v : V} {vs : List V} (c : PE X e (tC v)) (t : PA X es (tVs vs)) (e2 : starEach (e :: es) X.env = (false, eval e X.env) :: starEach es X.env := by rfl) : PA X (e :: es) (tVs (v :: vs)) :=
  ⟨fun pos pins s σ H Q I q => (pa_cons c t e2).run pos pins s σ H Q I q⟩
theorem ee_isT {y : Str} {py pt : Pos} {x1} {es : List Expr} {i : Nat} {tab : ITab} {cs : List V} {us : List Value} (hg : Gl X "isinstance") (hm : X.mg "isinstance" = none) (hi : PE X (.Name y py) (tVar i)) (hc : PA X es (tVs cs)) (hz : cs.length ≤ 1000) (hk : Paired ClsV cs us) (T : TabOk X.K X.mg (fun t => PySem.W.kitAny X.K t us) tab)
    (na : starEach [.Name y py, .Tuple es x1 pt] X.env = (false, eval (.Name y py) X.env) :: starEach [.Tuple es x1 pt] X.env := by rfl) (nb : starEach [.Tuple es x1 pt] X.env = (false, eval (.Tuple es x1 pt) X.env) :: starEach [] X.env := by rfl)
    (hpl : (backTo pos (starEach [.Tuple es x1 pt] X.env)).any (·.1) = false := by rfl) : EE X W (.Call (.Name "isinstance" p) [.Name y py, .Tuple es x1 pt] [] pos) (fIsE tab i) :=
  PE.imp (pe_callB call_isXT hg hm (by decide +kernel) (pa_cons hi (pa_cons (pe_tup hc) pa_nil nb) na) (he := na) (hpl := hpl)) fun σ H Q q => by
    obtain ⟨v, S, e, A, e1, R, b, fin, h⟩ := is_at q
    refine ⟨v, e1, small_line hz, fun tp hp => ?_⟩
    have sm : Same H (upd H tp (.tup cs)) := fun b o z => by rw [upd_ne (ne_of_none z hp)]; exact z
    have q1 := fin (upd H tp (.tup cs)) S A ⟨R.sub.trans sm, R.nod, R.off, R.slots.keep (Same.refl S) fun b _ o z => sm b o z, fun t ht => nomatch ht⟩ (by
      refine ⟨fun b o z _ => sm b o z, fun b z => ?_, Same.refl S, fun b o z => .inl z, fun b z => .inl z⟩
      cases y : H b with
      | none => exact absurd y z
      | some u => rw [sm b u y]; exact fun w => nomatch w)
    rcases h with ⟨a, c, C, rfl, h1, h2, h3⟩ | ⟨rfl, h3⟩
    · obtain ⟨F, k⟩ := T.1 c C b h3 h2
      exact .inl ⟨a, C, tp, cs, us, b, rfl, upd_same, hk, sm _ _ (R.sub _ _ h1), F, k, q1⟩
    · exact .inr ⟨.non, tp, cs, _, us, b, rfl, upd_same, hk, .base .non, T.2 b h3, q1⟩

/-! ### a slot is None -/
def fIsNV (i : Nat) (e : Ev) : Res RV := match e[i]? with
  | some (some (.ex _)) => .ok (.val (.bool false) 0) e
  | some (some (.dt d 0)) => .ok (.val (.bool (isNone d)) 0) e
  | _ => .no
theorem isnv_ok {i : Nat} {σ : L2.St} {H : Hp} {Q : VK} (q : tR (gx X) W (fIsNV i) σ H Q) : tOp (fun x y H Q => y = .non ∧ Q (.bl (decide (x = .non))) H) (tVar i) (tC .non) σ H Q := by
  obtain ⟨S, e, A, R, q⟩ := q
  unfold fIsNV at q
  match hi : e[i]?, q with
  | some (some (.ex c)), q =>
    obtain ⟨a, C, e1, h1, h2⟩ := R.slots.exAt (i := i) hi
    exact ⟨.ref a, e1, rfl, q (.bl false) H S A [] (R.one ⟨rfl, .bl _⟩ rfl) .refl0⟩
  | some (some (.dt d 0)), q =>
    obtain ⟨v, f, B, C, e1, e2, o, _⟩ := R.slots.at i hi
    obtain ⟨ef, rp⟩ := o
    refine ⟨v, e1, rfl, ?_⟩
    have hv : decide (v = V.non) = isNone d := by cases rp <;> simp [isNone]
    rw [hv]
    exact q (.bl _) H S A [] (R.one ⟨rfl, .bl _⟩ rfl) .refl0
  | some (some (.dt d (_ + 1))), q => exact q.elim
  | some (some (.fz _)), q => exact q.elim
  | some none, q => exact q.elim
  | none, q => exact q.elim
theorem ee_isNV {y : Str} {py pn : Pos} {j} {i : Nat} (hi : PE X (.Name y py) (tVar i)) : EE X W (.Compare (.Name y py) [.Is] [.Constant .none j pn] pos) (fIsNV i) :=
  PE.imp (pe_cmpR op_isN hi pe_non (nomark _)) fun σ H Q q => isnv_ok q
theorem et_isNV {y : Str} {py pn : Pos} {j} {i : Nat} (hi : PE X (.Name y py) (tVar i)) : ET X W (.Compare (.Name y py) [.Is] [.Constant .none j pn] pos) (fIsNV i) :=
  PT.imp (pt_cmpR op_isN hi pe_non (nomark _)) fun σ H Q q => isnv_ok (tT_tB q)
end
end PV

/-! PVV14: what raises (Ex, Exs), try, isinstance of a caught exception: stepwise, no program in sight. -/
namespace PV
open PySem PySem.Spec PyProof.Rows L2
def Ex {α : Type} (f : Ev → Res α) (e : Ev) (c : Str) (P : Ev → Prop) : Prop := ∃ e', f e = .exc c e' ∧ P e'
def Exs (f : Ev → SRes) (e : Ev) (c : Str) (P : Ev → Prop) : Prop := ∃ e', f e = .exc c e' ∧ P e'
section
variable {e : Ev} {c : Str} {P : Ev → Prop} {f g : Ev → SRes} {fa fb fc : Ev → Res RV} {fs : List (Ev → Res RV)} {N : Ev → Prop} {R : PyData → Nat → Ev → Prop} {B C : Ev → Prop} {Q : RV → Ev → Prop}
theorem exs_raise (h : P e) : Exs (fRaise c) e c P := ⟨e, rfl, h⟩
theorem exs_toS {k : RV → Ev → SRes} (h : Ex fa e c P) : Exs (fun e => (fa e).toS k) e c P := by
  obtain ⟨e1, h1, h2⟩ := h
  exact ⟨e1, by show (fa e).toS k = _; rw [h1]; rfl, h2⟩
theorem exs_drop (h : Ex fa e c P) : Exs (fDrop fa) e c P := exs_toS h
theorem exs_ret (h : Ex fa e c P) : Exs (fRet fa) e c P := exs_toS h
theorem exs_set {i : Nat} (h : Ex fa e c P) : Exs (fSet i fa) e c P := exs_toS h
theorem exs_seq1 (h : Exs f e c P) : Exs (fSeq f g) e c P := by
  obtain ⟨e1, h1, h2⟩ := h
  exact ⟨e1, by show (f e).bind g = _; rw [h1]; rfl, h2⟩
theorem exs_seq2 (h : Ru f e (fun e1 => Exs g e1 c P) (fun _ _ _ => False) nope nope) : Exs (fSeq f g) e c P := by
  have h := h.ok
  unfold RuM at h
  cases q : f e with
  | nx e1 =>
    simp only [q] at h
    obtain ⟨e2, h1, h2⟩ := h
    exact ⟨e2, by show (f e).bind g = _; rw [q]; exact h1, h2⟩
  | rt d n e1 => simp only [q] at h
  | bk e1 => simp only [q] at h; exact h.elim
  | ct e1 => simp only [q] at h; exact h.elim
  | exc c e1 => simp only [q] at h
  | no => simp only [q] at h
theorem exs_if (h : Tb fc e fun b e1 => (b = true → Exs f e1 c P) ∧ (b = false → Exs g e1 c P)) : Exs (fIf fc f g) e c P := by
  obtain ⟨r, e1, h1, b, n, rfl, h2, h3⟩ := h
  cases b with
  | true =>
    obtain ⟨e2, h4, q⟩ := h2 rfl
    exact ⟨e2, by unfold fIf; rw [h1]; exact h4, q⟩
  | false =>
    obtain ⟨e2, h4, q⟩ := h3 rfl
    exact ⟨e2, by unfold fIf; rw [h1]; exact h4, q⟩
theorem ex_call {np : Nat} {F : Den} (h : OkA fs e fun rs e1 => ∃ as e2, settleV rs e1 = some (as, e2) ∧ as.length = np ∧ F as = .exc c ∧ P e2) : Ex (fCall np F fs) e c P := by
  obtain ⟨rs, e1, h1, as, e2, h2, h3, h4, q⟩ := h
  exact ⟨e2, by unfold fCall; rw [h1]; show callK np F rs e1 = _; unfold callK; rw [h2]; simp only; rw [if_pos h3, h4], q⟩
theorem ex_menu {np : Nat} {Fs : List Den} (h : Ok fa e fun r e1 => ∃ k n F, r = .val (.int k) n ∧ atI Fs k = some F ∧ OkA fs e1 fun rs e2 => ∃ as e3, settleV rs e2 = some (as, e3) ∧ as.length = np ∧ F as = .exc c ∧ P e3) : Ex (fMenu np Fs fa fs) e c P := by
  obtain ⟨r, e1, h1, k, n, F, rfl, hk, rs, e2, h2, as, e3, h3, h4, h5, q⟩ := h
  exact ⟨e3, by unfold fMenu; rw [h1]; show (match atI Fs k with | some F => _ | none => _) = _; rw [hk]; show (fArgs fs e1).bind _ = _; rw [h2]; show callK np F rs e2 = _; unfold callK; rw [h3]; simp only; rw [if_pos h4, h5], q⟩
theorem cx_run {io : Bool} {M : Nat} {fb : Ev → SRes} {as : List Vl} {e0 : Ev} (he : as.map some ++ List.replicate (M - as.length) none = e0) (h : Exs fb e0 c fun _ => True) : runDef io M fb as = .exc c := by
  subst he
  obtain ⟨e1, h1, _⟩ := h
  unfold runDef
  rw [h1]
/-! ### try -/
theorem ru_try1 {ks : List Str} {i ci : Nat} (h : Ru f e N R B C) : Ru (fTry ks f i ci) e N R B C := by
  have h := h.ok
  refine ⟨?_⟩
  unfold RuM at h ⊢
  unfold fTry
  cases q : f e with
  | exc c e1 => simp only [q] at h
  | no => simp only [q] at h
  | nx e1 => simp only [q] at h ⊢; exact h
  | rt d n e1 => simp only [q] at h ⊢; exact h
  | bk e1 => simp only [q] at h ⊢; exact h
  | ct e1 => simp only [q] at h ⊢; exact h
theorem ru_try2 {ks : List Str} {i ci : Nat} (h : Exs f e c fun e1 => N ((e1.set i none).set ci (some (.ex c)))) (hc : c ∈ ks) : Ru (fTry ks f i ci) e N R B C := by
  obtain ⟨e1, h1, h2⟩ := h
  refine ⟨?_⟩
  unfold RuM fTry
  simp only [h1, if_pos hc]
  exact h2
theorem ok_isE {tab : ITab} {i : Nat} {b : Bool} (h1 : e[i]? = some (some (.ex c))) (h2 : tab (some c) = some b) (q : Q (.val (.bool b) 0) e) : Ok (fIsE tab i) e Q := ⟨_, _, by unfold fIsE; simp only [h1, h2], q⟩
theorem ok_isE0 {tab : ITab} {i : Nat} {b : Bool} (h1 : e[i]? = some (some (.dt .none 0))) (h2 : tab none = some b) (q : Q (.val (.bool b) 0) e) : Ok (fIsE tab i) e Q := ⟨_, _, by unfold fIsE; simp only [h1, h2], q⟩
theorem ok_nvX {i : Nat} (h1 : e[i]? = some (some (.ex c))) (q : Q (.val (.bool false) 0) e) : Ok (fIsNV i) e Q := ⟨_, _, by unfold fIsNV; simp only [h1], q⟩
theorem ok_nvD {i : Nat} {d : PyData} (h1 : e[i]? = some (some (.dt d 0))) (q : Q (.val (.bool (isNone d)) 0) e) : Ok (fIsNV i) e Q := ⟨_, _, by unfold fIsNV; simp only [h1], q⟩
theorem ok_vX {i : Nat} (hi : e[i]? = some (some (.ex c))) (h : Q (.ex c) e) : Ok (fVar i) e Q := ⟨_, _, by unfold fVar; rw [hi], h⟩
end
end PV

/-! PVV16: count of a truth in a list of truths. -/
namespace PV
open PySem PySem.Spec PyProof.Rows L2
def eqb (b : Bool) (v : Value) : Bool := match v with
  | .bool a => a == b
  | _ => false
theorem bools_of_vals : ∀ {bs : List Bool} {us : List Value}, Vals (bs.map V.bl) us → us = bs.map Value.bool
  | [], us, r => by
    rw [List.map_nil] at r
    cases r
    rfl
  | b :: bs, us, r => by
    rw [List.map_cons] at r
    cases r with
    | cons h t =>
      cases h
      rw [List.map_cons, ← bools_of_vals t]
theorem eqb_count (b : Bool) : ∀ bs : List Bool, (bs.map Value.bool).countP (eqb b) = bs.count b
  | [] => rfl
  | a :: bs => by
    rw [List.map_cons, List.countP_cons, List.count_cons, eqb_count b bs]
    rfl
def rCntB (K : PySem.W.Frag) : V → List V → Hp → VK → Prop := fun x xs H Q => ∃ (p : Addr) (bs : List Bool) (b : Bool), x = .ref p ∧ xs = [.bl b] ∧ SqL K H p (bs.map V.bl) ∧ Q (.int (bs.count b : Nat)) H
theorem mt_countB {X : Cx} : MtR X "list.count" (rCntB X.K) := by
  intro pins s σ H x xs v ws Q I rx rxs h
  obtain ⟨p, bs, b, rfl, rfl, hs, q⟩ := h
  cases rx
  rcases rxs.one with ⟨u, rfl, ru⟩
  cases (show u = Value.bool b from ru)
  rcases I.list hs with ⟨its, rv, ⟨⟨cls, dd, data, sl⟩, n, ho, hc, hdn, hd⟩, hlen⟩
  simp only at hc hd
  subst hc hd
  have hi := bools_of_vals rv
  subst hi
  refine call_meets PySem.F.slot_list_count ⟨_, ho, rfl⟩ PySem.F.entry_list_count (PySem.F.args_list_count_2 _ _) (SeqAt.list_countAt p (bs.map Value.bool).toArray n dd sl (.bool b) (eqb b)) ⟨ho, fun y hy => ?_, ?_⟩
  · obtain ⟨a, _, rfl⟩ := List.mem_map.mp (show y ∈ bs.map Value.bool by simpa using hy)
    exact SeqAt.EqAt.bool_bool a b
  · refine ⟨.int (bs.count b : Nat), H, I.tok _, ⟨s.toks, ?_⟩, q⟩
    show Value.int (((bs.map Value.bool).countP (eqb b) : Nat) : Int) s.toks = Value.int ((bs.count b : Nat) : Int) s.toks
    rw [eqb_count]
def boolsOf : List PyData → Option (List Bool)
  | [] => some []
  | .bool b :: r => (boolsOf r).map (b :: ·)
  | _ => none
def oCountB : Op := fun ds => match ds with
  | [.list xs, .bool b] => (boolsOf xs).map fun bs => (.int ((bs.count b : Nat) : Int), 0)
  | _ => none
theorem bools_rp {K : PySem.W.Frag} {S : Hp} : ∀ {vs : List V} {ds : List PyData} {bs : List Bool}, RpL K S vs ds → boolsOf ds = some bs → vs = bs.map V.bl
  | _, _, bs, .nil, h => by cases h; rfl
  | _, _, bs, .cons (d := d) (ds := ds) a b, h => by
    cases d with
    | bool x =>
      have h' : (boolsOf ds).map (x :: ·) = some bs := h
      cases q : boolsOf ds with
      | none => rw [q] at h'; cases h'
      | some r =>
        rw [q] at h'
        cases h'
        cases a
        rw [List.map_cons, bools_rp b q]
    | _ => cases h
theorem p_countB {K : PySem.W.Frag} : Prim K (fun vs H Q => ∀ x xs, vs = x :: xs → rCntB K x xs H Q) oCountB := fun vs ds S H Q r m rp sb e q x xs ev => by
  unfold oCountB at e
  split at e
  · rename_i zs b
    cases r2 : boolsOf zs with
    | none => rw [r2] at e; cases e
    | some bs =>
      rw [r2] at e
      cases e
      obtain ⟨v1, v2, rfl, h1, h2⟩ := rp_two' rp
      cases ev
      cases h2
      cases h1 with
      | lst z1 z2 =>
        have ez := bools_rp z2 r2
        subst ez
        exact ⟨_, bs, b, rfl, rfl, .inl (.inl (sb _ _ z1)), q _ _ _ _ (Made.refl sb) ⟨rfl, .int _⟩⟩
  · cases e
end PV

/-! PVV12: list comprehensions whose items are owned. -/
namespace PV
open PySem PySem.Spec PyProof.Rows L2
def loopW (n : Nat) (ft : Tgt) (fe : Ev → Res RV) (own : List Nat) : List PyData → List PyData → Ev → Res (List PyData)
  | [], acc, e => .ok acc e
  | d :: ds, acc, e => match wipeE e own with
    | none => .no
    | some e0 => match ft d e0 with
      | none => .no
      | some e1 => match fe e1 with
        | .ok (.val y m) e2 => if m = n then loopW n ft fe own ds (acc ++ [y]) e2 else .no
        | _ => .no
def fLcW (n : Nat) (fi : Ev → Res (List PyData)) (ft : Tgt) (fe : Ev → Res RV) (own : List Nat) (e : Ev) : Res RV := (fi e).bind fun ds e1 =>
  if ds.length ≤ most then (match wipeE e1 own with
    | none => .no
    | some _ => match loopW n ft fe own ds [] e1 with
      | .ok acc e3 => .ok (.val (.list acc) (n + 1)) (unwipe e1 e3 own)
      | _ => .no)
  else .no
section
variable {G : Gx} {W : WX} {S S2 H H2 S0 H0 : Hp} {σ σ2 : L2.St} {e e2 : Ev} {A A2 A0 : List Addr} {us : List Tmp}
theorem OwL.snoc {F : V → PyData → List Addr → Prop} : ∀ {vs : List V} {ds : List PyData} {f g : List Addr} {v : V} {d : PyData}, OwL F vs ds f → F v d g → OwL F (vs ++ [v]) (ds ++ [d]) (f ++ g)
  | _, _, _, g, v, d, .nil, h => by
    have := OwL.cons (f := g) h .nil
    rw [List.append_nil] at this
    exact this
  | _, _, _, g, v, d, .cons a b, h => by
    have := OwL.cons a (OwL.snoc b h)
    rw [← List.append_assoc] at this
    exact this
theorem Own.lst {K : PySem.W.Frag} {n : Nat} {D : Addr} {acc : List PyData} {f : List Addr} (h : Own K S H (n + 1) (.ref D) (.list acc) f) : ∃ vs g, H D = some (.lst vs) ∧ f = D :: g ∧ OwL (Own K S H n) vs acc g := by
  rcases h with ⟨a, vs, ds, g, e1, e2, h1, e3, o⟩ | ⟨_, _, _, _, _, q, _⟩ | ⟨_, _, _, _, q, _⟩ | ⟨q, _, _⟩
  · cases e1
    cases e2
    exact ⟨vs, g, h1, e3, o⟩
  · cases q
  · cases q
  · cases q
/-- an owned value that waits while something else runs, the slots may change -/
theorem Cu.join {d : PyData} {n : Nat} {v : V} {f : List Addr} (R : Cu G S H σ e A [⟨.val d n, v, f⟩]) (R2 : Cu G S2 H2 σ2 e2 A2 us) (st : Step S A H S2 (A2 ++ fps us) H2) :
    Cu G S2 H2 σ2 e2 A2 (⟨.val d n, v, f⟩ :: us) ∧ Step S (A ++ f) H S2 (A2 ++ (f ++ fps us)) H2 := by
  obtain ⟨n1, n2, n3⟩ := nodup_app.mp R.nod
  rw [fps_one] at n2 n3
  obtain ⟨m1, m2, m3⟩ := nodup_app.mp R2.nod
  have tk : ∀ a ∈ f, H a ≠ none := fun a ha => R.trk (List.mem_append_right _ (by rw [fps_one]; exact ha))
  have hA : ∀ a ∈ f, a ∉ A := fun a ha z => n3 a z ha
  have hN : ∀ a ∈ f, a ∉ A2 ++ fps us := fun a ha z => (st.own a z).elim (hA a ha) (tk a ha)
  have hO : ∀ a ∈ f, S2 a = none := fun a ha => by
    cases z : S2 a with
    | none => rfl
    | some o =>
      rcases st.subF a o z with q | q | q
      · rw [R.off a (List.mem_append_right _ (by rw [fps_one]; exact ha))] at q; cases q
      · exact absurd q (tk a ha)
      · exact absurd q (hA a ha)
  have ef : fps (⟨.val d n, v, f⟩ :: us) = f ++ fps us := rfl
  refine ⟨⟨R2.sub, ?_, fun a ha => ?_, R2.slots, fun t ht => ?_⟩, ⟨fun b o q z => st.frame b o q fun w => z (List.mem_append_left _ w), st.grow, st.sub, fun b o q => (st.subF b o q).imp id (.imp id fun z => List.mem_append_left _ z), fun a ha => ?_⟩⟩
  · rw [ef]
    refine nodup_app.mpr ⟨m1, nodup_app.mpr ⟨n2, m2, fun a ha z => hN a ha (List.mem_append_right _ z)⟩, fun a ha z => ?_⟩
    rcases List.mem_append.mp z with w | w
    · exact hN a w (List.mem_append_left _ ha)
    · exact m3 a ha w
  · rw [ef] at ha
    rcases List.mem_append.mp ha with z | z
    · exact R2.off a (List.mem_append_left _ z)
    · rcases List.mem_append.mp z with w | w
      · exact hO a w
      · exact R2.off a (List.mem_append_right _ w)
  · rcases List.mem_cons.mp ht with z | z
    · rw [z]
      have h : Own G.K S H n v d f := R.tmps _ (List.mem_singleton.mpr rfl)
      exact Own.keep st.sub h fun b hb o q => st.frame b o q (hA b hb)
    · have h := R2.tmps t z
      exact h
  · rcases List.mem_append.mp ha with z | z
    · exact (st.own a (List.mem_append_left _ z)).imp (fun w => List.mem_append_left _ w) id
    · rcases List.mem_append.mp z with w | w
      · exact .inl (List.mem_append_right _ w)
      · exact (st.own a (List.mem_append_right _ w)).imp (fun w => List.mem_append_left _ w) id
theorem Cu.push {acc : List PyData} {y : PyData} {n : Nat} {v : V} {D : Addr} {f g : List Addr} {vs : List V} (R : Cu G S H σ e A [⟨.val (.list acc) (n + 1), .ref D, f⟩, ⟨.val y n, v, g⟩]) (hD : H D = some (.lst vs)) :
    Cu G S (upd H D (.lst (vs ++ [v]))) σ e A [⟨.val (.list (acc ++ [y])) (n + 1), .ref D, f ++ g⟩] ∧ D ∈ f := by
  have h1 : Own G.K S H (n + 1) (.ref D) (.list acc) f := R.tmps ⟨.val (.list acc) (n + 1), .ref D, f⟩ List.mem_cons_self
  have h2 : Own G.K S H n v y g := R.tmps ⟨.val y n, v, g⟩ (List.mem_cons_of_mem _ List.mem_cons_self)
  obtain ⟨vs', f', e1, rfl, o⟩ := h1.lst
  rw [hD] at e1
  cases e1
  have ef : fps [⟨.val (.list acc) (n + 1), .ref D, D :: f'⟩, ⟨.val y n, v, g⟩] = (D :: f') ++ g := by simp [fps]
  have nd := R.nod
  rw [ef] at nd
  obtain ⟨n1, n2, n3⟩ := nodup_app.mp nd
  have DA : D ∉ A := fun z => n3 D z (by simp)
  have DS : S D = none := R.off D (List.mem_append_right _ (by rw [ef]; simp))
  obtain ⟨k1, k2⟩ := List.nodup_cons.mp (show (D :: (f' ++ g)).Nodup from n2)
  have kp : ∀ b ∈ f' ++ g, ∀ o, H b = some o → upd H D (.lst (vs ++ [v])) b = some o := fun b hb o z => by
    have : b ≠ D := fun w => k1 (w ▸ hb)
    rw [upd_ne this]; exact z
  refine ⟨⟨fun b u z => ?_, ?_, fun a ha => ?_, R.slots.keep (Same.refl S) fun b hb u z => ?_, fun t ht => ?_⟩, List.mem_cons_self⟩
  · have hb : b ≠ D := fun w => by rw [w, DS] at z; cases z
    rw [upd_ne hb]; exact R.sub b u z
  · rw [fps_one]; exact nd
  · rw [fps_one] at ha
    exact R.off a (by rw [ef]; exact ha)
  · have hb' : b ≠ D := fun w => DA (w ▸ hb)
    rw [upd_ne hb']; exact z
  · rw [List.mem_singleton] at ht
    subst ht
    refine .inl ⟨D, vs ++ [v], acc ++ [y], f' ++ g, rfl, rfl, upd_same, rfl, ?_⟩
    refine OwL.snoc (o.imp fun w d h hh z => Own.keep (Same.refl S) z fun b hb o q => kp b (List.mem_append_left _ (hh b hb)) o q) ?_
    exact Own.keep (Same.refl S) h2 fun b hb o q => kp b (List.mem_append_right _ hb) o q

/-- between two turns -/
structure BtW (G : Gx) (σ : L2.St) (own : List Nat) (S1 : Hp) (A1 : List Addr) (H1 : Hp) (D : Addr) (n : Nat) (Z : Res (List PyData) → Prop) (ft : Tgt) (fe : Ev → Res RV) (ds : List PyData) (i : Nat) (H : Hp) : Prop where
  ex : ∃ S e A σ2 f acc, wipe σ2 own = wipe σ own ∧ σ2.length = σ.length ∧ Cu G S H σ2 e A [⟨.val (.list acc) (n + 1), .ref D, f⟩] ∧ acc.length ≤ i ∧ Same S1 S ∧ Step S1 (A1 ++ [D]) H1 S (A ++ f) H ∧ Z (loopW n ft fe own (ds.drop i) acc e)
theorem lw_turns {D : Addr} {J : It} {own : List Nat} {S1 : Hp} {A1 : List Addr} {H1 : Hp} {n : Nat} {Z : Res (List PyData) → Prop} {ft : Tgt} {fe : Ev → Res RV} {ds : List PyData} {Q : VK}
    (hv : ∀ v ∈ own, v < σ.length) (hn : ¬ Z .no) (hz : ds.length ≤ most) (it : ItOk G.K J S1 ds)
    (hQ : ∀ S e A σ2 f acc H, wipe σ2 own = wipe σ own → σ2.length = σ.length → Cu G S H σ2 e A [⟨.val (.list acc) (n + 1), .ref D, f⟩] → Same S1 S → Step S1 (A1 ++ [D]) H1 S (A ++ f) H → Z (.ok acc e) → Q (.ref D) H) :
    ∀ i m H, (m = ds.length - i ∧ BtW G σ own S1 A1 H1 D n Z ft fe ds i H) →
      (J.stop i H ∧ Q (.ref D) H) ∨ (J.go i H ∧ ∃ Nx : Hp → Prop, (∀ H', Nx H' → ∃ m', m' < m ∧ (m' = ds.length - (i + 1) ∧ BtW G σ own S1 A1 H1 D n Z ft fe ds (i + 1) H')) ∧ ∀ x H', J.yld i H x H' → tG G (notIn own) ft x (wipe σ own) H' fun σ2 H2 => wipe σ2 own = wipe σ own ∧ tT G wF fYes σ2 H2 fun b H3 =>
        if b = true then tR G wF fe σ2 H3 fun y H4 => ∃ acc, H4 D = some (.lst acc) ∧ acc.length < sizeLine ∧ Nx (upd H4 D (.lst (acc ++ [y]))) else Nx H3) := by
  rintro i m H ⟨rfl, ⟨S, e, A, σ2, f, acc, ew, el, R, ha, ss, st, hZ⟩⟩
  obtain ⟨go, stop⟩ := it i S H ss R.sub
  by_cases hi : ds.length ≤ i
  · refine .inl ⟨stop hi, ?_⟩
    rw [List.drop_eq_nil_of_le hi] at hZ
    exact hQ S e A σ2 f acc H ew el R ss st hZ
  · have hi' : i < ds.length := by omega
    obtain ⟨g1, g2⟩ := go _ (List.getElem?_eq_getElem hi')
    refine .inr ⟨g1, fun H' => BtW G σ own S1 A1 H1 D n Z ft fe ds (i + 1) H', fun H' hN => ⟨ds.length - (i + 1), by omega, rfl, hN⟩, fun x H' hy => ?_⟩
    obtain ⟨S2, M, rx⟩ := g2 x H' hy
    obtain ⟨R2, st2⟩ := M.cu (f := []) R.base
    rw [List.drop_eq_getElem_cons hi', loopW] at hZ
    cases zw : wipeE e own with
    | none => rw [zw] at hZ; exact absurd hZ hn
    | some e0 =>
      rw [zw] at hZ
      obtain ⟨A3, R3, s3⟩ := wipe_cu R2 zw (fun v h => by rw [el]; exact hv v h)
      rw [ew] at R3
      refine ⟨S2, e0, A3, ds[i], R3, rx, ?_⟩
      simp only at hZ
      cases zt : ft ds[i] e0 with
      | none => rw [zt] at hZ; exact absurd hZ hn
      | some e1 =>
        rw [zt] at hZ
        simp only at hZ
        intro σ3 S3 A4 R4 st4 pn
        have el3 : σ3.length = σ.length := by rw [pn.1, wipe_length]
        have ew3 : wipe σ3 own = wipe σ own := by
          have := wipe_eq (σ2 := σ3) (σ := wipe σ own) (vs := own) pn.1 fun j hj => pn.2 j (notIn_of hj)
          rw [this]
          exact wipe_eq (by rw [wipe_length]) fun j hj => wipe_at hj
        refine ⟨ew3, ?_⟩
        have stA : Step S A H S3 A4 H' := (st2.trans (Step.refl.less s3)).trans st4
        refine ⟨S3, e1, A4, R4, ?_⟩
        intro H5 S5 A5 R5 st5
        rw [if_pos rfl]
        refine ⟨S5, e1, A5, R5, ?_⟩
        cases qe : fe e1 with
        | no => rw [qe] at hZ; exact absurd hZ hn
        | exc c e3 => rw [qe] at hZ; exact absurd hZ hn
        | ok r e3 =>
          rw [qe] at hZ
          cases r with
          | bor j => exact absurd hZ hn
          | ex c => exact absurd hZ hn
          | val yd k =>
            by_cases hk : k = n
            · subst hk
              simp only [if_pos] at hZ
              intro y H6 S6 A6 g R6 st6
              have q6 : Step S A H S6 (A6 ++ fps [⟨.val yd k, y, g⟩]) H6 := by rw [fps_one]; exact (stA.trans st5).trans st6
              obtain ⟨R7, st7⟩ := R.join R6 q6
              have h1 : Own G.K S6 H6 (k + 1) (.ref D) (.list acc) f := R7.tmps ⟨.val (.list acc) (k + 1), .ref D, f⟩ List.mem_cons_self
              obtain ⟨vs, f', hD, ef, o⟩ := h1.lst
              obtain ⟨R8, hDf⟩ := R7.push hD
              have hl : vs.length < sizeLine := by
                rw [o.length]
                have h1 : acc.length < most := by omega
                have h2 : most ≤ sizeLine := by rw [sizeLine_eq]; decide
                omega
              refine ⟨vs, hD, hl, ⟨S6, e3, A6, σ3, f ++ g, acc ++ [yd], ew3, el3, R8, by rw [List.length_append, List.length_singleton]; omega, ss.trans q6.sub, ?_, hZ⟩⟩
              rw [fps_one] at st7
              refine (st.trans st7).trans ⟨fun b u z w => ?_, fun b z => ?_, Same.refl _, fun b u z => .inl z, fun b z => .inl z⟩
              · have hb : b ≠ D := fun q => w (List.mem_append_right _ (List.mem_append_left _ (q ▸ hDf)))
                rw [upd_ne hb]; exact z
              · by_cases hb : b = D
                · subst hb; rw [upd_same]; exact fun w => nomatch w
                · rw [upd_ne hb]; exact z
            · simp only [if_neg hk] at hZ
              exact absurd hZ hn
theorem lw_ok {n : Nat} {Q : VK} {fi : Ev → Res (List PyData)} {ft : Tgt} {fe : Ev → Res RV} {own : List Nat} (hv : ∀ v ∈ own, v < σ.length) (h : tR G W (fLcW n fi ft fe own) σ H Q) :
    tLc (tI G W fi) (tG G (notIn own) ft) (tT G wF fYes) (tR G wF fe) own σ H Q := by
  obtain ⟨S, e, A, C, h⟩ := h
  refine ⟨S, e, A, C, ?_⟩
  cases q : fi e with
  | no => simp only [fLcW, q, Res.bind] at h; exact h
  | exc c e1 => simp only [fLcW, q, Res.bind] at h; exact h
  | ok ds e1 =>
    simp only [fLcW, q, Res.bind] at h
    by_cases hz : ds.length ≤ most
    · rw [if_pos hz] at h
      cases zw : wipeE e1 own with
      | none => rw [zw] at h; exact h.elim
      | some e0 =>
        rw [zw] at h
        simp only at h
        intro J H1 S1 A1 R1 st1 it D hD
        have hSD : S1 D = none := by
          cases z : S1 D with
          | none => rfl
          | some o => rw [R1.sub D o z] at hD; cases hD
        have hDA : D ∉ A1 := fun z => R1.trk (mem_nil.mpr z) hD
        have sm : Same H1 (upd H1 D (.lst [])) := fun b o z => by rw [upd_ne (ne_of_none z hD)]; exact z
        let Z : Res (List PyData) → Prop := fun r => PostE G W S H σ A Q (match r with | .ok acc e3 => .ok (.val (.list acc) (n + 1)) (unwipe e1 e3 own) | _ => .no)
        have R0 : Cu G S1 (upd H1 D (.lst [])) σ e1 A1 [⟨.val (.list []) (n + 1), .ref D, [D]⟩] := by
          have b := R1.poke (o := .lst []) hSD hDA
          have n1 := nodup_nil.mp R1.nod
          refine ⟨b.sub, ?_, fun a ha => ?_, b.slots, fun t ht => ?_⟩
          · rw [fps_one]
            refine nodup_app.mpr ⟨n1, List.nodup_cons.mpr ⟨List.not_mem_nil, List.nodup_nil⟩, fun a ha z => ?_⟩
            rw [List.mem_singleton] at z
            exact hDA (z ▸ ha)
          · rw [fps_one] at ha
            rcases List.mem_append.mp ha with z | z
            · exact R1.off a (mem_nil.mpr z)
            · rw [List.mem_singleton] at z
              rw [z]; exact hSD
          · rw [List.mem_singleton] at ht
            subst ht
            exact .inl ⟨D, [], [], [], rfl, rfl, upd_same, rfl, .nil⟩
        have T := lw_turns (G := G) (σ := σ) (D := D) (J := J) (own := own) (S1 := S1) (A1 := A1) (H1 := upd H1 D (.lst [])) (n := n) (Z := Z) (ft := ft) (fe := fe) (ds := ds) (Q := Q) hv (fun z => z) hz it
          (fun S2 e2 A2 σ2 f acc H2 ew el R2 ss st2 hZ => ?_)
        · refine ⟨fun i m H' => m = ds.length - i ∧ BtW G σ own S1 A1 (upd H1 D (.lst [])) D n Z ft fe ds i H', ⟨ds.length, by simp, ⟨S1, e1, A1, σ, [D], [], rfl, rfl, R0, Nat.zero_le _, Same.refl S1, Step.refl, ?_⟩⟩, T⟩
          rw [List.drop_zero]
          exact h
        · have hZ' : PostE G W S H σ A Q (.ok (.val (.list acc) (n + 1)) (unwipe e1 e2 own)) := hZ
          obtain ⟨A3, R3, s3⟩ := back_cu (vs := own) R1 (wipeE_lv zw) hv el ss R2.base
          rw [back_eq el ew hv] at R3
          obtain ⟨R4, st4⟩ := R2.join R3 (by show Step S2 A2 H2 S2 (A3 ++ []) H2; rw [List.append_nil]; exact Step.refl.less s3)
          have st5 : Step S2 (A2 ++ f) H2 S2 (A3 ++ f) H2 := by
            have z : Step S2 (A2 ++ f) H2 S2 (A3 ++ (f ++ [])) H2 := st4
            rw [List.append_nil] at z
            exact z
          have q := st2.trans st5
          refine hZ' (.ref D) H2 S2 A3 f R4 (st1.trans ⟨fun b o z w => ?_, fun b z => ?_, q.sub, fun b o z => ?_, fun a ha => ?_⟩)
          · have hb : b ≠ D := ne_of_none z hD
            refine q.frame b o (sm b o z) fun y => ?_
            rcases List.mem_append.mp y with y | y
            · exact w y
            · rw [List.mem_singleton] at y; exact hb y
          · refine q.grow b ?_
            cases y : H1 b with
            | none => exact absurd y z
            | some u => rw [sm b u y]; exact fun w => nomatch w
          · rcases q.subF b o z with y | y | y
            · exact .inl y
            · refine .inr (.inl ?_)
              cases w : H1 b with
              | none => rfl
              | some u => rw [sm b u w] at y; cases y
            · rcases List.mem_append.mp y with w | w
              · exact .inr (.inr w)
              · rw [List.mem_singleton] at w
                rw [w]; exact .inr (.inl hD)
          · rcases q.own a ha with y | y
            · rcases List.mem_append.mp y with w | w
              · exact .inl w
              · rw [List.mem_singleton] at w
                rw [w]; exact .inr hD
            · refine .inr ?_
              cases w : H1 a with
              | none => rfl
              | some u => rw [sm a u w] at y; cases y
    · rw [if_neg hz] at h; exact h.elim
end
section
variable {X : Cx} {W : WX} {pos : Pos} {elt tg iter : Expr} {scope : Scope} {own : List (Str × Nat)} {fi : Ev → Res (List PyData)} {ft : Tgt} {fe : Ev → Res RV}
theorem ee_lcW (n : Nat) (hc : X.calm = true) (hN : X.N.Nodup) (hi : EI X W tg iter fi) (ok : BlkOk X.N X.env.scope scope own)
    (hg : ∀ (s : Shared) (H : Hp) (C : Addr) (cl : List (Str × Addr)) (fp : List Addr), EG (X.blk s H scope (compEnvC scope cl C X.env) fp) (notIn (own.map (·.2))) tg ft)
    (he : ∀ (s : Shared) (H : Hp) (C : Addr) (cl : List (Str × Addr)) (fp : List Addr), EE (X.blk s H scope (compEnvC scope cl C X.env) fp) wF elt fe) (hs : ∀ x, foldedSetIterable iter X.env x = pure x := by intro _; rfl) :
    EE X W (.ListComp elt [⟨tg, iter, [], 0⟩] scope pos) (fLcW n fi ft fe (own.map (·.2))) :=
  ⟨fun pins s σ H Q I q => (pe_lc hc hN hi ok hg (fun _ _ _ _ _ => ets_nil) he hs).run pins s σ H Q I (lw_ok (own_lt ok I.len) q)⟩
end
end PV

/-! PVV15: dicts of own lists: dict() of a list of own pairs; None in d; d[k] != []. -/
namespace PV
open PySem PySem.Spec PyProof.Rows L2
/-! ### None in d -/
def rNoneIn (neg : Bool) : R2 := fun x y H Q => ∃ a kvs, y = .ref a ∧ x = .non ∧ Rd H a (.dK kvs) ∧ Q (.bl neg) H
theorem op_noneIn {X : Cx} : OpR X (compareOp .In) (rNoneIn false) := by
  intro pins s σ H x y v u Q I rx ry h
  obtain ⟨a, kvs, rfl, rfl, g, q⟩ := h
  have eu : u = Value.ref a := ry
  subst eu
  obtain rfl : v = Value.none := rx
  exact d_inNone I g fun s' I' => ⟨.bl false, H, I', rfl, q⟩
theorem op_noneNotIn {X : Cx} : OpR X (compareOp .NotIn) (rNoneIn true) := by
  intro pins s σ H x y v u Q I rx ry h
  obtain ⟨a, kvs, rfl, rfl, g, q⟩ := h
  have eu : u = Value.ref a := ry
  subst eu
  obtain rfl : v = Value.none := rx
  exact d_notInNone I g fun s' I' => ⟨.bl true, H, I', rfl, q⟩
def oInN : Op := fun ds => match ds with
  | [.none, .dict _] => some (.bool false, 0)
  | ds => oInA ds
def oNotInN : Op := fun ds => match ds with
  | [.none, .dict _] => some (.bool true, 0)
  | ds => oNotInA ds
section
variable {K : PySem.W.Frag}
theorem noneIn_of {neg : Bool} {vs : List V} {l : List (PyData × PyData)} {S H : Hp} {Q : VK} (rp : RpL K S vs [.none, .dict l]) (sb : Same S H) (q : Q (.bl neg) H) : ∀ x y, vs = [x, y] → rNoneIn neg x y H Q := by
  intro x y ev
  obtain ⟨v1, v2, rfl, h1, h2⟩ := rp_two' rp
  cases ev
  cases h1
  cases h2 with
  | dic p1 p2 => exact ⟨_, _, rfl, rfl, Same.rd sb p1, q⟩
theorem p_inN : Prim K (fun vs H Q => ∀ x y, vs = [x, y] → (rInU K x y H Q ∨ rDIn false x y H Q) ∨ rNoneIn false x y H Q) oInN := fun vs ds S H Q r m rp sb e q x y ev => by
  unfold oInN at e
  split at e
  · cases e
    exact .inr (noneIn_of rp sb (q _ _ _ _ (Made.refl sb) ⟨rfl, .bl _⟩) x y ev)
  · exact .inl (p_inA vs _ S H Q r m rp sb e q x y ev)
theorem p_notInN : Prim K (fun vs H Q => ∀ x y, vs = [x, y] → (rNotInU K x y H Q ∨ rDIn true x y H Q) ∨ rNoneIn true x y H Q) oNotInN := fun vs ds S H Q r m rp sb e q x y ev => by
  unfold oNotInN at e
  split at e
  · cases e
    exact .inr (noneIn_of rp sb (q _ _ _ _ (Made.refl sb) ⟨rfl, .bl _⟩) x y ev)
  · exact .inl (p_notInA vs _ S H Q r m rp sb e q x y ev)
end
section
variable {X : Cx} {W : WX} {a b : Expr} {fa fb : Ev → Res RV} {pos : Pos}
theorem vInN (hu : X.A.units + 65 < cLine) (ha : EE X W a fa) (hb : EE X W b fb) (hm : behindInMarks .In b = false := by with_unfolding_all rfl) : EE X W (.Compare a [.In] [b] pos) (f2 oInN fa fb) := ee_cmp (((op_inU hu).or (op_dictIn (u1_of hu))).or op_noneIn) p_inN ha hb hm
theorem vNotInN (hu : X.A.units + 65 < cLine) (ha : EE X W a fa) (hb : EE X W b fb) (hm : behindInMarks .NotIn b = false := by with_unfolding_all rfl) : EE X W (.Compare a [.NotIn] [b] pos) (f2 oNotInN fa fb) := ee_cmp (((op_notInU hu).or (op_dictNotIn (u1_of hu))).or op_noneNotIn) p_notInN ha hb hm
theorem yInN (hu : X.A.units + 65 < cLine) (ha : EE X W a fa) (hb : EE X W b fb) (hm : behindInMarks .In b = false := by with_unfolding_all rfl) : ET X W (.Compare a [.In] [b] pos) (f2 oInN fa fb) := et_cmp (((op_inU hu).or (op_dictIn (u1_of hu))).or op_noneIn) p_inN ha hb hm
theorem yNotInN (hu : X.A.units + 65 < cLine) (ha : EE X W a fa) (hb : EE X W b fb) (hm : behindInMarks .NotIn b = false := by with_unfolding_all rfl) : ET X W (.Compare a [.NotIn] [b] pos) (f2 oNotInN fa fb) := et_cmp (((op_notInU hu).or (op_dictNotIn (u1_of hu))).or op_noneNotIn) p_notInN ha hb hm
end
/-! ### x[k] != [] -/
def oNeAt : Op := fun ds => match ds with
  | [d, k] => match subD d k with
    | some (.list c) => some (.bool (!c.isEmpty), 0)
    | _ => none
  | _ => none
def rNeAt (K : PySem.W.Frag) : R2 := fun x y H Q => rSub K x y H fun z H1 => ([] : List V).length ≤ sizeLine ∧ ∀ p, H1 p = none → rNeU K z (.ref p) (upd H1 p (.lst [])) Q
theorem rp_at {K : PySem.W.Frag} {S : Hp} {vs : List V} {ds : List PyData} {j : Int} {c : PyData} (h : RpL K S vs ds) (e : atI ds j = some c) : ∃ w, atI vs j = some w ∧ Rp K S w c := by
  unfold atI at e ⊢
  rw [h.length]
  cases z : ixN ds.length j with
  | none => rw [z] at e; cases e
  | some n =>
    rw [z] at e
    exact h.get e
theorem rp_sub {K : PySem.W.Frag} {S : Hp} {v kv : V} {d kd c : PyData} (h : Rp K S v d) (hk : Rp K S kv kd) (e : subD d kd = some c) : ∃ w, Rp K S w c ∧ ∀ H, Same S H → ∀ Q : VK, Q w H → rSub K v kv H Q := by
  cases h with
  | tup h1 h2 =>
    cases kd with
    | int j =>
      obtain ⟨w, e1, r⟩ := rp_at h2 e
      cases hk
      exact ⟨w, r, fun H sb Q q => .inl ⟨_, _, j, _, rfl, rfl, Same.seqT sb h1, e1, q⟩⟩
    | _ => cases e
  | lst h1 h2 =>
    cases kd with
    | int j =>
      obtain ⟨w, e1, r⟩ := rp_at h2 e
      cases hk
      exact ⟨w, r, fun H sb Q q => .inr (.inl ⟨_, _, j, _, rfl, rfl, .inl (.inl (sb _ _ h1)), e1, q⟩)⟩
    | _ => cases e
  | dic h1 h2 =>
    rename_i a kvs l
    have e' : (match keyOf kd with | some k => dget l k | none => none) = some c := e
    cases hkk : keyOf kd with
    | none => rw [hkk] at e'; cases e'
    | some kk =>
      rw [hkk] at e'
      have ek := keyOf_kD hkk
      subst ek
      have ex := rp_key hk
      subst ex
      obtain ⟨w, hw, r⟩ := (h2.find kk).1 c e'
      exact ⟨w, r, fun H sb Q q => .inr (.inr ⟨a, w, rfl, .inl ⟨kvs, kk, Same.rd sb h1, rfl, hw.symm⟩, q⟩)⟩
  | _ => cases kd <;> cases e
theorem p_neAt {K : PySem.W.Frag} : Prim K (fun vs H Q => ∀ x y, vs = [x, y] → rNeAt K x y H Q) oNeAt := fun vs ds S H Q r m rp sb e q x y ev => by
  unfold oNeAt at e
  split at e
  · rename_i d k
    obtain ⟨v1, v2, rfl, h1, h2⟩ := rp_two' rp
    cases ev
    split at e
    · rename_i c hc
      cases e
      obtain ⟨w, rw', k⟩ := rp_sub h1 h2 hc
      refine k H sb _ ⟨Nat.zero_le _, fun p hp => ?_⟩
      have hSp : S p = none := by
        cases z : S p with
        | none => rfl
        | some o => rw [sb p o z] at hp; cases hp
      have s1 : Same S (upd S p (.lst [])) := fun b o z => by rw [upd_ne (ne_of_none z hSp)]; exact z
      have s2 : Same (upd S p (.lst [])) (upd H p (.lst [])) := fun b o z => by
        by_cases hb : b = p
        · subst hb; rw [upd_same] at z ⊢; exact z
        · rw [upd_ne hb] at z ⊢; exact sb b o z
      have s3 : Same H (upd H p (.lst [])) := fun b o z => by rw [upd_ne (ne_of_none z hp)]; exact z
      refine p_ne [w, .ref p] [.list c, .list []] (upd S p (.lst [])) (upd H p (.lst [])) Q (.bool (!c.isEmpty)) 0 (.cons (rw'.mn s1) (.cons (.lst upd_same .nil) .nil)) s2 ?_ (fun v H2 S2 f M o => ?_) w (.ref p) rfl
      · show (if _ ∨ _ ∨ _ then some (PyData.bool (!PyData.eqv (.list c) (.list []))) else none).map _ = _
        rw [if_pos (.inr (.inr rfl)), eqv_isNil]; rfl
      · refine q v H2 S2 f ⟨s1.trans M.ss, s3.trans M.hh, M.sh, fun b o z => ?_, M.nod, fun a ha => ?_⟩ o
        · rcases M.fresh b o z with y | y
          · by_cases hb : b = p
            · subst hb; exact .inr hp
            · rw [upd_ne hb] at y; exact .inl y
          · refine .inr ?_
            cases w : H b with
            | none => rfl
            | some u => rw [s3 b u w] at y; cases y
        · refine ⟨(M.new a ha).1, ?_⟩
          cases w : H a with
          | none => rfl
          | some u => have := (M.new a ha).2; rw [s3 a u w] at this; cases this
    · cases e
  · cases e
section
variable {X : Cx} {W : WX} {a b : Expr} {fa fb : Ev → Res RV} {pos p1 p2 : Pos}
theorem ee_neAt (hu : X.A.units + 65 < cLine) (ha : EE X W a fa) (hb : EE X W b fb) (hs : PlainIx b := by intro _ _; rfl) : EE X W (.Compare (.Subscript a b p1) [.NotEq] [.List [] p2] pos) (f2 oNeAt fa fb) :=
  PE.imp (pe_cmpR (op_neU (by omega)) (pe_ix (ix_sub (u1_of hu)) ha hb hs) (pe_lst pa_nil) (nomark _)) fun σ H Q q => two_ok (R := rNeAt X.K) p_neAt q
theorem et_neAt (hu : X.A.units + 65 < cLine) (ha : EE X W a fa) (hb : EE X W b fb) (hs : PlainIx b := by intro _ _; rfl) : ET X W (.Compare (.Subscript a b p1) [.NotEq] [.List [] p2] pos) (f2 oNeAt fa fb) :=
  PT.imp (pt_cmpR (op_neU (by omega)) (pe_ix (ix_sub (u1_of hu)) ha hb hs) (pe_lst pa_nil) (nomark _)) fun σ H Q q => by
    have q' := tT_tB q
    exact two_ok (G := gx X) (R := rNeAt X.K) (Q := fun x H' => ∃ k, x = .bl k ∧ Q k H') p_neAt q'
end
/-! ### dict() of a list of own pairs -/
theorem merge_new : ∀ (more acc : List (Key × V)), (acc.map (·.1) ++ more.map (·.1)).Nodup → mergeK acc more = acc ++ more
  | [], acc, _ => by simp [mergeK]
  | kv :: more, acc, h => by
    have e1 : mergeK acc (kv :: more) = mergeK (putK acc kv.1 kv.2) more := rfl
    have hn : kv.1 ∉ acc.map (·.1) := fun z => by
      rw [List.map_cons] at h
      exact (nodup_app.mp h).2.2 _ z List.mem_cons_self
    have e2 : putK acc kv.1 kv.2 = acc ++ [kv] := by
      unfold putK
      rw [if_neg]
      intro z
      obtain ⟨p, hp, e⟩ := List.any_eq_true.mp z
      exact hn (List.mem_map.mpr ⟨p, hp, of_decide_eq_true e⟩)
    rw [e1, e2, merge_new more (acc ++ [kv]) (by simpa [List.append_assoc] using h), List.append_assoc]
    rfl
theorem pairsOf_cons {d : PyData} {ps : List PyData} {l : List (Key × PyData)} (h : pairsOf (d :: ps) = some l) : ∃ k x l', d = .tuple [kD k, x] ∧ pairsOf ps = some l' ∧ l = (k, x) :: l' := by
  have key : ∀ k x, d = .tuple [k, x] → ∃ k x l', d = .tuple [kD k, x] ∧ pairsOf ps = some l' ∧ l = (k, x) :: l' := fun k x e => by
    subst e
    have h' : (match keyOf k with | some k => (pairsOf ps).map ((k, x) :: ·) | none => none) = some l := h
    cases hk : keyOf k with
    | none => rw [hk] at h'; cases h'
    | some kk =>
      rw [hk] at h'
      cases hl : pairsOf ps with
      | none => rw [hl] at h'; cases h'
      | some l' =>
        rw [hl] at h'
        cases h'
        exact ⟨kk, x, l', by rw [keyOf_kD hk], rfl, rfl⟩
  cases d with
  | tuple ds =>
    match ds, h, key with
    | [k, x], h, key => exact key k x rfl
    | [], h, _ => exact nomatch h
    | [_], h, _ => exact nomatch h
    | _ :: _ :: _ :: _, h, _ => exact nomatch h
  | _ => exact nomatch h
theorem own_pair {K : PySem.W.Frag} {S H : Hp} {v : V} {kk : Key} {x : PyData} {f : List Addr} (a : Own K S H 2 v (.tuple [kD kk, x]) f) : ∃ t u, v = .ref t ∧ SqT K S t [kV kk, u] ∧ Own K S H 1 u x f := by
  rcases a with ⟨_, _, _, _, _, q, _⟩ | ⟨_, _, _, _, _, q, _⟩ | ⟨t, vs2, ds2, rfl, q, hq, ho⟩ | ⟨q, _, _⟩
  · cases q
  · cases q
  · cases q
    cases ho with
    | cons a1 b1 =>
      cases b1 with
      | cons a2 b2 =>
        cases b2
        have at1 : PV.atom (kD kk) = true := by cases kk <;> rfl
        obtain ⟨rfl, r1⟩ := Own.atom a1 at1
        have eu := rp_key r1
        subst eu
        refine ⟨t, _, rfl, hq, ?_⟩
        simpa using a2
  · cases q
theorem pairs_own {K : PySem.W.Frag} {S H : Hp} : ∀ {vs : List V} {ps : List PyData} {g : List Addr} {l : List (Key × PyData)}, OwL (Own K S H 2) vs ps g → pairsOf ps = some l →
    ∃ (as : List Addr) (kvs : List (Key × V)), vs = as.map V.ref ∧ Paired (fun p kv => SqT K S p [kV kv.1, kv.2]) as kvs ∧ OwK (Own K S H 1) kvs (l.map fun p => (kD p.1, p.2)) g ∧ kvs.map (·.1) = l.map (·.1)
  | _, _, _, l, .nil, h => by
    cases h
    exact ⟨[], [], rfl, .nil, .nil, rfl⟩
  | v :: vs, d :: ps, _, l, .cons (f := f) (g := g) a b, h => by
    obtain ⟨kk, x, l', rfl, hl, rfl⟩ := pairsOf_cons h
    obtain ⟨as, kvs, rfl, p, o, e⟩ := pairs_own b hl
    obtain ⟨t, u, rfl, hq, ow⟩ := own_pair a
    exact ⟨t :: as, (kk, u) :: kvs, rfl, .cons hq p, .cons ow o, by rw [List.map_cons, List.map_cons, e]⟩
theorem paired_mn {K : PySem.W.Frag} {S H : Hp} (e : Same S H) : ∀ {as : List Addr} {kvs : List (Key × V)}, Paired (fun p (kv : Key × V) => SqT K S p [kV kv.1, kv.2]) as kvs → Paired (fun p kv => SqT K H p [kV kv.1, kv.2]) as kvs
  | _, _, .nil => .nil
  | _, _, .cons a b => .cons (Same.seqT e a) (paired_mn e b)
def fDict2 (fa : Ev → Res RV) (e : Ev) : Res RV := (fa e).bind fun r e1 => match r with
  | .val (.list ps) 3 => match pairsOf ps with
    | some l => if (l.map (·.1)).Nodup then .ok (.val (.dict (l.map fun p => (kD p.1, p.2))) 2) e1 else .no
    | none => .no
  | _ => .no
section
variable {X : Cx} {W : WX} {a : Expr} {fa : Ev → Res RV} {pos p : Pos}
theorem ee_dict2 (hc : X.calm = true) (hg : Gl X "dict") (hm : X.mg "dict" = none) (ha : EE X W a fa) (he : starEach [a] X.env = (false, eval a X.env) :: starEach [] X.env := by rfl) (hpl : (backTo pos (starEach [] X.env)).any (·.1) = false := by rfl) :
    EE X W (.Call (.Name "dict" p) [a] [] pos) (fDict2 fa) :=
  PE.imp (pe_callTy (call_dictP hc) hg hm (by decide +kernel) (pa_cons ha pa_nil he) (by decide) (by decide) he hpl) fun σ H Q q => by
    obtain ⟨S, e, A, C, q⟩ := q
    refine ⟨S, e, A, C, ?_⟩
    cases r : fa e with
    | no => simp only [fDict2, r, Res.bind] at q; exact q
    | exc c e1 => simp only [fDict2, r, Res.bind] at q; exact q
    | ok rv e1 =>
      simp only [fDict2, r, Res.bind] at q
      intro v H1 S1 A1 f R1 st1
      match rv, q, R1 with
      | .val (.list ps) 3, q, R1 =>
        simp only at q
        cases hl : pairsOf ps with
        | none => rw [hl] at q; exact q.elim
        | some l =>
          rw [hl] at q
          simp only at q
          by_cases hn : (l.map (·.1)).Nodup
          · rw [if_pos hn] at q
            have h0 : Own (gx X).K S1 H1 3 v (.list ps) f := R1.tmps _ (List.mem_singleton.mpr rfl)
            obtain ⟨D, vs, g, rfl, hD, rfl, o⟩ : ∃ D vs g, v = .ref D ∧ H1 D = some (.lst vs) ∧ f = D :: g ∧ OwL (Own (gx X).K S1 H1 2) vs ps g := by
              rcases h0 with ⟨a, vs, ds, g, e1, e2, h1, e3, o⟩ | ⟨_, _, _, _, _, q, _⟩ | ⟨_, _, _, _, q, _⟩ | ⟨q, _, _⟩
              · cases e2
                exact ⟨a, vs, g, e1, h1, e3, o⟩
              · cases q
              · cases q
              · cases q
            obtain ⟨as, kvs, rfl, pr, ok, ek⟩ := pairs_own o hl
            refine ⟨D, as, kvs, rfl, .inl (.inl hD), ?_, fun p hp => ?_⟩
            · exact paired_mn R1.sub pr
            · have em : mergeK [] kvs = kvs := by rw [merge_new kvs [] (by rw [ek]; exact hn)]; rfl
              rw [em]
              obtain ⟨n1, n2, n3⟩ := nodup_app.mp R1.nod
              rw [fps_one] at n2 n3
              have tk : ∀ b ∈ A1 ++ fps [⟨.val (.list ps) 3, .ref D, D :: g⟩], b ≠ p := fun b hb w => R1.trk hb (w ▸ hp)
              have sm : Same H1 (upd H1 p (.dK kvs)) := fun b u z => by rw [upd_ne (ne_of_none z hp)]; exact z
              have hSp : S1 p = none := by
                cases z : S1 p with
                | none => rfl
                | some o => rw [R1.sub p o z] at hp; cases hp
              refine q (.ref p) (upd H1 p (.dK kvs)) S1 A1 (p :: g) ⟨R1.sub.trans sm, ?_, fun b hb => ?_, R1.slots.keep (Same.refl _) fun b _ u z => sm b u z, fun t ht => ?_⟩ (st1.trans ⟨fun b u z _ => sm b u z, fun b z => ?_, Same.refl _, fun b u z => .inl z, fun b hb => ?_⟩)
              · rw [fps_one]
                refine nodup_app.mpr ⟨n1, List.nodup_cons.mpr ⟨fun z => ?_, (List.nodup_cons.mp n2).2⟩, fun b hb z => ?_⟩
                · exact tk p (List.mem_append_right _ (by rw [fps_one]; exact List.mem_cons_of_mem _ z)) rfl
                · rcases List.mem_cons.mp z with w | w
                  · exact tk b (List.mem_append_left _ hb) w
                  · exact n3 b hb (List.mem_cons_of_mem _ w)
              · rw [fps_one] at hb
                rcases List.mem_append.mp hb with z | z
                · exact R1.off b (List.mem_append_left _ z)
                · rcases List.mem_cons.mp z with w | w
                  · rw [w]; exact hSp
                  · exact R1.off b (List.mem_append_right _ (by rw [fps_one]; exact List.mem_cons_of_mem _ w))
              · rw [List.mem_singleton] at ht
                subst ht
                refine .inr (.inl ⟨p, kvs, _, g, rfl, rfl, upd_same, rfl, ok.imp fun w d h hh z => Own.keep (Same.refl _) z fun b hb u y => sm b u y⟩)
              · cases y : H1 b with
                | none => exact absurd y z
                | some u => rw [sm b u y]; exact fun w => nomatch w
              · rcases List.mem_append.mp hb with z | z
                · exact .inl (List.mem_append_left _ z)
                · rcases List.mem_cons.mp z with w | w
                  · rw [w]; exact .inr hp
                  · exact .inl (List.mem_append_right _ (List.mem_cons_of_mem _ w))
          · rw [if_neg hn] at q; exact q.elim
      | .val (.list _) 0, q, _ => exact q.elim
      | .val (.list _) 1, q, _ => exact q.elim
      | .val (.list _) 2, q, _ => exact q.elim
      | .val (.list _) (_ + 4), q, _ => exact q.elim
      | .val .none _, q, _ => exact q.elim
      | .val (.bool _) _, q, _ => exact q.elim
      | .val (.int _) _, q, _ => exact q.elim
      | .val (.str _) _, q, _ => exact q.elim
      | .val (.tuple _) _, q, _ => exact q.elim
      | .val (.dict _) _, q, _ => exact q.elim
      | .bor _, q, _ => exact q.elim
      | .ex _, q, _ => exact q.elim
end
end PV

/-! PVV17: a call that only looks at what it is handed; texts: in, join, split, int(text), a text or another; isinstance of one of two types; a method upon an own part, its arguments any. -/
namespace PV
open PySem PySem.Spec PyProof.Rows L2
/-! ### a call that only looks -/
def opF (np : Nat) (F : Den) : Op := fun ds => if ds.length = np then (match F (ds.map fun d => Vl.dt d 0) with
  | .rt d n _ => some (d, n)
  | _ => none) else none
theorem slots_of {G : Gx} {S H : Hp} : ∀ {vs : List V} {ds : List PyData}, RpL G.K S vs ds → Slots G S H (vs.map some) ((ds.map fun d => Vl.dt d 0).map some) []
  | _, _, .nil => .nil
  | _, _, .cons a b => Slots.dt (f := []) ⟨rfl, a⟩ (slots_of b)
theorem p_opF {G : Gx} {np : Nat} {F : Den} {E : XK} : Prim G.K (fun vs H Q => spF G false np F vs H Q E) (opF np F) := fun vs ds S H Q r m rp sb e q => by
  unfold opF at e
  split at e
  · rename_i hl
    split at e
    · rename_i d n o hF
      cases e
      refine ⟨by rw [rp.length]; exact hl, S, ds.map fun d => Vl.dt d 0, [], slots_of rp, sb, List.nodup_nil, (fun a z => absurd z List.not_mem_nil), fun _ => rfl, ?_⟩
      rw [hF]
      intro v H' S' A' g st sub nd off ow _ hA'
      have eA : A' = [] := hA' rfl
      subst eA
      exact q v H' S' g ⟨st.sub, fun b o z => st.frame b o z List.not_mem_nil, sub, fun b o z => (st.subF b o z).imp id (fun y => y.elim id fun w => (nomatch w)), nd, fun a ha => ⟨off a ha, (st.own a ha).elim (fun w => (nomatch w)) id⟩⟩ ow
    · cases e
  · cases e
section
variable {X : Cx} {W : WX} {pos : Pos} {es : List Expr} {fs : List (Ev → Res RV)}
theorem ee_lend {k : Nat} {f : Addr} {fd : FuncData} {ps : List Str} {np : Nat} {F : Den} {x : Str} {p : Pos} {e : Expr}
    (Fk : FnG X.prog X.w X.K X.mg X.base k f fd ps (spF (gx X) false np F)) (hr : Room k X.A) (gd : X.A.guards = some []) (hg : Gl X x) (hm : X.mg x = some (.ref f)) (hk : PySem.W.keepIn X.K (.ref f) = true) (hb : Binds X.K fd ps []) (tk : Takes X W)
    (ha : EA X W (e :: es) fs) (hdb : (x == ("__debug__" : Str)) = false := by decide) (he : starEach (e :: es) X.env = (false, eval e X.env) :: starEach es X.env := by rfl) (hpl : (backTo pos (starEach es X.env)).any (·.1) = false := by rfl) :
    EE X W (.Call (.Name x p) (e :: es) [] pos) (fN (opF np F) fs) :=
  PE.imp (pe_g Fk hr gd hg hm hk hb (fun σ => passAt tk σ) ha hdb he hpl) fun σ H Q q => many_ok (G := gx X) (R := fun vs H Q => spF (gx X) false np F vs H Q (WE W σ)) p_opF q
end
section
variable {e : Ev} {Q : RV → Ev → Prop}
theorem us_lend {np : Nat} {F : Den} {rs : List RV} {ds : List PyData} (h1 : derefs e rs = some ds) (hl : ds.length = np) (h : Ca F (ds.map fun d => Vl.dt d 0) fun d n _ => (rs.any isBor && !flatAt n d) = false ∧ Q (.val d n) e) : Us (opF np F) rs e Q := by
  obtain ⟨d, n, o, h2, h3, q⟩ := h
  exact us_of h1 (by unfold opF; rw [if_pos hl, h2]) h3 q
end
/-! ### a text in a text -/
def inS (i j : Str) : Bool := !(Builtin.Str.occurrences j i 0 j.length 1).isEmpty
def rInS2 (c : Bool) : R2 := fun x y H Q => ∃ i j, x = .str i ∧ y = .str j ∧ Q (.bl (if c then !inS i j else inS i j)) H
def oInT : Op := fun ds => match ds with
  | [.str i, .str j] => some (.bool (inS i j), 0)
  | ds => oIn ds
def oNotInT : Op := fun ds => match ds with
  | [.str i, .str j] => some (.bool (!inS i j), 0)
  | ds => oNotIn ds
theorem p_inT {K : PySem.W.Frag} : Prim K (fun vs H Q => ∀ x y, vs = [x, y] → rInU K x y H Q ∨ rInS2 false x y H Q) oInT := fun vs ds S H Q r m rp sb e q => by
  unfold oInT at e
  split at e
  · cases e
    obtain ⟨v1, v2, rfl, h1, h2⟩ := rp_two' rp
    intro x y ev
    cases ev
    cases h1; cases h2
    exact .inr ⟨_, _, rfl, rfl, q _ _ _ _ (Made.refl sb) ⟨rfl, .bl _⟩⟩
  · exact fun x y ev => .inl (p_in vs _ S H Q r m rp sb e q x y ev)
theorem p_notInT {K : PySem.W.Frag} : Prim K (fun vs H Q => ∀ x y, vs = [x, y] → rNotInU K x y H Q ∨ rInS2 true x y H Q) oNotInT := fun vs ds S H Q r m rp sb e q => by
  unfold oNotInT at e
  split at e
  · cases e
    obtain ⟨v1, v2, rfl, h1, h2⟩ := rp_two' rp
    intro x y ev
    cases ev
    cases h1; cases h2
    exact .inr ⟨_, _, rfl, rfl, q _ _ _ _ (Made.refl sb) ⟨rfl, .bl _⟩⟩
  · exact fun x y ev => .inl (p_notIn vs _ S H Q r m rp sb e q x y ev)
section
variable {X : Cx} {W : WX} {a b : Expr} {fa fb : Ev → Res RV} {pos : Pos}
theorem op_inS2 {X : Cx} : OpR X (compareOp .In) (rInS2 false) := op_in_str
theorem op_notInS2 {X : Cx} : OpR X (compareOp .NotIn) (rInS2 true) := op_notin_str
theorem vInT (hu : X.A.units + 65 < cLine) (ha : EE X W a fa) (hb : EE X W b fb) (hm : behindInMarks .In b = false := by with_unfolding_all rfl) : EE X W (.Compare a [.In] [b] pos) (f2 oInT fa fb) := ee_cmp ((op_inU hu).or op_inS2) p_inT ha hb hm
theorem vNotInT (hu : X.A.units + 65 < cLine) (ha : EE X W a fa) (hb : EE X W b fb) (hm : behindInMarks .NotIn b = false := by with_unfolding_all rfl) : EE X W (.Compare a [.NotIn] [b] pos) (f2 oNotInT fa fb) := ee_cmp ((op_notInU hu).or op_notInS2) p_notInT ha hb hm
theorem yInT (hu : X.A.units + 65 < cLine) (ha : EE X W a fa) (hb : EE X W b fb) (hm : behindInMarks .In b = false := by with_unfolding_all rfl) : ET X W (.Compare a [.In] [b] pos) (f2 oInT fa fb) := et_cmp ((op_inU hu).or op_inS2) p_inT ha hb hm
theorem yNotInT (hu : X.A.units + 65 < cLine) (ha : EE X W a fa) (hb : EE X W b fb) (hm : behindInMarks .NotIn b = false := by with_unfolding_all rfl) : ET X W (.Compare a [.NotIn] [b] pos) (f2 oNotInT fa fb) := et_cmp ((op_notInU hu).or op_notInS2) p_notInT ha hb hm
end
/-! ### join, split -/
def textsOf : List PyData → Option (List Str)
  | [] => some []
  | .str x :: r => (textsOf r).map (x :: ·)
  | _ => none
theorem textsOf_map : ∀ ys : List Str, textsOf (ys.map PyData.str) = some ys
  | [] => rfl
  | y :: ys => by rw [List.map_cons, textsOf, textsOf_map ys]; rfl
theorem texts_rp {K : PySem.W.Frag} {S : Hp} : ∀ {vs : List V} {ds : List PyData} {ys : List Str}, RpL K S vs ds → textsOf ds = some ys → vs = ys.map V.str
  | _, _, ys, .nil, h => by cases h; rfl
  | _, _, ys, .cons (d := d) (ds := ds) a b, h => by
    cases d with
    | str x =>
      have h' : (textsOf ds).map (x :: ·) = some ys := h
      cases q : textsOf ds with
      | none => rw [q] at h'; cases h'
      | some r =>
        rw [q] at h'
        cases h'
        cases a
        rw [List.map_cons, texts_rp b q]
    | _ => cases h
theorem rpL_strs {K : PySem.W.Frag} {S : Hp} : ∀ ys : List Str, RpL K S (ys.map V.str) (ys.map PyData.str)
  | [] => .nil
  | y :: ys => .cons (.str y) (rpL_strs ys)
def oJoin : Op := fun ds => match ds with
  | [.str a, .list xs] => match textsOf xs with
    | some ys => if (ys.map (·.length)).sum + ys.length * a.length ≤ 1000000 then some (.str (Txt.join a ys), 0) else none
    | none => none
  | _ => none
def rJoin (K : PySem.W.Frag) : V → List V → Hp → VK → Prop := fun x xs H Q => ∃ a p, ∃ ys : List Str, x = .str a ∧ xs = [.ref p] ∧ (SqL K H p (ys.map V.str) ∨ SqT K H p (ys.map V.str)) ∧ (ys.map (·.length)).sum + ys.length * a.length ≤ 16777216 ∧ Q (.str (Txt.join a ys)) H
theorem mt_joinR {X : Cx} : MtR X "str.join" (rJoin X.K) := mt_join
theorem p_join {K : PySem.W.Frag} : Prim K (fun vs H Q => ∀ x xs, vs = x :: xs → rJoin K x xs H Q) oJoin := fun vs ds S H Q r m rp sb e q x xs ev => by
  unfold oJoin at e
  split at e
  · rename_i a zs
    cases r2 : textsOf zs with
    | none => rw [r2] at e; cases e
    | some ys =>
      rw [r2] at e
      simp only at e
      split at e
      · rename_i hz
        cases e
        obtain ⟨v1, v2, rfl, h1, h2⟩ := rp_two' rp
        cases ev
        cases h1
        cases h2 with
        | lst z1 z2 =>
          have ez := texts_rp z2 r2
          subst ez
          exact ⟨_, _, ys, rfl, rfl, .inl (.inl (.inl (sb _ _ z1))), Nat.le_trans hz (by decide), q _ _ _ _ (Made.refl sb) ⟨rfl, .str _⟩⟩
      · cases e
  · cases e
def oSplit : Op := fun ds => match ds with
  | [.str a, .str b] => if (b.length == 0) = false ∧ a.length ≤ 100000 then some (.list ((Txt.split a b).map .str), 1) else none
  | _ => none
def rSplit : V → List V → Hp → VK → Prop := fun x xs H Q => ∃ a b, x = .str a ∧ xs = [.str b] ∧ (b.length == 0) = false ∧ a.length + 2 ≤ sizeLine ∧ rNewStrs (Txt.split a b) H Q
theorem mt_splitR {X : Cx} : MtR X "str.split" rSplit := mt_split
theorem p_split {K : PySem.W.Frag} : Prim K (fun vs H Q => ∀ x xs, vs = x :: xs → rSplit x xs H Q) oSplit := fun vs ds S H Q r m rp sb e q x xs ev => by
  unfold oSplit at e
  split at e
  · split at e
    · rename_i hz
      cases e
      obtain ⟨v1, v2, rfl, h1, h2⟩ := rp_two' rp
      cases ev
      cases h1; cases h2
      exact ⟨_, _, rfl, rfl, hz.1, by have := hz.2; rw [sizeLine_eq]; omega, fun p hp => q _ _ _ _ (Made.lst sb hp) (Own.newLst (rpL_strs _))⟩
    · cases e
  · cases e
/-! ### int(text) -/
def oIntT : Op := fun ds => match ds with
  | [.str a] => if a.length ≤ 640 then (PySem.intText? a).map fun n => (.int n, 0) else none
  | ds => oInt ds
def rIntT : List V → Hp → VK → Prop := fun xs H Q => rIntU xs H Q ∨ ∃ a n, xs = [.str a] ∧ PySem.intText? a = some n ∧ a.length ≤ 640 ∧ Q (.int n) H
theorem p_toIntT {K : PySem.W.Frag} : Prim K rIntT oIntT := fun vs ds S H Q r m rp sb e q => by
  unfold oIntT at e
  split at e
  · split at e
    · rename_i a hl
      cases r2 : PySem.intText? a with
      | none => rw [r2] at e; cases e
      | some n =>
        rw [r2] at e
        cases e
        obtain ⟨x, rfl, h⟩ := rp_one' rp
        cases h
        exact .inr ⟨_, n, rfl, r2, hl, q _ _ _ _ (Made.refl sb) ⟨rfl, .int _⟩⟩
    · cases e
  · exact .inl (p_toInt vs _ S H Q r m rp sb e q)
theorem call_intT {X : Cx} : CallR X (.type "int") rIntT := CallR.or call_int1 call_int_str
/-! ### a text or another -/
def fOrS (fa fb : Ev → Res RV) (e : Ev) : Res RV := (fa e).bind fun r e1 => match r with
  | .val (.str x) 0 => if x.length ≤ 100000 then (if x.length = 0 then fb e1 else .ok (.val (.str x) 0) e1) else .no
  | _ => .no
section
variable {X : Cx} {W : WX} {a b : Expr} {fa fb : Ev → Res RV} {pos : Pos}
theorem ee_orS (ha : EE X W a fa) (hb : EE X W b fb) : EE X W (.BoolOp .Or [a, b] pos) (fOrS fa fb) :=
  PE.imp (pe_orT ha (ee_one hb)) fun σ H Q q => by
    obtain ⟨S, e, A, C, q⟩ := q
    refine tR_next C (S0 := S) (A0 := A) (H0 := H) Step.refl0 ?_
    unfold fOrS at q
    cases r : fa e with
    | no => rw [r] at q; exact q
    | exc c e1 => rw [r] at q; exact q
    | ok rv e1 =>
      rw [r] at q
      intro v H1 S1 A1 g R1 st1
      have R1' : Cu (gx X) S1 H1 σ e1 A1 [⟨rv, v, g⟩] := R1
      have st1' : Step S A H S1 (A1 ++ g) H1 := by
        have z : Step S A H S1 (A1 ++ fps [⟨rv, v, g⟩]) H1 := st1
        rwa [fps_one] at z
      cases rv with
      | bor j => exact q.elim
      | ex c => exact q.elim
      | val d n =>
        cases d with
        | str x =>
          cases n with
          | succ n => exact q.elim
          | zero =>
            have q2 : PostE (gx X) W S H σ A Q (if x.length ≤ 100000 then (if x.length = 0 then fb e1 else .ok (.val (.str x) 0) e1) else .no) := q
            by_cases hz : x.length ≤ 100000
            · rw [if_pos hz] at q2
              have o : Own (gx X).K S1 H1 0 v (.str x) g := R1'.tmps ⟨.val (.str x) 0, v, g⟩ (List.mem_singleton.mpr rfl)
              obtain ⟨rfl, rp⟩ := o
              cases rp
              refine ⟨_, ⟨by rw [sizeLine_eq]; omega, rfl⟩, ?_⟩
              by_cases h0 : x.length = 0
              · rw [if_pos h0] at q2
                rw [if_neg (by rw [h0]; decide)]
                exact ⟨S1, e1, A1, R1'.base, q2.pre (by rw [List.append_nil] at st1'; exact st1')⟩
              · rw [if_neg h0] at q2
                rw [if_pos (by simpa using h0)]
                exact q2 _ _ _ _ _ R1' st1'
            · rw [if_neg hz] at q2; exact q2.elim
        | _ => exact q.elim
end
section
variable {e : Ev} {Q : RV → Ev → Prop} {fa fb : Ev → Res RV}
theorem ok_orS (h : Ok fa e fun r e1 => ∃ x : Str, r = .val (.str x) 0 ∧ x.length ≤ 100000 ∧ (x.length = 0 → Ok fb e1 Q) ∧ (x.length ≠ 0 → Q (.val (.str x) 0) e1)) : Ok (fOrS fa fb) e Q := by
  obtain ⟨r, e1, h1, x, rfl, h2, h3, h4⟩ := h
  by_cases h0 : x.length = 0
  · obtain ⟨s, e2, h5, q⟩ := h3 h0
    exact ⟨s, e2, by unfold fOrS; rw [h1]; show (if x.length ≤ 100000 then _ else _) = _; rw [if_pos h2, if_pos h0]; exact h5, q⟩
  · exact ⟨_, e1, by unfold fOrS; rw [h1]; show (if x.length ≤ 100000 then _ else _) = _; rw [if_pos h2, if_neg h0], h4 h0⟩
theorem us_inS {rs : List RV} {i j : Str} (h1 : derefs e rs = some [.str i, .str j]) (q : Q (.val (.bool (inS i j)) 0) e) : Us oInT rs e Q :=
  us_of (d := .bool (inS i j)) (m := 0) h1 rfl (by show (_ && !true) = false; rw [Bool.not_true, Bool.and_false]) q
theorem us_notInS {rs : List RV} {i j : Str} (h1 : derefs e rs = some [.str i, .str j]) (q : Q (.val (.bool (!inS i j)) 0) e) : Us oNotInT rs e Q :=
  us_of (d := .bool (!inS i j)) (m := 0) h1 rfl (by show (_ && !true) = false; rw [Bool.not_true, Bool.and_false]) q
theorem inS_one (a : List Nat) (c : Nat) : inS (SX.S [c]) (SX.S a) = decide (c ∈ a) := SX.in_one a c
theorem us_join {rs : List RV} {a : Str} {ys : List Str} (h1 : derefs e rs = some [.str a, .list (ys.map .str)]) (h2 : (ys.map (·.length)).sum + ys.length * a.length ≤ 1000000) (q : Q (.val (.str (Txt.join a ys)) 0) e) : Us oJoin rs e Q :=
  us_of (d := .str (Txt.join a ys)) (m := 0) h1 (by
    show (match textsOf (ys.map PyData.str) with | some ys => _ | none => _) = _
    rw [textsOf_map]
    show (if _ then _ else _) = _
    rw [if_pos h2]) (by show (_ && !true) = false; rw [Bool.not_true, Bool.and_false]) q
theorem us_split {rs : List RV} {a b : Str} (h1 : derefs e rs = some [.str a, .str b]) (h2 : (b.length == 0) = false ∧ a.length ≤ 100000) (q : Q (.val (.list ((Txt.split a b).map .str)) 1) e) : Us oSplit rs e Q :=
  us_of (d := .list ((Txt.split a b).map .str)) (m := 1) h1 (by show (if _ then _ else _) = _; rw [if_pos h2]) (by
    have : flatAt 1 (.list ((Txt.split a b).map .str)) = true := by
      show ((Txt.split a b).map PyData.str).all _ = true
      rw [List.all_map]
      exact List.all_eq_true.mpr fun _ _ => rfl
    rw [this]; simp) q
theorem us_intT {rs : List RV} {a : Str} {n : Int} (h1 : derefs e rs = some [.str a]) (h2 : a.length ≤ 640) (h3 : PySem.intText? a = some n) (q : Q (.val (.int n) 0) e) : Us oIntT rs e Q :=
  us_of (d := .int n) (m := 0) h1 (by show (if _ then _ else _) = _; rw [if_pos h2, h3]; rfl) (by show (_ && !true) = false; rw [Bool.not_true, Bool.and_false]) q
theorem us_intTI {rs : List RV} {n : Int} (h1 : derefs e rs = some [.int n]) (q : Q (.val (.int n) 0) e) : Us oIntT rs e Q :=
  us_of (d := .int n) (m := 0) h1 rfl (by show (_ && !true) = false; rw [Bool.not_true, Bool.and_false]) q
theorem us_intTB {rs : List RV} {b : Bool} (h1 : derefs e rs = some [.bool b]) (q : Q (.val (.int (b01 b)) 0) e) : Us oIntT rs e Q :=
  us_of (d := .int (b01 b)) (m := 0) h1 rfl (by show (_ && !true) = false; rw [Bool.not_true, Bool.and_false]) q
end
/-! ### isinstance of one of two types -/
def oIsi2 (T U : String) : Op := lift1 fun a => some (.bool (isT T a || isT U a))
def rIsi2 (K : PySem.W.Frag) (T U : String) : V → Hp → VK → Prop := fun x H Q => 2 ≤ sizeLine ∧ ∀ tp, H tp = none → rIsiT K [x, .ref tp] (upd H tp (.tup [.ty T, .ty U])) Q
theorem p_isi2 {K : PySem.W.Frag} {T U : String} (hT : TyOk T) (hU : TyOk U) : Prim K (fun vs H Q => ∀ x, vs = [x] → rIsi2 K T U x H Q) (oIsi2 T U) := fun vs ds S H Q r m rp sb e q x ev => by
  match ds, e, rp with
  | [a], e, rp =>
    have h1 := rp_one rp ev
    cases e
    refine ⟨by rw [sizeLine_eq]; decide, fun tp hp => ?_⟩
    have hSp : S tp = none := by
      cases z : S tp with
      | none => rfl
      | some o => rw [sb tp o z] at hp; cases hp
    have hh : Same H (upd H tp (.tup [.ty T, .ty U])) := fun b o z => by rw [upd_ne (ne_of_none z hp)]; exact z
    refine ⟨x, tp, [.ty T, .ty U], _, [.type T, .type U], isT T a || isT U a, rfl, upd_same, .cons (.ty T) (.cons (.ty U) .nil), tyX ((h1.mn sb).mn hh), kitAny_cons (b := isT T a) (kit_ty (hT a)) (fun hb => ?_) (fun hb => by rw [hb]; rfl), q _ _ S [] ⟨Same.refl S, hh, sb.trans hh, fun b o z => .inl z, List.nodup_nil, fun a ha => nomatch ha⟩ ⟨rfl, .bl _⟩⟩
    rw [hb, Bool.false_or]
    exact kitAny_cons (b := isT U a) (kit_ty (hU a)) (fun h2 => by rw [h2]; exact kitAny_nil) (fun h2 => by rw [h2])
theorem ee_isi2 {X : Cx} {W : WX} {T U : String} {y z : Str} {a : Expr} {fa : Ev → Res RV} {p p2 p3 pt pos : Pos} {x1} (hT : TyOk T) (hU : TyOk U) (hg : Gl X "isinstance") (hm : X.mg "isinstance" = none) (hg2 : Gl X y) (hm2 : X.mg y = none) (hv2 : bootBuiltins y = some (.type T))
    (hg3 : Gl X z) (hm3 : X.mg z = none) (hv3 : bootBuiltins z = some (.type U)) (ha : EE X W a fa)
    (hn2 : y ≠ "__name__" := by decide) (hd2 : (y == ("__debug__" : Str)) = false := by decide) (hn3 : z ≠ "__name__" := by decide) (hd3 : (z == ("__debug__" : Str)) = false := by decide)
    (na : starEach [a, .Tuple [.Name y p2, .Name z p3] x1 pt] X.env = (false, eval a X.env) :: starEach [.Tuple [.Name y p2, .Name z p3] x1 pt] X.env := by rfl)
    (nb : starEach [.Tuple [.Name y p2, .Name z p3] x1 pt] X.env = (false, eval (.Tuple [.Name y p2, .Name z p3] x1 pt) X.env) :: starEach [] X.env := by rfl)
    (hpl : (backTo pos (starEach [.Tuple [.Name y p2, .Name z p3] x1 pt] X.env)).any (·.1) = false := by rfl) : EE X W (.Call (.Name "isinstance" p) [a, .Tuple [.Name y p2, .Name z p3] x1 pt] [] pos) (f1 (oIsi2 T U) fa) :=
  PE.imp (pe_callB call_isiT hg hm (by decide +kernel) (pa_cons ha (pa_cons (pe_tup (cls_cons (pe_bltn hg2 hm2 hv2 (show RelV (.ty T) (.type T) from rfl) hn2 hd2) (cls_cons (pe_bltn hg3 hm3 hv3 (show RelV (.ty U) (.type U) from rfl) hn3 hd3) cls_one))) pa_nil nb) na) (he := na) (hpl := hpl)) fun σ H Q q =>
    one_ok (R := rIsi2 X.K T U) (p_isi2 hT hU) q
section
variable {e : Ev} {Q : RV → Ev → Prop}
theorem us_isi2 {T U : String} {rs : List RV} {d : PyData} (h1 : derefs e rs = some [d]) (q : Q (.val (.bool (isT T d || isT U d)) 0) e) : Us (oIsi2 T U) rs e Q :=
  us_of (d := .bool (isT T d || isT U d)) (m := 0) h1 rfl (by show (_ && !true) = false; rw [Bool.not_true, Bool.and_false]) q
end
/-! ### a method upon an own part -/
section
variable {K : PySem.W.Frag} {S S' H H' : Hp}
theorem Own.sub3 {v kv : V} {d kd c : PyData} {f : List Addr} (hS : Same S H) (h : Own K S H 2 v d f) (hk : Rp K S kv kd) (e : subD d kd = some c) (b : boxD c = true) :
    ∃ a u g1 g2, f = g1 ++ [a] ++ g2 ∧ H a = some u ∧ Held K S u c ∧ (∀ Q : VK, Q (.ref a) H → rSub K v kv H Q) ∧
      ∀ S' H' u' c', Same S S' → (∀ x ∈ g1 ++ g2, ∀ o, H x = some o → H' x = some o) → H' a = some u' → Held K S' u' c' → Own K S' H' 2 v (setD d kd c') f := by
  rcases h with ⟨p, vs, ds, fp, rfl, rfl, hp, rfl, ho⟩ | ⟨p, vs, ds, fp, rfl, rfl, hp, rfl, ho⟩ | ⟨p, vs, ds, rfl, rfl, hp, ho⟩ | ⟨h1, _, _⟩
  · cases kd with
    | int j =>
      obtain ⟨w, g1, g, g2, e1, rfl, o, k⟩ := owL_at ho e
      obtain ⟨a, u, rfl, rfl, ha, hu⟩ := o.held b
      cases hk
      refine ⟨a, u, p :: g1, g2, by simp, ha, hu, fun Q q => .inr (.inl ⟨p, vs, j, _, rfl, rfl, .inl (.inl hp), e1, q⟩), fun S' H' u' c' ss kp ha' hu' => ?_⟩
      refine .inl ⟨p, vs, _, _, rfl, rfl, kp p (by simp) _ hp, rfl, k _ (fun v d h hh z => Own.keep ss z fun x hx o ho => kp x (List.mem_cons_of_mem _ (hh x hx)) o ho) c' [a] (hu'.own ha')⟩
    | _ => cases e
  · have e' : (match keyOf kd with | some k => dget ds k | none => none) = some c := e
    cases hkk : keyOf kd with
    | none => rw [hkk] at e'; cases e'
    | some kk =>
      rw [hkk] at e'
      have ek := keyOf_kD hkk
      subst ek
      have ex := rp_key hk
      subst ex
      obtain ⟨w, g1, g, g2, e1, rfl, o, k⟩ := ho.part e'
      obtain ⟨a, u, rfl, rfl, ha, hu⟩ := o.held b
      refine ⟨a, u, p :: g1, g2, by simp, ha, hu, fun Q q => .inr (.inr ⟨p, _, rfl, .inl ⟨vs, kk, .inl hp, rfl, e1.symm⟩, q⟩), fun S' H' u' c' ss kp ha' hu' => ?_⟩
      have es : setD (.dict ds) (kD kk) c' = .dict (dset ds kk c') := by
        show (match keyOf (kD kk) with | some k => PyData.dict (dset ds k c') | none => .dict ds) = _
        rw [hkk]
      rw [es]
      exact .inr (.inl ⟨p, vs, _, _, rfl, rfl, kp p (by simp) _ hp, rfl, k _ (fun v d h hh z => Own.keep ss z fun x hx o ho => kp x (List.mem_cons_of_mem _ (hh x hx)) o ho) c' [a] (hu'.own ha')⟩)
  · cases kd with
    | int j =>
      obtain ⟨w, g1, g, g2, e1, rfl, o, k⟩ := owL_at ho e
      obtain ⟨a, u, rfl, rfl, ha, hu⟩ := o.held b
      cases hk
      refine ⟨a, u, g1, g2, rfl, ha, hu, fun Q q => .inl ⟨p, vs, j, _, rfl, rfl, ?_, e1, q⟩, fun S' H' u' c' ss kp ha' hu' => ?_⟩
      · exact Same.seqT hS hp
      · exact .inr (.inr (.inl ⟨p, vs, _, rfl, rfl, Same.seqT ss hp, k _ (fun v d h hh z => Own.keep ss z fun x hx o ho => kp x (hh x hx) o ho) c' [a] (hu'.own ha')⟩))
    | _ => cases e
  · cases d <;> first | (cases h1; done) | (cases e; done)
end
def fMetG (T : String) (m : MOp) (i : Nat) (k : Sm) (fs : List (Ev → Res RV)) (e : Ev) : Res RV := match e[i]? with
  | some (some (.dt d 2)) => match simD e k with
    | some kd => match subD d kd with
      | some c => if typD T c = true then (fArgs fs (e.set i none)).bind fun rs e1 => match settle rs e1 with
        | some (as, e2) => match m c as with
          | some (c', r) => .ok (.val r 0) (e2.set i (some (.dt (setD d kd c') 2)))
          | none => .no
        | none => .no else .no
      | none => .no
    | none => .no
  | _ => .no
section
variable {G : Gx} {W : WX} {S S1 S' H H' H1 S0 H0 : Hp} {σ : L2.St} {e e1 : Ev} {A A1 A' A0 : List Addr} {us : List Tmp} {Q : VK}
theorem fmetg_go {T : String} {r : V → List V → Hp → VK → Prop} {m : MOp} {i : Nat} {k : Sm} {fs : List (Ev → Res RV)} (hp : MPrim G.K T r m) (q : tR G W (fMetG T m i k fs) σ H Q) :
    tOp (rSub G.K) (tVar i) (tSm k) σ H fun x H1 => tyV G.K T x H1 ∧ tArgs G W fs σ H1 fun xs H2 => r x xs H2 Q := by
  obtain ⟨S, e, A, C, q⟩ := q
  unfold fMetG at q
  match hi : e[i]?, q with
  | some (some (.dt d 2)), q =>
    simp only [hi] at q
    cases h1 : simD e k with
    | none => rw [h1] at q; exact q.elim
    | some kd =>
    rw [h1] at q
    simp only at q
    cases h3 : subD d kd with
    | none => rw [h3] at q; exact q.elim
    | some c =>
    rw [h3] at q
    simp only at q
    by_cases ht : typD T c = true
    case neg => rw [if_neg ht] at q; exact q.elim
    rw [if_pos ht] at q
    obtain ⟨kv, rk, kk⟩ := C.sim h1
    obtain ⟨v, f, B, D, ev, eA, o, _, tk⟩ := C.slots.at i hi
    obtain ⟨a, u, g1, g2, ef, ha, hu, rd, wr⟩ := o.sub3 C.sub rk h3 (typD_box ht)
    have nA : A.Nodup := nodup_nil.mp C.nod
    have inA : ∀ x, x ∈ B ++ D ∨ x ∈ f → x ∈ A := fun x hx => by
      rw [eA]
      rcases hx with z | z
      · rcases List.mem_append.mp z with y | y <;> simp [y]
      · simp [z]
    have nBD : (B ++ D).Nodup ∧ f.Nodup ∧ ∀ x ∈ B ++ D, x ∉ f := by
      rw [eA] at nA
      obtain ⟨p, q, r⟩ := nodup_app.mp nA
      obtain ⟨p1, p2, p3⟩ := nodup_app.mp p
      refine ⟨nodup_app.mpr ⟨p1, q, fun a ha => r a (List.mem_append_left _ ha)⟩, p2, fun a ha z => ?_⟩
      rcases List.mem_append.mp ha with y | y
      · exact p3 a y z
      · exact r a (List.mem_append_right _ z) y
    have aF : a ∈ f := by rw [ef]; simp
    have C1 : Cu G S H σ (e.set i none) (B ++ D) [] := ⟨C.sub, nodup_nil.mpr nBD.1, fun x hx => C.off x (List.mem_append_left _ (inA x (.inl (mem_nil.mp hx)))), tk, fun t ht => nomatch ht⟩
    have stL : Step S A H S (B ++ D) H := by
      have z : Step S A H S (A ++ []) H := Step.refl0
      exact z.less fun x hx => List.mem_append_left _ (inA x (.inl hx))
    refine ⟨v, ev, kk _ (rd _ ⟨typD_ty ht ha hu, tArgs_next C1 (S0 := S) (A0 := B ++ D) (H0 := H) Step.refl0 ?_⟩)⟩
    cases r2 : fArgs fs (e.set i none) with
    | no => rw [r2] at q; exact q
    | exc c e1 => rw [r2] at q; exact fun H' S' A' C hC R st => q H' S' A' C hC R (stL.trans st)
    | ok rs e1 =>
      rw [r2] at q
      intro us H1 S1 A1 eu R1 st1
      subst eu
      have q2 : PostE G W S H σ A Q (match settle (us.map (·.r)) e1 with | some (as, e2) => (match m c as with | some (c', r) => .ok (.val r 0) (e2.set i (some (.dt (setD d kd c') 2))) | none => .no) | none => .no) := q
      have R1' : Cu G S1 H1 σ e1 A1 us := R1
      cases r3 : settle (us.map (·.r)) e1 with
      | none => rw [r3] at q2; exact q2.elim
      | some p =>
        obtain ⟨as, e2⟩ := p
        rw [r3] at q2
        simp only at q2
        obtain ⟨S2, A2, R2, rp, st2⟩ := settle_ok R1' r3
        cases r4 : m c as with
        | none => rw [r4] at q2; exact q2.elim
        | some p =>
          obtain ⟨c', res⟩ := p
          rw [r4] at q2
          simp only at q2
          have st1' : Step S (B ++ D) H S1 (A1 ++ fps us) H1 := st1
          have st := st1'.trans st2
          have fB : ∀ x ∈ f, x ∉ B ++ D := fun x hx z => nBD.2.2 x z hx
          have fH : ∀ x ∈ f, ∀ o, H x = some o → H1 x = some o := fun x hx o z => st.frame x o z (fB x hx)
          have fT : ∀ x ∈ f, H x ≠ none := fun x hx => C.trk (List.mem_append_left _ (inA x (.inr hx)))
          have fS2 : ∀ x ∈ f, S2 x = none := fun x hx => by
            cases z : S2 x with
            | none => rfl
            | some o =>
              rcases st.subF x o z with y | y | y
              · rw [C.off x (List.mem_append_left _ (inA x (.inr hx)))] at y; cases y
              · exact absurd y (fT x hx)
              · exact absurd y (fB x hx)
          have fA2 : ∀ x ∈ f, x ∉ A2 := fun x hx z => by
            rcases st.own x z with y | y
            · exact fB x hx y
            · exact fT x hx y
          have nA2 : A2.Nodup := nodup_nil.mp R2.nod
          refine hp a u c _ as S2 H1 Q c' res (fH a aF _ ha) (hu.mn st.sub) ht rp R2.sub r4 fun u' w hu' rw' => ?_
          have nf := nBD.2.1
          rw [ef] at nf
          obtain ⟨m1, m2, m3⟩ := nodup_app.mp nf
          obtain ⟨m4, m5, m6⟩ := nodup_app.mp m1
          have na : ∀ x ∈ g1 ++ g2, x ≠ a := fun x hx z => by
            rcases List.mem_append.mp hx with y | y
            · exact m6 x y (by simp [z])
            · exact m3 a (by simp) (z ▸ y)
          have own' : Own G.K S2 (upd H1 a u') 2 v (setD d kd c') f := wr S2 _ u' c' st.sub (fun x hx o z => by
            rw [upd_ne (na x hx)]
            refine fH x ?_ o z
            rw [ef]
            rcases List.mem_append.mp hx with y | y <;> simp [y]) upd_same hu'
          have aA2 := fA2 a aF
          have sl := R2.slots.keep (Same.refl S2) (H' := upd H1 a u') fun b hb o z => by
            have : b ≠ a := fun y => aA2 (y ▸ hb)
            rw [upd_ne this]; exact z
          obtain ⟨B', f', D', eA2, sl4⟩ := sl.put i (some v) (some (.dt (setD d kd c') 2)) f (List.getElem?_eq_some_iff.mp ev).1 (by have := Slots.dt (σ := []) (e := []) (A := []) own' .nil; rwa [List.append_nil] at this)
          rw [set_same ev] at sl4
          have sub2 : ∀ x ∈ B' ++ f ++ D', x ∈ A2 ∨ x ∈ f := fun x hx => by
            rw [eA2]
            rcases List.mem_append.mp hx with z | z
            · rcases List.mem_append.mp z with y | y
              · exact .inl (by simp [y])
              · exact .inr y
            · exact .inl (by simp [z])
          have nAll : (B' ++ f ++ D').Nodup := by
            rw [eA2] at nA2 fA2
            obtain ⟨p, q, r⟩ := nodup_app.mp nA2
            refine nodup_app.mpr ⟨nodup_app.mpr ⟨(nodup_app.mp p).1, nBD.2.1, fun x hx z => fA2 x z (by simp [hx])⟩, q, fun x hx z => ?_⟩
            rcases List.mem_append.mp hx with y | y
            · exact r x (List.mem_append_left _ y) z
            · exact fA2 x y (by simp [z])
          have R3 : Cu G S2 (upd H1 a u') σ (e2.set i (some (.dt (setD d kd c') 2))) (B' ++ f ++ D') [] := ⟨fun b o z => by
            have hb : b ≠ a := fun y => by rw [y, fS2 a aF] at z; cases z
            rw [upd_ne hb]; exact R2.sub b o z, nodup_nil.mpr nAll, fun x hx => (sub2 x (mem_nil.mp hx)).elim (fun z => R2.off x (List.mem_append_left _ z)) (fS2 x), sl4, fun t ht => nomatch ht⟩
          refine q2 w _ S2 _ [] (R3.one ⟨rfl, rw'⟩ rfl) ⟨fun b o z n => ?_, fun b z => ?_, st.sub, fun b o z => (st.subF b o z).imp id (.imp id fun y => inA b (.inl y)), fun x hx => ?_⟩
          · have hb : b ≠ a := fun y => n (y ▸ inA a (.inr aF))
            rw [upd_ne hb]
            exact st.frame b o z fun y => n (inA b (.inl y))
          · by_cases hb : b = a
            · rw [hb, upd_same]; exact fun y => nomatch y
            · rw [upd_ne hb]; exact st.grow b z
          · rw [List.append_nil] at hx
            rcases sub2 x hx with y | y
            · exact (st.own x y).imp (fun z => inA x (.inl z)) id
            · exact .inl (inA x (.inr y))
  | some (some (.dt w 0)), q => simp only [hi] at q; exact q.elim
  | some (some (.dt w 1)), q => simp only [hi] at q; exact q.elim
  | some (some (.dt w (n + 3))), q => simp only [hi] at q; exact q.elim
  | some (some (.ex c)), q => simp only [hi] at q; exact q.elim
  | some (some (.fz c)), q => simp only [hi] at q; exact q.elim
  | some none, q => simp only [hi] at q; exact q.elim
  | none, q => simp only [hi] at q; exact q.elim
end
section
variable {X : Cx} {W : WX} {apos cpos p3 : Pos} {es : List Expr} {e o kx : Expr} {name : Str} {T id : String} {r : V → List V → Hp → VK → Prop} {m : MOp} {i : Nat} {k : Sm} {fs : List (Ev → Res RV)}
theorem ee_metG (hu : X.A.units + 1 < cLine) (pa : PlainAttrs T) (slot : Slot T name id) (hty : typeOf (.builtin id) = pure (.type "method_descriptor")) (hm : MtR X id r) (hp : MPrim X.K T r m) (ho : PE X o (tVar i)) (hk : PE X kx (tSm k)) (ha : EA X W (e :: es) fs)
    (hs0 : PlainIx kx := by intro _ _; rfl) (hbase : attributeBase (.Subscript o kx p3) name X.env (eval (.Subscript o kx p3) X.env) = eval (.Subscript o kx p3) X.env := by rfl)
    (hfew : ((backTo cpos (starEach (e :: es) X.env)).all (fun x => !x.1) && (backToKw cpos (keywordEach [] X.env)).all (fun x => x.1.isSome) && decide ((e :: es).length + ([] : List Keyword).length + (if ([] : List Keyword).isEmpty then 0 else 1) < 30)) = true := by rfl)
    (hline : (apos.endLine == cpos.line) = true := by rfl) (hs : starEach (e :: es) X.env = (false, eval e X.env) :: starEach es X.env := by rfl) (hplain : (backTo cpos (starEach es X.env)).any (·.1) = false := by rfl) :
    EE X W (.Call (.Attribute (.Subscript o kx p3) name apos) (e :: es) [] cpos) (fMetG T m i k fs) :=
  PE.imp (pe_bm pa slot hty hm (pe_ix (ix_sub hu) ho hk hs0) ha hbase hfew hline hs hplain) fun _ _ _ q => fmetg_go hp q
end
section
variable {fs : List (Ev → Res RV)} {e : Ev} {Q : RV → Ev → Prop}
theorem ok_metG {T : String} {m : MOp} {i : Nat} {k : Sm} {d kd c : PyData} (h0 : e[i]? = some (some (.dt d 2))) (h1 : simD e k = some kd) (h2 : subD d kd = some c) (h3 : typD T c = true)
    (h : OkA fs (e.set i none) fun rs e1 => ∃ as e2 c' r, settle rs e1 = some (as, e2) ∧ m c as = some (c', r) ∧ Q (.val r 0) (e2.set i (some (.dt (setD d kd c') 2)))) : Ok (fMetG T m i k fs) e Q := by
  obtain ⟨rs, e1, h4, as, e2, c', r, h5, h6, q⟩ := h
  refine ⟨_, _, ?_, q⟩
  unfold fMetG
  simp only [h0, h1, h2]
  rw [if_pos h3, h4]
  show (match settle rs e1 with | some (as, e2) => (match m c as with | some (c', r) => _ | none => _) | none => _) = _
  rw [h5]
  show (match m c as with | some (c', r) => _ | none => _) = _
  rw [h6]
end
/-- nothing is said of these statements -/
theorem ess_no {X : Cx} {W : WX} {P : Nat → Bool} {sts : List Stmt} : ESs X W P sts fNo := ⟨fun pins s σ H D I q => by
  obtain ⟨S, e, A, C, q⟩ := q
  exact q.elim⟩
end PV

/-! PVV18: a call without arguments; x[k] != y[l] where the slots own their items. -/
namespace PV
open PySem PySem.Spec PyProof.Rows L2
/-! ### f() -/
section
variable {X : Cx} {W : WX} {k : Nat} {f : Addr} {fd : FuncData} {ps : List Str} {sp : Sp} {x : Str} {p pos : Pos} {E : L2.St → XK}
theorem pe_g0 (F : FnG X.prog X.w X.K X.mg X.base k f fd ps sp) (room : Room k X.A) (gd : X.A.guards = some []) (hg : Gl X x) (hm : X.mg x = some (.ref f)) (hk : PySem.W.keepIn X.K (.ref f) = true) (bd : Binds X.K fd ps []) (hx : ∀ σ, PassesAt (L2.CX X.prog X.w) X σ (E σ))
    (hdb : (x == ("__debug__" : Str)) = false := by decide) : PE X (.Call (.Name x p) [] [] pos) (tCallS sp E tNil) := by
  constructor
  intro pins s σ H Q I h
  apply wpAny_Call_Name_kw
  apply ld_glob I hg hm _ hdb
  exact PySem.W.callWith_K0 I.kIn hk (run_g F room gd bd (hx σ) I .nil h)
theorem ee_call0 {np : Nat} {F : Den}
    (Fk : FnG X.prog X.w X.K X.mg X.base k f fd ps (spF (gx X) false np F)) (hr : Room k X.A) (gd : X.A.guards = some []) (hg : Gl X x) (hm : X.mg x = some (.ref f)) (hk : PySem.W.keepIn X.K (.ref f) = true) (hb : Binds X.K fd ps []) (tk : Takes X W)
    (hdb : (x == ("__debug__" : Str)) = false := by decide) :
    EE X W (.Call (.Name x p) [] [] pos) (fCall np F []) :=
  PE.imp (pe_g0 Fk hr gd hg hm hk hb (fun σ => passAt tk σ) hdb) fun σ H Q q => by
    obtain ⟨S, ev, A, C, q⟩ := q
    refine tArgs_next (W := W) (fs := []) (G := gx X) C (S0 := S) (A0 := A) (H0 := H) Step.refl0 ?_
    have q' : PostE (gx X) W S H σ A Q (callK np F [] ev) := q
    intro us H1 S1 A1 eu R1 st1
    cases us with
    | cons t us => cases eu
    | nil => exact call_ok (G := gx X) R1 st1 q'
end
/-! ### x[k] != y[l] -/
def oNe2 : Op := fun ds => match ds with
  | [d, k, y, l] => match subD d k, subD y l with
    | some c, some c' => oNe [c, c']
    | _, _ => none
  | _ => none
def rNe2 (K : PySem.W.Frag) (x k y l : V) (H : Hp) (Q : VK) : Prop := rSub K x k H fun z H1 => rSub K y l H1 fun w H2 => rNeU K z w H2 Q
theorem p_ne2 {K : PySem.W.Frag} : Prim K (fun vs H Q => ∀ x k y l, vs = [x, k, y, l] → rNe2 K x k y l H Q) oNe2 := fun vs ds S H Q r m rp sb e q x k y l ev => by
  unfold oNe2 at e
  split at e
  · rename_i d kd y' ld
    subst ev
    cases rp with
    | cons h1 rp => cases rp with
      | cons h2 rp => cases rp with
        | cons h3 rp => cases rp with
          | cons h4 rp =>
            cases rp
            split at e
            · rename_i c c' hc hc'
              obtain ⟨w, rw', k1⟩ := rp_sub h1 h2 hc
              obtain ⟨u, ru', k2⟩ := rp_sub h3 h4 hc'
              exact k1 H sb _ (k2 H sb _ (p_ne [w, u] [c, c'] S H Q r m (.cons rw' (.cons ru' .nil)) sb e q w u rfl))
            · cases e
  · cases e
section
variable {G : Gx} {W : WX} {σ : L2.St} {H : Hp}
theorem var_go {i : Nat} {Q : VK} (q : tR G W (fVar i) σ H Q) : tVar i σ H Q := by
  obtain ⟨S, e, A, R, q⟩ := q
  unfold fVar at q
  match hi : e[i]?, q with
  | some (some (.dt d 0)), q =>
    obtain ⟨v, f, B, C, e1, e2, o, _⟩ := R.slots.at i hi
    obtain ⟨ef, rp⟩ := o
    exact ⟨v, e1, q v H S A [] (R.one ⟨rfl, rp⟩ rfl) .refl0⟩
  | some (some (.dt d (n + 1))), q =>
    obtain ⟨v, f, B, C, e1, e2, o, _⟩ := R.slots.at i hi
    exact ⟨v, e1, q v H S A [] (R.one ⟨rfl, e1⟩ rfl) .refl0⟩
  | some (some (.ex c)), q =>
    obtain ⟨a, C, e1, h1, h2⟩ := R.slots.exAt (i := i) hi
    exact ⟨.ref a, e1, q _ H S A [] (R.one ⟨rfl, a, C, rfl, h1, h2⟩ rfl) .refl0⟩
  | some (some (.fz ds)), q =>
    obtain ⟨a, vs, e1, _, _⟩ := R.slots.fzAt hi
    exact ⟨_, e1, q _ H S A [] (R.one ⟨rfl, e1⟩ rfl) .refl0⟩
  | some none, q => exact q.elim
  | none, q => exact q.elim
theorem int_go {i : Int} {Q : VK} (q : tR G W (fC (.int i)) σ H Q) : Q (.int i) H := by
  obtain ⟨S, e, A, R, q⟩ := q
  exact q (.int i) H S A [] (R.one ⟨rfl, .int i⟩ rfl) .refl0
theorem rSub_mono {K : PySem.W.Frag} {x y : V} {Q Q' : VK} (h : rSub K x y H Q) (k : ∀ v H, Q v H → Q' v H) : rSub K x y H Q' := by
  rcases h with h | h | h
  · obtain ⟨a, xs, i, v, h1, h2, h3, h4, h5⟩ := h
    exact .inl ⟨a, xs, i, v, h1, h2, h3, h4, k _ _ h5⟩
  · obtain ⟨a, xs, i, v, h1, h2, h3, h4, h5⟩ := h
    exact .inr (.inl ⟨a, xs, i, v, h1, h2, h3, h4, k _ _ h5⟩)
  · obtain ⟨a, v, h1, h2, h3⟩ := h
    exact .inr (.inr ⟨a, v, h1, h2, k _ _ h3⟩)
theorem ne2_go {i j : Nat} {k l : Int} {Q : VK} (q : tR G W (fN oNe2 [fVar i, fC (.int k), fVar j, fC (.int l)]) σ H Q) : tOp (rNeU G.K) (tOp (rSub G.K) (tVar i) (tC (.int k))) (tOp (rSub G.K) (tVar j) (tC (.int l))) σ H Q := by
  have q1 := many_ok (R := fun vs H Q => ∀ x k y l, vs = [x, k, y, l] → rNe2 G.K x k y l H Q) p_ne2 q
  obtain ⟨v, e1, q2⟩ := var_go q1
  have q3 := int_go q2
  obtain ⟨u, e2, q4⟩ := var_go q3
  have q5 := int_go q4
  refine ⟨v, e1, rSub_mono (q5 _ _ _ _ rfl) fun z H1 h => ⟨u, e2, h⟩⟩
end
section
variable {X : Cx} {W : WX} {x y : Str} {p1 p2 p3 p4 p5 p6 pos : Pos} {i j : Nat} {k l : Int} {c1 c2 : Option Str}
theorem ee_ne2 (hu : X.A.units + 65 < cLine) (hi : PE X (.Name x p1) (tVar i)) (hj : PE X (.Name y p4) (tVar j)) {q1 q2} :
    EE X W (.Compare (.Subscript (.Name x p1) (.Constant (.int k) q1 p2) p3) [.NotEq] [.Subscript (.Name y p4) (.Constant (.int l) q2 p5) p6] pos) (fN oNe2 [fVar i, fC (.int k), fVar j, fC (.int l)]) :=
  PE.imp (pe_cmpR (op_neU (by omega)) (pe_ix (ix_sub (u1_of hu)) hi pe_int (by intro _ _; rfl)) (pe_ix (ix_sub (u1_of hu)) hj pe_int (by intro _ _; rfl)) (nomark _)) fun σ H Q q => ne2_go q
theorem et_ne2 (hu : X.A.units + 65 < cLine) (hi : PE X (.Name x p1) (tVar i)) (hj : PE X (.Name y p4) (tVar j)) {q1 q2} :
    ET X W (.Compare (.Subscript (.Name x p1) (.Constant (.int k) q1 p2) p3) [.NotEq] [.Subscript (.Name y p4) (.Constant (.int l) q2 p5) p6] pos) (fN oNe2 [fVar i, fC (.int k), fVar j, fC (.int l)]) :=
  PT.imp (pt_cmpR (op_neU (by omega)) (pe_ix (ix_sub (u1_of hu)) hi pe_int (by intro _ _; rfl)) (pe_ix (ix_sub (u1_of hu)) hj pe_int (by intro _ _; rfl)) (nomark _)) fun σ H Q q => by
    have q' := tT_tB q
    exact ne2_go (G := gx X) (Q := fun x H' => ∃ k, x = .bl k ∧ Q k H') q'
end
/-! ### x[k] == [] -/
def oEqAt : Op := fun ds => match ds with
  | [d, k] => match subD d k with
    | some (.list c) => some (.bool c.isEmpty, 0)
    | _ => none
  | _ => none
def rEqAt (K : PySem.W.Frag) : R2 := fun x y H Q => rSub K x y H fun z H1 => ([] : List V).length ≤ sizeLine ∧ ∀ p, H1 p = none → rEqU K z (.ref p) (upd H1 p (.lst [])) Q
theorem p_eqAt {K : PySem.W.Frag} : Prim K (fun vs H Q => ∀ x y, vs = [x, y] → rEqAt K x y H Q) oEqAt := fun vs ds S H Q r m rp sb e q x y ev => by
  unfold oEqAt at e
  split at e
  · rename_i d k
    obtain ⟨v1, v2, rfl, h1, h2⟩ := rp_two' rp
    cases ev
    split at e
    · rename_i c hc
      cases e
      obtain ⟨w, rw', k⟩ := rp_sub h1 h2 hc
      refine k H sb _ ⟨Nat.zero_le _, fun p hp => ?_⟩
      have hSp : S p = none := by
        cases z : S p with
        | none => rfl
        | some o => rw [sb p o z] at hp; cases hp
      have s1 : Same S (upd S p (.lst [])) := fun b o z => by rw [upd_ne (ne_of_none z hSp)]; exact z
      have s2 : Same (upd S p (.lst [])) (upd H p (.lst [])) := fun b o z => by
        by_cases hb : b = p
        · subst hb; rw [upd_same] at z ⊢; exact z
        · rw [upd_ne hb] at z ⊢; exact sb b o z
      have s3 : Same H (upd H p (.lst [])) := fun b o z => by rw [upd_ne (ne_of_none z hp)]; exact z
      refine p_eq [w, .ref p] [.list c, .list []] (upd S p (.lst [])) (upd H p (.lst [])) Q (.bool c.isEmpty) 0 (.cons (rw'.mn s1) (.cons (.lst upd_same .nil) .nil)) s2 ?_ (fun v H2 S2 f M o => ?_) w (.ref p) rfl
      · show (if _ ∨ _ ∨ _ then some (PyData.bool (PyData.eqv (.list c) (.list []))) else none).map _ = _
        rw [if_pos (.inr (.inr rfl)), eqv_isNil]; rfl
      · refine q v H2 S2 f ⟨s1.trans M.ss, s3.trans M.hh, M.sh, fun b o z => ?_, M.nod, fun a ha => ?_⟩ o
        · rcases M.fresh b o z with y | y
          · by_cases hb : b = p
            · subst hb; exact .inr hp
            · rw [upd_ne hb] at y; exact .inl y
          · refine .inr ?_
            cases w : H b with
            | none => rfl
            | some u => rw [s3 b u w] at y; cases y
        · refine ⟨(M.new a ha).1, ?_⟩
          cases w : H a with
          | none => rfl
          | some u => have := (M.new a ha).2; rw [s3 a u w] at this; cases this
    · cases e
  · cases e
section
variable {X : Cx} {W : WX} {a b : Expr} {fa fb : Ev → Res RV} {pos p1 p2 : Pos}
theorem ee_eqAt (hu : X.A.units + 65 < cLine) (ha : EE X W a fa) (hb : EE X W b fb) (hs : PlainIx b := by intro _ _; rfl) : EE X W (.Compare (.Subscript a b p1) [.Eq] [.List [] p2] pos) (f2 oEqAt fa fb) :=
  PE.imp (pe_cmpR (op_eqU (by omega)) (pe_ix (ix_sub (u1_of hu)) ha hb hs) (pe_lst pa_nil) (nomark _)) fun σ H Q q => two_ok (R := rEqAt X.K) p_eqAt q
theorem et_eqAt (hu : X.A.units + 65 < cLine) (ha : EE X W a fa) (hb : EE X W b fb) (hs : PlainIx b := by intro _ _; rfl) : ET X W (.Compare (.Subscript a b p1) [.Eq] [.List [] p2] pos) (f2 oEqAt fa fb) :=
  PT.imp (pt_cmpR (op_eqU (by omega)) (pe_ix (ix_sub (u1_of hu)) ha hb hs) (pe_lst pa_nil) (nomark _)) fun σ H Q q => by
    have q' := tT_tB q
    exact two_ok (G := gx X) (R := rEqAt X.K) (Q := fun x H' => ∃ k, x = .bl k ∧ Q k H') p_eqAt q'
end
end PV

namespace LW
open PySem PySem.Spec PyProof.Rows L2 PV
def topS (i : Nat) : Stmt := PySem.Challenge.pw_tierounds_k07_long_webs.main.body.getD i (.Pass ⟨0, 0, 0, 0⟩)
abbrev s__law_well : Stmt := topS 25
abbrev N__law_well : List Str := ["cell"]
theorem sc__law_well : FnScope N__law_well ["cell"] (defScope s__law_well) := ⟨rfl, rfl, rfl, by decide +kernel, rfl, by decide +kernel, by decide +kernel⟩
abbrev s__law_mixed : Stmt := topS 24
abbrev N__law_mixed : List Str := ["cell", "k", "number"]
theorem sc__law_mixed : FnScope N__law_mixed ["cell", "k"] (defScope s__law_mixed) := ⟨rfl, rfl, rfl, by decide +kernel, rfl, by decide +kernel, by decide +kernel⟩
abbrev s__law_draw : Stmt := topS 26
abbrev N__law_draw : List Str := ["well", "many", "got"]
theorem sc__law_draw : FnScope N__law_draw ["well", "many"] (defScope s__law_draw) := ⟨rfl, rfl, rfl, by decide +kernel, rfl, by decide +kernel, by decide +kernel⟩
abbrev s__law_walk : Stmt := topS 28
abbrev N__law_walk : List Str := ["well", "places", "many", "home", "here", "found", "k", "other"]
theorem sc__law_walk : FnScope N__law_walk ["well", "places", "many"] (defScope s__law_walk) := ⟨rfl, rfl, rfl, by decide +kernel, rfl, by decide +kernel, by decide +kernel⟩
abbrev s__law_shuffled : Stmt := topS 27
abbrev N__law_shuffled : List Str := ["well", "some", "left", "k"]
theorem sc__law_shuffled : FnScope N__law_shuffled ["well", "some"] (defScope s__law_shuffled) := ⟨rfl, rfl, rfl, by decide +kernel, rfl, by decide +kernel, by decide +kernel⟩
abbrev s__law_web : Stmt := topS 29
abbrev N__law_web : List Str := ["well", "most", "n", "many", "places", "ties", "cut", "part", "way", "at", "k"]
theorem sc__law_web : FnScope N__law_web ["well", "most"] (defScope s__law_web) := ⟨rfl, rfl, rfl, by decide +kernel, rfl, by decide +kernel, by decide +kernel⟩
abbrev s_is_whole : Stmt := topS 6
abbrev N_is_whole : List Str := ["thing"]
theorem sc_is_whole : FnScope N_is_whole ["thing"] (defScope s_is_whole) := ⟨rfl, rfl, rfl, by decide +kernel, rfl, by decide +kernel, by decide +kernel⟩
abbrev s_is_below : Stmt := topS 7
abbrev N_is_below : List Str := ["thing", "beyond"]
theorem sc_is_below : FnScope N_is_below ["thing", "beyond"] (defScope s_is_below) := ⟨rfl, rfl, rfl, by decide +kernel, rfl, by decide +kernel, by decide +kernel⟩
abbrev s_is_led : Stmt := topS 8
abbrev N_is_led : List Str := ["thing", "many"]
theorem sc_is_led : FnScope N_is_led ["thing", "many"] (defScope s_is_led) := ⟨rfl, rfl, rfl, by decide +kernel, rfl, by decide +kernel, by decide +kernel⟩
abbrev s_is_web : Stmt := topS 9
abbrev N_is_web : List Str := ["thing", "tie"]
theorem sc_is_web : FnScope N_is_web ["thing"] (defScope s_is_web) := ⟨rfl, rfl, rfl, by decide +kernel, rfl, by decide +kernel, by decide +kernel⟩
abbrev s_need_web : Stmt := topS 10
abbrev N_need_web : List Str := ["thing"]
theorem sc_need_web : FnScope N_need_web ["thing"] (defScope s_need_web) := ⟨rfl, rfl, rfl, by decide +kernel, rfl, by decide +kernel, by decide +kernel⟩
abbrev s_ties_out : Stmt := topS 12
abbrev N_ties_out : List Str := ["web", "place", "number", "tie"]
theorem sc_ties_out : FnScope N_ties_out ["web", "place"] (defScope s_ties_out) := ⟨rfl, rfl, rfl, by decide +kernel, rfl, by decide +kernel, by decide +kernel⟩
abbrev s_ties_in : Stmt := topS 13
abbrev N_ties_in : List Str := ["web", "place", "number", "tie"]
theorem sc_ties_in : FnScope N_ties_in ["web", "place"] (defScope s_ties_in) := ⟨rfl, rfl, rfl, by decide +kernel, rfl, by decide +kernel, by decide +kernel⟩
abbrev s_uneven_places : Stmt := topS 15
abbrev N_uneven_places : List Str := ["web", "place"]
theorem sc_uneven_places : FnScope N_uneven_places ["web"] (defScope s_uneven_places) := ⟨rfl, rfl, rfl, by decide +kernel, rfl, by decide +kernel, by decide +kernel⟩
abbrev s_hung_with : Stmt := topS 16
abbrev N_hung_with : List Str := ["ties", "place", "found", "waiting", "here", "tie", "one", "other"]
theorem sc_hung_with : FnScope N_hung_with ["ties", "place"] (defScope s_hung_with) := ⟨rfl, rfl, rfl, by decide +kernel, rfl, by decide +kernel, by decide +kernel⟩
abbrev s_used_places : Stmt := topS 11
abbrev N_used_places : List Str := ["web", "place", "tie"]
theorem sc_used_places : FnScope N_used_places ["web"] (defScope s_used_places) := ⟨rfl, rfl, rfl, by decide +kernel, rfl, by decide +kernel, by decide +kernel⟩
abbrev s_can_be_gone : Stmt := topS 17
abbrev N_can_be_gone : List Str := ["web"]
theorem sc_can_be_gone : FnScope N_can_be_gone ["web"] (defScope s_can_be_gone) := ⟨rfl, rfl, rfl, by decide +kernel, rfl, by decide +kernel, by decide +kernel⟩
abbrev s_has_round : Stmt := topS 18
abbrev N_has_round : List Str := ["web"]
theorem sc_has_round : FnScope N_has_round ["web"] (defScope s_has_round) := ⟨rfl, rfl, rfl, by decide +kernel, rfl, by decide +kernel, by decide +kernel⟩
abbrev s__law_gone : Stmt := topS 30
abbrev N__law_gone : List Str := ["well", "many_places", "most", "n", "many", "walk", "order", "ties", "place", "number", "at"]
theorem sc__law_gone : FnScope N__law_gone ["well", "many_places", "most"] (defScope s__law_gone) := ⟨rfl, rfl, rfl, by decide +kernel, rfl, by decide +kernel, by decide +kernel⟩
abbrev s__law_can : Stmt := topS 31
abbrev N__law_can : List Str := ["ties", "left", "here", "found", "waiting", "place", "number"]
theorem sc__law_can : FnScope N__law_can ["ties", "left", "here"] (defScope s__law_can) := ⟨rfl, rfl, rfl, by decide +kernel, rfl, by decide +kernel, by decide +kernel⟩
abbrev s__law_even : Stmt := topS 32
abbrev N__law_even : List Str := ["web", "n", "ties", "begins", "ends", "a", "b", "place"]
theorem sc__law_even : FnScope N__law_even ["web"] (defScope s__law_even) := ⟨rfl, rfl, rfl, by decide +kernel, rfl, by decide +kernel, by decide +kernel⟩
abbrev s__law_due : Stmt := topS 33
abbrev N__law_due : List Str := ["web", "step", "ties", "left", "found", "here", "some", "number", "rest", "one"]
theorem sc__law_due : FnScope N__law_due ["web", "step"] (defScope s__law_due) := ⟨rfl, rfl, rfl, by decide +kernel, rfl, by decide +kernel, by decide +kernel⟩
abbrev s_is_left_whole : Stmt := topS 19
abbrev N_is_left_whole : List Str := ["web", "gone", "place", "left", "hung", "number", "tie"]
theorem sc_is_left_whole : FnScope N_is_left_whole ["web", "gone", "place"] (defScope s_is_left_whole) := ⟨rfl, rfl, rfl, by decide +kernel, rfl, by decide +kernel, by decide +kernel⟩
abbrev s_gone_first : Stmt := topS 20
abbrev N_gone_first : List Str := ["web", "step", "found", "place", "some", "good", "number"]
theorem sc_gone_first : FnScope N_gone_first ["web", "step"] (defScope s_gone_first) := ⟨rfl, rfl, rfl, by decide +kernel, rfl, by decide +kernel, by decide +kernel⟩
abbrev s_first_round : Stmt := topS 21
abbrev N_first_round : List Str := ["web"]
theorem sc_first_round : FnScope N_first_round ["web"] (defScope s_first_round) := ⟨rfl, rfl, rfl, by decide +kernel, rfl, by decide +kernel, by decide +kernel⟩
abbrev s_last_round : Stmt := topS 22
abbrev N_last_round : List Str := ["web"]
theorem sc_last_round : FnScope N_last_round ["web"] (defScope s_last_round) := ⟨rfl, rfl, rfl, by decide +kernel, rfl, by decide +kernel, by decide +kernel⟩
abbrev s_law : Stmt := topS 34
abbrev N_law : List Str := ["script", "cell", "well", "web", "dues", "turn", "found"]
theorem sc_law : FnScope N_law ["script"] (defScope s_law) := ⟨rfl, rfl, rfl, by decide +kernel, rfl, by decide +kernel, by decide +kernel⟩
structure Pk (K : PySem.W.Frag) (mg : Str → Option Value) where
  f__law_well : Addr
  d__law_well : FuncData
  h__law_well : Has K mg "_law_well" s__law_well ["cell"] f__law_well d__law_well
  f__law_mixed : Addr
  d__law_mixed : FuncData
  h__law_mixed : Has K mg "_law_mixed" s__law_mixed ["cell", "k"] f__law_mixed d__law_mixed
  f__law_draw : Addr
  d__law_draw : FuncData
  h__law_draw : Has K mg "_law_draw" s__law_draw ["well", "many"] f__law_draw d__law_draw
  f__law_walk : Addr
  d__law_walk : FuncData
  h__law_walk : Has K mg "_law_walk" s__law_walk ["well", "places", "many"] f__law_walk d__law_walk
  f__law_shuffled : Addr
  d__law_shuffled : FuncData
  h__law_shuffled : Has K mg "_law_shuffled" s__law_shuffled ["well", "some"] f__law_shuffled d__law_shuffled
  f__law_web : Addr
  d__law_web : FuncData
  h__law_web : Has K mg "_law_web" s__law_web ["well", "most"] f__law_web d__law_web
  f_is_whole : Addr
  d_is_whole : FuncData
  h_is_whole : Has K mg "is_whole" s_is_whole ["thing"] f_is_whole d_is_whole
  f_is_below : Addr
  d_is_below : FuncData
  h_is_below : Has K mg "is_below" s_is_below ["thing", "beyond"] f_is_below d_is_below
  f_is_led : Addr
  d_is_led : FuncData
  h_is_led : Has K mg "is_led" s_is_led ["thing", "many"] f_is_led d_is_led
  f_is_web : Addr
  d_is_web : FuncData
  h_is_web : Has K mg "is_web" s_is_web ["thing"] f_is_web d_is_web
  f_need_web : Addr
  d_need_web : FuncData
  h_need_web : Has K mg "need_web" s_need_web ["thing"] f_need_web d_need_web
  f_ties_out : Addr
  d_ties_out : FuncData
  h_ties_out : Has K mg "ties_out" s_ties_out ["web", "place"] f_ties_out d_ties_out
  f_ties_in : Addr
  d_ties_in : FuncData
  h_ties_in : Has K mg "ties_in" s_ties_in ["web", "place"] f_ties_in d_ties_in
  f_uneven_places : Addr
  d_uneven_places : FuncData
  h_uneven_places : Has K mg "uneven_places" s_uneven_places ["web"] f_uneven_places d_uneven_places
  f_hung_with : Addr
  d_hung_with : FuncData
  h_hung_with : Has K mg "hung_with" s_hung_with ["ties", "place"] f_hung_with d_hung_with
  f_used_places : Addr
  d_used_places : FuncData
  h_used_places : Has K mg "used_places" s_used_places ["web"] f_used_places d_used_places
  f_can_be_gone : Addr
  d_can_be_gone : FuncData
  h_can_be_gone : Has K mg "can_be_gone" s_can_be_gone ["web"] f_can_be_gone d_can_be_gone
  f_has_round : Addr
  d_has_round : FuncData
  h_has_round : Has K mg "has_round" s_has_round ["web"] f_has_round d_has_round
  f__law_gone : Addr
  d__law_gone : FuncData
  h__law_gone : Has K mg "_law_gone" s__law_gone ["well", "many_places", "most"] f__law_gone d__law_gone
  f__law_can : Addr
  d__law_can : FuncData
  h__law_can : Has K mg "_law_can" s__law_can ["ties", "left", "here"] f__law_can d__law_can
  f__law_even : Addr
  d__law_even : FuncData
  h__law_even : Has K mg "_law_even" s__law_even ["web"] f__law_even d__law_even
  f__law_due : Addr
  d__law_due : FuncData
  h__law_due : Has K mg "_law_due" s__law_due ["web", "step"] f__law_due d__law_due
  f_is_left_whole : Addr
  d_is_left_whole : FuncData
  h_is_left_whole : Has K mg "is_left_whole" s_is_left_whole ["web", "gone", "place"] f_is_left_whole d_is_left_whole
  f_gone_first : Addr
  d_gone_first : FuncData
  h_gone_first : Has K mg "gone_first" s_gone_first ["web", "step"] f_gone_first d_gone_first
  f_first_round : Addr
  d_first_round : FuncData
  h_first_round : Has K mg "first_round" s_first_round ["web"] f_first_round d_first_round
  f_last_round : Addr
  d_last_round : FuncData
  h_last_round : Has K mg "last_round" s_last_round ["web"] f_last_round d_last_round
  z_int : mg "int" = none
  z_len : mg "len" = none
  z_range : mg "range" = none
  z_list : mg "list" = none
  z_min : mg "min" = none
  z_isinstance : mg "isinstance" = none
  z_bool : mg "bool" = none
  z_tuple : mg "tuple" = none
  z_enumerate : mg "enumerate" = none
  z_sorted : mg "sorted" = none
  z_repr : mg "repr" = none
  g_MOST_PLACES : ∃ t, mg "MOST_PLACES" = some (.int 7 t)
  g_MOST_TIES : ∃ t, mg "MOST_TIES" = some (.int 20 t)
section
variable {Pg : Program} {w : World} {K : PySem.W.Frag} {mg : Str → Option Value} {base : Heap}
def b__law_well : Ev → SRes := fRet (fLst [f2 oMul (fVar 0) (fN oInt [f2 oGe (fVar 0) (f2 oPow (fC (.int 10)) (fC (.int 18)))]), fVar 0, fC (.int 0)])
def F__law_well : Den := runDef false 1 b__law_well
theorem n__law_well (p : Pk K mg) : FnG Pg w K mg base 1 p.f__law_well p.d__law_well ["cell"] (spF ⟨K, clOf mg⟩ false 1 F__law_well) := fn_den (N := N__law_well) p.h__law_well.F sc__law_well (by decide) fun cdv A outer s H E hr gd => by
  have sc := sc__law_well
  exact (ess_one (es_ret (ee_lst (ea_cons (xMul (ee_var (pv 0)) (ee_callTy call_int1 p_toInt (by rfl) p.z_int boot_int (ea_cons (vGtE  (ee_var (pv 0)) (xPow ee_int ee_int)) ea_nil))) (ea_cons (ee_var (pv 0)) (ea_cons ee_int ea_nil))))))
def b__law_mixed : Ev → SRes := fSeq (fSet 2 (f2 oMod (f2 oAdd (f2 oAdd (f2 oMod (fVar 0) (fC (.int 2147483629))) (f2 oMul (f2 oMul (fC (.int 1000003)) (fVar 1)) (fVar 1))) (f2 oMul (fC (.int 7919)) (fVar 1))) (fC (.int 2147483629)))) (fSeq (fSet 2 (f2 oMod (f2 oMul (fVar 2) (fVar 2)) (fC (.int 2147483587)))) (fRet (f2 oDiv (f2 oMod (f2 oMul (fVar 2) (f2 oAdd (fVar 2) (fC (.int 40961)))) (fC (.int 2147483563))) (fC (.int 4)))))
def F__law_mixed : Den := runDef false 3 b__law_mixed
theorem n__law_mixed (p : Pk K mg) : FnG Pg w K mg base 1 p.f__law_mixed p.d__law_mixed ["cell", "k"] (spF ⟨K, clOf mg⟩ false 2 F__law_mixed) := fn_den (N := N__law_mixed) p.h__law_mixed.F sc__law_mixed (by decide) fun cdv A outer s H E hr gd => by
  have sc := sc__law_mixed
  exact (ess_cons (es_set (i := 2) (by rfl) sc.nd rfl (by first | exact .inl rfl | exact .inr rfl) (xMod (xAdd (xAdd (xMod (ee_var (pv 0)) ee_int) (xMul (xMul ee_int (ee_var (pv 1))) (ee_var (pv 1)))) (xMul ee_int (ee_var (pv 1)))) ee_int))
      (ess_cons (es_set (i := 2) (by rfl) sc.nd rfl (by first | exact .inl rfl | exact .inr rfl) (xMod (xMul (ee_var (pv 2)) (ee_var (pv 2))) ee_int))
      (ess_one (es_ret (xDiv (xMod (xMul (ee_var (pv 2)) (xAdd (ee_var (pv 2)) ee_int)) ee_int) ee_int)))))
def b__law_draw : Ev → SRes := fSeq (fIf (f2 oGt (f2 oIx (fVar 0) (fC (.int 0))) (fC (.int 0))) (fSeq (fSet 2 (f2 oMod (f2 oIx (fVar 0) (fC (.int 0))) (fVar 1))) (fSeq (fAsg (tgSub sIx 0 (fC (.int 0))) (f2 oDiv (f2 oIx (fVar 0) (fC (.int 0))) (fVar 1))) (fRet (fVar 2)))) (fNx)) (fSeq (fAsg (tgSub sIx 0 (fC (.int 2))) (f2 oAdd (f2 oIx (fVar 0) (fC (.int 2))) (fC (.int 1)))) (fRet (f2 oMod (fCall 2 F__law_mixed [f2 oIx (fVar 0) (fC (.int 1)), f2 oIx (fVar 0) (fC (.int 2))]) (fVar 1))))
def F__law_draw : Den := runDef true 3 b__law_draw
theorem n__law_draw (p : Pk K mg) : FnG Pg w K mg base 2 p.f__law_draw p.d__law_draw ["well", "many"] (spF ⟨K, clOf mg⟩ true 2 F__law_draw) := fn_den (N := N__law_draw) p.h__law_draw.F sc__law_draw (by decide) fun cdv A outer s H E hr gd => by
  have sc := sc__law_draw
  exact (ess_cons (es_if (yGt  (xIx (ee_var (pv 0)) ee_int) ee_int) (ess_cons (es_set (i := 2) (by rfl) sc.nd rfl (by first | exact .inl rfl | exact .inr rfl) (xMod (xIx (ee_var (pv 0)) ee_int) (ee_var (pv 1))))
      (ess_cons (es_asg (xDiv (xIx (ee_var (pv 0)) ee_int) (ee_var (pv 1))) (eg_sub (W := wF) set_list sp_list (pv 0) ee_int))
      (ess_one (es_ret (ee_var (pv 2)))))) ess_nil)
      (ess_cons (es_asg (xAdd (xIx (ee_var (pv 0)) ee_int) ee_int) (eg_sub (W := wF) set_list sp_list (pv 0) ee_int))
      (ess_one (es_ret (xMod (ee_call (n__law_mixed p) (hr.mono (by decide)) (gA gd) (by rfl) p.h__law_mixed.g p.h__law_mixed.F.kp p.h__law_mixed.b (takes_of rfl rfl rfl rfl) (ea_cons (xIx (ee_var (pv 0)) ee_int) (ea_cons (xIx (ee_var (pv 0)) ee_int) ea_nil))) (ee_var (pv 1)))))))
def b__law_walk : Ev → SRes := fSeq (fSet 3 (f2 oIx (fVar 1) (fCallIo 2 F__law_draw 0 [fN oLen [fVar 1]]))) (fSeq (fSet 4 (fVar 3)) (fSeq (fSet 5 (fLst [])) (fSeq (fFor (fIt kRange1 [fVar 2]) (tgName 6) (fSeq (fSet 7 (f2 oIx (fLst [f2 oIx (fVar 1) (fCallIo 2 F__law_draw 0 [fN oLen [fVar 1]]), fVar 3]) (fN oInt [f2 oEq (fVar 6) (f2 oSub (fVar 2) (fC (.int 1)))]))) (fSeq (fDrop (fMet "list" mAppend 5 [fTup [fVar 4, fVar 7]])) (fSet 4 (fVar 7))))) (fRet (fVar 5)))))
def F__law_walk : Den := runDef true 8 b__law_walk
theorem n__law_walk (p : Pk K mg) : FnG Pg w K mg base 3 p.f__law_walk p.d__law_walk ["well", "places", "many"] (spF ⟨K, clOf mg⟩ true 3 F__law_walk) := fn_den (N := N__law_walk) p.h__law_walk.F sc__law_walk (by decide) fun cdv A outer s H E hr gd => by
  have sc := sc__law_walk
  exact (ess_cons (es_set (i := 3) (by rfl) sc.nd rfl (by first | exact .inl rfl | exact .inr rfl) (xIx (ee_var (pv 1)) (ee_callIo (n__law_draw p) (hr.mono (by decide)) (gA gd) (by rfl) p.h__law_draw.g p.h__law_draw.F.kp p.h__law_draw.b (takes_of rfl rfl rfl rfl) (pv 0) (ea_cons (ee_callB call_len p_len (by rfl) p.z_len boot_len (ea_cons (ee_var (pv 1)) ea_nil)) ea_nil))))
      (ess_cons (es_set (i := 4) (by rfl) sc.nd rfl (by first | exact .inl rfl | exact .inr rfl) (ee_var (pv 3)))
      (ess_cons (es_set (i := 5) (by rfl) sc.nd rfl (by first | exact .inl rfl | exact .inr rfl) (ee_lst ea_nil))
      (ess_cons (es_for (passes_of rfl) rfl (ei_range1 (by rfl) p.z_range (ea_cons (ee_var (pv 2)) ea_nil)) (eg_name (i := 6) (by rfl) sc.nd rfl (by first | exact .inl rfl | exact .inr rfl)) (ess_cons (es_set (i := 7) (by rfl) sc.nd rfl (by first | exact .inl rfl | exact .inr rfl) (xIx (ee_lst (ea_cons (xIx (ee_var (pv 1)) (ee_callIo (n__law_draw p) (hr.mono (by decide)) (gA gd) (by rfl) p.h__law_draw.g p.h__law_draw.F.kp p.h__law_draw.b (takes_of rfl rfl rfl rfl) (pv 0) (ea_cons (ee_callB call_len p_len (by rfl) p.z_len boot_len (ea_cons (ee_var (pv 1)) ea_nil)) ea_nil))) (ea_cons (ee_var (pv 3)) ea_nil))) (ee_callTy call_int1 p_toInt (by rfl) p.z_int boot_int (ea_cons (vEq (u64 hr) (ee_var (pv 6)) (xSub (ee_var (pv 2)) ee_int)) ea_nil))))
      (ess_cons (es_expr (ee_met PySem.F.plainAttrs_list PySem.F.slot_list_append PySem.F.type_list_append mt_append mp_append (pv 5) (ea_cons (ee_tup (ea_cons (ee_var (pv 4)) (ea_cons (ee_var (pv 7)) ea_nil))) ea_nil)))
      (ess_one (es_set (i := 4) (by rfl) sc.nd rfl (by first | exact .inl rfl | exact .inr rfl) (ee_var (pv 7)))))))
      (ess_one (es_ret (ee_var (pv 5))))))))
def b__law_shuffled : Ev → SRes := fSeq (fSet 2 (fN oList [fVar 1])) (fRet (fLc (fIt kRange1 [fN oLen [fVar 1]]) (tgName 3) (fYes) (fMet "list" mPopAt 2 [fCallIo 2 F__law_draw 0 [fN oLen [fVar 2]]]) [3]))
def F__law_shuffled : Den := runDef true 4 b__law_shuffled
theorem n__law_shuffled (p : Pk K mg) : FnG Pg w K mg base 3 p.f__law_shuffled p.d__law_shuffled ["well", "some"] (spF ⟨K, clOf mg⟩ true 2 F__law_shuffled) := fn_den (N := N__law_shuffled) p.h__law_shuffled.F sc__law_shuffled (by decide) fun cdv A outer s H E hr gd => by
  have sc := sc__law_shuffled
  exact (ess_cons (es_set (i := 2) (by rfl) sc.nd rfl (by first | exact .inl rfl | exact .inr rfl) (ee_callTy call_list_of p_list (by rfl) p.z_list boot_list (ea_cons (ee_var (pv 1)) ea_nil)))
      (ess_one (es_ret (ee_lc (own := [("k", 3)]) rfl sc.nd (ei_range1 (by rfl) p.z_range (ea_cons (ee_callB call_len p_len (by rfl) p.z_len boot_len (ea_cons (ee_var (pv 1)) ea_nil)) ea_nil)) (blkOk_by (own := [("k", 3)]) (N := N__law_shuffled) (sc := defScope s__law_shuffled) (by decide +kernel)) (fun _ _ _ _ _ => (eg_name (i := 3) (by rfl) sc.nd rfl (by first | exact .inl rfl | exact .inr rfl))) (fun _ _ _ _ _ => ets_nil) (fun _ _ _ _ _ => (ee_met PySem.F.plainAttrs_list PySem.F.slot_list_pop PySem.F.type_list_pop mt_popAt mp_popAt (pv 2) (ea_cons (ee_callIo (n__law_draw p) (hr.mono (by decide)) (gA gd) (by rfl) p.h__law_draw.g p.h__law_draw.F.kp p.h__law_draw.b takes0 (pv 0) (ea_cons (ee_callB call_len p_len (by rfl) p.z_len boot_len (ea_cons (ee_var (pv 2)) ea_nil)) ea_nil)) ea_nil)))))))
def b__law_web : Ev → SRes := fSeq (fSet 2 (f2 oIx (fLst [f2 oAdd (fC (.int 1)) (fCallIo 2 F__law_draw 0 [fC (.int 7)]), f2 oAdd (fC (.int 1)) (fCallIo 2 F__law_draw 0 [fC (.int 3)]), fC (.int 7)]) (fCallIo 2 F__law_draw 0 [fC (.int 3)]))) (fSeq (fSet 3 (f2 oIx (fLst [fCallIo 2 F__law_draw 0 [f2 oAdd (fN oMin2 [fVar 1, fC (.int 5)]) (fC (.int 1))], fCallIo 2 F__law_draw 0 [f2 oAdd (fVar 1) (fC (.int 1))], fVar 1]) (fCallIo 2 F__law_draw 0 [fC (.int 3)]))) (fSeq (fSet 4 (fSl (fCallIo 2 F__law_shuffled 0 [fLstRg (fVar 2) none]) (some (fCallIo 2 F__law_draw 0 [fVar 2])) none)) (fSeq (fSet 5 (fCallIo 3 F__law_walk 0 [fVar 4, fVar 3])) (fSeq (fIf (fAnd (f2 oGt (fN oLen [fVar 4]) (fC (.int 1))) (fAnd (f2 oGt (fVar 3) (fC (.int 1))) (f2 oEq (fCallIo 2 F__law_draw 0 [fC (.int 5)]) (fC (.int 0))))) (fSeq (fSet 6 (f2 oAdd (fC (.int 1)) (fCallIo 2 F__law_draw 0 [f2 oSub (fN oLen [fVar 4]) (fC (.int 1))]))) (fSeq (fSet 7 (f2 oAdd (fC (.int 1)) (fCallIo 2 F__law_draw 0 [f2 oSub (fVar 3) (fC (.int 1))]))) (fSet 5 (f2 oAdd (fCallIo 3 F__law_walk 0 [fSl (fVar 4) none (some (fVar 6)), fVar 7]) (fCallIo 3 F__law_walk 0 [fSl (fVar 4) (some (fVar 6)) none, f2 oSub (fVar 3) (fVar 7)]))))) (fNx)) (fSeq (fSet 5 (fCallIo 2 F__law_shuffled 0 [fVar 5])) (fSeq (fSet 8 (fCallIo 2 F__law_draw 0 [fC (.int 8)])) (fSeq (fSet 9 (fCallIo 2 F__law_draw 0 [f2 oAdd (fN oLen [fVar 5]) (fC (.int 1))])) (fSeq (fIf (fAnd (f2 oEq (fVar 8) (fC (.int 0))) (f2 oLt (fN oLen [fVar 5]) (fVar 1))) (fDrop (fMet "list" mInsert 5 [fVar 9, fTup [fCallIo 2 F__law_draw 0 [fVar 2], fCallIo 2 F__law_draw 0 [fVar 2]]])) (fNx)) (fSeq (fIf (f2 oEq (fVar 8) (fC (.int 1))) (fSet 5 (f2 oAdd (fSl (fVar 5) none (some (fVar 9))) (fSl (fVar 5) (some (f2 oAdd (fVar 9) (fC (.int 1)))) none))) (fNx)) (fSeq (fIf (fAnd (f2 oEq (fVar 8) (fC (.int 2))) (f2 oLt (fVar 9) (fN oLen [fVar 5]))) (fAsg (tgSub sIx 5 (fVar 9)) (f1 oRev (f2 oIx (fVar 5) (fVar 9)))) (fNx)) (fSeq (fIf (fAnd (f2 oEq (fVar 8) (fC (.int 3))) (f2 oLt (fVar 9) (fN oLen [fVar 5]))) (fAsg (tgSub sIx 5 (fVar 9)) (fTup [f2 oIx (f2 oIx (fVar 5) (fVar 9)) (fC (.int 0)), fCallIo 2 F__law_draw 0 [fVar 2]])) (fNx)) (fSeq (fIf (f2 oEq (fVar 8) (fC (.int 4))) (fSet 5 (fLc (fIt kRange1 [fVar 3]) (tgName 10) (fYes) (fTup [fCallIo 2 F__law_draw 0 [fVar 2], fCallIo 2 F__law_draw 0 [fVar 2]]) [10])) (fNx)) (fRet (fTup [fVar 2, fVar 5]))))))))))))))
def F__law_web : Den := runDef true 11 b__law_web
theorem n__law_web (p : Pk K mg) : FnG Pg w K mg base 4 p.f__law_web p.d__law_web ["well", "most"] (spF ⟨K, clOf mg⟩ true 2 F__law_web) := fn_den (N := N__law_web) p.h__law_web.F sc__law_web (by decide) fun cdv A outer s H E hr gd => by
  have sc := sc__law_web
  exact (ess_cons (es_set (i := 2) (by rfl) sc.nd rfl (by first | exact .inl rfl | exact .inr rfl) (xIx (ee_lst (ea_cons (xAdd ee_int (ee_callIo (n__law_draw p) (hr.mono (by decide)) (gA gd) (by rfl) p.h__law_draw.g p.h__law_draw.F.kp p.h__law_draw.b (takes_of rfl rfl rfl rfl) (pv 0) (ea_cons ee_int ea_nil))) (ea_cons (xAdd ee_int (ee_callIo (n__law_draw p) (hr.mono (by decide)) (gA gd) (by rfl) p.h__law_draw.g p.h__law_draw.F.kp p.h__law_draw.b (takes_of rfl rfl rfl rfl) (pv 0) (ea_cons ee_int ea_nil))) (ea_cons ee_int ea_nil)))) (ee_callIo (n__law_draw p) (hr.mono (by decide)) (gA gd) (by rfl) p.h__law_draw.g p.h__law_draw.F.kp p.h__law_draw.b (takes_of rfl rfl rfl rfl) (pv 0) (ea_cons ee_int ea_nil))))
      (ess_cons (es_set (i := 3) (by rfl) sc.nd rfl (by first | exact .inl rfl | exact .inr rfl) (xIx (ee_lst (ea_cons (ee_callIo (n__law_draw p) (hr.mono (by decide)) (gA gd) (by rfl) p.h__law_draw.g p.h__law_draw.F.kp p.h__law_draw.b (takes_of rfl rfl rfl rfl) (pv 0) (ea_cons (xAdd (ee_callB (call_min2 rfl) p_min2 (by rfl) p.z_min boot_min (ea_cons (ee_var (pv 1)) (ea_cons ee_int ea_nil))) ee_int) ea_nil)) (ea_cons (ee_callIo (n__law_draw p) (hr.mono (by decide)) (gA gd) (by rfl) p.h__law_draw.g p.h__law_draw.F.kp p.h__law_draw.b (takes_of rfl rfl rfl rfl) (pv 0) (ea_cons (xAdd (ee_var (pv 1)) ee_int) ea_nil)) (ea_cons (ee_var (pv 1)) ea_nil)))) (ee_callIo (n__law_draw p) (hr.mono (by decide)) (gA gd) (by rfl) p.h__law_draw.g p.h__law_draw.F.kp p.h__law_draw.b (takes_of rfl rfl rfl rfl) (pv 0) (ea_cons ee_int ea_nil))))
      (ess_cons (es_set (i := 4) (by rfl) sc.nd rfl (by first | exact .inl rfl | exact .inr rfl) (ee_slice (ee_callIo (n__law_shuffled p) (hr.mono (by decide)) (gA gd) (by rfl) p.h__law_shuffled.g p.h__law_shuffled.F.kp p.h__law_shuffled.b (takes_of rfl rfl rfl rfl) (pv 0) (ea_cons (ee_listRg1 rfl (by rfl) p.z_list (by rfl) p.z_range (ee_var (pv 2))) ea_nil)) (ep_some (ee_callIo (n__law_draw p) (hr.mono (by decide)) (gA gd) (by rfl) p.h__law_draw.g p.h__law_draw.F.kp p.h__law_draw.b (takes_of rfl rfl rfl rfl) (pv 0) (ea_cons (ee_var (pv 2)) ea_nil))) ep_none))
      (ess_cons (es_set (i := 5) (by rfl) sc.nd rfl (by first | exact .inl rfl | exact .inr rfl) (ee_callIo (n__law_walk p) (hr.mono (by decide)) (gA gd) (by rfl) p.h__law_walk.g p.h__law_walk.F.kp p.h__law_walk.b (takes_of rfl rfl rfl rfl) (pv 0) (ea_cons (ee_var (pv 4)) (ea_cons (ee_var (pv 3)) ea_nil))))
      (ess_cons (es_if (et_bop (ew_and (yGt  (ee_callB call_len p_len (by rfl) p.z_len boot_len (ea_cons (ee_var (pv 4)) ea_nil)) ee_int) (ew_and (yGt  (ee_var (pv 3)) ee_int) (ew_and1 (yEq (u64 hr) (ee_callIo (n__law_draw p) (hr.mono (by decide)) (gA gd) (by rfl) p.h__law_draw.g p.h__law_draw.F.kp p.h__law_draw.b (takes_of rfl rfl rfl rfl) (pv 0) (ea_cons ee_int ea_nil)) ee_int))))) (ess_cons (es_set (i := 6) (by rfl) sc.nd rfl (by first | exact .inl rfl | exact .inr rfl) (xAdd ee_int (ee_callIo (n__law_draw p) (hr.mono (by decide)) (gA gd) (by rfl) p.h__law_draw.g p.h__law_draw.F.kp p.h__law_draw.b (takes_of rfl rfl rfl rfl) (pv 0) (ea_cons (xSub (ee_callB call_len p_len (by rfl) p.z_len boot_len (ea_cons (ee_var (pv 4)) ea_nil)) ee_int) ea_nil))))
      (ess_cons (es_set (i := 7) (by rfl) sc.nd rfl (by first | exact .inl rfl | exact .inr rfl) (xAdd ee_int (ee_callIo (n__law_draw p) (hr.mono (by decide)) (gA gd) (by rfl) p.h__law_draw.g p.h__law_draw.F.kp p.h__law_draw.b (takes_of rfl rfl rfl rfl) (pv 0) (ea_cons (xSub (ee_var (pv 3)) ee_int) ea_nil))))
      (ess_one (es_set (i := 5) (by rfl) sc.nd rfl (by first | exact .inl rfl | exact .inr rfl) (xAdd (ee_callIo (n__law_walk p) (hr.mono (by decide)) (gA gd) (by rfl) p.h__law_walk.g p.h__law_walk.F.kp p.h__law_walk.b (takes_of rfl rfl rfl rfl) (pv 0) (ea_cons (ee_slice (ee_var (pv 4)) ep_none (ep_some (ee_var (pv 6)))) (ea_cons (ee_var (pv 7)) ea_nil))) (ee_callIo (n__law_walk p) (hr.mono (by decide)) (gA gd) (by rfl) p.h__law_walk.g p.h__law_walk.F.kp p.h__law_walk.b (takes_of rfl rfl rfl rfl) (pv 0) (ea_cons (ee_slice (ee_var (pv 4)) (ep_some (ee_var (pv 6))) ep_none) (ea_cons (xSub (ee_var (pv 3)) (ee_var (pv 7))) ea_nil)))))))) ess_nil)
      (ess_cons (es_set (i := 5) (by rfl) sc.nd rfl (by first | exact .inl rfl | exact .inr rfl) (ee_callIo (n__law_shuffled p) (hr.mono (by decide)) (gA gd) (by rfl) p.h__law_shuffled.g p.h__law_shuffled.F.kp p.h__law_shuffled.b (takes_of rfl rfl rfl rfl) (pv 0) (ea_cons (ee_var (pv 5)) ea_nil)))
      (ess_cons (es_set (i := 8) (by rfl) sc.nd rfl (by first | exact .inl rfl | exact .inr rfl) (ee_callIo (n__law_draw p) (hr.mono (by decide)) (gA gd) (by rfl) p.h__law_draw.g p.h__law_draw.F.kp p.h__law_draw.b (takes_of rfl rfl rfl rfl) (pv 0) (ea_cons ee_int ea_nil)))
      (ess_cons (es_set (i := 9) (by rfl) sc.nd rfl (by first | exact .inl rfl | exact .inr rfl) (ee_callIo (n__law_draw p) (hr.mono (by decide)) (gA gd) (by rfl) p.h__law_draw.g p.h__law_draw.F.kp p.h__law_draw.b (takes_of rfl rfl rfl rfl) (pv 0) (ea_cons (xAdd (ee_callB call_len p_len (by rfl) p.z_len boot_len (ea_cons (ee_var (pv 5)) ea_nil)) ee_int) ea_nil)))
      (ess_cons (es_if (et_bop (ew_and (yEq (u64 hr) (ee_var (pv 8)) ee_int) (ew_and1 (yLt  (ee_callB call_len p_len (by rfl) p.z_len boot_len (ea_cons (ee_var (pv 5)) ea_nil)) (ee_var (pv 1)))))) (ess_one (es_expr (ee_met PySem.F.plainAttrs_list PySem.F.slot_list_insert PySem.F.type_list_insert mt_insert mp_insert (pv 5) (ea_cons (ee_var (pv 9)) (ea_cons (ee_tup (ea_cons (ee_callIo (n__law_draw p) (hr.mono (by decide)) (gA gd) (by rfl) p.h__law_draw.g p.h__law_draw.F.kp p.h__law_draw.b (takes_of rfl rfl rfl rfl) (pv 0) (ea_cons (ee_var (pv 2)) ea_nil)) (ea_cons (ee_callIo (n__law_draw p) (hr.mono (by decide)) (gA gd) (by rfl) p.h__law_draw.g p.h__law_draw.F.kp p.h__law_draw.b (takes_of rfl rfl rfl rfl) (pv 0) (ea_cons (ee_var (pv 2)) ea_nil)) ea_nil))) ea_nil))))) ess_nil)
      (ess_cons (es_if (yEq (u64 hr) (ee_var (pv 8)) ee_int) (ess_one (es_set (i := 5) (by rfl) sc.nd rfl (by first | exact .inl rfl | exact .inr rfl) (xAdd (ee_slice (ee_var (pv 5)) ep_none (ep_some (ee_var (pv 9)))) (ee_slice (ee_var (pv 5)) (ep_some (xAdd (ee_var (pv 9)) ee_int)) ep_none)))) ess_nil)
      (ess_cons (es_if (et_bop (ew_and (yEq (u64 hr) (ee_var (pv 8)) ee_int) (ew_and1 (yLt  (ee_var (pv 9)) (ee_callB call_len p_len (by rfl) p.z_len boot_len (ea_cons (ee_var (pv 5)) ea_nil)))))) (ess_one (es_asg (ee_rev (xIx (ee_var (pv 5)) (ee_var (pv 9)))) (eg_sub (W := wF) set_list sp_list (pv 5) (ee_var (pv 9))))) ess_nil)
      (ess_cons (es_if (et_bop (ew_and (yEq (u64 hr) (ee_var (pv 8)) ee_int) (ew_and1 (yLt  (ee_var (pv 9)) (ee_callB call_len p_len (by rfl) p.z_len boot_len (ea_cons (ee_var (pv 5)) ea_nil)))))) (ess_one (es_asg (ee_tup (ea_cons (xIx (xIx (ee_var (pv 5)) (ee_var (pv 9))) ee_int) (ea_cons (ee_callIo (n__law_draw p) (hr.mono (by decide)) (gA gd) (by rfl) p.h__law_draw.g p.h__law_draw.F.kp p.h__law_draw.b (takes_of rfl rfl rfl rfl) (pv 0) (ea_cons (ee_var (pv 2)) ea_nil)) ea_nil))) (eg_sub (W := wF) set_list sp_list (pv 5) (ee_var (pv 9))))) ess_nil)
      (ess_cons (es_if (yEq (u64 hr) (ee_var (pv 8)) ee_int) (ess_one (es_setLc (own := [("k", 10)]) (i := 5) (by rfl) rfl sc.nd rfl rfl (sw_true rfl rfl rfl (by decide +kernel)) (ei_range1 (by rfl) p.z_range (ea_cons (ee_var (pv 3)) ea_nil)) (blkOk_by (own := [("k", 10)]) (N := N__law_web) (sc := defScope s__law_web) (by decide +kernel)) (fun _ _ _ _ _ => (eg_name (i := 10) (by rfl) sc.nd rfl (by first | exact .inl rfl | exact .inr rfl))) (fun _ _ _ _ _ => ets_nil) (fun _ _ _ _ _ => (ee_tup (ea_cons (ee_callIo (n__law_draw p) (hr.mono (by decide)) (gA gd) (by rfl) p.h__law_draw.g p.h__law_draw.F.kp p.h__law_draw.b takes0 (pv 0) (ea_cons (ee_var (pv 2)) ea_nil)) (ea_cons (ee_callIo (n__law_draw p) (hr.mono (by decide)) (gA gd) (by rfl) p.h__law_draw.g p.h__law_draw.F.kp p.h__law_draw.b takes0 (pv 0) (ea_cons (ee_var (pv 2)) ea_nil)) ea_nil)))))) ess_nil)
      (ess_one (es_ret (ee_tup (ea_cons (ee_var (pv 2)) (ea_cons (ee_var (pv 5)) ea_nil))))))))))))))))))
def b_is_whole : Ev → SRes := fRet (fAnd (f1 (oIsi "int") (fVar 0)) (fNot (f1 (oIsi "bool") (fVar 0))))
def F_is_whole : Den := runDef false 1 b_is_whole
theorem n_is_whole (p : Pk K mg) : FnG Pg w K mg base 1 p.f_is_whole p.d_is_whole ["thing"] (spF ⟨K, clOf mg⟩ false 1 F_is_whole) := fn_den (N := N_is_whole) p.h_is_whole.F sc_is_whole (by decide) fun cdv A outer s H E hr gd => by
  have sc := sc_is_whole
  exact (ess_one (es_ret (ee_and (ee_isi tyOk_int (by rfl) p.z_isinstance (by rfl) p.z_int boot_int (ee_var (pv 0))) (ee_one (ee_not (ee_isi tyOk_bool (by rfl) p.z_isinstance (by rfl) p.z_bool boot_bool (ee_var (pv 0))))))))
def b_is_below : Ev → SRes := fRet (fAnd (fCall 1 F_is_whole [fVar 0]) (fChain oLe oLt (fC (.int 0)) (fVar 0) (fVar 1)))
def F_is_below : Den := runDef false 2 b_is_below
theorem n_is_below (p : Pk K mg) : FnG Pg w K mg base 2 p.f_is_below p.d_is_below ["thing", "beyond"] (spF ⟨K, clOf mg⟩ false 2 F_is_below) := fn_den (N := N_is_below) p.h_is_below.F sc_is_below (by decide) fun cdv A outer s H E hr gd => by
  have sc := sc_is_below
  exact (ess_one (es_ret (ee_and (ee_call (n_is_whole p) (hr.mono (by decide)) (gA gd) (by rfl) p.h_is_whole.g p.h_is_whole.F.kp p.h_is_whole.b (takes_of rfl rfl rfl rfl) (ea_cons (ee_var (pv 0)) ea_nil)) (ee_one (ee_chain op_le op_ltU p_le p_lt ee_int (ee_var (pv 0)) (ee_var (pv 1)))))))
def b_is_led : Ev → SRes := fRet (fAnd (f1 (oIsi "tuple") (fVar 0)) (fAnd (f2 oEq (fN oLen [fVar 0]) (fC (.int 2))) (fAnd (fCall 2 F_is_below [f2 oIx (fVar 0) (fC (.int 0)), fVar 1]) (fCall 2 F_is_below [f2 oIx (fVar 0) (fC (.int 1)), fVar 1]))))
def F_is_led : Den := runDef false 2 b_is_led
theorem n_is_led (p : Pk K mg) : FnG Pg w K mg base 3 p.f_is_led p.d_is_led ["thing", "many"] (spF ⟨K, clOf mg⟩ false 2 F_is_led) := fn_den (N := N_is_led) p.h_is_led.F sc_is_led (by decide) fun cdv A outer s H E hr gd => by
  have sc := sc_is_led
  exact (ess_one (es_ret (ee_and (ee_isi tyOk_tuple (by rfl) p.z_isinstance (by rfl) p.z_tuple boot_tuple (ee_var (pv 0))) (ee_and (vEq (u64 hr) (ee_callB call_len p_len (by rfl) p.z_len boot_len (ea_cons (ee_var (pv 0)) ea_nil)) ee_int) (ee_and (ee_call (n_is_below p) (hr.mono (by decide)) (gA gd) (by rfl) p.h_is_below.g p.h_is_below.F.kp p.h_is_below.b (takes_of rfl rfl rfl rfl) (ea_cons (xIx (ee_var (pv 0)) ee_int) (ea_cons (ee_var (pv 1)) ea_nil))) (ee_one (ee_call (n_is_below p) (hr.mono (by decide)) (gA gd) (by rfl) p.h_is_below.g p.h_is_below.F.kp p.h_is_below.b (takes_of rfl rfl rfl rfl) (ea_cons (xIx (ee_var (pv 0)) ee_int) (ea_cons (ee_var (pv 1)) ea_nil)))))))))
def b_is_web : Ev → SRes := fSeq (fIf (fOr (fNot (f1 (oIsi "tuple") (fVar 0))) (fOr (f2 oNe (fN oLen [fVar 0]) (fC (.int 2))) (fOr (fNot (fCall 1 F_is_whole [f2 oIx (fVar 0) (fC (.int 0))])) (fNot (fChain oLe oLe (fC (.int 1)) (f2 oIx (fVar 0) (fC (.int 0))) (fC (.int 7))))))) (fRet (fC (.bool false))) (fNx)) (fSeq (fIf (fOr (fNot (f1 (oIsi "list") (f2 oIx (fVar 0) (fC (.int 1))))) (f2 oGt (fN oLen [f2 oIx (fVar 0) (fC (.int 1))]) (fC (.int 20)))) (fRet (fC (.bool false))) (fNx)) (fRet (f2 oEq (fLc (fIt1 kSeq (f2 oIx (fVar 0) (fC (.int 1)))) (tgName 1) (fNot (fCall 2 F_is_led [fVar 1, f2 oIx (fVar 0) (fC (.int 0))])) (fVar 1) [1]) (fLst []))))
def F_is_web : Den := runDef false 2 b_is_web
theorem n_is_web (p : Pk K mg) : FnG Pg w K mg base 4 p.f_is_web p.d_is_web ["thing"] (spF ⟨K, clOf mg⟩ false 1 F_is_web) := fn_den (N := N_is_web) p.h_is_web.F sc_is_web (by decide) fun cdv A outer s H E hr gd => by
  have sc := sc_is_web
  exact (ess_cons (es_if (et_bop (ew_or (et_not (et_val (ee_isi tyOk_tuple (by rfl) p.z_isinstance (by rfl) p.z_tuple boot_tuple (ee_var (pv 0))))) (ew_or (yNe (u64 hr) (ee_callB call_len p_len (by rfl) p.z_len boot_len (ea_cons (ee_var (pv 0)) ea_nil)) ee_int) (ew_or (et_not (et_val (ee_call (n_is_whole p) (hr.mono (by decide)) (gA gd) (by rfl) p.h_is_whole.g p.h_is_whole.F.kp p.h_is_whole.b (takes_of rfl rfl rfl rfl) (ea_cons (xIx (ee_var (pv 0)) ee_int) ea_nil)))) (ew_or1 (et_not (et_chain op_le op_le p_le p_le ee_int (xIx (ee_var (pv 0)) ee_int) (p.g_MOST_PLACES.elim fun t h => ee_glob (v := .int 7) (by rfl) h ⟨t, rfl⟩ fun _ => .int _)))))))) (ess_one (es_ret ee_bl)) ess_nil)
      (ess_cons (es_if (et_bop (ew_or (et_not (et_val (ee_isi tyOk_list (by rfl) p.z_isinstance (by rfl) p.z_list boot_list (xIx (ee_var (pv 0)) ee_int)))) (ew_or1 (yGt  (ee_callB call_len p_len (by rfl) p.z_len boot_len (ea_cons (xIx (ee_var (pv 0)) ee_int) ea_nil)) (p.g_MOST_TIES.elim fun t h => ee_glob (v := .int 20) (by rfl) h ⟨t, rfl⟩ fun _ => .int _))))) (ess_one (es_ret ee_bl)) ess_nil)
      (ess_one (es_ret (vEq (u64 hr) (ee_lc (own := [("tie", 1)]) rfl sc.nd (ei_seq (xIx (ee_var (pv 0)) ee_int)) (blkOk_by (own := [("tie", 1)]) (N := N_is_web) (sc := defScope s_is_web) (by decide +kernel)) (fun _ _ _ _ _ => (eg_name (i := 1) (by rfl) sc.nd rfl (by first | exact .inl rfl | exact .inr rfl))) (fun _ _ _ _ _ => (ets_one (et_not (et_val (ee_call (n_is_led p) (hr.mono (by decide)) (gA gd) (by rfl) p.h_is_led.g p.h_is_led.F.kp p.h_is_led.b takes0 (ea_cons (ee_var (pv 1)) (ea_cons (xIx (ee_var (pv 0)) ee_int) ea_nil))))))) (fun _ _ _ _ _ => (ee_var (pv 1)))) (ee_lst ea_nil))))))
def b_need_web : Ev → SRes := fIf (fNot (fCall 1 F_is_web [fVar 0])) (fNo) (fNx)
def F_need_web : Den := runDef false 1 b_need_web
theorem n_need_web (p : Pk K mg) : FnG Pg w K mg base 5 p.f_need_web p.d_need_web ["thing"] (spF ⟨K, clOf mg⟩ false 1 F_need_web) := fn_den (N := N_need_web) p.h_need_web.F sc_need_web (by decide) fun cdv A outer s H E hr gd => by
  have sc := sc_need_web
  exact (ess_one (es_if (et_not (et_val (ee_call (n_is_web p) (hr.mono (by decide)) (gA gd) (by rfl) p.h_is_web.g p.h_is_web.F.kp p.h_is_web.b (takes_of rfl rfl rfl rfl) (ea_cons (ee_var (pv 0)) ea_nil)))) (ess_one es_no) ess_nil))
def b_ties_out : Ev → SRes := fRet (fLc (fIt kEnum [f2 oIx (fVar 0) (fC (.int 1))]) (tgTup (tgCons (tgName 2) (tgCons (tgName 3) (tgNil)))) (f2 oEq (f2 oIx (fVar 3) (fC (.int 0))) (fVar 1)) (fVar 2) [2, 3])
def F_ties_out : Den := runDef false 4 b_ties_out
theorem n_ties_out (p : Pk K mg) : FnG Pg w K mg base 1 p.f_ties_out p.d_ties_out ["web", "place"] (spF ⟨K, clOf mg⟩ false 2 F_ties_out) := fn_den (N := N_ties_out) p.h_ties_out.F sc_ties_out (by decide) fun cdv A outer s H E hr gd => by
  have sc := sc_ties_out
  exact (ess_one (es_ret (ee_lc (own := [("number", 2), ("tie", 3)]) rfl sc.nd (ei_enum (by rfl) p.z_enumerate (ea_cons (xIx (ee_var (pv 0)) ee_int) ea_nil)) (blkOk_by (own := [("number", 2), ("tie", 3)]) (N := N_ties_out) (sc := defScope s_ties_out) (by decide +kernel)) (fun _ _ _ _ _ => (eg_tup rfl (egs_cons (eg_name (i := 2) (by rfl) sc.nd rfl (by first | exact .inl rfl | exact .inr rfl)) (egs_cons (eg_name (i := 3) (by rfl) sc.nd rfl (by first | exact .inl rfl | exact .inr rfl)) egs_nil)) (tgCons_len (tgCons_len tgNil_len)))) (fun _ _ _ _ _ => (ets_one (yEq (u64 hr) (xIx (ee_var (pv 3)) ee_int) (ee_var (pv 1))))) (fun _ _ _ _ _ => (ee_var (pv 2))))))
def b_ties_in : Ev → SRes := fRet (fLc (fIt kEnum [f2 oIx (fVar 0) (fC (.int 1))]) (tgTup (tgCons (tgName 2) (tgCons (tgName 3) (tgNil)))) (f2 oEq (f2 oIx (fVar 3) (fC (.int 1))) (fVar 1)) (fVar 2) [2, 3])
def F_ties_in : Den := runDef false 4 b_ties_in
theorem n_ties_in (p : Pk K mg) : FnG Pg w K mg base 1 p.f_ties_in p.d_ties_in ["web", "place"] (spF ⟨K, clOf mg⟩ false 2 F_ties_in) := fn_den (N := N_ties_in) p.h_ties_in.F sc_ties_in (by decide) fun cdv A outer s H E hr gd => by
  have sc := sc_ties_in
  exact (ess_one (es_ret (ee_lc (own := [("number", 2), ("tie", 3)]) rfl sc.nd (ei_enum (by rfl) p.z_enumerate (ea_cons (xIx (ee_var (pv 0)) ee_int) ea_nil)) (blkOk_by (own := [("number", 2), ("tie", 3)]) (N := N_ties_in) (sc := defScope s_ties_in) (by decide +kernel)) (fun _ _ _ _ _ => (eg_tup rfl (egs_cons (eg_name (i := 2) (by rfl) sc.nd rfl (by first | exact .inl rfl | exact .inr rfl)) (egs_cons (eg_name (i := 3) (by rfl) sc.nd rfl (by first | exact .inl rfl | exact .inr rfl)) egs_nil)) (tgCons_len (tgCons_len tgNil_len)))) (fun _ _ _ _ _ => (ets_one (yEq (u64 hr) (xIx (ee_var (pv 3)) ee_int) (ee_var (pv 1))))) (fun _ _ _ _ _ => (ee_var (pv 2))))))
def b_uneven_places : Ev → SRes := fRet (fLc (fIt kRange1 [f2 oIx (fVar 0) (fC (.int 0))]) (tgName 1) (f2 oNe (fN oLen [fCall 2 F_ties_out [fVar 0, fVar 1]]) (fN oLen [fCall 2 F_ties_in [fVar 0, fVar 1]])) (fVar 1) [1])
def F_uneven_places : Den := runDef false 2 b_uneven_places
theorem n_uneven_places (p : Pk K mg) : FnG Pg w K mg base 2 p.f_uneven_places p.d_uneven_places ["web"] (spF ⟨K, clOf mg⟩ false 1 F_uneven_places) := fn_den (N := N_uneven_places) p.h_uneven_places.F sc_uneven_places (by decide) fun cdv A outer s H E hr gd => by
  have sc := sc_uneven_places
  exact (ess_one (es_ret (ee_lc (own := [("place", 1)]) rfl sc.nd (ei_range1 (by rfl) p.z_range (ea_cons (xIx (ee_var (pv 0)) ee_int) ea_nil)) (blkOk_by (own := [("place", 1)]) (N := N_uneven_places) (sc := defScope s_uneven_places) (by decide +kernel)) (fun _ _ _ _ _ => (eg_name (i := 1) (by rfl) sc.nd rfl (by first | exact .inl rfl | exact .inr rfl))) (fun _ _ _ _ _ => (ets_one (yNe (u64 hr) (ee_callB call_len p_len (by rfl) p.z_len boot_len (ea_cons (ee_call (n_ties_out p) (hr.mono (by decide)) (gA gd) (by rfl) p.h_ties_out.g p.h_ties_out.F.kp p.h_ties_out.b takes0 (ea_cons (ee_var (pv 0)) (ea_cons (ee_var (pv 1)) ea_nil))) ea_nil)) (ee_callB call_len p_len (by rfl) p.z_len boot_len (ea_cons (ee_call (n_ties_in p) (hr.mono (by decide)) (gA gd) (by rfl) p.h_ties_in.g p.h_ties_in.F.kp p.h_ties_in.b takes0 (ea_cons (ee_var (pv 0)) (ea_cons (ee_var (pv 1)) ea_nil))) ea_nil))))) (fun _ _ _ _ _ => (ee_var (pv 1))))))
def b_hung_with : Ev → SRes := fSeq (fSet 2 (fDisp [(fVar 1, fC (.bool true))])) (fSeq (fSet 3 (fLst [fVar 1])) (fSeq (fWhile (f2 oNe (fVar 3) (fLst [])) (fSeq (fSet 4 (fMet "list" mPop 3 [])) (fFor (fIt1 kSeq (fVar 0)) (tgName 5) (fFor (fIt1 kSeq (fLst [fVar 5, f1 oRev (fVar 5)])) (tgTup (tgCons (tgName 6) (tgCons (tgName 7) (tgNil)))) (fIf (fAnd (f2 oEq (fVar 6) (fVar 4)) (f2 oNotInA (fVar 7) (fVar 2))) (fSeq (fAsg (tgSub sIxD 2 (fVar 7)) (fC (.bool true))) (fDrop (fMet "list" mAppend 3 [fVar 7]))) (fNx))))) 100000) (fRet (fN oSortedA [fVar 2]))))
def F_hung_with : Den := runDef false 8 b_hung_with
theorem n_hung_with (p : Pk K mg) : FnG Pg w K mg base 1 p.f_hung_with p.d_hung_with ["ties", "place"] (spF ⟨K, clOf mg⟩ false 2 F_hung_with) := fn_den (N := N_hung_with) p.h_hung_with.F sc_hung_with (by decide) fun cdv A outer s H E hr gd => by
  have sc := sc_hung_with
  exact (ess_cons (es_set (i := 2) (by rfl) sc.nd rfl (by first | exact .inl rfl | exact .inr rfl) (ee_disp (ps := [(fVar 1, fC (.bool true))]) (pps_cons (ee_var (pv 1)) ee_bl pps_nil)))
      (ess_cons (es_set (i := 3) (by rfl) sc.nd rfl (by first | exact .inl rfl | exact .inr rfl) (ee_lst (ea_cons (ee_var (pv 1)) ea_nil)))
      (ess_cons (es_while 100000 (passes_of rfl) (yNe (u64 hr) (ee_var (pv 3)) (ee_lst ea_nil)) (ess_cons (es_set (i := 4) (by rfl) sc.nd rfl (by first | exact .inl rfl | exact .inr rfl) (ee_met0 PySem.F.plainAttrs_list PySem.F.slot_list_pop PySem.F.type_list_pop mt_pop mp_pop (pv 3)))
      (ess_one (es_for (passes_of rfl) rfl (ei_seq (ee_var (pv 0))) (eg_name (i := 5) (by rfl) sc.nd rfl (by first | exact .inl rfl | exact .inr rfl)) (ess_one (es_for (passes_of rfl) rfl (ei_seq (ee_lst (ea_cons (ee_var (pv 5)) (ea_cons (ee_rev (ee_var (pv 5))) ea_nil)))) (eg_tup rfl (egs_cons (eg_name (i := 6) (by rfl) sc.nd rfl (by first | exact .inl rfl | exact .inr rfl)) (egs_cons (eg_name (i := 7) (by rfl) sc.nd rfl (by first | exact .inl rfl | exact .inr rfl)) egs_nil)) (tgCons_len (tgCons_len tgNil_len))) (ess_one (es_if (et_bop (ew_and (yEq (u64 hr) (ee_var (pv 6)) (ee_var (pv 4))) (ew_and1 (yNotInA (u65 hr) (ee_var (pv 7)) (ee_var (pv 2)))))) (ess_cons (es_asg ee_bl (eg_sub (W := wF) (set_dict (u1 hr)) sp_dict (pv 2) (ee_var (pv 7))))
      (ess_one (es_expr (ee_met PySem.F.plainAttrs_list PySem.F.slot_list_append PySem.F.type_list_append mt_append mp_append (pv 3) (ea_cons (ee_var (pv 7)) ea_nil))))) ess_nil))))))))
      (ess_one (es_ret (ee_callB (cr_sortedA rfl) p_sortedA (by rfl) p.z_sorted boot_sorted (ea_cons (ee_var (pv 2)) ea_nil)))))))
def b_used_places : Ev → SRes := fRet (fLc (fIt kRange1 [f2 oIx (fVar 0) (fC (.int 0))]) (tgName 1) (f2 oNe (fLc (fIt1 kSeq (f2 oIx (fVar 0) (fC (.int 1)))) (tgName 2) (f2 oIn (fVar 1) (fVar 2)) (fC (.int 1)) [2]) (fLst [])) (fVar 1) [1])
def F_used_places : Den := runDef false 3 b_used_places
theorem n_used_places (p : Pk K mg) : FnG Pg w K mg base 1 p.f_used_places p.d_used_places ["web"] (spF ⟨K, clOf mg⟩ false 1 F_used_places) := fn_den (N := N_used_places) p.h_used_places.F sc_used_places (by decide) fun cdv A outer s H E hr gd => by
  have sc := sc_used_places
  exact (ess_one (es_ret (ee_lc (own := [("place", 1)]) rfl sc.nd (ei_range1 (by rfl) p.z_range (ea_cons (xIx (ee_var (pv 0)) ee_int) ea_nil)) (blkOk_by (own := [("place", 1)]) (N := N_used_places) (sc := defScope s_used_places) (by decide +kernel)) (fun _ _ _ _ _ => (eg_name (i := 1) (by rfl) sc.nd rfl (by first | exact .inl rfl | exact .inr rfl))) (fun _ _ _ _ _ => (ets_one (yNe (u64 hr) (ee_lc (own := [("tie", 2)]) rfl sc.nd (ei_seq (xIx (ee_var (pv 0)) ee_int)) (blkOk_by (own := [("tie", 2)]) (N := N_used_places) (sc := _) (by rfl)) (fun _ _ _ _ _ => (eg_name (i := 2) (by rfl) sc.nd rfl (by first | exact .inl rfl | exact .inr rfl))) (fun _ _ _ _ _ => (ets_one (yIn (u65 hr) (ee_var (pv 1)) (ee_var (pv 2))))) (fun _ _ _ _ _ => ee_int)) (ee_lst ea_nil)))) (fun _ _ _ _ _ => (ee_var (pv 1))))))
def b_can_be_gone : Ev → SRes := fSeq (fIf (f2 oEq (f2 oIx (fVar 0) (fC (.int 1))) (fLst [])) (fRet (fC (.bool true))) (fNx)) (fRet (fAnd (f2 oEq (fCall 1 F_uneven_places [fVar 0]) (fLst [])) (f2 oEq (fCall 2 F_hung_with [f2 oIx (fVar 0) (fC (.int 1)), f2 oIx (f2 oIx (f2 oIx (fVar 0) (fC (.int 1))) (fC (.int 0))) (fC (.int 0))]) (fCall 1 F_used_places [fVar 0]))))
def F_can_be_gone : Den := runDef false 1 b_can_be_gone
theorem n_can_be_gone (p : Pk K mg) : FnG Pg w K mg base 3 p.f_can_be_gone p.d_can_be_gone ["web"] (spF ⟨K, clOf mg⟩ false 1 F_can_be_gone) := fn_den (N := N_can_be_gone) p.h_can_be_gone.F sc_can_be_gone (by decide) fun cdv A outer s H E hr gd => by
  have sc := sc_can_be_gone
  exact (ess_cons (es_if (yEq (u64 hr) (xIx (ee_var (pv 0)) ee_int) (ee_lst ea_nil)) (ess_one (es_ret ee_bl)) ess_nil)
      (ess_one (es_ret (ee_and (vEq (u64 hr) (ee_call (n_uneven_places p) (hr.mono (by decide)) (gA gd) (by rfl) p.h_uneven_places.g p.h_uneven_places.F.kp p.h_uneven_places.b (takes_of rfl rfl rfl rfl) (ea_cons (ee_var (pv 0)) ea_nil)) (ee_lst ea_nil)) (ee_one (vEq (u64 hr) (ee_call (n_hung_with p) (hr.mono (by decide)) (gA gd) (by rfl) p.h_hung_with.g p.h_hung_with.F.kp p.h_hung_with.b (takes_of rfl rfl rfl rfl) (ea_cons (xIx (ee_var (pv 0)) ee_int) (ea_cons (xIx (xIx (xIx (ee_var (pv 0)) ee_int) ee_int) ee_int) ea_nil))) (ee_call (n_used_places p) (hr.mono (by decide)) (gA gd) (by rfl) p.h_used_places.g p.h_used_places.F.kp p.h_used_places.b (takes_of rfl rfl rfl rfl) (ea_cons (ee_var (pv 0)) ea_nil))))))))
def b_has_round : Ev → SRes := fSeq (fDrop (fCall 1 F_need_web [fVar 0])) (fRet (fCall 1 F_can_be_gone [fVar 0]))
def F_has_round : Den := runDef false 1 b_has_round
theorem n_has_round (p : Pk K mg) : FnG Pg w K mg base 6 p.f_has_round p.d_has_round ["web"] (spF ⟨K, clOf mg⟩ false 1 F_has_round) := fn_den (N := N_has_round) p.h_has_round.F sc_has_round (by decide) fun cdv A outer s H E hr gd => by
  have sc := sc_has_round
  exact (ess_cons (es_expr (ee_call (n_need_web p) (hr.mono (by decide)) (gA gd) (by rfl) p.h_need_web.g p.h_need_web.F.kp p.h_need_web.b (takes_of rfl rfl rfl rfl) (ea_cons (ee_var (pv 0)) ea_nil)))
      (ess_one (es_ret (ee_call (n_can_be_gone p) (hr.mono (by decide)) (gA gd) (by rfl) p.h_can_be_gone.g p.h_can_be_gone.F.kp p.h_can_be_gone.b (takes_of rfl rfl rfl rfl) (ea_cons (ee_var (pv 0)) ea_nil)))))
def b__law_gone : Ev → SRes := fSeq (fSet 3 (f2 oIx (fLst [f2 oAdd (fC (.int 1)) (fCallIo 2 F__law_draw 0 [fC (.int 7)]), f2 oAdd (fC (.int 1)) (fCallIo 2 F__law_draw 0 [fC (.int 3)]), fVar 1]) (fCallIo 2 F__law_draw 0 [fC (.int 3)]))) (fSeq (fSet 4 (f2 oIx (fLst [fCallIo 2 F__law_draw 0 [f2 oAdd (fN oMin2 [fVar 2, fC (.int 5)]) (fC (.int 1))], fCallIo 2 F__law_draw 0 [f2 oAdd (fVar 2) (fC (.int 1))], fVar 2]) (fCallIo 2 F__law_draw 0 [fC (.int 3)]))) (fSeq (fSet 5 (fCallIo 3 F__law_walk 0 [fSl (fCallIo 2 F__law_shuffled 0 [fLstRg (fVar 3) none]) (some (fCallIo 2 F__law_draw 0 [fVar 3])) none, fVar 4])) (fSeq (fSet 6 (fCallIo 2 F__law_shuffled 0 [fLstRg (fVar 4) none])) (fSeq (fSet 7 (f2 oMul (fLst [fTup [fC (.int 0), fC (.int 0)]]) (fVar 4))) (fSeq (fFor (fIt kEnum [fVar 6]) (tgTup (tgCons (tgName 8) (tgCons (tgName 9) (tgNil)))) (fAsg (tgSub sIx 7 (fVar 9)) (f2 oIx (fVar 5) (fVar 8)))) (fSeq (fSet 10 (fC (.int 0))) (fSeq (fIf (f2 oGt (fVar 4) (fC (.int 0))) (fSet 10 (fMe "list" oIndex (fVar 6) [fC (.int 0)])) (fNx)) (fRet (fLst [fTup [fVar 3, fVar 7], f2 oAdd (fSl (fVar 6) (some (fVar 10)) none) (fSl (fVar 6) none (some (fVar 10)))])))))))))
def F__law_gone : Den := runDef true 11 b__law_gone
theorem n__law_gone (p : Pk K mg) : FnG Pg w K mg base 4 p.f__law_gone p.d__law_gone ["well", "many_places", "most"] (spF ⟨K, clOf mg⟩ true 3 F__law_gone) := fn_den (N := N__law_gone) p.h__law_gone.F sc__law_gone (by decide) fun cdv A outer s H E hr gd => by
  have sc := sc__law_gone
  exact (ess_cons (es_set (i := 3) (by rfl) sc.nd rfl (by first | exact .inl rfl | exact .inr rfl) (xIx (ee_lst (ea_cons (xAdd ee_int (ee_callIo (n__law_draw p) (hr.mono (by decide)) (gA gd) (by rfl) p.h__law_draw.g p.h__law_draw.F.kp p.h__law_draw.b (takes_of rfl rfl rfl rfl) (pv 0) (ea_cons ee_int ea_nil))) (ea_cons (xAdd ee_int (ee_callIo (n__law_draw p) (hr.mono (by decide)) (gA gd) (by rfl) p.h__law_draw.g p.h__law_draw.F.kp p.h__law_draw.b (takes_of rfl rfl rfl rfl) (pv 0) (ea_cons ee_int ea_nil))) (ea_cons (ee_var (pv 1)) ea_nil)))) (ee_callIo (n__law_draw p) (hr.mono (by decide)) (gA gd) (by rfl) p.h__law_draw.g p.h__law_draw.F.kp p.h__law_draw.b (takes_of rfl rfl rfl rfl) (pv 0) (ea_cons ee_int ea_nil))))
      (ess_cons (es_set (i := 4) (by rfl) sc.nd rfl (by first | exact .inl rfl | exact .inr rfl) (xIx (ee_lst (ea_cons (ee_callIo (n__law_draw p) (hr.mono (by decide)) (gA gd) (by rfl) p.h__law_draw.g p.h__law_draw.F.kp p.h__law_draw.b (takes_of rfl rfl rfl rfl) (pv 0) (ea_cons (xAdd (ee_callB (call_min2 rfl) p_min2 (by rfl) p.z_min boot_min (ea_cons (ee_var (pv 2)) (ea_cons ee_int ea_nil))) ee_int) ea_nil)) (ea_cons (ee_callIo (n__law_draw p) (hr.mono (by decide)) (gA gd) (by rfl) p.h__law_draw.g p.h__law_draw.F.kp p.h__law_draw.b (takes_of rfl rfl rfl rfl) (pv 0) (ea_cons (xAdd (ee_var (pv 2)) ee_int) ea_nil)) (ea_cons (ee_var (pv 2)) ea_nil)))) (ee_callIo (n__law_draw p) (hr.mono (by decide)) (gA gd) (by rfl) p.h__law_draw.g p.h__law_draw.F.kp p.h__law_draw.b (takes_of rfl rfl rfl rfl) (pv 0) (ea_cons ee_int ea_nil))))
      (ess_cons (es_set (i := 5) (by rfl) sc.nd rfl (by first | exact .inl rfl | exact .inr rfl) (ee_callIo (n__law_walk p) (hr.mono (by decide)) (gA gd) (by rfl) p.h__law_walk.g p.h__law_walk.F.kp p.h__law_walk.b (takes_of rfl rfl rfl rfl) (pv 0) (ea_cons (ee_slice (ee_callIo (n__law_shuffled p) (hr.mono (by decide)) (gA gd) (by rfl) p.h__law_shuffled.g p.h__law_shuffled.F.kp p.h__law_shuffled.b (takes_of rfl rfl rfl rfl) (pv 0) (ea_cons (ee_listRg1 rfl (by rfl) p.z_list (by rfl) p.z_range (ee_var (pv 3))) ea_nil)) (ep_some (ee_callIo (n__law_draw p) (hr.mono (by decide)) (gA gd) (by rfl) p.h__law_draw.g p.h__law_draw.F.kp p.h__law_draw.b (takes_of rfl rfl rfl rfl) (pv 0) (ea_cons (ee_var (pv 3)) ea_nil))) ep_none) (ea_cons (ee_var (pv 4)) ea_nil))))
      (ess_cons (es_set (i := 6) (by rfl) sc.nd rfl (by first | exact .inl rfl | exact .inr rfl) (ee_callIo (n__law_shuffled p) (hr.mono (by decide)) (gA gd) (by rfl) p.h__law_shuffled.g p.h__law_shuffled.F.kp p.h__law_shuffled.b (takes_of rfl rfl rfl rfl) (pv 0) (ea_cons (ee_listRg1 rfl (by rfl) p.z_list (by rfl) p.z_range (ee_var (pv 4))) ea_nil)))
      (ess_cons (es_set (i := 7) (by rfl) sc.nd rfl (by first | exact .inl rfl | exact .inr rfl) (xMul (ee_lst (ea_cons (ee_tup (ea_cons ee_int (ea_cons ee_int ea_nil))) ea_nil)) (ee_var (pv 4))))
      (ess_cons (es_for (passes_of rfl) rfl (ei_enum (by rfl) p.z_enumerate (ea_cons (ee_var (pv 6)) ea_nil)) (eg_tup rfl (egs_cons (eg_name (i := 8) (by rfl) sc.nd rfl (by first | exact .inl rfl | exact .inr rfl)) (egs_cons (eg_name (i := 9) (by rfl) sc.nd rfl (by first | exact .inl rfl | exact .inr rfl)) egs_nil)) (tgCons_len (tgCons_len tgNil_len))) (ess_one (es_asg (xIx (ee_var (pv 5)) (ee_var (pv 8))) (eg_sub (W := wF) set_list sp_list (pv 7) (ee_var (pv 9))))))
      (ess_cons (es_set (i := 10) (by rfl) sc.nd rfl (by first | exact .inl rfl | exact .inr rfl) ee_int)
      (ess_cons (es_if (yGt  (ee_var (pv 4)) ee_int) (ess_one (es_set (i := 10) (by rfl) sc.nd rfl (by first | exact .inl rfl | exact .inr rfl) (ee_me PySem.F.plainAttrs_list PySem.F.slot_list_index PySem.F.type_list_index (mt_indexD (u65 hr)) p_index (ee_var (pv 6)) (ea_cons ee_int ea_nil)))) ess_nil)
      (ess_one (es_ret (ee_lst (ea_cons (ee_tup (ea_cons (ee_var (pv 3)) (ea_cons (ee_var (pv 7)) ea_nil))) (ea_cons (xAdd (ee_slice (ee_var (pv 6)) (ep_some (ee_var (pv 10))) ep_none) (ee_slice (ee_var (pv 6)) ep_none (ep_some (ee_var (pv 10))))) ea_nil)))))))))))))
def b__law_can : Ev → SRes := fSeq (fSet 3 (fDisp [(fVar 2, fC (.bool true))])) (fSeq (fSet 4 (fLst [fVar 2])) (fSeq (fWhile (f2 oNe (fVar 4) (fLst [])) (fSeq (fSet 5 (fMet "list" mPop 4 [])) (fFor (fIt1 kSeq (fVar 1)) (tgName 6) (fIf (fAnd (f2 oEq (f2 oIx (f2 oIx (fVar 0) (fVar 6)) (fC (.int 0))) (fVar 5)) (f2 oNotInA (f2 oIx (f2 oIx (fVar 0) (fVar 6)) (fC (.int 1))) (fVar 3))) (fSeq (fAsg (tgSub sIxD 3 (f2 oIx (f2 oIx (fVar 0) (fVar 6)) (fC (.int 1)))) (fC (.bool true))) (fDrop (fMet "list" mAppend 4 [f2 oIx (f2 oIx (fVar 0) (fVar 6)) (fC (.int 1))]))) (fNx)))) 100000) (fRet (f2 oEq (fLc (fIt1 kSeq (fVar 1)) (tgName 6) (f2 oNotInA (f2 oIx (f2 oIx (fVar 0) (fVar 6)) (fC (.int 0))) (fVar 3)) (fVar 6) [6]) (fLst [])))))
def F__law_can : Den := runDef false 7 b__law_can
theorem n__law_can (p : Pk K mg) : FnG Pg w K mg base 1 p.f__law_can p.d__law_can ["ties", "left", "here"] (spF ⟨K, clOf mg⟩ false 3 F__law_can) := fn_den (N := N__law_can) p.h__law_can.F sc__law_can (by decide) fun cdv A outer s H E hr gd => by
  have sc := sc__law_can
  exact (ess_cons (es_set (i := 3) (by rfl) sc.nd rfl (by first | exact .inl rfl | exact .inr rfl) (ee_disp (ps := [(fVar 2, fC (.bool true))]) (pps_cons (ee_var (pv 2)) ee_bl pps_nil)))
      (ess_cons (es_set (i := 4) (by rfl) sc.nd rfl (by first | exact .inl rfl | exact .inr rfl) (ee_lst (ea_cons (ee_var (pv 2)) ea_nil)))
      (ess_cons (es_while 100000 (passes_of rfl) (yNe (u64 hr) (ee_var (pv 4)) (ee_lst ea_nil)) (ess_cons (es_set (i := 5) (by rfl) sc.nd rfl (by first | exact .inl rfl | exact .inr rfl) (ee_met0 PySem.F.plainAttrs_list PySem.F.slot_list_pop PySem.F.type_list_pop mt_pop mp_pop (pv 4)))
      (ess_one (es_for (passes_of rfl) rfl (ei_seq (ee_var (pv 1))) (eg_name (i := 6) (by rfl) sc.nd rfl (by first | exact .inl rfl | exact .inr rfl)) (ess_one (es_if (et_bop (ew_and (yEq (u64 hr) (xIx (xIx (ee_var (pv 0)) (ee_var (pv 6))) ee_int) (ee_var (pv 5))) (ew_and1 (yNotInA (u65 hr) (xIx (xIx (ee_var (pv 0)) (ee_var (pv 6))) ee_int) (ee_var (pv 3)))))) (ess_cons (es_asg ee_bl (eg_sub (W := wF) (set_dict (u1 hr)) sp_dict (pv 3) (xIx (xIx (ee_var (pv 0)) (ee_var (pv 6))) ee_int)))
      (ess_one (es_expr (ee_met PySem.F.plainAttrs_list PySem.F.slot_list_append PySem.F.type_list_append mt_append mp_append (pv 4) (ea_cons (xIx (xIx (ee_var (pv 0)) (ee_var (pv 6))) ee_int) ea_nil))))) ess_nil))))))
      (ess_one (es_ret (vEq (u64 hr) (ee_lc (own := [("number", 6)]) rfl sc.nd (ei_seq (ee_var (pv 1))) (blkOk_by (own := [("number", 6)]) (N := N__law_can) (sc := defScope s__law_can) (by decide +kernel)) (fun _ _ _ _ _ => (eg_name (i := 6) (by rfl) sc.nd rfl (by first | exact .inl rfl | exact .inr rfl))) (fun _ _ _ _ _ => (ets_one (yNotInA (u65 hr) (xIx (xIx (ee_var (pv 0)) (ee_var (pv 6))) ee_int) (ee_var (pv 3))))) (fun _ _ _ _ _ => (ee_var (pv 6)))) (ee_lst ea_nil)))))))
def b__law_even : Ev → SRes := fSeq (fAsg (tgTup (tgCons (tgName 1) (tgCons (tgName 2) (tgNil)))) (fVar 0)) (fSeq (fSet 3 (fLc (fIt1 kSeq (fVar 2)) (tgTup (tgCons (tgName 5) (tgCons (tgName 6) (tgNil)))) (fYes) (fVar 5) [5, 6])) (fSeq (fSet 4 (fLc (fIt1 kSeq (fVar 2)) (tgTup (tgCons (tgName 5) (tgCons (tgName 6) (tgNil)))) (fYes) (fVar 6) [5, 6])) (fSeq (fIf (f2 oNe (fLc (fIt kRange1 [fVar 1]) (tgName 7) (f2 oNe (fMe "list" oCount (fVar 3) [fVar 7]) (fMe "list" oCount (fVar 4) [fVar 7])) (fVar 7) [7]) (fLst [])) (fRet (fC (.bool false))) (fNx)) (fRet (fOr (f2 oEq (fVar 2) (fLst [])) (fCall 3 F__law_can [fVar 2, fLstRg (fN oLen [fVar 2]) none, f2 oIx (f2 oIx (fVar 2) (fC (.int 0))) (fC (.int 0))]))))))
def F__law_even : Den := runDef false 8 b__law_even
theorem n__law_even (p : Pk K mg) : FnG Pg w K mg base 2 p.f__law_even p.d__law_even ["web"] (spF ⟨K, clOf mg⟩ false 1 F__law_even) := fn_den (N := N__law_even) p.h__law_even.F sc__law_even (by decide) fun cdv A outer s H E hr gd => by
  have sc := sc__law_even
  exact (ess_cons (es_asg (ee_var (pv 0)) (ega (eg_tup rfl (egs_cons (eg_name (i := 1) (by rfl) sc.nd rfl (by first | exact .inl rfl | exact .inr rfl)) (egs_cons (eg_name (i := 2) (by rfl) sc.nd rfl (by first | exact .inl rfl | exact .inr rfl)) egs_nil)) (tgCons_len (tgCons_len tgNil_len)))))
      (ess_cons (es_set (i := 3) (by rfl) sc.nd rfl (by first | exact .inl rfl | exact .inr rfl) (ee_lc (own := [("a", 5), ("b", 6)]) rfl sc.nd (ei_seq (ee_var (pv 2))) (blkOk_by (own := [("a", 5), ("b", 6)]) (N := N__law_even) (sc := defScope s__law_even) (by decide +kernel)) (fun _ _ _ _ _ => (eg_tup rfl (egs_cons (eg_name (i := 5) (by rfl) sc.nd rfl (by first | exact .inl rfl | exact .inr rfl)) (egs_cons (eg_name (i := 6) (by rfl) sc.nd rfl (by first | exact .inl rfl | exact .inr rfl)) egs_nil)) (tgCons_len (tgCons_len tgNil_len)))) (fun _ _ _ _ _ => ets_nil) (fun _ _ _ _ _ => (ee_var (pv 5)))))
      (ess_cons (es_set (i := 4) (by rfl) sc.nd rfl (by first | exact .inl rfl | exact .inr rfl) (ee_lc (own := [("a", 5), ("b", 6)]) rfl sc.nd (ei_seq (ee_var (pv 2))) (blkOk_by (own := [("a", 5), ("b", 6)]) (N := N__law_even) (sc := defScope s__law_even) (by decide +kernel)) (fun _ _ _ _ _ => (eg_tup rfl (egs_cons (eg_name (i := 5) (by rfl) sc.nd rfl (by first | exact .inl rfl | exact .inr rfl)) (egs_cons (eg_name (i := 6) (by rfl) sc.nd rfl (by first | exact .inl rfl | exact .inr rfl)) egs_nil)) (tgCons_len (tgCons_len tgNil_len)))) (fun _ _ _ _ _ => ets_nil) (fun _ _ _ _ _ => (ee_var (pv 6)))))
      (ess_cons (es_if (yNe (u64 hr) (ee_lc (own := [("place", 7)]) rfl sc.nd (ei_range1 (by rfl) p.z_range (ea_cons (ee_var (pv 1)) ea_nil)) (blkOk_by (own := [("place", 7)]) (N := N__law_even) (sc := defScope s__law_even) (by decide +kernel)) (fun _ _ _ _ _ => (eg_name (i := 7) (by rfl) sc.nd rfl (by first | exact .inl rfl | exact .inr rfl))) (fun _ _ _ _ _ => (ets_one (yNe (u64 hr) (ee_me PySem.F.plainAttrs_list PySem.F.slot_list_count PySem.F.type_list_count mt_lcount p_count (ee_var (pv 3)) (ea_cons (ee_var (pv 7)) ea_nil)) (ee_me PySem.F.plainAttrs_list PySem.F.slot_list_count PySem.F.type_list_count mt_lcount p_count (ee_var (pv 4)) (ea_cons (ee_var (pv 7)) ea_nil))))) (fun _ _ _ _ _ => (ee_var (pv 7)))) (ee_lst ea_nil)) (ess_one (es_ret ee_bl)) ess_nil)
      (ess_one (es_ret (ee_or (vEq (u64 hr) (ee_var (pv 2)) (ee_lst ea_nil)) (ee_one (ee_call (n__law_can p) (hr.mono (by decide)) (gA gd) (by rfl) p.h__law_can.g p.h__law_can.F.kp p.h__law_can.b (takes_of rfl rfl rfl rfl) (ea_cons (ee_var (pv 2)) (ea_cons (ee_listRg1 rfl (by rfl) p.z_list (by rfl) p.z_range (ee_callB call_len p_len (by rfl) p.z_len boot_len (ea_cons (ee_var (pv 2)) ea_nil))) (ea_cons (xIx (xIx (ee_var (pv 2)) ee_int) ee_int) ea_nil))))))))))))
def b__law_due : Ev → SRes := fSeq (fSet 2 (f2 oIx (fVar 0) (fC (.int 1)))) (fSeq (fIf (fNot (fCall 1 F__law_even [fVar 0])) (fRet (fC .none)) (fNx)) (fSeq (fSet 3 (fLstRg (fN oLen [fVar 2]) none)) (fSeq (fSet 4 (fLst [])) (fSeq (fSet 5 (f2 oIx (f2 oIx (f2 oAdd (fVar 2) (fLst [fTup [fC (.int 0), fC (.int 0)]])) (fC (.int 0))) (fC (.int 0)))) (fSeq (fWhile (f2 oNe (fVar 3) (fLst [])) (fSeq (fSet 6 (f2 oStep (fLc (fIt1 kSeq (fVar 3)) (tgName 7) (f2 oEq (f2 oIx (f2 oIx (fVar 2) (fVar 7)) (fC (.int 0))) (fVar 5)) (fVar 7) [7]) (fVar 1))) (fSeq (fIf (f2 oEq (fVar 4) (fLst [])) (fAsg (tgName 6) (fLst [fC (.int 0)])) (fNx)) (fFor (fIt1 kSeq (fVar 6)) (tgName 7) (fSeq (fSet 8 (fLc (fIt1 kSeq (fVar 3)) (tgName 9) (f2 oNe (fVar 9) (fVar 7)) (fVar 9) [9])) (fIf (fCall 3 F__law_can [fVar 2, fVar 8, f2 oIx (f2 oIx (fVar 2) (fVar 7)) (fC (.int 1))]) (fSeq (fDrop (fMet "list" mAppend 4 [fVar 7])) (fSeq (fSet 3 (fVar 8)) (fSeq (fSet 5 (f2 oIx (f2 oIx (fVar 2) (fVar 7)) (fC (.int 1)))) (fBk)))) (fNx)))))) 100000) (fRet (fVar 4)))))))
def F__law_due : Den := runDef false 10 b__law_due
theorem n__law_due (p : Pk K mg) : FnG Pg w K mg base 3 p.f__law_due p.d__law_due ["web", "step"] (spF ⟨K, clOf mg⟩ false 2 F__law_due) := fn_den (N := N__law_due) p.h__law_due.F sc__law_due (by decide) fun cdv A outer s H E hr gd => by
  have sc := sc__law_due
  exact (ess_cons (es_set (i := 2) (by rfl) sc.nd rfl (by first | exact .inl rfl | exact .inr rfl) (xIx (ee_var (pv 0)) ee_int))
      (ess_cons (es_if (et_not (et_val (ee_call (n__law_even p) (hr.mono (by decide)) (gA gd) (by rfl) p.h__law_even.g p.h__law_even.F.kp p.h__law_even.b (takes_of rfl rfl rfl rfl) (ea_cons (ee_var (pv 0)) ea_nil)))) (ess_one (es_ret ee_non)) ess_nil)
      (ess_cons (es_set (i := 3) (by rfl) sc.nd rfl (by first | exact .inl rfl | exact .inr rfl) (ee_listRg1 rfl (by rfl) p.z_list (by rfl) p.z_range (ee_callB call_len p_len (by rfl) p.z_len boot_len (ea_cons (ee_var (pv 2)) ea_nil))))
      (ess_cons (es_set (i := 4) (by rfl) sc.nd rfl (by first | exact .inl rfl | exact .inr rfl) (ee_lst ea_nil))
      (ess_cons (es_set (i := 5) (by rfl) sc.nd rfl (by first | exact .inl rfl | exact .inr rfl) (xIx (xIx (xAdd (ee_var (pv 2)) (ee_lst (ea_cons (ee_tup (ea_cons ee_int (ea_cons ee_int ea_nil))) ea_nil))) ee_int) ee_int))
      (ess_cons (es_while 100000 (passes_of rfl) (yNe (u64 hr) (ee_var (pv 3)) (ee_lst ea_nil)) (ess_cons (es_set (i := 6) (by rfl) sc.nd rfl (by first | exact .inl rfl | exact .inr rfl) (ee_step (ee_lc (own := [("number", 7)]) rfl sc.nd (ei_seq (ee_var (pv 3))) (blkOk_by (own := [("number", 7)]) (N := N__law_due) (sc := defScope s__law_due) (by decide +kernel)) (fun _ _ _ _ _ => (eg_name (i := 7) (by rfl) sc.nd rfl (by first | exact .inl rfl | exact .inr rfl))) (fun _ _ _ _ _ => (ets_one (yEq (u64 hr) (xIx (xIx (ee_var (pv 2)) (ee_var (pv 7))) ee_int) (ee_var (pv 5))))) (fun _ _ _ _ _ => (ee_var (pv 7)))) (ee_var (pv 1))))
      (ess_cons (es_if (yEq (u64 hr) (ee_var (pv 4)) (ee_lst ea_nil)) (ess_one (es_asg (ee_lst (ea_cons ee_int ea_nil)) (ega (eg_name (i := 6) (by rfl) sc.nd rfl (by first | exact .inl rfl | exact .inr rfl))))) ess_nil)
      (ess_one (es_for (passes_of rfl) rfl (ei_seq (ee_var (pv 6))) (eg_name (i := 7) (by rfl) sc.nd rfl (by first | exact .inl rfl | exact .inr rfl)) (ess_cons (es_setLc (own := [("one", 9)]) (i := 8) (by rfl) rfl sc.nd rfl rfl (sw_true rfl rfl rfl (by decide +kernel)) (ei_seq (ee_var (pv 3))) (blkOk_by (own := [("one", 9)]) (N := N__law_due) (sc := defScope s__law_due) (by decide +kernel)) (fun _ _ _ _ _ => (eg_name (i := 9) (by rfl) sc.nd rfl (by first | exact .inl rfl | exact .inr rfl))) (fun _ _ _ _ _ => (ets_one (yNe (u64 hr) (ee_var (pv 9)) (ee_var (pv 7))))) (fun _ _ _ _ _ => (ee_var (pv 9))))
      (ess_one (es_if (et_val (ee_call (n__law_can p) (hr.mono (by decide)) (gA gd) (by rfl) p.h__law_can.g p.h__law_can.F.kp p.h__law_can.b (takes_of rfl rfl rfl rfl) (ea_cons (ee_var (pv 2)) (ea_cons (ee_var (pv 8)) (ea_cons (xIx (xIx (ee_var (pv 2)) (ee_var (pv 7))) ee_int) ea_nil))))) (ess_cons (es_expr (ee_met PySem.F.plainAttrs_list PySem.F.slot_list_append PySem.F.type_list_append mt_append mp_append (pv 4) (ea_cons (ee_var (pv 7)) ea_nil)))
      (ess_cons (es_set (i := 3) (by rfl) sc.nd rfl (by first | exact .inl rfl | exact .inr rfl) (ee_var (pv 8)))
      (ess_cons (es_set (i := 5) (by rfl) sc.nd rfl (by first | exact .inl rfl | exact .inr rfl) (xIx (xIx (ee_var (pv 2)) (ee_var (pv 7))) ee_int))
      (ess_one es_break)))) ess_nil))))))))
      (ess_one (es_ret (ee_var (pv 4))))))))))
def b_is_left_whole : Ev → SRes := fSeq (fSet 3 (fLc (fIt kEnum [f2 oIx (fVar 0) (fC (.int 1))]) (tgTup (tgCons (tgName 5) (tgCons (tgName 6) (tgNil)))) (f2 oNotIn (fVar 5) (fVar 1)) (fVar 6) [5, 6])) (fSeq (fSet 4 (fCall 2 F_hung_with [fVar 3, fVar 2])) (fRet (f2 oEq (fLc (fIt1 kSeq (fVar 3)) (tgName 6) (f2 oNotIn (f2 oIx (fVar 6) (fC (.int 0))) (fVar 4)) (fVar 6) [6]) (fLst []))))
def F_is_left_whole : Den := runDef false 7 b_is_left_whole
theorem n_is_left_whole (p : Pk K mg) : FnG Pg w K mg base 2 p.f_is_left_whole p.d_is_left_whole ["web", "gone", "place"] (spF ⟨K, clOf mg⟩ false 3 F_is_left_whole) := fn_den (N := N_is_left_whole) p.h_is_left_whole.F sc_is_left_whole (by decide) fun cdv A outer s H E hr gd => by
  have sc := sc_is_left_whole
  exact (ess_cons (es_setLc (own := [("number", 5), ("tie", 6)]) (i := 3) (by rfl) rfl sc.nd rfl rfl (sw_true rfl rfl rfl (by decide +kernel)) (ei_enum (by rfl) p.z_enumerate (ea_cons (xIx (ee_var (pv 0)) ee_int) ea_nil)) (blkOk_by (own := [("number", 5), ("tie", 6)]) (N := N_is_left_whole) (sc := defScope s_is_left_whole) (by decide +kernel)) (fun _ _ _ _ _ => (eg_tup rfl (egs_cons (eg_name (i := 5) (by rfl) sc.nd rfl (by first | exact .inl rfl | exact .inr rfl)) (egs_cons (eg_name (i := 6) (by rfl) sc.nd rfl (by first | exact .inl rfl | exact .inr rfl)) egs_nil)) (tgCons_len (tgCons_len tgNil_len)))) (fun _ _ _ _ _ => (ets_one (yNotIn (u65 hr) (ee_var (pv 5)) (ee_var (pv 1))))) (fun _ _ _ _ _ => (ee_var (pv 6))))
      (ess_cons (es_set (i := 4) (by rfl) sc.nd rfl (by first | exact .inl rfl | exact .inr rfl) (ee_call (n_hung_with p) (hr.mono (by decide)) (gA gd) (by rfl) p.h_hung_with.g p.h_hung_with.F.kp p.h_hung_with.b (takes_of rfl rfl rfl rfl) (ea_cons (ee_var (pv 3)) (ea_cons (ee_var (pv 2)) ea_nil))))
      (ess_one (es_ret (vEq (u64 hr) (ee_lc (own := [("tie", 6)]) rfl sc.nd (ei_seq (ee_var (pv 3))) (blkOk_by (own := [("tie", 6)]) (N := N_is_left_whole) (sc := defScope s_is_left_whole) (by decide +kernel)) (fun _ _ _ _ _ => (eg_name (i := 6) (by rfl) sc.nd rfl (by first | exact .inl rfl | exact .inr rfl))) (fun _ _ _ _ _ => (ets_one (yNotIn (u65 hr) (xIx (ee_var (pv 6)) ee_int) (ee_var (pv 4))))) (fun _ _ _ _ _ => (ee_var (pv 6)))) (ee_lst ea_nil))))))
def b_gone_first : Ev → SRes := fSeq (fIf (fNot (fCall 1 F_can_be_gone [fVar 0])) (fRet (fC .none)) (fNx)) (fSeq (fIf (f2 oEq (f2 oIx (fVar 0) (fC (.int 1))) (fLst [])) (fRet (fLst [])) (fNx)) (fSeq (fSet 2 (fLst [fC (.int 0)])) (fSeq (fWhile (f2 oLt (fN oLen [fVar 2]) (fN oLen [f2 oIx (fVar 0) (fC (.int 1))])) (fSeq (fSet 3 (f2 oIx (f2 oIx (f2 oIx (fVar 0) (fC (.int 1))) (f2 oIx (fVar 2) (f1 oNeg (fC (.int 1))))) (fC (.int 1)))) (fSeq (fSet 4 (fLc (fIt1 kSeq (f2 oStep (fCall 2 F_ties_out [fVar 0, fVar 3]) (fVar 1))) (tgName 6) (f2 oNotIn (fVar 6) (fVar 2)) (fVar 6) [6])) (fSeq (fSet 5 (fLc (fIt1 kSeq (fVar 4)) (tgName 6) (fCall 3 F_is_left_whole [fVar 0, f2 oAdd (fVar 2) (fLst [fVar 6]), f2 oIx (f2 oIx (f2 oIx (fVar 0) (fC (.int 1))) (fVar 6)) (fC (.int 1))]) (fVar 6) [6])) (fDrop (fMet "list" mAppend 2 [f2 oIx (fVar 5) (fC (.int 0))]))))) 100000) (fRet (fVar 2)))))
def F_gone_first : Den := runDef false 7 b_gone_first
theorem n_gone_first (p : Pk K mg) : FnG Pg w K mg base 4 p.f_gone_first p.d_gone_first ["web", "step"] (spF ⟨K, clOf mg⟩ false 2 F_gone_first) := fn_den (N := N_gone_first) p.h_gone_first.F sc_gone_first (by decide) fun cdv A outer s H E hr gd => by
  have sc := sc_gone_first
  exact (ess_cons (es_if (et_not (et_val (ee_call (n_can_be_gone p) (hr.mono (by decide)) (gA gd) (by rfl) p.h_can_be_gone.g p.h_can_be_gone.F.kp p.h_can_be_gone.b (takes_of rfl rfl rfl rfl) (ea_cons (ee_var (pv 0)) ea_nil)))) (ess_one (es_ret ee_non)) ess_nil)
      (ess_cons (es_if (yEq (u64 hr) (xIx (ee_var (pv 0)) ee_int) (ee_lst ea_nil)) (ess_one (es_ret (ee_lst ea_nil))) ess_nil)
      (ess_cons (es_set (i := 2) (by rfl) sc.nd rfl (by first | exact .inl rfl | exact .inr rfl) (ee_lst (ea_cons ee_int ea_nil)))
      (ess_cons (es_while 100000 (passes_of rfl) (yLt  (ee_callB call_len p_len (by rfl) p.z_len boot_len (ea_cons (ee_var (pv 2)) ea_nil)) (ee_callB call_len p_len (by rfl) p.z_len boot_len (ea_cons (xIx (ee_var (pv 0)) ee_int) ea_nil))) (ess_cons (es_set (i := 3) (by rfl) sc.nd rfl (by first | exact .inl rfl | exact .inr rfl) (xIx (xIx (xIx (ee_var (pv 0)) ee_int) (xIx (ee_var (pv 2)) (xNeg ee_int))) ee_int))
      (ess_cons (es_setLc (own := [("number", 6)]) (i := 4) (by rfl) rfl sc.nd rfl rfl (sw_true rfl rfl rfl (by decide +kernel)) (ei_seq (ee_step (ee_call (n_ties_out p) (hr.mono (by decide)) (gA gd) (by rfl) p.h_ties_out.g p.h_ties_out.F.kp p.h_ties_out.b (takes_of rfl rfl rfl rfl) (ea_cons (ee_var (pv 0)) (ea_cons (ee_var (pv 3)) ea_nil))) (ee_var (pv 1)))) (blkOk_by (own := [("number", 6)]) (N := N_gone_first) (sc := defScope s_gone_first) (by decide +kernel)) (fun _ _ _ _ _ => (eg_name (i := 6) (by rfl) sc.nd rfl (by first | exact .inl rfl | exact .inr rfl))) (fun _ _ _ _ _ => (ets_one (yNotIn (u65 hr) (ee_var (pv 6)) (ee_var (pv 2))))) (fun _ _ _ _ _ => (ee_var (pv 6))))
      (ess_cons (es_setLc (own := [("number", 6)]) (i := 5) (by rfl) rfl sc.nd rfl rfl (sw_true rfl rfl rfl (by decide +kernel)) (ei_seq (ee_var (pv 4))) (blkOk_by (own := [("number", 6)]) (N := N_gone_first) (sc := defScope s_gone_first) (by decide +kernel)) (fun _ _ _ _ _ => (eg_name (i := 6) (by rfl) sc.nd rfl (by first | exact .inl rfl | exact .inr rfl))) (fun _ _ _ _ _ => (ets_one (et_val (ee_call (n_is_left_whole p) (hr.mono (by decide)) (gA gd) (by rfl) p.h_is_left_whole.g p.h_is_left_whole.F.kp p.h_is_left_whole.b takes0 (ea_cons (ee_var (pv 0)) (ea_cons (xAdd (ee_var (pv 2)) (ee_lst (ea_cons (ee_var (pv 6)) ea_nil))) (ea_cons (xIx (xIx (xIx (ee_var (pv 0)) ee_int) (ee_var (pv 6))) ee_int) ea_nil))))))) (fun _ _ _ _ _ => (ee_var (pv 6))))
      (ess_one (es_expr (ee_met PySem.F.plainAttrs_list PySem.F.slot_list_append PySem.F.type_list_append mt_append mp_append (pv 2) (ea_cons (xIx (ee_var (pv 5)) ee_int) ea_nil))))))))
      (ess_one (es_ret (ee_var (pv 2))))))))
def b_first_round : Ev → SRes := fSeq (fDrop (fCall 1 F_need_web [fVar 0])) (fRet (fCall 2 F_gone_first [fVar 0, fC (.int 1)]))
def F_first_round : Den := runDef false 1 b_first_round
theorem n_first_round (p : Pk K mg) : FnG Pg w K mg base 6 p.f_first_round p.d_first_round ["web"] (spF ⟨K, clOf mg⟩ false 1 F_first_round) := fn_den (N := N_first_round) p.h_first_round.F sc_first_round (by decide) fun cdv A outer s H E hr gd => by
  have sc := sc_first_round
  exact (ess_cons (es_expr (ee_call (n_need_web p) (hr.mono (by decide)) (gA gd) (by rfl) p.h_need_web.g p.h_need_web.F.kp p.h_need_web.b (takes_of rfl rfl rfl rfl) (ea_cons (ee_var (pv 0)) ea_nil)))
      (ess_one (es_ret (ee_call (n_gone_first p) (hr.mono (by decide)) (gA gd) (by rfl) p.h_gone_first.g p.h_gone_first.F.kp p.h_gone_first.b (takes_of rfl rfl rfl rfl) (ea_cons (ee_var (pv 0)) (ea_cons ee_int ea_nil))))))
def b_last_round : Ev → SRes := fSeq (fDrop (fCall 1 F_need_web [fVar 0])) (fRet (fCall 2 F_gone_first [fVar 0, f1 oNeg (fC (.int 1))]))
def F_last_round : Den := runDef false 1 b_last_round
theorem n_last_round (p : Pk K mg) : FnG Pg w K mg base 6 p.f_last_round p.d_last_round ["web"] (spF ⟨K, clOf mg⟩ false 1 F_last_round) := fn_den (N := N_last_round) p.h_last_round.F sc_last_round (by decide) fun cdv A outer s H E hr gd => by
  have sc := sc_last_round
  exact (ess_cons (es_expr (ee_call (n_need_web p) (hr.mono (by decide)) (gA gd) (by rfl) p.h_need_web.g p.h_need_web.F.kp p.h_need_web.b (takes_of rfl rfl rfl rfl) (ea_cons (ee_var (pv 0)) ea_nil)))
      (ess_one (es_ret (ee_call (n_gone_first p) (hr.mono (by decide)) (gA gd) (by rfl) p.h_gone_first.g p.h_gone_first.F.kp p.h_gone_first.b (takes_of rfl rfl rfl rfl) (ea_cons (ee_var (pv 0)) (ea_cons (xNeg ee_int) ea_nil))))))
def b_law : Ev → SRes := fSeq (fFor (fIt1 kSeq (f2 oAdd (fLst [fC (.int 0)]) (fFz 0 fun ds => some (.list (cutD ds none (some 12)), 1)))) (tgName 1) (fSeq (fSet 2 (fCall 1 F__law_well [fVar 1])) (fFor (fIt1 kSeq (fLst [fCallIo 2 F__law_web 2 [fC (.int 20)], f2 oIx (fCallIo 3 F__law_gone 2 [fC (.int 7), fC (.int 20)]) (fC (.int 0))])) (tgName 3) (fSeq (fAsg (tgName 4) (fLst [fCall 2 F__law_due [fVar 3, fC (.int 1)], fCall 2 F__law_due [fVar 3, f1 oNeg (fC (.int 1))]])) (fFor (fIt kRange1 [fC (.int 2)]) (tgName 5) (fSeq (fSet 6 (fCall 1 F_has_round [fVar 3])) (fSeq (fIf (fOr (fNot (f1 (oIsi "bool") (fVar 6))) (f2 oNe (fVar 6) (f2 oNotN (f2 oIx (fVar 4) (fC (.int 0))) (fC .none)))) (fRet (fC (.bool false))) (fNx)) (fIf (f2 oNe (fN oRepr2 [fLst [fCall 1 F_first_round [fVar 3], fCall 1 F_last_round [fVar 3]]]) (fN oRepr2 [fVar 4])) (fRet (fC (.bool false))) (fNx))))))))) (fRet (fAnd (f2 oIsB (fCall 1 F_has_round [fTup [fC (.int 2), fLst [fTup [fC (.int 0), fC (.int 0)], fTup [fC (.int 1), fC (.int 1)]]]]) (fC (.bool false))) (f2 oIsB (fCall 1 F_has_round [fTup [fC (.int 7), fLst []]]) (fC (.bool true)))))
theorem n_law (p : Pk K mg) {f : Addr} {fd : FuncData} (hF : Fun K "law" "law" s_law f fd) : FnG Pg w K mg base 7 f fd ["script"] (spL K 7 b_law) := fn_law (N := N_law) hF sc_law fun cdv A outer s H E hr gd => by
  have sc := sc_law
  exact (ess_cons (es_for (passes_of rfl) rfl (ei_seq (xAdd (ee_lst (ea_cons ee_int ea_nil)) (ee_fzSl (pv 0) po_n (po_c pe_int)))) (eg_name (i := 1) (by rfl) sc.nd rfl (by first | exact .inl rfl | exact .inr rfl)) (ess_cons (es_set (i := 2) (by rfl) sc.nd rfl (by first | exact .inl rfl | exact .inr rfl) (ee_call (n__law_well p) (hr.mono (by decide)) (gA gd) (by rfl) p.h__law_well.g p.h__law_well.F.kp p.h__law_well.b (takes_of rfl rfl rfl rfl) (ea_cons (ee_var (pv 1)) ea_nil)))
      (ess_one (es_for (passes_of rfl) rfl (ei_seq (ee_lst (ea_cons (ee_callIo (n__law_web p) (hr.mono (by decide)) (gA gd) (by rfl) p.h__law_web.g p.h__law_web.F.kp p.h__law_web.b (takes_of rfl rfl rfl rfl) (pv 2) (ea_cons ee_int ea_nil)) (ea_cons (xIx (ee_callIo (n__law_gone p) (hr.mono (by decide)) (gA gd) (by rfl) p.h__law_gone.g p.h__law_gone.F.kp p.h__law_gone.b (takes_of rfl rfl rfl rfl) (pv 2) (ea_cons ee_int (ea_cons ee_int ea_nil))) ee_int) ea_nil)))) (eg_name (i := 3) (by rfl) sc.nd rfl (by first | exact .inl rfl | exact .inr rfl)) (ess_cons (es_asg (ee_lst (ea_cons (ee_call (n__law_due p) (hr.mono (by decide)) (gA gd) (by rfl) p.h__law_due.g p.h__law_due.F.kp p.h__law_due.b (takes_of rfl rfl rfl rfl) (ea_cons (ee_var (pv 3)) (ea_cons ee_int ea_nil))) (ea_cons (ee_call (n__law_due p) (hr.mono (by decide)) (gA gd) (by rfl) p.h__law_due.g p.h__law_due.F.kp p.h__law_due.b (takes_of rfl rfl rfl rfl) (ea_cons (ee_var (pv 3)) (ea_cons (xNeg ee_int) ea_nil))) ea_nil))) (ega (eg_name (i := 4) (by rfl) sc.nd rfl (by first | exact .inl rfl | exact .inr rfl))))
      (ess_one (es_for (passes_of rfl) rfl (ei_range1 (by rfl) p.z_range (ea_cons ee_int ea_nil)) (eg_name (i := 5) (by rfl) sc.nd rfl (by first | exact .inl rfl | exact .inr rfl)) (ess_cons (es_set (i := 6) (by rfl) sc.nd rfl (by first | exact .inl rfl | exact .inr rfl) (ee_call (n_has_round p) (hr.mono (by decide)) (gA gd) (by rfl) p.h_has_round.g p.h_has_round.F.kp p.h_has_round.b (takes_of rfl rfl rfl rfl) (ea_cons (ee_var (pv 3)) ea_nil)))
      (ess_cons (es_if (et_bop (ew_or (et_not (et_val (ee_isi tyOk_bool (by rfl) p.z_isinstance (by rfl) p.z_bool boot_bool (ee_var (pv 6))))) (ew_or1 (yNe (u64 hr) (ee_var (pv 6)) (vNotN  (xIx (ee_var (pv 4)) ee_int) ee_non))))) (ess_one (es_ret ee_bl)) ess_nil)
      (ess_one (es_if (yNe (u64 hr) (ee_callB (call_repr2 (gA gd) (u65 hr)) p_repr2 (by rfl) p.z_repr boot_repr (ea_cons (ee_lst (ea_cons (ee_call (n_first_round p) (hr.mono (by decide)) (gA gd) (by rfl) p.h_first_round.g p.h_first_round.F.kp p.h_first_round.b (takes_of rfl rfl rfl rfl) (ea_cons (ee_var (pv 3)) ea_nil)) (ea_cons (ee_call (n_last_round p) (hr.mono (by decide)) (gA gd) (by rfl) p.h_last_round.g p.h_last_round.F.kp p.h_last_round.b (takes_of rfl rfl rfl rfl) (ea_cons (ee_var (pv 3)) ea_nil)) ea_nil))) ea_nil)) (ee_callB (call_repr2 (gA gd) (u65 hr)) p_repr2 (by rfl) p.z_repr boot_repr (ea_cons (ee_var (pv 4)) ea_nil))) (ess_one (es_ret ee_bl)) ess_nil)))))))))))
      (ess_one (es_ret (ee_and (vIsB  (ee_call (n_has_round p) (hr.mono (by decide)) (gA gd) (by rfl) p.h_has_round.g p.h_has_round.F.kp p.h_has_round.b (takes_of rfl rfl rfl rfl) (ea_cons (ee_tup (ea_cons ee_int (ea_cons (ee_lst (ea_cons (ee_tup (ea_cons ee_int (ea_cons ee_int ea_nil))) (ea_cons (ee_tup (ea_cons ee_int (ea_cons ee_int ea_nil))) ea_nil))) ea_nil))) ea_nil)) ee_bl) (ee_one (vIsB  (ee_call (n_has_round p) (hr.mono (by decide)) (gA gd) (by rfl) p.h_has_round.g p.h_has_round.F.kp p.h_has_round.b (takes_of rfl rfl rfl rfl) (ea_cons (ee_tup (ea_cons ee_int (ea_cons (ee_lst ea_nil) ea_nil))) ea_nil)) ee_bl))))))
end
theorem all_mk {l : PySem.W.OpenLaw} {w : World} {K : PySem.W.Frag} {h : Heap} {mg : Str → Option Value} {fa : Addr} (X : K.In h) (G : h.Ns mainGlobals mg) (hfa : mg "law" = some (.ref fa))
    {f0 : Addr} {od0 an0 : Option Addr} {sl0 : Array (Option Value)} {oc0 kV0 dc0 pm0 cd0 ct0 : Value}
    (a0 : PySem.W.nsIn K mainGlobals "_law_well" = some (some (.ref f0))) (l0 : K.lookup f0 = some ⟨oc0, od0, .func (PySem.W.fnOf "_law_well" "_law_well" (defArgs s__law_well) (defBody s__law_well) (defScope s__law_well) .none kV0 dc0 pm0 an0 cd0 ct0), sl0⟩)
    (c0 : PySem.W.codeIn K cd0 "_law_well" = true) (k0 : PySem.W.keepIn K (.ref f0) = true)
    {f1 : Addr} {od1 an1 : Option Addr} {sl1 : Array (Option Value)} {oc1 kV1 dc1 pm1 cd1 ct1 : Value}
    (a1 : PySem.W.nsIn K mainGlobals "_law_mixed" = some (some (.ref f1))) (l1 : K.lookup f1 = some ⟨oc1, od1, .func (PySem.W.fnOf "_law_mixed" "_law_mixed" (defArgs s__law_mixed) (defBody s__law_mixed) (defScope s__law_mixed) .none kV1 dc1 pm1 an1 cd1 ct1), sl1⟩)
    (c1 : PySem.W.codeIn K cd1 "_law_mixed" = true) (k1 : PySem.W.keepIn K (.ref f1) = true)
    {f2 : Addr} {od2 an2 : Option Addr} {sl2 : Array (Option Value)} {oc2 kV2 dc2 pm2 cd2 ct2 : Value}
    (a2 : PySem.W.nsIn K mainGlobals "_law_draw" = some (some (.ref f2))) (l2 : K.lookup f2 = some ⟨oc2, od2, .func (PySem.W.fnOf "_law_draw" "_law_draw" (defArgs s__law_draw) (defBody s__law_draw) (defScope s__law_draw) .none kV2 dc2 pm2 an2 cd2 ct2), sl2⟩)
    (c2 : PySem.W.codeIn K cd2 "_law_draw" = true) (k2 : PySem.W.keepIn K (.ref f2) = true)
    {f3 : Addr} {od3 an3 : Option Addr} {sl3 : Array (Option Value)} {oc3 kV3 dc3 pm3 cd3 ct3 : Value}
    (a3 : PySem.W.nsIn K mainGlobals "_law_walk" = some (some (.ref f3))) (l3 : K.lookup f3 = some ⟨oc3, od3, .func (PySem.W.fnOf "_law_walk" "_law_walk" (defArgs s__law_walk) (defBody s__law_walk) (defScope s__law_walk) .none kV3 dc3 pm3 an3 cd3 ct3), sl3⟩)
    (c3 : PySem.W.codeIn K cd3 "_law_walk" = true) (k3 : PySem.W.keepIn K (.ref f3) = true)
    {f4 : Addr} {od4 an4 : Option Addr} {sl4 : Array (Option Value)} {oc4 kV4 dc4 pm4 cd4 ct4 : Value}
    (a4 : PySem.W.nsIn K mainGlobals "_law_shuffled" = some (some (.ref f4))) (l4 : K.lookup f4 = some ⟨oc4, od4, .func (PySem.W.fnOf "_law_shuffled" "_law_shuffled" (defArgs s__law_shuffled) (defBody s__law_shuffled) (defScope s__law_shuffled) .none kV4 dc4 pm4 an4 cd4 ct4), sl4⟩)
    (c4 : PySem.W.codeIn K cd4 "_law_shuffled" = true) (k4 : PySem.W.keepIn K (.ref f4) = true)
    {f5 : Addr} {od5 an5 : Option Addr} {sl5 : Array (Option Value)} {oc5 kV5 dc5 pm5 cd5 ct5 : Value}
    (a5 : PySem.W.nsIn K mainGlobals "_law_web" = some (some (.ref f5))) (l5 : K.lookup f5 = some ⟨oc5, od5, .func (PySem.W.fnOf "_law_web" "_law_web" (defArgs s__law_web) (defBody s__law_web) (defScope s__law_web) .none kV5 dc5 pm5 an5 cd5 ct5), sl5⟩)
    (c5 : PySem.W.codeIn K cd5 "_law_web" = true) (k5 : PySem.W.keepIn K (.ref f5) = true)
    {f6 : Addr} {od6 an6 : Option Addr} {sl6 : Array (Option Value)} {oc6 kV6 dc6 pm6 cd6 ct6 : Value}
    (a6 : PySem.W.nsIn K mainGlobals "is_whole" = some (some (.ref f6))) (l6 : K.lookup f6 = some ⟨oc6, od6, .func (PySem.W.fnOf "is_whole" "is_whole" (defArgs s_is_whole) (defBody s_is_whole) (defScope s_is_whole) .none kV6 dc6 pm6 an6 cd6 ct6), sl6⟩)
    (c6 : PySem.W.codeIn K cd6 "is_whole" = true) (k6 : PySem.W.keepIn K (.ref f6) = true)
    {f7 : Addr} {od7 an7 : Option Addr} {sl7 : Array (Option Value)} {oc7 kV7 dc7 pm7 cd7 ct7 : Value}
    (a7 : PySem.W.nsIn K mainGlobals "is_below" = some (some (.ref f7))) (l7 : K.lookup f7 = some ⟨oc7, od7, .func (PySem.W.fnOf "is_below" "is_below" (defArgs s_is_below) (defBody s_is_below) (defScope s_is_below) .none kV7 dc7 pm7 an7 cd7 ct7), sl7⟩)
    (c7 : PySem.W.codeIn K cd7 "is_below" = true) (k7 : PySem.W.keepIn K (.ref f7) = true)
    {f8 : Addr} {od8 an8 : Option Addr} {sl8 : Array (Option Value)} {oc8 kV8 dc8 pm8 cd8 ct8 : Value}
    (a8 : PySem.W.nsIn K mainGlobals "is_led" = some (some (.ref f8))) (l8 : K.lookup f8 = some ⟨oc8, od8, .func (PySem.W.fnOf "is_led" "is_led" (defArgs s_is_led) (defBody s_is_led) (defScope s_is_led) .none kV8 dc8 pm8 an8 cd8 ct8), sl8⟩)
    (c8 : PySem.W.codeIn K cd8 "is_led" = true) (k8 : PySem.W.keepIn K (.ref f8) = true)
    {f9 : Addr} {od9 an9 : Option Addr} {sl9 : Array (Option Value)} {oc9 kV9 dc9 pm9 cd9 ct9 : Value}
    (a9 : PySem.W.nsIn K mainGlobals "is_web" = some (some (.ref f9))) (l9 : K.lookup f9 = some ⟨oc9, od9, .func (PySem.W.fnOf "is_web" "is_web" (defArgs s_is_web) (defBody s_is_web) (defScope s_is_web) .none kV9 dc9 pm9 an9 cd9 ct9), sl9⟩)
    (c9 : PySem.W.codeIn K cd9 "is_web" = true) (k9 : PySem.W.keepIn K (.ref f9) = true)
    {f10 : Addr} {od10 an10 : Option Addr} {sl10 : Array (Option Value)} {oc10 kV10 dc10 pm10 cd10 ct10 : Value}
    (a10 : PySem.W.nsIn K mainGlobals "need_web" = some (some (.ref f10))) (l10 : K.lookup f10 = some ⟨oc10, od10, .func (PySem.W.fnOf "need_web" "need_web" (defArgs s_need_web) (defBody s_need_web) (defScope s_need_web) .none kV10 dc10 pm10 an10 cd10 ct10), sl10⟩)
    (c10 : PySem.W.codeIn K cd10 "need_web" = true) (k10 : PySem.W.keepIn K (.ref f10) = true)
    {f11 : Addr} {od11 an11 : Option Addr} {sl11 : Array (Option Value)} {oc11 kV11 dc11 pm11 cd11 ct11 : Value}
    (a11 : PySem.W.nsIn K mainGlobals "ties_out" = some (some (.ref f11))) (l11 : K.lookup f11 = some ⟨oc11, od11, .func (PySem.W.fnOf "ties_out" "ties_out" (defArgs s_ties_out) (defBody s_ties_out) (defScope s_ties_out) .none kV11 dc11 pm11 an11 cd11 ct11), sl11⟩)
    (c11 : PySem.W.codeIn K cd11 "ties_out" = true) (k11 : PySem.W.keepIn K (.ref f11) = true)
    {f12 : Addr} {od12 an12 : Option Addr} {sl12 : Array (Option Value)} {oc12 kV12 dc12 pm12 cd12 ct12 : Value}
    (a12 : PySem.W.nsIn K mainGlobals "ties_in" = some (some (.ref f12))) (l12 : K.lookup f12 = some ⟨oc12, od12, .func (PySem.W.fnOf "ties_in" "ties_in" (defArgs s_ties_in) (defBody s_ties_in) (defScope s_ties_in) .none kV12 dc12 pm12 an12 cd12 ct12), sl12⟩)
    (c12 : PySem.W.codeIn K cd12 "ties_in" = true) (k12 : PySem.W.keepIn K (.ref f12) = true)
    {f13 : Addr} {od13 an13 : Option Addr} {sl13 : Array (Option Value)} {oc13 kV13 dc13 pm13 cd13 ct13 : Value}
    (a13 : PySem.W.nsIn K mainGlobals "uneven_places" = some (some (.ref f13))) (l13 : K.lookup f13 = some ⟨oc13, od13, .func (PySem.W.fnOf "uneven_places" "uneven_places" (defArgs s_uneven_places) (defBody s_uneven_places) (defScope s_uneven_places) .none kV13 dc13 pm13 an13 cd13 ct13), sl13⟩)
    (c13 : PySem.W.codeIn K cd13 "uneven_places" = true) (k13 : PySem.W.keepIn K (.ref f13) = true)
    {f14 : Addr} {od14 an14 : Option Addr} {sl14 : Array (Option Value)} {oc14 kV14 dc14 pm14 cd14 ct14 : Value}
    (a14 : PySem.W.nsIn K mainGlobals "hung_with" = some (some (.ref f14))) (l14 : K.lookup f14 = some ⟨oc14, od14, .func (PySem.W.fnOf "hung_with" "hung_with" (defArgs s_hung_with) (defBody s_hung_with) (defScope s_hung_with) .none kV14 dc14 pm14 an14 cd14 ct14), sl14⟩)
    (c14 : PySem.W.codeIn K cd14 "hung_with" = true) (k14 : PySem.W.keepIn K (.ref f14) = true)
    {f15 : Addr} {od15 an15 : Option Addr} {sl15 : Array (Option Value)} {oc15 kV15 dc15 pm15 cd15 ct15 : Value}
    (a15 : PySem.W.nsIn K mainGlobals "used_places" = some (some (.ref f15))) (l15 : K.lookup f15 = some ⟨oc15, od15, .func (PySem.W.fnOf "used_places" "used_places" (defArgs s_used_places) (defBody s_used_places) (defScope s_used_places) .none kV15 dc15 pm15 an15 cd15 ct15), sl15⟩)
    (c15 : PySem.W.codeIn K cd15 "used_places" = true) (k15 : PySem.W.keepIn K (.ref f15) = true)
    {f16 : Addr} {od16 an16 : Option Addr} {sl16 : Array (Option Value)} {oc16 kV16 dc16 pm16 cd16 ct16 : Value}
    (a16 : PySem.W.nsIn K mainGlobals "can_be_gone" = some (some (.ref f16))) (l16 : K.lookup f16 = some ⟨oc16, od16, .func (PySem.W.fnOf "can_be_gone" "can_be_gone" (defArgs s_can_be_gone) (defBody s_can_be_gone) (defScope s_can_be_gone) .none kV16 dc16 pm16 an16 cd16 ct16), sl16⟩)
    (c16 : PySem.W.codeIn K cd16 "can_be_gone" = true) (k16 : PySem.W.keepIn K (.ref f16) = true)
    {f17 : Addr} {od17 an17 : Option Addr} {sl17 : Array (Option Value)} {oc17 kV17 dc17 pm17 cd17 ct17 : Value}
    (a17 : PySem.W.nsIn K mainGlobals "has_round" = some (some (.ref f17))) (l17 : K.lookup f17 = some ⟨oc17, od17, .func (PySem.W.fnOf "has_round" "has_round" (defArgs s_has_round) (defBody s_has_round) (defScope s_has_round) .none kV17 dc17 pm17 an17 cd17 ct17), sl17⟩)
    (c17 : PySem.W.codeIn K cd17 "has_round" = true) (k17 : PySem.W.keepIn K (.ref f17) = true)
    {f18 : Addr} {od18 an18 : Option Addr} {sl18 : Array (Option Value)} {oc18 kV18 dc18 pm18 cd18 ct18 : Value}
    (a18 : PySem.W.nsIn K mainGlobals "_law_gone" = some (some (.ref f18))) (l18 : K.lookup f18 = some ⟨oc18, od18, .func (PySem.W.fnOf "_law_gone" "_law_gone" (defArgs s__law_gone) (defBody s__law_gone) (defScope s__law_gone) .none kV18 dc18 pm18 an18 cd18 ct18), sl18⟩)
    (c18 : PySem.W.codeIn K cd18 "_law_gone" = true) (k18 : PySem.W.keepIn K (.ref f18) = true)
    {f19 : Addr} {od19 an19 : Option Addr} {sl19 : Array (Option Value)} {oc19 kV19 dc19 pm19 cd19 ct19 : Value}
    (a19 : PySem.W.nsIn K mainGlobals "_law_can" = some (some (.ref f19))) (l19 : K.lookup f19 = some ⟨oc19, od19, .func (PySem.W.fnOf "_law_can" "_law_can" (defArgs s__law_can) (defBody s__law_can) (defScope s__law_can) .none kV19 dc19 pm19 an19 cd19 ct19), sl19⟩)
    (c19 : PySem.W.codeIn K cd19 "_law_can" = true) (k19 : PySem.W.keepIn K (.ref f19) = true)
    {f20 : Addr} {od20 an20 : Option Addr} {sl20 : Array (Option Value)} {oc20 kV20 dc20 pm20 cd20 ct20 : Value}
    (a20 : PySem.W.nsIn K mainGlobals "_law_even" = some (some (.ref f20))) (l20 : K.lookup f20 = some ⟨oc20, od20, .func (PySem.W.fnOf "_law_even" "_law_even" (defArgs s__law_even) (defBody s__law_even) (defScope s__law_even) .none kV20 dc20 pm20 an20 cd20 ct20), sl20⟩)
    (c20 : PySem.W.codeIn K cd20 "_law_even" = true) (k20 : PySem.W.keepIn K (.ref f20) = true)
    {f21 : Addr} {od21 an21 : Option Addr} {sl21 : Array (Option Value)} {oc21 kV21 dc21 pm21 cd21 ct21 : Value}
    (a21 : PySem.W.nsIn K mainGlobals "_law_due" = some (some (.ref f21))) (l21 : K.lookup f21 = some ⟨oc21, od21, .func (PySem.W.fnOf "_law_due" "_law_due" (defArgs s__law_due) (defBody s__law_due) (defScope s__law_due) .none kV21 dc21 pm21 an21 cd21 ct21), sl21⟩)
    (c21 : PySem.W.codeIn K cd21 "_law_due" = true) (k21 : PySem.W.keepIn K (.ref f21) = true)
    {f22 : Addr} {od22 an22 : Option Addr} {sl22 : Array (Option Value)} {oc22 kV22 dc22 pm22 cd22 ct22 : Value}
    (a22 : PySem.W.nsIn K mainGlobals "is_left_whole" = some (some (.ref f22))) (l22 : K.lookup f22 = some ⟨oc22, od22, .func (PySem.W.fnOf "is_left_whole" "is_left_whole" (defArgs s_is_left_whole) (defBody s_is_left_whole) (defScope s_is_left_whole) .none kV22 dc22 pm22 an22 cd22 ct22), sl22⟩)
    (c22 : PySem.W.codeIn K cd22 "is_left_whole" = true) (k22 : PySem.W.keepIn K (.ref f22) = true)
    {f23 : Addr} {od23 an23 : Option Addr} {sl23 : Array (Option Value)} {oc23 kV23 dc23 pm23 cd23 ct23 : Value}
    (a23 : PySem.W.nsIn K mainGlobals "gone_first" = some (some (.ref f23))) (l23 : K.lookup f23 = some ⟨oc23, od23, .func (PySem.W.fnOf "gone_first" "gone_first" (defArgs s_gone_first) (defBody s_gone_first) (defScope s_gone_first) .none kV23 dc23 pm23 an23 cd23 ct23), sl23⟩)
    (c23 : PySem.W.codeIn K cd23 "gone_first" = true) (k23 : PySem.W.keepIn K (.ref f23) = true)
    {f24 : Addr} {od24 an24 : Option Addr} {sl24 : Array (Option Value)} {oc24 kV24 dc24 pm24 cd24 ct24 : Value}
    (a24 : PySem.W.nsIn K mainGlobals "first_round" = some (some (.ref f24))) (l24 : K.lookup f24 = some ⟨oc24, od24, .func (PySem.W.fnOf "first_round" "first_round" (defArgs s_first_round) (defBody s_first_round) (defScope s_first_round) .none kV24 dc24 pm24 an24 cd24 ct24), sl24⟩)
    (c24 : PySem.W.codeIn K cd24 "first_round" = true) (k24 : PySem.W.keepIn K (.ref f24) = true)
    {f25 : Addr} {od25 an25 : Option Addr} {sl25 : Array (Option Value)} {oc25 kV25 dc25 pm25 cd25 ct25 : Value}
    (a25 : PySem.W.nsIn K mainGlobals "last_round" = some (some (.ref f25))) (l25 : K.lookup f25 = some ⟨oc25, od25, .func (PySem.W.fnOf "last_round" "last_round" (defArgs s_last_round) (defBody s_last_round) (defScope s_last_round) .none kV25 dc25 pm25 an25 cd25 ct25), sl25⟩)
    (c25 : PySem.W.codeIn K cd25 "last_round" = true) (k25 : PySem.W.keepIn K (.ref f25) = true)
    {f26 : Addr} {od26 an26 : Option Addr} {sl26 : Array (Option Value)} {oc26 kV26 dc26 pm26 cd26 ct26 : Value}
    (a26 : PySem.W.nsIn K mainGlobals "law" = some (some (.ref f26))) (l26 : K.lookup f26 = some ⟨oc26, od26, .func (PySem.W.fnOf "law" "law" (defArgs s_law) (defBody s_law) (defScope s_law) .none kV26 dc26 pm26 an26 cd26 ct26), sl26⟩)
    (c26 : PySem.W.codeIn K cd26 "law" = true) (k26 : PySem.W.keepIn K (.ref f26) = true)
    {t0 : Tok} (mco0 : PySem.W.nsIn K mainGlobals "MOST_PLACES" = some (some (.int 7 t0)))
    {t1 : Tok} (mco1 : PySem.W.nsIn K mainGlobals "MOST_TIES" = some (some (.int 20 t1)))
    (z0 : PySem.W.nsIn K mainGlobals "int" = some none)
    (z1 : PySem.W.nsIn K mainGlobals "len" = some none)
    (z2 : PySem.W.nsIn K mainGlobals "range" = some none)
    (z3 : PySem.W.nsIn K mainGlobals "list" = some none)
    (z4 : PySem.W.nsIn K mainGlobals "min" = some none)
    (z5 : PySem.W.nsIn K mainGlobals "isinstance" = some none)
    (z6 : PySem.W.nsIn K mainGlobals "bool" = some none)
    (z7 : PySem.W.nsIn K mainGlobals "tuple" = some none)
    (z8 : PySem.W.nsIn K mainGlobals "enumerate" = some none)
    (z9 : PySem.W.nsIn K mainGlobals "sorted" = some none)
    (z10 : PySem.W.nsIn K mainGlobals "repr" = some none)
    : ∃ fd : FuncData, (∀ (s : Shared) (v : Value), BindsTo s fd ⟨[v], []⟩ [("script", v)]) ∧ ∀ base : Heap, K.In base → base.Ns mainGlobals mg → FnG l.prog w K mg base 7 fa fd ["script"] (spL K 7 b_law) := by
  have e := hfa.symm.trans (PySem.W.mg_of X G a26)
  cases e
  have F0 := fun_mk (st := s__law_well) l0 c0 k0
  have F1 := fun_mk (st := s__law_mixed) l1 c1 k1
  have F2 := fun_mk (st := s__law_draw) l2 c2 k2
  have F3 := fun_mk (st := s__law_walk) l3 c3 k3
  have F4 := fun_mk (st := s__law_shuffled) l4 c4 k4
  have F5 := fun_mk (st := s__law_web) l5 c5 k5
  have F6 := fun_mk (st := s_is_whole) l6 c6 k6
  have F7 := fun_mk (st := s_is_below) l7 c7 k7
  have F8 := fun_mk (st := s_is_led) l8 c8 k8
  have F9 := fun_mk (st := s_is_web) l9 c9 k9
  have F10 := fun_mk (st := s_need_web) l10 c10 k10
  have F11 := fun_mk (st := s_ties_out) l11 c11 k11
  have F12 := fun_mk (st := s_ties_in) l12 c12 k12
  have F13 := fun_mk (st := s_uneven_places) l13 c13 k13
  have F14 := fun_mk (st := s_hung_with) l14 c14 k14
  have F15 := fun_mk (st := s_used_places) l15 c15 k15
  have F16 := fun_mk (st := s_can_be_gone) l16 c16 k16
  have F17 := fun_mk (st := s_has_round) l17 c17 k17
  have F18 := fun_mk (st := s__law_gone) l18 c18 k18
  have F19 := fun_mk (st := s__law_can) l19 c19 k19
  have F20 := fun_mk (st := s__law_even) l20 c20 k20
  have F21 := fun_mk (st := s__law_due) l21 c21 k21
  have F22 := fun_mk (st := s_is_left_whole) l22 c22 k22
  have F23 := fun_mk (st := s_gone_first) l23 c23 k23
  have F24 := fun_mk (st := s_first_round) l24 c24 k24
  have F25 := fun_mk (st := s_last_round) l25 c25 k25
  have F26 := fun_mk (st := s_law) l26 c26 k26
  have p : Pk K mg := ⟨f0,
    _,
    ⟨F0, PySem.W.mg_of X G a0, F0.binds (ps := ["cell"]) fun _ _ _ _ _ _ us hl => match us, hl with | [_], _ => rfl⟩,
    f1,
    _,
    ⟨F1, PySem.W.mg_of X G a1, F1.binds (ps := ["cell", "k"]) fun _ _ _ _ _ _ us hl => match us, hl with | [_, _], _ => rfl⟩,
    f2,
    _,
    ⟨F2, PySem.W.mg_of X G a2, F2.binds (ps := ["well", "many"]) fun _ _ _ _ _ _ us hl => match us, hl with | [_, _], _ => rfl⟩,
    f3,
    _,
    ⟨F3, PySem.W.mg_of X G a3, F3.binds (ps := ["well", "places", "many"]) fun _ _ _ _ _ _ us hl => match us, hl with | [_, _, _], _ => rfl⟩,
    f4,
    _,
    ⟨F4, PySem.W.mg_of X G a4, F4.binds (ps := ["well", "some"]) fun _ _ _ _ _ _ us hl => match us, hl with | [_, _], _ => rfl⟩,
    f5,
    _,
    ⟨F5, PySem.W.mg_of X G a5, F5.binds (ps := ["well", "most"]) fun _ _ _ _ _ _ us hl => match us, hl with | [_, _], _ => rfl⟩,
    f6,
    _,
    ⟨F6, PySem.W.mg_of X G a6, F6.binds (ps := ["thing"]) fun _ _ _ _ _ _ us hl => match us, hl with | [_], _ => rfl⟩,
    f7,
    _,
    ⟨F7, PySem.W.mg_of X G a7, F7.binds (ps := ["thing", "beyond"]) fun _ _ _ _ _ _ us hl => match us, hl with | [_, _], _ => rfl⟩,
    f8,
    _,
    ⟨F8, PySem.W.mg_of X G a8, F8.binds (ps := ["thing", "many"]) fun _ _ _ _ _ _ us hl => match us, hl with | [_, _], _ => rfl⟩,
    f9,
    _,
    ⟨F9, PySem.W.mg_of X G a9, F9.binds (ps := ["thing"]) fun _ _ _ _ _ _ us hl => match us, hl with | [_], _ => rfl⟩,
    f10,
    _,
    ⟨F10, PySem.W.mg_of X G a10, F10.binds (ps := ["thing"]) fun _ _ _ _ _ _ us hl => match us, hl with | [_], _ => rfl⟩,
    f11,
    _,
    ⟨F11, PySem.W.mg_of X G a11, F11.binds (ps := ["web", "place"]) fun _ _ _ _ _ _ us hl => match us, hl with | [_, _], _ => rfl⟩,
    f12,
    _,
    ⟨F12, PySem.W.mg_of X G a12, F12.binds (ps := ["web", "place"]) fun _ _ _ _ _ _ us hl => match us, hl with | [_, _], _ => rfl⟩,
    f13,
    _,
    ⟨F13, PySem.W.mg_of X G a13, F13.binds (ps := ["web"]) fun _ _ _ _ _ _ us hl => match us, hl with | [_], _ => rfl⟩,
    f14,
    _,
    ⟨F14, PySem.W.mg_of X G a14, F14.binds (ps := ["ties", "place"]) fun _ _ _ _ _ _ us hl => match us, hl with | [_, _], _ => rfl⟩,
    f15,
    _,
    ⟨F15, PySem.W.mg_of X G a15, F15.binds (ps := ["web"]) fun _ _ _ _ _ _ us hl => match us, hl with | [_], _ => rfl⟩,
    f16,
    _,
    ⟨F16, PySem.W.mg_of X G a16, F16.binds (ps := ["web"]) fun _ _ _ _ _ _ us hl => match us, hl with | [_], _ => rfl⟩,
    f17,
    _,
    ⟨F17, PySem.W.mg_of X G a17, F17.binds (ps := ["web"]) fun _ _ _ _ _ _ us hl => match us, hl with | [_], _ => rfl⟩,
    f18,
    _,
    ⟨F18, PySem.W.mg_of X G a18, F18.binds (ps := ["well", "many_places", "most"]) fun _ _ _ _ _ _ us hl => match us, hl with | [_, _, _], _ => rfl⟩,
    f19,
    _,
    ⟨F19, PySem.W.mg_of X G a19, F19.binds (ps := ["ties", "left", "here"]) fun _ _ _ _ _ _ us hl => match us, hl with | [_, _, _], _ => rfl⟩,
    f20,
    _,
    ⟨F20, PySem.W.mg_of X G a20, F20.binds (ps := ["web"]) fun _ _ _ _ _ _ us hl => match us, hl with | [_], _ => rfl⟩,
    f21,
    _,
    ⟨F21, PySem.W.mg_of X G a21, F21.binds (ps := ["web", "step"]) fun _ _ _ _ _ _ us hl => match us, hl with | [_, _], _ => rfl⟩,
    f22,
    _,
    ⟨F22, PySem.W.mg_of X G a22, F22.binds (ps := ["web", "gone", "place"]) fun _ _ _ _ _ _ us hl => match us, hl with | [_, _, _], _ => rfl⟩,
    f23,
    _,
    ⟨F23, PySem.W.mg_of X G a23, F23.binds (ps := ["web", "step"]) fun _ _ _ _ _ _ us hl => match us, hl with | [_, _], _ => rfl⟩,
    f24,
    _,
    ⟨F24, PySem.W.mg_of X G a24, F24.binds (ps := ["web"]) fun _ _ _ _ _ _ us hl => match us, hl with | [_], _ => rfl⟩,
    f25,
    _,
    ⟨F25, PySem.W.mg_of X G a25, F25.binds (ps := ["web"]) fun _ _ _ _ _ _ us hl => match us, hl with | [_], _ => rfl⟩,
    PySem.W.mg_none_of X G z0,
    PySem.W.mg_none_of X G z1,
    PySem.W.mg_none_of X G z2,
    PySem.W.mg_none_of X G z3,
    PySem.W.mg_none_of X G z4,
    PySem.W.mg_none_of X G z5,
    PySem.W.mg_none_of X G z6,
    PySem.W.mg_none_of X G z7,
    PySem.W.mg_none_of X G z8,
    PySem.W.mg_none_of X G z9,
    PySem.W.mg_none_of X G z10,
    ⟨_, PySem.W.mg_of X G mco0⟩,
    ⟨_, PySem.W.mg_of X G mco1⟩⟩
  exact ⟨_, fun s v => .of_eq rfl, fun base _ _ => n_law p F26⟩
end LW

namespace LW
open PySem PySem.Spec PyProof.Rows L2 PV
local macro_rules | `(tactic| left) => `(tactic| first
  | with_reducible refine ru_seq ?_
  | with_reducible refine ru_set ?_
  | with_reducible refine ru_drop ?_
  | with_reducible refine ru_ret ?_
  | with_reducible refine ru_if ?_
  | with_reducible refine ru_asg ?_
  | with_reducible refine ru_nx ?_
  | with_reducible refine rt_val ?_
  | with_reducible refine ok_1 ?_
  | with_reducible refine ok_2 ?_
  | with_reducible refine ok_N ?_
  | with_reducible refine oka_nil ?_
  | with_reducible refine oka_cons ?_
  | with_reducible refine ok_c ?_
  | with_reducible refine ok_lst' ?_
  | with_reducible refine ok_tup' ?_
  | ((with_reducible apply ok_slT); rfl; rfl; omega) | ((with_reducible apply ok_slD); rfl; rfl; omega)
  | with_reducible refine ok_sl ?_
  | with_reducible refine okp_n ?_
  | with_reducible refine okp_s ?_
  | with_reducible refine ok_call ?_
  | with_reducible refine ok_rg1 ?_
  | with_reducible refine ok_it ?_
  | with_reducible refine ok_it1 ?_
  | with_reducible refine tb_yes ?_
  | with_reducible refine lr_ok ?_
  | with_reducible refine ok_and ?_
  | with_reducible refine ok_or ?_
  | with_reducible refine ok_not ?_
  | with_reducible refine ok_chain ?_
  | with_reducible refine tb_and ?_
  | with_reducible refine tb_or ?_
  | with_reducible refine tb_not ?_
  | with_reducible refine tb_of ?_
  | ((with_reducible apply rt_bor); rfl; (try dsimp only [List.set]))
  | ((with_reducible apply ok_v0); rfl)
  | ((with_reducible apply ok_vn); rfl)
  | ((with_reducible apply ok_io); rfl)
  | ((with_reducible apply ok_app); rfl) | ((with_reducible apply ok_met); rfl; rfl)
  | ((with_reducible apply us_div); rfl; (first | decide | assumption | omega))
  | ((with_reducible apply us_mod); rfl; (first | decide | omega))
  | ((with_reducible apply us_mul); rfl; rw [o64_eq]; omega)
  | ((with_reducible apply us_of); rfl; rfl; rfl)
  | ((with_reducible apply Exists.intro); (first | refine ⟨rfl, ?_⟩ | refine ⟨_, rfl, rfl, ?_⟩ | refine ⟨_, rfl, (show (_ ≤ _ ∧ _ ≤ _) from by omega), ?_⟩ | refine ⟨_, rfl, ?_⟩ | refine ⟨_, _, rfl, rfl, (show _ < _ from by omega), ?_⟩ | refine ⟨_, _, rfl, rfl, rfl, ?_⟩ | refine ⟨_, _, rfl, rfl, ?_⟩); (try dsimp only [List.set])))
local macro_rules | `(tactic| right) => `(tactic| first
  | with_reducible refine ok_and ?_
  | with_reducible refine ok_or ?_
  | with_reducible refine ok_not ?_
  | with_reducible refine ok_chain ?_
  | with_reducible refine ok_dic0 ?_
  | with_reducible refine ok_ite ?_
  | ((with_reducible apply us_pow); rfl; decide)
  | ((with_reducible apply us_slT); rfl; rfl; omega)
  | ((with_reducible apply us_slD); rfl; rfl; omega)
  | ((with_reducible apply us_addL); rfl; (first | omega | (simp only [List.length_append, List.length_take, List.length_drop, List.length_cons, List.length_nil, List.length_map, List.length_set, List.length_replicate]; omega)); rfl)
  | with_reducible exact Sl0.s
  | with_reducible exact Sl0.n
  | ((with_reducible apply br_t); (first | exact rfl | assumption))
  | ((with_reducible apply br_f); (first | exact rfl | assumption))
  | left)

/-! family A: well, draw, shuffled, walk, web -/
/-- the well: a list of three whole numbers, the last between 0 and n -/
def Wl (n : Int) (w : PyData) : Prop := ∃ a b k, w = .list [.int a, .int b, .int k] ∧ 0 ≤ k ∧ k ≤ n
theorem Wl.le {n m : Int} {w : PyData} (h : Wl n w) (e : n ≤ m) : Wl m w := let ⟨a, b, k, h1, h2, h3⟩ := h; ⟨a, b, k, h1, h2, Int.le_trans h3 e⟩
theorem mixed_spec {c k : Int} (hk : 0 ≤ k ∧ k ≤ 100000000) : Ca F__law_mixed [.dt (.int c) 0, .dt (.int k) 0] fun d n o => ∃ r, d = .int r ∧ n = 0 := by
  refine ca_run rfl ?_
  show Ru b__law_mixed [some (.dt (.int c) 0), some (.dt (.int k) 0), none] _ _ _ _
  unfold b__law_mixed
  repeat left
theorem draw_spec {n : Int} {w : PyData} {m : Int} (W : Wl n w) (hn : n ≤ 1000000) (hm : 0 < m) (hm2 : m < 1000000) : Ca F__law_draw [.dt w 1, .dt (.int m) 0] fun d k o => ∃ r, d = .int r ∧ k = 0 ∧ 0 ≤ r ∧ r < m ∧ Wl (n + 1) o := by
  obtain ⟨a, b, k, rfl, h0, h1⟩ := W
  have hd : 0 < m ∧ m.natAbs.log2 < 9000 := ⟨hm, by
    have hne : m.natAbs ≠ 0 := by omega
    have := (Nat.log2_lt (k := 20) hne).mpr (by omega)
    omega⟩
  refine ca_run rfl ?_
  show Ru b__law_draw [some (.dt (.list [.int a, .int b, .int k]) 1), some (.dt (.int m) 0), none] _ _ _ _
  unfold b__law_draw
  repeat left
  refine ⟨fun hb => ?_, fun hb => ?_⟩
  · repeat left
    exact ⟨rfl, Int.emod_nonneg _ (by omega), Int.emod_lt_of_pos _ hm, _, _, k, rfl, h0, by omega⟩
  · repeat left
    refine (mixed_spec ⟨by omega, by omega⟩).mono ?_
    rintro d q o ⟨r, rfl, rfl⟩
    repeat left
    exact ⟨rfl, Int.emod_nonneg _ (by omega), Int.emod_lt_of_pos _ hm, _, _, k + 1, rfl, by omega, by omega⟩
theorem shuffled_spec {n : Int} {w : PyData} {xs : List PyData} (W : Wl n w) (hx : xs.length ≤ 1000) (hn : n + xs.length ≤ 1000000) :
    Ca F__law_shuffled [.dt w 1, .dt (.list xs) 0] fun d k o => ∃ ys, d = .list ys ∧ k = 1 ∧ ys.Perm xs ∧ Wl (n + xs.length) o := by
  refine ca_run rfl ?_
  show Ru b__law_shuffled [some (.dt w 1), some (.dt (.list xs) 0), none, none] _ _ _ _
  unfold b__law_shuffled
  repeat left
  refine ok_lc ?_
  repeat left
  have hm : most = 16000000 := rfl
  refine ⟨by rw [ranged_len]; omega, ⟨_, rfl⟩, fun done acc e => ∃ w left x3, e = [some (.dt w 1), some (.dt (.list xs) 0), some (.dt (.list left) 1), x3] ∧ (x3 = none ∨ ∃ y, x3 = some (.dt y 0)) ∧ Wl (n + done.length) w ∧ (acc ++ left).Perm xs ∧ acc.length = done.length, ⟨w, xs, none, rfl, .inl rfl, by simpa using W, .refl _, rfl⟩, ?_, ?_⟩
  · rintro done acc d rest e hd ⟨w, left, x3, rfl, hx3, W, hp, ha⟩
    obtain ⟨rfl, hl⟩ := ranged_at hd
    have hpl := hp.length_eq
    rw [List.length_append] at hpl
    have hw : wipeE [some (.dt w 1), some (.dt (.list xs) 0), some (.dt (.list left) 1), x3] [3] = some [some (.dt w 1), some (.dt (.list xs) 0), some (.dt (.list left) 1), none] := by
      rcases hx3 with rfl | ⟨y, rfl⟩ <;> rfl
    refine ⟨_, _, hw, rfl, tb_yes ⟨fun _ => ?_, fun z => nomatch z⟩⟩
    dsimp only [List.set]
    repeat left
    refine (draw_spec W (by omega) (by omega) (by omega)).mono ?_
    rintro _ _ o ⟨r, rfl, rfl, r0, r1, W⟩
    have hr : r.toNat < left.length := by omega
    have hg : left[r.toNat]? = some left[r.toNat] := List.getElem?_eq_getElem hr
    have hpop : mPopAt (.list left) [.int r] = some (.list (left.eraseIdx r.toNat), left[r.toNat]) := by
      show (if -big ≤ r ∧ r < big then _ else _) = _
      rw [if_pos ⟨by rw [big_eq]; omega, by rw [big_eq]; omega⟩, ixN_ok r0 (by omega)]
      simp only [hg]
    refine oka_nil ⟨_, _, _, _, _, rfl, rfl, rfl, hpop, _, _, rfl, o, left.eraseIdx r.toNat, _, rfl, .inr ⟨_, rfl⟩, ?_, ?_, ?_⟩
    · rw [List.length_append]
      exact W.le (by simp; omega)
    · refine List.Perm.trans ?_ hp
      rw [List.append_assoc]
      refine List.Perm.append_left acc ?_
      exact pop_perm left r.toNat hr
    · rw [List.length_append, List.length_append, ha]; rfl
  · rintro acc e2 ⟨w, left, x3, rfl, hx3, W, hp, ha⟩
    rw [ranged_len] at W ha
    have hl := hp.length_eq
    rw [List.length_append] at hl
    have : left = [] := List.eq_nil_of_length_eq_zero (by omega)
    subst this
    rw [List.append_nil] at hp
    refine rt_val ⟨w, rfl, acc, rfl, rfl, hp, W.le (by omega)⟩
/-- walks -/
def IsTie (places : List PyData) (t : PyData) : Prop := ∃ a b, t = .tuple [a, b] ∧ a ∈ places ∧ b ∈ places
theorem walk_spec {n : Int} {w : PyData} {ps : List PyData} {many : Nat} (W : Wl n w) (hp : 0 < ps.length) (hp2 : ps.length ≤ 1000) (hz : ∀ p ∈ ps, SeqAt.shaped p = true) (hm : many ≤ 1000) (hn : n + many + 1 ≤ 1000000) :
    Ca F__law_walk [.dt w 1, .dt (.list ps) 0, .dt (.int many) 0] fun d k o => ∃ ts, d = .list ts ∧ k = 1 ∧ ts.length = many ∧ (∀ t ∈ ts, IsTie ps t) ∧ Wl (n + many + 1) o := by
  refine ca_run rfl ?_
  show Ru b__law_walk [some (.dt w 1), some (.dt (.list ps) 0), some (.dt (.int many) 0), none, none, none, none, none] _ _ _ _
  unfold b__law_walk
  repeat left
  refine (draw_spec W (by omega) (by omega) (by omega)).mono ?_
  rintro _ _ o ⟨r, rfl, rfl, r0, r1, W⟩
  repeat left
  have hr : r.toNat < ps.length := by omega
  refine us_ixL rfl (atI_ok r0 (List.getElem?_eq_getElem hr)) rfl ?_
  have hh : ps[r.toNat] ∈ ps := List.getElem_mem hr
  generalize ps[r.toNat] = home at hh
  repeat left
  refine ru_for ?_
  repeat left
  refine ⟨fun done e => ∃ w here found x6 x7, e = [some (.dt w 1), some (.dt (.list ps) 0), some (.dt (.int many) 0), some (.dt home 0), some (.dt here 0), some (.dt (.list found) 1), x6, x7] ∧ here ∈ ps ∧ found.length = done.length ∧ (∀ t ∈ found, IsTie ps t) ∧ Wl (n + 1 + done.length) w, ⟨o, home, [], none, none, rfl, hh, rfl, (fun t ht => nomatch ht), by simpa using W⟩, ?_, ?_⟩
  · rintro done d rest e hd ⟨w, here, found, x6, x7, rfl, hhere, hlen, hties, W⟩
    obtain ⟨rfl, hl⟩ := ranged_at hd
    refine ⟨_, rfl, ?_⟩
    dsimp only [List.set]
    repeat left
    refine (draw_spec W (by omega) (by omega) (by omega)).mono ?_
    rintro _ _ o ⟨r, rfl, rfl, r0, r1, W⟩
    repeat left
    have hr : r.toNat < ps.length := by omega
    refine us_ixL rfl (atI_ok r0 (List.getElem?_eq_getElem hr)) rfl ?_
    have hx : ps[r.toNat] ∈ ps := List.getElem_mem hr
    generalize ps[r.toNat] = x at hx
    repeat left
    generalize PyData.eqv (.int (0 + (done.length : Int))) (.int ((many : Int) - 1)) = b
    obtain ⟨y, hy, ey⟩ : ∃ y, y ∈ ps ∧ atI [x, home] (b01 b) = some y := by
      cases b with
      | true => exact ⟨home, hh, rfl⟩
      | false => exact ⟨x, hx, rfl⟩
    refine us_ixL rfl ey rfl ?_
    have hfl : found.length < 1000000 := by omega
    repeat left
    refine ⟨o, y, found ++ [.tuple [here, y]], _, _, rfl, hy, by rw [List.length_append, List.length_append, hlen]; rfl, fun t ht => ?_, W.le (by rw [List.length_append]; simp; omega)⟩
    rcases List.mem_append.mp ht with z | z
    · exact hties t z
    · rw [List.mem_singleton] at z
      exact ⟨here, y, z, hhere, hy⟩
  · rintro e ⟨w, here, found, x6, x7, rfl, hhere, hlen, hties, W⟩
    rw [ranged_len] at hlen W
    refine ru_ret (ok_vn rfl (rt_bor rfl ⟨w, rfl, found, rfl, rfl, by omega, hties, W.le (by omega)⟩))
/-- webs -/
def isT01 (n : Int) (t : PyData) : Prop := ∃ a b : Int, t = .tuple [.int a, .int b] ∧ 0 ≤ a ∧ a < n ∧ 0 ≤ b ∧ b < n
def IsWeb (d : PyData) : Prop := ∃ (n : Int) (ts : List PyData), d = .tuple [.int n, .list ts] ∧ 1 ≤ n ∧ n ≤ 7 ∧ ts.length ≤ 20 ∧ ∀ t ∈ ts, isT01 n t
theorem tie_of {n : Int} {ps ts : List PyData} (hp : ∀ p ∈ ps, ∃ i : Int, p = .int i ∧ 0 ≤ i ∧ i < n) (h : ∀ t ∈ ts, IsTie ps t) : ∀ t ∈ ts, isT01 n t := fun t ht => by
  obtain ⟨a, b, rfl, ha, hb⟩ := h t ht
  obtain ⟨i, rfl, h1, h2⟩ := hp a ha
  obtain ⟨j, rfl, h3, h4⟩ := hp b hb
  exact ⟨i, j, rfl, h1, h2, h3, h4⟩
def IsWebM (M : Int) (d : PyData) : Prop := ∃ (n : Int) (ts : List PyData), d = .tuple [.int n, .list ts] ∧ 1 ≤ n ∧ n ≤ 7 ∧ (ts.length : Int) ≤ M ∧ ∀ t ∈ ts, isT01 n t
/-- the state behind the walks -/
def P1 (M n many : Int) (ps : List PyData) (k : Int) (e : Ev) : Prop := ∃ w ties x6 x7, e = [some (.dt w 1), some (.dt (.int M) 0), some (.dt (.int n) 0), some (.dt (.int many) 0), some (.dt (.list ps) 0), some (.dt (.list ties) 1), x6, x7, none, none, none] ∧ Wl k w ∧ (ties.length : Int) = many ∧ ∀ t ∈ ties, isT01 n t
/-- the state between the last changes -/
def P2 (M n many way at_ : Int) (ps : List PyData) (k : Int) (e : Ev) : Prop := ∃ w ties x6 x7 x10, e = [some (.dt w 1), some (.dt (.int M) 0), some (.dt (.int n) 0), some (.dt (.int many) 0), some (.dt (.list ps) 0), some (.dt (.list ties) 1), x6, x7, some (.dt (.int way) 0), some (.dt (.int at_) 0), x10] ∧ (x10 = none ∨ ∃ y, x10 = some (.dt y 0)) ∧ Wl k w ∧ ties.length ≤ M ∧ ∀ t ∈ ties, isT01 n t
theorem t01_flat {n : Int} {t : PyData} (h : isT01 n t) : noMut t = true := by obtain ⟨a, b, rfl, _⟩ := h; rfl
def b_tail : Ev → SRes := fSeq (fIf (fAnd (f2 oEq (fVar 8) (fC (.int 0))) (f2 oLt (fN oLen [fVar 5]) (fVar 1))) (fDrop (fMet "list" mInsert 5 [fVar 9, fTup [fCallIo 2 F__law_draw 0 [fVar 2], fCallIo 2 F__law_draw 0 [fVar 2]]])) (fNx)) (fSeq (fIf (f2 oEq (fVar 8) (fC (.int 1))) (fSet 5 (f2 oAdd (fSl (fVar 5) none (some (fVar 9))) (fSl (fVar 5) (some (f2 oAdd (fVar 9) (fC (.int 1)))) none))) (fNx)) (fSeq (fIf (fAnd (f2 oEq (fVar 8) (fC (.int 2))) (f2 oLt (fVar 9) (fN oLen [fVar 5]))) (fAsg (tgSub sIx 5 (fVar 9)) (f1 oRev (f2 oIx (fVar 5) (fVar 9)))) (fNx)) (fSeq (fIf (fAnd (f2 oEq (fVar 8) (fC (.int 3))) (f2 oLt (fVar 9) (fN oLen [fVar 5]))) (fAsg (tgSub sIx 5 (fVar 9)) (fTup [f2 oIx (f2 oIx (fVar 5) (fVar 9)) (fC (.int 0)), fCallIo 2 F__law_draw 0 [fVar 2]])) (fNx)) (fSeq (fIf (f2 oEq (fVar 8) (fC (.int 4))) (fSet 5 (fLc (fIt kRange1 [fVar 3]) (tgName 10) (fYes) (fTup [fCallIo 2 F__law_draw 0 [fVar 2], fCallIo 2 F__law_draw 0 [fVar 2]]) [10])) (fNx)) (fRet (fTup [fVar 2, fVar 5]))))))
theorem web_tail {s M n : Int} {m : Nat} {way at_ : Int} {ps : List PyData} {e : Ev} (hn1 : 1 ≤ n) (hn7 : n ≤ 7) (hM : 5 ≤ M ∧ M ≤ 20) (hs : 0 ≤ s ∧ s ≤ 100000) (hm1 : (m : Int) ≤ M) (ha0 : 0 ≤ at_) (ha1 : at_ ≤ M) (p2 : P2 M n m way at_ ps (s + 300) e) :
    Ru b_tail e (fun e' => ∃ o, ioOf true e' = some o ∧ 0 = 0 ∧ IsWebM M .none ∧ Wl (s + 1000) o) (fun d k e' => ∃ o, ioOf true e' = some o ∧ k = 0 ∧ IsWebM M d ∧ Wl (s + 1000) o) nope nope := by
  unfold b_tail
  refine ru_cut (P2 M n m way at_ ps (s + 302)) ?_ (fun e p2 => ?_)
  · obtain ⟨w, ties, x6, x7, x10, rfl, hx10, W, hl, ht⟩ := p2
    refine ru_if ?_
    repeat left
    refine ⟨fun hb => ?_, fun hb => ⟨fun z => (nomatch z), fun _ => ru_nx ⟨w, ties, x6, x7, x10, rfl, hx10, W.le (by omega), hl, ht⟩⟩⟩
    repeat left
    refine ⟨fun hb2 => ?_, fun _ => ru_nx ⟨w, ties, x6, x7, x10, rfl, hx10, W.le (by omega), hl, ht⟩⟩
    have hb2 := of_decide_eq_true hb2
    repeat left
    refine (draw_spec W (by omega) (by omega) (by omega)).mono ?_
    rintro _ _ o ⟨r1, rfl, rfl, h10, h11, W⟩
    repeat left
    refine (draw_spec W (by omega) (by omega) (by omega)).mono ?_
    rintro _ _ o ⟨r2, rfl, rfl, h20, h21, W⟩
    repeat left
    have hm : most = 16000000 := rfl
    have hins : mInsert (.list ties) [.int at_, .tuple [.int r1, .int r2]] = some (.list (ties.take at_.toNat ++ [.tuple [.int r1, .int r2]] ++ ties.drop at_.toNat), .none) := by
      show (if 0 ≤ at_ ∧ at_ < big ∧ ties.length < most then _ else _) = _
      rw [if_pos ⟨ha0, by rw [big_eq]; omega, by omega⟩]
    refine ⟨_, _, _, _, _, rfl, rfl, rfl, hins, ?_⟩
    refine ⟨o, _, x6, x7, x10, rfl, hx10, W.le (by omega), ?_, fun t h => ?_⟩
    · rw [List.length_append, List.length_append, List.length_take, List.length_drop, List.length_singleton]; omega
    · rcases List.mem_append.mp h with z | z
      · rcases List.mem_append.mp z with y | y
        · exact ht t (List.mem_of_mem_take y)
        · rw [List.mem_singleton] at y; exact ⟨r1, r2, y, h10, h11, h20, h21⟩
      · exact ht t (List.mem_of_mem_drop z)
  refine ru_cut (P2 M n m way at_ ps (s + 302)) ?_ (fun e p2 => ?_)
  · obtain ⟨w, ties, x6, x7, x10, rfl, hx10, W, hl, ht⟩ := p2
    refine ru_if ?_
    repeat left
    refine ⟨fun hb => ?_, fun _ => ru_nx ⟨w, ties, x6, x7, x10, rfl, hx10, W, hl, ht⟩⟩
    have hf : ∀ x ∈ ties, noMut x = true := fun x h => t01_flat (ht x h)
    refine ru_set (ok_2 (ok_slT1 rfl hf rfl ha0 (ok_slD1 rfl hf rfl (c := at_ + 1) (by omega) (us_addL rfl ?_ rfl ⟨_, rfl, ?_⟩))))
    · rw [List.length_take, List.length_drop]; omega
    · refine ⟨w, _, x6, x7, x10, rfl, hx10, W, ?_, fun t h => ?_⟩
      · rw [List.length_append, List.length_take, List.length_drop]; omega
      · rcases List.mem_append.mp h with z | z
        · exact ht t (List.mem_of_mem_take z)
        · exact ht t (List.mem_of_mem_drop z)
  refine ru_cut (P2 M n m way at_ ps (s + 302)) ?_ (fun e p2 => ?_)
  · obtain ⟨w, ties, x6, x7, x10, rfl, hx10, W, hl, ht⟩ := p2
    refine ru_if ?_
    repeat left
    refine ⟨fun hb => ?_, fun hb => ⟨fun z => (nomatch z), fun _ => ru_nx ⟨w, ties, x6, x7, x10, rfl, hx10, W, hl, ht⟩⟩⟩
    repeat left
    refine ⟨fun hb2 => ?_, fun _ => ru_nx ⟨w, ties, x6, x7, x10, rfl, hx10, W, hl, ht⟩⟩
    have hb2 := of_decide_eq_true hb2
    have hlt : at_.toNat < ties.length := by omega
    have hmem := ht _ (List.getElem_mem hlt)
    have hget := List.getElem?_eq_getElem hlt
    generalize ties[at_.toNat] = t0 at hmem hget
    obtain ⟨a, b, rfl, h1, h2, h3, h4⟩ := hmem
    refine ru_asg (ok_1 (ok_2 (ok_vn rfl (ok_v0 rfl (us_ixL rfl (atI_ok ha0 hget) rfl (us_of rfl rfl rfl ⟨_, _, _, rfl, tgs_ok rfl rfl ha0 hb2, ?_⟩))))))
    refine ⟨w, _, x6, x7, x10, rfl, hx10, W, by rw [List.length_set]; exact hl, fun t h => ?_⟩
    rcases List.mem_or_eq_of_mem_set h with z | z
    · exact ht t z
    · exact ⟨b, a, z, h3, h4, h1, h2⟩
  refine ru_cut (P2 M n m way at_ ps (s + 303)) ?_ (fun e p2 => ?_)
  · obtain ⟨w, ties, x6, x7, x10, rfl, hx10, W, hl, ht⟩ := p2
    refine ru_if ?_
    repeat left
    refine ⟨fun hb => ?_, fun hb => ⟨fun z => (nomatch z), fun _ => ru_nx ⟨w, ties, x6, x7, x10, rfl, hx10, W.le (by omega), hl, ht⟩⟩⟩
    repeat left
    refine ⟨fun hb2 => ?_, fun _ => ru_nx ⟨w, ties, x6, x7, x10, rfl, hx10, W.le (by omega), hl, ht⟩⟩
    have hb2 := of_decide_eq_true hb2
    have hlt : at_.toNat < ties.length := by omega
    have hmem := ht _ (List.getElem_mem hlt)
    have hget := List.getElem?_eq_getElem hlt
    generalize ties[at_.toNat] = t0 at hmem hget
    obtain ⟨a, b, rfl, h1, h2, h3, h4⟩ := hmem
    refine ru_asg (ok_tup' (oka_cons (ok_2 (ok_2 (ok_vn rfl (ok_v0 rfl (us_ixL rfl (atI_ok ha0 hget) rfl (ok_c (us_of rfl rfl rfl ?_)))))))))
    repeat left
    refine (draw_spec W (by omega) (by omega) (by omega)).mono ?_
    rintro _ _ o ⟨r2, rfl, rfl, h20, h21, W⟩
    refine oka_nil ⟨_, _, rfl, rfl, _, _, _, rfl, tgs_ok rfl rfl ha0 hb2, ?_⟩
    refine ⟨o, _, x6, x7, x10, rfl, hx10, W.le (by omega), by rw [List.length_set]; exact hl, fun t h => ?_⟩
    rcases List.mem_or_eq_of_mem_set h with z | z
    · exact ht t z
    · exact ⟨a, r2, z, h1, h2, h20, h21⟩
  refine ru_cut (P2 M n m way at_ ps (s + 400)) ?_ (fun e p2 => ?_)
  · obtain ⟨w, ties, x6, x7, x10, rfl, hx10, W, hl, ht⟩ := p2
    refine ru_if ?_
    repeat left
    refine ⟨fun hb => ?_, fun _ => ru_nx ⟨w, ties, x6, x7, x10, rfl, hx10, W.le (by omega), hl, ht⟩⟩
    refine ru_set (ok_lc ?_)
    repeat left
    have hm : most = 16000000 := rfl
    have hw0 : ∀ (w : PyData) (x : Option Vl), (x = none ∨ ∃ y, x = some (.dt y 0)) → wipeE [some (.dt w 1), some (.dt (.int M) 0), some (.dt (.int n) 0), some (.dt (.int m) 0), some (.dt (.list ps) 0), some (.dt (.list ties) 1), x6, x7, some (.dt (.int way) 0), some (.dt (.int at_) 0), x] [10] = some [some (.dt w 1), some (.dt (.int M) 0), some (.dt (.int n) 0), some (.dt (.int m) 0), some (.dt (.list ps) 0), some (.dt (.list ties) 1), x6, x7, some (.dt (.int way) 0), some (.dt (.int at_) 0), none] := by
      rintro w x (rfl | ⟨y, rfl⟩) <;> rfl
    refine ⟨by rw [ranged_len]; omega, ⟨_, hw0 w x10 hx10⟩, fun done acc e => ∃ w x, e = [some (.dt w 1), some (.dt (.int M) 0), some (.dt (.int n) 0), some (.dt (.int m) 0), some (.dt (.list ps) 0), some (.dt (.list ties) 1), x6, x7, some (.dt (.int way) 0), some (.dt (.int at_) 0), x] ∧ (x = none ∨ ∃ y, x = some (.dt y 0)) ∧ Wl (s + 303 + 2 * done.length) w ∧ acc.length = done.length ∧ ∀ t ∈ acc, isT01 n t, ⟨w, x10, rfl, hx10, by simpa using W, rfl, fun t h => (nomatch h)⟩, ?_, ?_⟩
    · rintro done acc d rest e hd ⟨w, x, rfl, hx, W, hla, hta⟩
      obtain ⟨rfl, hld⟩ := ranged_at hd
      refine ⟨_, _, hw0 w x hx, rfl, tb_yes ⟨fun _ => ?_, fun z => (nomatch z)⟩⟩
      dsimp only [List.set]
      repeat left
      refine (draw_spec W (by omega) (by omega) (by omega)).mono ?_
      rintro _ _ o ⟨r1, rfl, rfl, h10, h11, W⟩
      repeat left
      refine (draw_spec W (by omega) (by omega) (by omega)).mono ?_
      rintro _ _ o ⟨r2, rfl, rfl, h20, h21, W⟩
      refine oka_nil ⟨_, _, rfl, rfl, _, _, rfl, o, _, rfl, .inr ⟨_, rfl⟩, W.le ?_, ?_, fun t h => ?_⟩
      · rw [List.length_append, List.length_singleton]; omega
      · rw [List.length_append, List.length_append, hla]; rfl
      · rcases List.mem_append.mp h with z | z
        · exact hta t z
        · rw [List.mem_singleton] at z; exact ⟨r1, r2, z, h10, h11, h20, h21⟩
    · rintro acc e2 ⟨w, x, rfl, hx, W, hla, hta⟩
      rw [ranged_len] at hla W
      exact ⟨_, rfl, w, acc, x6, x7, x10, rfl, hx10, W.le (by omega), by omega, hta⟩
  · obtain ⟨w, ties, x6, x7, x10, rfl, hx10, W, hl, ht⟩ := p2
    refine ru_ret (ok_tup' (oka_cons (ok_v0 rfl (oka_cons (ok_vn rfl (oka_nil ⟨_, _, rfl, rfl, rt_val ⟨w, rfl, rfl, ⟨n, ties, rfl, hn1, hn7, hl, ht⟩, W.le (by omega)⟩⟩))))))
theorem IsWebM.web {M : Int} {d : PyData} (h : IsWebM M d) (hM : M ≤ 20) : IsWeb d := by
  obtain ⟨n, ts, e, h1, h2, h3, h4⟩ := h
  exact ⟨n, ts, e, h1, h2, by omega, h4⟩
theorem well_ok (c : Int) : Ca F__law_well [.dt (.int c) 0] fun d k _ => k = 1 ∧ Wl 0 d := by
  refine ca_run rfl ?_
  show Ru b__law_well [some (.dt (.int c) 0)] _ _ _ _
  unfold b__law_well
  refine ru_ret (ok_lst' (oka_cons (ok_2 (ok_v0 rfl (ok_N (oka_cons (ok_2 (ok_v0 rfl (ok_2 (ok_c (ok_c (us_pow rfl (by decide) (us_of rfl rfl rfl (oka_nil (us_of rfl rfl rfl ?_)))))))))))))))
  have hb : ∀ b : Bool, -18446744073709551616 < b01 b ∧ b01 b < 18446744073709551616 := by intro b; cases b <;> decide
  refine us_mul rfl (.inr ?_) ?_
  · rw [o64_eq]
    exact hb _
  repeat left
  exact ⟨rfl, _, _, 0, rfl, by omega, by omega⟩

/-! webs drawn -/
theorem web_specM {s M : Int} {w : PyData} (W : Wl s w) (hs : 0 ≤ s ∧ s ≤ 100000) (hM : 5 ≤ M ∧ M ≤ 20) : Ca F__law_web [.dt w 1, .dt (.int M) 0] fun d k o => k = 0 ∧ IsWebM M d ∧ Wl (s + 1000) o := by
  refine ca_run rfl ?_
  show Ru b__law_web [some (.dt w 1), some (.dt (.int M) 0), none, none, none, none, none, none, none, none, none] _ _ _ _
  unfold b__law_web
  repeat left
  refine (draw_spec W (by omega) (by omega) (by omega)).mono ?_
  rintro _ _ o ⟨r1, rfl, rfl, h10, h11, W⟩
  repeat left
  refine (draw_spec W (by omega) (by omega) (by omega)).mono ?_
  rintro _ _ o ⟨r2, rfl, rfl, h20, h21, W⟩
  repeat left
  refine (draw_spec W (by omega) (by omega) (by omega)).mono ?_
  rintro _ _ o ⟨r3, rfl, rfl, h30, h31, W⟩
  repeat left
  obtain ⟨n, hn1, hn7, en⟩ : ∃ n : Int, 1 ≤ n ∧ n ≤ 7 ∧ atI [PyData.int (1 + r1), .int (1 + r2), .int 7] r3 = some (.int n) := by
    obtain rfl | rfl | rfl : r3 = 0 ∨ r3 = 1 ∨ r3 = 2 := by omega
    · exact ⟨1 + r1, by omega, by omega, rfl⟩
    · exact ⟨1 + r2, by omega, by omega, rfl⟩
    · exact ⟨7, by omega, by omega, rfl⟩
  refine us_ixL rfl en rfl ?_
  repeat left
  refine (draw_spec W (by omega) (by omega) (by omega)).mono ?_
  rintro _ _ o ⟨r4, rfl, rfl, h40, h41, W⟩
  repeat left
  refine (draw_spec W (by omega) (by omega) (by omega)).mono ?_
  rintro _ _ o ⟨r5, rfl, rfl, h50, h51, W⟩
  repeat left
  refine (draw_spec W (by omega) (by omega) (by omega)).mono ?_
  rintro _ _ o ⟨r6, rfl, rfl, h60, h61, W⟩
  repeat left
  obtain ⟨many, hm0, hm1, em⟩ : ∃ m : Int, 0 ≤ m ∧ m ≤ M ∧ atI [PyData.int r4, .int r5, .int M] r6 = some (.int m) := by
    obtain rfl | rfl | rfl : r6 = 0 ∨ r6 = 1 ∨ r6 = 2 := by omega
    · exact ⟨r4, by omega, by omega, rfl⟩
    · exact ⟨r5, by omega, by omega, rfl⟩
    · exact ⟨M, by omega, by omega, rfl⟩
  refine us_ixL rfl em rfl ?_
  repeat left
  have hlr := ranged_len 0 n.toNat
  refine (shuffled_spec W (by omega) (by omega)).mono ?_
  rintro _ _ o ⟨ys, rfl, rfl, hperm, W⟩
  have hly := hperm.length_eq
  repeat left
  refine (draw_spec W (by omega) (by omega) (by omega)).mono ?_
  rintro _ _ o ⟨r7, rfl, rfl, h70, h71, W⟩
  refine ⟨r7, 0, rfl, okp_n ?_⟩
  refine us_of rfl rfl rfl ?_
  rw [cut_drop h70]
  have hps : ∀ p ∈ ys.drop r7.toNat, ∃ i : Int, p = .int i ∧ 0 ≤ i ∧ i < n := fun p hp => by
    have h1 := hperm.mem_iff.mp (List.mem_of_mem_drop hp)
    unfold ranged at h1
    obtain ⟨i, hi, rfl⟩ := List.mem_map.mp h1
    have := List.mem_range.mp hi
    exact ⟨0 + (i : Int), rfl, by omega, by omega⟩
  have hpl : (ys.drop r7.toNat).length = n.toNat - r7.toNat := by rw [List.length_drop]; omega
  generalize ys.drop r7.toNat = ps at hps hpl
  have hpl0 : 0 < ps.length := by omega
  have hpl7 : ps.length ≤ 7 := by omega
  have hsh : ∀ p ∈ ps, SeqAt.shaped p = true := fun p hp => by obtain ⟨i, rfl, _⟩ := hps p hp; rfl
  obtain ⟨m, rfl⟩ := Int.eq_ofNat_of_zero_le hm0
  repeat left
  refine (walk_spec W hpl0 (by omega) hsh (by omega) (by omega)).mono ?_
  rintro _ _ o ⟨ts, rfl, rfl, hlt, hts, W⟩
  left
  have htt := tie_of hps hts
  refine ru_cut (P1 M n m ps (s + 200)) ?_ ?_
  · refine ru_if ?_
    repeat left
    refine ⟨fun hb => ?_, fun _ => ?_⟩
    · have hb := of_decide_eq_true hb
      repeat left
      refine ⟨fun hb2 => ?_, fun _ => ?_⟩
      · have hb2 := of_decide_eq_true hb2
        repeat left
        refine (draw_spec W (by omega) (by omega) (by omega)).mono ?_
        rintro _ _ o ⟨r8, rfl, rfl, h80, h81, W⟩
        repeat left
        refine ⟨fun _ => ?_, fun _ => ?_⟩
        · repeat left
          refine (draw_spec W (by omega) (by omega) (by omega)).mono ?_
          rintro _ _ o ⟨r9, rfl, rfl, h90, h91, W⟩
          repeat left
          refine (draw_spec W (by omega) (by omega) (by omega)).mono ?_
          rintro _ _ o ⟨r10, rfl, rfl, h100, h101, W⟩
          have l1 : (ps.take (1 + r9).toNat).length = (1 + r9).toNat := by rw [List.length_take]; omega
          have l2 : (ps.drop (1 + r9).toNat).length = ps.length - (1 + r9).toNat := by rw [List.length_drop]
          obtain ⟨c1, e1⟩ := Int.eq_ofNat_of_zero_le (show 0 ≤ 1 + r10 by omega)
          obtain ⟨c2, e2⟩ := Int.eq_ofNat_of_zero_le (show 0 ≤ (m : Int) - (1 + r10) by omega)
          repeat left
          rw [e1]
          refine (walk_spec W (by omega) (by omega) (fun p hp => hsh p (List.mem_of_mem_take hp)) (by omega) (by omega)).mono ?_
          rintro _ _ o ⟨t1, rfl, rfl, hl1, ht1, W⟩
          repeat left
          rw [show (m : Int) - (c1 : Int) = (c2 : Int) by omega]
          refine (walk_spec W (by omega) (by omega) (fun p hp => hsh p (List.mem_of_mem_drop hp)) (by omega) (by omega)).mono ?_
          rintro _ _ o ⟨t2, rfl, rfl, hl2, ht2, W⟩
          refine us_addL rfl (by omega) rfl ?_
          repeat left
          refine ⟨o, t1 ++ t2, _, _, rfl, W.le (by omega), by rw [List.length_append]; omega, fun t ht => ?_⟩
          rcases List.mem_append.mp ht with z | z
          · exact tie_of (fun p hp => hps p (List.mem_of_mem_take hp)) ht1 t z
          · exact tie_of (fun p hp => hps p (List.mem_of_mem_drop hp)) ht2 t z
        · exact ru_nx ⟨o, ts, none, none, rfl, W.le (by omega), by omega, htt⟩
      · exact ⟨fun z => (nomatch z), fun _ => ru_nx ⟨o, ts, none, none, rfl, W.le (by omega), by omega, htt⟩⟩
    · exact ⟨fun z => (nomatch z), fun _ => ru_nx ⟨o, ts, none, none, rfl, W.le (by omega), by omega, htt⟩⟩
  · rintro e ⟨w, ties, x6, x7, rfl, W, hlen, hti⟩
    repeat left
    refine (shuffled_spec W (by omega) (by omega)).mono ?_
    rintro _ _ o ⟨zs, rfl, rfl, hperm2, W⟩
    have hlz := hperm2.length_eq
    repeat left
    refine (draw_spec W (by omega) (by omega) (by omega)).mono ?_
    rintro _ _ o ⟨way, rfl, rfl, hw0, hw1, W⟩
    repeat left
    refine (draw_spec W (by omega) (by omega) (by omega)).mono ?_
    rintro _ _ o ⟨at_, rfl, rfl, ha0, ha1, W⟩
    left
    have p2 : P2 M n m way at_ ps (s + 300) [some (.dt o 1), some (.dt (.int M) 0), some (.dt (.int n) 0), some (.dt (.int m) 0), some (.dt (.list ps) 0), some (.dt (.list zs) 1), x6, x7, some (.dt (.int way) 0), some (.dt (.int at_) 0), none] :=
      ⟨o, zs, x6, x7, none, rfl, .inl rfl, W.le (by omega), by omega, fun t ht => hti t (hperm2.mem_iff.mp ht)⟩
    revert p2
    generalize [some (Vl.dt o 1), some (.dt (.int M) 0), some (.dt (.int n) 0), some (.dt (.int m) 0), some (.dt (.list ps) 0), some (.dt (.list zs) 1), x6, x7, some (.dt (.int way) 0), some (.dt (.int at_) 0), none] = e
    intro p2
    exact web_tail hn1 hn7 hM hs hm1 ha0 (by omega) p2
theorem web_spec {w : PyData} (W : Wl 0 w) : Ca F__law_web [.dt w 1, .dt (.int 20) 0] fun d k o => k = 0 ∧ IsWeb d ∧ Wl 1000 o :=
  (web_specM W (by omega) (by omega)).mono fun d k o ⟨h1, h2, h3⟩ => ⟨h1, h2.web (by omega), h3.le (by omega)⟩

/-! is a web: the program's look -/
def isWhole : PyData → Bool
  | .int _ => true
  | _ => false
def isBelow (d : PyData) (n : Int) : Bool := match d with
  | .int i => decide (0 ≤ i) && decide (i < n)
  | _ => false
def isLed (d : PyData) (n : Int) : Bool := match d with
  | .tuple [a, b] => isBelow a n && isBelow b n
  | _ => false
def isWebB (d : PyData) : Bool := match d with
  | .tuple [.int n, .list ts] => decide (1 ≤ n) && decide (n ≤ 7) && decide (ts.length ≤ 20) && ts.all fun t => isLed t n
  | _ => false
theorem eq_is_whole (d : PyData) : F_is_whole [.dt d 0] = .rt (.bool (isWhole d)) 0 .none := by cases d <;> rfl
local macro_rules | `(tactic| right) => `(tactic| with_reducible refine ca_eq (eq_is_whole _) ?_)
theorem eq_is_below (d : PyData) (n : Int) : F_is_below [.dt d 0, .dt (.int n) 0] = .rt (.bool (isBelow d n)) 0 .none := by
  cases d with
  | int i =>
    refine eq_of_ca (ca_run rfl ?_)
    show Ru b_is_below [some (.dt (.int i) 0), some (.dt (.int n) 0)] _ _ _ _
    unfold b_is_below
    repeat right
    refine ⟨fun h => ?_, fun h => ?_⟩
    · repeat right
      refine ⟨?_, rfl, rfl⟩
      simp [isBelow, of_decide_eq_true h]
    · repeat right
      refine ⟨?_, rfl, rfl⟩
      simp only [isBelow, h, Bool.false_and]
  | _ => rfl
local macro_rules | `(tactic| right) => `(tactic| with_reducible refine ca_eq (eq_is_below _ _) ?_)
theorem eqv_int (a b : Int) : PyData.eqv (.int a) (.int b) = decide (a = b) := int_eqv a b
theorem eq_is_led (d : PyData) (n : Int) : F_is_led [.dt d 0, .dt (.int n) 0] = .rt (.bool (isLed d n)) 0 .none := by
  cases d with
  | tuple ds =>
    refine eq_of_ca (ca_run rfl ?_)
    show Ru b_is_led [some (.dt (.tuple ds) 0), some (.dt (.int n) 0)] _ _ _ _
    unfold b_is_led
    repeat right
    rw [eqv_int]
    refine ⟨fun h => ?_, fun h => ?_⟩
    · have h := of_decide_eq_true h
      match ds, h with
      | [a, b], _ =>
        repeat right
        refine ⟨fun h1 => ?_, fun h1 => ?_⟩
        · repeat right
          exact ⟨by simp [isLed, h1], rfl, rfl⟩
        · repeat right
          exact ⟨by simp [isLed, h1], rfl, rfl⟩
      | [], h => exact absurd h (by decide)
      | [a], h => exact absurd h (by simp)
      | a :: b :: c :: l, h => exact absurd h (by simp only [List.length_cons]; omega)
    · have h := of_decide_eq_false h
      refine rt_val ⟨_, rfl, ?_, rfl, rfl⟩
      match ds, h with
      | [a, b], h => exact absurd rfl h
      | [], h => rfl
      | [a], h => rfl
      | a :: b :: c :: l, h => rfl
  | _ => rfl
local macro_rules | `(tactic| right) => `(tactic| with_reducible refine ca_eq (eq_is_led _ _) ?_)
theorem tup2 {P : Prop} {ds : List PyData} (b : Bool) (h : b = decide ((ds.length : Int) = 2)) (h1 : ∀ x y, ds = [x, y] → b = true → P) (h2 : (∀ x y, ds ≠ [x, y]) → b = false → P) : P := by
  match ds, h, h1, h2 with
  | [x, y], h, h1, h2 => exact h1 x y rfl h
  | [], h, h1, h2 => exact h2 (fun _ _ z => nomatch z) h
  | [a], h, h1, h2 => exact h2 (fun _ _ z => nomatch z) h
  | a :: c :: d :: l, h, h1, h2 => exact h2 (fun _ _ z => nomatch z) (by rw [h]; exact decide_eq_false (by simp only [List.length_cons]; omega))
theorem isWebB_no {ds : List PyData} (h : ∀ x y, ds ≠ [x, y]) : isWebB (.tuple ds) = false := by
  unfold isWebB
  split
  · rename_i e
    cases e
    exact absurd rfl (h _ _)
  · rfl
theorem eq_is_web (d : PyData) : F_is_web [.dt d 0] = .rt (.bool (isWebB d)) 0 .none := by
  cases d with
  | tuple ds =>
    refine eq_of_ca (ca_run rfl ?_)
    show Ru b_is_web [some (.dt (.tuple ds) 0), none] _ _ _ _
    unfold b_is_web
    repeat right
    rw [eqv_int]
    refine tup2 (ds := ds) _ rfl (fun x y e hb => ?_) fun hno hb => ?_
    · subst e
      cases x with
      | int n =>
        repeat right
        refine ⟨fun h2 => ?_, fun h2 => ?_⟩
        · repeat right
          have hn := of_decide_eq_true h2
          refine ⟨fun h3 => ?_, fun h3 => ?_⟩
          · repeat right
            refine ⟨?_, rfl, rfl⟩
            have h3 : decide (n ≤ 7) = false := by simpa using h3
            cases y <;> simp [isWebB, h3]
          · have h3 : decide (n ≤ 7) = true := by simpa using h3
            cases y with
            | list ts =>
              repeat right
              refine ⟨fun h4 => ?_, fun h4 => ?_⟩
              · repeat right
                refine ⟨?_, rfl, rfl⟩
                have h4 := of_decide_eq_true h4
                have : decide (ts.length ≤ 20) = false := decide_eq_false (by omega)
                simp [isWebB, this]
              · have h4 := of_decide_eq_false h4
                repeat right
                refine ok_lcP ts id (fun t => !isLed t n) id ?_
                repeat right
                refine ⟨⟨_, rfl, fun t ht => ⟨_, rfl, ?_⟩⟩, by simp, by omega, ?_⟩
                · repeat right
                  exact ⟨rfl, fun _ => ok_v0 rfl ⟨_, rfl, rfl⟩⟩
                · repeat right
                  refine us_eqNil rfl (rt_val ⟨_, rfl, ?_, rfl, rfl⟩)
                  rw [List.map_id]
                  have h5 : decide (ts.length ≤ 20) = true := decide_eq_true (by omega)
                  have : (ts.filter fun t => !isLed t n).isEmpty = ts.all fun t => isLed t n := by
                    rw [Bool.eq_iff_iff, List.isEmpty_iff, List.filter_eq_nil_iff, List.all_eq_true]
                    simp
                  rw [this]
                  simp [isWebB, hn, h3, h5]
            | _ =>
              repeat right
              exact ⟨rfl, rfl, rfl⟩
        · repeat right
          refine ⟨?_, rfl, rfl⟩
          cases y <;> simp [isWebB, h2]
      | _ =>
        repeat right
        exact ⟨rfl, rfl, rfl⟩
    · rw [hb]
      repeat right
      exact ⟨by rw [isWebB_no hno], rfl, rfl⟩
  | _ => rfl
local macro_rules | `(tactic| right) => `(tactic| with_reducible refine ca_eq (eq_is_web _) ?_)

/-! lists of numbers, webs as plain data -/
noncomputable def dec (P : Prop) : Bool := @decide P (Classical.propDecidable P)
theorem dec_iff {P : Prop} : dec P = true ↔ P := by unfold dec; exact @decide_eq_true_iff P (Classical.propDecidable P)
theorem dec_of {P : Prop} {b : Bool} (h : b = true ↔ P) : b = dec P := by rw [Bool.eq_iff_iff, h, dec_iff]
theorem dec_true {P : Prop} (h : P) : dec P = true := dec_iff.mpr h
theorem dec_false {P : Prop} (h : ¬P) : dec P = false := by
  cases z : dec P with
  | false => rfl
  | true => exact absurd (dec_iff.mp z) h
theorem dec_congr {P Q : Prop} (h : P ↔ Q) : dec P = dec Q := by rw [Bool.eq_iff_iff, dec_iff, dec_iff, h]
def pn (i : Nat) : PyData := .int (i : Int)
def encN (l : List Nat) : PyData := .list (l.map pn)
def encT (t : Nat × Nat) : PyData := .tuple [.int (t.1 : Int), .int (t.2 : Int)]
def encW (n : Nat) (l : List (Nat × Nat)) : PyData := .tuple [.int (n : Int), .list (l.map encT)]
structure Wb (n : Nat) (l : List (Nat × Nat)) : Prop where
  n1 : 1 ≤ n
  n7 : n ≤ 7
  len : l.length ≤ 20
  ok : ∀ t ∈ l, t.1 < n ∧ t.2 < n
theorem ties_enc {n : Int} {ts : List PyData} (h : ∀ t ∈ ts, isT01 n t) : ∃ l : List (Nat × Nat), ts = l.map encT ∧ ∀ t ∈ l, (t.1 : Int) < n ∧ (t.2 : Int) < n := by
  induction ts with
  | nil => exact ⟨[], rfl, fun t z => nomatch z⟩
  | cons t ts ih =>
    obtain ⟨l, e, hl⟩ := ih fun x z => h x (List.mem_cons_of_mem _ z)
    obtain ⟨a, b, et, h1, h2, h3, h4⟩ := h t List.mem_cons_self
    refine ⟨(a.toNat, b.toNat) :: l, ?_, fun x z => ?_⟩
    · rw [List.map_cons, ← e, et]
      unfold encT
      rw [Int.toNat_of_nonneg h1, Int.toNat_of_nonneg h3]
    · rcases List.mem_cons.mp z with y | y
      · rw [y]; show ((a.toNat : Nat) : Int) < n ∧ ((b.toNat : Nat) : Int) < n
        omega
      · exact hl x y
theorem web_enc {d : PyData} (h : IsWeb d) : ∃ n l, d = encW n l ∧ Wb n l := by
  obtain ⟨n, ts, rfl, h1, h7, hl, ht⟩ := h
  obtain ⟨l, rfl, hok⟩ := ties_enc ht
  rw [List.length_map] at hl
  refine ⟨n.toNat, l, ?_, by omega, by omega, hl, fun t z => ?_⟩
  · unfold encW; rw [Int.toNat_of_nonneg (by omega)]
  · have := hok t z; omega
theorem Wb.web {n : Nat} {l : List (Nat × Nat)} (h : Wb n l) : IsWeb (encW n l) := by
  have := h.n1
  have := h.n7
  refine ⟨n, l.map encT, rfl, by omega, by omega, by rw [List.length_map]; exact h.len, fun t z => ?_⟩
  obtain ⟨x, hx, rfl⟩ := List.mem_map.mp z
  have := h.ok x hx
  exact ⟨x.1, x.2, rfl, by omega, by omega, by omega, by omega⟩
theorem Wb.isWeb {n : Nat} {l : List (Nat × Nat)} (h : Wb n l) : isWebB (encW n l) = true := by
  have a1 : decide ((1 : Int) ≤ (n : Int)) = true := decide_eq_true (by have := h.n1; omega)
  have a2 : decide ((n : Int) ≤ 7) = true := decide_eq_true (by have := h.n7; omega)
  have a3 : decide ((l.map encT).length ≤ 20) = true := decide_eq_true (by rw [List.length_map]; exact h.len)
  have a4 : ((l.map encT).all fun t => isLed t (n : Int)) = true := by
    refine List.all_eq_true.mpr fun t z => ?_
    obtain ⟨x, hx, rfl⟩ := List.mem_map.mp z
    have := h.ok x hx
    show (isBelow (.int (x.1 : Int)) (n : Int) && isBelow (.int (x.2 : Int)) (n : Int)) = true
    have b1 : isBelow (.int (x.1 : Int)) (n : Int) = true := by simp only [isBelow, Bool.and_eq_true, decide_eq_true_eq]; omega
    have b2 : isBelow (.int (x.2 : Int)) (n : Int) = true := by simp only [isBelow, Bool.and_eq_true, decide_eq_true_eq]; omega
    rw [b1, b2]; rfl
  show (_ && _ && _ && _) = true
  rw [a1, a2, a3, a4]; rfl
theorem encT_at {l : List (Nat × Nat)} {i : Nat} (h : i < l.length) : atI (l.map encT) (i : Int) = some (encT l[i]) := by
  refine atI_ok (by omega) ?_
  rw [Int.toNat_natCast, List.getElem?_map, List.getElem?_eq_getElem h]; rfl
theorem pn_at {l : List Nat} {i : Nat} (h : i < l.length) : atI (l.map pn) (i : Int) = some (pn l[i]) := by
  refine atI_ok (by omega) ?_
  rw [Int.toNat_natCast, List.getElem?_map, List.getElem?_eq_getElem h]; rfl
theorem atI_last {α : Type} {l : List α} (h : l ≠ []) : atI l (-1) = some (l.getLast h) := by
  have hl : 0 < l.length := List.length_pos_iff.mpr h
  unfold atI ixN
  rw [if_neg (by omega), if_pos (by omega)]
  show l[((-1 : Int) + (l.length : Int)).toNat]? = _
  rw [show ((-1 : Int) + (l.length : Int)).toNat = l.length - 1 by omega, List.getElem?_eq_getElem (by omega), List.getLast_eq_getElem]
theorem cut_init {xs : List PyData} : PV.cutD xs none (some (-1)) = xs.dropLast := by
  unfold PV.cutD
  rw [HT.sIx_none, List.drop_zero, Nat.sub_zero, List.dropLast_eq_take]
  congr 1
  show (if (-1 : Int) < 0 then ((-1 : Int) + (xs.length : Int)).toNat else min (-1 : Int).toNat xs.length) = xs.length - 1
  rw [if_pos (by decide)]; omega
theorem cut_last {xs : List PyData} : PV.cutD xs (some (-1)) none = xs.drop (xs.length - 1) := by
  unfold PV.cutD
  rw [HT.sIx_none]
  have e : HT.sIx xs.length 0 (some (-1)) = xs.length - 1 := by
    show (if (-1 : Int) < 0 then ((-1 : Int) + (xs.length : Int)).toNat else min (-1 : Int).toNat xs.length) = xs.length - 1
    rw [if_pos (by decide)]; omega
  rw [e, List.take_of_length_le (by rw [List.length_drop]; omega)]
theorem map_pn (l : List Nat) : l.map pn = (l.map Int.ofNat).map .int := by rw [List.map_map]; rfl
theorem ranged_pn (L : Nat) : ranged 0 L = (List.range L).map pn := by rw [ranged_map, map_pn]
theorem pn_inj {a b : Nat} (h : pn a = pn b) : a = b := by unfold pn at h; injection h with h; omega
theorem encN_inj {a b : List Nat} (h : encN a = encN b) : a = b := by
  unfold encN at h
  injection h with h
  induction a generalizing b with
  | nil => cases b with
    | nil => rfl
    | cons _ _ => simp at h
  | cons x a ih => cases b with
    | nil => simp at h
    | cons y b =>
      rw [List.map_cons, List.map_cons] at h
      injection h with h1 h2
      rw [pn_inj h1, ih h2]
theorem eqvAll_il : ∀ a b : List Int, PyData.eqvAll (a.map .int) (b.map .int) = decide (a = b)
  | [], [] => by simp [PyData.eqvAll]
  | [], y :: b => by simp [PyData.eqvAll]
  | x :: a, [] => by simp [PyData.eqvAll]
  | x :: a, y :: b => by
    rw [List.map_cons, List.map_cons]
    unfold PyData.eqvAll
    rw [eqvAll_il a b]
    unfold PyData.eqv
    rw [Bool.eq_iff_iff]
    simp
theorem eqv_il (a b : List Int) : PyData.eqv (.list (a.map .int)) (.list (b.map .int)) = decide (a = b) := by unfold PyData.eqv; exact eqvAll_il a b
theorem eqv_nl (a b : List Nat) : PyData.eqv (.list (a.map pn)) (.list (b.map pn)) = decide (a = b) := by
  rw [map_pn, map_pn, eqv_il, decide_eq_decide]
  refine ⟨fun h => ?_, fun h => by rw [h]⟩
  exact encN_inj (show PyData.list (a.map pn) = .list (b.map pn) by rw [map_pn, map_pn, h])
theorem shaped_nl (a : List Nat) : SeqAt.shaped (.list (a.map pn)) = true := by rw [map_pn]; exact shaped_ints _
theorem flat_nl (a : List Nat) : flatAt 1 (.list (a.map pn)) = true := by rw [map_pn]; exact flat_ints _
theorem us_eqN {rs : List RV} {e : Ev} {Q : RV → Ev → Prop} {a b : List Nat} (h1 : derefs e rs = some [.list (a.map pn), .list (b.map pn)]) (q : Q (.val (.bool (decide (a = b))) 0) e) : Us oEq rs e Q := us_eq h1 (shaped_nl a) (shaped_nl b) (by rw [eqv_nl]; exact q)
theorem us_neN {rs : List RV} {e : Ev} {Q : RV → Ev → Prop} {a b : List Nat} (h1 : derefs e rs = some [.list (a.map pn), .list (b.map pn)]) (q : Q (.val (.bool (!decide (a = b))) 0) e) : Us oNe rs e Q := us_ne h1 (shaped_nl a) (shaped_nl b) (by rw [eqv_nl]; exact q)
theorem us_sortedI {rs : List RV} {e : Ev} {Q : RV → Ev → Prop} {a : List Int} (h1 : derefs e rs = some [.list (a.map .int)]) (q : Q (.val (.list ((isort a).map .int)) 1) e) : Us oSorted rs e Q :=
  us_of h1 (by show (intsOf (a.map .int)).map (fun ns => (PyData.list ((isort ns).map .int), 1)) = some (.list ((isort a).map .int), 1); rw [intsOf_map]; rfl) (by rw [flat_ints, Bool.not_true, Bool.and_false]) q
theorem eqv_pn (a b : Nat) : PyData.eqv (pn a) (pn b) = decide (a = b) := by
  unfold pn
  rw [int_eqv, decide_eq_decide]; omega
/-- all numbers below L, once each -/
def AllP (L : Nat) (thing : PyData) : Prop := ∃ ns : List Nat, thing = encN ns ∧ ns.Perm (List.range L)
theorem sort_range {is : List Int} {L : Nat} : isort is = (List.range L).map Int.ofNat ↔ ∃ ns : List Nat, is = ns.map Int.ofNat ∧ ns.Perm (List.range L) := by
  have sr : ((List.range L).map Int.ofNat).Pairwise (· ≤ ·) := by
    rw [List.pairwise_map]
    exact List.pairwise_lt_range.imp fun {a b} hab => by simp; omega
  refine ⟨fun h => ?_, ?_⟩
  · have p : is.Perm ((List.range L).map Int.ofNat) := (isort_perm is).symm.trans (.of_eq h)
    refine ⟨is.map Int.toNat, ?_, ?_⟩
    · rw [List.map_map]
      have : ∀ i ∈ is, (Int.ofNat ∘ Int.toNat) i = i := fun i hi => by
        obtain ⟨k, _, rfl⟩ := List.mem_map.mp (p.mem_iff.mp hi)
        rfl
      rw [List.map_congr_left this]; exact (List.map_id' is).symm
    · have := p.map Int.toNat
      rw [List.map_map, show (Int.toNat ∘ Int.ofNat) = id from rfl, List.map_id] at this
      exact this
  · rintro ⟨ns, rfl, p⟩
    exact sorted_uniq ((isort_perm _).trans (p.map _)) (isort_sorted _) sr
theorem below_nats {L : Nat} : ∀ {ds : List PyData}, (∀ d ∈ ds, isBelow d (L : Int) = true) → ∃ ns : List Nat, ds = ns.map pn ∧ ∀ i ∈ ns, i < L
  | [], _ => ⟨[], rfl, fun i z => nomatch z⟩
  | d :: ds, h => by
    obtain ⟨ns, e, hn⟩ := below_nats fun x z => h x (List.mem_cons_of_mem _ z)
    have hd := h d List.mem_cons_self
    cases d with
    | int i =>
      simp only [isBelow, Bool.and_eq_true, decide_eq_true_eq] at hd
      refine ⟨i.toNat :: ns, ?_, fun x z => ?_⟩
      · rw [List.map_cons, ← e]; unfold pn; rw [Int.toNat_of_nonneg hd.1]
      · rcases List.mem_cons.mp z with y | y
        · omega
        · exact hn x y
    | _ => cases hd
theorem nats_below {L : Nat} {ns : List Nat} (h : ∀ i ∈ ns, i < L) : ∀ d ∈ ns.map pn, isBelow d (L : Int) = true := fun d hd => by
  obtain ⟨i, hi, rfl⟩ := List.mem_map.mp hd
  have := h i hi
  simp only [pn, isBelow, Bool.and_eq_true, decide_eq_true_eq]; omega
theorem AllP.lt {L : Nat} {ns : List Nat} (h : ns.Perm (List.range L)) : ∀ i ∈ ns, i < L := fun i hi => List.mem_range.mp (h.mem_iff.mp hi)

/-! going along ties: reachability, balance, Fleury -/
abbrev Tie2 := Nat × Nat
/-- from p to q along ties of T, one way -/
inductive Rch (T : List Tie2) : Nat → Nat → Prop
  | refl (p : Nat) : Rch T p p
  | head {t : Tie2} {q : Nat} : t ∈ T → Rch T t.2 q → Rch T t.1 q
/-- from p to q along ties of T, either way -/
inductive Hng (T : List Tie2) : Nat → Nat → Prop
  | refl (p : Nat) : Hng T p p
  | fwd {p : Nat} {t : Tie2} : Hng T p t.1 → t ∈ T → Hng T p t.2
  | bwd {p : Nat} {t : Tie2} : Hng T p t.2 → t ∈ T → Hng T p t.1
theorem Rch.snoc {T : List Tie2} {p q : Nat} (h : Rch T p q) : ∀ {t : Tie2}, t ∈ T → t.1 = q → Rch T p t.2 := by
  induction h with
  | refl p => intro t ht e; subst e; exact .head ht (.refl _)
  | head h1 _ ih => intro t ht e; exact .head h1 (ih ht e)
theorem Rch.trans {T : List Tie2} {p q r : Nat} (h : Rch T p q) (k : Rch T q r) : Rch T p r := by
  induction h with
  | refl p => exact k
  | head h1 _ ih => exact .head h1 (ih k)
theorem Rch.mono {T T' : List Tie2} {p q : Nat} (h : Rch T p q) (s : ∀ t ∈ T, t ∈ T') : Rch T' p q := by
  induction h with
  | refl p => exact .refl p
  | head h1 _ ih => exact .head (s _ h1) ih
theorem Hng.mono {T T' : List Tie2} {p q : Nat} (h : Hng T p q) (s : ∀ t ∈ T, t ∈ T') : Hng T' p q := by
  induction h with
  | refl => exact .refl p
  | fwd _ h1 ih => exact .fwd ih (s _ h1)
  | bwd _ h1 ih => exact .bwd ih (s _ h1)
/-- what holds at p and goes along all ties holds all along -/
theorem Rch.inv {T : List Tie2} {P : Nat → Prop} (hP : ∀ t ∈ T, P t.1 → P t.2) {p q : Nat} (h : Rch T p q) (hp : P p) : P q := by
  induction h with
  | refl p => exact hp
  | head h1 _ ih => exact ih (hP _ h1 hp)
theorem Hng.inv {T : List Tie2} {P : Nat → Prop} (hP : ∀ t ∈ T, P t.1 ↔ P t.2) {p q : Nat} (h : Hng T p q) (hp : P p) : P q := by
  induction h with
  | refl => exact hp
  | fwd _ h1 ih => exact (hP _ h1).mp ih
  | bwd _ h1 ih => exact (hP _ h1).mpr ih
theorem Rch.hng {T : List Tie2} {p q : Nat} (h : Rch T p q) : Hng T p q := Rch.inv (P := fun q => Hng T p q) (fun _ ht h => .fwd h ht) h (.refl p)
/-- one more begins at home's in the end: at here one more begins than ends, at home one more ends -/
def Bal (T : List Tie2) (here home : Nat) : Prop := (T.map Prod.fst ++ [home]).Perm (T.map Prod.snd ++ [here])
theorem Bal.of_perm {T T' : List Tie2} {a b : Nat} (p : T.Perm T') (h : Bal T a b) : Bal T' a b :=
  ((p.map Prod.fst).symm.append_right [b]).trans (h.trans ((p.map Prod.snd).append_right [a]))
theorem Bal.step {T T' : List Tie2} {t : Tie2} {home : Nat} (p : T.Perm (t :: T')) (h : Bal T t.1 home) : Bal T' t.2 home := by
  have h := h.of_perm p
  unfold Bal at h ⊢
  have e1 : ((t :: T').map Prod.fst ++ [home]) = t.1 :: (T'.map Prod.fst ++ [home]) := rfl
  have e2 : ((t :: T').map Prod.snd ++ [t.1]).Perm (t.1 :: (T'.map Prod.snd ++ [t.2])) := by
    have : ((t :: T').map Prod.snd ++ [t.1]).Perm (t.1 :: (t :: T').map Prod.snd) := List.perm_append_comm
    refine this.trans (List.Perm.cons _ ?_)
    exact List.perm_append_comm (l₁ := [t.2]) (l₂ := T'.map Prod.snd)
  rw [e1] at h
  exact List.Perm.cons_inv (h.trans e2)
theorem Bal.swap {T : List Tie2} {a b : Nat} (h : Bal T a b) : Bal (T.map Prod.swap) b a := by
  unfold Bal at h ⊢
  have e1 : (T.map Prod.swap).map Prod.fst = T.map Prod.snd := by rw [List.map_map]; rfl
  have e2 : (T.map Prod.swap).map Prod.snd = T.map Prod.fst := by rw [List.map_map]; rfl
  rw [e1, e2]; exact h.symm
theorem Bal.closed {T : List Tie2} (h : (T.map Prod.fst).Perm (T.map Prod.snd)) (p : Nat) : Bal T p p := h.append_right [p]
theorem countP_imp {α : Type} {p q : α → Bool} : ∀ {l : List α}, (∀ x ∈ l, p x = true → q x = true) → l.countP p ≤ l.countP q
  | [], _ => Nat.le_refl _
  | x :: l, h => by
    have ih := countP_imp (l := l) fun y hy => h y (List.mem_cons_of_mem _ hy)
    have hx := h x List.mem_cons_self
    rw [List.countP_cons, List.countP_cons]
    cases hp : p x <;> cases hq : q x <;> simp_all <;> omega
theorem countP_back {α : Type} {p q : α → Bool} : ∀ {l : List α}, (∀ x ∈ l, p x = true → q x = true) → l.countP q ≤ l.countP p → ∀ x ∈ l, q x = true → p x = true
  | [], _, _, x, hx, _ => nomatch hx
  | y :: l, h, hc, x, hx, hq => by
    have h' : ∀ z ∈ l, p z = true → q z = true := fun z hz => h z (List.mem_cons_of_mem _ hz)
    have ih := countP_imp h'
    have hy := h y List.mem_cons_self
    rw [List.countP_cons, List.countP_cons] at hc
    rcases List.mem_cons.mp hx with z | z
    · subst z
      cases hp : p x with
      | true => rfl
      | false => rw [hq, hp] at hc; simp at hc; omega
    · refine countP_back h' ?_ x z hq
      cases hp : p y <;> cases hq2 : q y <;> simp_all <;> omega
theorem countP_pair {T : List Tie2} (R : Nat → Bool) : (T.map Prod.fst).countP R = T.countP (fun t => R t.1) ∧ (T.map Prod.snd).countP R = T.countP (fun t => R t.2) := by
  constructor <;> (rw [List.countP_map]; rfl)
/-- a set of places that no tie leaves, and in which here lies: no tie enters it, and home lies in it -/
theorem Bal.close {T : List Tie2} {here home : Nat} (h : Bal T here home) (R : Nat → Prop) (hR : ∀ t ∈ T, R t.1 → R t.2) (hh : R here) : (∀ t ∈ T, R t.2 → R t.1) ∧ R home := by
  have de : ∃ d : Nat → Bool, ∀ v, d v = true ↔ R v := ⟨fun v => @decide (R v) (Classical.propDecidable _), fun v => @decide_eq_true_iff _ (Classical.propDecidable _)⟩
  obtain ⟨d, hd⟩ := de
  have c := List.Perm.countP_eq d h
  rw [List.countP_append, List.countP_append, (countP_pair d).1, (countP_pair d).2] at c
  have im : ∀ t ∈ T, d t.1 = true → d t.2 = true := fun t ht z => (hd _).mpr (hR t ht ((hd _).mp z))
  have le := countP_imp (p := fun t : Tie2 => d t.1) (q := fun t => d t.2) im
  have c1 : ([here] : List Nat).countP d = 1 := by simp [(hd here).mpr hh]
  have c2 : ([home] : List Nat).countP d ≤ 1 := by
    have := List.countP_le_length (p := d) (l := [home])
    simpa using this
  rw [c1] at c
  have c3 : ([home] : List Nat).countP d = 1 := by omega
  refine ⟨fun t ht z => (hd _).mp (countP_back im (by omega) t ht ((hd _).mpr z)), ?_⟩
  have : 0 < ([home] : List Nat).countP d := by omega
  obtain ⟨x, hx, hdx⟩ := List.countP_pos_iff.mp this
  rw [List.mem_singleton] at hx
  rw [← hx]; exact (hd _).mp hdx
/-- all ties can be come to from p, one way; they hang with p -/
def AllR (T : List Tie2) (p : Nat) : Prop := ∀ t ∈ T, Rch T p t.1
def AllH (T : List Tie2) (p : Nat) : Prop := ∀ t ∈ T, Hng T p t.1
theorem AllR.mem {T T' : List Tie2} {p : Nat} (h : ∀ t, t ∈ T ↔ t ∈ T') (k : AllR T p) : AllR T' p := fun t ht => (k t ((h t).mpr ht)).mono fun t z => (h t).mp z
theorem AllH.mem {T T' : List Tie2} {p : Nat} (h : ∀ t, t ∈ T ↔ t ∈ T') (k : AllH T p) : AllH T' p := fun t ht => (k t ((h t).mpr ht)).mono fun t z => (h t).mp z
theorem all_iff {T : List Tie2} {here home : Nat} (h : Bal T here home) : AllH T here ↔ AllR T here := by
  refine ⟨fun k t ht => ?_, fun k t ht => (k t ht).hng⟩
  have c := (h.close (fun v => Rch T here v) (fun t ht z => z.snoc ht rfl) (.refl _)).1
  exact Hng.inv (P := fun v => Rch T here v) (fun t ht => ⟨fun z => z.snoc ht rfl, c t ht⟩) (k t ht) (.refl _)
/-- home can be come to -/
theorem Bal.home {T : List Tie2} {here home : Nat} (h : Bal T here home) : Rch T here home := (h.close (fun v => Rch T here v) (fun t ht z => z.snoc ht rfl) (.refl _)).2
/-- who comes home is come to -/
theorem Bal.back {T : List Tie2} {here home : Nat} (h : Bal T here home) {x : Nat} (k : Rch T x home) : Rch T here x := by
  have c := h.close (fun v => Rch T here v) (fun t ht z => z.snoc ht rfl) (.refl _)
  have : ∀ {x q : Nat}, Rch T x q → Rch T here q → Rch T here x := fun {x q} k => by
    induction k with
    | refl p => exact fun z => z
    | head h1 _ ih => exact fun z => c.1 _ h1 (ih z)
  exact this k c.2
theorem Rch.swap {T : List Tie2} {p q : Nat} (h : Rch T p q) : Rch (T.map Prod.swap) q p := by
  induction h with
  | refl p => exact .refl p
  | head h1 _ ih =>
    rename_i t q _
    exact Rch.snoc (t := Prod.swap t) ih (List.mem_map_of_mem h1) rfl
theorem swap_swap (T : List Tie2) : (T.map Prod.swap).map Prod.swap = T := by
  rw [List.map_map]
  have : (Prod.swap ∘ Prod.swap : Tie2 → Tie2) = id := by funext t; rfl
  rw [this, List.map_id]
/-- what is come to comes home -/
theorem Bal.on {T : List Tie2} {here home : Nat} (h : Bal T here home) {x : Nat} (k : Rch T here x) : Rch T x home := by
  have := h.swap.back k.swap
  have := this.swap
  rw [swap_swap] at this; exact this
/-- up to the first time at here -/
theorem first_here {T T' : List Tie2} {here : Nat} (hT : ∀ t ∈ T, t.1 ≠ here → t ∈ T') {x home : Nat} (h : Rch T x home) : Rch T' x home ∨ Rch T' x here := by
  induction h with
  | refl p => exact .inl (.refl p)
  | head h1 _ ih =>
    rename_i t q _
    by_cases e : t.1 = here
    · rw [e]; exact .inr (.refl _)
    · exact ih.imp (.head (hT t h1 e)) (.head (hT t h1 e))
/-- behind the last time at here -/
theorem last_here {T T' : List Tie2} {here : Nat} (hT : ∀ t ∈ T, t.1 ≠ here → t ∈ T') {x home : Nat} (h : Rch T x home) : Rch T' x home ∨ ∃ t ∈ T, t.1 = here ∧ Rch T' t.2 home := by
  induction h with
  | refl p => exact .inl (.refl p)
  | head h1 _ ih =>
    rename_i t q _
    by_cases e : t.1 = here
    · rcases ih with z | z
      · exact .inr ⟨t, h1, e, z⟩
      · exact .inr z
    · exact ih.imp_left (.head (hT t h1 e))
theorem Rch.first {T : List Tie2} {p q : Nat} (h : Rch T p q) (hne : p ≠ q) : ∃ t ∈ T, t.1 = p := by
  cases h with
  | refl => exact absurd rfl hne
  | head h1 _ => exact ⟨_, h1, rfl⟩
section
variable {f : Nat → Tie2}
/-- the ties of some numbers -/
def tis (f : Nat → Tie2) (L : List Nat) : List Tie2 := L.map f
theorem mem_tis {L : List Nat} {t : Tie2} : t ∈ tis f L ↔ ∃ i ∈ L, f i = t := List.mem_map
def del (L : List Nat) (i : Nat) : List Nat := L.filter fun j => decide (j ≠ i)
theorem mem_del {L : List Nat} {i j : Nat} : j ∈ del L i ↔ j ∈ L ∧ j ≠ i := by simp [del]
theorem del_perm : ∀ {L : List Nat} {i : Nat}, L.Nodup → i ∈ L → L.Perm (i :: del L i)
  | [], _, _, h => nomatch h
  | a :: L, i, hn, h => by
    obtain ⟨h1, h2⟩ := List.nodup_cons.mp hn
    by_cases e : a = i
    · subst e
      have : del (a :: L) a = L := by
        unfold del
        rw [List.filter_cons_of_neg (by simp)]
        exact List.filter_eq_self.mpr fun x hx => decide_eq_true fun z => h1 (z ▸ hx)
      rw [this]
    · have hi : i ∈ L := (List.mem_cons.mp h).resolve_left fun z => e z.symm
      have : del (a :: L) i = a :: del L i := by
        unfold del
        rw [List.filter_cons_of_pos (by simp [e])]
      rw [this]
      exact ((del_perm h2 hi).cons a).trans (List.Perm.swap i a _)
theorem del_nodup {L : List Nat} {i : Nat} (h : L.Nodup) : (del L i).Nodup := h.filter _
theorem del_len {L : List Nat} {i : Nat} (hn : L.Nodup) (h : i ∈ L) : (del L i).length + 1 = L.length := by
  have := (del_perm hn h).length_eq
  simp at this; omega
/-- a good tie: behind it all that is left can be come to -/
def Good (f : Nat → Tie2) (L : List Nat) (i : Nat) : Prop := AllR (tis f (del L i)) (f i).2
theorem Bal.del {L : List Nat} {i home : Nat} (hn : L.Nodup) (hi : i ∈ L) (h : Bal (tis f L) (f i).1 home) : Bal (tis f (del L i)) (f i).2 home := h.step ((del_perm hn hi).map f)
theorem good_of {L : List Nat} {here home i : Nat} (hn : L.Nodup) (hb : Bal (tis f L) here home) (ha : AllR (tis f L) here) (hi : i ∈ L) (hib : (f i).1 = here)
    (h2 : (∀ j ∈ L, j ≠ i → (f j).1 ≠ here) ∨ here = home ∨ ∃ j ∈ L, j ≠ i ∧ (f j).1 = here ∧ Rch ((tis f L).filter fun t => decide (t.1 ≠ here)) (f j).2 home) : Good f L i := by
  have hb' : Bal (tis f (del L i)) (f i).2 home := Bal.del hn hi (by rw [hib]; exact hb)
  intro t ht
  obtain ⟨u, hu, rfl⟩ := mem_tis.mp ht
  obtain ⟨huL, hui⟩ := mem_del.mp hu
  rcases h2 with h2 | h2
  · have hne := h2 u huL hui
    have : ∀ {p q : Nat}, Rch (tis f L) p q → (p = here ∨ Rch (tis f (del L i)) (f i).2 p) → (q = here ∨ Rch (tis f (del L i)) (f i).2 q) := fun {p q} k => by
      induction k with
      | refl p => exact fun z => z
      | head h1 _ ih =>
        intro z
        obtain ⟨j, hj, rfl⟩ := mem_tis.mp h1
        refine ih (.inr ?_)
        by_cases e : j = i
        · subst e; exact .refl _
        · rcases z with z | z
          · exact absurd z (h2 j hj e)
          · exact z.snoc (mem_tis.mpr ⟨j, mem_del.mpr ⟨hj, e⟩, rfl⟩) rfl
    exact (this (ha _ (mem_tis.mpr ⟨u, huL, rfl⟩)) (.inl rfl)).resolve_left hne
  · refine hb'.back ?_
    have sub : ∀ t ∈ tis f L, t.1 ≠ here → t ∈ tis f (del L i) := fun t ht hne => by
      obtain ⟨j, hj, rfl⟩ := mem_tis.mp ht
      exact mem_tis.mpr ⟨j, mem_del.mpr ⟨hj, fun z => hne (by rw [z]; exact hib)⟩, rfl⟩
    have hh : Rch (tis f (del L i)) here home := by
      rcases h2 with h2 | ⟨j, hj, hji, hjb, hjr⟩
      · rw [h2]; exact .refl _
      · have h1 : Rch (tis f (del L i)) (f j).2 home := hjr.mono fun t ht => by
          have := List.mem_filter.mp ht
          exact sub t this.1 (by simpa using this.2)
        rw [← hjb]
        exact .head (mem_tis.mpr ⟨j, mem_del.mpr ⟨hj, hji⟩, rfl⟩) h1
    have hx : Rch (tis f L) (f u).1 home := hb.on (ha _ (mem_tis.mpr ⟨u, huL, rfl⟩))
    rcases first_here sub hx with z | z
    · exact z
    · exact z.trans hh
/-- from home each tie is good -/
theorem good_home {L : List Nat} {here i : Nat} (hn : L.Nodup) (hb : Bal (tis f L) here here) (ha : AllR (tis f L) here) (hi : i ∈ L) (hib : (f i).1 = here) : Good f L i := good_of hn hb ha hi hib (.inr (.inl rfl))
/-- there is a good tie -/
theorem good_ex {L : List Nat} {here home : Nat} (hn : L.Nodup) (hb : Bal (tis f L) here home) (ha : AllR (tis f L) here) (hL : L ≠ []) : ∃ i ∈ L, (f i).1 = here ∧ Good f L i := by
  obtain ⟨i, hi, hib⟩ : ∃ i ∈ L, (f i).1 = here := by
    obtain ⟨j, hj⟩ := List.exists_mem_of_ne_nil L hL
    have hr := ha _ (mem_tis.mpr ⟨j, hj, rfl⟩)
    by_cases e : here = (f j).1
    · exact ⟨j, hj, e.symm⟩
    · obtain ⟨t, ht, h1⟩ := hr.first e
      obtain ⟨i, hi, rfl⟩ := mem_tis.mp ht
      exact ⟨i, hi, h1⟩
  by_cases eh : here = home
  · exact ⟨i, hi, hib, good_of hn hb ha hi hib (.inr (.inl eh))⟩
  by_cases h2 : ∃ j ∈ L, j ≠ i ∧ (f j).1 = here
  · have sub : ∀ t ∈ tis f L, t.1 ≠ here → t ∈ (tis f L).filter fun t => decide (t.1 ≠ here) := fun t ht hne => List.mem_filter.mpr ⟨ht, decide_eq_true hne⟩
    rcases last_here sub hb.home with z | ⟨t, ht, h1, h3⟩
    · obtain ⟨t, ht, h1⟩ := z.first eh
      have := (List.mem_filter.mp ht).2
      exact absurd h1 (by simpa using this)
    · obtain ⟨k, hk, rfl⟩ := mem_tis.mp ht
      by_cases e : k = i
      · subst e
        obtain ⟨j, hj, hji, hjb⟩ := h2
        exact ⟨j, hj, hjb, good_of hn hb ha hj hjb (.inr (.inr ⟨k, hk, fun z => hji z.symm, h1, h3⟩))⟩
      · exact ⟨i, hi, hib, good_of hn hb ha hi hib (.inr (.inr ⟨k, hk, e, h1, h3⟩))⟩
  · exact ⟨i, hi, hib, good_of hn hb ha hi hib (.inl fun j hj hji hjb => h2 ⟨j, hj, hji, hjb⟩)⟩
end

/-! need_web, is_tie, are_all, go_on -/
theorem eq_need_web {n : Nat} {l : List (Nat × Nat)} (h : Wb n l) : F_need_web [.dt (encW n l) 0] = .rt .none 0 .none := by
  refine eq_of_ca (ca_run rfl ?_)
  show Ru b_need_web [some (.dt (encW n l) 0)] _ _ _ _
  unfold b_need_web
  refine ru_if (tb_not (tb_of (ok_call (oka_cons (ok_v0 rfl (oka_nil ⟨_, _, rfl, rfl, ca_eq (eq_is_web _) ⟨_, _, rfl, ?_⟩⟩))))))
  rw [h.isWeb]
  repeat right
  exact ⟨rfl, rfl, rfl⟩
local macro_rules | `(tactic| right) => `(tactic| with_reducible refine ca_eq (eq_need_web (by assumption)) ?_)

/-- each tie begins where the one ahead ends -/
def bg (l : List (Nat × Nat)) (i : Nat) : Nat := (l.getD i (0, 0)).1
def en (l : List (Nat × Nat)) (i : Nat) : Nat := (l.getD i (0, 0)).2
def Chain (l : List (Nat × Nat)) (ns : List Nat) : Prop := ∀ z ∈ ns.zip ns.tail, en l z.1 = bg l z.2
theorem bg_at {l : List (Nat × Nat)} {i : Nat} (h : i < l.length) : bg l i = l[i].1 := by unfold bg; rw [List.getD_eq_getElem?_getD, List.getElem?_eq_getElem h]; rfl
theorem en_at {l : List (Nat × Nat)} {i : Nat} (h : i < l.length) : en l i = l[i].2 := by unfold en; rw [List.getD_eq_getElem?_getD, List.getElem?_eq_getElem h]; rfl
theorem tie_get {l : List (Nat × Nat)} {i : Nat} (h : i < l.length) : atI (l.map encT) (i : Int) = some (.tuple [pn (bg l i), pn (en l i)]) := by rw [encT_at h, bg_at h, en_at h]; rfl
theorem zip_enc : ∀ a b : List Nat, zipped (a.map pn) (b.map pn) = (a.zip b).map fun z => .tuple [pn z.1, pn z.2]
  | [], _ => rfl
  | _ :: _, [] => rfl
  | x :: a, y :: b => by
    show PyData.tuple [pn x, pn y] :: zipped (a.map pn) (b.map pn) = _
    rw [zip_enc a b]; rfl
theorem zip_lt {L : Nat} {ns : List Nat} (h : ∀ i ∈ ns, i < L) : ∀ z ∈ ns.zip ns.tail, z.1 < L ∧ z.2 < L := fun z hz => by
  have h1 := List.of_mem_zip (a := z.1) (b := z.2) hz
  exact ⟨h _ h1.1, h _ (List.mem_of_mem_tail h1.2)⟩
theorem us_tie {rs : List RV} {e : Ev} {Q : RV → Ev → Prop} {l : List (Nat × Nat)} {i : Nat} (h : i < l.length) (h1 : derefs e rs = some [.list (l.map encT), pn i]) (h2 : rs.any isBor = false) (q : Q (.val (.tuple [pn (bg l i), pn (en l i)]) 0) e) : Us oIx rs e Q :=
  us_ixL h1 (tie_get h) (by rw [h2]; rfl) q
theorem us_nePn {rs : List RV} {e : Ev} {Q : RV → Ev → Prop} {a b : Nat} (h1 : derefs e rs = some [pn a, pn b]) (q : Q (.val (.bool (!decide (a = b))) 0) e) : Us oNe rs e Q := us_ne h1 rfl rfl (by rw [eqv_pn]; exact q)
theorem us_eqPn {rs : List RV} {e : Ev} {Q : RV → Ev → Prop} {a b : Nat} (h1 : derefs e rs = some [pn a, pn b]) (q : Q (.val (.bool (decide (a = b))) 0) e) : Us oEq rs e Q := us_eq h1 rfl rfl (by rw [eqv_pn]; exact q)

local macro_rules | `(tactic| right) => `(tactic| ((with_reducible apply us_nePn); rfl))
local macro_rules | `(tactic| right) => `(tactic| ((with_reducible apply us_eqPn); rfl))

/-! the law's look at lists of whole numbers -/
theorem whole_ints : ∀ {ds : List PyData}, (∀ d ∈ ds, isWhole d = true) → ∃ is : List Int, ds = is.map .int
  | [], _ => ⟨[], rfl⟩
  | d :: ds, h => by
    obtain ⟨is, e⟩ := whole_ints fun x z => h x (List.mem_cons_of_mem _ z)
    have hd := h d List.mem_cons_self
    cases d with
    | int i => exact ⟨i :: is, by rw [List.map_cons, e]⟩
    | _ => cases hd
theorem isT_whole (d : PyData) : (!isT "int" d || isT "bool" d) = !isWhole d := by cases d <;> rfl
theorem ints_nats {is : List Int} {L : Nat} (h : isort is = (List.range L).map Int.ofNat) : ∃ ns : List Nat, is.map PyData.int = ns.map pn ∧ ns.Perm (List.range L) := by
  obtain ⟨ns, rfl, p⟩ := sort_range.mp h
  exact ⟨ns, (map_pn ns).symm, p⟩
theorem nats_ints {is : List Int} {L : Nat} {ns : List Nat} (e : is.map PyData.int = ns.map pn) (p : ns.Perm (List.range L)) : isort is = (List.range L).map Int.ofNat := by
  refine sort_range.mpr ⟨ns, ?_, p⟩
  rw [map_pn] at e
  have inj : ∀ a b : List Int, a.map PyData.int = b.map PyData.int → a = b := by
    intro a
    induction a with
    | nil => intro b h; cases b with
      | nil => rfl
      | cons _ _ => simp at h
    | cons x a ih => intro b h; cases b with
      | nil => simp at h
      | cons y b =>
        rw [List.map_cons, List.map_cons] at h
        injection h with h1 h2
        injection h1 with h1
        rw [h1, ih b h2]
  exact inj _ _ e
theorem chain_lists {l : List (Nat × Nat)} : ∀ ns : List Nat, ns.tail.map (bg l) = ns.dropLast.map (en l) ↔ Chain l ns
  | [] => by simp [Chain]
  | [a] => by simp [Chain]
  | a :: b :: t => by
    have ih := chain_lists (l := l) (b :: t)
    have e1 : (a :: b :: t).tail.map (bg l) = bg l b :: (b :: t).tail.map (bg l) := rfl
    have e2 : (a :: b :: t).dropLast.map (en l) = en l a :: (b :: t).dropLast.map (en l) := rfl
    rw [e1, e2, List.cons_eq_cons, ih]
    unfold Chain
    have e3 : (a :: b :: t).zip (a :: b :: t).tail = (a, b) :: (b :: t).zip (b :: t).tail := rfl
    rw [e3]
    refine ⟨fun ⟨h1, h2⟩ z hz => ?_, fun h => ⟨(h _ List.mem_cons_self).symm, fun z hz => h z (List.mem_cons_of_mem _ hz)⟩⟩
    rcases List.mem_cons.mp hz with y | y
    · rw [y]; exact h1.symm
    · exact h2 z y
theorem perm_len {ns : List Nat} {L : Nat} (p : ns.Perm (List.range L)) : ns.length = L := by rw [p.length_eq, List.length_range]

/-! rounds from tie 0 -/
def RoundN (l : List (Nat × Nat)) (ns : List Nat) : Prop := ns.Perm (List.range l.length) ∧ (ns ≠ [] → ns.headD 0 = 0 ∧ Chain l ns ∧ en l (ns.getLastD 0) = bg l 0)

/-! walks of plain data -/
def unpn : PyData → Nat
  | .int i => i.toNat
  | _ => 0
theorem unpn_pn (i : Nat) : unpn (pn i) = i := rfl
theorem perm_nat {ys : List PyData} {xs : List Nat} (h : ys.Perm (xs.map pn)) : ∃ zs : List Nat, ys = zs.map pn ∧ zs.Perm xs := by
  refine ⟨ys.map unpn, ?_, ?_⟩
  · rw [List.map_map]
    have : ∀ y ∈ ys, (pn ∘ unpn) y = y := fun y hy => by
      obtain ⟨i, _, rfl⟩ := List.mem_map.mp (h.mem_iff.mp hy)
      rfl
    rw [List.map_congr_left this]; exact (List.map_id' ys).symm
  · have := h.map unpn
    rw [List.map_map, show unpn ∘ pn = id from rfl, List.map_id] at this
    exact this
theorem shuf_nat {n : Int} {w : PyData} {xs : List Nat} (W : Wl n w) (hx : xs.length ≤ 1000) (hn : n + xs.length ≤ 1000000) :
    Ca F__law_shuffled [.dt w 1, .dt (.list (xs.map pn)) 0] fun d k o => ∃ zs : List Nat, d = .list (zs.map pn) ∧ k = 1 ∧ zs.Perm xs ∧ Wl (n + xs.length) o :=
  (shuffled_spec W (by rw [List.length_map]; exact hx) (by rw [List.length_map]; exact hn)).mono fun d k o ⟨ys, e, hk, p, W⟩ => by
    obtain ⟨zs, rfl, p2⟩ := perm_nat p
    rw [List.length_map] at W
    exact ⟨zs, e, hk, p2, W⟩
/-- each tie begins where the one ahead ends -/
def Wk (tl : List (Nat × Nat)) : Prop := ∀ z ∈ tl.zip tl.tail, z.1.2 = z.2.1
theorem zip_snoc {α : Type} (x : α) : ∀ l : List α, (l ++ [x]).zip (l ++ [x]).tail = l.zip l.tail ++ (match l.getLast? with | some y => [(y, x)] | none => [])
  | [] => rfl
  | [a] => rfl
  | a :: b :: t => by
    have ih := zip_snoc x (b :: t)
    have e : ((a :: b :: t) ++ [x]).zip ((a :: b :: t) ++ [x]).tail = (a, b) :: ((b :: t) ++ [x]).zip ((b :: t) ++ [x]).tail := rfl
    rw [e, ih]; rfl
theorem Wk.snoc {tl : List (Nat × Nat)} {t : Nat × Nat} (h : Wk tl) (hl : ∀ y, tl.getLast? = some y → y.2 = t.1) : Wk (tl ++ [t]) := by
  intro z hz
  rw [zip_snoc] at hz
  rcases List.mem_append.mp hz with y | y
  · exact h z y
  · cases q : tl.getLast? with
    | none => rw [q] at y; cases y
    | some u =>
      rw [q] at y
      simp only [List.mem_singleton] at y
      rw [y]; exact hl u q
theorem pn_ix {l : List Nat} {r : Int} (h0 : 0 ≤ r) (h1 : r < l.length) : ∃ x, atI (l.map pn) r = some (pn x) ∧ x ∈ l := by
  obtain ⟨k, rfl⟩ := Int.eq_ofNat_of_zero_le h0
  have hk : k < l.length := by omega
  exact ⟨l[k], pn_at hk, List.getElem_mem hk⟩
theorem walk2_spec {n : Int} {w : PyData} {ps : List Nat} {many : Nat} (W : Wl n w) (hp : 0 < ps.length) (hp2 : ps.length ≤ 1000) (hm : many ≤ 1000) (hn : n + many + 1 ≤ 1000000) :
    Ca F__law_walk [.dt w 1, .dt (.list (ps.map pn)) 0, .dt (pn many) 0] fun d k o => ∃ tl : List (Nat × Nat), d = .list (tl.map encT) ∧ k = 1 ∧ tl.length = many ∧ (∀ t ∈ tl, t.1 ∈ ps ∧ t.2 ∈ ps) ∧ Wk tl ∧ (∀ a b, tl.head? = some a → tl.getLast? = some b → b.2 = a.1) ∧ Wl (n + many + 1) o := by
  refine ca_run rfl ?_
  show Ru b__law_walk [some (.dt w 1), some (.dt (.list (ps.map pn)) 0), some (.dt (pn many) 0), none, none, none, none, none] _ _ _ _
  unfold b__law_walk
  repeat right
  rw [List.length_map]
  refine (draw_spec W (by omega) (by omega) (by omega)).mono ?_
  rintro _ _ o ⟨r, rfl, rfl, r0, r1, W⟩
  obtain ⟨home, eh, hh⟩ := pn_ix (l := ps) r0 r1
  refine us_ixL rfl eh rfl ?_
  repeat right
  refine ru_for ?_
  refine ok_rg1 (oka_cons (ok_v0 rfl (oka_nil ⟨(many : Int), _, rfl, ⟨by omega, by omega⟩, ?_⟩)))
  rw [Int.toNat_natCast]
  refine ⟨fun done e => ∃ w here tl x6 x7, e = [some (.dt w 1), some (.dt (.list (ps.map pn)) 0), some (.dt (pn many) 0), some (.dt (pn home) 0), some (.dt (pn here) 0), some (.dt (.list (tl.map encT)) 1), x6, x7] ∧ here ∈ ps ∧ tl.length = done.length ∧ (∀ t ∈ tl, t.1 ∈ ps ∧ t.2 ∈ ps) ∧ Wk tl ∧
    (∀ y, tl.getLast? = some y → y.2 = here) ∧ (∀ y, tl.head? = some y → y.1 = home) ∧ (tl = [] → here = home) ∧ (done.length = many → here = home) ∧ Wl (n + 1 + done.length) w, ⟨o, home, [], none, none, rfl, hh, rfl, (fun t ht => nomatch ht), (fun z hz => nomatch hz), (fun y hy => nomatch hy), (fun y hy => nomatch hy), (fun _ => rfl), (fun _ => rfl), by simpa using W⟩, ?_, ?_⟩
  · rintro done d rest e hd ⟨w, here, tl, x6, x7, rfl, hhere, hlen, hties, hwk, hlast, hhead, hnil, _, W⟩
    obtain ⟨rfl, hl⟩ := ranged_at hd
    rw [Int.zero_add]
    refine ⟨_, rfl, ?_⟩
    dsimp only [List.set]
    repeat right
    rw [List.length_map]
    refine (draw_spec W (by omega) (by omega) (by omega)).mono ?_
    rintro _ _ o ⟨r, rfl, rfl, r0, r1, W⟩
    obtain ⟨x, ex, hx⟩ := pn_ix (l := ps) r0 r1
    refine us_ixL rfl ex rfl ?_
    repeat right
    have hb : PyData.eqv (.int (done.length : Int)) (.int ((many : Int) - 1)) = decide (done.length + 1 = many) := by rw [int_eqv, decide_eq_decide]; omega
    rw [hb]
    obtain ⟨y, hy, ey, hyh⟩ : ∃ y, y ∈ ps ∧ atI [pn x, pn home] (b01 (decide (done.length + 1 = many))) = some (pn y) ∧ (done.length + 1 = many → y = home) := by
      by_cases hk : done.length + 1 = many
      · rw [decide_eq_true hk]; exact ⟨home, hh, rfl, fun _ => rfl⟩
      · rw [decide_eq_false hk]; exact ⟨x, hx, rfl, fun z => absurd z hk⟩
    refine us_ixL rfl ey rfl ?_
    have hfl : (tl.map encT).length < 1000000 := by rw [List.length_map]; omega
    repeat right
    refine ⟨o, y, tl ++ [(here, y)], _, _, by rw [List.map_append]; rfl, hy, by rw [List.length_append, List.length_append, hlen]; rfl, fun t ht => ?_, hwk.snoc hlast, ?_, ?_, ?_, ?_, W.le (by rw [List.length_append]; simp; omega)⟩
    · rcases List.mem_append.mp ht with z | z
      · exact hties t z
      · rw [List.mem_singleton] at z
        rw [z]; exact ⟨hhere, hy⟩
    · intro y' hy'
      rw [List.getLast?_append] at hy'
      simp at hy'
      rw [← hy']
    · intro y' hy'
      cases tl with
      | nil =>
        simp at hy'
        rw [← hy']; exact hnil rfl
      | cons a t =>
        simp at hy'
        rw [← hy']; exact hhead a rfl
    · intro z; simp at z
    · intro z
      rw [List.length_append, List.length_singleton] at z
      exact hyh z
  · rintro e ⟨w, here, tl, x6, x7, rfl, hhere, hlen, hties, hwk, hlast, hhead, _, hfin, W⟩
    rw [ranged_len] at hlen W hfin
    refine ru_ret (ok_vn rfl (rt_bor rfl ⟨w, rfl, tl, rfl, rfl, hlen, hties, hwk, fun a b ha hb => ?_, W.le (by omega)⟩))
    rw [hlast b hb, hhead a ha]; exact hfin rfl

/-! the tie at a number -/
def tat (l : List (Nat × Nat)) (i : Nat) : Nat × Nat := l.getD i (0, 0)

/-! ties laid in any order -/
/-- l holds tl's ties at the places that ns tells, as far as k -/
structure Fil (tl : List (Nat × Nat)) (ns : List Nat) (k : Nat) (cur : List (Nat × Nat)) : Prop where
  len : cur.length = tl.length
  put : ∀ p, p < k → ∀ i, ns[p]? = some i → cur[i]? = tl[p]?
  mem : ∀ t ∈ cur, t ∈ tl ∨ t = (0, 0)
theorem Fil.step {tl cur : List (Nat × Nat)} {ns : List Nat} {k i : Nat} {t : Nat × Nat} (h : Fil tl ns k cur) (hn : ns.Nodup) (hi : ns[k]? = some i) (ht : tl[k]? = some t) (hb : i < tl.length) : Fil tl ns (k + 1) (cur.set i t) := by
  refine ⟨by rw [List.length_set]; exact h.len, fun p hp j hj => ?_, fun x hx => ?_⟩
  · by_cases hpk : p = k
    · subst hpk
      rw [hi] at hj
      cases hj
      rw [List.getElem?_set_self (by rw [h.len]; exact hb), ht]
    · have hne : i ≠ j := by
        intro z
        subst z
        obtain ⟨h1, e1⟩ := List.getElem?_eq_some_iff.mp hi
        obtain ⟨h2, e2⟩ := List.getElem?_eq_some_iff.mp hj
        have hnp := List.pairwise_iff_getElem.mp hn
        rcases Nat.lt_or_gt_of_ne hpk with q | q
        · exact hnp p k h2 h1 q (by rw [e1, e2])
        · exact hnp k p h1 h2 q (by rw [e1, e2])
      rw [List.getElem?_set_ne hne]
      exact h.put p (by omega) j hj
  · rcases List.mem_or_eq_of_mem_set hx with z | z
    · exact h.mem x z
    · exact .inl (z ▸ List.mem_of_getElem? ht)
theorem Fil.done {tl cur : List (Nat × Nat)} {ns : List Nat} (h : Fil tl ns tl.length cur) (hp : ns.Perm (List.range tl.length)) : ns.map (tat cur) = tl := by
  refine List.ext_getElem? fun p => ?_
  rw [List.getElem?_map]
  have hl := perm_len hp
  by_cases hlt : p < tl.length
  · have e1 : ns[p]? = some ns[p] := List.getElem?_eq_getElem (by omega)
    rw [e1]
    have := h.put p hlt _ e1
    show some (tat cur ns[p]) = _
    rw [List.getElem?_eq_getElem hlt] at this ⊢
    unfold tat
    rw [List.getD_eq_getElem?_getD, this]; rfl
  · rw [List.getElem?_eq_none_iff.mpr (by omega), List.getElem?_eq_none_iff.mpr (by omega)]; rfl
theorem bg_tat (l : List (Nat × Nat)) (i : Nat) : bg l i = (tat l i).1 := rfl
theorem en_tat (l : List (Nat × Nat)) (i : Nat) : en l i = (tat l i).2 := rfl
theorem chain_of_walk {l tl : List (Nat × Nat)} {ns : List Nat} (h : ns.map (tat l) = tl) (hw : Wk tl) : Chain l ns := by
  intro z hz
  have hm : (tat l z.1, tat l z.2) ∈ tl.zip tl.tail := by
    rw [← h, ← List.map_tail, List.zip_map]
    exact List.mem_map.mpr ⟨z, hz, rfl⟩
  have := hw _ hm
  rw [en_tat, bg_tat]; exact this
theorem replicate_enc (n : Nat) : (List.replicate n [PyData.tuple [.int 0, .int 0]]).flatten = (List.replicate n ((0 : Nat), (0 : Nat))).map encT := by
  rw [List.map_replicate]
  induction n with
  | zero => rfl
  | succ n ih => rw [List.replicate_succ, List.flatten_cons, ih]; rfl
theorem us_repl {rs : List RV} {e : Ev} {Q : RV → Ev → Prop} {x : PyData} {k : Int} (h1 : derefs e rs = some [.list [x], .int k]) (h2 : rs.any isBor = false) (h3 : -1000 ≤ k ∧ k ≤ 1000) (q : Q (.val (.list (List.replicate k.toNat [x]).flatten) 1) e) : Us oMul rs e Q :=
  us_of (d := .list (List.replicate k.toNat [x]).flatten) (m := 1) h1 (by
    have hm : most = 16000000 := rfl
    show (if -big ≤ k ∧ k < big ∧ [x].length * k.toNat ≤ most then some (PyData.list (List.replicate k.toNat [x]).flatten, 1) else none) = _
    rw [if_pos ⟨by rw [big_eq]; omega, by rw [big_eq]; omega, by rw [List.length_singleton]; omega⟩]) (by rw [h2]; rfl) q
local macro_rules | `(tactic| right) => `(tactic| ((with_reducible apply us_repl); rfl; rfl; omega))
theorem tgs_last {i : Nat} {e : Ev} {ds : List PyData} {d : PyData} (h1 : e[i]? = some (some (.dt (.list ds) 1))) (h2 : ds ≠ []) : tgSub sIx i (f1 oNeg (fC (.int 1))) d e = some (e.set i (some (.dt (.list (ds.set (ds.length - 1) d)) 1))) := by
  have hl : 0 < ds.length := List.length_pos_iff.mpr h2
  have hx : ixN ds.length (-1) = some (ds.length - 1) := by
    unfold ixN
    rw [if_neg (by omega), if_pos (by omega)]
    exact congrArg some (by omega)
  unfold tgSub isDt
  simp only [h1]
  rw [if_pos True.intro]
  show (match e[i]? with | some (some (.dt c 1)) => _ | _ => none) = _
  simp only [h1]
  rw [if_pos (show boxD (.list ds) = true from rfl)]
  show (match (match ixN ds.length (-1) with | some j => some (PyData.list (ds.set j d)) | none => none) with | some c' => _ | none => none) = _
  rw [hx]
theorem wk_last {tl : List (Nat × Nat)} {t u : Nat × Nat} (h : Wk (tl ++ [t])) (he : u.1 = t.1) : Wk (tl ++ [u]) := by
  intro z hz
  rw [zip_snoc] at hz
  rcases List.mem_append.mp hz with y | y
  · exact h z (by rw [zip_snoc]; exact List.mem_append_left _ y)
  · cases q : tl.getLast? with
    | none => rw [q] at y; cases y
    | some v =>
      rw [q] at y
      simp only [List.mem_singleton] at y
      rw [y]
      have := h (v, t) (by rw [zip_snoc, q]; simp)
      show v.2 = u.1
      rw [he]; exact this
theorem us_enct {rs : List RV} {e : Ev} {Q : RV → Ev → Prop} {l : List (Nat × Nat)} {i : Nat} {t : Nat × Nat} (h : l[i]? = some t) (h1 : derefs e rs = some [.list (l.map encT), pn i]) (q : Q (.val (encT t) 0) e) : Us oIx rs e Q := by
  obtain ⟨hi, rfl⟩ := List.getElem?_eq_some_iff.mp h
  exact us_ixL h1 (encT_at hi) (by show (_ && !true) = false; rw [Bool.not_true, Bool.and_false]) q
theorem us_ixP {rs : List RV} {e : Ev} {Q : RV → Ev → Prop} {l : List Nat} {r : Int} (h1 : derefs e rs = some [.list (l.map pn), .int r]) (h0 : 0 ≤ r) (h2 : r < l.length) (q : ∀ x ∈ l, Q (.val (pn x) 0) e) : Us oIx rs e Q := by
  obtain ⟨x, ex, hx⟩ := pn_ix h0 h2
  exact us_ixL h1 ex (by show (_ && !true) = false; rw [Bool.not_true, Bool.and_false]) (q x hx)
theorem enum_at {all done rest : List PyData} {d : PyData} (h : enumed 0 all = done ++ d :: rest) : ∃ t, all[done.length]? = some t ∧ d = .tuple [.int (done.length : Int), t] := by
  have e : (enumed 0 all)[done.length]? = some d := by rw [h]; simp
  rw [enumed_get] at e
  cases q : all[done.length]? with
  | none => rw [q] at e; cases e
  | some t =>
    rw [q] at e
    cases e
    exact ⟨t, rfl, by rw [Nat.zero_add]⟩
theorem enumed_len : ∀ (k : Nat) (l : List PyData), (enumed k l).length = l.length
  | _, [] => rfl
  | k, _ :: l => congrArg (· + 1) (enumed_len (k + 1) l)

/-! a web with a round, and the round -/
theorem chain_cons {l : List (Nat × Nat)} {a b : Nat} {t : List Nat} : Chain l (a :: b :: t) ↔ en l a = bg l b ∧ Chain l (b :: t) := by
  unfold Chain
  have e3 : (a :: b :: t).zip (a :: b :: t).tail = (a, b) :: (b :: t).zip (b :: t).tail := rfl
  rw [e3]
  refine ⟨fun h => ⟨h _ List.mem_cons_self, fun z hz => h z (List.mem_cons_of_mem _ hz)⟩, fun ⟨h1, h2⟩ z hz => ?_⟩
  rcases List.mem_cons.mp hz with y | y
  · rw [y]; exact h1
  · exact h2 z y
theorem chain_one {l : List (Nat × Nat)} {a : Nat} : Chain l [a] := fun z hz => by simp at hz
theorem chain_nil {l : List (Nat × Nat)} : Chain l [] := fun z hz => by simp at hz
theorem chain_app {l : List (Nat × Nat)} : ∀ {a b : List Nat}, Chain l (a ++ b) ↔ Chain l a ∧ Chain l b ∧ ∀ x y, a.getLast? = some x → b.head? = some y → en l x = bg l y
  | [], b => ⟨fun h => ⟨chain_nil, h, fun x y hx => by simp at hx⟩, fun h => h.2.1⟩
  | [x], [] => ⟨fun h => ⟨h, chain_nil, fun _ _ _ hy => by simp at hy⟩, fun h => h.1⟩
  | [x], y :: b => by
    show Chain l (x :: y :: b) ↔ _
    rw [chain_cons]
    exact ⟨fun ⟨h1, h2⟩ => ⟨chain_one, h2, fun u v hu hv => by simp at hu hv; rw [← hu, ← hv]; exact h1⟩, fun ⟨_, h2, h3⟩ => ⟨h3 x y rfl rfl, h2⟩⟩
  | x :: x' :: a, b => by
    have ih := chain_app (l := l) (a := x' :: a) (b := b)
    show Chain l (x :: x' :: (a ++ b)) ↔ _
    rw [chain_cons, chain_cons]
    have e : x' :: (a ++ b) = (x' :: a) ++ b := rfl
    rw [e, ih]
    have e2 : (x :: x' :: a).getLast? = (x' :: a).getLast? := by simp [List.getLast?_cons]
    rw [e2]
    constructor
    · rintro ⟨h1, h2, h3, h4⟩; exact ⟨⟨h1, h2⟩, h3, h4⟩
    · rintro ⟨⟨h1, h2⟩, h3, h4⟩; exact ⟨h1, h2, h3, h4⟩
theorem headD_of {ns : List Nat} {a : Nat} (h : ns.head? = some a) : ns.headD 0 = a := by
  cases ns with
  | nil => cases h
  | cons b t => cases h; rfl
theorem getLastD_of {ns : List Nat} {a : Nat} (h : ns.getLast? = some a) : ns.getLastD 0 = a := by rw [List.getLastD_eq_getLast?, h]; rfl
/-- a closed chain, begun elsewhere -/
theorem rot_round {l : List (Nat × Nat)} {ord : List Nat} {k : Nat} (hp : ord.Perm (List.range l.length)) (hc : Chain l ord) (hcl : ∀ x y, ord.getLast? = some x → ord.head? = some y → en l x = bg l y) (hk : k < ord.length) (h0 : ord[k]? = some 0) : RoundN l (ord.drop k ++ ord.take k) := by
  have hp2 : (ord.drop k ++ ord.take k).Perm (List.range l.length) := (List.perm_append_comm.trans (.of_eq (List.take_append_drop k ord))).trans hp
  have hc2 := hc
  rw [← List.take_append_drop k ord, chain_app] at hc2
  obtain ⟨c1, c2, c3⟩ := hc2
  have hd : (ord.drop k).head? = some 0 := by rw [List.head?_drop, h0]
  have hdn : ord.drop k ≠ [] := fun z => by rw [z] at hd; cases hd
  refine ⟨hp2, fun _ => ⟨headD_of (by rw [List.head?_append, hd]; rfl), chain_app.mpr ⟨c2, c1, fun x y hx hy => ?_⟩, ?_⟩⟩
  · refine hcl x y ?_ ?_
    · rw [← List.take_append_drop k ord, List.getLast?_append, hx]; rfl
    · cases k with
      | zero => simp at hy
      | succ k =>
        rw [List.head?_take] at hy
        simpa using hy
  · cases hk0 : k with
    | zero =>
      subst hk0
      simp only [List.drop_zero, List.take_zero, List.append_nil] at hd ⊢
      obtain ⟨x, hx⟩ : ∃ x, ord.getLast? = some x := ⟨_, List.getLast?_eq_getLast (by simpa using hdn)⟩
      rw [getLastD_of hx]
      exact hcl x 0 hx hd
    | succ j =>
      have htn : ord.take k ≠ [] := by
        intro z
        have := congrArg List.length z
        rw [List.length_take, List.length_nil] at this
        omega
      rw [← hk0]
      obtain ⟨x, hx⟩ : ∃ x, (ord.take k).getLast? = some x := ⟨_, List.getLast?_eq_getLast htn⟩
      have hl : (ord.drop k ++ ord.take k).getLast? = some x := by rw [List.getLast?_append, hx]; rfl
      rw [getLastD_of hl]
      exact c3 x 0 hx hd

def GoneR (L : Nat) (d : PyData) : Prop := ∃ (n : Nat) (l : List (Nat × Nat)) (ns : List Nat), d = .list [encW n l, encN ns] ∧ Wb n l ∧ l.length ≤ L ∧ RoundN l ns
theorem us_indexN {rs : List RV} {e : Ev} {Q : RV → Ev → Prop} {l : List Nat} {a k : Nat} (h1 : derefs e rs = some [.list (l.map pn), pn a]) (hk : k < l.length) (hv : l[k]? = some a) (hf : ∀ j, j < k → l[j]? ≠ some a) (q : Q (.val (pn k) 0) e) : Us oIndex rs e Q := by
  have hx : (l.map pn).findIdx? (fun z => PyData.eqv z (pn a)) = some k := by
    rw [List.findIdx?_eq_some_iff_getElem]
    obtain ⟨hk', ek⟩ := List.getElem?_eq_some_iff.mp hv
    refine ⟨by rw [List.length_map]; exact hk, ?_, fun j hj => ?_⟩
    · rw [List.getElem_map, ek, eqv_pn]; simp
    · have hjl : j < l.length := by omega
      rw [List.getElem_map, eqv_pn]
      have := hf j hj
      rw [List.getElem?_eq_getElem hjl] at this
      simpa using this
  exact us_of (d := pn k) (m := 0) h1 (by
    show (if SeqAt.shaped (.list (l.map pn)) = true ∧ SeqAt.shaped (pn a) = true then ((l.map pn).findIdx? fun z => PyData.eqv z (pn a)).map fun j => (PyData.int (j : Nat), 0) else none) = _
    rw [if_pos ⟨shaped_nl l, rfl⟩, hx]; rfl) (by show (_ && !true) = false; rw [Bool.not_true, Bool.and_false]) q

theorem gone_spec {w : PyData} {m : Int} {L : Nat} (W : Wl m w) (hm : 0 ≤ m ∧ m ≤ 10000) (hL5 : 5 ≤ L) (hL : L ≤ 20) : Ca F__law_gone [.dt w 1, .dt (.int 7) 0, .dt (pn L) 0] fun d k o => k = 1 ∧ GoneR L d ∧ Wl (m + 100) o := by
  refine ca_run rfl ?_
  show Ru b__law_gone [some (.dt w 1), some (.dt (.int 7) 0), some (.dt (pn L) 0), none, none, none, none, none, none, none, none] _ _ _ _
  unfold b__law_gone
  repeat right
  refine (draw_spec W (by omega) (by omega) (by omega)).mono ?_
  rintro _ _ o ⟨r1, rfl, rfl, h10, h11, W⟩
  repeat right
  refine (draw_spec W (by omega) (by omega) (by omega)).mono ?_
  rintro _ _ o ⟨r2, rfl, rfl, h20, h21, W⟩
  repeat right
  refine (draw_spec W (by omega) (by omega) (by omega)).mono ?_
  rintro _ _ o ⟨r3, rfl, rfl, h30, h31, W⟩
  obtain ⟨n, hn1, hn7, eN⟩ : ∃ n : Nat, 1 ≤ n ∧ n ≤ 7 ∧ atI [PyData.int (1 + r1), .int (1 + r2), .int 7] r3 = some (pn n) := by
    obtain rfl | rfl | rfl : r3 = 0 ∨ r3 = 1 ∨ r3 = 2 := by omega
    · exact ⟨(1 + r1).toNat, by omega, by omega, by unfold pn; rw [Int.toNat_of_nonneg (by omega)]; rfl⟩
    · exact ⟨(1 + r2).toNat, by omega, by omega, by unfold pn; rw [Int.toNat_of_nonneg (by omega)]; rfl⟩
    · exact ⟨7, by omega, by omega, rfl⟩
  refine us_ixL rfl eN rfl ?_
  repeat right
  refine (draw_spec W (by omega) (by omega) (by omega)).mono ?_
  rintro _ _ o ⟨r4, rfl, rfl, h40, h41, W⟩
  repeat right
  refine (draw_spec W (by omega) (by omega) (by omega)).mono ?_
  rintro _ _ o ⟨r5, rfl, rfl, h50, h51, W⟩
  repeat right
  refine (draw_spec W (by omega) (by omega) (by omega)).mono ?_
  rintro _ _ o ⟨r6, rfl, rfl, h60, h61, W⟩
  obtain ⟨many, hmL, eM⟩ : ∃ m : Nat, m ≤ L ∧ atI [PyData.int r4, .int r5, pn L] r6 = some (pn m) := by
    obtain rfl | rfl | rfl : r6 = 0 ∨ r6 = 1 ∨ r6 = 2 := by omega
    · exact ⟨r4.toNat, by omega, by unfold pn; rw [Int.toNat_of_nonneg (by omega)]; rfl⟩
    · exact ⟨r5.toNat, by omega, by unfold pn; rw [Int.toNat_of_nonneg (by omega)]; rfl⟩
    · exact ⟨L, by omega, rfl⟩
  refine us_ixL rfl eM rfl ?_
  repeat right
  rw [Int.toNat_natCast, ranged_pn]
  refine (shuf_nat W (by rw [List.length_range]; omega) (by rw [List.length_range]; omega)).mono ?_
  rintro _ _ o ⟨zs, rfl, rfl, hperm, W⟩
  rw [List.length_range] at W
  have hzl := perm_len hperm
  repeat right
  refine (draw_spec W (by omega) (by omega) (by omega)).mono ?_
  rintro _ _ o ⟨r7, rfl, rfl, h70, h71, W⟩
  repeat right
  rw [← List.map_drop]
  have hps : ∀ p ∈ zs.drop r7.toNat, p < n := fun p hp => List.mem_range.mp (hperm.mem_iff.mp (List.mem_of_mem_drop hp))
  have hpl : 1 ≤ (zs.drop r7.toNat).length ∧ (zs.drop r7.toNat).length ≤ 7 := by rw [List.length_drop]; omega
  generalize zs.drop r7.toNat = ps at hps hpl ⊢
  repeat right
  refine (walk2_spec W (by omega) (by omega) (by omega) (by omega)).mono ?_
  rintro _ _ o ⟨tw, rfl, rfl, hlen2, hmem, hwk, hclose, W⟩
  have hmem2 : ∀ u ∈ tw, u.1 < n ∧ u.2 < n := fun u hu => ⟨hps _ (hmem u hu).1, hps _ (hmem u hu).2⟩
  repeat right
  rw [Int.toNat_natCast, ranged_pn]
  refine (shuf_nat W (by rw [List.length_range]; omega) (by rw [List.length_range]; omega)).mono ?_
  rintro _ _ o ⟨ord, rfl, rfl, hord, W⟩
  rw [List.length_range] at W
  have hol := perm_len hord
  repeat right
  rw [Int.toNat_natCast, replicate_enc]
  repeat right
  refine ru_for ?_
  repeat right
  refine ⟨fun done e => ∃ cur x9 x10, e = [some (.dt o 1), some (.dt (.int 7) 0), some (.dt (pn L) 0), some (.dt (pn n) 0), some (.dt (pn many) 0), some (.dt (.list (tw.map encT)) 1), some (.dt (.list (ord.map pn)) 0), some (.dt (.list (cur.map encT)) 1), x9, x10, none] ∧ Fil tw ord done.length cur,
    ⟨_, none, none, rfl, by rw [List.length_replicate, hlen2], fun p hp => absurd hp (Nat.not_lt_zero _), fun t ht => .inr (List.eq_of_mem_replicate ht)⟩, ?_, ?_⟩
  · rintro done d rest e hd ⟨cur, x9, x10, rfl, hf⟩
    obtain ⟨y, hy, rfl⟩ := enum_at hd
    rw [List.getElem?_map] at hy
    cases hi : ord[done.length]? with
    | none => rw [hi] at hy; cases hy
    | some i =>
      rw [hi] at hy
      cases hy
      obtain ⟨hlt, _⟩ := List.getElem?_eq_some_iff.mp hi
      have hil : i < tw.length := by
        have := List.mem_range.mp (hord.mem_iff.mp (List.mem_of_getElem? hi))
        omega
      obtain ⟨u, hu⟩ : ∃ u, tw[done.length]? = some u := ⟨tw[done.length], List.getElem?_eq_getElem (by omega)⟩
      refine ⟨_, rfl, ?_⟩
      dsimp only [List.set]
      refine ru_asg (ok_2 (ok_vn rfl (ok_v0 rfl (us_enct hu rfl ⟨_, _, _, rfl, tgs_ok (a := (i : Int)) rfl rfl (by omega) (by rw [List.length_map, hf.len]; omega), ?_⟩))))
      refine ⟨cur.set i u, some (.dt (.int (done.length : Int)) 0), some (.dt (pn i) 0), ?_, ?_⟩
      · dsimp only [List.set]
        rw [Int.toNat_natCast, List.map_set]
      · rw [List.length_append]
        exact hf.step (hord.nodup_iff.mpr List.nodup_range) hi hu hil
  · rintro e ⟨cur, x9, x10, rfl, hf⟩
    rw [enumed_len, List.length_map, show ord.length = tw.length by omega] at hf
    have hmap := hf.done (by rw [hlen2]; exact hord)
    have hwb : Wb n cur := ⟨hn1, hn7, by rw [hf.len]; omega, fun t ht => by
      rcases hf.mem t ht with z | z
      · exact hmem2 t z
      · rw [z]; exact ⟨by show 0 < n; omega, by show 0 < n; omega⟩⟩
    have hclen : cur.length = many := by rw [hf.len, hlen2]
    have hordp : ord.Perm (List.range cur.length) := by rw [hclen]; exact hord
    repeat right
    refine ⟨fun hb => ?_, fun hb => ?_⟩
    · have hb : 0 < many := by have := of_decide_eq_true hb; omega
      obtain ⟨k, hk, hk0, hkf⟩ : ∃ k, k < ord.length ∧ ord[k]? = some 0 ∧ ∀ j, j < k → ord[j]? ≠ some 0 := by
        have hm0 : 0 ∈ ord := hord.mem_iff.mpr (List.mem_range.mpr hb)
        refine ⟨ord.idxOf 0, List.idxOf_lt_length_of_mem hm0, ?_, fun j hj z => ?_⟩
        · rw [List.getElem?_eq_getElem (List.idxOf_lt_length_of_mem hm0), List.getElem_idxOf]
        · obtain ⟨h1, h2⟩ := List.getElem?_eq_some_iff.mp z
          have := List.not_of_lt_findIdx (p := (· == 0)) (xs := ord) (i := j) hj
          simp [h2] at this
      have hrot := rot_round hordp (chain_of_walk hmap hwk) (fun x y hx hy => ?_) hk hk0
      · refine ru_set (ok_me (ok_v0 rfl ⟨_, rfl, rfl, oka_cons (ok_c (oka_nil (us_indexN (a := 0) rfl hk hk0 hkf ⟨_, rfl, ?_⟩)))⟩))
        dsimp only [List.set]
        repeat right
        rw [Int.toNat_natCast, ← List.map_drop, ← List.map_take, ← List.map_append]
        exact ⟨rfl, ⟨n, cur, _, rfl, hwb, by omega, hrot⟩, W.le (by omega)⟩
      · have hx2 : en cur x = ((tw.getLast?).getD (0, 0)).2 := by
          rw [en_tat, ← hmap, List.getLast?_map, hx]; rfl
        have hy2 : bg cur y = ((tw.head?).getD (0, 0)).1 := by
          rw [bg_tat, ← hmap, List.head?_map, hy]; rfl
        rw [hx2, hy2]
        cases h1 : tw.head? with
        | none => rw [← hmap, List.head?_map, hy] at h1; cases h1
        | some a =>
          cases h2 : tw.getLast? with
          | none => rw [← hmap, List.getLast?_map, hx] at h2; cases h2
          | some b => exact hclose a b h1 h2
    · have hb : many = 0 := by have := of_decide_eq_false hb; omega
      repeat right
      have ho : ord = [] := List.eq_nil_of_length_eq_zero (by omega)
      subst ho
      refine ⟨rfl, ⟨n, cur, [], rfl, hwb, by omega, hordp, fun z => absurd rfl z⟩, W.le (by omega)⟩

def etie (l : List (Nat × Nat)) (i : Nat) : PyData := .tuple [.int (i : Int), .tuple [pn (bg l i), pn (en l i)]]
theorem enum_etie (l : List (Nat × Nat)) : enumed 0 (l.map encT) = (List.range l.length).map (etie l) := by
  refine List.ext_getElem? fun i => ?_
  rw [enumed_get, List.getElem?_map, List.getElem?_map]
  by_cases h : i < l.length
  · rw [List.getElem?_range h, List.getElem?_eq_getElem h]
    show some (PyData.tuple [.int ((0 + i : Nat) : Int), encT l[i]]) = some (etie l i)
    unfold etie
    rw [bg_at h, en_at h, Nat.zero_add]; rfl
  · rw [List.getElem?_eq_none (by simpa using h), List.getElem?_eq_none (by simpa using h)]; rfl

/-! ties_out, ties_in -/
theorem eq_ties_out {n p : Nat} {l : List (Nat × Nat)} (hw : Wb n l) : F_ties_out [.dt (encW n l) 0, .dt (pn p) 0] = .rt (.list (((List.range l.length).filter fun i => decide (bg l i = p)).map pn)) 1 .none := by
  have hwl := hw.len
  refine eq_of_ca (ca_run rfl ?_)
  show Ru b_ties_out [some (.dt (encW n l) 0), some (.dt (pn p) 0), none, none] _ _ _ _
  unfold b_ties_out
  repeat right
  refine ok_lcP (List.range l.length) (etie l) (fun i => decide (bg l i = p)) pn ?_
  repeat right
  refine ⟨⟨_, rfl, fun i hi => ⟨_, rfl, ?_⟩⟩, enum_etie l, by rw [List.length_range]; omega, ?_⟩
  · dsimp only [List.set]
    repeat right
    exact ⟨rfl, fun _ => ok_v0 rfl ⟨_, rfl, rfl⟩⟩
  · repeat right
    exact ⟨rfl, rfl, rfl⟩
theorem eq_ties_in {n p : Nat} {l : List (Nat × Nat)} (hw : Wb n l) : F_ties_in [.dt (encW n l) 0, .dt (pn p) 0] = .rt (.list (((List.range l.length).filter fun i => decide (en l i = p)).map pn)) 1 .none := by
  have hwl := hw.len
  refine eq_of_ca (ca_run rfl ?_)
  show Ru b_ties_in [some (.dt (encW n l) 0), some (.dt (pn p) 0), none, none] _ _ _ _
  unfold b_ties_in
  repeat right
  refine ok_lcP (List.range l.length) (etie l) (fun i => decide (en l i = p)) pn ?_
  repeat right
  refine ⟨⟨_, rfl, fun i hi => ⟨_, rfl, ?_⟩⟩, enum_etie l, by rw [List.length_range]; omega, ?_⟩
  · dsimp only [List.set]
    repeat right
    exact ⟨rfl, fun _ => ok_v0 rfl ⟨_, rfl, rfl⟩⟩
  · repeat right
    exact ⟨rfl, rfl, rfl⟩
theorem count_len (f : Nat → Nat) (p : Nat) : ∀ xs : List Nat, (xs.filter fun i => decide (f i = p)).length = (xs.map f).count p
  | [] => rfl
  | x :: xs => by
    have ih := count_len f p xs
    by_cases h : f x = p
    · rw [List.filter_cons_of_pos (by simpa using h), List.length_cons, ih, List.map_cons, h, List.count_cons_self]
    · rw [List.filter_cons_of_neg (by simpa using h), ih, List.map_cons, List.count_cons_of_ne h]

theorem intsOf_pn : ∀ ns : List Nat, intsOf (ns.map pn) = some (ns.map Int.ofNat)
  | [] => rfl
  | a :: t => by
    show intsOf (pn a :: t.map pn) = _
    unfold pn intsOf
    have := intsOf_pn t
    unfold pn at this
    rw [this]; rfl
theorem count_ofNat (p : Nat) : ∀ ns : List Nat, (ns.map Int.ofNat).count (Int.ofNat p) = ns.count p
  | [] => rfl
  | a :: t => by
    have ih := count_ofNat p t
    by_cases h : a = p
    · rw [h, List.map_cons, List.count_cons_self, List.count_cons_self, ih]
    · rw [List.map_cons, List.count_cons_of_ne (fun z => h (Int.ofNat.inj z)), List.count_cons_of_ne h, ih]
theorem us_countN {rs : List RV} {e : Ev} {Q : RV → Ev → Prop} {ns : List Nat} {p : Nat} (h1 : derefs e rs = some [.list (ns.map pn), pn p]) (q : Q (.val (pn (ns.count p)) 0) e) : Us oCount rs e Q :=
  us_of (d := pn (ns.count p)) (m := 0) h1 (by
    show (intsOf (ns.map pn)).map _ = _
    rw [intsOf_pn]
    show some (PyData.int (((ns.map Int.ofNat).count (Int.ofNat p) : Nat) : Int), 0) = some (pn (ns.count p), 0)
    have : (ns.map Int.ofNat).count (Int.ofNat p) = ns.count p := count_ofNat p ns
    rw [this]; rfl) (by show (_ && !true) = false; rw [Bool.not_true, Bool.and_false]) q

/-! places come to: the search with a dict and a stack -/
def encF (fs : List Nat) : List (PyData × PyData) := fs.map fun p => (pn p, .bool true)
def nk (p : Nat) : Key := .inl (p : Int)
theorem keq_pn (p q : Nat) : keq (nk p) (pn q) = decide (q = p) := by
  show decide ((q : Int) = (p : Int)) = decide (q = p)
  rw [decide_eq_decide]; omega
theorem any_encF (fs : List Nat) (p : Nat) : ((encF fs).any fun x => keq (nk p) x.1) = decide (p ∈ fs) := by
  induction fs with
  | nil => rfl
  | cons a t ih =>
    show (keq (nk p) (pn a) || (encF t).any fun x => keq (nk p) x.1) = _
    rw [ih, keq_pn, Bool.eq_iff_iff, Bool.or_eq_true, decide_eq_true_eq, decide_eq_true_eq, decide_eq_true_eq, List.mem_cons]
    exact or_congr_left ⟨fun h => h.symm, fun h => h.symm⟩
theorem dput_encF {fs : List Nat} {p : Nat} (h : p ∉ fs) : dput (encF fs) (nk p) (.bool true) = encF (fs ++ [p]) := by
  unfold dput
  rw [any_encF, decide_eq_false h, if_neg Bool.false_ne_true]
  unfold encF
  rw [List.map_append]; rfl
theorem dget_encF (fs : List Nat) (p : Nat) : (dget (encF fs) (nk p)).isSome = decide (p ∈ fs) := by
  rw [← any_encF]
  unfold dget
  rw [Option.isSome_map, Bool.eq_iff_iff, List.find?_isSome, List.any_eq_true]
theorem keyOf_pn (p : Nat) : keyOf (pn p) = some (nk p) := rfl
theorem encF_len (fs : List Nat) : (encF fs).length = fs.length := List.length_map _
theorem encF_keys (fs : List Nat) : (encF fs).map (·.1) = (fs.map Int.ofNat).map .int := by
  unfold encF
  rw [List.map_map, List.map_map]; rfl
theorem nodup_lt : ∀ {n : Nat} {fs : List Nat}, fs.Nodup → (∀ q ∈ fs, q < n) → fs.length ≤ n
  | 0, fs, _, k => by
    cases fs with
    | nil => exact Nat.le_refl _
    | cons a t => exact absurd (k a List.mem_cons_self) (Nat.not_lt_zero _)
  | n + 1, fs, h, k => by
    by_cases z : n ∈ fs
    · have := nodup_lt (n := n) (del_nodup (i := n) h) fun q hq => by
        have := mem_del.mp hq
        have := k q this.1
        omega
      have := del_len h z
      omega
    · have := nodup_lt (n := n) h fun q hq => by
        have := k q hq
        have : q ≠ n := fun e => z (e ▸ hq)
        omega
      omega
/-- the search, between two places -/
structure DI (E : List Tie2) (p : Nat) (fs ws : List Nat) : Prop where
  nd : fs.Nodup
  lt : ∀ q ∈ fs, q < 7
  base : p ∈ fs
  sub : ∀ q ∈ ws, q ∈ fs
  rch : ∀ q ∈ fs, Rch E p q
  cl : ∀ q ∈ fs, q ∉ ws → ∀ u ∈ E, u.1 = q → u.2 ∈ fs
/-- the search, at a place -/
structure DJ (E : List Tie2) (p here m : Nat) (D : List Tie2) (fs ws : List Nat) : Prop where
  nd : fs.Nodup
  lt : ∀ q ∈ fs, q < 7
  base : p ∈ fs
  sub : ∀ q ∈ ws, q ∈ fs
  rch : ∀ q ∈ fs, Rch E p q
  at_ : here ∈ fs
  cl : ∀ q ∈ fs, q ∉ ws → q ≠ here → ∀ u ∈ E, u.1 = q → u.2 ∈ fs
  dn : ∀ u ∈ D, u.1 = here → u.2 ∈ fs
  mu : 2 * (7 - fs.length) + ws.length ≤ m
theorem DI.start {E : List Tie2} {p : Nat} (h : p < 7) : DI E p [p] [p] := by
  refine ⟨by simp, fun q hq => ?_, by simp, fun q hq => hq, fun q hq => ?_, fun q hq hn => absurd hq hn⟩
  · rw [List.mem_singleton] at hq; omega
  · rw [List.mem_singleton] at hq; rw [hq]; exact .refl _
theorem DI.pop {E : List Tie2} {p here : Nat} {fs ws : List Nat} (h : DI E p fs (ws ++ [here])) : DJ E p here (2 * (7 - fs.length) + ws.length) [] fs ws :=
  ⟨h.nd, h.lt, h.base, fun q hq => h.sub q (List.mem_append_left _ hq), h.rch, h.sub _ (List.mem_append_right _ (List.mem_singleton.mpr rfl)), fun q hq hn he => h.cl q hq (fun z => (List.mem_append.mp z).elim hn fun y => he (List.mem_singleton.mp y)), (fun u hu => nomatch hu), Nat.le_refl _⟩
theorem DJ.add {E : List Tie2} {p here m : Nat} {D : List Tie2} {fs ws : List Nat} {u : Tie2} (h : DJ E p here m D fs ws) (hu : u ∈ E) (h7 : u.2 < 7) (h1 : u.1 = here) (h2 : u.2 ∉ fs) : DJ E p here m (D ++ [u]) (fs ++ [u.2]) (ws ++ [u.2]) := by
  have nd' : (fs ++ [u.2]).Nodup := List.nodup_append.mpr ⟨h.nd, by simp, fun a ha b hb => by rw [List.mem_singleton] at hb; rw [hb]; exact fun z => h2 (z ▸ ha)⟩
  have lt' : ∀ q ∈ fs ++ [u.2], q < 7 := fun q hq => (List.mem_append.mp hq).elim (h.lt q) fun y => by rw [List.mem_singleton.mp y]; exact h7
  have ll := nodup_lt nd' lt'
  rw [List.length_append, List.length_singleton] at ll
  refine ⟨nd', lt', List.mem_append_left _ h.base, fun q hq => ?_, fun q hq => ?_, List.mem_append_left _ h.at_, fun q hq hn he v hv e => ?_, fun v hv e => ?_, ?_⟩
  · exact (List.mem_append.mp hq).elim (fun y => List.mem_append_left _ (h.sub q y)) fun y => List.mem_append_right _ y
  · refine (List.mem_append.mp hq).elim (h.rch q) fun y => ?_
    rw [List.mem_singleton.mp y]
    exact (h.rch _ h.at_).snoc hu h1
  · refine List.mem_append_left _ (h.cl q ((List.mem_append.mp hq).resolve_right fun y => hn (List.mem_append_right _ y)) (fun y => hn (List.mem_append_left _ y)) he v hv e)
  · refine (List.mem_append.mp hv).elim (fun y => List.mem_append_left _ (h.dn v y e)) fun y => ?_
    rw [List.mem_singleton.mp y]
    exact List.mem_append_right _ (List.mem_singleton.mpr rfl)
  · have := h.mu
    rw [List.length_append, List.length_append, List.length_singleton]; omega
theorem DJ.skip {E : List Tie2} {p here m : Nat} {D : List Tie2} {fs ws : List Nat} {u : Tie2} (h : DJ E p here m D fs ws) (h1 : u.1 = here → u.2 ∈ fs) : DJ E p here m (D ++ [u]) fs ws :=
  ⟨h.nd, h.lt, h.base, h.sub, h.rch, h.at_, h.cl, fun v hv e => (List.mem_append.mp hv).elim (fun y => h.dn v y e) fun y => by rw [List.mem_singleton] at y; subst y; exact h1 e, h.mu⟩
theorem DJ.done {E : List Tie2} {p here m : Nat} {D : List Tie2} {fs ws : List Nat} (h : DJ E p here m D fs ws) (hD : ∀ u ∈ E, u ∈ D) : DI E p fs ws :=
  ⟨h.nd, h.lt, h.base, h.sub, h.rch, fun q hq hn u hu e => by
    by_cases z : q = here
    · exact h.dn u (hD u hu) (e.trans z)
    · exact h.cl q hq hn z u hu e⟩
theorem DI.fin {E : List Tie2} {p : Nat} {fs : List Nat} (h : DI E p fs []) (q : Nat) : q ∈ fs ↔ Rch E p q :=
  ⟨h.rch q, fun k => Rch.inv (P := fun q => q ∈ fs) (fun u hu z => h.cl _ z List.not_mem_nil u hu rfl) k h.base⟩
/-- ties both ways -/
def dirs (T : List Tie2) : List Tie2 := T.flatMap fun t => [t, t.swap]
theorem mem_dirs {T : List Tie2} {u : Tie2} : u ∈ dirs T ↔ u ∈ T ∨ u.swap ∈ T := by
  unfold dirs
  rw [List.mem_flatMap]
  refine ⟨fun ⟨t, ht, hu⟩ => ?_, fun h => ?_⟩
  · rcases List.mem_cons.mp hu with z | z
    · exact .inl (z ▸ ht)
    · rw [List.mem_singleton] at z
      rw [z]; exact .inr ht
  · rcases h with h | h
    · exact ⟨u, h, List.mem_cons_self⟩
    · exact ⟨u.swap, h, List.mem_cons_of_mem _ (List.mem_singleton.mpr rfl)⟩
theorem rch_dirs {T : List Tie2} {p q : Nat} : Rch (dirs T) p q ↔ Hng T p q := by
  refine ⟨fun h => Rch.inv (P := fun q => Hng T p q) (fun u hu k => ?_) h (.refl p), fun h => ?_⟩
  · rcases mem_dirs.mp hu with z | z
    · exact .fwd k z
    · exact Hng.bwd (t := u.swap) k z
  · induction h with
    | refl => exact .refl _
    | fwd _ h1 ih => exact ih.snoc (mem_dirs.mpr (.inl h1)) rfl
    | bwd _ h1 ih =>
      rename_i t _
      exact ih.snoc (t := t.swap) (mem_dirs.mpr (.inr h1)) rfl
/-- the sorted list of some places below 7 -/
noncomputable def upto (P : Nat → Prop) : List Nat := (List.range 7).filter fun q => dec (P q)
theorem mem_upto {P : Nat → Prop} {q : Nat} : q ∈ upto P ↔ q < 7 ∧ P q := by
  unfold upto
  rw [List.mem_filter, List.mem_range, dec_iff]
theorem isort_upto {fs : List Nat} {P : Nat → Prop} (nd : fs.Nodup) (h : ∀ q, q ∈ fs ↔ q < 7 ∧ P q) : isort (fs.map Int.ofNat) = (upto P).map Int.ofNat := by
  have ndu : (upto P).Nodup := List.nodup_range.filter _
  have p : fs.Perm (upto P) := (List.perm_ext_iff_of_nodup nd ndu).mpr fun q => by rw [h, mem_upto]
  refine sorted_uniq ((isort_perm _).trans (p.map _)) (isort_sorted _) ?_
  rw [List.pairwise_map]
  exact (List.pairwise_lt_range.sublist List.filter_sublist).imp fun {a b} hab => by simp; omega
theorem mPop_ok (ws : List Nat) (here : Nat) : mPop (.list ((ws ++ [here]).map pn)) [] = some (.list (ws.map pn), pn here) := by
  rw [List.map_append]
  show (match (ws.map pn ++ [pn here])[(ws.map pn ++ [pn here]).length - 1]? with | some x => some (PyData.list (ws.map pn ++ [pn here]).dropLast, x) | none => none) = _
  rw [List.length_append, List.length_singleton, Nat.add_sub_cancel, List.getElem?_append_right (Nat.le_refl _), Nat.sub_self]
  show some (PyData.list (ws.map pn ++ [pn here]).dropLast, pn here) = _
  rw [List.dropLast_concat]
theorem snoc_of {ws : List Nat} (h : ws ≠ []) : ∃ us here, ws = us ++ [here] := ⟨ws.dropLast, ws.getLast h, (List.dropLast_concat_getLast h).symm⟩
theorem isEmpty_map {α : Type} (f : α → PyData) (l : List α) : (l.map f).isEmpty = l.isEmpty := by cases l <;> rfl

/-! an item of a mapped list -/
theorem map_at {α : Type} {f : α → PyData} {l : List α} {done rest : List PyData} {d : PyData} (h : l.map f = done ++ d :: rest) : ∃ t, l[done.length]? = some t ∧ d = f t := by
  have h1 : (l.map f)[done.length]? = some d := by rw [h, List.getElem?_append_right (Nat.le_refl _), Nat.sub_self]; rfl
  rw [List.getElem?_map] at h1
  cases q : l[done.length]? with
  | none => rw [q] at h1; cases h1
  | some t => rw [q] at h1; cases h1; exact ⟨t, rfl, rfl⟩

/-! hung_with, used_places, uneven_places, can_be_gone, has_round: the program's -/
theorem eq_hung_with {T : List Tie2} {p : Nat} (hT : ∀ t ∈ T, t.1 < 7 ∧ t.2 < 7) (hl : T.length ≤ 1000) (hp : p < 7) : F_hung_with [.dt (.list (T.map encT)) 0, .dt (pn p) 0] = .rt (.list ((upto (Hng T p)).map pn)) 1 .none := by
  refine eq_of_ca (ca_run rfl ?_)
  show Ru b_hung_with [some (.dt (.list (T.map encT)) 0), some (.dt (pn p) 0), none, none, none, none, none, none] _ _ _ _
  unfold b_hung_with
  refine ru_seq (ru_set (ok_disp (oka_cons (ok_v0 rfl (oka_cons (ok_c (oka_nil ⟨_, _, _, rfl, rfl, rfl, _, rfl, ?_⟩)))))))
  dsimp only [List.set]
  rw [show dmerge [(Sum.inl (p : Int), PyData.bool true)] [] = encF [p] from rfl]
  repeat right
  refine ru_while (fun k e => ∃ fs ws x4 x5 x6 x7, e = [some (.dt (.list (T.map encT)) 0), some (.dt (pn p) 0), some (.dt (.dict (encF fs)) 1), some (.dt (.list (ws.map pn)) 1), x4, x5, x6, x7] ∧ DI (dirs T) p fs ws ∧ 2 * (7 - fs.length) + ws.length ≤ k ∧ k ≤ 100) 100 (by omega) ⟨[p], [p], none, none, none, none, rfl, DI.start hp, by simp, Nat.le_refl _⟩ ?_
  rintro k e ⟨fs, ws, x4, x5, x6, x7, rfl, hI, hk, hk1⟩
  repeat right
  refine us_neNil rfl ?_
  rw [isEmpty_map]
  refine ⟨_, _, rfl, fun hb => ?_, fun hb => ?_⟩
  · have hne : ws ≠ [] := fun z => by rw [z] at hb; cases hb
    obtain ⟨us, here, rfl⟩ := snoc_of hne
    refine ru_seq (ru_set (ok_met rfl rfl (oka_nil ⟨_, _, _, _, _, rfl, rfl, rfl, mPop_ok us here, _, rfl, ?_⟩)))
    dsimp only [List.set]
    have hJ := hI.pop
    obtain ⟨m, hm⟩ : ∃ m, m = 2 * (7 - fs.length) + us.length := ⟨_, rfl⟩
    rw [← hm] at hJ
    have hmk : m < k := by rw [List.length_append, List.length_singleton] at hk; omega
    refine ru_for (ok_it1 (ok_v0 rfl ⟨_, _, _, rfl, rfl, ?_⟩))
    refine ⟨fun done e => ∃ fs ws x5 x6 x7, e = [some (.dt (.list (T.map encT)) 0), some (.dt (pn p) 0), some (.dt (.dict (encF fs)) 1), some (.dt (.list (ws.map pn)) 1), some (.dt (pn here) 0), x5, x6, x7] ∧ DJ (dirs T) p here m (dirs (T.take done.length)) fs ws, ⟨fs, us, _, _, _, rfl, hJ⟩, ?_, ?_⟩
    · rintro done d rest e hd ⟨fs, ws, x5, x6, x7, rfl, hJ⟩
      obtain ⟨t, ht, rfl⟩ := map_at hd
      have htm : t ∈ T := List.mem_of_getElem? ht
      refine ⟨_, rfl, ?_⟩
      dsimp only [List.set]
      refine ru_for ?_
      repeat right
      refine ⟨fun d2 e => ∃ fs ws x6 x7, e = [some (.dt (.list (T.map encT)) 0), some (.dt (pn p) 0), some (.dt (.dict (encF fs)) 1), some (.dt (.list (ws.map pn)) 1), some (.dt (pn here) 0), some (.dt (encT t) 0), x6, x7] ∧ DJ (dirs T) p here m (dirs (T.take done.length) ++ [t, t.swap].take d2.length) fs ws, ⟨fs, ws, _, _, rfl, by rw [List.length_nil, List.take_zero, List.append_nil]; exact hJ⟩, ?_, ?_⟩
      · rintro d2 d rest2 e hd2 ⟨fs, ws, x6, x7, rfl, hJ⟩
        obtain ⟨u, hu, rfl⟩ := map_at (l := [t, t.swap]) (f := encT) hd2
        have hum : u ∈ dirs T := by
          have := List.mem_of_getElem? hu
          rcases List.mem_cons.mp this with z | z
          · rw [z]; exact mem_dirs.mpr (.inl htm)
          · rw [List.mem_singleton.mp z]; exact mem_dirs.mpr (.inr htm)
        have hu7 : u.2 < 7 := by
          rcases mem_dirs.mp hum with z | z
          · exact (hT _ z).2
          · exact (hT _ z).1
        have etk : dirs (T.take done.length) ++ [t, t.swap].take (d2 ++ [encT u]).length = (dirs (T.take done.length) ++ [t, t.swap].take d2.length) ++ [u] := by
          rw [List.append_assoc, List.length_append, List.length_singleton, List.take_succ, hu]; rfl
        have hl7 := nodup_lt hJ.nd hJ.lt
        have hmu := hJ.mu
        refine ⟨_, rfl, ?_⟩
        dsimp only [List.set]
        refine ru_if (tb_and (tb_of (ok_2 (ok_v0 rfl (ok_v0 rfl (us_eqPn (a := u.1) (b := here) rfl ⟨_, _, rfl, fun h1 => ?_, fun h1 => ?_⟩))))))
        · refine tb_of (ok_2 (ok_v0 rfl (ok_vn rfl (us_notInD rfl (keyOf_pn u.2) ⟨_, _, rfl, fun h2 => ?_, fun h2 => ?_⟩))))
          · rw [dget_encF] at h2
            have h2 : u.2 ∉ fs := by simpa using h2
            refine ru_seq (ru_asg (ok_c ⟨_, _, _, rfl, tgs_dict rfl (ok_v0 rfl ⟨rfl, rfl⟩) (keyOf_pn u.2) (by rw [encF_len]; omega), ?_⟩))
            rw [dput_encF h2]
            have hwl : (ws.map pn).length < 1000000 := by rw [List.length_map]; omega
            dsimp only [List.set]
            refine ru_drop ?_
            repeat right
            exact ⟨fs ++ [u.2], ws ++ [u.2], _, _, by rw [List.map_append]; rfl, by rw [etk]; exact hJ.add hum hu7 (of_decide_eq_true h1) h2⟩
          · rw [dget_encF] at h2
            have h2 : u.2 ∈ fs := by simpa using h2
            exact ru_nx ⟨fs, ws, _, _, rfl, by rw [etk]; exact hJ.skip fun _ => h2⟩
        · exact ⟨fun z => (nomatch z), fun _ => ru_nx ⟨fs, ws, _, _, rfl, by rw [etk]; exact hJ.skip fun z => absurd z (of_decide_eq_false h1)⟩⟩
      · rintro e ⟨fs, ws, x6, x7, rfl, hJ⟩
        refine ⟨fs, ws, _, _, _, rfl, ?_⟩
        have : dirs (T.take (done ++ [encT t]).length) = dirs (T.take done.length) ++ [t, t.swap] := by
          rw [List.length_append, List.length_singleton, List.take_succ, ht]
          unfold dirs
          rw [List.flatMap_append]; rfl
        rw [this]; exact hJ
    · rintro e ⟨fs, ws, x5, x6, x7, rfl, hJ⟩
      rw [List.length_map, List.take_length] at hJ
      exact ⟨m, hmk, fs, ws, _, _, _, _, rfl, hJ.done fun u hu => hu, hJ.mu, by omega⟩
  · have hne : ws = [] := by simpa using hb
    subst hne
    have hf := hI.fin
    have hl7 := nodup_lt hI.nd hI.lt
    refine ru_ret (ok_N (oka_cons (ok_vn rfl (oka_nil (us_sortD rfl (encF_keys fs) (by rw [encF_len]; omega) (rt_val ?_))))))
    refine ⟨_, rfl, ?_, rfl, rfl⟩
    rw [isort_upto (P := Hng T p) hI.nd fun q => by rw [hf q, rch_dirs]; exact ⟨fun z => ⟨hI.lt q ((hf q).mpr (rch_dirs.mpr z)), z⟩, fun z => z.2⟩, ← map_pn]

/-! used_places, uneven_places, can_be_gone, has_round -/
def Used (l : List Tie2) (p : Nat) : Prop := ∃ t ∈ l, t.1 = p ∨ t.2 = p
theorem filt_upto {n : Nat} {P : Nat → Prop} (hn : n ≤ 7) (d : Nat → Bool) (h : ∀ q, q < n → (d q = true ↔ P q)) (k : ∀ q, P q → q < n) : (List.range n).filter d = upto P := by
  unfold upto
  have e : List.range 7 = List.range n ++ (List.range (7 - n)).map (n + ·) := by
    rw [← List.range_add]; congr 1; omega
  rw [e, List.filter_append]
  have e2 : ((List.range (7 - n)).map (n + ·)).filter (fun q => dec (P q)) = [] := by
    rw [List.filter_eq_nil_iff]
    intro q hq z
    obtain ⟨i, _, rfl⟩ := List.mem_map.mp hq
    have := k _ (dec_iff.mp z)
    omega
  rw [e2, List.append_nil]
  refine List.filter_congr fun q hq => ?_
  exact dec_of (h q (List.mem_range.mp hq))
theorem us_inPT {rs : List RV} {e : Ev} {Q : RV → Ev → Prop} {p a b : Nat} (h1 : derefs e rs = some [pn p, .tuple [pn a, pn b]]) (q : Q (.val (.bool (decide (a = p ∨ b = p))) 0) e) : Us oIn rs e Q :=
  us_of (d := .bool (decide (a = p ∨ b = p))) (m := 0) h1 (by
    have : memD (pn p) [pn a, pn b] = decide (a = p ∨ b = p) := by
      show (PyData.eqv (pn a) (pn p) || (PyData.eqv (pn b) (pn p) || false)) = _
      rw [eqv_pn, eqv_pn, Bool.eq_iff_iff]
      simp
    rw [← this]; rfl) (by show (_ && !true) = false; rw [Bool.not_true, Bool.and_false]) q
theorem isEmpty_filter {α : Type} (f : α → PyData) (p : α → Bool) (l : List α) : ((l.filter p).map f).isEmpty = !(l.any p) := by
  rw [isEmpty_map, Bool.eq_iff_iff, List.isEmpty_iff, List.filter_eq_nil_iff, Bool.not_eq_true', List.any_eq_false]
theorem eq_used_places {n : Nat} {l : List Tie2} (hw : Wb n l) : F_used_places [.dt (encW n l) 0] = .rt (.list ((upto (Used l)).map pn)) 1 .none := by
  have hwl := hw.len
  have hn7 := hw.n7
  refine eq_of_ca (ca_run rfl ?_)
  show Ru b_used_places [some (.dt (encW n l) 0), none, none] _ _ _ _
  unfold b_used_places
  repeat right
  refine ok_lcP (List.range n) pn (fun p => l.any fun t => decide (t.1 = p ∨ t.2 = p)) pn ?_
  repeat right
  refine ⟨⟨_, rfl, fun p hp => ⟨_, rfl, ?_⟩⟩, by rw [Int.toNat_natCast, ranged_pn], by rw [List.length_range]; omega, ?_⟩
  · dsimp only [List.set]
    refine tb_of (ok_2 (ok_lcP l encT (fun t => decide (t.1 = p ∨ t.2 = p)) (fun _ => .int 1) ?_))
    repeat right
    refine ⟨⟨_, rfl, fun t ht => ⟨_, rfl, ?_⟩⟩, rfl, by omega, ?_⟩
    · dsimp only [List.set]
      refine tb_of (ok_2 (ok_v0 rfl (ok_v0 rfl (us_inPT (p := p) (a := t.1) (b := t.2) rfl ?_))))
      exact ⟨_, _, rfl, rfl, rfl, fun _ => ok_c ⟨_, rfl, rfl⟩⟩
    · repeat right
      refine us_neNil rfl ?_
      rw [isEmpty_filter, Bool.not_not]
      exact ⟨_, _, rfl, rfl, rfl, fun _ => ok_v0 rfl ⟨_, rfl, rfl⟩⟩
  · repeat right
    refine ⟨?_, rfl, rfl⟩
    rw [filt_upto (P := Used l) hn7 _ (fun q _ => ?_) fun q ⟨t, ht, h⟩ => ?_]
    · rw [List.any_eq_true]
      unfold Used
      simp
    · have := hw.ok t ht
      omega
theorem tmap_bg (l : List Tie2) : (List.range l.length).map (bg l) = l.map Prod.fst := by
  refine List.ext_getElem (by simp) fun i h1 h2 => ?_
  rw [List.getElem_map, List.getElem_map, List.getElem_range, bg_at (by simpa using h1)]
theorem tmap_en (l : List Tie2) : (List.range l.length).map (en l) = l.map Prod.snd := by
  refine List.ext_getElem (by simp) fun i h1 h2 => ?_
  rw [List.getElem_map, List.getElem_map, List.getElem_range, en_at (by simpa using h1)]
theorem tis_range (l : List Tie2) : tis (tat l) (List.range l.length) = l := by
  show (List.range l.length).map (tat l) = l
  refine List.ext_getElem (by simp) fun i h1 h2 => ?_
  rw [List.getElem_map, List.getElem_range]
  unfold tat
  rw [List.getD_eq_getElem?_getD, List.getElem?_eq_getElem h2]; rfl

/-! uneven_places, can_be_gone -/
theorem eq_uneven_places {n : Nat} {l : List Tie2} (hw : Wb n l) : F_uneven_places [.dt (encW n l) 0] = .rt (.list (((List.range n).filter fun p => !decide ((l.map Prod.fst).count p = (l.map Prod.snd).count p)).map pn)) 1 .none := by
  have hwl := hw.len
  have hn7 := hw.n7
  refine eq_of_ca (ca_run rfl ?_)
  show Ru b_uneven_places [some (.dt (encW n l) 0), none] _ _ _ _
  unfold b_uneven_places
  repeat right
  refine ok_lcP (List.range n) pn (fun p => !decide ((l.map Prod.fst).count p = (l.map Prod.snd).count p)) pn ?_
  repeat right
  refine ⟨⟨_, rfl, fun p hp => ⟨_, rfl, ?_⟩⟩, by rw [Int.toNat_natCast, ranged_pn], by rw [List.length_range]; omega, ?_⟩
  · dsimp only [List.set]
    repeat right
    refine ca_eq (eq_ties_out hw) ?_
    repeat right
    refine ca_eq (eq_ties_in hw) ?_
    repeat right
    rw [List.length_map, List.length_map, count_len, count_len, tmap_bg, tmap_en]
    first
      | exact ⟨_, _, rfl, rfl, rfl, fun _ => ok_v0 rfl ⟨_, rfl, rfl⟩⟩
      | exact ⟨rfl, rfl, fun _ => ok_v0 rfl ⟨_, rfl, rfl⟩⟩
      | exact ⟨rfl, fun _ => ok_v0 rfl ⟨_, rfl, rfl⟩⟩
      | exact fun _ => ok_v0 rfl ⟨_, rfl, rfl⟩
  · repeat right
    exact ⟨rfl, rfl, rfl⟩
/-- a web has a round: by the program's look -/
def HasR (l : List Tie2) : Prop := l = [] ∨ (l.map Prod.fst).Perm (l.map Prod.snd) ∧ AllH l (bg l 0)
theorem even_iff {n : Nat} {l : List Tie2} (hw : Wb n l) : (((List.range n).filter fun p => !decide ((l.map Prod.fst).count p = (l.map Prod.snd).count p)).map pn).isEmpty = true ↔ (l.map Prod.fst).Perm (l.map Prod.snd) := by
  rw [isEmpty_map, List.isEmpty_iff, List.filter_eq_nil_iff, List.perm_iff_count]
  refine ⟨fun h p => ?_, fun h p _ => ?_⟩
  · by_cases hp : p < n
    · have := h p (List.mem_range.mpr hp)
      simpa using this
    · rw [List.count_eq_zero.mpr, List.count_eq_zero.mpr]
      · intro z
        obtain ⟨t, ht, e⟩ := List.mem_map.mp z
        have := hw.ok t ht
        omega
      · intro z
        obtain ⟨t, ht, e⟩ := List.mem_map.mp z
        have := hw.ok t ht
        omega
  · rw [h p]; simp
theorem upto_inj {P P' : Nat → Prop} : upto P = upto P' ↔ ∀ q, q < 7 → (P q ↔ P' q) := by
  refine ⟨fun h q hq => ?_, fun h => ?_⟩
  · have : q ∈ upto P ↔ q ∈ upto P' := by rw [h]
    rw [mem_upto, mem_upto] at this
    exact ⟨fun z => (this.mp ⟨hq, z⟩).2, fun z => (this.mpr ⟨hq, z⟩).2⟩
  · unfold upto
    exact List.filter_congr fun q hq => dec_congr (h q (List.mem_range.mp hq))
theorem eq_can_be_gone {n : Nat} {l : List Tie2} (hw : Wb n l) : F_can_be_gone [.dt (encW n l) 0] = .rt (.bool (dec (HasR l))) 0 .none := by
  have hwl := hw.len
  have hn7 := hw.n7
  refine eq_of_ca (ca_run rfl ?_)
  show Ru b_can_be_gone [some (.dt (encW n l) 0)] _ _ _ _
  unfold b_can_be_gone
  repeat right
  refine us_eqNil rfl ?_
  rw [isEmpty_map]
  refine ⟨_, _, rfl, fun hb => ?_, fun hb => ?_⟩
  · have : l = [] := by simpa using hb
    repeat right
    exact ⟨by rw [dec_true (.inl this)], rfl, rfl⟩
  · have hne : l ≠ [] := fun z => by rw [z] at hb; cases hb
    have h0 : 0 < l.length := List.length_pos_iff.mpr hne
    repeat right
    refine ca_eq (eq_uneven_places hw) ?_
    repeat right
    refine us_eqNil rfl ?_
    refine ⟨_, _, rfl, fun he => ?_, fun he => ?_⟩
    · have he := (even_iff hw).mp he
      repeat right
      refine us_tie (l := l) (i := 0) h0 rfl rfl ?_
      repeat right
      have hb0 : bg l 0 < n := by rw [bg_at h0]; exact (hw.ok _ (List.getElem_mem _)).1
      refine ca_eq (eq_hung_with (fun t ht => by have := hw.ok t ht; omega) (by omega) (by omega)) ?_
      repeat right
      refine ca_eq (eq_used_places hw) ?_
      repeat right
      refine us_eqN (a := upto (Hng l (bg l 0))) (b := upto (Used l)) rfl ?_
      refine rt_val ⟨_, rfl, congrArg _ (dec_of ?_), rfl, rfl⟩
      rw [decide_eq_true_eq, upto_inj]
      have lt7 : ∀ t ∈ l, t.1 < 7 ∧ t.2 < 7 := fun t ht => by have := hw.ok t ht; omega
      refine ⟨fun h => .inr ⟨he, fun t ht => (h t.1 (lt7 t ht).1).mpr ⟨t, ht, .inl rfl⟩⟩, fun h q hq => ⟨fun k => ?_, fun ⟨t, ht, k⟩ => ?_⟩⟩
      · cases k with
        | refl => exact ⟨l[0], List.getElem_mem h0, .inl (bg_at h0).symm⟩
        | fwd _ h1 => exact ⟨_, h1, .inr rfl⟩
        | bwd _ h1 => exact ⟨_, h1, .inl rfl⟩
      · have h := (h.resolve_left hne).2 t ht
        rcases k with k | k
        · rw [← k]; exact h
        · rw [← k]; exact h.fwd ht
    · refine rt_val ⟨_, rfl, ?_, rfl, rfl⟩
      refine congrArg _ (dec_false fun h => ?_).symm
      have := (even_iff hw).mpr (h.resolve_left hne).1
      rw [he] at this; cases this

theorem eq_has_round {n : Nat} {l : List Tie2} (hw : Wb n l) : F_has_round [.dt (encW n l) 0] = .rt (.bool (dec (HasR l))) 0 .none := by
  refine eq_of_ca (ca_run rfl ?_)
  show Ru b_has_round [some (.dt (encW n l) 0)] _ _ _ _
  unfold b_has_round
  repeat right
  refine ca_eq (eq_can_be_gone hw) ?_
  repeat right
  exact ⟨rfl, rfl, rfl⟩

/-- what is left behind some -/
def lft (m : Nat) (gone : List Nat) : List Nat := (List.range m).filter fun i => !decide (i ∈ gone)
theorem mem_lft {m : Nat} {gone : List Nat} {i : Nat} : i ∈ lft m gone ↔ i < m ∧ i ∉ gone := by simp [lft]
theorem lft_nodup {m : Nat} {gone : List Nat} : (lft m gone).Nodup := List.nodup_range.filter _
theorem lft_snoc (m : Nat) (fs : List Nat) (i : Nat) : lft m (fs ++ [i]) = del (lft m fs) i := by
  unfold lft del
  rw [List.filter_filter]
  refine List.filter_congr fun j _ => ?_
  rw [Bool.eq_iff_iff]
  simp [and_comm]
theorem lft_nil (m : Nat) : lft m [] = List.range m := by
  unfold lft
  exact List.filter_eq_self.mpr fun i _ => by simp
theorem lft_one (m : Nat) (i : Nat) : lft m [i] = del (List.range m) i := by rw [← lft_nil m, ← lft_snoc]; rfl

/-! the least, or greatest, good tie, again and again -/
def dirL (up : Bool) (xs : List Nat) : List Nat := if up = true then xs else xs.reverse
theorem dirL_filter (up : Bool) (p : Nat → Bool) (xs : List Nat) : (dirL up xs).filter p = dirL up (xs.filter p) := by
  unfold dirL
  split
  · rfl
  · exact List.filter_reverse
theorem mem_dirL {up : Bool} {xs : List Nat} {i : Nat} : i ∈ dirL up xs ↔ i ∈ xs := by
  unfold dirL
  split
  · exact Iff.rfl
  · exact List.mem_reverse
noncomputable def goodB (f : Nat → Tie2) (L : List Nat) (i : Nat) : Bool := dec (Good f L i)
def outs (f : Nat → Tie2) (L : List Nat) (here : Nat) : List Nat := L.filter fun i => decide ((f i).1 = here)
theorem mem_outs {f : Nat → Tie2} {L : List Nat} {here i : Nat} : i ∈ outs f L here ↔ i ∈ L ∧ (f i).1 = here := by simp [outs]
noncomputable def nxt (f : Nat → Tie2) (up : Bool) (L : List Nat) (here : Nat) : Option Nat := (dirL up (outs f L here)).find? (goodB f L)
noncomputable def gr (f : Nat → Tie2) (up : Bool) : Nat → List Nat → Nat → List Nat
  | 0, _, _ => []
  | k + 1, L, here => match nxt f up L here with
    | some i => i :: gr f up k (del L i) (f i).2
    | none => []
theorem nxt_mem {f : Nat → Tie2} {up : Bool} {L : List Nat} {here i : Nat} (h : nxt f up L here = some i) : i ∈ L ∧ (f i).1 = here ∧ Good f L i := by
  have h1 := mem_outs.mp (mem_dirL.mp (List.mem_of_find?_eq_some h))
  have h2 : goodB f L i = true := List.find?_some h
  exact ⟨h1.1, h1.2, dec_iff.mp h2⟩
theorem nxt_ex {f : Nat → Tie2} {up : Bool} {L : List Nat} {here home : Nat} (hn : L.Nodup) (hb : Bal (tis f L) here home) (ha : AllR (tis f L) here) (hL : L ≠ []) : ∃ i, nxt f up L here = some i := by
  obtain ⟨i, h1, h2, h3⟩ := good_ex hn hb ha hL
  cases q : nxt f up L here with
  | some i => exact ⟨i, rfl⟩
  | none =>
    have := List.find?_eq_none.mp q i (mem_dirL.mpr (mem_outs.mpr ⟨h1, h2⟩))
    exact absurd (dec_iff.mpr h3) this
theorem gr_succ {f : Nat → Tie2} {up : Bool} {k : Nat} {L : List Nat} {here i : Nat} (h : nxt f up L here = some i) : gr f up (k + 1) L here = i :: gr f up k (del L i) (f i).2 := by
  show (match nxt f up L here with | some i => _ | none => _) = _
  rw [h]
theorem gr_mem {f : Nat → Tie2} {up : Bool} : ∀ {k : Nat} {L : List Nat} {here i : Nat}, i ∈ gr f up k L here → i ∈ L
  | 0, _, _, _, h => nomatch h
  | k + 1, L, here, i, h => by
    unfold gr at h
    cases q : nxt f up L here with
    | none => rw [q] at h; cases h
    | some j =>
      rw [q] at h
      rcases List.mem_cons.mp h with z | z
      · rw [z]; exact (nxt_mem q).1
      · exact (mem_del.mp (gr_mem z)).1
theorem gr_len {f : Nat → Tie2} {up : Bool} : ∀ {k : Nat} {L : List Nat} {here : Nat}, (gr f up k L here).length ≤ k
  | 0, _, _ => Nat.le_refl _
  | k + 1, L, here => by
    unfold gr
    cases q : nxt f up L here with
    | none => exact Nat.zero_le _
    | some j => exact Nat.succ_le_succ gr_len
/-- the first, or the last, round -/
noncomputable def best (l : List Tie2) (up : Bool) : Option (List Nat) := if dec (HasR l) = true then some (if l = [] then [] else 0 :: gr (tat l) up (l.length - 1) (del (List.range l.length) 0) (en l 0)) else none
theorem best_ok {l : List Tie2} {up : Bool} {ns : List Nat} (h : best l up = some ns) : (∀ i ∈ ns, i < l.length) ∧ ns.length ≤ l.length := by
  unfold best at h
  split at h
  · injection h with h
    subst h
    split
    · rename_i hl
      exact ⟨fun i hi => (nomatch hi), Nat.zero_le _⟩
    · rename_i hl
      have h0 : 0 < l.length := List.length_pos_iff.mpr hl
      refine ⟨fun i hi => ?_, ?_⟩
      · rcases List.mem_cons.mp hi with z | z
        · omega
        · exact List.mem_range.mp (mem_del.mp (gr_mem z)).1
      · have := gr_len (f := tat l) (up := up) (k := l.length - 1) (L := del (List.range l.length) 0) (here := en l 0)
        rw [List.length_cons]; omega
  · cases h
def optD : Option (List Nat) → PyData
  | some ns => encN ns
  | none => .none
def optN : Option (List Nat) → Nat
  | some _ => 1
  | none => 0
/-- along the greedy round: what is told so far, what is left -/
structure Gd (l : List Tie2) (up : Bool) (fs : List Nat) (here : Nat) : Prop where
  nd : fs.Nodup
  lt : ∀ i ∈ fs, i < l.length
  bal : Bal (tis (tat l) (lft l.length fs)) here (bg l 0)
  all : AllR (tis (tat l) (lft l.length fs)) here
  eq : best l up = some (fs ++ gr (tat l) up (lft l.length fs).length (lft l.length fs) here)
theorem Gd.len {l : List Tie2} {up : Bool} {fs : List Nat} {here : Nat} (h : Gd l up fs here) : fs.length + (lft l.length fs).length = l.length := by
  have p : (fs ++ lft l.length fs).Perm (List.range l.length) := by
    refine (List.perm_ext_iff_of_nodup (List.nodup_append.mpr ⟨h.nd, lft_nodup, fun a ha b hb e => (mem_lft.mp hb).2 (e ▸ ha)⟩) List.nodup_range).mpr fun i => ?_
    rw [List.mem_append, mem_lft, List.mem_range]
    refine ⟨fun z => z.elim (h.lt i) And.left, fun z => ?_⟩
    by_cases q : i ∈ fs
    · exact .inl q
    · exact .inr ⟨z, q⟩
  have := p.length_eq
  rwa [List.length_append, List.length_range] at this
theorem Gd.start {l : List Tie2} {up : Bool} (h : HasR l) (hl : l ≠ []) : Gd l up [0] (en l 0) ∧ Good (tat l) (List.range l.length) 0 := by
  obtain ⟨hp, ha⟩ := h.resolve_left hl
  have h0 : 0 < l.length := List.length_pos_iff.mpr hl
  have b0 : Bal (tis (tat l) (List.range l.length)) (bg l 0) (bg l 0) := by rw [tis_range]; exact Bal.closed hp _
  have a0 : AllR (tis (tat l) (List.range l.length)) (bg l 0) := (all_iff b0).mp (by rw [tis_range]; exact ha)
  have m0 : 0 ∈ List.range l.length := List.mem_range.mpr h0
  have g0 : Good (tat l) (List.range l.length) 0 := good_home List.nodup_range b0 a0 m0 rfl
  refine ⟨⟨by simp, fun i hi => by rw [List.mem_singleton] at hi; omega, ?_, ?_, ?_⟩, g0⟩
  · rw [lft_one]; exact Bal.del List.nodup_range m0 b0
  · rw [lft_one]; exact g0
  · rw [lft_one]
    unfold best
    rw [dec_true h, if_pos rfl, if_neg hl]
    have := del_len (L := List.range l.length) List.nodup_range m0
    rw [List.length_range] at this
    rw [show (del (List.range l.length) 0).length = l.length - 1 by omega]; rfl
theorem Gd.step {l : List Tie2} {up : Bool} {fs : List Nat} {here i : Nat} (h : Gd l up fs here) (hi : nxt (tat l) up (lft l.length fs) here = some i) : Gd l up (fs ++ [i]) (en l i) := by
  obtain ⟨h1, h2, h3⟩ := nxt_mem hi
  have hm := mem_lft.mp h1
  have hd := del_len lft_nodup h1
  refine ⟨List.nodup_append.mpr ⟨h.nd, by simp, fun a ha b hb e => by rw [List.mem_singleton] at hb; exact hm.2 (by rw [← hb, ← e]; exact ha)⟩, fun j hj => ?_, ?_, ?_, ?_⟩
  · rcases List.mem_append.mp hj with z | z
    · exact h.lt j z
    · rw [List.mem_singleton.mp z]; exact hm.1
  · rw [lft_snoc]; exact Bal.del lft_nodup h1 (by rw [h2]; exact h.bal)
  · rw [lft_snoc]; exact h3
  · rw [h.eq, lft_snoc]
    have : (lft l.length fs).length = (del (lft l.length fs) i).length + 1 := by omega
    rw [this]
    rw [gr_succ hi, List.append_assoc]; rfl
theorem Gd.next {l : List Tie2} {up : Bool} {fs : List Nat} {here : Nat} (h : Gd l up fs here) (hl : fs.length < l.length) : ∃ i, nxt (tat l) up (lft l.length fs) here = some i := by
  have := h.len
  exact nxt_ex lft_nodup h.bal h.all fun z => by rw [z] at this; simp at this; omega
theorem Gd.fin {l : List Tie2} {up : Bool} {fs : List Nat} {here : Nat} (h : Gd l up fs here) (hl : ¬ fs.length < l.length) : best l up = some fs := by
  have := h.len
  have e : lft l.length fs = [] := List.eq_nil_of_length_eq_zero (by omega)
  rw [h.eq, e]
  show some (fs ++ []) = _
  rw [List.append_nil]

/-! in lists of places -/
theorem memD_pn (a : Nat) (gs : List Nat) : memD (pn a) (gs.map pn) = decide (a ∈ gs) := by
  induction gs with
  | nil => rfl
  | cons b t ih =>
    show (PyData.eqv (pn b) (pn a) || memD (pn a) (t.map pn)) = _
    rw [ih, eqv_pn, Bool.eq_iff_iff, Bool.or_eq_true, decide_eq_true_eq, decide_eq_true_eq, decide_eq_true_eq, List.mem_cons]
    exact or_congr_left ⟨fun h => h.symm, fun h => h.symm⟩
theorem us_notInL {rs : List RV} {e : Ev} {Q : RV → Ev → Prop} {a : Nat} {gs : List Nat} (h1 : derefs e rs = some [pn a, .list (gs.map pn)]) (q : Q (.val (.bool (!decide (a ∈ gs))) 0) e) : Us oNotIn rs e Q :=
  us_of (d := .bool (!decide (a ∈ gs))) (m := 0) h1 (by
    show (if SeqAt.shaped (pn a) = true ∧ SeqAt.shaped (.list (gs.map pn)) = true then some (PyData.bool (!memD (pn a) (gs.map pn))) else none).map _ = _
    rw [if_pos ⟨rfl, shaped_nl gs⟩, memD_pn]; rfl) (by show (_ && !true) = false; rw [Bool.not_true, Bool.and_false]) q

/-! is_left_whole, gone_first, first_round, last_round -/
theorem eq_is_left_whole {n p : Nat} {l : List Tie2} {gone : List Nat} (hw : Wb n l) (hp : p < n) (hg : gone.length ≤ 1000) : F_is_left_whole [.dt (encW n l) 0, .dt (.list (gone.map pn)) 0, .dt (pn p) 0] = .rt (.bool (dec (AllH (tis (tat l) (lft l.length gone)) p))) 0 .none := by
  have hwl := hw.len
  have hn7 := hw.n7
  refine eq_of_ca (ca_run rfl ?_)
  show Ru b_is_left_whole [some (.dt (encW n l) 0), some (.dt (.list (gone.map pn)) 0), some (.dt (pn p) 0), none, none, none, none] _ _ _ _
  unfold b_is_left_whole
  refine ru_seq (ru_set ?_)
  refine ok_lcP (List.range l.length) (etie l) (fun i => !decide (i ∈ gone)) (fun i => encT (tat l i)) ?_
  repeat right
  refine ⟨⟨_, rfl, fun i hi => ⟨_, rfl, ?_⟩⟩, enum_etie l, by rw [List.length_range]; omega, ?_⟩
  · dsimp only [List.set]
    refine tb_of (ok_2 (ok_v0 rfl (ok_v0 rfl (us_notInL (a := i) (gs := gone) rfl ?_))))
    exact ⟨_, _, rfl, rfl, rfl, fun _ => ok_v0 rfl ⟨_, rfl, rfl⟩⟩
  rw [show ((List.range l.length).filter fun i => !decide (i ∈ gone)).map (fun i => encT (tat l i)) = (tis (tat l) (lft l.length gone)).map encT by unfold tis lft; rw [List.map_map]; rfl]
  have hT : ∀ t ∈ tis (tat l) (lft l.length gone), t ∈ l := fun t ht => by
    obtain ⟨i, hi, rfl⟩ := mem_tis.mp ht
    have := (mem_lft.mp hi).1
    unfold tat
    rw [List.getD_eq_getElem?_getD, List.getElem?_eq_getElem this]
    exact List.getElem_mem _
  have hTl : (tis (tat l) (lft l.length gone)).length ≤ 20 := by
    unfold tis lft
    rw [List.length_map]
    have := List.length_filter_le (fun i => !decide (i ∈ gone)) (List.range l.length)
    rw [List.length_range] at this
    omega
  generalize tis (tat l) (lft l.length gone) = T at hT hTl ⊢
  have lt7 : ∀ t ∈ T, t.1 < 7 ∧ t.2 < 7 := fun t ht => by have := hw.ok t (hT t ht); omega
  repeat right
  refine ca_eq (eq_hung_with lt7 (by omega) (by omega)) ?_
  repeat right
  refine ok_lcP T encT (fun t => !decide (t.1 ∈ upto (Hng T p))) encT ?_
  repeat right
  refine ⟨⟨_, rfl, fun t ht => ⟨_, rfl, ?_⟩⟩, rfl, by omega, ?_⟩
  · dsimp only [List.set]
    refine tb_of (ok_2 (ok_2 (ok_v0 rfl (ok_c (us_ixT (d := pn t.1) rfl rfl rfl ?_)))))
    refine ok_vn rfl (us_notInL (a := t.1) (gs := upto (Hng T p)) rfl ?_)
    exact ⟨_, _, rfl, rfl, rfl, fun _ => ok_v0 rfl ⟨_, rfl, rfl⟩⟩
  · repeat right
    refine us_eqNil rfl (rt_val ⟨_, rfl, congrArg _ (dec_of ?_), rfl, rfl⟩)
    rw [isEmpty_map, List.isEmpty_iff, List.filter_eq_nil_iff]
    refine ⟨fun h t ht => ?_, fun h t ht => ?_⟩
    · have := h t ht
      exact (mem_upto.mp (by simpa using this)).2
    · have := mem_upto.mpr ⟨(lt7 t ht).1, h t ht⟩
      simp [this]
def stp (up : Bool) : PyData := .int (if up = true then 1 else -1)
theorem us_stp {rs : List RV} {e : Ev} {Q : RV → Ev → Prop} {up : Bool} {xs : List Nat} (h1 : derefs e rs = some [.list (xs.map pn), stp up]) (q : Q (.val (.list ((dirL up xs).map pn)) 1) e) : Us oStep rs e Q :=
  us_of (d := .list ((dirL up xs).map pn)) (m := 1) h1 (by
    cases up with
    | true => rfl
    | false =>
      show some (PyData.list (xs.map pn).reverse, 1) = some (.list (xs.reverse.map pn), 1)
      rw [← List.map_reverse]) (by rw [flat_nl, Bool.not_true, Bool.and_false]) q
theorem head_find (p : Nat → Bool) (xs : List Nat) {i : Nat} (h : xs.find? p = some i) : ∃ t, (xs.filter p).map pn = pn i :: t := by
  have : (xs.filter p).head? = some i := by rw [List.head?_filter]; exact h
  cases q : xs.filter p with
  | nil => rw [q] at this; cases this
  | cons a t => rw [q] at this; cases this; exact ⟨t.map pn, rfl⟩
theorem eq_gone_first {n : Nat} {l : List Tie2} (hw : Wb n l) (up : Bool) : F_gone_first [.dt (encW n l) 0, .dt (stp up) 0] = .rt (optD (best l up)) (optN (best l up)) .none := by
  have hwl := hw.len
  have hn7 := hw.n7
  have hst : stp up = .int (if up = true then 1 else -1) := rfl
  refine eq_of_ca (ca_run rfl ?_)
  show Ru b_gone_first [some (.dt (encW n l) 0), some (.dt (stp up) 0), none, none, none, none, none] _ _ _ _
  unfold b_gone_first
  repeat right
  refine ca_eq (eq_can_be_gone hw) ?_
  cases hd : dec (HasR l) with
  | false =>
    repeat right
    have : best l up = none := by unfold best; rw [hd]; exact if_neg Bool.false_ne_true
    rw [this]
    exact ⟨rfl, rfl, rfl⟩
  | true =>
    have hR := dec_iff.mp hd
    repeat right
    refine us_eqNil rfl ?_
    rw [isEmpty_map]
    refine ⟨_, _, rfl, fun hb => ?_, fun hb => ?_⟩
    · have : l = [] := by simpa using hb
      repeat right
      have : best l up = some [] := by unfold best; rw [hd, if_pos rfl, if_pos this]
      rw [this]
      exact ⟨rfl, rfl, rfl⟩
    · have hne : l ≠ [] := fun z => by rw [z] at hb; cases hb
      obtain ⟨hG, _⟩ := Gd.start (up := up) hR hne
      repeat right
      refine ru_while (fun k e => ∃ fs x3 x4 x5 x6 z, e = [some (.dt (encW n l) 0), some (.dt (stp up) 0), some (.dt (.list ((fs ++ [z]).map pn)) 1), x3, x4, x5, x6] ∧ Sl0 x6 ∧ Gd l up (fs ++ [z]) (en l z) ∧ l.length - (fs ++ [z]).length ≤ k) 100 (by omega) ⟨[], none, none, none, none, 0, rfl, Sl0.n, hG, by simp; omega⟩ ?_
      rintro k e ⟨fs, x3, x4, x5, x6, z, rfl, hx6, hG, hk⟩
      have hz : z < l.length := hG.lt z (by simp)
      have hlen := hG.len
      repeat right
      rw [List.length_map, List.length_map]
      refine ⟨fun hb => ?_, fun hb => ?_⟩
      · have hb : (fs ++ [z]).length < l.length := by have := of_decide_eq_true hb; omega
        obtain ⟨i, hi⟩ := hG.next hb
        obtain ⟨hi1, hi2, hi3⟩ := nxt_mem hi
        have him := mem_lft.mp hi1
        refine ru_seq (ru_set (ok_2 (ok_2 ?_)))
        repeat right
        refine us_ixL (d := pn z) rfl (by rw [List.map_append]; rw [atI_last (by simp)]; simp) rfl ?_
        refine us_tie (l := l) (i := z) hz rfl rfl ?_
        repeat right
        refine ok_lcP (dirL up ((List.range l.length).filter fun i => decide (bg l i = en l z))) pn (fun i => !decide (i ∈ fs ++ [z])) pn ?_
        refine ok_it1 (ok_2 (ok_call (oka_cons (ok_v0 rfl (oka_cons (ok_v0 rfl (oka_nil ⟨_, _, rfl, rfl, ca_eq (eq_ties_out hw) ?_⟩)))))))
        refine ok_v0 rfl (us_stp (xs := (List.range l.length).filter fun i => decide (bg l i = en l z)) rfl ⟨_, _, _, rfl, rfl, ?_⟩)
        have hx6' : ∀ x2 x3 x4 x5 : Option Vl, wipeE [some (.dt (encW n l) 0), some (.dt (stp up) 0), x2, x3, x4, x5, x6] [6] = some [some (.dt (encW n l) 0), some (.dt (stp up) 0), x2, x3, x4, x5, none] := fun x2 x3 x4 x5 => by rcases hx6 with rfl | ⟨y, rfl⟩ <;> rfl
        have hsome : (dirL up ((List.range l.length).filter fun i => decide (bg l i = en l z))).filter (fun i => !decide (i ∈ fs ++ [z])) = dirL up (outs (tat l) (lft l.length (fs ++ [z])) (en l z)) := by
          rw [dirL_filter, List.filter_filter]
          unfold outs lft
          rw [List.filter_filter]
          congr 1
          refine List.filter_congr fun j _ => ?_
          rw [Bool.and_comm]; rfl
        have hdl : (dirL up ((List.range l.length).filter fun i => decide (bg l i = en l z))).length ≤ 20 := by
          have h1 := List.length_filter_le (fun i => decide (bg l i = en l z)) (List.range l.length)
          rw [List.length_range] at h1
          unfold dirL
          split
          · omega
          · rw [List.length_reverse]; omega
        refine ⟨⟨_, hx6' _ _ _ _, fun j hj => ⟨_, rfl, ?_⟩⟩, rfl, by omega, ?_⟩
        · dsimp only [List.set]
          refine tb_of (ok_2 (ok_v0 rfl (ok_vn rfl (us_notInL (a := j) (gs := fs ++ [z]) rfl ?_))))
          exact ⟨_, _, rfl, rfl, rfl, fun _ => ok_v0 rfl ⟨_, rfl, rfl⟩⟩
        rw [hsome]
        have hol : (dirL up (outs (tat l) (lft l.length (fs ++ [z])) (en l z))).length ≤ 20 := by
          rw [← hsome]
          exact Nat.le_trans (List.length_filter_le _ _) hdl
        refine ⟨_, rfl, ?_⟩
        dsimp only [List.set]
        refine ru_seq (ru_set ?_)
        refine ok_lcP (dirL up (outs (tat l) (lft l.length (fs ++ [z])) (en l z))) pn (goodB (tat l) (lft l.length (fs ++ [z]))) pn ?_
        refine ok_it1 (ok_vn rfl ⟨_, _, _, rfl, rfl, ?_⟩)
        dsimp only [List.set]
        refine ⟨⟨_, hx6' _ _ _ _, fun j hj => ⟨_, rfl, ?_⟩⟩, rfl, by omega, ?_⟩
        · obtain ⟨hj1, hj2⟩ := mem_outs.mp (mem_dirL.mp hj)
          have hjm := (mem_lft.mp hj1).1
          have hjn : en l j < n := by rw [en_at hjm]; exact (hw.ok _ (List.getElem_mem _)).2
          have hbd : Bal (tis (tat l) (lft l.length (fs ++ [z] ++ [j]))) (en l j) (bg l 0) := by
            rw [lft_snoc]; exact Bal.del lft_nodup hj1 (by rw [hj2]; exact hG.bal)
          have hfl : (fs ++ [z]).length ≤ 20 := by omega
          dsimp only [List.set]
          repeat right
          refine us_addL (a := (fs ++ [z]).map pn) (b := [pn j]) rfl (by rw [List.length_map]; simp at hfl ⊢; omega) ?_ ?_
          · rw [show (fs ++ [z]).map pn ++ [pn j] = (fs ++ [z] ++ [j]).map pn by rw [List.map_append (l₁ := fs ++ [z])]; rfl, flat_nl, Bool.not_true, Bool.and_false]
          rw [show (fs ++ [z]).map pn ++ [pn j] = (fs ++ [z] ++ [j]).map pn by rw [List.map_append (l₁ := fs ++ [z])]; rfl]
          repeat right
          refine us_tie (l := l) (i := j) hjm rfl rfl ?_
          repeat right
          refine ca_eq (eq_is_left_whole hw hjn (by rw [List.length_append (as := fs ++ [z])]; simp at hfl ⊢; omega)) ?_
          refine ⟨_, _, rfl, ?_, rfl, fun _ => ok_v0 rfl ⟨_, rfl, rfl⟩⟩
          refine dec_congr ?_
          rw [all_iff hbd, lft_snoc]; rfl
        refine ⟨_, rfl, ?_⟩
        dsimp only [List.set]
        obtain ⟨t, ht⟩ := head_find (goodB (tat l) (lft l.length (fs ++ [z]))) _ hi
        rw [ht]
        have hfl : ((fs ++ [z]).map pn).length < 1000000 := by rw [List.length_map]; omega
        refine ru_drop ?_
        repeat right
        refine us_ixL (d := pn i) rfl (atI_ok (Int.le_refl 0) rfl) rfl ?_
        repeat right
        refine ⟨l.length - (fs ++ [z] ++ [i]).length, by rw [List.length_append (as := fs ++ [z]), List.length_singleton]; omega, fs ++ [z], _, _, _, _, i, by rw [List.map_append (l₁ := fs ++ [z])]; rfl, hx6, hG.step hi, Nat.le_refl _⟩
      · have hb : ¬ (fs ++ [z]).length < l.length := by have := of_decide_eq_false hb; omega
        have := hG.fin hb
        repeat right
        rw [this]
        exact ⟨rfl, rfl, rfl⟩
theorem eq_first_round {n : Nat} {l : List Tie2} (hw : Wb n l) : F_first_round [.dt (encW n l) 0] = .rt (optD (best l true)) (optN (best l true)) .none := by
  refine eq_of_ca (ca_run rfl ?_)
  show Ru b_first_round [some (.dt (encW n l) 0)] _ _ _ _
  unfold b_first_round
  repeat right
  refine ca_eq (eq_gone_first hw true) ?_
  exact rt_val ⟨_, rfl, rfl, rfl, rfl⟩
theorem eq_last_round {n : Nat} {l : List Tie2} (hw : Wb n l) : F_last_round [.dt (encW n l) 0] = .rt (optD (best l false)) (optN (best l false)) .none := by
  refine eq_of_ca (ca_run rfl ?_)
  show Ru b_last_round [some (.dt (encW n l) 0)] _ _ _ _
  unfold b_last_round
  repeat right
  refine ca_eq (eq_gone_first hw false) ?_
  exact rt_val ⟨_, rfl, rfl, rfl, rfl⟩

/-! the law's search one way -/
theorem tat_bg {l : List Tie2} (i : Nat) : (tat l i).1 = bg l i := rfl
theorem tat_en {l : List Tie2} (i : Nat) : (tat l i).2 = en l i := rfl
theorem eq_can {n p : Nat} {l : List Tie2} {L : List Nat} (hw : Wb n l) (hL : ∀ i ∈ L, i < l.length) (hl : L.length ≤ 1000) (hp : p < 7) : F__law_can [.dt (.list (l.map encT)) 0, .dt (.list (L.map pn)) 0, .dt (pn p) 0] = .rt (.bool (dec (AllR (tis (tat l) L) p))) 0 .none := by
  have hn7 := hw.n7
  have h7 : ∀ i, i < l.length → bg l i < 7 ∧ en l i < 7 := fun i hi => by
    have := hw.ok _ (List.getElem_mem hi)
    rw [bg_at hi, en_at hi]; omega
  refine eq_of_ca (ca_run rfl ?_)
  show Ru b__law_can [some (.dt (.list (l.map encT)) 0), some (.dt (.list (L.map pn)) 0), some (.dt (pn p) 0), none, none, none, none] _ _ _ _
  unfold b__law_can
  refine ru_seq (ru_set (ok_disp (oka_cons (ok_v0 rfl (oka_cons (ok_c (oka_nil ⟨_, _, _, rfl, rfl, rfl, _, rfl, ?_⟩)))))))
  dsimp only [List.set]
  rw [show dmerge [(Sum.inl (p : Int), PyData.bool true)] [] = encF [p] from rfl]
  repeat right
  refine ru_while (fun k e => ∃ fs ws x5 x6, e = [some (.dt (.list (l.map encT)) 0), some (.dt (.list (L.map pn)) 0), some (.dt (pn p) 0), some (.dt (.dict (encF fs)) 1), some (.dt (.list (ws.map pn)) 1), x5, x6] ∧ Sl0 x6 ∧ DI (tis (tat l) L) p fs ws ∧ 2 * (7 - fs.length) + ws.length ≤ k ∧ k ≤ 100) 100 (by omega) ⟨[p], [p], none, none, rfl, Sl0.n, DI.start hp, by simp, Nat.le_refl _⟩ ?_
  rintro k e ⟨fs, ws, x5, x6, rfl, hx6, hI, hk, hk1⟩
  repeat right
  refine us_neNil rfl ?_
  rw [isEmpty_map]
  refine ⟨_, _, rfl, fun hb => ?_, fun hb => ?_⟩
  · have hne : ws ≠ [] := fun z => by rw [z] at hb; cases hb
    obtain ⟨us, here, rfl⟩ := snoc_of hne
    refine ru_seq (ru_set (ok_met rfl rfl (oka_nil ⟨_, _, _, _, _, rfl, rfl, rfl, mPop_ok us here, _, rfl, ?_⟩)))
    dsimp only [List.set]
    have hJ := hI.pop
    obtain ⟨m, hm⟩ : ∃ m, m = 2 * (7 - fs.length) + us.length := ⟨_, rfl⟩
    rw [← hm] at hJ
    have hmk : m < k := by rw [List.length_append, List.length_singleton] at hk; omega
    refine ru_for (ok_it1 (ok_v0 rfl ⟨_, _, _, rfl, rfl, ?_⟩))
    refine ⟨fun done e => ∃ fs ws x6, e = [some (.dt (.list (l.map encT)) 0), some (.dt (.list (L.map pn)) 0), some (.dt (pn p) 0), some (.dt (.dict (encF fs)) 1), some (.dt (.list (ws.map pn)) 1), some (.dt (pn here) 0), x6] ∧ Sl0 x6 ∧ DJ (tis (tat l) L) p here m (tis (tat l) (L.take done.length)) fs ws, ⟨fs, us, _, rfl, hx6, hJ⟩, ?_, ?_⟩
    · rintro done d rest e hd ⟨fs, ws, x6, rfl, hx6, hJ⟩
      obtain ⟨i, hi, rfl⟩ := map_at hd
      have hiL : i ∈ L := List.mem_of_getElem? hi
      have hil := hL i hiL
      have hum : tat l i ∈ tis (tat l) L := mem_tis.mpr ⟨i, hiL, rfl⟩
      have hl7 := nodup_lt hJ.nd hJ.lt
      have hmu := hJ.mu
      have etk : tis (tat l) (L.take (done ++ [pn i]).length) = tis (tat l) (L.take done.length) ++ [tat l i] := by
        rw [List.length_append, List.length_singleton, List.take_succ, hi]
        unfold tis
        rw [List.map_append]; rfl
      refine ⟨_, rfl, ?_⟩
      dsimp only [List.set]
      refine ru_if (tb_and (tb_of (ok_2 (ok_2 (ok_2 (ok_v0 rfl (ok_v0 rfl (us_tie hil rfl rfl (ok_c (us_ixT (d := pn (bg l i)) rfl rfl rfl (ok_v0 rfl (us_eqPn (a := bg l i) (b := here) rfl ⟨_, _, rfl, fun h1 => ?_, fun h1 => ?_⟩))))))))))))
      · refine tb_of (ok_2 (ok_2 (ok_2 (ok_v0 rfl (ok_v0 rfl (us_tie hil rfl rfl (ok_c (us_ixT (d := pn (en l i)) rfl rfl rfl (ok_vn rfl (us_notInD rfl (keyOf_pn (en l i)) ⟨_, _, rfl, fun h2 => ?_, fun h2 => ?_⟩))))))))))
        · rw [dget_encF] at h2
          have h2 : en l i ∉ fs := by simpa using h2
          refine ru_seq (ru_asg (ok_c ⟨_, _, _, rfl, tgs_dict rfl (ok_2 (ok_2 (ok_v0 rfl (ok_v0 rfl (us_tie hil rfl rfl (ok_c (us_ixT (d := pn (en l i)) rfl rfl rfl ⟨rfl, rfl⟩))))))) (keyOf_pn (en l i)) (by rw [encF_len]; omega), ?_⟩))
          rw [dput_encF h2]
          have hwl : (ws.map pn).length < 1000000 := by rw [List.length_map]; omega
          dsimp only [List.set]
          refine ru_drop ?_
          repeat right
          refine us_tie hil rfl rfl ?_
          repeat right
          exact ⟨fs ++ [en l i], ws ++ [en l i], _, by rw [List.map_append]; rfl, Sl0.s, by rw [etk]; exact hJ.add hum (h7 i hil).2 (of_decide_eq_true h1) h2⟩
        · rw [dget_encF] at h2
          have h2 : en l i ∈ fs := by simpa using h2
          exact ru_nx ⟨fs, ws, _, rfl, Sl0.s, by rw [etk]; exact hJ.skip fun _ => h2⟩
      · exact ⟨fun z => (nomatch z), fun _ => ru_nx ⟨fs, ws, _, rfl, Sl0.s, by rw [etk]; exact hJ.skip fun z => absurd z (of_decide_eq_false h1)⟩⟩
    · rintro e ⟨fs, ws, x6, rfl, hx6, hJ⟩
      rw [List.length_map, List.take_length] at hJ
      exact ⟨m, hmk, fs, ws, _, _, rfl, hx6, hJ.done fun u hu => hu, hJ.mu, by omega⟩
  · have hne : ws = [] := by simpa using hb
    subst hne
    have hf := hI.fin
    refine ru_ret (ok_2 (ok_lcP L pn (fun i => !decide (bg l i ∈ fs)) pn ?_))
    refine ok_it1 (ok_v0 rfl ⟨_, _, _, rfl, rfl, ?_⟩)
    refine ⟨⟨[some (.dt (.list (l.map encT)) 0), some (.dt (.list (L.map pn)) 0), some (.dt (pn p) 0), some (.dt (.dict (encF fs)) 1), some (.dt (.list []) 1), x5, none], by rcases hx6 with rfl | ⟨y, rfl⟩ <;> rfl, fun i hi => ⟨_, rfl, ?_⟩⟩, rfl, by omega, ?_⟩
    · have hil := hL i hi
      dsimp only [List.set]
      refine tb_of (ok_2 (ok_2 (ok_2 (ok_v0 rfl (ok_v0 rfl (us_tie hil rfl rfl (ok_c (us_ixT (d := pn (bg l i)) rfl rfl rfl (ok_vn rfl (us_notInD rfl (keyOf_pn (bg l i)) ?_))))))))))
      rw [dget_encF]
      exact ⟨_, _, rfl, rfl, rfl, fun _ => ok_v0 rfl ⟨_, rfl, rfl⟩⟩
    · repeat right
      refine us_eqNil rfl (rt_val ⟨_, rfl, congrArg _ (dec_of ?_), rfl, rfl⟩)
      rw [isEmpty_map, List.isEmpty_iff, List.filter_eq_nil_iff]
      refine ⟨fun h t ht => ?_, fun h i hi => ?_⟩
      · obtain ⟨i, hi, rfl⟩ := mem_tis.mp ht
        have := h i hi
        have this : bg l i ∈ fs := by simpa using this
        exact (hf _).mp this
      · have := (hf _).mpr (h _ (mem_tis.mpr ⟨i, hi, rfl⟩))
        rw [tat_bg] at this
        simp [this]
/-! the law's look whether there is a round -/
theorem us_neNat {rs : List RV} {e : Ev} {Q : RV → Ev → Prop} {a b : Nat} (h1 : derefs e rs = some [pn a, pn b]) (q : Q (.val (.bool (!decide (a = b))) 0) e) : Us oNe rs e Q := us_nePn h1 q
theorem eq_even {n : Nat} {l : List Tie2} (hw : Wb n l) : F__law_even [.dt (encW n l) 0] = .rt (.bool (dec (HasR l))) 0 .none := by
  have hwl := hw.len
  have hn7 := hw.n7
  refine eq_of_ca (ca_run rfl ?_)
  show Ru b__law_even [some (.dt (encW n l) 0), none, none, none, none, none, none, none] _ _ _ _
  unfold b__law_even
  refine ru_seq (ru_asg (ok_v0 rfl ⟨_, _, _, rfl, rfl, ?_⟩))
  dsimp only [List.set]
  refine ru_seq (ru_set (ok_lcP l encT (fun _ => true) (fun t => pn t.1) ?_))
  repeat right
  refine ⟨⟨_, rfl, fun t ht => ⟨_, rfl, ?_⟩⟩, rfl, by omega, ?_⟩
  · dsimp only [List.set]
    exact tb_yes ⟨rfl, rfl, fun _ => ok_v0 rfl ⟨_, rfl, rfl⟩⟩
  rw [filter_yes, show (l.map fun t => pn t.1) = (l.map Prod.fst).map pn by rw [List.map_map]; rfl]
  refine ⟨_, rfl, ?_⟩
  dsimp only [List.set]
  refine ru_seq (ru_set (ok_lcP l encT (fun _ => true) (fun t => pn t.2) ?_))
  repeat right
  refine ⟨⟨_, rfl, fun t ht => ⟨_, rfl, ?_⟩⟩, rfl, by omega, ?_⟩
  · dsimp only [List.set]
    exact tb_yes ⟨rfl, rfl, fun _ => ok_v0 rfl ⟨_, rfl, rfl⟩⟩
  rw [filter_yes, show (l.map fun t => pn t.2) = (l.map Prod.snd).map pn by rw [List.map_map]; rfl]
  refine ⟨_, rfl, ?_⟩
  dsimp only [List.set]
  refine ru_seq (ru_if (tb_of (ok_2 (ok_lcP (List.range n) pn (fun p => !decide ((l.map Prod.fst).count p = (l.map Prod.snd).count p)) pn ?_))))
  repeat right
  refine ⟨⟨_, rfl, fun p hp => ⟨_, rfl, ?_⟩⟩, by rw [Int.toNat_natCast, ranged_pn], by rw [List.length_range]; omega, ?_⟩
  · dsimp only [List.set]
    refine tb_of (ok_2 (ok_me (ok_vn rfl ⟨_, rfl, rfl, oka_cons (ok_v0 rfl (oka_nil (us_countN (ns := l.map Prod.fst) (p := p) rfl ?_)))⟩)))
    refine ok_me (ok_vn rfl ⟨_, rfl, rfl, oka_cons (ok_v0 rfl (oka_nil (us_countN (ns := l.map Prod.snd) (p := p) rfl ?_)))⟩)
    refine us_neNat (a := (l.map Prod.fst).count p) (b := (l.map Prod.snd).count p) rfl ?_
    exact ⟨_, _, rfl, rfl, rfl, fun _ => ok_v0 rfl ⟨_, rfl, rfl⟩⟩
  repeat right
  refine us_neNil rfl ?_
  refine ⟨_, _, rfl, fun hb => ?_, fun hb => ru_nx ?_⟩
  · refine ru_ret (ok_c (rt_val ⟨_, rfl, ?_, rfl, rfl⟩))
    refine congrArg _ (dec_false fun h => ?_).symm
    rcases h with h | h
    · subst h
      rw [isEmpty_map] at hb
      simp at hb
    · rw [(even_iff hw).mpr h.1] at hb; cases hb
  · have he := (even_iff hw).mp (by simpa using hb)
    repeat right
    refine us_eqNil rfl ?_
    rw [isEmpty_map]
    refine ⟨_, _, rfl, fun hb => ?_, fun hb => ?_⟩
    · have : l = [] := by simpa using hb
      exact rt_val ⟨_, rfl, by rw [dec_true (.inl this)], rfl, rfl⟩
    · have hne : l ≠ [] := fun z => by rw [z] at hb; cases hb
      have h0 : 0 < l.length := List.length_pos_iff.mpr hne
      have hb0 : bg l 0 < n := by rw [bg_at h0]; exact (hw.ok _ (List.getElem_mem _)).1
      repeat right
      rw [List.length_map, Int.toNat_natCast, ranged_pn]
      refine ⟨⟨by omega, by omega⟩, ?_⟩
      repeat right
      refine us_tie (l := l) (i := 0) h0 rfl rfl ?_
      repeat right
      refine ca_eq (eq_can hw (fun i hi => List.mem_range.mp hi) (by rw [List.length_range]; omega) (by omega)) ?_
      refine rt_val ⟨_, rfl, congrArg _ (dec_congr ?_), rfl, rfl⟩
      rw [tis_range, ← all_iff (Bal.closed he _)]
      exact ⟨fun h => .inr ⟨he, h⟩, fun h => (h.resolve_left hne).2⟩

/-! the law's greedy round -/
theorem ok_itV {i lv : Nat} {e : Ev} {d : PyData} {l : List PyData} {P : List PyData → Ev → Prop} (h : e[i]? = some (some (.dt d lv))) (hk : kSeq [d] = some l) (q : P l (e.set i (some (.dt d 0)))) : Ok (fIt1 kSeq (fVar i)) e P := by
  cases lv with
  | zero =>
    refine ok_it1 (ok_v0 h ⟨_, e, l, rfl, hk, ?_⟩)
    have : e.set i (some (.dt d 0)) = e := by
      refine List.ext_getElem? fun j => ?_
      by_cases hj : i = j
      · subst hj
        rw [h]
        exact List.getElem?_set_self (List.getElem?_eq_some_iff.mp h).1
      · rw [List.getElem?_set_ne hj]
    rw [this] at q; exact q
  | succ n =>
    refine ok_it1 (ok_vn h ⟨[d], e.set i (some (.dt d 0)), l, ?_, hk, q⟩)
    simp only [PV.settle, h]
theorem ok_neNilV {i lv : Nat} {e : Ev} {ds : List PyData} {Q : RV → Ev → Prop} (h : e[i]? = some (some (.dt (.list ds) lv))) (q : Q (.val (.bool (!ds.isEmpty)) 0) e) : Ok (f2 oNe (fVar i) (fLst [])) e Q := by
  cases lv with
  | zero => exact ok_2 (ok_v0 h (ok_lst' (oka_nil ⟨_, _, rfl, rfl, us_neNil rfl q⟩)))
  | succ n => exact ok_2 (ok_vn h (ok_lst' (oka_nil ⟨_, _, rfl, rfl, us_neNil (by simp [derefs, deref, h]) q⟩)))
theorem us_neP {rs : List RV} {e : Ev} {Q : RV → Ev → Prop} {a b : Nat} (h1 : derefs e rs = some [pn a, pn b]) (q : Q (.val (.bool (!decide (a = b))) 0) e) : Us oNe rs e Q := us_nePn h1 q
theorem find_drop {p : Nat → Bool} {xs : List Nat} {k i j : Nat} (h : (xs.drop k).find? p = some i) (hj : xs[k]? = some j) : (p j = true → i = j) ∧ (p j = false → (xs.drop (k + 1)).find? p = some i) := by
  obtain ⟨hk, e⟩ := List.getElem?_eq_some_iff.mp hj
  rw [List.drop_eq_getElem_cons hk, e] at h
  refine ⟨fun hp => ?_, fun hp => ?_⟩
  · rw [List.find?_cons_of_pos hp] at h
    injection h with h
    exact h.symm
  · rw [List.find?_cons_of_neg (by rw [hp]; exact Bool.false_ne_true)] at h
    exact h
theorem eq_due {n : Nat} {l : List Tie2} (hw : Wb n l) (up : Bool) : F__law_due [.dt (encW n l) 0, .dt (stp up) 0] = .rt (optD (best l up)) (optN (best l up)) .none := by
  have hwl := hw.len
  have hn7 := hw.n7
  refine eq_of_ca (ca_run rfl ?_)
  show Ru b__law_due [some (.dt (encW n l) 0), some (.dt (stp up) 0), none, none, none, none, none, none, none, none] _ _ _ _
  unfold b__law_due
  repeat right
  refine ca_eq (eq_even hw) ?_
  cases hd : dec (HasR l) with
  | false =>
    repeat right
    have : best l up = none := by unfold best; rw [hd]; exact if_neg Bool.false_ne_true
    rw [this]
    exact ⟨rfl, rfl, rfl⟩
  | true =>
    have hR := dec_iff.mp hd
    repeat right
    refine ⟨by rw [List.length_map]; omega, ?_⟩
    rw [List.length_map, Int.toNat_natCast, ranged_pn]
    repeat right
    have h0 : atI (l.map encT ++ [PyData.tuple [.int 0, .int 0]]) 0 = some (.tuple [pn (bg l 0), pn (en l 0)]) := by
      cases l with
      | nil => rfl
      | cons t l => exact atI_ok (Int.le_refl 0) rfl
    repeat right
    refine us_ixL (d := .tuple [pn (bg l 0), pn (en l 0)]) rfl h0 rfl ?_
    repeat right
    refine ru_while (fun k e => ∃ fs lv here x6 x7 x8 x9, e = [some (.dt (encW n l) 0), some (.dt (stp up) 0), some (.dt (.list (l.map encT)) 0), some (.dt (.list ((lft l.length fs).map pn)) lv), some (.dt (.list (fs.map pn)) 1), some (.dt (pn here) 0), x6, x7, x8, x9] ∧ Sl0 x7 ∧ Sl0 x9 ∧ (fs = [] ∧ here = bg l 0 ∨ fs ≠ [] ∧ Gd l up fs here) ∧ (lft l.length fs).length ≤ k) 100 (by omega) ⟨[], 1, bg l 0, none, none, none, none, by rw [lft_nil]; rfl, Sl0.n, Sl0.n, .inl ⟨rfl, rfl⟩, by rw [lft_nil, List.length_range]; omega⟩ ?_
    rintro k e ⟨fs, lv, here, x6, x7, x8, x9, rfl, hx7, hx9, hG, hk⟩
    have hLl : ∀ i ∈ lft l.length fs, i < l.length := fun i hi => (mem_lft.mp hi).1
    have hLn : (lft l.length fs).length ≤ 20 := by
      have h1 := List.length_filter_le (fun i => !decide (i ∈ fs)) (List.range l.length)
      rw [List.length_range] at h1
      unfold lft; omega
    refine tb_of (ok_neNilV rfl ?_)
    rw [isEmpty_map]
    refine ⟨_, _, rfl, fun hb => ?_, fun hb => ?_⟩
    · have hne : lft l.length fs ≠ [] := fun z => by rw [z] at hb; cases hb
      have hlne : l ≠ [] := fun z => hne (by subst z; rfl)
      refine ru_seq (ru_set (ok_2 (ok_lcP (lft l.length fs) pn (fun i => decide (bg l i = here)) pn ?_)))
      refine ok_itV rfl rfl ?_
      dsimp only [List.set]
      refine ⟨⟨[some (.dt (encW n l) 0), some (.dt (stp up) 0), some (.dt (.list (l.map encT)) 0), some (.dt (.list ((lft l.length fs).map pn)) 0), some (.dt (.list (fs.map pn)) 1), some (.dt (pn here) 0), x6, none, x8, x9], by rcases hx7 with rfl | ⟨y, rfl⟩ <;> rfl, fun i hi => ⟨_, rfl, ?_⟩⟩, rfl, by omega, ?_⟩
      · dsimp only [List.set]
        refine tb_of (ok_2 (ok_2 (ok_2 (ok_v0 rfl (ok_v0 rfl (us_tie (hLl i hi) rfl rfl (ok_c (us_ixT (d := pn (bg l i)) rfl rfl rfl (ok_v0 rfl (us_eqPn (a := bg l i) (b := here) rfl ?_))))))))))
        exact ⟨_, _, rfl, rfl, rfl, fun _ => ok_v0 rfl ⟨_, rfl, rfl⟩⟩
      refine ok_v0 rfl (us_stp (xs := (lft l.length fs).filter fun i => decide (bg l i = here)) rfl ⟨_, rfl, ?_⟩)
      dsimp only [List.set]
      refine ru_cut (fun e => ∃ (xs : List Nat) (lv6 i : Nat), e = [some (.dt (encW n l) 0), some (.dt (stp up) 0), some (.dt (.list (l.map encT)) 0), some (.dt (.list ((lft l.length fs).map pn)) 0), some (.dt (.list (fs.map pn)) 1), some (.dt (pn here) 0), some (.dt (.list (xs.map pn)) lv6), x7, x8, x9] ∧ (∀ j ∈ xs, j < l.length) ∧ xs.find? (goodB (tat l) (lft l.length fs)) = some i ∧ i ∈ lft l.length fs ∧ Gd l up (fs ++ [i]) (en l i)) ?_ ?_
      · rcases hG with ⟨rfl, rfl⟩ | ⟨hfne, hG⟩
        · refine ru_if (tb_of (ok_2 (ok_vn rfl (ok_lst' (oka_nil ⟨_, _, rfl, rfl, us_eqNil (a := []) rfl ?_⟩)))))
          obtain ⟨hG, hg⟩ := Gd.start (up := up) hR hlne
          have h0m : 0 ∈ lft l.length [] := mem_lft.mpr ⟨List.length_pos_iff.mpr hlne, List.not_mem_nil⟩
          refine ⟨_, _, rfl, fun _ => ?_, fun z => (nomatch z)⟩
          refine ru_asg (ok_lst' (oka_cons (ok_c (oka_nil ⟨_, _, rfl, rfl, _, _, _, rfl, rfl, [0], 0, 0, rfl, fun j hj => ?_, ?_, h0m, hG⟩))))
          · rw [List.mem_singleton] at hj
            rw [hj]; exact List.length_pos_iff.mpr hlne
          · rw [lft_nil]
            exact List.find?_cons_of_pos (dec_true hg)
        · obtain ⟨i, hi⟩ := hG.next (by have := hG.len; have := List.length_pos_iff.mpr hne; omega)
          have hfe : (fs.map pn).isEmpty = false := by rw [isEmpty_map]; simpa using hfne
          refine ru_if (tb_of (ok_2 (ok_vn rfl (ok_lst' (oka_nil ⟨_, _, rfl, rfl, us_eqNil (a := fs.map pn) rfl ?_⟩)))))
          rw [hfe]
          refine ⟨_, _, rfl, fun z => (nomatch z), fun _ => ru_nx ⟨_, 1, i, rfl, fun j hj => ?_, hi, (nxt_mem hi).1, hG.step hi⟩⟩
          exact hLl j (List.mem_filter.mp (mem_dirL.mp hj)).1
      · rintro e ⟨xs, lv6, i, rfl, hxs, hi, hiL, hG2⟩
        refine ru_for (ok_itV rfl rfl ?_)
        dsimp only [List.set]
        refine ⟨fun done e => ∃ x7 x8 x9, e = [some (.dt (encW n l) 0), some (.dt (stp up) 0), some (.dt (.list (l.map encT)) 0), some (.dt (.list ((lft l.length fs).map pn)) 0), some (.dt (.list (fs.map pn)) 1), some (.dt (pn here) 0), some (.dt (.list (xs.map pn)) 0), x7, x8, x9] ∧ Sl0 x7 ∧ Sl0 x9 ∧ (xs.drop done.length).find? (goodB (tat l) (lft l.length fs)) = some i, ⟨_, _, _, rfl, hx7, hx9, hi⟩, ?_, ?_⟩
        · rintro done d rest e hd2 ⟨x7, x8, x9, rfl, hx7, hx9, hf⟩
          obtain ⟨j, hj, rfl⟩ := map_at hd2
          have hjl := hxs j (List.mem_of_getElem? hj)
          obtain ⟨ft, ff⟩ := find_drop hf hj
          refine ⟨_, rfl, ?_⟩
          dsimp only [List.set]
          refine ru_seq (ru_set (ok_lcP (lft l.length fs) pn (fun o => !decide (o = j)) pn ?_))
          refine ok_it1 (ok_v0 rfl ⟨_, _, _, rfl, rfl, ?_⟩)
          refine ⟨⟨[some (.dt (encW n l) 0), some (.dt (stp up) 0), some (.dt (.list (l.map encT)) 0), some (.dt (.list ((lft l.length fs).map pn)) 0), some (.dt (.list (fs.map pn)) 1), some (.dt (pn here) 0), some (.dt (.list (xs.map pn)) 0), some (.dt (pn j) 0), x8, none], by rcases hx9 with rfl | ⟨y, rfl⟩ <;> rfl, fun o ho => ⟨_, rfl, ?_⟩⟩, rfl, by omega, ?_⟩
          · dsimp only [List.set]
            refine tb_of (ok_2 (ok_v0 rfl (ok_v0 rfl (us_neP (a := o) (b := j) rfl ?_))))
            exact ⟨_, _, rfl, rfl, rfl, fun _ => ok_v0 rfl ⟨_, rfl, rfl⟩⟩
          rw [show ((lft l.length fs).filter fun o => !decide (o = j)) = del (lft l.length fs) j by unfold del; exact List.filter_congr fun o _ => by simp]
          have hDl : (del (lft l.length fs) j).length ≤ 20 := Nat.le_trans (List.length_filter_le _ _) hLn
          refine ⟨_, rfl, ?_⟩
          dsimp only [List.set]
          have hj7 : en l j < 7 := by
            have := hw.ok _ (List.getElem_mem hjl)
            rw [en_at hjl]; omega
          repeat right
          refine us_tie hjl rfl rfl ?_
          repeat right
          refine ca_eq (eq_can hw (fun o ho => hLl o (mem_del.mp ho).1) (by omega) hj7) ?_
          have e1 : dec (AllR (tis (tat l) (del (lft l.length fs) j)) (en l j)) = goodB (tat l) (lft l.length fs) j := rfl
          rw [e1]
          refine ⟨_, _, rfl, fun hg => ?_, fun hg => ?_⟩
          · have hij := ft hg
            subst hij
            have hfl : (fs.map pn).length < 1000000 := by have := hG2.len; rw [List.length_map]; simp at this; omega
            repeat right
            refine us_tie hjl rfl rfl ?_
            repeat right
            have hdl := del_len (lft_nodup (m := l.length) (gone := fs)) hiL
            refine ⟨(lft l.length (fs ++ [i])).length, by rw [lft_snoc]; omega, fs ++ [i], 0, en l i, _, _, _, _, by rw [lft_snoc, List.map_append]; rfl, Sl0.s, hx9,   .inr ⟨by simp, hG2⟩, Nat.le_refl _⟩
          · exact ru_nx ⟨_, _, _, rfl, Sl0.s, hx9, by rw [List.length_append]; exact ff hg⟩
        · rintro e ⟨x7, x8, x9, rfl, hx7, hx9, hf⟩
          rw [List.length_map, List.drop_length] at hf
          cases hf
    · have hne : lft l.length fs = [] := by simpa using hb
      have hres : best l up = some fs := by
        rcases hG with ⟨rfl, _⟩ | ⟨_, hG⟩
        · have : l = [] := by
            rw [lft_nil] at hne
            have := congrArg List.length hne
            rw [List.length_range] at this
            exact List.eq_nil_of_length_eq_zero this
          unfold best
          rw [hd, if_pos rfl, if_pos this]
        · have := hG.len
          rw [hne] at this
          exact hG.fin (by simp at this; omega)
      rw [hres]
      refine ru_ret (ok_vn rfl (rt_bor rfl ⟨_, rfl, rfl, rfl, rfl⟩))

/-! an item of a slot's list, at a place that is computed -/
theorem tgs_okG {i : Nat} {fk : Ev → Res RV} {e : Ev} {ds : List PyData} {a : Int} {d : PyData} (h1 : e[i]? = some (some (.dt (.list ds) 1))) (h2 : Ok fk e fun r e1 => e1 = e ∧ r = .val (.int a) 0) (h3 : 0 ≤ a) (h4 : a < ds.length) : tgSub sIx i fk d e = some (e.set i (some (.dt (.list (ds.set a.toNat d)) 1))) := by
  obtain ⟨r, e1, h2, rfl, rfl⟩ := h2
  unfold tgSub isDt
  simp only [h1, h2]
  rw [if_pos True.intro]
  show (match e1[i]? with | some (some (.dt c 1)) => _ | _ => none) = _
  simp only [h1]
  rw [if_pos (show boxD (.list ds) = true from rfl)]
  show (match (match ixN ds.length a with | some j => some (PyData.list (ds.set j d)) | none => none) with | some c' => _ | none => none) = _
  rw [ixN_ok h3 h4]

/-! repr of webs and things -/
theorem encT_fn (t : Nat × Nat) (h : t.1 ≤ 100000 ∧ t.2 ≤ 100000) : Fn 1 2 (encT t) := Fn.tuple (FnL.cons (n := 0) (Fn.small (by omega) (by omega)) (FnL.cons (n := 0) (Fn.small (by omega) (by omega)) (FnL.nil (n := 0))))
theorem Wb.fn {n : Nat} {l : List (Nat × Nat)} (h : Wb n l) : Fn 3 100 (encW n l) := by
  have h7 := h.n7
  have f1 : FnL 1 60 (l.map encT) := (FnL.all (k := 1) (n := 2) fun d hd => by
    obtain ⟨t, ht, rfl⟩ := List.mem_map.mp hd
    have := h.ok t ht
    exact encT_fn t (by omega)).le (Nat.le_refl _) (by have := h.len; rw [List.length_map]; omega)
  exact (Fn.tuple (FnL.cons (n := 0) (Fn.small (by omega) (by omega)) (FnL.cons (Fn.list f1) (FnL.nil (n := 0))))).le (Nat.le_refl _) (by omega)
theorem encN_fn {ns : List Nat} (h : ∀ i ∈ ns, i ≤ 100000) (hl : ns.length ≤ 60) : Fn 1 60 (encN ns) := by
  refine (Fn.list (FnL.all (k := 0) (n := 0) fun d hd => ?_)).le (Nat.le_refl _) (by rw [List.length_map]; omega)
  obtain ⟨i, hi, rfl⟩ := List.mem_map.mp hd
  have := h i hi
  exact Fn.small (by omega) (by omega)
theorem pair_fn {n : Nat} {l : List (Nat × Nat)} {d : PyData} (h : Wb n l) (hd : Fn 8 1000 d) : Fn 9 1200 (.list [encW n l, d]) :=
  (Fn.list (FnL.cons (h.fn.le (by omega) (Nat.le_refl _)) (FnL.cons hd (FnL.nil (n := 0))))).le (by omega) (by omega)

/-! webs of at most so many ties -/
theorem web_encM {M : Nat} {d : PyData} (h : IsWebM M d) (hM : M ≤ 20) : ∃ n l, d = encW n l ∧ Wb n l ∧ l.length ≤ M := by
  have hl : ∃ (n : Int) (ts : List PyData), d = .tuple [.int n, .list ts] ∧ ts.length ≤ M := by
    obtain ⟨n, ts, e, _, _, h3, _⟩ := h
    exact ⟨n, ts, e, by omega⟩
  obtain ⟨n, l, rfl, hw⟩ := web_enc (h.web (by omega))
  obtain ⟨n', ts, e, hl⟩ := hl
  refine ⟨n, l, rfl, hw, ?_⟩
  unfold encW at e
  injection e with e
  injection e with _ e
  injection e with e _
  injection e with e
  rw [← e, List.length_map] at hl; exact hl

/-! the law -/
theorem optD_fn {o : Option (List Nat)} (h : ∀ ns, o = some ns → (∀ i ∈ ns, i ≤ 100000) ∧ ns.length ≤ 60) : Fn 1 60 (optD o) := by
  cases o with
  | none => exact Fn.none
  | some ns => exact encN_fn (h ns rfl).1 (h ns rfl).2
theorem best_fn {n : Nat} {l : List Tie2} (hw : Wb n l) (up : Bool) : Fn 1 60 (optD (best l up)) := optD_fn fun ns e => by
  have h := best_ok e
  have hl := hw.len
  exact ⟨fun i hi => by have := h.1 i hi; omega, by omega⟩
theorem best_isSome (l : List Tie2) (up : Bool) : (best l up).isSome = dec (HasR l) := by
  unfold best
  cases h : dec (HasR l) <;> rfl
theorem isN_best (l : List Tie2) (up : Bool) : isNone (optD (best l up)) = !dec (HasR l) := by
  rw [← best_isSome l up]
  cases best l up <;> rfl
theorem law_true (ns : List Int) (hns : ns.length ≤ 63) : yes (b_law (lawEv 7 ns)) := by
  refine yes_of ?_
  show Ru b_law [some (.fz (ns.map .int)), none, none, none, none, none, none] _ _ _ _
  unfold b_law
  have hm : most = 16000000 := rfl
  have hcl : (PV.cutD (ns.map .int) none (some 12)).length ≤ 63 := by
    unfold PV.cutD
    rw [List.length_take, List.length_drop, List.length_map]; omega
  have hci : ∀ x ∈ PV.cutD (ns.map PyData.int) none (some 12), ∃ i : Int, x = .int i := fun x hx => by
    unfold PV.cutD at hx
    obtain ⟨i, _, rfl⟩ := List.mem_map.mp (List.mem_of_mem_drop (List.mem_of_mem_take hx))
    exact ⟨i, rfl⟩
  refine ru_cut (fun e => ∃ x1 x2 x3 x4 x5 x6, e = [some (.fz (ns.map .int)), x1, x2, x3, x4, x5, x6]) (ru_for (ok_it1 (ok_2 (ok_lst' (oka_cons (ok_c (oka_nil ⟨_, _, rfl, rfl, ok_fz rfl rfl (us_addL rfl ?_ rfl ⟨_, _, _, rfl, rfl, ?_⟩)⟩))))))) ?_
  · rw [List.length_singleton]; omega
  · refine ⟨fun done e => ∃ x1 x2 x3 x4 x5 x6, e = [some (.fz (ns.map .int)), x1, x2, x3, x4, x5, x6], ⟨_, _, _, _, _, _, rfl⟩, ?_, ?_⟩
    · rintro done d rest e hd ⟨x1, x2, x3, x4, x5, x6, rfl⟩
      obtain ⟨c, rfl⟩ : ∃ c : Int, d = .int c := by
        have hmem : d ∈ [PyData.int 0] ++ PV.cutD (ns.map .int) none (some 12) := by rw [hd]; simp
        rcases List.mem_append.mp hmem with z | z
        · rw [List.mem_singleton] at z; exact ⟨0, z⟩
        · exact hci d z
      refine ⟨_, rfl, ?_⟩
      dsimp only [List.set]
      repeat right
      refine (well_ok c).mono ?_
      rintro w _ _ ⟨rfl, W⟩
      repeat right
      refine ru_for ?_
      repeat right
      refine (web_spec W).mono ?_
      rintro _ _ w ⟨rfl, hd1, W⟩
      obtain ⟨n1, l1, rfl, hw1⟩ := web_enc hd1
      repeat right
      refine (gone_spec (L := 20) W (by omega) (by decide) (by decide)).mono ?_
      rintro _ _ w ⟨rfl, ⟨n2, l2, way, rfl, hw2, hl2, hway⟩, W⟩
      repeat right
      refine ⟨fun done e => ∃ x3 x4 x5 x6, e = [some (.fz (ns.map .int)), some (.dt (.int c) 0), some (.dt w 1), x3, x4, x5, x6], ⟨_, _, _, _, rfl⟩, ?_, ?_⟩
      · rintro done2 d2 rest2 e hd2 ⟨x3, x4, x5, x6, rfl⟩
        obtain ⟨n, l, rfl, hw⟩ : ∃ n l, d2 = encW n l ∧ Wb n l := by
          have hmem : d2 ∈ [encW n1 l1, encW n2 l2] := by rw [hd2]; simp
          rcases List.mem_cons.mp hmem with z | z
          · exact ⟨n1, l1, z, hw1⟩
          · exact ⟨n2, l2, List.mem_singleton.mp z, hw2⟩
        refine ⟨_, rfl, ?_⟩
        dsimp only [List.set]
        refine ru_seq (ru_asg (ok_lst' (oka_cons (ok_call (oka_cons (ok_v0 rfl (oka_cons (ok_c (oka_nil ⟨_, _, rfl, rfl, ca_eq (eq_due hw true) ?_⟩)))))))))
        refine oka_cons (ok_call (oka_cons (ok_v0 rfl (oka_cons (ok_1 (ok_c (us_of rfl rfl rfl (oka_nil ⟨_, _, rfl, rfl, ca_eq (eq_due hw false) ?_⟩))))))))
        refine oka_nil ⟨_, _, rfl, rfl, _, _, _, rfl, rfl, ?_⟩
        dsimp only [List.set]
        refine ru_for ?_
        repeat right
        refine ⟨fun done e => ∃ x5 x6, e = [some (.fz (ns.map .int)), some (.dt (.int c) 0), some (.dt w 1), some (.dt (encW n l) 0), some (.dt (.list [optD (best l true), optD (best l false)]) 0), x5, x6], ⟨_, _, rfl⟩, ?_, ?_⟩
        · rintro done3 d3 rest3 e hd3 ⟨x5, x6, rfl⟩
          refine ⟨_, rfl, ?_⟩
          dsimp only [List.set]
          repeat right
          refine ca_eq (eq_has_round hw) ?_
          repeat right
          rw [isN_best, Bool.not_not, show PyData.eqv (.bool (dec (HasR l))) (.bool (dec (HasR l))) = true by cases dec (HasR l) <;> rfl]
          refine ⟨fun z => (nomatch z), fun _ => ru_nx ?_⟩
          refine ru_if (tb_of (ok_2 (ok_N (oka_cons (ok_lst' (oka_cons (ok_call (oka_cons (ok_v0 rfl (oka_nil ⟨_, _, rfl, rfl, ca_eq (eq_first_round hw) ?_⟩)))))))))) 
          refine oka_cons (ok_call (oka_cons (ok_v0 rfl (oka_nil ⟨_, _, rfl, rfl, ca_eq (eq_last_round hw) ?_⟩))))
          have hfn : Fn 2 200 (.list [optD (best l true), optD (best l false)]) := (Fn.list (FnL.cons (best_fn hw true) (FnL.cons (best_fn hw false) (FnL.nil (n := 0))))).le (Nat.le_refl _) (by omega)
          refine oka_nil ⟨_, _, rfl, rfl, oka_nil (us_reprF hfn (by omega) (by omega) rfl ?_)⟩
          refine ok_N (oka_cons (ok_v0 rfl (oka_nil (us_reprF hfn (by omega) (by omega) rfl ?_))))
          refine us_neS rfl ?_
          rw [eqv_str]
          exact ⟨_, _, rfl, fun z => (nomatch z), fun _ => ru_nx ⟨_, _, rfl⟩⟩
        · rintro e ⟨x5, x6, rfl⟩
          exact ⟨_, _, _, _, rfl⟩
      · rintro e ⟨x3, x4, x5, x6, rfl⟩
        exact ⟨_, _, _, _, _, _, rfl⟩
    · rintro e ⟨x1, x2, x3, x4, x5, x6, rfl⟩
      exact ⟨_, _, _, _, _, _, rfl⟩
  · rintro e ⟨x1, x2, x3, x4, x5, x6, rfl⟩
    have w1 : Wb 2 [(0, 0), (1, 1)] := ⟨by omega, by omega, by decide, by decide⟩
    have w2 : Wb 7 [] := ⟨by omega, by omega, by decide, fun t ht => nomatch ht⟩
    have r1 : dec (HasR [(0, 0), (1, 1)]) = false := dec_false fun h => by
      have h := (h.resolve_left (by simp)).2 (1, 1) (by simp)
      have : (fun q => q = 0) 1 := Hng.inv (T := [(0, 0), (1, 1)]) (P := fun q => q = 0) (by decide) h rfl
      cases this
    have r2 : dec (HasR []) = true := dec_true (.inl rfl)
    repeat right
    refine ca_eq (eq_has_round w1) ?_
    rw [r1]
    repeat right
    refine ca_eq (eq_has_round w2) ?_
    rw [r2]
    repeat right
    rfl

end LW
open PySem PySem.W PyProof.Rows
set_option maxHeartbeats 0 in
theorem PySem.Challenge.cw_tierounds_k07_long_webs_holds : PySem.Challenge.rw_tierounds_k07_long_webs.Holds := by
  w_on; o_law; k_head; (case hw => w_witness2)
  k_fill
  refine PV.walk_g (l := PySem.Challenge.rw_tierounds_k07_long_webs) (n := 63) (k := 7) (x := "script") (N := 7) (fb := LW.b_law) rfl (by decide) rfl ⟨rfl, by decide, by decide⟩ (fun w h Y => PySem.W.kIn_of Y) ?F LW.law_true (fun w H s e s' x => ?X)
  case F =>
    intro w mg fa h KX G hmg
    refine' LW.all_mk KX G hmg ?xa0 ?xl0 ?xc0 ?xk0 ?xa1 ?xl1 ?xc1 ?xk1 ?xa2 ?xl2 ?xc2 ?xk2 ?xa3 ?xl3 ?xc3 ?xk3 ?xa4 ?xl4 ?xc4 ?xk4 ?xa5 ?xl5 ?xc5 ?xk5 ?xa6 ?xl6 ?xc6 ?xk6 ?xa7 ?xl7 ?xc7 ?xk7 ?xa8 ?xl8 ?xc8 ?xk8 ?xa9 ?xl9 ?xc9 ?xk9 ?xa10 ?xl10 ?xc10 ?xk10 ?xa11 ?xl11 ?xc11 ?xk11 ?xa12 ?xl12 ?xc12 ?xk12 ?xa13 ?xl13 ?xc13 ?xk13 ?xa14 ?xl14 ?xc14 ?xk14 ?xa15 ?xl15 ?xc15 ?xk15 ?xa16 ?xl16 ?xc16 ?xk16 ?xa17 ?xl17 ?xc17 ?xk17 ?xa18 ?xl18 ?xc18 ?xk18 ?xa19 ?xl19 ?xc19 ?xk19 ?xa20 ?xl20 ?xc20 ?xk20 ?xa21 ?xl21 ?xc21 ?xk21 ?xa22 ?xl22 ?xc22 ?xk22 ?xa23 ?xl23 ?xc23 ?xk23 ?xa24 ?xl24 ?xc24 ?xk24 ?xa25 ?xl25 ?xc25 ?xk25 ?xa26 ?xl26 ?xc26 ?xk26 ?mco0 ?mco1 ?xz0 ?xz1 ?xz2 ?xz3 ?xz4 ?xz5 ?xz6 ?xz7 ?xz8 ?xz9 ?xz10
    (case xa0 => k_is)
    (case xl0 => k_is)
    (case xc0 => k_is)
    (case xk0 => k_is)
    (case xa1 => k_is)
    (case xl1 => k_is)
    (case xc1 => k_is)
    (case xk1 => k_is)
    (case xa2 => k_is)
    (case xl2 => k_is)
    (case xc2 => k_is)
    (case xk2 => k_is)
    (case xa3 => k_is)
    (case xl3 => k_is)
    (case xc3 => k_is)
    (case xk3 => k_is)
    (case xa4 => k_is)
    (case xl4 => k_is)
    (case xc4 => k_is)
    (case xk4 => k_is)
    (case xa5 => k_is)
    (case xl5 => k_is)
    (case xc5 => k_is)
    (case xk5 => k_is)
    (case xa6 => k_is)
    (case xl6 => k_is)
    (case xc6 => k_is)
    (case xk6 => k_is)
    (case xa7 => k_is)
    (case xl7 => k_is)
    (case xc7 => k_is)
    (case xk7 => k_is)
    (case xa8 => k_is)
    (case xl8 => k_is)
    (case xc8 => k_is)
    (case xk8 => k_is)
    (case xa9 => k_is)
    (case xl9 => k_is)
    (case xc9 => k_is)
    (case xk9 => k_is)
    (case xa10 => k_is)
    (case xl10 => k_is)
    (case xc10 => k_is)
    (case xk10 => k_is)
    (case xa11 => k_is)
    (case xl11 => k_is)
    (case xc11 => k_is)
    (case xk11 => k_is)
    (case xa12 => k_is)
    (case xl12 => k_is)
    (case xc12 => k_is)
    (case xk12 => k_is)
    (case xa13 => k_is)
    (case xl13 => k_is)
    (case xc13 => k_is)
    (case xk13 => k_is)
    (case xa14 => k_is)
    (case xl14 => k_is)
    (case xc14 => k_is)
    (case xk14 => k_is)
    (case xa15 => k_is)
    (case xl15 => k_is)
    (case xc15 => k_is)
    (case xk15 => k_is)
    (case xa16 => k_is)
    (case xl16 => k_is)
    (case xc16 => k_is)
    (case xk16 => k_is)
    (case xa17 => k_is)
    (case xl17 => k_is)
    (case xc17 => k_is)
    (case xk17 => k_is)
    (case xa18 => k_is)
    (case xl18 => k_is)
    (case xc18 => k_is)
    (case xk18 => k_is)
    (case xa19 => k_is)
    (case xl19 => k_is)
    (case xc19 => k_is)
    (case xk19 => k_is)
    (case xa20 => k_is)
    (case xl20 => k_is)
    (case xc20 => k_is)
    (case xk20 => k_is)
    (case xa21 => k_is)
    (case xl21 => k_is)
    (case xc21 => k_is)
    (case xk21 => k_is)
    (case xa22 => k_is)
    (case xl22 => k_is)
    (case xc22 => k_is)
    (case xk22 => k_is)
    (case xa23 => k_is)
    (case xl23 => k_is)
    (case xc23 => k_is)
    (case xk23 => k_is)
    (case xa24 => k_is)
    (case xl24 => k_is)
    (case xc24 => k_is)
    (case xk24 => k_is)
    (case xa25 => k_is)
    (case xl25 => k_is)
    (case xc25 => k_is)
    (case xk25 => k_is)
    (case xa26 => k_is)
    (case xl26 => k_is)
    (case xc26 => k_is)
    (case xk26 => k_is)
    (case mco0 => k_is)
    (case mco1 => k_is)
    (case xz0 => k_is)
    (case xz1 => k_is)
    (case xz2 => k_is)
    (case xz3 => k_is)
    (case xz4 => k_is)
    (case xz5 => k_is)
    (case xz6 => k_is)
    (case xz7 => k_is)
    (case xz8 => k_is)
    (case xz9 => k_is)
    (case xz10 => k_is)
  case X =>
    obtain ⟨_, _, _, _, _, _, _, _, _, _, _, _, z⟩ := x
    exact z.elim
