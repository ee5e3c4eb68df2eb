import PyProof.Rows.All
import Wide.All
import OpenK.AllK
import Wide.FinOn
import HandS.ForMost
import HandS.EndTab
import HandS.Wide
import HandS.WideBits
import KE.SortKeyHeap
import HandS.Conv
import HandS.Deep
import HandS.SortInts
import HandS.Style
import HandS.IsInst
import HandS.TupAny
import PyProof.ReprRoads
import HandS.Property
import HandS.HeadEnd
import HandS.Defaults
import KE.KNestM
import KE.GoesMore
import KE.GoesEnum
import KE.KSortKey
import HandS.DictComp
import KE.KIndexOf
import HandS.SetFor
import KE.KRevSl
import HandS.HeadHook1
import HandS.HeadHook2
import HandS.HeadHook4
import KE.KStateDown
import Lean
import HandS.Head0
import HandS.Head1
import HandS.Head2
import PySem.Challenge.RW_drawnorders_k05_heights_and_chains
set_option Elab.async false
set_option linter.all false
set_option maxRecDepth 100000
set_option maxHeartbeats 0
namespace Y
open PySem PySem.Spec PyProof.Rows L2

/-! ### data -/
inductive D where
  | non | bl (b : Bool) | int (i : Int) | str (x : Str)
  | tup (xs : List D) | lst (xs : List D) | scr (ns : List Int)
  | dk (ks : List Key) (vs : List D) | dt (ks : List (List Key)) (vs : List D)
  | obj (c : Str) (ns : List Str) (vs : List D)
  | tupk (xs : List D)

/-- how a slot holds its value: s shared (never changed), o m an own list of such items, own dicts, own instances -/
inductive M where
  | s | o (m : M) | dk | dt | ins (c : Str) (ns : List Str) (ms : M) | fnil | fcons (m ms : M)
  deriving DecidableEq

abbrev Pm := Addr → Prop
/-- the slots; none: what belongs to the tables of code objects -/
abbrev Sl := Option Nat
/-- the classes' addresses; the tables of the code objects that make lambdas, and the lambdas' names -/
structure Ct where
  cls : Str → Option Addr
  tabs : List (Addr × Str)
instance : CoeFun Ct fun _ => Str → Option Addr := ⟨Ct.cls⟩
abbrev Env := List (Option (M × D))

section
variable (K : PySem.W.Frag) (ct : Ct)

mutual
def Rep (S : Hp) : D → V → Prop
  | .non, v => v = .non
  | .bl b, v => v = .bl b
  | .int i, v => v = .int i
  | .str x, v => v = .str x
  | .tup ds, v => ∃ a vs, v = .ref a ∧ SqT K S a vs ∧ Reps S ds vs
  | .lst ds, v => ∃ a vs, v = .ref a ∧ S a = some (.lst vs) ∧ Reps S ds vs
  | .scr ns, v => ∃ a, v = .ref a ∧ SqL K S a (ns.map V.int)
  | .dk ks ds, v => ∃ a vs, v = .ref a ∧ S a = some (.dK (ks.zip vs)) ∧ ks.length = vs.length ∧ Reps S ds vs
  | .dt ks ds, v => ∃ a vs, v = .ref a ∧ S a = some (.dT (ks.zip vs)) ∧ ks.length = vs.length ∧ Reps S ds vs
  | .obj c ns ds, v => ∃ a C dx vs, v = .ref a ∧ ct c = some C ∧ S a = some (.ins C dx (ns.zip vs)) ∧ S dx = some (.own a) ∧ ns.length = vs.length ∧ Reps S ds vs
  | .tupk ds, v => ∃ a vs o, v = .ref a ∧ S a = some (.frz o (.tup vs)) ∧ o.dict = none ∧ Reps S ds vs
def Reps (S : Hp) : List D → List V → Prop
  | [], vs => vs = []
  | d :: ds, vs => ∃ v r, vs = v :: r ∧ Rep S d v ∧ Reps S ds r
end

def Items (R : Pm → D → V → Prop) : Pm → List D → List V → Prop
  | _, [], vs => vs = []
  | F, d :: ds, vs => ∃ v r F1 F2, vs = v :: r ∧ (∀ a, F1 a → F a) ∧ (∀ a, F2 a → F a) ∧ (∀ a, F1 a → F2 a → False) ∧ R F1 d v ∧ Items R F2 ds r

mutual
def RepM (S H : Hp) : M → Pm → D → V → Prop
  | .s, _, d, v => Rep K ct S d v
  | .o m, F, d, v => ∃ a vs ds F', d = .lst ds ∧ v = .ref a ∧ F a ∧ H a = some (.lst vs) ∧ (∀ b, F' b → F b ∧ b ≠ a) ∧ Items (fun G d v => RepM S H m G d v) F' ds vs
  | .dk, F, d, v => ∃ a ks vs ds, d = .dk ks ds ∧ v = .ref a ∧ F a ∧ H a = some (.dK (ks.zip vs)) ∧ ks.length = vs.length ∧ Reps K ct S ds vs
  | .dt, F, d, v => ∃ a ks vs ds, d = .dt ks ds ∧ v = .ref a ∧ F a ∧ H a = some (.dT (ks.zip vs)) ∧ ks.length = vs.length ∧ Reps K ct S ds vs
  | .ins c ns ms, F, d, v => ∃ a C dx vs ds F', d = .obj c ns ds ∧ v = .ref a ∧ ct c = some C ∧ F a ∧ F dx ∧ a ≠ dx ∧ H a = some (.ins C dx (ns.zip vs)) ∧ H dx = some (.own a) ∧ ns.length = vs.length ∧
      (∀ b, F' b → F b ∧ b ≠ a ∧ b ≠ dx) ∧ RepFl S H ms F' ds vs
  | .fnil, _, _, _ => False
  | .fcons _ _, _, _, _ => False
def RepFl (S H : Hp) : M → Pm → List D → List V → Prop
  | .fnil, _, ds, vs => ds = [] ∧ vs = []
  | .fcons m ms, F, ds, vs => ∃ d ds' v vs' F1 F2, ds = d :: ds' ∧ vs = v :: vs' ∧ (∀ a, F1 a → F a) ∧ (∀ a, F2 a → F a) ∧ (∀ a, F1 a → F2 a → False) ∧ RepM S H m F1 d v ∧ RepFl S H ms F2 ds' vs'
  | .s, _, _, _ => False
  | .o _, _, _, _ => False
  | .dk, _, _, _ => False
  | .dt, _, _, _ => False
  | .ins _ _ _, _, _, _ => False
end
end

section
variable {K : PySem.W.Frag} {ct : Ct}

theorem Same.seqT {S S' : Hp} {a : Addr} {xs : List V} (e : Same S S') (h : SqT K S a xs) : SqT K S' a xs := by
  rcases h with (h | ⟨o, h⟩) | h
  · exact .inl (.inl (e _ _ h))
  · exact .inl (.inr ⟨o, e _ _ h⟩)
  · exact .inr h

mutual
theorem Rep.mono {S S' : Hp} (e : Same S S') : ∀ {d : D} {v : V}, Rep K ct S d v → Rep K ct S' d v
  | .non, v, h => h
  | .bl b, v, h => h
  | .int i, v, h => h
  | .str x, v, h => h
  | .tup ds, v, h => by
    unfold Rep at h ⊢
    obtain ⟨a, vs, e1, e2, e3⟩ := h
    exact ⟨a, vs, e1, Same.seqT e e2, Reps.mono e e3⟩
  | .lst ds, v, h => by
    unfold Rep at h ⊢
    obtain ⟨a, vs, e1, e2, e3⟩ := h
    exact ⟨a, vs, e1, e _ _ e2, Reps.mono e e3⟩
  | .scr ns, v, h => by
    unfold Rep at h ⊢
    obtain ⟨a, e1, e2⟩ := h
    exact ⟨a, e1, e.seq e2⟩
  | .dk ks ds, v, h => by
    unfold Rep at h ⊢
    obtain ⟨a, vs, e1, e2, e3, e4⟩ := h
    exact ⟨a, vs, e1, e _ _ e2, e3, Reps.mono e e4⟩
  | .dt ks ds, v, h => by
    unfold Rep at h ⊢
    obtain ⟨a, vs, e1, e2, e3, e4⟩ := h
    exact ⟨a, vs, e1, e _ _ e2, e3, Reps.mono e e4⟩
  | .obj c ns ds, v, h => by
    unfold Rep at h ⊢
    obtain ⟨a, C, dx, vs, e1, e2, e3, e4, e5, e6⟩ := h
    exact ⟨a, C, dx, vs, e1, e2, e _ _ e3, e _ _ e4, e5, Reps.mono e e6⟩
  | .tupk ds, v, h => by
    unfold Rep at h ⊢
    obtain ⟨a, vs, o, e1, e2, e3, e4⟩ := h
    exact ⟨a, vs, o, e1, e _ _ e2, e3, Reps.mono e e4⟩
theorem Reps.mono {S S' : Hp} (e : Same S S') : ∀ {ds : List D} {vs : List V}, Reps K ct S ds vs → Reps K ct S' ds vs
  | [], vs, h => h
  | d :: ds, vs, h => by
    unfold Reps at h ⊢
    obtain ⟨v, r, e1, e2, e3⟩ := h
    exact ⟨v, r, e1, Rep.mono e e2, Reps.mono e e3⟩
end
theorem Reps.length {S : Hp} : ∀ {ds : List D} {vs : List V}, Reps K ct S ds vs → ds.length = vs.length
  | [], vs, h => by
    unfold Reps at h
    subst h
    rfl
  | d :: ds, vs, h => by
    unfold Reps at h
    obtain ⟨v, r, rfl, _, e3⟩ := h
    rw [List.length_cons, List.length_cons, Reps.length e3]
theorem Reps.get {S : Hp} : ∀ {ds : List D} {vs : List V} {i : Nat} {d : D}, Reps K ct S ds vs → ds[i]? = some d → ∃ v, vs[i]? = some v ∧ Rep K ct S d v
  | [], vs, i, d, h, e => by simp at e
  | d0 :: ds, vs, 0, d, h, e => by
    unfold Reps at h
    obtain ⟨v, r, rfl, e2, e3⟩ := h
    simp at e
    subst e
    exact ⟨v, rfl, e2⟩
  | d0 :: ds, vs, i + 1, d, h, e => by
    unfold Reps at h
    obtain ⟨v, r, rfl, e2, e3⟩ := h
    obtain ⟨w, h1, h2⟩ := Reps.get (i := i) (d := d) e3 (by simpa using e)
    exact ⟨w, by simpa using h1, h2⟩
theorem Reps.get' {S : Hp} {ds : List D} {vs : List V} {i : Nat} {v : V} (h : Reps K ct S ds vs) (e : vs[i]? = some v) : ∃ d, ds[i]? = some d ∧ Rep K ct S d v := by
  have hl := h.length
  obtain ⟨hi, e'⟩ := List.getElem?_eq_some_iff.mp e
  obtain ⟨w, h1, h2⟩ := h.get (i := i) (d := ds[i]'(by omega)) (List.getElem?_eq_getElem (by omega))
  rw [e] at h1
  cases h1
  exact ⟨_, List.getElem?_eq_getElem (by omega), h2⟩
theorem Reps.append {S : Hp} : ∀ {ds es : List D} {vs ws : List V}, Reps K ct S ds vs → Reps K ct S es ws → Reps K ct S (ds ++ es) (vs ++ ws)
  | [], es, vs, ws, h, q => by
    unfold Reps at h
    subst h
    exact q
  | d :: ds, es, vs, ws, h, q => by
    unfold Reps at h
    obtain ⟨v, r, rfl, e2, e3⟩ := h
    show Reps K ct S (d :: (ds ++ es)) (v :: (r ++ ws))
    unfold Reps
    exact ⟨v, r ++ ws, rfl, e2, Reps.append e3 q⟩
theorem Reps.drop {S : Hp} : ∀ {ds : List D} {vs : List V} (n : Nat), Reps K ct S ds vs → Reps K ct S (ds.drop n) (vs.drop n)
  | ds, vs, 0, h => h
  | [], vs, n + 1, h => by
    unfold Reps at h
    subst h
    exact rfl
  | d :: ds, vs, n + 1, h => by
    unfold Reps at h
    obtain ⟨v, r, rfl, e2, e3⟩ := h
    exact Reps.drop n e3
theorem Reps.take {S : Hp} : ∀ {ds : List D} {vs : List V} (n : Nat), Reps K ct S ds vs → Reps K ct S (ds.take n) (vs.take n)
  | ds, vs, 0, h => rfl
  | [], vs, n + 1, h => by
    unfold Reps at h
    subst h
    exact rfl
  | d :: ds, vs, n + 1, h => by
    unfold Reps at h
    obtain ⟨v, r, rfl, e2, e3⟩ := h
    show Reps K ct S (d :: ds.take n) (v :: r.take n)
    unfold Reps
    exact ⟨v, _, rfl, e2, Reps.take n e3⟩
theorem Reps.set {S : Hp} {d : D} {v : V} (q : Rep K ct S d v) : ∀ {ds : List D} {vs : List V} (n : Nat), Reps K ct S ds vs → Reps K ct S (ds.set n d) (vs.set n v)
  | [], vs, n, h => by
    unfold Reps at h
    subst h
    exact rfl
  | d :: ds, vs, 0, h => by
    unfold Reps at h
    obtain ⟨v, r, rfl, e2, e3⟩ := h
    show Reps K ct S (_ :: ds) (_ :: r)
    unfold Reps
    exact ⟨_, _, rfl, q, e3⟩
  | d :: ds, vs, n + 1, h => by
    unfold Reps at h
    obtain ⟨v, r, rfl, e2, e3⟩ := h
    show Reps K ct S (d :: ds.set n _) (v :: r.set n _)
    unfold Reps
    exact ⟨v, _, rfl, e2, Reps.set q n e3⟩
theorem Reps.eraseIdx {S : Hp} : ∀ {ds : List D} {vs : List V} (n : Nat), Reps K ct S ds vs → Reps K ct S (ds.eraseIdx n) (vs.eraseIdx n)
  | [], vs, n, h => by
    unfold Reps at h
    subst h
    exact rfl
  | d :: ds, vs, 0, h => by
    unfold Reps at h
    obtain ⟨v, r, rfl, e2, e3⟩ := h
    exact e3
  | d :: ds, vs, n + 1, h => by
    unfold Reps at h
    obtain ⟨v, r, rfl, e2, e3⟩ := h
    show Reps K ct S (d :: ds.eraseIdx n) (v :: r.eraseIdx n)
    unfold Reps
    exact ⟨v, _, rfl, e2, Reps.eraseIdx n e3⟩
theorem Reps.reverse {S : Hp} : ∀ {ds : List D} {vs : List V}, Reps K ct S ds vs → Reps K ct S ds.reverse vs.reverse
  | [], vs, h => by
    unfold Reps at h
    subst h
    exact rfl
  | d :: ds, vs, h => by
    unfold Reps at h
    obtain ⟨v, r, rfl, e2, e3⟩ := h
    rw [List.reverse_cons, List.reverse_cons]
    refine Reps.append (Reps.reverse e3) ?_
    unfold Reps
    exact ⟨v, [], rfl, e2, rfl⟩
theorem Reps.nil {S : Hp} : Reps K ct S [] [] := rfl
theorem Reps.cons {S : Hp} {d : D} {v : V} {ds : List D} {vs : List V} (h : Rep K ct S d v) (t : Reps K ct S ds vs) : Reps K ct S (d :: ds) (v :: vs) := by
  unfold Reps
  exact ⟨v, vs, rfl, h, t⟩
theorem Reps.replicate {S : Hp} {d : D} {v : V} (h : Rep K ct S d v) : ∀ n : Nat, Reps K ct S (List.replicate n d) (List.replicate n v)
  | 0 => rfl
  | n + 1 => by
    rw [List.replicate_succ, List.replicate_succ]
    exact Reps.cons h (Reps.replicate h n)
theorem Reps.rep {S : Hp} {ds : List D} {vs : List V} (h : Reps K ct S ds vs) : ∀ n : Nat, Reps K ct S (List.replicate n ds).flatten (List.replicate n vs).flatten
  | 0 => rfl
  | n + 1 => by
    rw [List.replicate_succ, List.replicate_succ, List.flatten_cons, List.flatten_cons]
    exact h.append (Reps.rep h n)

/-! ### items with their own rights -/
theorem Items.mono {R R' : Pm → D → V → Prop} : ∀ {F : Pm} {ds : List D} {vs : List V}, (∀ G d v, (∀ a, G a → F a) → R G d v → R' G d v) → Items R F ds vs → Items R' F ds vs
  | F, [], vs, _, h => h
  | F, d :: ds, vs, f, h => by
    unfold Items at h ⊢
    obtain ⟨v, r, F1, F2, e1, h1, h2, h3, h4, h5⟩ := h
    exact ⟨v, r, F1, F2, e1, h1, h2, h3, f _ _ _ h1 h4, Items.mono (fun G d v hg => f G d v fun a z => h2 a (hg a z)) h5⟩
theorem Items.weak {R : Pm → D → V → Prop} : ∀ {F F' : Pm} {ds : List D} {vs : List V}, (∀ a, F a → F' a) → Items R F ds vs → Items R F' ds vs
  | F, F', [], vs, _, h => h
  | F, F', d :: ds, vs, f, h => by
    unfold Items at h ⊢
    obtain ⟨v, r, F1, F2, e1, h1, h2, h3, h4, h5⟩ := h
    exact ⟨v, r, F1, F2, e1, fun a z => f a (h1 a z), fun a z => f a (h2 a z), h3, h4, h5⟩
theorem Items.length {R : Pm → D → V → Prop} : ∀ {F : Pm} {ds : List D} {vs : List V}, Items R F ds vs → ds.length = vs.length
  | F, [], vs, h => by
    unfold Items at h
    subst h
    rfl
  | F, d :: ds, vs, h => by
    unfold Items at h
    obtain ⟨v, r, F1, F2, rfl, _, _, _, _, h5⟩ := h
    rw [List.length_cons, List.length_cons, Items.length h5]
/-- the item at a place, and how another may be put there -/
theorem Items.at {R : Pm → D → V → Prop} : ∀ {F : Pm} {ds : List D} {vs : List V} {i : Nat} {d : D}, Items R F ds vs → ds[i]? = some d →
    ∃ (v : V) (F1 F2 : Pm), vs[i]? = some v ∧ (∀ a, F1 a → F a) ∧ (∀ a, F2 a → F a) ∧ (∀ a, F1 a → F2 a → False) ∧ R F1 d v ∧
      ∀ (R' : Pm → D → V → Prop) (G : Pm) (d' : D) (v' : V), (∀ F' d v, (∀ a, F' a → F2 a) → R F' d v → R' F' d v) → (∀ a, G a → ¬ F2 a) → R' G d' v' → Items R' (fun a => G a ∨ F2 a) (ds.set i d') (vs.set i v')
  | F, [], vs, i, d, h, e => by simp at e
  | F, d0 :: ds, vs, 0, d, h, e => by
    unfold Items at h
    obtain ⟨v, r, F1, F2, rfl, h1, h2, h3, h4, h5⟩ := h
    simp at e
    subst e
    refine ⟨v, F1, F2, rfl, h1, h2, h3, h4, fun R' G d' v' k hg q => ?_⟩
    show Items R' _ (d' :: ds) (v' :: r)
    unfold Items
    exact ⟨v', r, G, F2, rfl, fun a z => .inl z, fun a z => .inr z, hg, q, h5.mono k⟩
  | F, d0 :: ds, vs, i + 1, d, h, e => by
    unfold Items at h
    obtain ⟨v, r, F1, F2, rfl, h1, h2, h3, h4, h5⟩ := h
    obtain ⟨w, G1, G2, e1, g1, g2, g3, g4, g5⟩ := Items.at (i := i) (d := d) h5 (by simpa using e)
    refine ⟨w, G1, fun a => F1 a ∨ G2 a, by simpa using e1, fun a z => h2 a (g1 a z), fun a z => z.elim (h1 a) fun z => h2 a (g2 a z), fun a z y => y.elim (fun y => h3 a y (g1 a z)) (g3 a z), g4, fun R' G d' v' k hg q => ?_⟩
    show Items R' _ (d0 :: ds.set i d') (v :: r.set i v')
    unfold Items
    refine ⟨v, _, F1, fun a => G a ∨ G2 a, rfl, fun a z => .inr (.inl z), fun a z => z.elim .inl fun z => .inr (.inr z), fun a z y => y.elim (fun y => hg a y (.inl z)) fun y => h3 a z (g2 a y), k _ _ _ (fun a z => .inl z) h4, g5 R' G d' v' (fun F' d v hF => k F' d v fun a z => .inr (hF a z)) (fun a z y => hg a z (.inr y)) q⟩
theorem Items.append {R : Pm → D → V → Prop} {G : Pm} {d : D} {v : V} (q : R G d v) : ∀ {F : Pm} {ds : List D} {vs : List V}, (∀ a, G a → ¬ F a) → Items R F ds vs → Items R (fun a => F a ∨ G a) (ds ++ [d]) (vs ++ [v])
  | F, [], vs, hg, h => by
    unfold Items at h
    subst h
    show Items R _ [d] [v]
    unfold Items
    exact ⟨v, [], G, fun _ => False, rfl, fun a z => .inr z, fun a z => z.elim, fun a _ z => z, q, rfl⟩
  | F, d0 :: ds, vs, hg, h => by
    unfold Items at h
    obtain ⟨v0, r, F1, F2, rfl, h1, h2, h3, h4, h5⟩ := h
    show Items R _ (d0 :: (ds ++ [d])) (v0 :: (r ++ [v]))
    unfold Items
    exact ⟨v0, r ++ [v], F1, fun a => F2 a ∨ G a, rfl, fun a z => .inl (h1 a z), fun a z => z.elim (fun z => .inl (h2 a z)) .inr, fun a z y => y.elim (h3 a z) fun y => hg a y (h1 a z), h4, Items.append q (fun a z y => hg a z (h2 a y)) h5⟩
theorem Items.erase {R : Pm → D → V → Prop} : ∀ {F : Pm} {ds : List D} {vs : List V} (i : Nat), Items R F ds vs → Items R F (ds.eraseIdx i) (vs.eraseIdx i)
  | F, [], vs, i, h => by
    unfold Items at h
    subst h
    exact rfl
  | F, d0 :: ds, vs, 0, h => by
    unfold Items at h
    obtain ⟨v, r, F1, F2, rfl, h1, h2, h3, h4, h5⟩ := h
    exact h5.weak h2
  | F, d0 :: ds, vs, i + 1, h => by
    unfold Items at h
    obtain ⟨v, r, F1, F2, rfl, h1, h2, h3, h4, h5⟩ := h
    show Items R F (d0 :: ds.eraseIdx i) (v :: r.eraseIdx i)
    unfold Items
    exact ⟨v, _, F1, F2, rfl, h1, h2, h3, h4, Items.erase i h5⟩
theorem Items.nil {R : Pm → D → V → Prop} {F : Pm} : Items R F [] [] := rfl
theorem Items.cons {R : Pm → D → V → Prop} {F G : Pm} {d : D} {v : V} {ds : List D} {vs : List V} (q : R G d v) (hg : ∀ a, G a → ¬ F a) (h : Items R F ds vs) : Items R (fun a => G a ∨ F a) (d :: ds) (v :: vs) := by
  unfold Items
  exact ⟨v, vs, G, F, rfl, fun a z => .inl z, fun a z => .inr z, hg, q, h⟩
/-- items that are shared -/
theorem Items.of_reps {S : Hp} {F : Pm} : ∀ {ds : List D} {vs : List V}, Reps K ct S ds vs → Items (fun _ d v => Rep K ct S d v) F ds vs
  | [], vs, h => h
  | d :: ds, vs, h => by
    unfold Reps at h
    obtain ⟨v, r, rfl, e2, e3⟩ := h
    unfold Items
    exact ⟨v, r, fun _ => False, F, rfl, fun a z => z.elim, fun a z => z, fun a z _ => z, e2, Items.of_reps e3⟩
theorem Items.reps {S : Hp} : ∀ {F : Pm} {ds : List D} {vs : List V}, Items (fun _ d v => Rep K ct S d v) F ds vs → Reps K ct S ds vs
  | F, [], vs, h => h
  | F, d :: ds, vs, h => by
    unfold Items at h
    obtain ⟨v, r, F1, F2, rfl, h1, h2, h3, h4, h5⟩ := h
    exact Reps.cons h4 (Items.reps h5)

mutual
theorem RepM.mono {S S' H H' : Hp} (e : Same S S') : ∀ {m : M} {F : Pm} {d : D} {v : V}, (∀ a, F a → H' a = H a) → RepM K ct S H m F d v → RepM K ct S' H' m F d v
  | .s, F, d, v, k, h => by
    unfold RepM at h ⊢
    exact h.mono e
  | .o m, F, d, v, k, h => by
    unfold RepM at h ⊢
    obtain ⟨a, vs, ds, F', e1, e2, e3, e4, e5, e6⟩ := h
    exact ⟨a, vs, ds, F', e1, e2, e3, (k a e3).trans e4, e5, e6.mono fun G d v hg => RepM.mono e fun a z => k a (e5 a (hg a z)).1⟩
  | .dk, F, d, v, k, h => by
    unfold RepM at h ⊢
    obtain ⟨a, ks, vs, ds, e1, e2, e3, e4, e5, e6⟩ := h
    exact ⟨a, ks, vs, ds, e1, e2, e3, (k a e3).trans e4, e5, e6.mono e⟩
  | .dt, F, d, v, k, h => by
    unfold RepM at h ⊢
    obtain ⟨a, ks, vs, ds, e1, e2, e3, e4, e5, e6⟩ := h
    exact ⟨a, ks, vs, ds, e1, e2, e3, (k a e3).trans e4, e5, e6.mono e⟩
  | .ins c ns ms, F, d, v, k, h => by
    unfold RepM at h ⊢
    obtain ⟨a, C, dx, vs, ds, F', e1, e2, e3, e4, e5, e6, e7, e8, e9, e10, e11⟩ := h
    exact ⟨a, C, dx, vs, ds, F', e1, e2, e3, e4, e5, e6, (k a e4).trans e7, (k dx e5).trans e8, e9, e10, RepFl.mono e (fun a z => k a (e10 a z).1) e11⟩
  | .fnil, F, d, v, k, h => by
    unfold RepM at h
    exact h.elim
  | .fcons _ _, F, d, v, k, h => by
    unfold RepM at h
    exact h.elim
theorem RepFl.mono {S S' H H' : Hp} (e : Same S S') : ∀ {m : M} {F : Pm} {ds : List D} {vs : List V}, (∀ a, F a → H' a = H a) → RepFl K ct S H m F ds vs → RepFl K ct S' H' m F ds vs
  | .fnil, F, d, v, k, h => by
    unfold RepFl at h ⊢
    exact h
  | .fcons m ms, F, d, v, k, h => by
    unfold RepFl at h ⊢
    obtain ⟨d, ds', v, vs', F1, F2, e1, e2, e3, e4, e5, e6, e7⟩ := h
    exact ⟨d, ds', v, vs', F1, F2, e1, e2, e3, e4, e5, RepM.mono e (fun a z => k a (e3 a z)) e6, RepFl.mono e (fun a z => k a (e4 a z)) e7⟩
  | .s, F, d, v, k, h => by
    unfold RepFl at h
    exact h.elim
  | .o _, F, d, v, k, h => by
    unfold RepFl at h
    exact h.elim
  | .dk, F, d, v, k, h => by
    unfold RepFl at h
    exact h.elim
  | .dt, F, d, v, k, h => by
    unfold RepFl at h
    exact h.elim
  | .ins _ _ _, F, d, v, k, h => by
    unfold RepFl at h
    exact h.elim
end
theorem RepM.weak {S H : Hp} {m : M} {F F' : Pm} {d : D} {v : V} (f : ∀ a, F a → F' a) (h : RepM K ct S H m F d v) : RepM K ct S H m F' d v := by
  cases m with
  | s =>
    unfold RepM at h ⊢
    exact h
  | o m =>
    unfold RepM at h ⊢
    obtain ⟨a, vs, ds, G, e1, e2, e3, e4, e5, e6⟩ := h
    exact ⟨a, vs, ds, G, e1, e2, f a e3, e4, fun b z => ⟨f b (e5 b z).1, (e5 b z).2⟩, e6⟩
  | dk =>
    unfold RepM at h ⊢
    obtain ⟨a, ks, vs, ds, e1, e2, e3, r⟩ := h
    exact ⟨a, ks, vs, ds, e1, e2, f a e3, r⟩
  | dt =>
    unfold RepM at h ⊢
    obtain ⟨a, ks, vs, ds, e1, e2, e3, r⟩ := h
    exact ⟨a, ks, vs, ds, e1, e2, f a e3, r⟩
  | ins c ns ms =>
    unfold RepM at h ⊢
    obtain ⟨a, C, dx, vs, ds, G, e1, e2, e3, e4, e5, e6, e7, e8, e9, e10, e11⟩ := h
    exact ⟨a, C, dx, vs, ds, G, e1, e2, e3, f a e4, f dx e5, e6, e7, e8, e9, fun b z => ⟨f b (e10 b z).1, (e10 b z).2⟩, e11⟩
  | fnil =>
    unfold RepM at h
    exact h.elim
  | fcons _ _ =>
    unfold RepM at h
    exact h.elim

/-! ### an own value is let go: from now on it is shared -/
open Classical in
noncomputable def frz (S H : Hp) (F : Pm) : Hp := fun a => match S a with
  | some o => some o
  | none => if F a then H a else none
theorem frz_ge {S H : Hp} {F : Pm} : Same S (frz S H F) := fun a o h => by
  unfold frz
  rw [h]
theorem frz_le {S H : Hp} {F : Pm} (e : Same S H) : Same (frz S H F) H := fun a o h => by
  unfold frz at h
  cases q : S a with
  | some u =>
    rw [q] at h
    exact e a o (q.trans h)
  | none =>
    rw [q] at h
    simp only at h
    split at h
    · exact h
    · cases h
theorem frz_at {S H : Hp} {F : Pm} (e : Same S H) {a : Addr} {o : HO} (f : F a) (h : H a = some o) : frz S H F a = some o := by
  unfold frz
  cases q : S a with
  | some u =>
    have := e a u q
    rw [h] at this
    cases this
    rfl
  | none =>
    simp only
    rw [if_pos f, h]
theorem frz_sub {S H : Hp} {F F' : Pm} (e : Same S H) (f : ∀ a, F a → F' a) : Same (frz S H F) (frz S H F') := fun a o h => by
  unfold frz at h ⊢
  cases q : S a with
  | some u =>
    rw [q] at h
    exact h
  | none =>
    rw [q] at h
    simp only at h ⊢
    split at h
    · rename_i z
      rw [if_pos (f a z), h]
    · cases h
theorem frz_new {S H : Hp} {F : Pm} {a : Addr} (h : frz S H F a ≠ none) : S a ≠ none ∨ F a := by
  unfold frz at h
  cases q : S a with
  | some u => exact .inl fun z => nomatch z
  | none =>
    rw [q] at h
    simp only at h
    split at h
    · exact .inr (by assumption)
    · exact absurd rfl h
mutual
theorem RepM.frz {S H : Hp} (e : Same S H) : ∀ {m : M} {F : Pm} {d : D} {v : V}, RepM K ct S H m F d v → Rep K ct (frz S H F) d v
  | .s, F, d, v, h => by
    unfold RepM at h
    exact h.mono frz_ge
  | .o m, F, d, v, h => by
    unfold RepM at h
    obtain ⟨a, vs, ds, F', rfl, rfl, e3, e4, e5, e6⟩ := h
    unfold Rep
    refine ⟨a, vs, rfl, frz_at e e3 e4, ?_⟩
    exact Items.reps (F := F') (e6.mono fun G d v hg r => (RepM.frz e r).mono (frz_sub e fun a z => (e5 a (hg a z)).1))
  | .dk, F, d, v, h => by
    unfold RepM at h
    obtain ⟨a, ks, vs, ds, rfl, rfl, e3, e4, e5, e6⟩ := h
    unfold Rep
    exact ⟨a, vs, rfl, frz_at e e3 e4, e5, e6.mono frz_ge⟩
  | .dt, F, d, v, h => by
    unfold RepM at h
    obtain ⟨a, ks, vs, ds, rfl, rfl, e3, e4, e5, e6⟩ := h
    unfold Rep
    exact ⟨a, vs, rfl, frz_at e e3 e4, e5, e6.mono frz_ge⟩
  | .ins c ns ms, F, d, v, h => by
    unfold RepM at h
    obtain ⟨a, C, dx, vs, ds, F', rfl, rfl, e3, e4, e5, e6, e7, e8, e9, e10, e11⟩ := h
    unfold Rep
    exact ⟨a, C, dx, vs, rfl, e3, frz_at e e4 e7, frz_at e e5 e8, e9, (RepFl.frz e e11).mono (frz_sub e fun a z => (e10 a z).1)⟩
  | .fnil, F, d, v, h => by
    unfold RepM at h
    exact h.elim
  | .fcons _ _, F, d, v, h => by
    unfold RepM at h
    exact h.elim
theorem RepFl.frz {S H : Hp} (e : Same S H) : ∀ {m : M} {F : Pm} {ds : List D} {vs : List V}, RepFl K ct S H m F ds vs → Reps K ct (frz S H F) ds vs
  | .fnil, F, d, v, h => by
    unfold RepFl at h
    obtain ⟨rfl, rfl⟩ := h
    exact rfl
  | .fcons m ms, F, d, v, h => by
    unfold RepFl at h
    obtain ⟨d, ds', v, vs', F1, F2, rfl, rfl, e3, e4, e5, e6, e7⟩ := h
    exact Reps.cons ((RepM.frz e e6).mono (frz_sub e e3)) ((RepFl.frz e e7).mono (frz_sub e e4))
  | .s, F, d, v, h => by
    unfold RepFl at h
    exact h.elim
  | .o _, F, d, v, h => by
    unfold RepFl at h
    exact h.elim
  | .dk, F, d, v, h => by
    unfold RepFl at h
    exact h.elim
  | .dt, F, d, v, h => by
    unfold RepFl at h
    exact h.elim
  | .ins _ _ _, F, d, v, h => by
    unfold RepFl at h
    exact h.elim
end
/-- without letting it go: as it is to be read in the whole heap -/
theorem RepM.rd {S H : Hp} (e : Same S H) {m : M} {F : Pm} {d : D} {v : V} (h : RepM K ct S H m F d v) : Rep K ct H d v := (h.frz e).mono (frz_le e)
end
end Y
namespace Y
open PySem PySem.Spec PyProof.Rows L2

/-! ### compact syntax -/
inductive B1 where
  | len | int | abs | sum | any | all | max | min | sorted | list | tuple | str | repr
  deriving DecidableEq
def B1.nm : B1 → Str
  | .len => "len" | .int => "int" | .abs => "abs" | .sum => "sum" | .any => "any" | .all => "all" | .max => "max" | .min => "min"
  | .sorted => "sorted" | .list => "list" | .tuple => "tuple" | .str => "str" | .repr => "repr"
inductive Ty5 where
  | bool | int | list | tuple | str
  deriving DecidableEq
def Ty5.nm : Ty5 → String
  | .bool => "bool" | .int => "int" | .list => "list" | .tuple => "tuple" | .str => "str"

inductive C where
  | int (i : Int) | bl (b : Bool) | str (x : Str) | non
  | var (i : Nat) | mv (i : Nat) | rd (p : C)
  | bor (i : Nat) | bidx (p e : C)
  | bin (op : Operator) (a b : C) | neg (a : C) | inv (a : C) | not (a : C)
  | cmp (op : CmpOp) (a b : C) | chain (o1 o2 : CmpOp) (a b c : C)
  | and (a b : C) | or (a b : C) | one (a : C)
  | ite (c a b : C)
  | tup (es : C) | lst (m : M) (es : C)
  | idx (b e : C) | slice (b lo hi : C)
  | comp (m : M) (own : List (Str × Nat)) (tgt src cond elt : C)
  | call (j : Nat) (es : C)
  | b1 (f : B1) (a : C) | max2 (a b : C) | min2 (a b : C) | lrange (es : C)
  | gint (x : Str) (i : Int) | isb (e : C) | fld (o : C) (f : Str) | bfld (p : C) (f : Str) | meth (c m : Str) (j : Nat) (o es : C) | make (c : Str) (j : Nat) (es : C)
  | app (p e : C) | pop (p : C) | popAt (p e : C) | ext (p e : C) | index (o e : C)
  | prop (c f : Str) (j : Nat) (o : C) | rev (b : C) | isT (t : Ty5) (e : C)
  | dcomp (own : List (Str × Nat)) (tgt src cond ky va : C) | swp (i : Nat) (e1 e2 v : C) | varT (i : Nat) | tupk (p : C) | idxT (o e : C) | lenset (e : C)
  | sortK (i : Nat) (src body : C) | sortR (i : Nat) (src body : C) | bitl (a : C) | pur (a : C)
  | nil | cons (e es : C)
  | itr (e : C) | rng1 (a : C) | rng2 (a b : C) | rng3 (a b c : C) | enum (e : C) | zip (a b : C)
  | tn (i : Nat) | tt (ts : C)
  | skip | seq (a b : C)
  | ex (e : C) | asg (i : Nat) (m : M) (e : C) | setf (i : Nat) (f : Str) (m : M) (e : C) | unp (ts e : C) | setix (p e v : C) | augix (p e : C) (op : Operator) (v : C) | aug (i : Nat) (op : Operator) (e : C)
  | ifs (c a b : C) | for_ (tgt src body : C) | while_ (c body : C)
  | ret (e : C) | retn | brk | cont | frz (i : Nat) | never
  | mtch (i : Nat) (x : Str) (b r : C) | dflt (b : C)

def C.isP : C → Bool
  | .bor _ => true | .bidx _ _ => true | .bfld _ _ => true | _ => false
def C.isW : C → Bool
  | .and _ _ => true | .or _ _ => true | .one _ => true | _ => false
/-- what is known of a block's names: N the slots, sc the scope, fn the names that it may store, FN the defs' names -/
inductive Kd where
  | fn | me (c : Str) | mk (c : Str) | pr (c : Str)
  deriving DecidableEq
structure SC where
  N : List Str
  sc : Scope
  fn : Str → Bool
  FN : List Str
  KN : List Kd
  flds : List Str
  gis : List (Str × Int)
  /-- the room that lambdas want -/
  lr : Nat

def SC.vis (Z : SC) (x : Str) : Bool := match Z.sc.names.lookup x with
  | some .local => true | some .cell => true | some .free => true | _ => false
def SC.sto (Z : SC) (x : Str) : Bool := match Z.sc.names.lookup x with
  | some .local => true | some .cell => Z.fn x | _ => false
def SC.glo (Z : SC) (x : Str) : Bool := match Z.sc.names.lookup x with
  | some .globalImplicit => true | _ => false
def SC.plain (x : Str) : Bool := !(x == ("__debug__" : Str)) && !(x == ("__classdict__" : Str)) && !(x == ("super" : Str)) && !(x == ("__name__" : Str))
def SC.slot (Z : SC) (i : Nat) (x : Str) : Bool := decide (Z.N[i]? = some x) && Z.vis x && SC.plain x
def SC.store (Z : SC) (i : Nat) (x : Str) : Bool := decide (Z.N[i]? = some x) && Z.sto x
def SC.blk (Z : SC) (scope : Scope) : SC := ⟨Z.N, relS scope Z.sc, fun x => scope.names.lookup x == some .cell, Z.FN, Z.KN, Z.flds, Z.gis, 0⟩

/-- a lambda of one parameter: captured names and globals -/
def lamSB1 (sc scope : Scope) (p : Str) : Bool :=
  decide (scope.kind = .function) && !scope.isCoroutine && !scope.isGenerator && decide (scope.names.lookup p = some .local) && scope.names.all fun y => (!decide (y.2 = .local) || decide (y.1 = p)) && !decide (y.2 = .cell) && (!decide (y.2 = .free) || decide (sc.names.lookup y.1 = some .cell) || decide (sc.names.lookup y.1 = some .free))
/-- the lambda's body is a text like others -/
def SC.lam (Z : SC) (scope : Scope) : SC := ⟨Z.N, scope, fun _ => false, Z.FN, Z.KN, Z.flds, Z.gis, 0⟩
def SC.lamOk (Z : SC) (i : Nat) (p : Str) (scope : Scope) : Bool := decide (Z.N[i]? = some p) && lamSB1 Z.sc scope p && !decide (Z.lr = 0)
/-- enumerate and zip want a target of several names -/
def tgOk (src : C) (t : Expr) : Bool := match src with
  | .enum _ => (match t with | .Tuple _ _ _ => true | _ => false)
  | .zip _ _ => (match t with | .Tuple _ _ _ => true | _ => false)
  | _ => true
def isComp : Expr → Bool
  | .ListComp .. => true | .SetComp .. => true | .DictComp .. => true | _ => false
mutual
def mE (Z : SC) : C → Expr → Bool
  | .int i, e => match e with | .Constant (.int j) _ _ => decide (i = j) | _ => false
  | .bl b, e => match e with | .Constant (.bool c) _ _ => decide (b = c) | _ => false
  | .str x, e => match e with | .Constant (.str y) _ _ => decide (x = y) | _ => false
  | .non, e => match e with | .Constant .none _ _ => true | _ => false
  | .var i, e => match e with | .Name x _ => Z.slot i x | _ => false
  | .mv i, e => match e with | .Name x _ => Z.slot i x | _ => false
  | .rd p, e => p.isP && mE Z p e
  | .bor i, e => match e with | .Name x _ => Z.slot i x | _ => false
  | .bidx p a, e => match e with | .Subscript b i _ => mE Z p b && mE Z a i | _ => false
  | .bin op a b, e => match e with | .BinOp x o y _ => decide (op = o) && mE Z a x && mE Z b y | _ => false
  | .neg a, e => match e with | .UnaryOp .USub x _ => mE Z a x | _ => false
  | .inv a, e => match e with | .UnaryOp .Invert x _ => mE Z a x | _ => false
  | .not a, e => match e with | .UnaryOp .Not x _ => mE Z a x | _ => false
  | .cmp op a b, e => match e with | .Compare x [o] [y] _ => decide (op = o) && mE Z a x && mE Z b y | _ => false
  | .chain p q a b c, e => match e with | .Compare x [o1, o2] [y, z] _ => decide (p = o1) && decide (q = o2) && mE Z a x && mE Z b y && mE Z c z | _ => false
  | .and a b, e => match e with | .BoolOp .And (x :: y :: r) p => b.isW && mE Z a x && mE Z b (.BoolOp .And (y :: r) p) | _ => false
  | .or a b, e => match e with | .BoolOp .Or (x :: y :: r) p => b.isW && mE Z a x && mE Z b (.BoolOp .Or (y :: r) p) | _ => false
  | .one a, e => match e with | .BoolOp _ [x] _ => mE Z a x | _ => false
  | .ite c a b, e => match e with | .IfExp t x y _ => mE Z c t && mE Z a x && mE Z b y | _ => false
  | .tup es, e => match e with | .Tuple xs _ _ => mL Z es xs | _ => false
  | .lst _ es, e => match e with | .List xs _ => mL Z es xs | _ => false
  | .idx b a, e => match e with | .Subscript x i _ => mE Z b x && mE Z a i | _ => false
  | .slice b lo hi, e => match e with | .Subscript x (.Slice l h none _) _ => mE Z b x && mO Z lo l && mO Z hi h | _ => false
  | .comp _ own tgt src cond elt, e => match e with
    | .ListComp y [⟨t, it, ifs, 0⟩] scope _ => blkC Z.N Z.sc scope own && !own.isEmpty && mI Z src it && tgOk src t && mG (Z.blk scope) (own.map (·.2)) tgt t && mC (Z.blk scope) cond ifs && mE (Z.blk scope) elt y
    | _ => false
  | .sortK i a b, e => match e with
    | .Call (.Name x _) [y] [⟨some kn, .Lambda ⟨[], [⟨p, none, _⟩], none, [], [], none, []⟩ lb scope _, _⟩] _ => decide (x = ("sorted" : Str)) && Z.glo x && decide (kn = ("key" : Str)) && Z.lamOk i p scope && mE Z a y && mE (Z.lam scope) b lb
    | _ => false
  | .sortR i a b, e => match e with
    | .Call (.Name x _) [.Call (.Name r _) [y] [] _] [⟨some kn, .Lambda ⟨[], [⟨p, none, _⟩], none, [], [], none, []⟩ lb scope _, _⟩] _ => decide (x = ("sorted" : Str)) && Z.glo x && decide (r = ("range" : Str)) && Z.glo r && decide (kn = ("key" : Str)) && Z.lamOk i p scope && mE Z a y && mE (Z.lam scope) b lb
    | _ => false
  | .pur a, e => !isComp e && mE Z a e
  | .bitl a, e => match e with | .Call (.Attribute o n ap) [] [] cp => decide (n = ("bit_length" : Str)) && (ap.endLine == cp.line) && mE Z a o | _ => false
  | .lenset a, e => match e with | .Call (.Name x _) [.Call (.Name y _) [z] [] _] [] _ => decide (x = ("len" : Str)) && Z.glo x && decide (y = ("set" : Str)) && Z.glo y && mE Z a z | _ => false
  | .varT i, e => match e with | .Name x _ => Z.slot i x | _ => false
  | .tupk a, e => match e with | .Call (.Name x _) [y] [] _ => decide (x = ("tuple" : Str)) && Z.glo x && mE Z a y | _ => false
  | .idxT p a, e => match e with | .Call (.Attribute o n ap) [y] [] cp => decide (n = ("index" : Str)) && (ap.endLine == cp.line) && mE Z p o && mE Z a y | _ => false
  | .dcomp own tgt src cond ky va, e => match e with
    | .DictComp y z [⟨t, it, ifs, 0⟩] scope _ => blkC Z.N Z.sc scope own && !own.isEmpty && mI Z src it && tgOk src t && mG (Z.blk scope) (own.map (·.2)) tgt t && mC (Z.blk scope) cond ifs && mE (Z.blk scope) ky y && mE (Z.blk scope) va z
    | _ => false
  | .gint x i, e => match e with | .Name y _ => decide (x = y) && Z.gis.contains (x, i) && Z.glo x && SC.plain x | _ => false
  | .isb a, e => match e with | .Call (.Name x _) [y, .Name z _] [] _ => decide (x = ("isinstance" : Str)) && Z.glo x && decide (z = ("bool" : Str)) && Z.glo z && mE Z a y | _ => false
  | .fld o f, e => match e with | .Attribute b g _ => decide (f = g) && Z.flds.contains f && mE Z o b | _ => false
  | .bfld p f, e => match e with | .Attribute b g _ => decide (f = g) && Z.flds.contains f && mE Z p b | _ => false
  | .meth c m j o es, e => match e with | .Call (.Attribute b g ap) xs [] cp => decide (m = g) && decide (Z.FN[j]? = some m) && decide (Z.KN[j]? = some (.me c)) && (ap.endLine == cp.line) && mE Z o b && mL Z es xs && decide (xs.length < 20) | _ => false
  | .make c j es, e => match e with | .Call (.Name x _) xs [] _ => decide (c = x) && decide (Z.KN[j]? = some (.mk c)) && Z.glo x && SC.plain x && mL Z es xs && !xs.isEmpty | _ => false
  | .prop c f j o, e => match e with | .Attribute b g _ => decide (f = g) && decide (Z.FN[j]? = some f) && decide (Z.KN[j]? = some (.pr c)) && mE Z o b | _ => false
  | .rev b, e => match e with | .Subscript x (.Slice none none (some (.UnaryOp .USub (.Constant (.int 1) _ _) _)) _) _ => mE Z b x | _ => false
  | .isT t a, e => match e with | .Call (.Name x _) [y, .Name z _] [] _ => decide (x = ("isinstance" : Str)) && Z.glo x && decide (z = (t.nm : Str)) && Z.glo z && mE Z a y | _ => false
  | .call j es, e => match e with | .Call (.Name x _) xs [] _ => decide (Z.KN[j]? = some .fn) && decide (Z.FN[j]? = some x) && Z.glo x && SC.plain x && mL Z es xs | _ => false
  | .b1 f a, e => match e with | .Call (.Name x _) [y] [] _ => decide (x = f.nm) && Z.glo x && mE Z a y | _ => false
  | .max2 a b, e => match e with | .Call (.Name x _) [y, z] [] _ => decide (x = ("max" : Str)) && Z.glo x && mE Z a y && mE Z b z | _ => false
  | .min2 a b, e => match e with | .Call (.Name x _) [y, z] [] _ => decide (x = ("min" : Str)) && Z.glo x && mE Z a y && mE Z b z | _ => false
  | .lrange a, e => match e with | .Call (.Name x _) [.Call (.Name y _) [z] [] _] [] _ => decide (x = ("list" : Str)) && Z.glo x && decide (y = ("range" : Str)) && Z.glo y && mE Z a z | _ => false
  | .app p a, e => match e with | .Call (.Attribute o n ap) [y] [] cp => decide (n = ("append" : Str)) && (ap.endLine == cp.line) && mE Z p o && mE Z a y | _ => false
  | .pop p, e => match e with | .Call (.Attribute o n ap) [] [] cp => decide (n = ("pop" : Str)) && (ap.endLine == cp.line) && mE Z p o | _ => false
  | .popAt p a, e => match e with | .Call (.Attribute o n ap) [y] [] cp => decide (n = ("pop" : Str)) && (ap.endLine == cp.line) && mE Z p o && mE Z a y | _ => false
  | .ext p a, e => match e with | .Call (.Attribute o n ap) [y] [] cp => decide (n = ("extend" : Str)) && (ap.endLine == cp.line) && mE Z p o && mE Z a y | _ => false
  | .index p a, e => match e with | .Call (.Attribute o n ap) [y] [] cp => decide (n = ("index" : Str)) && (ap.endLine == cp.line) && mE Z p o && mE Z a y | _ => false
  | _, _ => false
def mL (Z : SC) : C → List Expr → Bool
  | .nil, es => match es with | [] => true | _ => false
  | .cons a r, es => match es with | e :: s => mE Z a e && mL Z r s | _ => false
  | _, _ => false
def mO (Z : SC) : C → Option Expr → Bool
  | .nil, e => match e with | none => true | _ => false
  | .cons a r, e => match e with | some x => mE Z a x | _ => false
  | _, _ => false
def mC (Z : SC) : C → List Expr → Bool
  | .nil, es => match es with | [] => true | _ => false
  | .cons a r, es => match es with | [e] => mE Z a e | _ => false
  | _, _ => false
def mI (Z : SC) : C → Expr → Bool
  | .itr a, e => mE Z a e
  | .rng1 a, e => match e with | .Call (.Name x _) [y] [] _ => decide (x = ("range" : Str)) && Z.glo x && mE Z a y | _ => false
  | .rng2 a b, e => match e with | .Call (.Name x _) [y, z] [] _ => decide (x = ("range" : Str)) && Z.glo x && mE Z a y && mE Z b z | _ => false
  | .rng3 a b c, e => match e with | .Call (.Name x _) [y, z, w] [] _ => decide (x = ("range" : Str)) && Z.glo x && mE Z a y && mE Z b z && mE Z c w | _ => false
  | .enum a, e => match e with | .Call (.Name x _) [y] [] _ => decide (x = ("enumerate" : Str)) && Z.glo x && mE Z a y | _ => false
  | .zip a b, e => match e with | .Call (.Name x _) [y, z] [] _ => decide (x = ("zip" : Str)) && Z.glo x && mE Z a y && mE Z b z | _ => false
  | _, _ => false
/-- ow: the only slots that may be stored ([]: any) -/
def mG (Z : SC) (ow : List Nat) : C → Expr → Bool
  | .tn i, e => match e with | .Name x _ => Z.store i x && (ow.isEmpty || ow.contains i) | _ => false
  | .tt ts, e => match e with | .Tuple xs _ _ => mGs Z ow ts xs | _ => false
  | _, _ => false
def mGs (Z : SC) (ow : List Nat) : C → List Expr → Bool
  | .nil, es => match es with | [] => true | _ => false
  | .cons a r, es => match es with | e :: s => mG Z ow a e && mGs Z ow r s | _ => false
  | _, _ => false
end

/-! ### the logic, by values -/
structure FSpec where
  pm : List M
  rm : M
  run : List D → (D → List D → Prop) → Prop

def cst (a b : M) : Bool := match b with | .s => true | b => decide (a = b)
def Env.at (ρ : Env) (i : Nat) : Option (M × D) := (ρ[i]?).join

def D.flat : D → Bool
  | .non => true | .bl _ => true | .int _ => true | .str _ => true | _ => false
def D.toV : D → V
  | .non => .non | .bl b => .bl b | .int i => .int i | .str x => .str x | _ => .non
mutual
def D.toPy : D → PyData
  | .non => .none | .bl b => .bool b | .int i => .int i | .str x => .str x
  | .tup ds => .tuple (D.toPys ds) | .lst ds => .list (D.toPys ds)
  | .scr _ => .none | .dk _ _ => .none | .dt _ _ => .none | .obj _ _ _ => .none | .tupk _ => .none
def D.toPys : List D → List PyData
  | [] => []
  | d :: ds => d.toPy :: D.toPys ds
end
mutual
def D.isPy : D → Bool
  | .non => true | .bl b => true | .int i => true | .str x => true
  | .tup ds => D.arePy ds | .lst ds => D.arePy ds
  | .scr _ => false | .dk _ _ => false | .dt _ _ => false | .obj _ _ _ => false | .tupk _ => false
def D.arePy : List D → Bool
  | [] => true
  | d :: ds => d.isPy && D.arePy ds
end
def D.shp (d : D) : Prop := d.isPy = true ∧ SeqAt.shaped d.toPy = true

def cutD (xs : List D) (lo hi : Option Int) : List D := (xs.drop (HT.sIx xs.length 0 lo)).take (HT.sIx xs.length xs.length hi - HT.sIx xs.length 0 lo)

def binD (op : Operator) (x y : D) (k : M → D → Prop) : Prop :=
  match op, x, y with
  | .Add, .int i, .int j => k .s (.int (i + j))
  | .Sub, .int i, .int j => k .s (.int (i - j))
  | .Mult, .int i, .int j => CMul i j ∧ k .s (.int (i * j))
  | .FloorDiv, .int i, .int j => CDiv i j ∧ k .s (.int (i / j))
  | .Mod, .int i, .int j => 0 < j ∧ k .s (.int (i % j))
  | .Pow, .int i, .int j => CPow i j ∧ k .s (.int (i ^ j.toNat))
  | .LShift, .int i, .int j => CPow i j ∧ k .s (.int (i * 2 ^ j.toNat))
  | .RShift, .int i, .int j => 0 ≤ j ∧ k .s (.int (i / 2 ^ j.toNat))
  | .BitAnd, .int i, .int j => k .s (.int (Builtin.bitAnd i j))
  | .BitOr, .int i, .int j => k .s (.int (Builtin.bitOr i j))
  | .BitXor, .int i, .int j => k .s (.int (Builtin.bitXor i j))
  | .Add, .str i, .str j => i.length + j.length ≤ sizeLine ∧ k .s (.str (i ++ j))
  | .Add, .lst xs, .lst ys => xs.length + ys.length ≤ sizeLine ∧ k (.o .s) (.lst (xs ++ ys))
  | .Add, .tup xs, .tup ys => xs.length + ys.length ≤ sizeLine ∧ k .s (.tup (xs ++ ys))
  | .Mult, .lst xs, .int n => -(2 ^ 63) ≤ n ∧ n < 2 ^ 63 ∧ xs.length * n.toNat ≤ sizeLine ∧ k (.o .s) (.lst (List.replicate n.toNat xs).flatten)
  | _, _, _ => False

def eqD (x y : D) (k : Bool → Prop) : Prop :=
  match x, y with
  | .int i, .int j => k (decide (i = j))
  | .str i, .str j => k (decide (i = j))
  | .bl i, .bl j => k (decide (i = j))
  | x, y => x.shp ∧ y.shp ∧ k (PyData.eqv x.toPy y.toPy)

def isN : D → Bool
  | .non => true
  | _ => false

def inD (x y : D) (k : Bool → Prop) : Prop :=
  match y with
  | .lst ys => if x.flat && ys.all D.flat then k (inV x.toV (ys.map D.toV)) else x.shp ∧ (D.lst ys).shp ∧ k ((D.toPys ys).any fun z => PyData.eqv z x.toPy)
  | .tup ys => x.flat = true ∧ ys.all D.flat = true ∧ k (inV x.toV (ys.map D.toV))
  | _ => False

def cmpD (op : CmpOp) (x y : D) (k : Bool → Prop) : Prop :=
  match op with
  | .Eq => eqD x y k
  | .NotEq => eqD x y fun b => k (!b)
  | .Lt => match x, y with | .int i, .int j => k (decide (i < j)) | _, _ => False
  | .LtE => match x, y with | .int i, .int j => k (decide (i ≤ j)) | _, _ => False
  | .Gt => match x, y with | .int i, .int j => k (decide (j < i)) | _, _ => False
  | .GtE => match x, y with | .int i, .int j => k (decide (j ≤ i)) | _, _ => False
  | .Is => match y with | .non => k (isN x) | .bl b => (match x with | .bl a => k (decide (a = b)) | _ => False) | _ => False
  | .IsNot => match y with | .non => k (!isN x) | .bl b => (match x with | .bl a => k (!decide (a = b)) | _ => False) | _ => False
  | .In => inD x y k
  | .NotIn => inD x y fun b => k (!b)

def truD (x : D) (k : Bool → Prop) : Prop :=
  match x with
  | .non => k false
  | .bl b => k b
  | .int i => k (i != 0)
  | .str y => y.length ≤ sizeLine ∧ k ((y.length : Int) != 0)
  | .lst xs => k (!xs.isEmpty)
  | .tup xs => k (!xs.isEmpty)
  | _ => False

/-- a dict's keys and what it holds at one -/
def keyD : D → Option Key
  | .int i => some (.inl i)
  | .str x => some (.inr x)
  | _ => none
def dAt {β : Type} : List Key → List β → Key → Option β
  | k :: ks, d :: ds, key => if k = key then some d else dAt ks ds key
  | _, _, _ => none
def itemD (x j : D) (k : D → Prop) : Prop :=
  match x, j with
  | .lst xs, .int i => ∃ d, atI xs i = some d ∧ k d
  | .tup xs, .int i => ∃ d, atI xs i = some d ∧ k d
  | .scr ns, .int i => ∃ n, atI ns i = some n ∧ k (.int n)
  | .str z, .int i => z.length ≤ sizeLine ∧ ∃ c, atI z.cps.toList i = some c ∧ k (.str ⟨#[c]⟩)
  | .dk ks ds, j => ∃ key d, keyD j = some key ∧ dAt ks ds key = some d ∧ k d
  | _, _ => False

/-- an item of what a path leads to, and how another is put there -/
def itemB (m : M) (x j : D) (k : M → D → (D → D) → Prop) : Prop :=
  match m, x, j with
  | .o m', .lst xs, .int i => ∃ n d, ixN xs.length i = some n ∧ xs[n]? = some d ∧ k m' d fun d' => .lst (xs.set n d')
  | .s, x, j => itemD x j fun d => k .s d fun _ => x
  | _, _, _ => False

/-- a field of what a path leads to -/
def mAt : M → Nat → Option M
  | .fcons m _, 0 => some m
  | .fcons _ ms, i + 1 => mAt ms i
  | _, _ => none
def mSnoc : M → M → M
  | .fcons a ms, m => .fcons a (mSnoc ms m)
  | _, m => .fcons m .fnil
def fldD (x : D) (f : Str) (k : D → Prop) : Prop := match x with
  | .obj _ ns vs => ∃ d, ns.idxOf f < ns.length ∧ vs[ns.idxOf f]? = some d ∧ k d
  | _ => False
def fldB (m : M) (x : D) (f : Str) (k : M → D → (D → D) → Prop) : Prop :=
  match m, x with
  | .ins _ ns ms, .obj c ns' vs => ∃ m' d, ns.idxOf f < ns.length ∧ mAt ms (ns.idxOf f) = some m' ∧ vs[ns.idxOf f]? = some d ∧ k m' d fun d' => .obj c ns' (vs.set (ns.idxOf f) d')
  | .s, x => fldD x f fun d => k .s d fun _ => x
  | _, _ => False
def isBl : D → Bool
  | .bl _ => true
  | _ => false
def isTy : Ty5 → D → Bool
  | .bool, .bl _ => true | .int, .int _ => true | .int, .bl _ => true | .list, .lst _ => true | .tuple, .tup _ => true | .str, .str _ => true
  | _, _ => false
def D.common : D → Bool
  | .scr _ => false | .dk _ _ => false | .dt _ _ => false | .obj _ _ _ => false | .tupk _ => false | _ => true
/-- what repr can show -/
def showD (x : D) : Prop := x.isPy = true ∧ x.toPy.showable = true ∧ x.toPy.depth ≤ 64 ∧ x.toPy.shown.length ≤ sizeLine
def b1D (f : B1) (m : M) (x : D) (k : M → D → Prop) : Prop :=
  match f, x with
  | .len, .lst xs => k .s (.int xs.length)
  | .len, .tup xs => k .s (.int xs.length)
  | .len, .scr xs => k .s (.int xs.length)
  | .len, .str x => x.length ≤ sizeLine ∧ k .s (.int x.length)
  | .int, .int i => k .s (.int i)
  | .int, .bl b => k .s (.int (if b then 1 else 0))
  | .abs, .int i => k .s (.int (if i < 0 then -i else i))
  | .sum, .lst xs => ∃ ns : List Int, xs = ns.map D.int ∧ k .s (.int ns.sum)
  | .any, .lst xs => ∃ bs : List Bool, xs = bs.map D.bl ∧ k .s (.bl (bs.any id))
  | .all, .lst xs => ∃ bs : List Bool, xs = bs.map D.bl ∧ k .s (.bl (bs.all id))
  | .max, .lst xs => ∃ ns : List Int, xs = ns.map D.int ∧ 0 < ns.length ∧ ∀ n, n ∈ ns → (∀ y, y ∈ ns → y ≤ n) → k .s (.int n)
  | .min, .lst xs => ∃ ns : List Int, xs = ns.map D.int ∧ 0 < ns.length ∧ ∀ n, n ∈ ns → (∀ y, y ∈ ns → n ≤ y) → k .s (.int n)
  | .sorted, .lst xs => ∃ ns : List Int, xs = ns.map D.int ∧ ∀ ns' : List Int, ns'.Perm ns → ns'.Pairwise (· ≤ ·) → k (.o .s) (.lst (ns'.map D.int))
  | .list, .lst xs => (m = .s ∨ m = .o .s) ∧ k (.o .s) (.lst xs)
  | .list, .tup xs => k (.o .s) (.lst xs)
  | .tuple, .lst xs => (m = .s ∨ m = .o .s) ∧ k .s (.tup xs)
  | .tuple, .tup xs => k .s (.tup xs)
  | .str, .int i => i.natAbs.log2 < 1920 ∧ k .s (.str (toString i))
  | .repr, x => showD x ∧ k .s (.str x.toPy.shown)
  | _, _ => False

def sliceD (m : M) (x : D) (lo hi : Option Int) (k : M → D → Prop) : Prop :=
  match x with
  | .lst xs => (m = .s ∨ m = .o .s) ∧ k (.o .s) (.lst (cutD xs lo hi))
  | .tup xs => k .s (.tup (cutD xs lo hi))
  | _ => False

/-- list.index of flat items -/
def indexD (x y : D) (k : Int → Prop) : Prop :=
  match x with
  | .lst ys => y.flat = true ∧ ys.all D.flat = true ∧ ∃ (j : Nat) (z : D), ys[j]? = some z ∧ eqV z.toV y.toV = true ∧ (∀ (m : Nat) (z' : D), m < j → ys[m]? = some z' → eqV z'.toV y.toV = false) ∧ k j
  | _ => False

def C.root : C → Nat
  | .bor i => i | .bidx p _ => p.root | .bfld p _ => p.root | _ => 0
def C.len : C → Nat
  | .cons _ r => r.len + 1
  | _ => 0
def C.isBor : C → Bool
  | .bor _ => true | _ => false
def rangeD (lo c : Int) (n : Nat) : List D := (List.range n).map fun i => .int (lo + (i : Nat) * c)
def enumD (xs : List D) : List D := (List.range xs.length).map fun i => .tup [.int (i : Nat), xs.getD i .non]
def zipD (xs ys : List D) : List D := (xs.zip ys).map fun p => .tup [p.1, p.2]
def wipeE (ρ : Env) : List Nat → Env
  | [] => ρ
  | v :: vs => (wipeE ρ vs).set v none
def backE (ρ ρ0 : Env) : List Nat → Env
  | [] => ρ
  | v :: vs => (backE ρ ρ0 vs).set v (ρ0.at v)

/-- every slot shared -/
def shrE (ρ : Env) : Env := ρ.map fun o => o.map fun p => (M.s, p.2)
/-- what the keys must be so that they sort -/
def srtD (xs : List D) (key : D → PyData) : Prop := PySem.W.AllAlike (xs.map key) ∧ PySem.W.Sortable (xs.map key) ∧ (∀ x ∈ xs, (key x).depth ≤ 20) ∧ xs.length ≤ sizeLine
structure Post where
  nx : Env → Prop
  rt : M → D → Env → Prop
  bk : Env → Prop := fun _ => False
  ct : Env → Prop := fun _ => False

section
variable (T : List FSpec) (pn : List Nat)
/-- the results of a call put back -/
def upd1 (ρ : Env) : List (Option Nat) → List M → List D → Env
  | some i :: rs, m :: ms, d :: ds => (upd1 ρ rs ms ds).set i (some (m, d))
  | none :: rs, _ :: ms, _ :: ds => upd1 ρ rs ms ds
  | _, _, _ => ρ
def opI (x : D) (k : Option Int → Prop) : Prop := match x with
  | .int i => k (some i)
  | _ => False
mutual
def wE : C → (M → D → Env → Prop) → Env → Prop
  | .int i, R, ρ => R .s (.int i) ρ
  | .bl b, R, ρ => R .s (.bl b) ρ
  | .str x, R, ρ => R .s (.str x) ρ
  | .non, R, ρ => R .s .non ρ
  | .var i, R, ρ => match ρ.at i with | some (.s, d) => R .s d ρ | _ => False
  | .mv i, R, ρ => match ρ.at i with | some (m, d) => R m d (ρ.set i none) | _ => False
  | .rd p, R, ρ => wB p (fun m d _ ρ' => match m with | .s => R .s d ρ' | _ => False) ρ
  | .bin op a b, R, ρ => wE a (fun _ x ρ1 => wE b (fun _ y ρ2 => binD op x y fun m d => R m d ρ2) ρ1) ρ
  | .neg a, R, ρ => wE a (fun _ x ρ1 => match x with | .int i => R .s (.int (-i)) ρ1 | _ => False) ρ
  | .inv a, R, ρ => wE a (fun _ x ρ1 => match x with | .int i => R .s (.int (Builtin.bitNot i)) ρ1 | _ => False) ρ
  | .not a, R, ρ => wE a (fun _ x ρ1 => match x with | .bl b => R .s (.bl (!b)) ρ1 | _ => False) ρ
  | .cmp op a b, R, ρ => wE a (fun _ x ρ1 => match b.isP with
      | true => wB b (fun _ y _ ρ2 => cmpD op x y fun c => R .s (.bl c) ρ2) ρ1
      | false => wE b (fun _ y ρ2 => cmpD op x y fun c => R .s (.bl c) ρ2) ρ1) ρ
  | .chain p q a b c, R, ρ => wE a (fun _ x ρ1 => wE b (fun _ y ρ2 => cmpD p x y fun k => if k = true then wE c (fun _ z ρ3 => cmpD q y z fun k' => R .s (.bl k') ρ3) ρ2 else R .s (.bl false) ρ2) ρ1) ρ
  | .and a b, R, ρ => wE a (fun _ x ρ1 => match x with | .bl k => if k = true then wE b R ρ1 else R .s (.bl false) ρ1 | _ => False) ρ
  | .or a b, R, ρ => wE a (fun _ x ρ1 => match x with | .bl k => if k = true then R .s (.bl true) ρ1 else wE b R ρ1 | _ => False) ρ
  | .one a, R, ρ => wE a R ρ
  | .ite c a b, R, ρ => wT c (fun k ρ1 => if k = true then wE a R ρ1 else wE b R ρ1) ρ
  | .tup es, R, ρ => wL .s es (fun ds ρ1 => ds.length ≤ sizeLine ∧ R .s (.tup ds) ρ1) ρ
  | .lst m es, R, ρ => wL m es (fun ds ρ1 => ds.length ≤ sizeLine ∧ R (.o m) (.lst ds) ρ1) ρ
  | .idx b e, R, ρ => wE b (fun _ x ρ1 => wE e (fun _ j ρ2 => itemD x j fun d => R .s d ρ2) ρ1) ρ
  | .slice b lo hi, R, ρ => match b.isBor with
    | true => (ρ.at b.root).isSome = true ∧ wP lo (fun l ρ1 => wP hi (fun h ρ2 => match ρ2.at b.root with | some (m, x) => sliceD m x l h fun m' d => R m' d ρ2 | _ => False) ρ1) ρ
    | false => wE b (fun _ x ρ1 => wP lo (fun l ρ2 => wP hi (fun h ρ3 => sliceD .s x l h fun m' d => R m' d ρ3) ρ2) ρ1) ρ
  | .comp m own tgt src cond elt, R, ρ => wI src (fun items ρ1 => (∀ v ∈ own.map (·.2), v ∉ pn) ∧ ∃ Inv : Nat → List D → Env → Prop, Inv 0 [] (wipeE ρ1 (own.map (·.2))) ∧
      (∀ k x acc ρ2, items[k]? = some x → Inv k acc (wipeE ρ2 (own.map (·.2))) → wG tgt x (fun ρ3 => wC cond (fun b ρ4 => if b = true then wE elt (fun m' d ρ5 => cst m' m = true ∧ acc.length < sizeLine ∧ Inv (k + 1) (acc ++ [d]) (wipeE ρ5 (own.map (·.2)))) ρ4 else Inv (k + 1) acc (wipeE ρ4 (own.map (·.2)))) ρ3) (wipeE ρ2 (own.map (·.2)))) ∧
      ∀ acc ρ2, Inv items.length acc (wipeE ρ2 (own.map (·.2))) → R (.o m) (.lst acc) (backE ρ2 ρ1 (own.map (·.2)))) ρ
  | .sortK i a b, R, ρ => wE a (fun _ x ρ1 => match x with
      | .lst xs => i ∉ pn ∧ ∃ key : D → PyData, srtD xs key ∧ (∀ x ∈ xs, wE b (fun _ d ρ3 => d.isPy = true ∧ d.toPy = key x ∧ ρ3.set i none = ρ1.set i none) (ρ1.set i (some (.s, x)))) ∧ R (.o .s) (.lst (xs.mergeSort (PySem.W.dataLe false key))) ρ1
      | _ => False) ρ
  | .sortR i a b, R, ρ => wE a (fun _ x ρ1 => match x with
      | .int n => 0 ≤ n ∧ n ≤ 16777216 ∧ i ∉ pn ∧ ∃ key : D → PyData, srtD (rangeD 0 1 n.toNat) key ∧ (∀ x ∈ rangeD 0 1 n.toNat, wE b (fun _ d ρ3 => d.isPy = true ∧ d.toPy = key x ∧ ρ3.set i none = ρ1.set i none) (ρ1.set i (some (.s, x)))) ∧ R (.o .s) (.lst ((rangeD 0 1 n.toNat).mergeSort (PySem.W.dataLe false key))) ρ1
      | _ => False) ρ
  | .pur a, R, ρ => wE a (fun _ x _ => x.flat = true ∧ R .s x ρ) (shrE ρ)
  | .bitl a, R, ρ => wE a (fun _ x ρ1 => match x with | .int i => R .s (.int (Builtin.Int.intBits i : Nat)) ρ1 | _ => False) ρ
  | .lenset a, R, ρ => wE a (fun _ x ρ1 => ∃ ns : List Int, x = .tup (ns.map D.int) ∧ ns.length < 4000 ∧ ns.Nodup ∧ R .s (.int ns.length) ρ1) ρ
  | .varT i, R, ρ => match ρ.at i with | some (.s, .tupk xs) => R .s (.tup xs) ρ | _ => False
  | .tupk a, R, ρ => match a.isP with
    | true => wB a (fun m x _ ρ1 => match x with | .lst xs => (m = .s ∨ m = .o .s) ∧ R .s (.tupk xs) ρ1 | _ => False) ρ
    | false => wE a (fun _ x ρ1 => match x with | .lst xs => R .s (.tupk xs) ρ1 | _ => False) ρ
  | .idxT o e, R, ρ => wE o (fun _ x ρ1 => match x with
      | .tupk xs => wE e (fun _ y ρ2 => ∃ (ns : List Int) (k : Int), xs = ns.map D.int ∧ y = .int k ∧ k ∈ ns ∧ R .s (.int (ns.idxOf k : Nat)) ρ2) ρ1
      | _ => False) ρ
  | .dcomp own tgt src cond ky va, R, ρ => wI src (fun items ρ1 => (∀ v ∈ own.map (·.2), v ∉ pn) ∧ ∃ Inv : Nat → List Key → List D → Env → Prop, Inv 0 [] [] (wipeE ρ1 (own.map (·.2))) ∧
      (∀ k x ks ds ρ2, items[k]? = some x → Inv k ks ds (wipeE ρ2 (own.map (·.2))) → wG tgt x (fun ρ3 => wC cond (fun b ρ4 => if b = true then wE ky (fun _ kd ρ5 => wE va (fun _ d ρ6 => ∃ key, keyD kd = some key ∧ key ∉ ks ∧ ks.length < sizeLine ∧ Inv (k + 1) (ks ++ [key]) (ds ++ [d]) (wipeE ρ6 (own.map (·.2)))) ρ5) ρ4 else Inv (k + 1) ks ds (wipeE ρ4 (own.map (·.2)))) ρ3) (wipeE ρ2 (own.map (·.2)))) ∧
      ∀ ks ds ρ2, Inv items.length ks ds (wipeE ρ2 (own.map (·.2))) → R .dk (.dk ks ds) (backE ρ2 ρ1 (own.map (·.2)))) ρ
  | .call j es, R, ρ => match T[j]? with
    | some sp => wA sp.pm es (fun ds rs ρ1 => sp.run ds fun d ds' => R sp.rm d (upd1 ρ1 rs sp.pm ds')) ρ
    | none => False
  | .gint _ i, R, ρ => R .s (.int i) ρ
  | .isb a, R, ρ => wE a (fun _ x ρ1 => x.flat = true ∧ R .s (.bl (isBl x)) ρ1) ρ
  | .fld o f, R, ρ => wE o (fun _ x ρ1 => fldD x f fun d => R .s d ρ1) ρ
  | .meth c m j o es, R, ρ => match T[j]? with
    | some sp => (match sp.pm with
      | .s :: ms => wE o (fun _ x ρ1 => match x with
        | .obj c' ns vs => c' = c ∧ m ∉ ns ∧ wA ms es (fun ds rs ρ2 => sp.run (.obj c' ns vs :: ds) fun d ds' => R sp.rm d (upd1 ρ2 (none :: rs) sp.pm ds')) ρ1
        | _ => False) ρ
      | _ => False)
    | none => False
  | .prop c f j o, R, ρ => match T[j]? with
    | some sp => (match sp.pm with
      | [.s] => wE o (fun _ x ρ1 => match x with
        | .obj c' ns vs => c' = c ∧ sp.run [.obj c' ns vs] fun d ds' => R sp.rm d (upd1 ρ1 [none] sp.pm ds')
        | _ => False) ρ
      | _ => False)
    | none => False
  | .rev b, R, ρ => match b.isP with
    | true => wB b (fun m x _ ρ1 => match x with | .lst xs => (m = .s ∨ m = .o .s) ∧ R (.o .s) (.lst xs.reverse) ρ1 | _ => False) ρ
    | false => wE b (fun m x ρ1 => match x with | .lst xs => R (.o .s) (.lst xs.reverse) ρ1 | .tup xs => R .s (.tup xs.reverse) ρ1 | _ => False) ρ
  | .isT t a, R, ρ => match a.isP with
    | true => wB a (fun _ x _ ρ1 => x.common = true ∧ R .s (.bl (isTy t x)) ρ1) ρ
    | false => wE a (fun _ x ρ1 => x.common = true ∧ R .s (.bl (isTy t x)) ρ1) ρ
  | .make _ j es, R, ρ => match T[j]? with
    | some sp => wA sp.pm es (fun ds rs ρ1 => sp.run ds fun d ds' => R sp.rm d (upd1 ρ1 rs sp.pm ds')) ρ
    | none => False
  | .b1 f a, R, ρ => match a.isP with
      | true => wB a (fun m x _ ρ1 => b1D f m x fun m' d => R m' d ρ1) ρ
      | false => wE a (fun _ x ρ1 => b1D f .s x fun m' d => R m' d ρ1) ρ
  | .max2 a b, R, ρ => wE a (fun _ x ρ1 => wE b (fun _ y ρ2 => match x, y with | .int i, .int j => R .s (.int (if j > i then j else i)) ρ2 | _, _ => False) ρ1) ρ
  | .min2 a b, R, ρ => wE a (fun _ x ρ1 => wE b (fun _ y ρ2 => match x, y with | .int i, .int j => R .s (.int (if j < i then j else i)) ρ2 | _, _ => False) ρ1) ρ
  | .lrange a, R, ρ => wE a (fun _ x ρ1 => match x with | .int i => 0 ≤ i ∧ i ≤ 16777216 ∧ R (.o .s) (.lst (rangeD 0 1 i.toNat)) ρ1 | _ => False) ρ
  | .app p e, R, ρ => wB p (fun m x put ρ1 => match m, x with
      | .o m', .lst xs => xs.length < sizeLine ∧ (if p.isBor = true then
            wE e (fun me y ρ2 => match ρ2.at p.root with
              | some (.o m2, .lst xs2) => xs2.length < sizeLine ∧ cst me m2 = true ∧ R .s .non (ρ2.set p.root (some (.o m2, .lst (xs2 ++ [y]))))
              | _ => False) ρ1
          else wE e (fun me y ρ2 => cst me m' = true ∧ ∃ mr dr, ρ1.at p.root = some (mr, dr) ∧ R .s .non (ρ2.set p.root (some (mr, put (.lst (xs ++ [y])))))) (ρ1.set p.root none))
      | _, _ => False) ρ
  | .pop p, R, ρ => wB p (fun m x put ρ1 => match m, x with
      | .o m', .lst xs => ∃ y, xs[xs.length - 1]? = some y ∧ ∃ mr dr, ρ1.at p.root = some (mr, dr) ∧ R m' y (ρ1.set p.root (some (mr, put (.lst xs.dropLast))))
      | _, _ => False) ρ
  | .popAt p e, R, ρ => match p.isBor with
    | true => (ρ.at p.root).isSome = true ∧ (match ρ.at p.root with | some (.o _, _) => True | _ => False) ∧ wE e (fun _ j ρ2 => match ρ2.at p.root, j with
        | some (.o .s, .lst xs), .int i => -(2 ^ 63) ≤ i ∧ i < 2 ^ 63 ∧ ∃ k y, seqIndex? i xs.length = some k ∧ xs[k]? = some y ∧ R .s y (ρ2.set p.root (some (.o .s, .lst (xs.eraseIdx k))))
        | _, _ => False) ρ
    | false => False
  | .ext p e, R, ρ => match p.isBor with
    | true => (ρ.at p.root).isSome = true ∧ (match ρ.at p.root with | some (.o _, _) => True | _ => False) ∧ wE e (fun _ y ρ2 => match ρ2.at p.root, y with
        | some (.o .s, .lst xs), .lst ys => xs.length + ys.length ≤ sizeLine ∧ R .s .non (ρ2.set p.root (some (.o .s, .lst (xs ++ ys))))
        | _, _ => False) ρ
    | false => False
  | .index o e, R, ρ => match o.isBor with
    | true => (ρ.at o.root).isSome = true ∧ (match ρ.at o.root with | some (.o _, _) => True | some (.s, .lst _) => True | _ => False) ∧ wE e (fun _ y ρ2 => match ρ2.at o.root with | some (_, x) => indexD x y fun j => R .s (.int j) ρ2 | _ => False) ρ
    | false => wE o (fun _ x ρ1 => (match x with | .lst _ => True | _ => False) ∧ wE e (fun _ y ρ2 => indexD x y fun j => R .s (.int j) ρ2) ρ1) ρ
  | _, _, _ => False
/-- a path that is read or changed: its mode, its value, how another value is put there -/
def wB : C → (M → D → (D → D) → Env → Prop) → Env → Prop
  | .bor i, R, ρ => match ρ.at i with | some (m, d) => R m d id ρ | _ => False
  | .bidx p e, R, ρ => match p.isBor with
    | true => (ρ.at p.root).isSome = true ∧ wE e (fun _ j ρ2 => match ρ2.at p.root with | some (m, x) => itemB m x j fun m' d put => R m' d put ρ2 | _ => False) ρ
    | false => wB p (fun m x put ρ1 => ∃ mr dr, ρ1.at p.root = some (mr, dr) ∧ wE e (fun _ j ρ2 => itemB m x j fun m' d put' => R m' d (fun z => put (put' z)) (ρ2.set p.root (some (mr, dr)))) (ρ1.set p.root none)) ρ
  | .bfld p f, R, ρ => wB p (fun m x put ρ1 => fldB m x f fun m' d put' => R m' d (fun z => put (put' z)) ρ1) ρ
  | _, _, _ => False
/-- a bound of a slice -/
def wP : C → (Option Int → Env → Prop) → Env → Prop
  | .cons a _, R, ρ => wE a (fun _ x ρ1 => opI x fun i => R i ρ1) ρ
  | .nil, R, ρ => R none ρ
  | _, _, _ => False
/-- a display's items, each held as m -/
def wL (m : M) : C → (List D → Env → Prop) → Env → Prop
  | .nil, R, ρ => R [] ρ
  | .cons a r, R, ρ => wE a (fun m' d ρ1 => cst m' m = true ∧ wL m r (fun ds ρ2 => R (d :: ds) ρ2) ρ1) ρ
  | _, _, _ => False
/-- a call's arguments by the parameters' modes; an own slot is handed on as it is -/
def wA : List M → C → (List D → List (Option Nat) → Env → Prop) → Env → Prop
  | [], .nil, R, ρ => R [] [] ρ
  | m :: ms, .cons a r, R, ρ => match a.isBor with
    | true => (ρ.at a.root).isSome = true ∧ wA ms r (fun ds rs ρ2 => match ρ2.at a.root with | some (m', d) => m' = m ∧ m ≠ .s ∧ some a.root ∉ rs ∧ R (d :: ds) (some a.root :: rs) ρ2 | _ => False) ρ
    | false => wE a (fun m' d ρ1 => cst m' m = true ∧ wA ms r (fun ds rs ρ2 => R (d :: ds) (none :: rs) ρ2) ρ1) ρ
  | _, _, _, _ => False
def wT : C → (Bool → Env → Prop) → Env → Prop
  | .and a b, Q, ρ => wT a (fun k ρ1 => if k = true then wT b Q ρ1 else Q false ρ1) ρ
  | .or a b, Q, ρ => wT a (fun k ρ1 => if k = true then Q true ρ1 else wT b Q ρ1) ρ
  | .one a, Q, ρ => wT a Q ρ
  | .not a, Q, ρ => wT a (fun k ρ1 => Q (!k) ρ1) ρ
  | .cmp op a b, Q, ρ => wE a (fun _ x ρ1 => match b.isP with
      | true => wB b (fun _ y _ ρ2 => cmpD op x y fun c => Q c ρ2) ρ1
      | false => wE b (fun _ y ρ2 => cmpD op x y fun c => Q c ρ2) ρ1) ρ
  | .chain p q a b c, Q, ρ => wE a (fun _ x ρ1 => wE b (fun _ y ρ2 => cmpD p x y fun k => if k = true then wE c (fun _ z ρ3 => cmpD q y z fun k' => Q k' ρ3) ρ2 else Q false ρ2) ρ1) ρ
  | .var i, Q, ρ => match ρ.at i with | some (.s, x) => truD x fun k => Q k ρ | _ => False
  | .bin op a b, Q, ρ => wE a (fun _ x ρ1 => wE b (fun _ y ρ2 => binD op x y fun _ d => truD d fun k => Q k ρ2) ρ1) ρ
  | .rd p, Q, ρ => wB p (fun m x _ ρ' => match m with | .s => truD x fun k => Q k ρ' | _ => False) ρ
  | .idx b e, Q, ρ => wE b (fun _ x ρ1 => wE e (fun _ j ρ2 => itemD x j fun d => truD d fun k => Q k ρ2) ρ1) ρ
  | .call j es, Q, ρ => match T[j]? with
    | some sp => wA sp.pm es (fun ds rs ρ1 => sp.run ds fun d ds' => truD d fun k => Q k (upd1 ρ1 rs sp.pm ds')) ρ
    | none => False
  | .meth c m j o es, Q, ρ => match T[j]? with
    | some sp => (match sp.pm with
      | .s :: ms => wE o (fun _ x ρ1 => match x with
        | .obj c' ns vs => c' = c ∧ m ∉ ns ∧ wA ms es (fun ds rs ρ2 => sp.run (.obj c' ns vs :: ds) fun d ds' => truD d fun k => Q k (upd1 ρ2 (none :: rs) sp.pm ds')) ρ1
        | _ => False) ρ
      | _ => False)
    | none => False
  | .isb a, Q, ρ => wE a (fun _ x ρ1 => x.flat = true ∧ Q (isBl x) ρ1) ρ
  | .pur a, Q, ρ => wT a (fun k _ => Q k ρ) (shrE ρ)
  | .isT t a, Q, ρ => match a.isP with
    | true => wB a (fun _ x _ ρ1 => x.common = true ∧ Q (isTy t x) ρ1) ρ
    | false => wE a (fun _ x ρ1 => x.common = true ∧ Q (isTy t x) ρ1) ρ
  | .b1 f a, Q, ρ => match a.isP with
      | true => wB a (fun m x _ ρ1 => b1D f m x fun _ d => truD d fun k => Q k ρ1) ρ
      | false => wE a (fun _ x ρ1 => b1D f .s x fun _ d => truD d fun k => Q k ρ1) ρ
  | _, _, _ => False
/-- a comprehension's test -/
def wC : C → (Bool → Env → Prop) → Env → Prop
  | .nil, Q, ρ => Q true ρ
  | .cons a _, Q, ρ => wT a Q ρ
  | _, _, _ => False
/-- what a loop walks: its items -/
def wI : C → (List D → Env → Prop) → Env → Prop
  | .itr e, R, ρ => wE e (fun _ x ρ1 => match x with | .lst xs => R xs ρ1 | .tup xs => R xs ρ1 | _ => False) ρ
  | .rng1 a, R, ρ => wE a (fun _ x ρ1 => match x with | .int j => -(2 ^ 62) ≤ j ∧ j < 2 ^ 62 ∧ R (rangeD 0 1 j.toNat) ρ1 | _ => False) ρ
  | .rng2 a b, R, ρ => wE a (fun _ x ρ1 => wE b (fun _ y ρ2 => match x, y with | .int i, .int j => (-(2 ^ 62) ≤ i ∧ i < 2 ^ 62 ∧ -(2 ^ 62) ≤ j ∧ j < 2 ^ 62) ∧ R (rangeD i 1 (j - i).toNat) ρ2 | _, _ => False) ρ1) ρ
  | .rng3 a b c, R, ρ => wE a (fun _ x ρ1 => wE b (fun _ y ρ2 => wE c (fun _ z ρ3 => match x, y, z with | .int i, .int j, .int k => ∃ n, RgC i j k n ∧ R (rangeD i k n) ρ3 | _, _, _ => False) ρ2) ρ1) ρ
  | .enum e, R, ρ => wE e (fun _ x ρ1 => match x with | .lst xs => R (enumD xs) ρ1 | .tup xs => R (enumD xs) ρ1 | _ => False) ρ
  | .zip a b, R, ρ => wE a (fun _ x ρ1 => wE b (fun _ y ρ2 => match x, y with | .lst xs, .lst ys => R (zipD xs ys) ρ2 | _, _ => False) ρ1) ρ
  | _, _, _ => False
/-- an item given to a target -/
def wG : C → D → (Env → Prop) → Env → Prop
  | .tn i, d, R, ρ => i ∉ pn ∧ R (ρ.set i (some (.s, d)))
  | .tt ts, d, R, ρ => match d with | .tup ds => ds.length = ts.len ∧ wGs ts ds R ρ | _ => False
  | _, _, _, _ => False
def wGs : C → List D → (Env → Prop) → Env → Prop
  | .nil, ds, R, ρ => ds = [] ∧ R ρ
  | .cons t r, ds, R, ρ => match ds with | d :: ds' => wG t d (fun ρ1 => wGs r ds' R ρ1) ρ | [] => False
  | _, _, _, _ => False
end
end
end Y
namespace Y
open PySem PySem.Spec PyProof.Rows L2

/-- from one state to a later one: what may be changed is P; P' is what may be changed then -/
structure Tr (P : Pm) (S H S' H' : Hp) (P' : Pm) : Prop where
  ss : Same S S'
  keep : ∀ a o, H a = some o → ¬ P a → H' a = some o
  news : ∀ a, S' a ≠ none → S a ≠ none ∨ H a = none ∨ P a
  newp : ∀ a, P' a → H a = none ∨ P a
  there : ∀ a, H a ≠ none → H' a ≠ none
  code : ∀ a q, H a = some (LamX.CodeO a q) → H' a = some (LamX.CodeO a q)

/-- code objects stay -/
def CodeK (H H' : Hp) : Prop := ∀ a q, H a = some (LamX.CodeO a q) → H' a = some (LamX.CodeO a q)
theorem CodeK.upd {H : Hp} {b : Addr} {o o' : HO} (h : H b = some o) (n : ∀ a q, o ≠ LamX.CodeO a q) : CodeK H (L2.upd H b o') := fun a q e => by
  rw [upd_ne fun z => n a q (Option.some.inj (h.symm.trans (by rw [← z]; exact e)))]
  exact e
theorem CodeK.updL {H : Hp} {b : Addr} {vs : List V} {o' : HO} (h : H b = some (.lst vs)) : CodeK H (L2.upd H b o') := CodeK.upd h fun a q z => by unfold LamX.CodeO at z; cases z
theorem CodeK.updI {H : Hp} {b C dx : Addr} {vs : List (Str × V)} {o' : HO} (h : H b = some (.ins C dx vs)) : CodeK H (L2.upd H b o') := CodeK.upd h fun a q z => by unfold LamX.CodeO at z; cases z
theorem CodeK.updDK {H : Hp} {b : Addr} {vs : List (Key × V)} {o' : HO} (h : H b = some (.dK vs)) : CodeK H (L2.upd H b o') := CodeK.upd h fun a q z => by unfold LamX.CodeO at z; cases z
theorem CodeK.updDT {H : Hp} {b : Addr} {vs : List (List Key × V)} {o' : HO} (h : H b = some (.dT vs)) : CodeK H (L2.upd H b o') := CodeK.upd h fun a q z => by unfold LamX.CodeO at z; cases z

def Pt (F : Sl → Pm) : Pm := fun a => ∃ i, F i a

/-- the table at P and the code objects that it tells, all of them in G -/
def TabF (G : Pm) (H : Hp) (P : Addr) (q : Str) : Prop := ∃ ps : Array Value, H P = some (.tbl ps) ∧ G P ∧ TriplesOk ps.toList ∧ ∀ (pos : Pos) (cv : Value), codeAmong pos ps.toList = some cv → ∃ c, cv = .ref c ∧ H c = some (LamX.CodeO c q) ∧ G c
def TabsF (G : Pm) (H : Hp) (T : List (Addr × Str)) : Prop := ∀ p ∈ T, TabF G H p.1 p.2
theorem TabsF.mono {G G' : Pm} {H H' : Hp} {T : List (Addr × Str)} (t : TabsF G H T) (g : ∀ a, G a → G' a) (h : ∀ a, G a → H' a = H a) : TabsF G' H' T := fun p hp => by
  obtain ⟨ps, e1, e2, e3, e4⟩ := t p hp
  refine ⟨ps, by rw [h _ e2]; exact e1, g _ e2, e3, fun pos cv hc => ?_⟩
  obtain ⟨c, q1, q2, q3⟩ := e4 pos cv hc
  exact ⟨c, q1, by rw [h _ q3]; exact q2, g _ q3⟩

section
variable (K : PySem.W.Frag) (ct : Ct) (pins : List (Nat × V))
structure Sta (S H : Hp) (σ : L2.St) (ρ : Env) (F : Sl → Pm) : Prop where
  sub : Same S H
  len : ρ.length = σ.length
  sl : ∀ i m d, ρ.at i = some (m, d) → ∃ v, σ[i]? = some (some v) ∧ RepM K ct S H m (F i) d v
  dj : ∀ i j a, F i a → F j a → i = j
  off : ∀ i a, F i a → S a = none ∧ H a ≠ none
  pin : ∀ p ∈ pins, σ[p.1]? = some (some p.2)
  tb : TabsF (F none) H ct.tabs
/-- a value in hand, with its own rights G -/
structure Vl (S H : Hp) (F : Sl → Pm) (m : M) (G : Pm) (d : D) (v : V) : Prop where
  rep : RepM K ct S H m G d v
  off : ∀ a, G a → S a = none ∧ H a ≠ none ∧ ∀ i, ¬ F i a
end

section
variable {K : PySem.W.Frag} {ct : Ct} {pins : List (Nat × V)} {S H S' H' S1 H1 S2 H2 : Hp} {σ : L2.St} {ρ ρ' : Env} {F F' F1 F2 : Sl → Pm} {P P' P1 P2 G : Pm} {m m' : M} {d : D} {v : V}

theorem ne_some {a : Addr} (h : H a ≠ none) : ∃ o, H a = some o := by
  cases q : H a with
  | none => exact absurd q h
  | some o => exact ⟨o, rfl⟩
theorem Tr.refl (h : ∀ a, P' a → P a) : Tr P S H S H P' := ⟨Same.refl _, fun _ _ h _ => h, fun _ h => .inl h, fun a z => .inr (h a z), fun _ h => h, fun _ _ h => h⟩
theorem Tr.sub (t : Tr P S H S' H' P') (h : ∀ a, P1 a → P' a) : Tr P S H S' H' P1 := ⟨t.ss, t.keep, t.news, fun a z => t.newp a (h a z), t.there, t.code⟩
/-- one after another; G is held meanwhile -/
theorem Tr.trans (t : Tr P S H S1 H1 (fun a => G a ∨ P1 a)) (u : Tr P1 S1 H1 S2 H2 P2) : Tr P S H S2 H2 (fun a => G a ∨ P2 a) := by
  refine ⟨t.ss.trans u.ss, fun a o h n => ?_, fun a h => ?_, fun a h => ?_, fun a h => u.there a (t.there a h), fun a q h => u.code a q (t.code a q h)⟩
  · refine u.keep a o (t.keep a o h n) fun z => ?_
    rcases t.newp a (.inr z) with q | q
    · rw [h] at q; cases q
    · exact n q
  · rcases u.news a h with q | q | q
    · exact t.news a q
    · exact .inr (.inl (Classical.byContradiction fun z => t.there a z q))
    · rcases t.newp a (.inr q) with z | z
      · exact .inr (.inl z)
      · exact .inr (.inr z)
  · rcases h with h | h
    · exact t.newp a (.inl h)
    · rcases u.newp a h with q | q
      · exact .inl (Classical.byContradiction fun z => t.there a z q)
      · exact t.newp a (.inr q)
theorem Tr.trans0 (t : Tr P S H S1 H1 P1) (u : Tr P1 S1 H1 S2 H2 P2) : Tr P S H S2 H2 P2 :=
  (Tr.trans (G := fun _ => False) (t.sub fun a z => z.elim (fun z => z.elim) fun z => z) u).sub fun a z => .inr z

/-- a value in hand stays while the rest goes on -/
theorem Vl.keep (h : Vl K ct S H F m G d v) (t : Tr (Pt F) S H S1 H1 P1) (hp : ∀ i a, F1 i a → P1 a) : Vl K ct S1 H1 F1 m G d v := by
  refine ⟨h.rep.mono t.ss fun a z => ?_, fun a z => ?_⟩
  · obtain ⟨q1, q2, q3⟩ := h.off a z
    obtain ⟨o, e⟩ := ne_some q2
    rw [e]
    exact t.keep a o e fun ⟨i, y⟩ => q3 i y
  · obtain ⟨q1, q2, q3⟩ := h.off a z
    refine ⟨Classical.byContradiction fun n => ?_, t.there a q2, fun i y => ?_⟩
    · rcases t.news a n with q | q | ⟨i, q⟩
      · exact q q1
      · exact q2 q
      · exact q3 i q
    · rcases t.newp a (hp i a y) with q | ⟨i, q⟩
      · exact q2 q
      · exact q3 i q
/-- it is let go -/
theorem Vl.frz (h : Vl K ct S H F m G d v) (I : Sta K ct pins S H σ ρ F) (t : Tr P S1 H1 S H (fun a => G a ∨ Pt F a)) :
    Rep K ct (Y.frz S H G) d v ∧ Sta K ct pins (Y.frz S H G) H σ ρ F ∧ Tr P S1 H1 (Y.frz S H G) H (Pt F) := by
  refine ⟨h.rep.frz I.sub, ⟨frz_le I.sub, I.len, fun i m d e => ?_, I.dj, fun i a z => ⟨?_, (I.off i a z).2⟩, I.pin, I.tb⟩, ⟨t.ss.trans frz_ge, t.keep, fun a z => ?_, fun a z => t.newp a (.inr z), t.there, t.code⟩⟩
  · obtain ⟨w, e1, e2⟩ := I.sl i m d e
    exact ⟨w, e1, e2.mono frz_ge fun _ _ => rfl⟩
  · exact Classical.byContradiction fun n => (frz_new n).elim (fun q => q (I.off i a z).1) fun q => (h.off a q).2.2 i z
  · rcases frz_new z with q | q
    · exact t.news a q
    · exact .inr (t.newp a (.inl q))
theorem Vl.sh (h : Rep K ct S d v) : Vl K ct S H F .s (fun _ => False) d v := ⟨by unfold RepM; exact h, fun _ z => z.elim⟩
theorem Vl.rp (h : Vl K ct S H F .s G d v) : Rep K ct S d v := by
  have := h.rep
  unfold RepM at this
  exact this
theorem cst_s (m : M) : cst m .s = true := rfl
theorem cst_eq : ∀ {a b : M}, cst a b = true → b = .s ∨ a = b := by
  intro a b h
  cases b with
  | s => exact .inl rfl
  | _ => exact .inr (of_decide_eq_true h)
/-- it is held by another mode -/
theorem Vl.cast (h : Vl K ct S H F m G d v) (I : Sta K ct pins S H σ ρ F) (t : Tr P S1 H1 S H (fun a => G a ∨ Pt F a)) (c : cst m m' = true) :
    ∃ S' G', Vl K ct S' H F m' G' d v ∧ Sta K ct pins S' H σ ρ F ∧ Tr P S1 H1 S' H (fun a => G' a ∨ Pt F a) := by
  rcases cst_eq c with rfl | rfl
  · obtain ⟨q1, q2, q3⟩ := h.frz I t
    exact ⟨_, _, Vl.sh q1, q2, q3.sub fun a z => z.elim (fun z => z.elim) fun z => z⟩
  · exact ⟨S, G, h, I, t⟩

/-! ### the end of an operation that changes nothing -/
def Kt (K : PySem.W.Frag) (ct : Ct) (S H : Hp) (k : M → D → Prop) (Q : VK) : Prop :=
  ∀ v H' S' m d G, k m d → Same H H' → Same S S' → Same S' H' → (∀ a, S' a ≠ none → S a ≠ none ∨ H a = none) → RepM K ct S' H' m G d v → (∀ a, G a → H a = none ∧ S' a = none ∧ H' a ≠ none) → Q v H'
/-- nothing but what is new -/
theorem Sta.grow (I : Sta K ct pins S H σ ρ F) (h1 : Same H H') (h2 : Same S S') (h3 : Same S' H') (h4 : ∀ a, S' a ≠ none → S a ≠ none ∨ H a = none) : Sta K ct pins S' H' σ ρ F := by
  refine ⟨h3, I.len, fun i m d e => ?_, I.dj, fun i a z => ⟨?_, ?_⟩, I.pin, I.tb.mono (fun _ z => z) fun a z => ?_⟩
  · obtain ⟨w, e1, e2⟩ := I.sl i m d e
    refine ⟨w, e1, e2.mono h2 fun a z => ?_⟩
    obtain ⟨o, q⟩ := ne_some (I.off i a z).2
    rw [q]
    exact h1 _ _ q
  · exact Classical.byContradiction fun n => (h4 a n).elim (fun q => q (I.off i a z).1) (I.off i a z).2
  · obtain ⟨o, q⟩ := ne_some (I.off i a z).2
    rw [h1 _ _ q]
    exact fun z => nomatch z
  · obtain ⟨o, q⟩ := ne_some (I.off none a z).2
    rw [q]
    exact h1 _ _ q
theorem Tr.grow (h1 : Same H H') (h2 : Same S S') (h4 : ∀ a, S' a ≠ none → S a ≠ none ∨ H a = none) (hg : ∀ a, G a → H a = none) : Tr P S H S' H' (fun a => G a ∨ P a) := by
  refine ⟨h2, fun a o q _ => h1 _ _ q, fun a z => (h4 a z).elim .inl fun z => .inr (.inl z), fun a z => z.elim (fun z => .inl (hg a z)) .inr, fun a z => ?_, fun a q h => h1 _ _ h⟩
  obtain ⟨o, q⟩ := ne_some z
  rw [h1 _ _ q]
  exact fun z => nomatch z
/-- what is wanted behind an expression -/
def Wt (K : PySem.W.Frag) (ct : Ct) (pins : List (Nat × V)) (σ : L2.St) (P : Pm) (S H : Hp) (R : M → D → Env → Prop) (Q : VK) : Prop :=
  ∀ v H' S' ρ' F' m d G, R m d ρ' → Sta K ct pins S' H' σ ρ' F' → Vl K ct S' H' F' m G d v → Tr P S H S' H' (fun a => G a ∨ Pt F' a) → Q v H'
theorem Wt.kt {R : M → D → Env → Prop} {Q : VK} (w : Wt K ct pins σ P S1 H1 R Q) (I : Sta K ct pins S H σ ρ F) (t : Tr P S1 H1 S H (Pt F)) : Kt K ct S H (fun m d => R m d ρ) Q := by
  intro v H' S' m d G hk h1 h2 h3 h4 h5 h6
  refine w v H' S' ρ F m d G hk (I.grow h1 h2 h3 h4) ⟨h5, fun a z => ⟨(h6 a z).2.1, (h6 a z).2.2, fun i y => (I.off i a y).2 (h6 a z).1⟩⟩ ?_
  exact Tr.trans0 t (Tr.grow h1 h2 h4 fun a z => (h6 a z).1)
theorem Wt.val {R : M → D → Env → Prop} {Q : VK} (w : Wt K ct pins σ P S1 H1 R Q) (I : Sta K ct pins S H σ ρ F) (t : Tr P S1 H1 S H (Pt F)) (r : Rep K ct S d v) (k : R .s d ρ) : Q v H :=
  w v H S ρ F .s d (fun _ => False) k I (Vl.sh r) (t.sub fun a z => z.elim (fun z => z.elim) fun z => z)
variable {k : M → D → Prop} {Q : VK}
theorem Kt.val (h : Kt K ct S H k Q) (e : Same S H) (r : Rep K ct S d v) (q : k .s d) : Q v H :=
  h v H S .s d (fun _ => False) q (Same.refl _) (Same.refl _) e (fun _ z => .inl z) (by unfold RepM; exact r) fun _ z => z.elim
theorem same_new {p : Addr} {o : HO} (hp : H p = none) : Same H (upd H p o) := fun b x e => by
  rw [upd_ne (ne_of_none e hp)]
  exact e
theorem Kt.newL {ds : List D} {vs : List V} {p : Addr} (h : Kt K ct S H k Q) (e : Same S H) (r : Reps K ct S ds vs) (q : k (.o .s) (.lst ds)) (hp : H p = none) : Q (.ref p) (upd H p (.lst vs)) := by
  have sp : S p = none := e.free hp
  refine h _ _ S _ _ (fun a => a = p) q (same_new hp) (Same.refl _) (e.trans (same_new hp)) (fun _ z => .inl z) ?_ fun a z => ?_
  · unfold RepM
    exact ⟨p, vs, ds, fun _ => False, rfl, rfl, rfl, upd_same, fun _ z => z.elim, Items.of_reps r |>.mono fun G d v _ z => by unfold RepM; exact z⟩
  · subst z
    exact ⟨hp, sp, by rw [upd_same]; exact fun z => nomatch z⟩
theorem Kt.newT {ds : List D} {vs : List V} {p : Addr} (h : Kt K ct S H k Q) (e : Same S H) (r : Reps K ct S ds vs) (q : k .s (.tup ds)) (hp : H p = none) : Q (.ref p) (upd H p (.tup vs)) := by
  have sp : S p = none := e.free hp
  have e2 : Same (upd S p (.tup vs)) (upd H p (.tup vs)) := fun b x z => by
    by_cases hb : b = p
    · subst hb
      rw [upd_same] at z ⊢
      exact z
    · rw [upd_ne hb] at z ⊢
      exact e _ _ z
  refine h _ _ (upd S p (.tup vs)) _ _ (fun _ => False) q (same_new hp) (same_new sp) e2 (fun a z => ?_) ?_ fun _ z => z.elim
  · by_cases hb : a = p
    · subst hb
      exact .inr hp
    · rw [upd_ne hb] at z
      exact .inl z
  · unfold RepM Rep
    exact ⟨p, vs, rfl, SqT.of upd_same, r.mono (same_new sp)⟩
end

/-! ### the readings -/
section
variable (K : PySem.W.Frag) (ct : Ct) (T : List FSpec) (pins : List (Nat × V))
def tE (c : C) : TE := fun σ H Q => ∃ (R : M → D → Env → Prop) (ρ : Env) (S : Hp) (F : Sl → Pm), wE T (pins.map (·.1)) c R ρ ∧ Sta K ct pins S H σ ρ F ∧ Wt K ct pins σ (Pt F) S H R Q
end

section
variable {K : PySem.W.Frag} {ct : Ct} {T : List FSpec} {pins : List (Nat × V)} {S H : Hp} {σ : L2.St} {ρ : Env} {F : Sl → Pm} {c : C} {Q : VK} {P : Pm} {S0 H0 : Hp}
/-- to run an expression and let its value go -/
theorem tE.sh {R : M → D → Env → Prop} (h : wE T (pins.map (·.1)) c R ρ) (I : Sta K ct pins S H σ ρ F) (t : Tr P S0 H0 S H (Pt F))
    (q : ∀ v H' S' ρ' F' m d, R m d ρ' → Sta K ct pins S' H' σ ρ' F' → Rep K ct S' d v → Tr P S0 H0 S' H' (Pt F') → Same S S' → Q v H') : tE K ct T pins c σ H Q := by
  refine ⟨R, ρ, S, F, h, I, fun v H' S' ρ' F' m d G r I' hv t' => ?_⟩
  obtain ⟨q1, q2, q3⟩ := hv.frz I' t'
  exact q v H' _ ρ' F' m d r q2 q1 (Tr.trans0 t q3) (q3.ss)
end
end Y
namespace Y
open PySem PySem.Spec PyProof.Rows L2

section
variable {K : PySem.W.Frag} {ct : Ct} {S H : Hp}
mutual
theorem Rep.dp (e : Same S H) : ∀ {d : D} {v : V}, Rep K ct S d v → d.isPy = true → Dp K H v d.toPy
  | .non, v, h, _ => by
    unfold Rep at h
    subst h
    exact .non
  | .bl b, v, h, _ => by
    unfold Rep at h
    subst h
    exact .bl b
  | .int i, v, h, _ => by
    unfold Rep at h
    subst h
    exact .int i
  | .str x, v, h, _ => by
    unfold Rep at h
    subst h
    exact .str x
  | .tup ds, v, h, p => by
    unfold Rep at h
    obtain ⟨a, vs, rfl, e2, e3⟩ := h
    unfold D.isPy at p
    unfold D.toPy
    exact .tup (Same.seqT e e2) (Reps.dp e e3 p)
  | .lst ds, v, h, p => by
    unfold Rep at h
    obtain ⟨a, vs, rfl, e2, e3⟩ := h
    unfold D.isPy at p
    unfold D.toPy
    exact .lst (SqL.of (e _ _ e2)) (Reps.dp e e3 p)
  | .scr ns, v, h, p => by
    unfold D.isPy at p
    cases p
  | .dk ks ds, v, h, p => by
    unfold D.isPy at p
    cases p
  | .dt ks ds, v, h, p => by
    unfold D.isPy at p
    cases p
  | .obj c ns ds, v, h, p => by
    unfold D.isPy at p
    cases p
  | .tupk ds, v, h, p => by
    unfold D.isPy at p
    cases p
theorem Reps.dp (e : Same S H) : ∀ {ds : List D} {vs : List V}, Reps K ct S ds vs → D.arePy ds = true → DpAll K H vs (D.toPys ds)
  | [], vs, h, _ => by
    unfold Reps at h
    subst h
    exact .nil
  | d :: ds, vs, h, p => by
    unfold Reps at h
    obtain ⟨v, r, rfl, e2, e3⟩ := h
    unfold D.arePy at p
    rw [Bool.and_eq_true] at p
    unfold D.toPys
    exact .cons (Rep.dp e e2 p.1) (Reps.dp e e3 p.2)
end
theorem Rep.flat : ∀ {d : D} {v : V}, Rep K ct S d v → d.flat = true → v = d.toV ∧ flatV v = true := by
  intro d v h f
  cases d <;> first | (unfold Rep at h; subst h; exact ⟨rfl, rfl⟩) | cases f
theorem Reps.flat : ∀ {ds : List D} {vs : List V}, Reps K ct S ds vs → ds.all D.flat = true → vs = ds.map D.toV ∧ vs.all flatV = true
  | [], vs, h, _ => by
    unfold Reps at h
    subst h
    exact ⟨rfl, rfl⟩
  | d :: ds, vs, h, f => by
    unfold Reps at h
    obtain ⟨v, r, rfl, e2, e3⟩ := h
    rw [List.all_cons, Bool.and_eq_true] at f
    obtain ⟨e4, e5⟩ := Rep.flat e2 f.1
    obtain ⟨e6, e7⟩ := Reps.flat e3 f.2
    subst e4
    subst e6
    exact ⟨rfl, by rw [List.all_cons, e5, e7]; rfl⟩
theorem Reps.ints : ∀ {ns : List Int} {vs : List V}, Reps K ct S (ns.map D.int) vs → vs = ns.map V.int
  | [], vs, h => h
  | n :: ns, vs, h => by
    rw [List.map_cons] at h
    unfold Reps at h
    obtain ⟨v, r, rfl, e2, e3⟩ := h
    unfold Rep at e2
    subst e2
    rw [Reps.ints e3, List.map_cons]
theorem Reps.of_ints : ∀ (ns : List Int), Reps K ct S (ns.map D.int) (ns.map V.int)
  | [] => rfl
  | n :: ns => Reps.cons (by unfold Rep; rfl) (Reps.of_ints ns)
theorem Reps.bls : ∀ {ns : List Bool} {vs : List V}, Reps K ct S (ns.map D.bl) vs → vs = ns.map V.bl
  | [], vs, h => h
  | n :: ns, vs, h => by
    rw [List.map_cons] at h
    unfold Reps at h
    obtain ⟨v, r, rfl, e2, e3⟩ := h
    unfold Rep at e2
    subst e2
    rw [Reps.bls e3, List.map_cons]
theorem rInt (i : Int) : Rep K ct S (.int i) (.int i) := by unfold Rep; rfl
theorem rBl (b : Bool) : Rep K ct S (.bl b) (.bl b) := by unfold Rep; rfl
theorem rStr (b : Str) : Rep K ct S (.str b) (.str b) := by unfold Rep; rfl
theorem rNon : Rep K ct S .non .non := by unfold Rep; rfl
theorem Reps.cut {ds : List D} {vs : List V} (h : Reps K ct S ds vs) (lo hi : Option Int) : Reps K ct S (cutD ds lo hi) (cutV vs lo hi) := by
  unfold cutD cutV
  rw [h.length]
  exact (h.drop _).take _
theorem Reps.atI {ds : List D} {vs : List V} {i : Int} {d : D} (h : Reps K ct S ds vs) (e : L2.atI ds i = some d) : ∃ v, L2.atI vs i = some v ∧ Rep K ct S d v := by
  unfold L2.atI at e ⊢
  rw [h.length] at e
  cases q : ixN vs.length i with
  | none =>
    rw [q] at e
    cases e
  | some j =>
    rw [q] at e
    exact h.get e
end

section
variable {X : Cx} {ct : Ct}
def rBin (K : PySem.W.Frag) (ct : Ct) (op : Operator) : R2 := fun x y H Q => ∃ S d e k, Same S H ∧ Rep K ct S d x ∧ Rep K ct S e y ∧ binD op d e k ∧ Kt K ct S H k Q
theorem op_bin {op : Operator} : OpR X (binaryOp op) (rBin X.K ct op) := by
  intro pins s σ H x y v u Q I rx ry ⟨S, d, e, k, hs, hd, he, hb, kt⟩
  unfold binD at hb
  split at hb
  · unfold Rep at hd he; subst hd; subst he
    exact op_add pins s σ H _ _ v u Q I rx ry ⟨_, _, rfl, rfl, kt.val hs (rInt _) hb⟩
  · unfold Rep at hd he; subst hd; subst he
    exact op_sub pins s σ H _ _ v u Q I rx ry ⟨_, _, rfl, rfl, kt.val hs (rInt _) hb⟩
  · unfold Rep at hd he; subst hd; subst he
    exact op_mul pins s σ H _ _ v u Q I rx ry ⟨_, _, rfl, rfl, hb.1, kt.val hs (rInt _) hb.2⟩
  · unfold Rep at hd he; subst hd; subst he
    exact op_fdiv pins s σ H _ _ v u Q I rx ry ⟨_, _, rfl, rfl, hb.1, kt.val hs (rInt _) hb.2⟩
  · unfold Rep at hd he; subst hd; subst he
    exact op_mod pins s σ H _ _ v u Q I rx ry ⟨_, _, rfl, rfl, hb.1, kt.val hs (rInt _) hb.2⟩
  · unfold Rep at hd he; subst hd; subst he
    exact op_pow pins s σ H _ _ v u Q I rx ry ⟨_, _, rfl, rfl, hb.1, kt.val hs (rInt _) hb.2⟩
  · unfold Rep at hd he; subst hd; subst he
    exact op_shl pins s σ H _ _ v u Q I rx ry ⟨_, _, rfl, rfl, hb.1, kt.val hs (rInt _) hb.2⟩
  · unfold Rep at hd he; subst hd; subst he
    exact op_shr pins s σ H _ _ v u Q I rx ry ⟨_, _, rfl, rfl, hb.1, kt.val hs (rInt _) hb.2⟩
  · unfold Rep at hd he; subst hd; subst he
    exact op_and pins s σ H _ _ v u Q I rx ry ⟨_, _, rfl, rfl, kt.val hs (rInt _) hb⟩
  · unfold Rep at hd he; subst hd; subst he
    exact op_or pins s σ H _ _ v u Q I rx ry ⟨_, _, rfl, rfl, kt.val hs (rInt _) hb⟩
  · unfold Rep at hd he; subst hd; subst he
    exact op_xor pins s σ H _ _ v u Q I rx ry ⟨_, _, rfl, rfl, kt.val hs (rInt _) hb⟩
  · unfold Rep at hd he; subst hd; subst he
    exact op_add_str pins s σ H _ _ v u Q I rx ry ⟨_, _, rfl, rfl, hb.1, kt.val hs (rStr _) hb.2⟩
  · unfold Rep at hd he
    obtain ⟨a, vs, rfl, e2, e3⟩ := hd
    obtain ⟨b, ws, rfl, f2, f3⟩ := he
    exact op_cat pins s σ H _ _ v u Q I rx ry ⟨a, b, vs, ws, rfl, rfl, hs _ _ e2, hs _ _ f2, by rw [← e3.length, ← f3.length]; exact hb.1, fun p hp => kt.newL hs (e3.append f3) hb.2 hp⟩
  · rename_i xs ys
    have hd0 := hd
    have he0 := he
    unfold Rep at hd he
    obtain ⟨a, vs, rfl, e2, e3⟩ := hd
    obtain ⟨b, ws, rfl, f2, f3⟩ := he
    refine op_catA pins s σ H _ _ v u Q I rx ry ⟨a, b, vs, ws, rfl, rfl, Same.seqT hs e2, Same.seqT hs f2, by rw [← e3.length, ← f3.length]; exact hb.1, fun z => ?_, fun _ z => ?_, fun _ z p hp => kt.newT hs (e3.append f3) hb.2 hp⟩
    · have : xs = [] := by
        have := e3.length
        rw [z] at this
        exact List.eq_nil_of_length_eq_zero this
      subst this
      have q := hb.2
      rw [List.nil_append] at q
      exact kt.val hs he0 q
    · have : ys = [] := by
        have := f3.length
        rw [z] at this
        exact List.eq_nil_of_length_eq_zero this
      subst this
      have q := hb.2
      rw [List.append_nil] at q
      exact kt.val hs hd0 q
  · unfold Rep at hd he
    obtain ⟨a, vs, rfl, e2, e3⟩ := hd
    subst he
    exact op_rep pins s σ H _ _ v u Q I rx ry ⟨a, _, vs, rfl, rfl, hs _ _ e2, hb.1, hb.2.1, by rw [← e3.length]; exact hb.2.2.1, fun p hp => kt.newL hs (e3.rep _) hb.2.2.2 hp⟩
  · exact hb.elim

def rCmp (K : PySem.W.Frag) (ct : Ct) (op : CmpOp) : R2 := fun x y H Q => ∃ S d e k, Same S H ∧ Rep K ct S d x ∧ Rep K ct S e y ∧ cmpD op d e k ∧ ∀ b, k b → Q (.bl b) H
theorem shp_int (i : Int) : SeqAt.shaped (PyData.int i) = true := rfl
theorem eqD_run {pins : List (Addr × Obj)} {s : Shared} {σ : L2.St} {S H : Hp} {x y : V} {v u : Value} {Q : VK} {d e : D} {k : Bool → Prop} {f : Bool → Bool} {op : CmpOp} (hop : (op = .Eq ∧ f = id) ∨ (op = .NotEq ∧ f = not)) (hu : X.A.units + 64 < cLine) (I : Inv X pins σ H s) (rx : RelV x v) (ry : RelV y u)
    (hs : Same S H) (hd : Rep X.K ct S d x) (he : Rep X.K ct S e y) (hb : eqD d e k) (q : ∀ b, k b → Q (.bl (f b)) H) : wpAny (model X.prog X.w) X.A (compareOp op v u) (EP X pins σ Q) X.xe s := by
  have main : ∀ b, Dp X.K H x d.toPy → Dp X.K H y e.toPy → SeqAt.shaped d.toPy = true → SeqAt.shaped e.toPy = true → k b → PyData.eqv d.toPy e.toPy = b → wpAny (model X.prog X.w) X.A (compareOp op v u) (EP X pins σ Q) X.xe s := by
    intro b h1 h2 h3 h4 h5 h6
    subst h6
    rcases hop with ⟨rfl, rfl⟩ | ⟨rfl, rfl⟩
    · exact op_eqD hu pins s σ H x y v u Q I rx ry ⟨_, _, h1, h2, h3, h4, q _ h5⟩
    · exact op_neD hu pins s σ H x y v u Q I rx ry ⟨_, _, h1, h2, h3, h4, q _ h5⟩
  have flat : ∀ b, scal x y = true → k b → decide (x = y) = b → wpAny (model X.prog X.w) X.A (compareOp op v u) (EP X pins σ Q) X.xe s := by
    intro b h1 h2 h3
    subst h3
    rcases hop with ⟨rfl, rfl⟩ | ⟨rfl, rfl⟩
    · exact op_eq pins s σ H x y v u Q I rx ry ⟨h1, q _ h2⟩
    · exact op_ne pins s σ H x y v u Q I rx ry ⟨h1, q _ h2⟩
  unfold eqD at hb
  split at hb
  · unfold Rep at hd he; subst hd; subst he
    exact flat _ rfl hb (by rw [dec_int, Bool.beq_eq_decide_eq])
  · unfold Rep at hd he; subst hd; subst he
    exact flat _ rfl hb (by rw [dec_str, Bool.beq_eq_decide_eq])
  · unfold Rep at hd he; subst hd; subst he
    exact flat _ rfl hb (by rw [dec_bl, Bool.beq_eq_decide_eq])
  · exact main _ (hd.dp hs hb.1.1) (he.dp hs hb.2.1.1) hb.1.2 hb.2.1.2 hb.2.2 rfl
theorem isN_rep {K : PySem.W.Frag} {S : Hp} {d : D} {v : V} (h : Rep K ct S d v) : decide (v = .non) = isN d := by
  cases d with
  | non =>
    unfold Rep at h
    subst h
    rfl
  | bl b =>
    unfold Rep at h
    subst h
    rfl
  | int b =>
    unfold Rep at h
    subst h
    rfl
  | str b =>
    unfold Rep at h
    subst h
    exact decide_eq_false fun z => nomatch z
  | tup b =>
    unfold Rep at h
    obtain ⟨a, vs, rfl, _⟩ := h
    exact decide_eq_false fun z => nomatch z
  | lst b =>
    unfold Rep at h
    obtain ⟨a, vs, rfl, _⟩ := h
    exact decide_eq_false fun z => nomatch z
  | scr b =>
    unfold Rep at h
    obtain ⟨a, rfl, _⟩ := h
    exact decide_eq_false fun z => nomatch z
  | dk b c =>
    unfold Rep at h
    obtain ⟨a, vs, rfl, _⟩ := h
    exact decide_eq_false fun z => nomatch z
  | dt b c =>
    unfold Rep at h
    obtain ⟨a, vs, rfl, _⟩ := h
    exact decide_eq_false fun z => nomatch z
  | obj b c e =>
    unfold Rep at h
    obtain ⟨a, C, dx, vs, rfl, _⟩ := h
    exact decide_eq_false fun z => nomatch z
  | tupk b =>
    unfold Rep at h
    obtain ⟨a, vs, o, rfl, _⟩ := h
    exact decide_eq_false fun z => nomatch z
theorem inD_run {pins : List (Addr × Obj)} {s : Shared} {σ : L2.St} {S H : Hp} {x y : V} {v u : Value} {Q : VK} {d e : D} {k : Bool → Prop} {f : Bool → Bool} {op : CmpOp} (hop : (op = .In ∧ f = id) ∨ (op = .NotIn ∧ f = not)) (hu : X.A.units + 65 < cLine) (I : Inv X pins σ H s) (rx : RelV x v) (ry : RelV y u)
    (hs : Same S H) (hd : Rep X.K ct S d x) (he : Rep X.K ct S e y) (hb : inD d e k) (q : ∀ b, k b → Q (.bl (f b)) H) : wpAny (model X.prog X.w) X.A (compareOp op v u) (EP X pins σ Q) X.xe s := by
  have main : ∀ p ys, y = .ref p → (SqL X.K H p ys ∨ SqT X.K H p ys) → flatV x = true → ys.all flatV = true → k (inV x ys) → wpAny (model X.prog X.w) X.A (compareOp op v u) (EP X pins σ Q) X.xe s := by
    intro p ys h1 h2 h3 h4 h5
    rcases hop with ⟨rfl, rfl⟩ | ⟨rfl, rfl⟩
    · exact op_in_seq pins s σ H x y v u Q I rx ry ⟨p, ys, h1, h2, h3, h4, q _ h5⟩
    · exact op_notIn_seq pins s σ H x y v u Q I rx ry ⟨p, ys, h1, h2, h3, h4, q _ h5⟩
  unfold inD at hb
  split at hb
  · rename_i ys
    split at hb
    · rename_i z
      rw [Bool.and_eq_true] at z
      unfold Rep at he
      obtain ⟨a, vs, rfl, e2, e3⟩ := he
      obtain ⟨f1, f2⟩ := hd.flat z.1
      obtain ⟨f3, f4⟩ := e3.flat z.2
      refine main a vs rfl (.inl (SqL.of (hs _ _ e2))) f2 f4 ?_
      rw [f1, f3]
      exact hb
    · obtain ⟨h1, h2, h3⟩ := hb
      have hy : Dp X.K H y (.list (D.toPys ys)) := he.dp hs h2.1
      have hsy : SeqAt.shaped (.list (D.toPys ys)) = true := h2.2
      rcases hop with ⟨rfl, rfl⟩ | ⟨rfl, rfl⟩
      · exact op_inD hu pins s σ H x y v u Q I rx ry ⟨_, _, hd.dp hs h1.1, hy, h1.2, hsy, q _ h3⟩
      · exact op_notInD hu pins s σ H x y v u Q I rx ry ⟨_, _, hd.dp hs h1.1, hy, h1.2, hsy, q _ h3⟩
  · rename_i ys
    unfold Rep at he
    obtain ⟨a, vs, rfl, e2, e3⟩ := he
    obtain ⟨f1, f2⟩ := hd.flat hb.1
    obtain ⟨f3, f4⟩ := e3.flat hb.2.1
    refine main a vs rfl (.inr (Same.seqT hs e2)) f2 f4 ?_
    rw [f1, f3]
    exact hb.2.2
  · exact hb.elim
theorem op_cmp {op : CmpOp} (hu : X.A.units + 65 < cLine) : OpR X (compareOp op) (rCmp X.K ct op) := by
  intro pins s σ H x y v u Q I rx ry ⟨S, d, e, k, hs, hd, he, hb, q⟩
  unfold cmpD at hb
  split at hb
  · exact eqD_run (f := id) (.inl ⟨rfl, rfl⟩) (by omega) I rx ry hs hd he hb q
  · exact eqD_run (f := not) (.inr ⟨rfl, rfl⟩) (by omega) I rx ry hs hd he hb fun b z => q _ z
  · split at hb
    · unfold Rep at hd he; subst hd; subst he
      exact op_lt pins s σ H _ _ v u Q I rx ry ⟨_, _, rfl, rfl, q _ hb⟩
    · exact hb.elim
  · split at hb
    · unfold Rep at hd he; subst hd; subst he
      exact op_le pins s σ H _ _ v u Q I rx ry ⟨_, _, rfl, rfl, q _ hb⟩
    · exact hb.elim
  · split at hb
    · unfold Rep at hd he; subst hd; subst he
      exact op_gt pins s σ H _ _ v u Q I rx ry ⟨_, _, rfl, rfl, q _ hb⟩
    · exact hb.elim
  · split at hb
    · unfold Rep at hd he; subst hd; subst he
      exact op_ge pins s σ H _ _ v u Q I rx ry ⟨_, _, rfl, rfl, q _ hb⟩
    · exact hb.elim
  · split at hb
    · unfold Rep at he; subst he
      exact op_isN pins s σ H _ _ v u Q I rx ry ⟨rfl, q _ (by rw [isN_rep hd]; exact hb)⟩
    · split at hb
      · unfold Rep at hd he; subst hd; subst he
        exact op_isBl pins s σ H _ _ v u Q I rx ry ⟨_, _, rfl, rfl, q _ hb⟩
      · exact hb.elim
    · exact hb.elim
  · split at hb
    · unfold Rep at he; subst he
      exact op_notN pins s σ H _ _ v u Q I rx ry ⟨rfl, q _ (by rw [isN_rep hd]; exact hb)⟩
    · split at hb
      · unfold Rep at hd he; subst hd; subst he
        exact op_notBl pins s σ H _ _ v u Q I rx ry ⟨_, _, rfl, rfl, q _ hb⟩
      · exact hb.elim
    · exact hb.elim
  · exact inD_run (f := id) (.inl ⟨rfl, rfl⟩) hu I rx ry hs hd he hb q
  · exact inD_run (f := not) (.inr ⟨rfl, rfl⟩) hu I rx ry hs hd he hb fun b z => q _ z

theorem keyD_rep {K : PySem.W.Frag} {S : Hp} {d : D} {v : V} {key : Key} (h : Rep K ct S d v) (e : keyD d = some key) : v = kV key := by
  unfold keyD at e
  split at e
  · cases e
    unfold Rep at h
    exact h
  · cases e
    unfold Rep at h
    exact h
  · cases e
theorem Reps.dAt {K : PySem.W.Frag} {S : Hp} {key : Key} {d : D} : ∀ {ks : List Key} {ds : List D} {vs : List V}, Reps K ct S ds vs → Y.dAt ks ds key = some d → ∃ v, valV (ks.zip vs) key = some v ∧ Rep K ct S d v
  | [], ds, vs, h, e => by
    unfold Y.dAt at e
    cases e
  | k :: ks, [], vs, h, e => by
    unfold Y.dAt at e
    cases e
  | k :: ks, d0 :: ds, vs, h, e => by
    unfold Reps at h
    obtain ⟨v, r, rfl, h1, h2⟩ := h
    unfold Y.dAt at e
    rw [List.zip_cons_cons]
    by_cases q : k = key
    · rw [if_pos q] at e
      cases e
      exact ⟨v, valV_pos (p := (k, v)) q, h1⟩
    · rw [if_neg q] at e
      rw [valV_neg (p := (k, v)) q]
      exact h2.dAt e
def rItem (K : PySem.W.Frag) (ct : Ct) : R2 := fun x y H Q => ∃ S d e k, Same S H ∧ Rep K ct S d x ∧ Rep K ct S e y ∧ itemD d e k ∧ ∀ d' v', k d' → Rep K ct S d' v' → Q v' H
theorem ix_item : IxR X (rItem X.K ct) := by
  intro value slice pins s σ H x y v u Q I rx ry ⟨S, d, e, k, hs, hd, he, hb, q⟩ hsub
  unfold itemD at hb
  split at hb
  · unfold Rep at hd he; subst he
    obtain ⟨a, vs, rfl, e2, e3⟩ := hd
    obtain ⟨d', h1, h2⟩ := hb
    obtain ⟨v', h3, h4⟩ := e3.atI h1
    exact ix_list value slice pins s σ H _ _ v u Q I rx ry ⟨_, _, _, _, rfl, rfl, SqL.of (hs _ _ e2), h3, q _ _ h2 h4⟩ hsub
  · unfold Rep at hd he; subst he
    obtain ⟨a, vs, rfl, e2, e3⟩ := hd
    obtain ⟨d', h1, h2⟩ := hb
    obtain ⟨v', h3, h4⟩ := e3.atI h1
    exact ix_tup value slice pins s σ H _ _ v u Q I rx ry ⟨_, _, _, _, rfl, rfl, Same.seqT hs e2, h3, q _ _ h2 h4⟩ hsub
  · unfold Rep at hd he; subst he
    obtain ⟨a, rfl, e2⟩ := hd
    obtain ⟨n, h1, h2⟩ := hb
    refine ix_list value slice pins s σ H _ _ v u Q I rx ry ⟨_, _, _, .int n, rfl, rfl, hs.seq e2, ?_, q _ _ h2 (rInt _)⟩ hsub
    unfold atI at h1 ⊢
    rw [List.length_map]
    cases z : ixN _ _ with
    | none =>
      rw [z] at h1
      cases h1
    | some j =>
      rw [z] at h1
      show (List.map V.int _)[j]? = _
      rw [List.getElem?_map]
      have h1 : _ = some n := h1
      simp only [Option.bind_some] at h1
      rw [h1]
      rfl
  · unfold Rep at hd he; subst he; subst hd
    obtain ⟨h0, c, h1, h2⟩ := hb
    exact ix_str value slice pins s σ H _ _ v u Q I rx ry ⟨_, _, c, rfl, rfl, h0, h1, q _ _ h2 (rStr _)⟩ hsub
  · obtain ⟨key, d', h1, h2, h3⟩ := hb
    have ek := keyD_rep he h1
    subst ek
    unfold Rep at hd
    obtain ⟨a, vs, rfl, e2, e3, e4⟩ := hd
    obtain ⟨v', h4, h5⟩ := e4.dAt h2
    obtain rfl : v = Value.ref a := rx
    obtain ⟨_, _, us, rel, dd⟩ := dk_of I.hok (hs _ _ e2)
    obtain ⟨w', hw, rw'⟩ := RelO.some_of (v := v') (o := valueAt us key) (by rw [← h4]; exact rel.val key)
    exact tail_any dd.typeIs PySem.F.slot_dict_getitem.lookup (wpAny_getItem_of (kV_is ry) dd.mapOf hw ⟨v', H, I.tok _, rw', q _ _ h3 h5⟩) hsub
  · exact hb.elim

theorem isEmpty_len {α β : Type} : ∀ {a : List α} {b : List β}, a.length = b.length → a.isEmpty = b.isEmpty
  | [], [], _ => rfl
  | _ :: _, _ :: _, _ => rfl
  | [], _ :: _, h => by simp at h
  | _ :: _, [], h => by simp at h
/-- truth -/
theorem truD_ok {K : PySem.W.Frag} {S H : Hp} {d : D} {v : V} {k : Bool → Prop} (hs : Same S H) (hd : Rep K ct S d v) (h : truD d k) : ∃ b, TruV K v H b ∧ k b := by
  unfold truD at h
  split at h
  · unfold Rep at hd; subst hd
    exact ⟨_, rfl, h⟩
  · unfold Rep at hd; subst hd
    exact ⟨_, rfl, h⟩
  · unfold Rep at hd; subst hd
    exact ⟨_, rfl, h⟩
  · unfold Rep at hd; subst hd
    exact ⟨_, ⟨h.1, rfl⟩, h.2⟩
  · unfold Rep at hd
    obtain ⟨a, vs, rfl, e2, e3⟩ := hd
    refine ⟨_, .inl ⟨vs, SqL.of (hs _ _ e2), rfl⟩, ?_⟩
    rw [← isEmpty_len e3.length]
    exact h
  · unfold Rep at hd
    obtain ⟨a, vs, rfl, e2, e3⟩ := hd
    refine ⟨_, .inr (.inl ⟨vs, Same.seqT hs e2, rfl⟩), ?_⟩
    rw [← isEmpty_len e3.length]
    exact h
  · exact h.elim
end
end Y
namespace Y
open PySem PySem.Spec PyProof.Rows L2

/-! ### promises where no repr is under way -/
/-- a def's promise at calls under which no list, tuple, dict is being shown -/
structure FnG (P : Program) (w : World) (K : PySem.W.Frag) (mg : Str → Option Value) (base : Heap) (k : Nat) (f : Addr) (fd : FuncData) (ps : List Str) (sp : Sp) : Prop where
  len : ∀ vs H Q E, sp vs H Q E → vs.length = ps.length
  go : ∀ A : Around, A.guards = some [] → Room k A → ∀ (outer : List PySem.Env) (s : Shared) (H : Hp), Env0 P w K mg base A outer s H → ∀ (args : Args) (us : List Value) (vs : List V), BindsTo s fd args (ps.zip us) → Vals vs us →
    ∀ (Q : VK) (E : XK), sp vs H Q E → codeAny (model P w) A (.call (.ref f) args) (CR CX0 outer P w H s Q E) s
section
variable {P : Program} {w : World} {K : PySem.W.Frag} {mg : Str → Option Value} {base : Heap} {f : Addr} {fd : FuncData} {ps : List Str} {sp : Sp} {j k : Nat}
theorem FnG.mono (F : FnG P w K mg base j f fd ps sp) (h : j ≤ k) : FnG P w K mg base k f fd ps sp := ⟨F.len, fun A g r => F.go A g (r.mono h)⟩
theorem FnG.none (h : ∀ vs H Q E, ¬ sp vs H Q E) : FnG P w K mg base k f fd ps sp := ⟨fun vs H Q E q => (h _ _ _ _ q).elim, fun A _ _ _ _ _ _ _ _ _ _ _ Q E q => (h _ _ _ _ q).elim⟩
end
section
variable {X : Cx} {f C : Addr} {fd : FuncData} {ps : List Str} {sp : Sp} {k : Nat} {E : XK} {pins : List (Addr × Obj)} {σ : L2.St} {H : Hp} {s : Shared} {Q : VK} {us : List Value} {vs : List V} {x m : Str} {p pos apos : Pos} {e o : Expr} {es : List Expr} {ta : TE} {t : TA}
theorem bind0 (b : Binds X.K fd ps []) (kin : X.K.In s.heap) (hl : us.length = ps.length) : BindsTo s fd ⟨us, []⟩ (ps.zip us) := by
  have := b s us kin (by rw [List.append_nil]; exact hl)
  rw [List.append_nil] at this
  exact this
/-- the callee runs -/
theorem run_g (F : FnG X.prog X.w X.K X.mg X.base k f fd ps sp) (gd : X.A.guards = some []) (hr : Room k X.A) (b : Binds X.K fd ps []) (I : L2.Inv X pins σ H s) (r : Vals vs us) (h : sp vs H Q E) :
    wpAny (model X.prog X.w) X.A (call (.ref f) us) (EP X pins σ Q) X.xe s := by
  have bt := bind0 b I.kIn (by rw [← r.length]; exact F.len _ _ _ _ h)
  refine wpAny_call (codeAny_mono (F.go X.A gd hr X.stack s H I.env0 _ us vs bt r Q E h) fun z s' hz => ?_)
  match z, hz with
  | .error _, hz => exact absurd hz fun q => q
  | .ok (.ret _), hz => exact I.after hz
  | .ok .next, hz => exact hz.elim
  | .ok .brk, hz => exact hz.elim
  | .ok .cont, hz => exact hz.elim
theorem pe_callG (F : FnG X.prog X.w X.K X.mg X.base k f fd ps sp) (gd : X.A.guards = some []) (hr : Room k X.A) (hg : Gl X x) (hm : X.mg x = some (.ref f)) (kp : PySem.W.keepIn X.K (.ref f) = true) (b : Binds X.K fd ps []) (ha : PA X (e :: es) t)
    (nd : (x == ("__debug__" : Str)) = false) (st : starEach (e :: es) X.env = (false, eval e X.env) :: starEach es X.env) (pl : (backTo pos (starEach es X.env)).any (·.1) = false) :
    PE X (.Call (.Name x p) (e :: es) [] pos) (tCall sp [] E t) := by
  constructor
  intro pins s σ H Q I h
  have args := ha.run pos pins s σ H _ I h
  refine wpAny_Call_Name_kw (ld_glob I hg hm (PySem.W.callWith_K (h₀ := X.base) I.ok.mod.kin kp (thn args fun us s1 w1 => ?_) st pl) nd)
  obtain ⟨vs, H1, I1, r, q⟩ := w1
  rw [List.append_nil] at q
  exact ⟨I1.kIn, run_g F gd hr b I1 r q⟩
theorem pe_callG0 (F : FnG X.prog X.w X.K X.mg X.base k f fd ps sp) (gd : X.A.guards = some []) (hr : Room k X.A) (hg : Gl X x) (hm : X.mg x = some (.ref f)) (kp : PySem.W.keepIn X.K (.ref f) = true) (b : Binds X.K fd ps [])
    (nd : (x == ("__debug__" : Str)) = false) : PE X (.Call (.Name x p) [] [] pos) (tCall sp [] E tNil) := by
  constructor
  intro pins s σ H Q I h
  have h : sp [] H Q E := h
  exact wpAny_Call_Name_kw (ld_glob I hg hm (PySem.W.callWith_K0 I.kIn kp (run_g (us := []) F gd hr b I .nil h)) nd)
/-- how o.m(es) evaluates -/
def MethForm (X : Cx) (o : Expr) (m : Str) (apos : Pos) (es : List Expr) (pos : Pos) (pl : Sem Bool) : Prop := eval (.Call (.Attribute o m apos) es [] pos) X.env = (do
      let ov ← eval o X.env
      standAt apos.atName
      let (f, first) ← holding [ov] (getMethod ov m pl)
      callWith pos f first (backTo pos (starEach es X.env)) (backToKw pos (keywordEach [] X.env)))
theorem pe_methG {pl : Sem Bool} (he : PE X o ta) (c : Cls X.K C) (hm : Meth X.K C m f) (F : FnG X.prog X.w X.K X.mg X.base k f fd ps sp) (gd : X.A.guards = some []) (hr : Room k X.A) (b : Binds X.K fd ps []) (ha : PA X (e :: es) t)
    (st : starEach (e :: es) X.env = (false, eval e X.env) :: starEach es X.env) (hpl : (backTo pos (starEach es X.env)).any (·.1) = false) (fm : MethForm X o m apos (e :: es) pos pl) : PE X (.Call (.Attribute o m apos) (e :: es) [] pos) (tMeth C m sp [] E ta t) := by
  constructor
  intro pins s σ H Q I h
  have obj := he.run pins s σ H _ I h
  refine PySem.W.methodCall_KW (pl := pl) (thn obj fun u s1 w1 => ?_) fm
  obtain ⟨_, H1, I1, rx, a, dx, fs, rfl, ea, l, q⟩ := w1
  cases (show u = Value.ref a from rx)
  have args := ha.run pos pins s1 σ H1 _ I1 q
  refine getmeth_ok I1 ea c hm l (PySem.W.callWith_K (first := [.ref a]) (h₀ := X.base) I.ok.mod.kin hm.kp (thn args fun us s2 w2 => ?_) st hpl)
  obtain ⟨vs, H2, I2, r, q2⟩ := w2
  rw [List.append_nil] at q2
  exact ⟨I2.kIn, run_g (us := .ref a :: us) (vs := .ref a :: vs) F gd hr b I2 (.cons rfl r) q2⟩
theorem pe_methG0 {pl : Sem Bool} (he : PE X o ta) (c : Cls X.K C) (hm : Meth X.K C m f) (F : FnG X.prog X.w X.K X.mg X.base k f fd ps sp) (gd : X.A.guards = some []) (hr : Room k X.A) (b : Binds X.K fd ps [])
    (fm : MethForm X o m apos [] pos pl) : PE X (.Call (.Attribute o m apos) [] [] pos) (tMeth C m sp [] E ta tNil) := by
  constructor
  intro pins s σ H Q I h
  have obj := he.run pins s σ H _ I h
  refine PySem.W.methodCall_KW (pl := pl) (thn obj fun u s1 w1 => ?_) fm
  obtain ⟨_, H1, I1, rx, a, dx, fs, rfl, ea, l, q⟩ := w1
  cases (show u = Value.ref a from rx)
  have q : sp (.ref a :: ([] ++ [])) H1 Q E := q
  exact getmeth_ok I1 ea c hm l (PySem.W.callWith_K0 (first := [.ref a]) I1.kIn hm.kp (run_g (us := [.ref a]) (vs := [.ref a]) F gd hr b I1 (.cons rfl .nil) q))
theorem make_guards {A : Around} {us : List Value} {kw : List (Str × Value)} : (A.under (.builtin "type.__call__" ⟨.ref C :: us, kw⟩)).guards = A.guards := by
  first
  | rfl
  | simp [Around.under, Code.guards, Code.isGuard, guardIds, pushGuards]
theorem pe_makeG (M : Mk X.K C f) (F : FnG X.prog X.w X.K X.mg X.base k f fd ps sp) (gd : X.A.guards = some []) (hr : Room (k + 1) X.A) (hg : Gl X x) (hm : X.mg x = some (.ref C)) (b : Binds X.K fd ps []) (ha : PA X (e :: es) t)
    (nd : (x == ("__debug__" : Str)) = false) (st : starEach (e :: es) X.env = (false, eval e X.env) :: starEach es X.env) (pl : (backTo pos (starEach es X.env)).any (·.1) = false) :
    PE X (.Call (.Name x p) (e :: es) [] pos) (tMake C sp [] E t) := by
  constructor
  intro pins s σ H Q I h
  have args := ha.run pos pins s σ H _ I h
  refine wpAny_Call_Name_kw (ld_glob I hg hm (PySem.W.callWith_K (h₀ := X.base) I.ok.mod.kin M.kp (thn args fun us s1 w1 => ?_) st pl) nd)
  obtain ⟨vs, H1, I1, r, q⟩ := w1
  refine ⟨I1.kIn, ?_⟩
  have q1 := q (s1.heap.objs.size + 1) s1.heap.objs.size (I1.hok.fresh (Nat.le_succ _)) (I1.hok.fresh (Nat.le_refl _)) (Nat.ne_of_lt (Nat.lt_succ_self _))
  rw [List.append_nil] at q1
  have J := L2.Inv.made (C := C) I1
  have rr : Vals (V.ref (s1.heap.objs.size + 1) :: vs) (Value.ref (s1.heap.objs.size + 1) :: us) := .cons rfl r
  have bt := bind0 b J.kIn (us := Value.ref (s1.heap.objs.size + 1) :: us) (by rw [← rr.length]; exact F.len _ _ _ _ q1)
  refine wpAny_call (make_map (f := f) I1.kIn M.makes M.init (beq_iff_eq.mp M.fn) (codeAny_mono (F.go _ (make_guards.trans gd) (hr.make C us []) X.stack _ _ (J.env0.make C us []) _ _ _ bt rr _ E q1) fun z s' hz => ?_))
  match z, hz with
  | .error _, hz => exact absurd hz fun q => q
  | .ok (.ret _), hz =>
    obtain ⟨v, H', J2, rv, ev, q3⟩ := J.after hz
    subst ev
    exact ⟨rv, ⟨.ref (s1.heap.objs.size + 1), H', J2, rfl, q3⟩⟩
  | .ok .next, hz => exact hz.elim
  | .ok .brk, hz => exact hz.elim
  | .ok .cont, hz => exact hz.elim
/-- a property, read -/
theorem pe_propG {pp g a dx : Addr} (he : PE X o ta) (c : Cls X.K C) (hp : PropOf X.K C m pp g) (F : FnG X.prog X.w X.K X.mg X.base k g fd ps sp) (gd : X.A.guards = some []) (hr : Room (k + 1) X.A) (b : Binds X.K fd ps [])
    (base : attributeBase o m X.env (eval o X.env) = eval o X.env) : PE X (.Attribute o m pos) (tProp C sp [] E ta) := by
  constructor
  intro pins s σ H Q I h
  have obj := he.run pins s σ H _ I h
  refine attr_of base (thn obj fun u s1 w1 => ?_)
  obtain ⟨_, H1, I1, rx, a, dx, fs, rfl, ea, q⟩ := w1
  cases (show u = Value.ref a from rx)
  obtain ⟨mA, O, _, _, _, _⟩ := ins_get I1.hok ea
  obtain ⟨od, J, _⟩ := O.look
  obtain ⟨rest, hrec⟩ := hp.rec_
  have I2 := I1.tok (s1.toks + 1)
  have hc : (PySem.W.clsIn X.K C).isSome = true := by
    obtain ⟨cd, hc, _⟩ := PySem.W.any_some c.hd
    rw [hc]
    rfl
  have bt := bind0 b I2.kIn (us := [.ref a]) (F.len _ _ _ _ q)
  refine PySem.W.get_bind I1.kIn J (PySem.W.plainGet_of (c.get m)).1 (PySem.W.findObj_data hc hp.at_ hp.get hp.tak) (PySem.W.plainGet_of (c.get m)).2 (wpAny_call (PySem.W.prop_get (s := { s1 with toks := s1.toks + 1 }) I1.kIn hrec ?_))
  refine codeAny_mono (F.go X.A.in1 gd hr.in1 X.stack { s1 with toks := s1.toks + 1 } H1 I2.env0.in1 _ [.ref a] [.ref a] bt (.cons rfl .nil) Q E q) fun z s' hz => ?_
  match z, hz with
  | .error _, hz => exact absurd hz fun q => q
  | .ok (.ret u), hz =>
    obtain ⟨v, H', J2, rv, q3⟩ := I2.after hz
    show wpAny _ _ (handedOut u) _ _ _
    rw [PySem.W.handedOut_of (handed_of rv)]
    exact wpAny_pure ⟨v, H', J2, rv, q3⟩
  | .ok .next, hz => exact hz.elim
  | .ok .brk, hz => exact hz.elim
  | .ok .cont, hz => exact hz.elim
end
end Y
namespace Y
open PySem PySem.Spec PyProof.Rows L2
section
variable {P : Program} {w : World} {K : PySem.W.Frag} {mg : Str → Option Value} {base : Heap} {x qual : Str} {params : Arguments} {body : List Stmt} {scope : Scope} {f : Addr} {fd : FuncData} {N ps : List Str} {sp : Sp} {k : Nat}
/-- a def by its body -/
theorem FnG.of (F : FunD K x qual params body scope [] [] f fd) (S : FnScope N ps scope) (len : ∀ vs H Q E, sp vs H Q E → vs.length = ps.length)
    (bd : ∀ (A : Around) (outer : List PySem.Env) (s : Shared) (H : Hp) (vs : List V) (Q : VK) (E : XK), A.guards = some [] → Room k (A.deeper (envOfC qual scope s.heap.objs.size f fd.code)) → sp vs H Q E →
      ∃ t, PSs (cxOf CX0 P w K mg base N qual scope f fd.code A outer s H E) body t ∧ t { nx := fun _ H' => Q .non H', rt := Q } (L2.start N vs) H) : FnG P w K mg base (k + 1) f fd ps sp := by
  obtain ⟨oc, od, dV, kV, doc, pm, an, cdv, ct, osl, rfl, lk, hcd, _, _⟩ := F.ex
  refine ⟨len, fun A gd room outer s H e0 args us vs bt r Q E hsp => ?_⟩
  have hl := len vs H Q E hsp
  have old : ∀ b o, base.get? b = some o → s.heap.get? b = some o := fun b o z => (e0.bs b o z).1
  have kin : K.In s.heap := e0.mod.kin.keeps old
  have nolim := e0.mod.nolimit.keeps old
  have kinds : ∀ y ∈ ps.zip us, scope.names.lookup y.1 = some .local ∨ (scope.names.lookup y.1 = some .cell ∧ ((cellsFrom (s.heap.objs.size + 1) scope.names []).lookup y.1).isSome = true) := by
    intro y hy
    have hy1 : y.1 ∈ ps := (List.of_mem_zip (a := y.1) (b := y.2) hy).1
    exact (S.par y.1 hy1).imp id fun z => ⟨z, PySem.W.cellsFrom_some _ _ _ (.inl z)⟩
  refine codeAny_call_function room.depth (kin _ _ lk) rfl S.co S.gen rfl (PySem.W.codeRec_of kin hcd) (bt _ _ _ _ (wpAny_newFunctionEnv_cells S.kind kinds fun env he s1 inC => ?_))
  subst he
  obtain ⟨t, ht, hq⟩ := bd A outer s H vs Q E gd (room.deeper _) hsp
  have I := inv_start (CX := CX0) (E := E) S room.hd e0 hl r inC
  refine ⟨nolim.keeps inC.toInCall.keep, codeAny_func (wpAny_mono (ht.run [] s1 _ H _ I hq) (fun fl s' hs => ?_) fun _ _ hs => hs)⟩
  match fl, hs with
  | .ret u, hs =>
    obtain ⟨v, σ', H', J, rv, q⟩ := hs
    exact ⟨v, H', J.os, J.bare, J.base, J.hok, rv, q⟩
  | .next, hs =>
    obtain ⟨σ', H', J, q⟩ := hs
    exact ⟨.non, H', J.os, J.bare, J.base, J.hok, rfl, q⟩
  | .brk, hs =>
    obtain ⟨_, _, _, q⟩ := hs
    exact q.elim
  | .cont, hs =>
    obtain ⟨_, _, _, q⟩ := hs
    exact q.elim
end
/-! ### the law's end -/
section
variable {P : Program} {w : World} {K : PySem.W.Frag} {mg mb : Str → Option Value} {k : Nat} {fa a : Addr} {fd : FuncData} {x : Str} {sp : Sp} {s1 : Shared} {vs : List Value} {ns : List Int}
/-- from an abstract heap that tracks the script at most -/
theorem law_core (kin : K.In s1.heap) (gl : s1.heap.Ns mainGlobals mg) (bl : s1.heap.Ns builtinsNs mb) (bb : ∀ x : Str, x ≠ "__name__" → mb x = bootBuiltins x) (lim : s1.heap.NoLimit) (ge : s1.gens = #[])
    (obj : s1.heap.get? a = some { cls := .type "list", data := .seq vs.toArray }) (room : Room k callerA) (F : ∀ base : Heap, K.In base → base.Ns mainGlobals mg → FnG P w K mg base k fa fd [x] sp)
    (bind : ∀ (s : Shared) (u : Value), BindsTo s fd ⟨[u], []⟩ [(x, u)]) {H : Hp} (only : Only H) (hsp : sp [.ref a] H (fun v _ => v = .bl true) fun _ _ _ => False) (hok : HOk P w H s1.heap) (at_ : ∀ b, H b ≠ none → b = a) (hK : H a ≠ none → K.lookup a = none) :
    codeAny (model P w) callerA (.call (.ref fa) ⟨[.ref a], []⟩) (fun r s' => r = .ok (.ret (.bool true)) ∧ OldK s1.heap s'.heap ∧ s'.os = s1.os ∧ AllBare s'.gens) s1 := by
  have free : ∀ {b : Addr}, b ≠ a → H b = none := fun {b} n => Classical.byContradiction fun z => n (at_ b z)
  have dict : ∀ {b : Addr} {o : Obj} {es : Array DictEntry} {ep : Nat}, s1.heap.get? b = some o → o.data = .dict es ep → H b = none := fun {b o es ep} g d => free fun z => by
    subst z
    rw [obj] at g
    cases g
    cases d
  have ns2 : ∀ {b : Addr} {m : Str → Option Value}, s1.heap.Ns b m → (hidT s1.heap H).Ns b m := fun {b m} h => by
    obtain ⟨o, es, ep, g, d, r⟩ := h
    exact ⟨o, es, ep, hidT_get g (dict g d), d, r⟩
  have kin2 : K.In (hidT s1.heap H) := fun b o g => hidT_get (kin b o g) (Classical.byContradiction fun z => by
    have e := at_ b z
    subst e
    rw [hK z] at g
    cases g)
  have lim2 : (hidT s1.heap H).NoLimit := by
    obtain ⟨mc, l1, l2⟩ := lim
    exact ⟨mc, ns2 l1, l2⟩
  have e0 : Env0 P w K mg (hidT s1.heap H) callerA [] s1 H :=
    ⟨rfl, ⟨kin2, ns2 gl, ⟨mb, ns2 bl, bb⟩, lim2⟩, fun b o g => of_hidT g, Nat.le_of_eq (hidT_size _ _), trivial, (fun b z => absurd z List.not_mem_nil), hok, .of_eq ge⟩
  refine codeAny_mono ((F _ kin2 (ns2 gl)).go callerA rfl room [] s1 H e0 _ [.ref a] [.ref a] (bind s1 (.ref a)) (.cons rfl .nil) _ _ hsp) fun z s' hz => ?_
  match z, hz with
  | .error _, hz => exact absurd hz fun q => q
  | .ok .next, hz => exact hz.elim
  | .ok .brk, hz => exact hz.elim
  | .ok .cont, hz => exact hz.elim
  | .ok (.ret u), hz =>
    obtain ⟨v, H', os, bare, un, hok2, rv, q⟩ := hz
    cases (show v = .bl true from q)
    cases (show u = Value.bool true from rv)
    refine ⟨rfl, OldK.of_keep fun b o g => ?_, os, bare⟩
    rcases only b with z | ⟨ob, xs, z⟩
    · exact un.keep b o g z (fun y => nomatch y) (List.not_mem_nil)
    · obtain ⟨g1, _⟩ := hok b _ z
      rw [g] at g1
      cases g1
      exact (hok2 b _ (un.frzs b _ _ z)).1
theorem vals_of : ∀ {vs : List Value} {ns : List Int}, IntsAre vs ns → Vals (ns.map V.int) vs
  | _, _, .nil => .nil
  | _, _, .cons n t h => .cons ⟨t, rfl⟩ (vals_of h)
theorem law_endG (kin : K.In s1.heap) (gl : s1.heap.Ns mainGlobals mg) (bl : s1.heap.Ns builtinsNs mb) (bb : ∀ x : Str, x ≠ "__name__" → mb x = bootBuiltins x) (lim : s1.heap.NoLimit) (ge : s1.gens = #[])
    (obj : s1.heap.get? a = some { cls := .type "list", data := .seq vs.toArray }) (isI : IntsAre vs ns) (hl : ns.length ≤ sizeLine) (room : Room k callerA) (F : ∀ base : Heap, K.In base → base.Ns mainGlobals mg → FnG P w K mg base k fa fd [x] sp)
    (bind : ∀ (s : Shared) (u : Value), BindsTo s fd ⟨[u], []⟩ [(x, u)]) (hsp : ∀ H : Hp, SqL K H a (ns.map V.int) → sp [.ref a] H (fun v _ => v = .bl true) fun _ _ _ => False) :
    codeAny (model P w) callerA (.call (.ref fa) ⟨[.ref a], []⟩) (fun r s' => r = .ok (.ret (.bool true)) ∧ OldK s1.heap s'.heap ∧ s'.os = s1.os ∧ AllBare s'.gens) s1 := by
  have rv := vals_of isI
  have lv := isI.length
  cases q : K.lookup a with
  | some o =>
    have g := kin a o q
    rw [obj] at g
    cases g
    have sq : SqL K (fun _ => none) a (ns.map V.int) := .inr ⟨_, vs.toArray, _, q, rfl, rfl, rfl, by rw [List.size_toArray, lv]; exact hl, by simpa using rv⟩
    exact law_core kin gl bl bb lim ge obj room F bind (H := fun _ => none) (fun _ => .inl rfl) (hsp _ sq) (fun b u z => nomatch (show (none : Option HO) = some u from z)) (fun b z => absurd rfl z) fun z => absurd rfl z
  | none =>
    let ob : Obj := { cls := .type "list", data := .seq vs.toArray }
    let H : Hp := fun b => if b = a then some (.frz ob (.lst (ns.map V.int))) else none
    have ha : H a = some (.frz ob (.lst (ns.map V.int))) := if_pos rfl
    have hn : ∀ b, b ≠ a → H b = none := fun b n => if_neg n
    have one : ∀ b, H b ≠ none → b = a := fun b z => Classical.byContradiction fun n => z (hn b n)
    refine law_core kin gl bl bb lim ge obj room F bind (H := H) (fun b => ?_) (hsp H (.inl (.inr ⟨ob, ha⟩))) (fun b u z => ?_) one fun _ => q
    · by_cases e : b = a
      · subst e
        exact .inr ⟨_, _, ha⟩
      · exact .inl (hn b e)
    · have e := one b (by rw [z]; exact fun y => nomatch y)
      subst e
      rw [ha] at z
      cases z
      exact ⟨obj, by rw [List.length_map]; exact hl, vs, _, rv, obj⟩
end
/-- a law over a head by facts -/
theorem walk_G {l : PySem.W.OpenLaw} {n k : Nat} {q : Program} {loose : List Str} {XP : (Str → Option Value) → Heap → Prop} {YP : World → Heap → Prop} {d : DefRec} {x : Str} (hn : l.most = some n) (hn2 : n ≤ sizeLine) (hdf : d.params.defaults = []) (room : Room k callerA)
    (F : ∀ (w : World) (mg : Str → Option Value) (fa : Addr) (h : Heap), YP w h → h.Ns mainGlobals mg → mg d.name = some (.ref fa) → ∃ (K : PySem.W.Frag) (fd : FuncData) (sp : Sp), K.In h ∧ (∀ (s : Shared) (u : Value), BindsTo s fd ⟨[u], []⟩ [(x, u)]) ∧
        (∀ (H : Hp) (a : Addr) (ns : List Int), ns.length ≤ n → SqL K H a (ns.map V.int) → sp [.ref a] H (fun v _ => v = .bl true) fun _ _ _ => False) ∧
        ∀ base : Heap, K.In base → base.Ns mainGlobals mg → FnG l.prog w K mg base k fa fd [x] sp) : PySem.W.WalkO q loose XP YP l.row.toRowW d [] (fun f vs => PySem.call f vs) := by
  refine Att.attach_call hn hdf fun w s0 s1 mg mb fa o pm cd doc a vs ns G Y ho hd hcd hmg hobj hints hlen hg => ?_
  obtain ⟨K, fd, sp, kin, bind, hsp, hF⟩ := F w mg fa _ Y G.T.g hmg
  exact law_endG kin G.T.g G.T.b G.T.builtins G.T.nolimit hg hobj hints (Nat.le_trans hlen hn2) room hF bind fun H hS => hsp H a ns hlen hS
end Y
namespace Y
open PySem PySem.Spec PyProof.Rows L2

/-! ### the law's end where lambdas are made: empty tables of code objects at the start -/
section
variable {P : Program} {w : World} {K : PySem.W.Frag} {mg mb : Str → Option Value} {k : Nat} {fa a : Addr} {fd : FuncData} {x : Str} {sp : Sp} {s1 : Shared} {vs : List Value} {ns : List Int} {cs : List (Addr × Addr)}
/-- what is known of the module's bindings for a built-ins' module -/
def MainB (mg : Str → Option Value) (h : Heap) : Prop := ∃ (bm : Addr) (ob : Obj), mg "__builtins__" = some (.ref bm) ∧ bm ≠ builtinsNs ∧ h.get? bm = some ob ∧ ob.cls = .type "module" ∧ ob.dict = some builtinsNs ∧ ob.data = .plain
theorem lawT (kin : K.In s1.heap) (gl : s1.heap.Ns mainGlobals mg) (bl : s1.heap.Ns builtinsNs mb) (bb : ∀ x : Str, x ≠ "__name__" → mb x = bootBuiltins x) (lim : s1.heap.NoLimit) (ge : s1.gens = #[])
    (tabs : ∀ p ∈ cs, s1.heap.get? p.2 = some { cls := .none, data := .fields #[] }) (tabK : ∀ p ∈ cs, K.lookup p.2 = none) (hds : ∀ p ∈ cs, PySem.W.CodeHd s1.heap p.1 p.2) (bmain : MainB mg s1.heap)
    (obj : s1.heap.get? a = some { cls := .type "list", data := .seq vs.toArray }) (room : Room k callerA)
    (F : ∀ base : Heap, K.In base → base.Ns mainGlobals mg → (∀ p ∈ cs, LamX.TabB base mg p.1 p.2) → FnG P w K mg base k fa fd [x] sp)
    (bind : ∀ (s : Shared) (u : Value), BindsTo s fd ⟨[u], []⟩ [(x, u)]) {H : Hp} (inT : ∀ p ∈ cs, H p.2 = some (.tbl #[])) (only : ∀ b, H b = none ∨ (∃ p ∈ cs, b = p.2) ∨ ∃ o xs, H b = some (.frz o (.lst xs)))
    (hsp : sp [.ref a] H (fun v _ => v = .bl true) fun _ _ _ => False) (hok : HOk P w H s1.heap) (at_ : ∀ b, H b ≠ none → b = a ∨ ∃ p ∈ cs, b = p.2) (hK : H a ≠ none → K.lookup a = none) :
    codeAny (model P w) callerA (.call (.ref fa) ⟨[.ref a], []⟩) (fun r s' => r = .ok (.ret (.bool true)) ∧ OldK s1.heap s'.heap ∧ s'.os = s1.os ∧ AllBare s'.gens) s1 := by
  have free : ∀ {b : Addr} {o : Obj}, s1.heap.get? b = some o → (∀ us n, o.data ≠ .seq us n) → o.data ≠ .fields #[] → H b = none := fun {b o} g n1 n2 => Classical.byContradiction fun z => by
    rcases at_ b z with y | ⟨p, hp, y⟩
    · rw [y, obj] at g
      cases g
      exact n1 _ _ rfl
    · rw [y, tabs p hp] at g
      cases g
      exact n2 rfl
  have up : ∀ {b : Addr} {o : Obj}, s1.heap.get? b = some o → (∀ us n, o.data ≠ .seq us n) → o.data ≠ .fields #[] → (hidT s1.heap H).get? b = some o := fun g n1 n2 => hidT_get g (free g n1 n2)
  have ns2 : ∀ {b : Addr} {m : Str → Option Value}, s1.heap.Ns b m → (hidT s1.heap H).Ns b m := fun {b m} h => by
    obtain ⟨o, es, ep, g, d, r⟩ := h
    exact ⟨o, es, ep, up g (fun _ _ z => by rw [d] at z; cases z) (fun z => by rw [d] at z; cases z), d, r⟩
  have kin2 : K.In (hidT s1.heap H) := fun b o g => hidT_get (kin b o g) (Classical.byContradiction fun z => by
    rcases at_ b z with y | ⟨p, hp, y⟩
    · subst y
      rw [hK z] at g
      cases g
    · subst y
      rw [tabK p hp] at g
      cases g)
  have lim2 : (hidT s1.heap H).NoLimit := by
    obtain ⟨mc, l1, l2⟩ := lim
    exact ⟨mc, ns2 l1, l2⟩
  have tb : ∀ p ∈ cs, LamX.TabB (hidT s1.heap H) mg p.1 p.2 := fun p hp => by
    have tp := tabs p hp
    refine ⟨?_, ?_, fun z => ?_⟩
    · obtain ⟨o, us, file, tf, flags, tg, inF, text, tt, q1, q2, q3, q4, q5⟩ := hds p hp
      refine ⟨o, us, file, tf, flags, tg, inF, text, tt, up q1 (fun _ _ z => by rw [q3] at z; cases z) (fun z => ?_), q2, q3, q4, q5⟩
      rw [q3] at z
      injection z with z
      rw [z] at q4
      exact absurd q4 (by simp)
    · obtain ⟨bm, ob, b1, b2, b3, b4, b5, b6⟩ := bmain
      refine ⟨bm, ob, b1, b2, fun q => ?_, fun q => ?_, up b3 (fun _ _ z => by rw [b6] at z; cases z) (fun z => by rw [b6] at z; cases z), b4, b5, b6⟩
      · obtain ⟨o, es, ep, g, d, _⟩ := gl
        rw [q, g] at b3
        cases b3
        rw [d] at b6
        cases b6
      · rw [q, tp] at b3
        cases b3
        cases b6
    · obtain ⟨o, es, ep, g, d, _⟩ := gl
      rw [z, tp] at g
      cases g
      cases d
  have e0 : Env0 P w K mg (hidT s1.heap H) callerA [] s1 H :=
    ⟨rfl, ⟨kin2, ns2 gl, ⟨mb, ns2 bl, bb⟩, lim2⟩, fun b o g => of_hidT g, Nat.le_of_eq (hidT_size _ _), trivial, (fun b z => absurd z List.not_mem_nil), hok, .of_eq ge⟩
  refine codeAny_mono ((F _ kin2 (ns2 gl) tb).go callerA rfl room [] s1 H e0 _ [.ref a] [.ref a] (bind s1 (.ref a)) (.cons rfl .nil) _ _ hsp) fun z s' hz => ?_
  match z, hz with
  | .error _, hz => exact absurd hz fun q => q
  | .ok .next, hz => exact hz.elim
  | .ok .brk, hz => exact hz.elim
  | .ok .cont, hz => exact hz.elim
  | .ok (.ret u), hz =>
    obtain ⟨v, H', os, bare, un, hok2, rv, q⟩ := hz
    cases (show v = .bl true from q)
    cases (show u = Value.bool true from rv)
    have old : ∀ b o, (¬ ∃ p ∈ cs, b = p.2) → s1.heap.get? b = some o → s'.heap.get? b = some o := fun b o n g => by
      rcases only b with z | z | ⟨ob, xs, z⟩
      · exact un.keep b o g z (fun y => nomatch y) (List.not_mem_nil)
      · exact absurd z n
      · obtain ⟨g1, _⟩ := hok b _ z
        rw [g] at g1
        cases g1
        exact (hok2 b _ (un.frzs b _ _ z)).1
    have tabN : ∀ p ∈ cs, ∃ more : Array Value, s'.heap.get? p.2 = some { cls := .none, data := .fields more } := fun p hp => by
      obtain ⟨more, z⟩ := un.tbls p.2 #[] (inT p hp)
      exact ⟨_, hok2 p.2 _ z⟩
    refine ⟨rfl, ⟨fun b o g => ?_, fun b o g => ?_⟩, os, bare⟩
    · by_cases hb : ∃ p ∈ cs, b = p.2
      · obtain ⟨p, hp, rfl⟩ := hb
        obtain ⟨more, hm⟩ := tabN p hp
        have tp := tabs p hp
        rw [g] at tp
        cases tp
        exact .inr (.inl ⟨((hds p hp).tab (tabs p hp)).isCodeTable, rfl, #[], more, rfl, by rw [Array.empty_append]; exact hm⟩)
      · exact .inl (old b o hb g)
    · by_cases hb : ∃ p ∈ cs, b = p.2
      · obtain ⟨p, hp, rfl⟩ := hb
        obtain ⟨more, hm⟩ := tabN p hp
        exact ⟨_, hm⟩
      · exact ⟨o, old b o hb g⟩
theorem law_endT (kin : K.In s1.heap) (gl : s1.heap.Ns mainGlobals mg) (bl : s1.heap.Ns builtinsNs mb) (bb : ∀ x : Str, x ≠ "__name__" → mb x = bootBuiltins x) (lim : s1.heap.NoLimit) (ge : s1.gens = #[])
    (tabs : ∀ p ∈ cs, s1.heap.get? p.2 = some { cls := .none, data := .fields #[] }) (tabK : ∀ p ∈ cs, K.lookup p.2 = none) (hds : ∀ p ∈ cs, PySem.W.CodeHd s1.heap p.1 p.2) (bmain : MainB mg s1.heap)
    (obj : s1.heap.get? a = some { cls := .type "list", data := .seq vs.toArray }) (isI : IntsAre vs ns) (hl : ns.length ≤ sizeLine) (room : Room k callerA)
    (F : ∀ base : Heap, K.In base → base.Ns mainGlobals mg → (∀ p ∈ cs, LamX.TabB base mg p.1 p.2) → FnG P w K mg base k fa fd [x] sp)
    (bind : ∀ (s : Shared) (u : Value), BindsTo s fd ⟨[u], []⟩ [(x, u)]) (hsp : ∀ H : Hp, (∀ p ∈ cs, H p.2 = some (.tbl #[])) → SqL K H a (ns.map V.int) → sp [.ref a] H (fun v _ => v = .bl true) fun _ _ _ => False) :
    codeAny (model P w) callerA (.call (.ref fa) ⟨[.ref a], []⟩) (fun r s' => r = .ok (.ret (.bool true)) ∧ OldK s1.heap s'.heap ∧ s'.os = s1.os ∧ AllBare s'.gens) s1 := by
  have rv := vals_of isI
  have lv := isI.length
  have aT : ∀ p ∈ cs, p.2 ≠ a := fun p hp z => by
    have tp := tabs p hp
    rw [z, obj] at tp
    cases tp
  cases q : K.lookup a with
  | some o =>
    have g := kin a o q
    rw [obj] at g
    cases g
    let H : Hp := fun b => if ∃ p ∈ cs, b = p.2 then some (.tbl #[]) else none
    have sq : SqL K H a (ns.map V.int) := .inr ⟨_, vs.toArray, _, q, rfl, rfl, rfl, by rw [List.size_toArray, lv]; exact hl, by simpa using rv⟩
    have hp0 : ∀ b u, H b = some u → (∃ p ∈ cs, b = p.2) ∧ u = .tbl #[] := fun b u z => by
      by_cases hb : ∃ p ∈ cs, b = p.2
      · exact ⟨hb, (Option.some.inj ((if_pos hb).symm.trans z)).symm⟩
      · exact absurd ((if_neg hb).symm.trans z) (fun z => nomatch z)
    have hT : ∀ p ∈ cs, H p.2 = some (.tbl #[]) := fun p hp => if_pos ⟨p, hp, rfl⟩
    refine lawT kin gl bl bb lim ge tabs tabK hds bmain obj room F bind (H := H) hT (fun b => ?_) (hsp H hT sq) (fun b u z => ?_) (fun b z => ?_) fun z => ?_
    · cases e : H b with
      | none => exact .inl rfl
      | some u => exact .inr (.inl (hp0 b u e).1)
    · obtain ⟨⟨p, hp, rfl⟩, rfl⟩ := hp0 b u z
      exact tabs p hp
    · obtain ⟨u, e⟩ : ∃ u, H b = some u := by
        cases e : H b with
        | none => exact absurd e z
        | some u => exact ⟨u, rfl⟩
      exact .inr (hp0 b u e).1
    · obtain ⟨u, e⟩ : ∃ u, H a = some u := by
        cases e : H a with
        | none => exact absurd e z
        | some u => exact ⟨u, rfl⟩
      obtain ⟨⟨p, hp, e2⟩, _⟩ := hp0 a u e
      exact absurd e2.symm (aT p hp)
  | none =>
    let ob : Obj := { cls := .type "list", data := .seq vs.toArray }
    let H : Hp := fun b => if b = a then some (.frz ob (.lst (ns.map V.int))) else if ∃ p ∈ cs, b = p.2 then some (.tbl #[]) else none
    have ha : H a = some (.frz ob (.lst (ns.map V.int))) := if_pos rfl
    have hT : ∀ p ∈ cs, H p.2 = some (.tbl #[]) := fun p hp => (if_neg (aT p hp)).trans (if_pos ⟨p, hp, rfl⟩)
    have hp0 : ∀ b u, H b = some u → b ≠ a → (∃ p ∈ cs, b = p.2) ∧ u = .tbl #[] := fun b u z n => by
      have z := (if_neg n).symm.trans z
      by_cases hb : ∃ p ∈ cs, b = p.2
      · exact ⟨hb, (Option.some.inj ((if_pos hb).symm.trans z)).symm⟩
      · exact absurd ((if_neg hb).symm.trans z) (fun z => nomatch z)
    refine lawT kin gl bl bb lim ge tabs tabK hds bmain obj room F bind (H := H) hT (fun b => ?_) (hsp H hT (.inl (.inr ⟨ob, ha⟩))) (fun b u z => ?_) (fun b z => ?_) fun _ => q
    · by_cases e : b = a
      · subst e
        exact .inr (.inr ⟨_, _, ha⟩)
      · cases z : H b with
        | none => exact .inl rfl
        | some u => exact .inr (.inl (hp0 b u z e).1)
    · by_cases e : b = a
      · subst e
        rw [ha] at z
        cases z
        exact ⟨obj, by rw [List.length_map]; exact hl, vs, _, rv, obj⟩
      · obtain ⟨⟨p, hp, rfl⟩, rfl⟩ := hp0 b u z e
        exact tabs p hp
    · by_cases e : b = a
      · exact .inl e
      · obtain ⟨u, y⟩ : ∃ u, H b = some u := by
          cases y : H b with
          | none => exact absurd y z
          | some u => exact ⟨u, rfl⟩
        exact .inr (hp0 b u y e).1
end
/-- a law over a head by facts, where lambdas are made -/
theorem walk_T {l : PySem.W.OpenLaw} {n k : Nat} {q : Program} {loose : List Str} {XP : (Str → Option Value) → Heap → Prop} {YP : World → Heap → Prop} {d : DefRec} {x : Str} (hn : l.most = some n) (hn2 : n ≤ sizeLine) (hdf : d.params.defaults = []) (room : Room k callerA)
    (F : ∀ (w : World) (mg : Str → Option Value) (fa : Addr) (h : Heap), YP w h → h.Ns mainGlobals mg → mg d.name = some (.ref fa) → ∃ (K : PySem.W.Frag) (fd : FuncData) (sp : Sp) (cs : List (Addr × Addr)), K.In h ∧ (∀ p ∈ cs, h.get? p.2 = some { cls := .none, data := .fields #[] }) ∧ (∀ p ∈ cs, K.lookup p.2 = none) ∧ (∀ p ∈ cs, PySem.W.CodeHd h p.1 p.2) ∧
        (∀ (s : Shared) (u : Value), BindsTo s fd ⟨[u], []⟩ [(x, u)]) ∧
        (∀ (H : Hp) (a : Addr) (ns : List Int), ns.length ≤ n → (∀ p ∈ cs, H p.2 = some (.tbl #[])) → SqL K H a (ns.map V.int) → sp [.ref a] H (fun v _ => v = .bl true) fun _ _ _ => False) ∧
        ∀ base : Heap, K.In base → base.Ns mainGlobals mg → (∀ p ∈ cs, LamX.TabB base mg p.1 p.2) → FnG l.prog w K mg base k fa fd [x] sp) : PySem.W.WalkO q loose XP YP l.row.toRowW d [] (fun f vs => PySem.call f vs) := by
  refine Att.attach_call hn hdf fun w s0 s1 mg mb fa o pm cd doc a vs ns G Y ho hd hcd hmg hobj hints hlen hg => ?_
  obtain ⟨K, fd, sp, cs, kin, t1, t2, t3, bind, hsp, hF⟩ := F w mg fa _ Y G.T.g hmg
  exact law_endT kin G.T.g G.T.b G.T.builtins G.T.nolimit hg t1 t2 t3 G.T.bmain hobj hints (Nat.le_trans hlen hn2) room hF bind fun H hT hS => hsp H a ns hlen hT hS
end Y
namespace Y
open PySem PySem.Spec PyProof.Rows L2

section
variable {K : PySem.W.Frag} {ct : Ct} {S H : Hp} {m : M} {G : Pm} {x : V} {ds : List D}
theorem RepM.lstS (hm : m = .s ∨ m = .o .s) (e : Same S H) (h : RepM K ct S H m G (.lst ds) x) : ∃ a vs, x = .ref a ∧ H a = some (.lst vs) ∧ Reps K ct S ds vs := by
  rcases hm with rfl | rfl
  · unfold RepM Rep at h
    obtain ⟨a, vs, e1, e2, e3⟩ := h
    exact ⟨a, vs, e1, e _ _ e2, e3⟩
  · unfold RepM at h
    obtain ⟨a, vs, ds', F', e1, e2, e3, e4, e5, e6⟩ := h
    cases e1
    exact ⟨a, vs, e2, e4, Items.reps (F := F') (e6.mono fun G d v _ z => by unfold RepM at z; exact z)⟩
theorem RepM.tupS (h : RepM K ct S H m G (.tup ds) x) : Rep K ct S (.tup ds) x := by
  cases m with
  | s =>
    unfold RepM at h
    exact h
  | o m =>
    unfold RepM at h
    obtain ⟨a, vs, ds', F', e1, _⟩ := h
    cases e1
  | dk =>
    unfold RepM at h
    obtain ⟨a, ks, vs, ds', e1, _⟩ := h
    cases e1
  | dt =>
    unfold RepM at h
    obtain ⟨a, ks, vs, ds', e1, _⟩ := h
    cases e1
  | ins c ns ms =>
    unfold RepM at h
    obtain ⟨a, C, dx, vs, ds', F', e1, _⟩ := h
    cases e1
  | fnil =>
    unfold RepM at h
    exact h.elim
  | fcons _ _ =>
    unfold RepM at h
    exact h.elim
end

mutual
theorem noDict : ∀ (d : D), d.isPy = true → d.toPy.hasDict = false
  | .non, _ => rfl
  | .bl _, _ => rfl
  | .int _, _ => rfl
  | .str _, _ => rfl
  | .tup ds, h => by
    show PyData.hasDict (.tuple (D.toPys ds)) = false
    unfold PyData.hasDict
    exact noDicts ds h
  | .lst ds, h => by
    show PyData.hasDict (.list (D.toPys ds)) = false
    unfold PyData.hasDict
    exact noDicts ds h
  | .scr _, h => by cases h
  | .dk _ _, h => by cases h
  | .dt _ _, h => by cases h
  | .obj _ _ _, h => by cases h
  | .tupk _, h => by cases h
theorem noDicts : ∀ (ds : List D), D.arePy ds = true → PyData.hasDictAll (D.toPys ds) = false
  | [], _ => rfl
  | d :: ds, h => by
    have h : (d.isPy && D.arePy ds) = true := h
    rw [Bool.and_eq_true] at h
    show PyData.hasDictAll (d.toPy :: D.toPys ds) = false
    unfold PyData.hasDictAll
    rw [noDict d h.1, noDicts ds h.2]
    rfl
end
section
variable {X : Cx} {ct : Ct}
def B1.val (f : B1) : Value := match f with
  | .int => .type "int" | .list => .type "list" | .tuple => .type "tuple" | .str => .type "str"
  | .len => .builtin "len" | .abs => .builtin "abs" | .sum => .builtin "sum" | .repr => .builtin "repr" | .any => .builtin "any" | .all => .builtin "all" | .max => .builtin "max" | .min => .builtin "min" | .sorted => .builtin "sorted"
def rB1 (K : PySem.W.Frag) (ct : Ct) (f : B1) : List V → Hp → VK → Prop := fun xs H Q => ∃ x S d m G k, xs = [x] ∧ Same S H ∧ RepM K ct S H m G d x ∧ b1D f m d k ∧ Kt K ct S H k Q
theorem repr_run {pins : List (Addr × Obj)} {σ : L2.St} {s : Shared} {S H : Hp} {d : D} {x : V} {u : Value} {Q : VK} (gd : X.A.guards = some []) (un : X.A.units + 70 < cLine) (I : L2.Inv X pins σ H s) (rx : RelV x u) (hs : Same S H) (hd : Rep X.K ct S d x) (sh : showD d)
    (q : Q (.str d.toPy.shown) H) : wpAny (model X.prog X.w) X.A (call (.builtin "repr") [u]) (EP X pins σ Q) X.xe s := by
  obtain ⟨h1, h2, h3, h4⟩ := sh
  have dp := hd.dp hs h1
  have nd : d.toPy.hasDict = false := noDict d h1
  have fin : ∀ u tk, EP X pins σ Q (.str d.toPy.shown u) { s with toks := tk } := fun u tk => ⟨.str d.toPy.shown, H, I.tok tk, ⟨u, rfl⟩, q⟩
  obtain ⟨as, rd⟩ := Dp.reads I d.toPy x u dp rx
  have big : ∀ a, u = .ref a → wpAny (model X.prog X.w) X.A (call (.builtin "repr") [u]) (EP X pins σ Q) X.xe s := fun a e => by
    subst e
    refine repr_of_reads' rd h2 (PyData.noDict_hsm nd) gd (by omega) (fun _ _ e => e) (fun h' v tk hk => ?_) h4
    exact ⟨.str d.toPy.shown, H, I.kept (t' := tk) hk, ⟨v, rfl⟩, q⟩
  cases d with
  | non =>
    cases rd
    exact P.repr_of_none (fin _ _)
  | bl b =>
    cases rd
    exact P.repr_of_bool (fin _ _)
  | int i =>
    cases rd
    exact P.repr_of_int (by simpa [D.toPy, PyData.showable] using h2) (fin _ _)
  | str y =>
    cases rd
    exact P.repr_of_str (fin _ _) h4
  | tup ds =>
    obtain ⟨a, e⟩ : ∃ a, u = .ref a := by
      unfold Rep at hd
      obtain ⟨a, vs, rfl, _⟩ := hd
      exact ⟨a, rx⟩
    exact big a e
  | lst ds =>
    obtain ⟨a, e⟩ : ∃ a, u = .ref a := by
      unfold Rep at hd
      obtain ⟨a, vs, rfl, _⟩ := hd
      exact ⟨a, rx⟩
    exact big a e
  | _ => cases h1
theorem call_b1 (hc : X.calm = true) (gd : X.A.guards = some []) (un : X.A.units + 70 < cLine) {f : B1} : CallR X f.val (rB1 X.K ct f) := by
  intro pins s σ H xs us Q I r ⟨x, S, d, m, G, k, e, hs, hd, hb, kt⟩
  subst e
  have hr := hd.rd hs
  unfold b1D at hb
  split at hb
  · unfold Rep at hr
    obtain ⟨a, vs, rfl, e2, e3⟩ := hr
    refine call_len pins s σ H _ us Q I r ⟨_, vs.length, rfl, .inl ⟨vs, SqL.of e2, rfl⟩, kt.val hs ?_ hb⟩
    rw [← e3.length]
    exact rInt _
  · unfold Rep at hr
    obtain ⟨a, vs, rfl, e2, e3⟩ := hr
    refine call_len pins s σ H _ us Q I r ⟨_, vs.length, rfl, .inr ⟨vs, e2, rfl⟩, kt.val hs ?_ hb⟩
    rw [← e3.length]
    exact rInt _
  · unfold Rep at hr
    obtain ⟨a, rfl, e2⟩ := hr
    refine call_len pins s σ H _ us Q I r ⟨_, _, rfl, .inl ⟨_, e2, rfl⟩, kt.val hs ?_ hb⟩
    rw [List.length_map]
    exact rInt _
  · unfold Rep at hr
    subst hr
    exact call_len pins s σ H _ us Q I r ⟨_, _, rfl, ⟨hb.1, rfl⟩, kt.val hs (rInt _) hb.2⟩
  · unfold Rep at hr
    subst hr
    exact call_int1 pins s σ H _ us Q I r (.inl ⟨_, rfl, kt.val hs (rInt _) hb⟩)
  · unfold Rep at hr
    subst hr
    exact call_int1 pins s σ H _ us Q I r (.inr ⟨_, rfl, kt.val hs (rInt _) hb⟩)
  · unfold Rep at hr
    subst hr
    exact call_abs pins s σ H _ us Q I r ⟨_, rfl, kt.val hs (rInt _) hb⟩
  · obtain ⟨ns, rfl, hb⟩ := hb
    unfold Rep at hr
    obtain ⟨a, vs, rfl, e2, e3⟩ := hr
    rw [e3.ints] at e2
    exact cr_sum hc pins s σ H _ us Q I r ⟨a, ns, rfl, SqL.of e2, kt.val hs (rInt _) hb⟩
  · obtain ⟨ns, rfl, hb⟩ := hb
    unfold Rep at hr
    obtain ⟨a, vs, rfl, e2, e3⟩ := hr
    rw [e3.bls] at e2
    exact cr_any hc pins s σ H _ us Q I r ⟨a, ns, rfl, SqL.of e2, kt.val hs (rBl _) hb⟩
  · obtain ⟨ns, rfl, hb⟩ := hb
    unfold Rep at hr
    obtain ⟨a, vs, rfl, e2, e3⟩ := hr
    rw [e3.bls] at e2
    exact cr_all hc pins s σ H _ us Q I r ⟨a, ns, rfl, SqL.of e2, kt.val hs (rBl _) hb⟩
  · obtain ⟨ns, rfl, h0, hb⟩ := hb
    unfold Rep at hr
    obtain ⟨a, vs, rfl, e2, e3⟩ := hr
    rw [e3.ints] at e2
    exact cr_max hc pins s σ H _ us Q I r ⟨a, ns, rfl, SqL.of e2, h0, fun n h1 h2 => kt.val hs (rInt _) (hb n h1 h2)⟩
  · obtain ⟨ns, rfl, h0, hb⟩ := hb
    unfold Rep at hr
    obtain ⟨a, vs, rfl, e2, e3⟩ := hr
    rw [e3.ints] at e2
    exact cr_min hc pins s σ H _ us Q I r ⟨a, ns, rfl, SqL.of e2, h0, fun n h1 h2 => kt.val hs (rInt _) (hb n h1 h2)⟩
  · obtain ⟨ns, rfl, hb⟩ := hb
    unfold Rep at hr
    obtain ⟨a, vs, rfl, e2, e3⟩ := hr
    rw [e3.ints] at e2
    exact cr_sortedI pins s σ H _ us Q I r ⟨a, ns, rfl, SqL.of e2, fun ns' p h1 h2 hp => kt.newL hs (Reps.of_ints ns') (hb ns' h1 h2) hp⟩
  · obtain ⟨a, vs, rfl, e2, e3⟩ := hd.lstS hb.1 hs
    exact call_list_of pins s σ H _ us Q I r ⟨a, vs, rfl, .inl (SqL.of e2), fun p hp => kt.newL hs e3 hb.2 hp⟩
  · have hq := hd.tupS
    unfold Rep at hq
    obtain ⟨a, vs, rfl, e2, e3⟩ := hq
    exact call_list_of pins s σ H _ us Q I r ⟨a, vs, rfl, .inr (Same.seqT hs e2), fun p hp => kt.newL hs e3 hb hp⟩
  · obtain ⟨a, vs, rfl, e2, e3⟩ := hd.lstS hb.1 hs
    exact call_tuple_of pins s σ H _ us Q I r ⟨a, vs, rfl, .inl ⟨SqL.of e2, fun p hp => kt.newT hs e3 hb.2 hp⟩⟩
  · have hq := hd.tupS
    have hq0 := hq
    unfold Rep at hq
    obtain ⟨a, vs, rfl, e2, e3⟩ := hq
    exact call_tuple_of pins s σ H _ us Q I r ⟨a, vs, rfl, .inr ⟨Same.seqT hs e2, kt.val hs hq0 hb⟩⟩
  · unfold Rep at hr
    subst hr
    exact call_str_int pins s σ H _ us Q I r ⟨_, rfl, hb.1, kt.val hs (rStr _) hb.2⟩
  · cases r with
    | cons r rr =>
      cases rr
      exact repr_run gd un I r (Same.refl _) hr hb.1 (kt.val hs (rStr _) hb.2)
  · exact hb.elim
def rSl (K : PySem.W.Frag) (ct : Ct) : V → Option Int → Option Int → Hp → VK → Prop := fun x lo hi H Q => ∃ S d m G k, Same S H ∧ RepM K ct S H m G d x ∧ sliceD m d lo hi k ∧ Kt K ct S H k Q
theorem cutD_whole {xs : List D} {lo hi : Option Int} (h : HT.sIx xs.length 0 lo = 0 ∧ HT.sIx xs.length xs.length hi = xs.length) : cutD xs lo hi = xs := by
  unfold cutD
  rw [h.1, h.2, List.drop_zero, Nat.sub_zero, List.take_length]
theorem sl_any : SlR X (rSl X.K ct) := by
  intro pins s σ H x v vl vu lo hi sl Q I rx hsl pl pu ⟨S, d, m, G, k, hs, hd, hb, kt⟩
  unfold sliceD at hb
  split at hb
  · obtain ⟨a, vs, rfl, e2, e3⟩ := hd.lstS hb.1 hs
    exact sl_list pins s σ H _ v vl vu lo hi sl Q I rx hsl pl pu ⟨a, vs, rfl, SqL.of e2, fun p hp => kt.newL hs (e3.cut lo hi) hb.2 hp⟩
  · have hq := hd.tupS
    unfold Rep at hq
    obtain ⟨a, vs, rfl, e2, e3⟩ := hq
    refine sl_tupA pins s σ H _ v vl vu lo hi sl Q I rx hsl pl pu ⟨a, vs, rfl, Same.seqT hs e2, fun z => ?_, fun _ p hp => kt.newT hs (e3.cut lo hi) hb hp⟩
    refine kt.val hs (d := .tup (cutD _ lo hi)) ?_ hb
    have e : cutD _ lo hi = _ := cutD_whole (by rw [e3.length]; exact z)
    rw [e]
    exact hd.tupS
  · exact hb.elim
def rIdx (K : PySem.W.Frag) (ct : Ct) : V → List V → Hp → VK → Prop := fun x xs H Q => ∃ y S d e k, xs = [y] ∧ Same S H ∧ Rep K ct H d x ∧ Rep K ct S e y ∧ indexD d e k ∧ ∀ j, k j → Q (.int j) H
theorem mt_idx : MtR X "list.index" (rIdx X.K ct) := by
  intro pins s σ H x xs v us Q I rx rs ⟨y, S, d, e, k, e1, hs, hd, he, hb, q⟩
  subst e1
  unfold indexD at hb
  split at hb
  · obtain ⟨h1, h2, j, z, h3, h4, h5, h6⟩ := hb
    unfold Rep at hd
    obtain ⟨a, vs, rfl, e2, e3⟩ := hd
    obtain ⟨f1, f2⟩ := he.flat h1
    obtain ⟨f3, f4⟩ := e3.flat h2
    subst f1
    subst f3
    refine mt_index pins s σ H _ _ v us Q I rx rs ⟨a, _, _, j, z.toV, rfl, rfl, SqL.of e2, f2, f4, by rw [List.getElem?_map, h3]; rfl, h4, fun m z' hm hz => ?_, q _ h6⟩
    rw [List.getElem?_map] at hz
    cases qz : (_ : List D)[m]? with
    | none =>
      rw [qz] at hz
      cases hz
    | some w =>
      rw [qz] at hz
      cases hz
      exact h5 m w hm qz
  · exact hb.elim
end

/-! ### what a def promises -/
def SpOf (K : PySem.W.Frag) (ct : Ct) (sp : FSpec) : Sp := fun vs H Q E => ∃ (S : Hp) (ds : List D) (F : Sl → Pm) (R : D → List D → Prop), Same S H ∧ ds.length = sp.pm.length ∧ vs.length = sp.pm.length ∧
  (∀ (i : Nat) m d v, sp.pm[i]? = some m → ds[i]? = some d → vs[i]? = some v → RepM K ct S H m (F i) d v) ∧ (∀ i j a, F i a → F j a → i = j) ∧ (∀ i a, F i a → S a = none ∧ H a ≠ none) ∧ TabsF (F none) H ct.tabs ∧ sp.run ds R ∧
  ∀ v H' S' d ds' F' G, R d ds' → Same S' H' → Tr (Pt F) S H S' H' (fun a => G a ∨ Pt F' a) → RepM K ct S' H' sp.rm G d v → (∀ a, G a → S' a = none ∧ H' a ≠ none ∧ ∀ i, ¬ F' i a) → ds'.length = sp.pm.length →
    (∀ (i : Nat) m d v, sp.pm[i]? = some m → m ≠ .s → ds'[i]? = some d → vs[i]? = some v → RepM K ct S' H' m (F' i) d v) → (∀ i j a, F' i a → F' j a → i = j) → (∀ i a, F' i a → S' a = none ∧ H' a ≠ none) → TabsF (F' none) H' ct.tabs → Q v H'

def bltNames : List Str := ["len", "int", "abs", "sum", "any", "all", "max", "min", "sorted", "list", "tuple", "str", "range", "enumerate", "zip", "isinstance", "bool", "repr", "set"]
/-- what __init__ promises: the new instance becomes what sp answers -/
def initSp (C : Addr) (K : PySem.W.Frag) (ct : Ct) (sp : FSpec) : Sp := fun vs H Q E => ∃ (x dx : Addr) (vs' : List V) (H0 : Hp) (Q0 : VK), vs = .ref x :: vs' ∧ H0 x = none ∧ H0 dx = none ∧ dx ≠ x ∧ H = upd (upd H0 dx (.own x)) x (.ins C dx []) ∧
  SpOf K ct sp vs' H0 Q0 E ∧ ∀ H2, Q0 (.ref x) H2 → Q .non H2
/-- what stands behind a name that is called -/
def EntOk (P : Program) (w : World) (K : PySem.W.Frag) (mg : Str → Option Value) (base : Heap) (ct : Ct) (k : Nat) (x : Str) (sp : FSpec) : Kd → Prop
  | .fn => ∃ f fd ps, mg x = some (.ref f) ∧ PySem.W.keepIn K (.ref f) = true ∧ Binds K fd ps [] ∧ FnG P w K mg base k f fd ps (SpOf K ct sp) ∧ ∀ (s : Shared) (us : List Value), us.length = ps.length → BindsTo s fd ⟨us, []⟩ (ps.zip us)
  | .me c => ∃ C f fd ps, ct c = some C ∧ Cls K C ∧ Meth K C x f ∧ Binds K fd ps [] ∧ FnG P w K mg base k f fd ps (SpOf K ct sp)
  | .mk c => ∃ C f fd ps k', k' + 1 ≤ k ∧ ct c = some C ∧ Mk K C f ∧ mg c = some (.ref C) ∧ Binds K fd ps [] ∧ FnG P w K mg base k' f fd ps (initSp C K ct sp)
  | .pr c => ∃ C pp f fd ps k', k' + 1 ≤ k ∧ ct c = some C ∧ Cls K C ∧ PropOf K C x pp f ∧ Binds K fd ps [] ∧ FnG P w K mg base k' f fd ps (SpOf K ct sp)
structure XOk (T : List FSpec) (ct : Ct) (Z : SC) (k : Nat) (X : Cx) : Prop where
  N : X.N = Z.N
  nd : Z.N.Nodup
  sc : X.env.scope = Z.sc
  fn : X.fn = Z.fn
  calm : X.calm = true
  room0 : Room (k + Z.lr) X.A
  gd : X.A.guards = some []
  free : ∀ x ∈ bltNames, X.mg x = none
  fns : ∀ (j : Nat) (sp : FSpec), T[j]? = some sp → ∃ x kd, Z.FN[j]? = some x ∧ Z.KN[j]? = some kd ∧ EntOk X.prog X.w X.K X.mg X.base ct k x sp kd
  cls : ∀ c C, ct c = some C → Cls X.K C ∧ ∀ f ∈ Z.flds, NoAttr X.K C f
  gis : ∀ p ∈ Z.gis, ∃ t, X.mg p.1 = some (.int p.2 t)
  xe : X.xe = fun _ _ => False
  kind : X.env.scope.kind = .function
  lam : Z.lr ≠ 0 → 4 ≤ Z.lr ∧ ∃ c P, X.env.code = .ref c ∧ LamX.TabB X.base X.mg c P ∧ (P, X.env.qual ++ "<lambda>") ∈ ct.tabs ∧ ∀ p ∈ ct.tabs, p.1 = P → p.2 = X.env.qual ++ "<lambda>"
theorem XOk.room {T : List FSpec} {ct : Ct} {Z : SC} {k : Nat} {X : Cx} (h : XOk T ct Z k X) : Room k X.A := h.room0.mono (Nat.le_add_right _ _)

section
variable {X : Cx} {e : Expr} {t t' : TE}
theorem PE.imp (h : PE X e t) (i : ∀ σ H Q, t' σ H Q → t σ H Q) : PE X e t' := ⟨fun pins s σ H Q I q => h.run pins s σ H Q I (i _ _ _ q)⟩
theorem PE.no (i : ∀ σ H Q, ¬ t σ H Q) : PE X e t := ⟨fun pins s σ H Q I q => (i _ _ _ q).elim⟩
theorem PT.imp {t t' : TT} (h : PT X e t) (i : ∀ σ H Q, t' σ H Q → t σ H Q) : PT X e t' := ⟨fun pins s σ H Q I q => h.run pins s σ H Q I (i _ _ _ q)⟩
theorem PT.no {t : TT} (i : ∀ σ H Q, ¬ t σ H Q) : PT X e t := ⟨fun pins s σ H Q I q => (i _ _ _ q).elim⟩
theorem PW.imp {t t' : TT} (h : PW X e t) (i : ∀ σ H Q, t' σ H Q → t σ H Q) : PW X e t' := ⟨fun wh pins s σ H Q I q => h.run wh pins s σ H Q I (i _ _ _ q)⟩
theorem PA.imp {es : List Expr} {t t' : TA} (h : PA X es t) (i : ∀ σ H Q, t' σ H Q → t σ H Q) : PA X es t' := ⟨fun po pins s σ H Q I q => h.run po pins s σ H Q I (i _ _ _ q)⟩
theorem PA.no {es : List Expr} {t : TA} (i : ∀ σ H Q, ¬ t σ H Q) : PA X es t := ⟨fun po pins s σ H Q I q => (i _ _ _ q).elim⟩
theorem PO.imp {e : Option Expr} {t t' : TO} (h : PO X e t) (i : ∀ σ H Q, t' σ H Q → t σ H Q) : PO X e t' := ⟨fun pins s σ H Q I q => h.run pins s σ H Q I (i _ _ _ q)⟩
theorem PI.imp {tg e : Expr} {t t' : TI} (h : PI X tg e t) (i : ∀ σ H Q, t' σ H Q → t σ H Q) : PI X tg e t' := ⟨fun pins s σ H Q I q => h.run pins s σ H Q I (i _ _ _ q)⟩
theorem PG.imp {e : Expr} {t t' : TG} (h : PG X e t) (i : ∀ v σ H Q, t' v σ H Q → t v σ H Q) : PG X e t' := ⟨fun pins s σ H v u Q I r q => h.run pins s σ H v u Q I r (i _ _ _ _ q)⟩
theorem PGs.imp {es : List Expr} {t t' : TGs} (h : PGs X es t) (i : ∀ v σ H Q, t' v σ H Q → t v σ H Q) : PGs X es t' := ⟨fun pins s σ H v u Q I r q => h.run pins s σ H v u Q I r (i _ _ _ _ q)⟩
end

/-! ### the readings of all forms -/
section
variable (K : PySem.W.Frag) (ct : Ct) (T : List FSpec) (pins : List (Nat × V))
def tT (c : C) : TT := fun σ H Q => ∃ (R : Bool → Env → Prop) (ρ : Env) (S : Hp) (F : Sl → Pm), wT T (pins.map (·.1)) c R ρ ∧ Sta K ct pins S H σ ρ F ∧
  ∀ b H' S' ρ' F', R b ρ' → Sta K ct pins S' H' σ ρ' F' → Tr (Pt F) S H S' H' (Pt F') → Q b H'
def tC (c : C) : TT := fun σ H Q => ∃ (R : Bool → Env → Prop) (ρ : Env) (S : Hp) (F : Sl → Pm), wC T (pins.map (·.1)) c R ρ ∧ Sta K ct pins S H σ ρ F ∧
  ∀ b H' S' ρ' F', R b ρ' → Sta K ct pins S' H' σ ρ' F' → Tr (Pt F) S H S' H' (Pt F') → Q b H'
/-- a value that is borrowed from the slot r; how its place takes another -/
def Lens (K : PySem.W.Frag) (ct : Ct) (S H : Hp) (σ : L2.St) (ρ : Env) (F : Sl → Pm) (r : Nat) (m : M) (G : Pm) (put : D → D) (v : V) : Prop :=
  ∃ mr dr vr, ρ.at r = some (mr, dr) ∧ σ[r]? = some (some vr) ∧ (m ≠ .s → ∀ S2 H2 G2 d2, Same S S2 → (∀ a, F r a → ¬ G a → H2 a = H a) → (∀ a, G2 a → F r a → G a) → RepM K ct S2 H2 m G2 d2 v → RepM K ct S2 H2 mr (fun a => G2 a ∨ (F r a ∧ ¬ G a)) (put d2) vr)
def tB (c : C) : TE := fun σ H Q => ∃ (R : M → D → (D → D) → Env → Prop) (ρ : Env) (S : Hp) (F : Sl → Pm), wB T (pins.map (·.1)) c R ρ ∧ Sta K ct pins S H σ ρ F ∧
  ∀ v H' S' ρ' F' m d put G, R m d put ρ' → Sta K ct pins S' H' σ ρ' F' → RepM K ct S' H' m G d v → (∀ a, G a → F' c.root a) → Lens K ct S' H' σ ρ' F' c.root m G put v → Tr (Pt F) S H S' H' (Pt F') → Q v H'
def tP (c : C) : TO := fun σ H Q => ∃ (R : Option Int → Env → Prop) (ρ : Env) (S : Hp) (F : Sl → Pm), wP T (pins.map (·.1)) c R ρ ∧ Sta K ct pins S H σ ρ F ∧
  ∀ b H' S' ρ' F', R b ρ' → Sta K ct pins S' H' σ ρ' F' → Tr (Pt F) S H S' H' (Pt F') → Q b H'
def tL (m : M) (c : C) : TA := fun σ H Q => ∃ (R : List D → Env → Prop) (ρ : Env) (S : Hp) (F : Sl → Pm), wL T (pins.map (·.1)) m c R ρ ∧ Sta K ct pins S H σ ρ F ∧
  ∀ vs H' S' ρ' F' ds G, R ds ρ' → Sta K ct pins S' H' σ ρ' F' → Items (fun G d v => RepM K ct S' H' m G d v) G ds vs → (∀ a, G a → S' a = none ∧ H' a ≠ none ∧ ∀ i, ¬ F' i a) → Tr (Pt F) S H S' H' (fun a => G a ∨ Pt F' a) → Q vs H'
end
end Y
namespace Y
open PySem PySem.Spec PyProof.Rows L2

/-! ### environments -/
theorem at_lt {ρ : Env} {i : Nat} {q : M × D} (h : ρ.at i = some q) : i < ρ.length := by
  unfold Env.at at h
  by_cases z : i < ρ.length
  · exact z
  · rw [List.getElem?_eq_none (by omega)] at h
    cases h
theorem at_set_self {ρ : Env} {i : Nat} {x : Option (M × D)} (h : i < ρ.length) : Env.at (ρ.set i x) i = x := by
  unfold Env.at
  rw [List.getElem?_set_self h]
  rfl
theorem at_set_ne {ρ : Env} {i j : Nat} {x : Option (M × D)} (h : j ≠ i) : Env.at (ρ.set i x) j = ρ.at j := by
  unfold Env.at
  rw [List.getElem?_set_ne (Ne.symm h)]
theorem at_set_some {ρ : Env} {i j : Nat} {x : Option (M × D)} {q : M × D} (h : Env.at (ρ.set i x) j = some q) : (j = i ∧ x = some q) ∨ (j ≠ i ∧ ρ.at j = some q) := by
  by_cases e : j = i
  · subst e
    have hl := at_lt h
    rw [List.length_set] at hl
    rw [at_set_self hl] at h
    exact .inl ⟨rfl, h⟩
  · rw [at_set_ne e] at h
    exact .inr ⟨e, h⟩
theorem Sta.lt {K : PySem.W.Frag} {ct : Ct} {pins : List (Nat × V)} {S H : Hp} {σ : L2.St} {ρ : Env} {F : Sl → Pm} (I : Sta K ct pins S H σ ρ F) {i : Nat} {v : V} (h : σ[i]? = some (some v)) : i < ρ.length := by
  have := (List.getElem?_eq_some_iff.mp h).1
  rw [I.len]
  exact this

def Fs (F : Sl → Pm) (r : Nat) (G : Pm) : Sl → Pm := fun i a => (i = r ∧ G a) ∨ (i ≠ r ∧ F i a)
theorem Fs_self {F : Sl → Pm} {r : Nat} {G : Pm} {a : Addr} : Fs F r G r a ↔ G a := by
  unfold Fs
  constructor
  · rintro (⟨_, h⟩ | ⟨h, _⟩)
    · exact h
    · exact absurd rfl h
  · exact fun h => .inl ⟨rfl, h⟩
theorem Fs_neS {F : Sl → Pm} {r : Nat} {i : Sl} {G : Pm} {a : Addr} (e : i ≠ some r) : Fs F r G i a ↔ F i a := by
  unfold Fs
  constructor
  · rintro (⟨h, _⟩ | ⟨_, h⟩)
    · exact absurd h e
    · exact h
  · exact fun h => .inr ⟨e, h⟩
theorem Fs_ne {F : Sl → Pm} {r i : Nat} {G : Pm} {a : Addr} (e : i ≠ r) : Fs F r G i a ↔ F i a := Fs_neS fun h => e (Option.some.inj h)
theorem Fs_none {F : Sl → Pm} {r : Nat} {G : Pm} {a : Addr} : Fs F r G none a ↔ F none a := Fs_neS nofun
theorem Sta.tbs {K : PySem.W.Frag} {ct : Ct} {pins : List (Nat × V)} {S H H' : Hp} {σ : L2.St} {ρ : Env} {F : Sl → Pm} {r : Nat} {G : Pm} (I : Sta K ct pins S H σ ρ F) (h : ∀ a, F none a → H' a = H a) : TabsF (Fs F r G none) H' ct.tabs :=
  I.tb.mono (fun _ z => Fs_none.mpr z) h

section
variable {K : PySem.W.Frag} {ct : Ct} {pins : List (Nat × V)} {S H S' H' S1 H1 S2 H2 : Hp} {σ : L2.St} {ρ ρ1 ρ2 : Env} {F F' F1 F2 : Sl → Pm} {P P' P1 P2 G : Pm} {m m' : M} {d : D} {v : V} {r : Nat}
/-- a slot is taken out -/
theorem Sta.lock (I : Sta K ct pins S H σ ρ F) (r : Nat) : Sta K ct pins S H σ (ρ.set r none) (Fs F r fun _ => False) := by
  refine ⟨I.sub, by rw [List.length_set]; exact I.len, fun i m d e => ?_, fun i j a h1 h2 => ?_, fun i a h => ?_, I.pin, I.tbs fun _ _ => rfl⟩
  · rcases at_set_some e with ⟨_, z⟩ | ⟨ne, z⟩
    · cases z
    · obtain ⟨v, e1, e2⟩ := I.sl i m d z
      exact ⟨v, e1, e2.weak fun a y => (Fs_ne ne).mpr y⟩
  · rcases h1 with ⟨_, z⟩ | ⟨_, z⟩
    · exact z.elim
    · rcases h2 with ⟨_, y⟩ | ⟨_, y⟩
      · exact y.elim
      · exact I.dj i j a z y
  · rcases h with ⟨_, z⟩ | ⟨_, z⟩
    · exact z.elim
    · exact I.off i a z
theorem Pt_lock {a : Addr} : Pt (Fs F r fun _ => False) a ↔ ∃ i : Sl, i ≠ some r ∧ F i a := by
  constructor
  · rintro ⟨i, ⟨_, z⟩ | ⟨ne, z⟩⟩
    · exact z.elim
    · exact ⟨i, ne, z⟩
  · rintro ⟨i, ne, z⟩
    exact ⟨i, (Fs_neS ne).mpr z⟩
/-- what the slot holds stays meanwhile -/
theorem Tr.locked (I : Sta K ct pins S1 H1 σ ρ1 F1) (t : Tr (Pt (Fs F1 r fun _ => False)) S1 H1 S2 H2 P2) {a : Addr} (h : F1 r a) : H2 a = H1 a ∧ S2 a = none ∧ ¬ P2 a := by
  have nl : ¬ Pt (Fs F1 r fun _ => False) a := fun z => by
    obtain ⟨i, ne, z⟩ := Pt_lock.mp z
    exact ne (I.dj i r a z h)
  obtain ⟨o1, o2⟩ := I.off r a h
  obtain ⟨o, e⟩ := ne_some o2
  refine ⟨by rw [e]; exact t.keep a o e nl, Classical.byContradiction fun n => ?_, fun z => ?_⟩
  · rcases t.news a n with q | q | q
    · exact q o1
    · exact o2 q
    · exact nl q
  · rcases t.newp a z with q | q
    · exact o2 q
    · exact nl q
/-- .. and is put back -/
theorem Sta.unlock (I : Sta K ct pins S1 H1 σ ρ1 F1) (J : Sta K ct pins S2 H2 σ ρ2 F2) (t : Tr (Pt (Fs F1 r fun _ => False)) S1 H1 S2 H2 P2) (hp : ∀ a, Pt F2 a → P2 a) (hr : r < ρ1.length) :
    Sta K ct pins S2 H2 σ (ρ2.set r (ρ1.at r)) (Fs F2 r (F1 r)) := by
  refine ⟨J.sub, by rw [List.length_set]; exact J.len, fun i m d e => ?_, fun i j a h1 h2 => ?_, fun i a h => ?_, J.pin, J.tbs fun _ _ => rfl⟩
  · rcases at_set_some e with ⟨rfl, z⟩ | ⟨ne, z⟩
    · obtain ⟨v, e1, e2⟩ := I.sl i m d z
      exact ⟨v, e1, (e2.mono t.ss fun a y => (t.locked I y).1).weak fun a y => Fs_self.mpr y⟩
    · obtain ⟨v, e1, e2⟩ := J.sl i m d z
      exact ⟨v, e1, e2.weak fun a y => (Fs_ne ne).mpr y⟩
  · rcases h1 with ⟨rfl, z⟩ | ⟨n1, z⟩
    · rcases h2 with ⟨rfl, y⟩ | ⟨n2, y⟩
      · rfl
      · exact absurd (hp a ⟨j, y⟩) (t.locked I z).2.2
    · rcases h2 with ⟨rfl, y⟩ | ⟨n2, y⟩
      · exact absurd (hp a ⟨i, z⟩) (t.locked I y).2.2
      · exact J.dj i j a z y
  · rcases h with ⟨rfl, z⟩ | ⟨_, z⟩
    · obtain ⟨q1, q2, _⟩ := t.locked I z
      exact ⟨q2, by rw [q1]; exact (I.off r a z).2⟩
    · exact J.off i a z
theorem Tr.unlock (I : Sta K ct pins S1 H1 σ ρ1 F1) (t : Tr (Pt (Fs F1 r fun _ => False)) S1 H1 S2 H2 P2) : Tr (Pt F1) S1 H1 S2 H2 (fun a => P2 a ∨ F1 r a) := by
  have up : ∀ a, Pt (Fs F1 r fun _ => False) a → Pt F1 a := fun a z => by
    obtain ⟨i, _, z⟩ := Pt_lock.mp z
    exact ⟨i, z⟩
  refine ⟨t.ss, fun a o h n => t.keep a o h fun z => n (up a z), fun a z => ?_, fun a z => ?_, t.there, t.code⟩
  · rcases t.news a z with q | q | q
    · exact .inl q
    · exact .inr (.inl q)
    · exact .inr (.inr (up a q))
  · rcases z with z | z
    · rcases t.newp a z with q | q
      · exact .inl q
      · exact .inr (up a q)
    · exact .inr ⟨r, z⟩
theorem Lens.unlock {put : D → D} (I : Sta K ct pins S1 H1 σ ρ1 F1) (J : Sta K ct pins S2 H2 σ ρ2 F2) (t : Tr (Pt (Fs F1 r fun _ => False)) S1 H1 S2 H2 P2) (L : Lens K ct S1 H1 σ ρ1 F1 r m G put v) :
    Lens K ct S2 H2 σ (ρ2.set r (ρ1.at r)) (Fs F2 r (F1 r)) r m G put v := by
  obtain ⟨mr, dr, vr, e1, e2, e3⟩ := L
  refine ⟨mr, dr, vr, by rw [at_set_self (J.lt e2)]; exact e1, e2, fun hm S3 H3 G3 d3 h1 h2 h3 h4 => ?_⟩
  refine (e3 hm S3 H3 G3 d3 (t.ss.trans h1) (fun a z n => ?_) (fun a z y => h3 a z (Fs_self.mpr y)) h4).weak fun a z => ?_
  · rw [h2 a (Fs_self.mpr z) n]
    exact (t.locked I z).1
  · exact z.elim .inl fun z => .inr ⟨Fs_self.mpr z.1, z.2⟩
/-- the place that a path leads to takes another value -/
theorem Sta.put {put : D → D} {mr : M} {dr d2 : D} {G2 : Pm} (I : Sta K ct pins S H σ ρ F) (L : Lens K ct S H σ ρ F r m G put v) (hr : ρ.at r = some (mr, dr)) (hm : m ≠ .s) (hG : ∀ a, G a → F r a)
    (hH : ∀ a, ¬ G a → H2 a = H a) (hT : ∀ a, H a ≠ none → H2 a ≠ none) (q : RepM K ct S H2 m G2 d2 v) (hG2 : ∀ a, G2 a → S a = none ∧ H2 a ≠ none ∧ (G a ∨ ∀ i, ¬ F i a)) :
    Sta K ct pins S H2 σ (ρ.set r (some (mr, put d2))) (Fs F r fun a => G2 a ∨ (F r a ∧ ¬ G a)) := by
  obtain ⟨mr', dr', vr, e1, e2, e3⟩ := L
  rw [hr] at e1
  cases e1
  have nG : ∀ (i : Sl) a, i ≠ some r → F i a → ¬ G a := fun i a ne h z => ne (I.dj i r a h (hG a z))
  refine ⟨fun a o h => ?_, by rw [List.length_set]; exact I.len, fun i m1 d1 e => ?_, fun i j a h1 h2 => ?_, fun i a h => ?_, I.pin, I.tbs fun a z => hH a (nG none a nofun z)⟩
  · rw [hH a fun z => by rw [(I.off r a (hG a z)).1] at h; cases h]
    exact I.sub a o h
  · rcases at_set_some e with ⟨rfl, z⟩ | ⟨ne, z⟩
    · cases z
      exact ⟨vr, e2, (e3 hm S H2 G2 d2 (Same.refl _) (fun a _ n => hH a n) (fun a z y => ((hG2 a z).2.2).elim (fun z => z) fun z => absurd y (z _)) q).weak fun a z => Fs_self.mpr z⟩
    · obtain ⟨w, f1, f2⟩ := I.sl i m1 d1 z
      exact ⟨w, f1, (f2.mono (Same.refl _) fun a y => hH a (nG i a (fun h => ne (Option.some.inj h)) y)).weak fun a y => (Fs_ne ne).mpr y⟩
  · have cross : ∀ j : Sl, j ≠ some r → F j a → ¬ (G2 a ∨ (F r a ∧ ¬ G a)) := fun j ne h z => by
      rcases z with z | z
      · rcases (hG2 a z).2.2 with y | y
        · exact nG j a ne h y
        · exact y j h
      · exact ne (I.dj j r a h z.1)
    rcases h1 with ⟨rfl, z⟩ | ⟨n1, z⟩
    · rcases h2 with ⟨rfl, y⟩ | ⟨n2, y⟩
      · rfl
      · exact absurd z (cross j n2 y)
    · rcases h2 with ⟨rfl, y⟩ | ⟨n2, y⟩
      · exact absurd y (cross i n1 z)
      · exact I.dj i j a z y
  · rcases h with ⟨rfl, z⟩ | ⟨_, z⟩
    · rcases z with z | z
      · exact ⟨(hG2 a z).1, (hG2 a z).2.1⟩
      · exact ⟨(I.off r a z.1).1, hT a (I.off r a z.1).2⟩
    · exact ⟨(I.off i a z).1, hT a (I.off i a z).2⟩
theorem Tr.put {G2 : Pm} (I : Sta K ct pins S H σ ρ F) (hG : ∀ a, G a → F r a) (hH : ∀ a, ¬ G a → H2 a = H a) (hT : ∀ a, H a ≠ none → H2 a ≠ none) (hC : CodeK H H2) (hG2 : ∀ a, G2 a → P a ∨ G a) :
    Tr (fun a => P a ∨ Pt F a) S H S H2 (Pt (Fs F r fun a => G2 a ∨ (F r a ∧ ¬ G a))) := by
  refine ⟨Same.refl _, fun a o h n => by rw [hH a fun z => n (.inr ⟨r, hG a z⟩)]; exact h, fun a z => .inl z, fun a z => ?_, hT, hC⟩
  obtain ⟨i, ⟨_, y⟩ | ⟨_, y⟩⟩ := z
  · rcases y with y | y
    · rcases hG2 a y with x | x
      · exact .inr (.inl x)
      · exact .inr (.inr ⟨r, hG a x⟩)
    · exact .inr (.inr ⟨r, y.1⟩)
  · exact .inr (.inr ⟨i, y⟩)
end

/-! ### what forms an expression may have -/
def okE : Expr → Bool
  | .Constant .. => true | .Name .. => true | .Subscript .. => true | .BinOp .. => true | .UnaryOp .. => true | .Compare .. => true | .BoolOp .. => true | .IfExp .. => true
  | .Tuple .. => true | .List .. => true | .ListComp .. => true | .Attribute .. => true
  | .Call (.Name id _) [] [] _ => SC.plain id
  | .Call .. => true
  | .DictComp .. => true
  | _ => false
theorem mE_ok {Z : SC} : ∀ {c : C} {e : Expr}, mE Z c e = true → okE e = true := by
  intro c
  induction c with
  | rd p ih =>
    intro e h
    unfold mE at h
    rw [Bool.and_eq_true] at h
    exact ih h.2
  | pur a ih =>
    intro e h
    unfold mE at h
    rw [Bool.and_eq_true] at h
    exact ih h.2
  | call j es ih =>
    intro e h
    unfold mE at h
    split at h
    · rename_i x p xs pos
      simp only [Bool.and_eq_true] at h
      cases xs with
      | nil => exact h.1.2
      | cons _ _ => rfl
    · cases h
  | make c j es ih =>
    intro e h
    unfold mE at h
    split at h
    · rename_i x p xs pos
      simp only [Bool.and_eq_true] at h
      cases xs with
      | nil => exact h.1.1.2
      | cons _ _ => rfl
    · cases h
  | _ =>
    intro e h
    first
      | (cases h; done)
      | (unfold mE at h; split at h <;> first | rfl | (cases h; done))
section
variable {e : Expr} {env : PySem.Env}
theorem ok_mark (h : okE e = true) (op : CmpOp) : behindInMarks op e = false := by
  cases e <;> first | rfl | exact absurd h Bool.false_ne_true
theorem ok_star (h : okE e = true) (es : List Expr) : starEach (e :: es) env = (false, eval e env) :: starEach es env := by
  cases e <;> first | rfl | exact absurd h Bool.false_ne_true
theorem ok_ix (h : okE e = true) : PlainIx e := by
  intro o i
  cases e <;> first | rfl | exact absurd h Bool.false_ne_true
theorem ok_base (h : okE e = true) (f : Str) : attributeBase e f env (eval e env) = eval e env := by
  unfold attributeBase
  split
  · rename_i id _ pos
    have z : SC.plain id = true := h
    unfold SC.plain at z
    simp only [Bool.and_eq_true, Bool.not_eq_true'] at z
    have : (id != ("super" : Str)) = true := by
      rw [bne, z.1.2]
      rfl
    rw [this]
    rfl
  · rfl
end
end Y
namespace Y
open PySem PySem.Spec PyProof.Rows L2

section
variable (T : List FSpec) (ct : Ct) (pins : List (Nat × V))
def EOk (c : C) : Prop := ∀ {X : Cx} {Z : SC} {k : Nat}, XOk T ct Z k X → ∀ e, mE Z c e = true → PE X e (tE X.K ct T pins c)
def BOk (c : C) : Prop := ∀ {X : Cx} {Z : SC} {k : Nat}, XOk T ct Z k X → ∀ e, mE Z c e = true → PE X e (tB X.K ct T pins c)
def TOk (c : C) : Prop := ∀ {X : Cx} {Z : SC} {k : Nat}, XOk T ct Z k X → ∀ e, mE Z c e = true → PT X e (tT X.K ct T pins c)
def WOk (c : C) : Prop := ∀ {X : Cx} {Z : SC} {k : Nat}, XOk T ct Z k X → ∀ op es p, mE Z c (.BoolOp op es p) = true → PW X (.BoolOp op es p) (tT X.K ct T pins c)
def LOk (c : C) : Prop := ∀ {X : Cx} {Z : SC} {k : Nat}, XOk T ct Z k X → ∀ m es, mL Z c es = true → PA X es (tL X.K ct T pins m c)
def OOk (c : C) : Prop := ∀ {X : Cx} {Z : SC} {k : Nat}, XOk T ct Z k X → ∀ e, mO Z c e = true → PO X e (tP X.K ct T pins c)
def COk (c : C) : Prop := ∀ {X : Cx} {Z : SC} {k : Nat}, XOk T ct Z k X → ∀ es, mC Z c es = true → PTs X es (tC X.K ct T pins c)
end

theorem XOk.u65 {T : List FSpec} {ct : Ct} {Z : SC} {k : Nat} {X : Cx} (h : XOk T ct Z k X) : X.A.units + 65 < cLine := by
  have := h.room.un
  omega
theorem slot_of {T : List FSpec} {ct : Ct} {Z : SC} {k : Nat} {X : Cx} (h : XOk T ct Z k X) {i : Nat} {x : Str} (s : Z.slot i x = true) :
    X.N[i]? = some x ∧ Vis X.env.scope x ∧ (x == ("__debug__" : Str)) = false ∧ (x == ("__classdict__" : Str)) = false := by
  unfold SC.slot SC.vis SC.plain at s
  simp only [Bool.and_eq_true, Bool.not_eq_true', decide_eq_true_eq] at s
  refine ⟨by rw [h.N]; exact s.1.1, ?_, s.2.1.1.1, s.2.1.1.2⟩
  rw [h.sc]
  have q := s.1.2
  split at q
  · exact .inl (by assumption)
  · exact .inr (.inl (by assumption))
  · exact .inr (.inr (by assumption))
  · cases q
theorem glo_of {T : List FSpec} {ct : Ct} {Z : SC} {k : Nat} {X : Cx} (h : XOk T ct Z k X) {x : Str} (s : Z.glo x = true) : Gl X x := by
  unfold SC.glo at s
  show X.env.scope.names.lookup x = some .globalImplicit
  rw [h.sc]
  split at s
  · assumption
  · cases s

section
variable {T : List FSpec} {ct : Ct} {pins : List (Nat × V)} {a b c r : C}

/-! ### constants and names -/
theorem E_int (i : Int) : EOk T ct pins (.int i) := by
  intro X Z k hX e h
  unfold mE at h
  split at h
  · rename_i j _ _
    have := of_decide_eq_true h
    subst this
    refine PE.imp pe_int fun σ H Q ⟨R, ρ, S, F, h, I, q⟩ => ?_
    exact q.val I (Tr.refl fun _ z => z) (rInt _) h
  · cases h
theorem E_bl (i : Bool) : EOk T ct pins (.bl i) := by
  intro X Z k hX e h
  unfold mE at h
  split at h
  · have := of_decide_eq_true h
    subst this
    refine PE.imp pe_bl fun σ H Q ⟨R, ρ, S, F, h, I, q⟩ => ?_
    exact q.val I (Tr.refl fun _ z => z) (rBl _) h
  · cases h
theorem E_str (i : Str) : EOk T ct pins (.str i) := by
  intro X Z k hX e h
  unfold mE at h
  split at h
  · have := of_decide_eq_true h
    subst this
    refine PE.imp pe_str fun σ H Q ⟨R, ρ, S, F, h, I, q⟩ => ?_
    exact q.val I (Tr.refl fun _ z => z) (rStr _) h
  · cases h
theorem E_non : EOk T ct pins .non := by
  intro X Z k hX e h
  unfold mE at h
  split at h
  · refine PE.imp pe_non fun σ H Q ⟨R, ρ, S, F, h, I, q⟩ => ?_
    exact q.val I (Tr.refl fun _ z => z) rNon h
  · cases h
theorem E_var (i : Nat) : EOk T ct pins (.var i) := by
  intro X Z k hX e h
  unfold mE at h
  split at h
  · obtain ⟨h1, h2, h3, h4⟩ := slot_of hX h
    refine PE.imp (pe_var h1 h2 h3 h4) fun σ H Q ⟨R, ρ, S, F, h, I, q⟩ => ?_
    unfold wE at h
    split at h
    · rename_i d hd
      obtain ⟨v, e1, e2⟩ := I.sl _ _ _ hd
      unfold RepM at e2
      exact ⟨v, e1, q.val I (Tr.refl fun _ z => z) e2 h⟩
    · exact h.elim
  · cases h
theorem E_mv (i : Nat) : EOk T ct pins (.mv i) := by
  intro X Z k hX e h
  unfold mE at h
  split at h
  · obtain ⟨h1, h2, h3, h4⟩ := slot_of hX h
    refine PE.imp (pe_var h1 h2 h3 h4) fun σ H Q ⟨R, ρ, S, F, h, I, q⟩ => ?_
    unfold wE at h
    split at h
    · rename_i m d hd
      obtain ⟨v, e1, e2⟩ := I.sl _ _ _ hd
      refine ⟨v, e1, q v H S _ _ m d (F i) h (I.lock i) ⟨e2, fun a z => ⟨(I.off i a z).1, (I.off i a z).2, fun j y => ?_⟩⟩ (Tr.refl fun a z => ?_)⟩
      · rcases y with ⟨_, y⟩ | ⟨ne, y⟩
        · exact y.elim
        · exact ne (I.dj j i a y z)
      · rcases z with z | ⟨j, ⟨_, y⟩ | ⟨ne, y⟩⟩
        · exact ⟨i, z⟩
        · exact y.elim
        · exact ⟨j, y⟩
    · exact h.elim
  · cases h
theorem B_bor (i : Nat) : BOk T ct pins (.bor i) := by
  intro X Z k hX e h
  unfold mE at h
  split at h
  · obtain ⟨h1, h2, h3, h4⟩ := slot_of hX h
    refine PE.imp (pe_var h1 h2 h3 h4) fun σ H Q ⟨R, ρ, S, F, h, I, q⟩ => ?_
    unfold wB at h
    split at h
    · rename_i m d hd
      obtain ⟨v, e1, e2⟩ := I.sl _ _ _ hd
      refine ⟨v, e1, q v H S _ _ m d id (F i) h I e2 (fun a z => z) ⟨m, d, v, hd, e1, fun hm S2 H2 G2 d2 h1 h2 h3 h4 => h4.weak fun a z => .inl z⟩ (Tr.refl fun a z => z)⟩
    · exact h.elim
  · cases h

/-! ### operators -/
theorem E_bin (op : Operator) (ha : EOk T ct pins a) (hb : EOk T ct pins b) : EOk T ct pins (.bin op a b) := by
  intro X Z k hX e h
  unfold mE at h
  split at h
  · simp only [Bool.and_eq_true, decide_eq_true_eq] at h
    obtain ⟨⟨rfl, h1⟩, h2⟩ := h
    refine PE.imp (pe_op (op_bin (ct := ct)) (ha hX _ h1) (hb hX _ h2)) fun σ H Q ⟨R, ρ, S, F, h, I, q⟩ => ?_
    refine tE.sh (by unfold wE at h; exact h) I (Tr.refl fun _ z => z) fun v1 H1 S1 ρ1 F1 m1 d1 w1 I1 r1 t1 s1 => ?_
    refine tE.sh w1 I1 t1 fun v2 H2 S2 ρ2 F2 m2 d2 w2 I2 r2 t2 s2 => ?_
    exact ⟨S2, d1, d2, _, I2.sub, r1.mono s2, r2, w2, q.kt I2 t2⟩
  · cases h
theorem E_neg (ha : EOk T ct pins a) : EOk T ct pins (.neg a) := by
  intro X Z k hX e h
  unfold mE at h
  split at h
  · refine PE.imp (pe_un un_neg (ha hX _ h)) fun σ H Q ⟨R, ρ, S, F, h, I, q⟩ => ?_
    refine tE.sh (by unfold wE at h; exact h) I (Tr.refl fun _ z => z) fun v1 H1 S1 ρ1 F1 m1 d1 w1 I1 r1 t1 s1 => ?_
    split at w1
    · unfold Rep at r1
      subst r1
      exact ⟨_, rfl, q.val I1 t1 (rInt _) w1⟩
    · exact w1.elim
  · cases h
theorem E_inv (ha : EOk T ct pins a) : EOk T ct pins (.inv a) := by
  intro X Z k hX e h
  unfold mE at h
  split at h
  · refine PE.imp (pe_un un_inv (ha hX _ h)) fun σ H Q ⟨R, ρ, S, F, h, I, q⟩ => ?_
    refine tE.sh (by unfold wE at h; exact h) I (Tr.refl fun _ z => z) fun v1 H1 S1 ρ1 F1 m1 d1 w1 I1 r1 t1 s1 => ?_
    split at w1
    · unfold Rep at r1
      subst r1
      exact ⟨_, rfl, q.val I1 t1 (rInt _) w1⟩
    · exact w1.elim
  · cases h
theorem E_not (ha : EOk T ct pins a) : EOk T ct pins (.not a) := by
  intro X Z k hX e h
  unfold mE at h
  split at h
  · refine PE.imp (pe_not (ha hX _ h)) fun σ H Q ⟨R, ρ, S, F, h, I, q⟩ => ?_
    refine tE.sh (by unfold wE at h; exact h) I (Tr.refl fun _ z => z) fun v1 H1 S1 ρ1 F1 m1 d1 w1 I1 r1 t1 s1 => ?_
    split at w1
    · unfold Rep at r1
      subst r1
      exact ⟨_, rfl, q.val I1 t1 (rBl _) w1⟩
    · exact w1.elim
  · cases h
/-- a comparison's reading: the second operand may be borrowed -/
theorem cmp_rd {X : Cx} {op : CmpOp} {σ : L2.St} {H : Hp} {Q : VK} {ρ : Env} {S : Hp} {F : Sl → Pm} {R : Bool → Env → Prop} {tb : TE}
    (htb : tb = if b.isP = true then tB X.K ct T pins b else tE X.K ct T pins b)
    (h : wE T (pins.map (·.1)) a (fun _ x ρ1 => match b.isP with
      | true => wB T (pins.map (·.1)) b (fun _ y _ ρ2 => cmpD op x y fun c => R c ρ2) ρ1
      | false => wE T (pins.map (·.1)) b (fun _ y ρ2 => cmpD op x y fun c => R c ρ2) ρ1) ρ) (I : Sta X.K ct pins S H σ ρ F)
    (q : ∀ c H' S' ρ' F', R c ρ' → Sta X.K ct pins S' H' σ ρ' F' → Tr (Pt F) S H S' H' (Pt F') → Q (.bl c) H') : tOp (rCmp X.K ct op) (tE X.K ct T pins a) tb σ H Q := by
  refine tE.sh h I (Tr.refl fun _ z => z) fun v1 H1 S1 ρ1 F1 m1 d1 w1 I1 r1 t1 s1 => ?_
  subst htb
  by_cases hp : b.isP = true
  · rw [if_pos hp]
    rw [hp] at w1
    refine ⟨_, ρ1, S1, F1, w1, I1, fun v2 H2 S2 ρ2 F2 m2 d2 put G w2 I2 r2 hG L t2 => ?_⟩
    exact ⟨H2, d1, d2, _, Same.refl _, (r1.mono t2.ss).mono I2.sub, r2.rd I2.sub, w2, fun c hc => q c H2 S2 ρ2 F2 hc I2 (t1.trans0 t2)⟩
  · rw [if_neg hp]
    rw [Bool.not_eq_true] at hp
    rw [hp] at w1
    refine tE.sh w1 I1 t1 fun v2 H2 S2 ρ2 F2 m2 d2 w2 I2 r2 t2 s2 => ?_
    exact ⟨S2, d1, d2, _, I2.sub, r1.mono s2, r2, w2, fun c hc => q c H2 S2 ρ2 F2 hc I2 t2⟩
theorem pe_b {X : Cx} {Z : SC} {k : Nat} (hX : XOk T ct Z k X) {e : Expr} (hE : EOk T ct pins b) (hB : BOk T ct pins b) (h : mE Z b e = true) : PE X e (if b.isP = true then tB X.K ct T pins b else tE X.K ct T pins b) := by
  by_cases hp : b.isP = true
  · rw [if_pos hp]
    exact hB hX _ h
  · rw [if_neg hp]
    exact hE hX _ h
theorem E_cmp (op : CmpOp) (ha : EOk T ct pins a) (hb : EOk T ct pins b) (hb' : BOk T ct pins b) : EOk T ct pins (.cmp op a b) := by
  intro X Z k hX e h
  unfold mE at h
  split at h
  · simp only [Bool.and_eq_true, decide_eq_true_eq] at h
    obtain ⟨⟨rfl, h1⟩, h2⟩ := h
    refine PE.imp (pe_cmpR (op_cmp (ct := ct) hX.u65) (ha hX _ h1) (pe_b hX hb hb' h2) (ok_mark (mE_ok h2) _)) fun σ H Q ⟨R, ρ, S, F, h, I, q⟩ => ?_
    exact cmp_rd (R := fun c ρ2 => R .s (.bl c) ρ2) rfl (by unfold wE at h; exact h) I fun c H' S' ρ' F' hc I' t => q.val I' t (rBl _) hc
  · cases h
theorem T_cmp (op : CmpOp) (ha : EOk T ct pins a) (hb : EOk T ct pins b) (hb' : BOk T ct pins b) : TOk T ct pins (.cmp op a b) := by
  intro X Z k hX e h
  unfold mE at h
  split at h
  · simp only [Bool.and_eq_true, decide_eq_true_eq] at h
    obtain ⟨⟨rfl, h1⟩, h2⟩ := h
    refine PT.imp (pt_cmpR (op_cmp (ct := ct) hX.u65) (ha hX _ h1) (pe_b hX hb hb' h2) (ok_mark (mE_ok h2) _)) fun σ H Q ⟨R, ρ, S, F, h, I, q⟩ => ?_
    exact cmp_rd (R := R) rfl (by unfold wT at h; exact h) I fun c H' S' ρ' F' hc I' t => ⟨c, rfl, q c H' S' ρ' F' hc I' t⟩
  · cases h
theorem chain_rd {X : Cx} {o1 o2 : CmpOp} {σ : L2.St} {H : Hp} {Q : VK} {ρ : Env} {S : Hp} {F : Sl → Pm} {R : Bool → Env → Prop}
    (h : wE T (pins.map (·.1)) a (fun _ x ρ1 => wE T (pins.map (·.1)) b (fun _ y ρ2 => cmpD o1 x y fun k => if k = true then wE T (pins.map (·.1)) c (fun _ z ρ3 => cmpD o2 y z fun k' => R k' ρ3) ρ2 else R false ρ2) ρ1) ρ) (I : Sta X.K ct pins S H σ ρ F)
    (q : ∀ c H' S' ρ' F', R c ρ' → Sta X.K ct pins S' H' σ ρ' F' → Tr (Pt F) S H S' H' (Pt F') → Q (.bl c) H') : tChain (rCmp X.K ct o1) (rCmp X.K ct o2) (tE X.K ct T pins a) (tE X.K ct T pins b) (tE X.K ct T pins c) σ H Q := by
  refine tE.sh h I (Tr.refl fun _ z => z) fun v1 H1 S1 ρ1 F1 m1 d1 w1 I1 r1 t1 s1 => ?_
  refine tE.sh w1 I1 t1 fun v2 H2 S2 ρ2 F2 m2 d2 w2 I2 r2 t2 s2 => ?_
  refine ⟨S2, d1, d2, _, I2.sub, r1.mono s2, r2, w2, fun k hk => ⟨k, rfl, ?_⟩⟩
  cases k with
  | true =>
    rw [if_pos rfl] at hk ⊢
    refine tE.sh hk I2 t2 fun v3 H3 S3 ρ3 F3 m3 d3 w3 I3 r3 t3 s3 => ?_
    exact ⟨S3, d2, d3, _, I3.sub, r2.mono s3, r3, w3, fun c hc => q c H3 S3 ρ3 F3 hc I3 t3⟩
  | false =>
    rw [if_neg Bool.false_ne_true] at hk ⊢
    exact q false H2 S2 ρ2 F2 hk I2 t2
theorem ok_last {x y : Expr} (h : okE x = true) (h2 : okE y = true) (o1 o2 : CmpOp) : lastMarks [o1, o2] [x, y] = false := by
  show behindInMarks o2 y = false
  exact ok_mark h2 _
theorem E_chain (o1 o2 : CmpOp) (ha : EOk T ct pins a) (hb : EOk T ct pins b) (hc : EOk T ct pins c) : EOk T ct pins (.chain o1 o2 a b c) := by
  intro X Z k hX e h
  unfold mE at h
  split at h
  · simp only [Bool.and_eq_true, decide_eq_true_eq] at h
    obtain ⟨⟨⟨⟨rfl, rfl⟩, h1⟩, h2⟩, h3⟩ := h
    refine PE.imp (pe_chain (op_cmp (ct := ct) hX.u65) (op_cmp (ct := ct) hX.u65) (ha hX _ h1) (hb hX _ h2) (hc hX _ h3) (ok_last (mE_ok h2) (mE_ok h3) _ _)) fun σ H Q ⟨R, ρ, S, F, h, I, q⟩ => ?_
    exact chain_rd (R := fun c ρ2 => R .s (.bl c) ρ2) (by unfold wE at h; exact h) I fun c H' S' ρ' F' hc I' t => q.val I' t (rBl _) hc
  · cases h
theorem T_chain (o1 o2 : CmpOp) (ha : EOk T ct pins a) (hb : EOk T ct pins b) (hc : EOk T ct pins c) : TOk T ct pins (.chain o1 o2 a b c) := by
  intro X Z k hX e h
  unfold mE at h
  split at h
  · simp only [Bool.and_eq_true, decide_eq_true_eq] at h
    obtain ⟨⟨⟨⟨rfl, rfl⟩, h1⟩, h2⟩, h3⟩ := h
    refine PT.imp (pt_chain (op_cmp (ct := ct) hX.u65) (op_cmp (ct := ct) hX.u65) (ha hX _ h1) (hb hX _ h2) (hc hX _ h3) (ok_last (mE_ok h2) (mE_ok h3) _ _)) fun σ H Q ⟨R, ρ, S, F, h, I, q⟩ => ?_
    exact chain_rd (R := R) (by unfold wT at h; exact h) I fun c H' S' ρ' F' hc I' t => ⟨c, rfl, q c H' S' ρ' F' hc I' t⟩
  · cases h

/-! ### and, or, not -/
theorem E_and (ha : EOk T ct pins a) (hb : EOk T ct pins b) : EOk T ct pins (.and a b) := by
  intro X Z k hX e h
  unfold mE at h
  split at h
  · simp only [Bool.and_eq_true] at h
    refine PE.imp (pe_and (ha hX _ h.1.2) (hb hX _ h.2)) fun σ H Q ⟨R, ρ, S, F, h, I, q⟩ => ?_
    refine tE.sh (by unfold wE at h; exact h) I (Tr.refl fun _ z => z) fun v1 H1 S1 ρ1 F1 m1 d1 w1 I1 r1 t1 s1 => ?_
    split at w1
    · rename_i k
      unfold Rep at r1
      subst r1
      refine ⟨k, rfl, ?_⟩
      cases k with
      | true =>
        rw [if_pos rfl] at w1 ⊢
        exact ⟨R, ρ1, S1, F1, w1, I1, fun v H' S' ρ' F' m d G r I' hv t' => q v H' S' ρ' F' m d G r I' hv (t1.trans0 t')⟩
      | false =>
        rw [if_neg Bool.false_ne_true] at w1 ⊢
        exact q.val I1 t1 (rBl _) w1
    · exact w1.elim
  · cases h
theorem E_or (ha : EOk T ct pins a) (hb : EOk T ct pins b) : EOk T ct pins (.or a b) := by
  intro X Z k hX e h
  unfold mE at h
  split at h
  · simp only [Bool.and_eq_true] at h
    refine PE.imp (pe_or (ha hX _ h.1.2) (hb hX _ h.2)) fun σ H Q ⟨R, ρ, S, F, h, I, q⟩ => ?_
    refine tE.sh (by unfold wE at h; exact h) I (Tr.refl fun _ z => z) fun v1 H1 S1 ρ1 F1 m1 d1 w1 I1 r1 t1 s1 => ?_
    split at w1
    · rename_i k
      unfold Rep at r1
      subst r1
      refine ⟨k, rfl, ?_⟩
      cases k with
      | false =>
        rw [if_neg Bool.false_ne_true] at w1 ⊢
        exact ⟨R, ρ1, S1, F1, w1, I1, fun v H' S' ρ' F' m d G r I' hv t' => q v H' S' ρ' F' m d G r I' hv (t1.trans0 t')⟩
      | true =>
        rw [if_pos rfl] at w1 ⊢
        exact q.val I1 t1 (rBl _) w1
    · exact w1.elim
  · cases h
theorem E_one (ha : EOk T ct pins a) : EOk T ct pins (.one a) := by
  intro X Z k hX e h
  unfold mE at h
  split at h
  · refine PE.imp (pe_one (ha hX _ h)) fun σ H Q ⟨R, ρ, S, F, h, I, q⟩ => ?_
    exact ⟨R, ρ, S, F, by unfold wE at h; exact h, I, q⟩
  · cases h
theorem W_one (ha : TOk T ct pins a) : WOk T ct pins (.one a) := by
  intro X Z k hX op es p h
  unfold mE at h
  split at h
  · rename_i heq
    cases heq
    have := ha hX _ h
    have up : ∀ σ H Q, tT X.K ct T pins (.one a) σ H Q → tT X.K ct T pins a σ H Q := fun σ H Q ⟨R, ρ, S, F, h, I, q⟩ => ⟨R, ρ, S, F, by unfold wT at h; exact h, I, q⟩
    cases op with
    | And => exact PW.imp (pw_and1 this) up
    | Or => exact PW.imp (pw_or1 this) up
  · cases h
theorem W_and (ha : TOk T ct pins a) (hb : WOk T ct pins b) : WOk T ct pins (.and a b) := by
  intro X Z k hX op es p h
  unfold mE at h
  split at h
  · rename_i heq
    cases heq
    simp only [Bool.and_eq_true] at h
    refine PW.imp (pw_and (ha hX _ h.1.2) (hb hX _ _ _ h.2)) fun σ H Q ⟨R, ρ, S, F, h, I, q⟩ => ?_
    refine ⟨_, ρ, S, F, by unfold wT at h; exact h, I, fun k H1 S1 ρ1 F1 w1 I1 t1 => ?_⟩
    cases k with
    | true =>
      rw [if_pos rfl] at w1 ⊢
      exact ⟨R, ρ1, S1, F1, w1, I1, fun k H2 S2 ρ2 F2 w2 I2 t2 => q k H2 S2 ρ2 F2 w2 I2 (t1.trans0 t2)⟩
    | false =>
      rw [if_neg Bool.false_ne_true] at w1 ⊢
      exact q _ H1 S1 ρ1 F1 w1 I1 t1
  · cases h
theorem W_or (ha : TOk T ct pins a) (hb : WOk T ct pins b) : WOk T ct pins (.or a b) := by
  intro X Z k hX op es p h
  unfold mE at h
  split at h
  · rename_i heq
    cases heq
    simp only [Bool.and_eq_true] at h
    refine PW.imp (pw_or (ha hX _ h.1.2) (hb hX _ _ _ h.2)) fun σ H Q ⟨R, ρ, S, F, h, I, q⟩ => ?_
    refine ⟨_, ρ, S, F, by unfold wT at h; exact h, I, fun k H1 S1 ρ1 F1 w1 I1 t1 => ?_⟩
    cases k with
    | false =>
      rw [if_neg Bool.false_ne_true] at w1 ⊢
      exact ⟨R, ρ1, S1, F1, w1, I1, fun k H2 S2 ρ2 F2 w2 I2 t2 => q k H2 S2 ρ2 F2 w2 I2 (t1.trans0 t2)⟩
    | true =>
      rw [if_pos rfl] at w1 ⊢
      exact q _ H1 S1 ρ1 F1 w1 I1 t1
  · cases h
theorem T_of_W (hc : ∀ (Z : SC) e, mE Z c e = true → ∃ op es p, e = .BoolOp op es p) (h : WOk T ct pins c) : TOk T ct pins c := by
  intro X Z k hX e he
  obtain ⟨op, es, p, rfl⟩ := hc Z e he
  exact (h hX _ _ _ he).pt
theorem T_not (ha : TOk T ct pins a) : TOk T ct pins (.not a) := by
  intro X Z k hX e h
  unfold mE at h
  split at h
  · refine PT.imp (pt_not (ha hX _ h)) fun σ H Q ⟨R, ρ, S, F, h, I, q⟩ => ?_
    exact ⟨_, ρ, S, F, by unfold wT at h; exact h, I, fun k H1 S1 ρ1 F1 w1 I1 t1 => q _ H1 S1 ρ1 F1 w1 I1 t1⟩
  · cases h
/-- a value's truth -/
theorem T_of_E (hE : EOk T ct pins c) (hw : ∀ Q ρ, wT T (pins.map (·.1)) c Q ρ → wE T (pins.map (·.1)) c (fun _ d ρ' => truD d fun k => Q k ρ') ρ)
    (hp : ∀ (Z : SC) e, mE Z c e = true → ∀ env whole, isTrue e env whole = (do let v ← whole; standAt e.pos; holding [v] (truthy v))) : TOk T ct pins c := by
  intro X Z k hX e h
  refine PT.imp (pt_truth (hE hX _ h) (hp Z e h _)) fun σ H Q ⟨R, ρ, S, F, h, I, q⟩ => ?_
  refine tE.sh (hw _ _ h) I (Tr.refl fun _ z => z) fun v1 H1 S1 ρ1 F1 m1 d1 w1 I1 r1 t1 s1 => ?_
  obtain ⟨b, h1, h2⟩ := truD_ok I1.sub r1 w1
  exact ⟨b, h1, q b H1 S1 ρ1 F1 h2 I1 t1⟩
theorem E_ite (hc : TOk T ct pins c) (ha : EOk T ct pins a) (hb : EOk T ct pins b) : EOk T ct pins (.ite c a b) := by
  intro X Z k hX e h
  unfold mE at h
  split at h
  · simp only [Bool.and_eq_true] at h
    refine PE.imp (pe_ifExp (hc hX _ h.1.1) (ha hX _ h.1.2) (hb hX _ h.2)) fun σ H Q ⟨R, ρ, S, F, h, I, q⟩ => ?_
    refine ⟨_, ρ, S, F, by unfold wE at h; exact h, I, fun k H1 S1 ρ1 F1 w1 I1 t1 => ?_⟩
    cases k with
    | true =>
      rw [if_pos rfl] at w1 ⊢
      exact ⟨R, ρ1, S1, F1, w1, I1, fun v H' S' ρ' F' m d G r I' hv t' => q v H' S' ρ' F' m d G r I' hv (t1.trans0 t')⟩
    | false =>
      rw [if_neg Bool.false_ne_true] at w1 ⊢
      exact ⟨R, ρ1, S1, F1, w1, I1, fun v H' S' ρ' F' m d G r I' hv t' => q v H' S' ρ' F' m d G r I' hv (t1.trans0 t')⟩
  · cases h
theorem C_nil : COk T ct pins .nil := by
  intro X Z k hX es h
  unfold mC at h
  split at h
  · refine ⟨fun pins' s σ H Q I q => pts_nil.run pins' s σ H Q I ?_⟩
    obtain ⟨R, ρ, S, F, h, I, q⟩ := q
    exact q true H S ρ F h I (Tr.refl fun _ z => z)
  · cases h
theorem C_cons (ha : TOk T ct pins a) : COk T ct pins (.cons a r) := by
  intro X Z k hX es h
  unfold mC at h
  split at h
  · refine ⟨fun pins' s σ H Q I q => (pts_one (ha hX _ h)).run pins' s σ H Q I ?_⟩
    obtain ⟨R, ρ, S, F, h, I, q⟩ := q
    exact ⟨R, ρ, S, F, h, I, q⟩
  · cases h

/-! ### displays, items, slices -/
theorem L_nil : LOk T ct pins .nil := by
  intro X Z k hX m es h
  unfold mL at h
  split at h
  · refine PA.imp pa_nil fun σ H Q ⟨R, ρ, S, F, h, I, q⟩ => ?_
    exact q [] H S ρ F [] (fun _ => False) h I Items.nil (fun _ z => z.elim) (Tr.refl fun a z => z.elim (fun z => z.elim) fun z => z)
  · cases h
theorem L_cons (ha : EOk T ct pins a) (hr : LOk T ct pins r) : LOk T ct pins (.cons a r) := by
  intro X Z k hX m es h
  unfold mL at h
  split at h
  · simp only [Bool.and_eq_true] at h
    refine PA.imp (pa_cons (ha hX _ h.1) (hr hX m _ h.2) (ok_star (mE_ok h.1) _)) fun σ H Q ⟨R, ρ, S, F, h, I, q⟩ => ?_
    refine ⟨_, ρ, S, F, by unfold wL at h; exact h, I, fun v1 H1 S1 ρ1 F1 m1 d1 G1 w1 I1 r1 t1 => ?_⟩
    obtain ⟨c1, w1⟩ := w1
    obtain ⟨S1', G1', r1', I1', t1'⟩ := r1.cast I1 t1 c1
    refine ⟨_, ρ1, S1', F1, w1, I1', fun vs H2 S2 ρ2 F2 ds G2 w2 I2 r2 o2 t2 => ?_⟩
    have k1 := r1'.keep t2 fun i a z => .inr ⟨i, z⟩
    have dis : ∀ a, G1' a → ¬ G2 a := fun a z y => by
      obtain ⟨q1, q2, q3⟩ := r1'.off a z
      rcases t2.newp a (.inl y) with x | ⟨i, x⟩
      · exact q2 x
      · exact q3 i x
    refine q (v1 :: vs) H2 S2 ρ2 F2 (d1 :: ds) (fun a => G1' a ∨ G2 a) w2 I2 (Items.cons k1.rep dis r2) (fun a z => z.elim (fun z => k1.off a z) (o2 a)) ?_
    exact (Tr.trans t1' t2).sub fun a z => by
      rcases z with (z | z) | z
      · exact .inl z
      · exact .inr (.inl z)
      · exact .inr (.inr z)
  · cases h
theorem E_tup (ha : LOk T ct pins a) : EOk T ct pins (.tup a) := by
  intro X Z k hX e h
  unfold mE at h
  split at h
  · refine PE.imp (pe_tup (ha hX .s _ h)) fun σ H Q ⟨R, ρ, S, F, h, I, q⟩ => ?_
    refine ⟨_, ρ, S, F, by unfold wE at h; exact h, I, fun vs H1 S1 ρ1 F1 ds G w1 I1 r1 o1 t1 => ?_⟩
    have r1' : Reps X.K ct S1 ds vs := Items.reps (F := G) (r1.mono fun G d v _ z => by unfold RepM at z; exact z)
    refine ⟨by rw [← r1'.length]; exact w1.1, fun p hp => ?_⟩
    exact (q.kt I1 (t1.sub fun a z => .inr z)).newT I1.sub r1' w1.2 hp
  · cases h
theorem E_lst (m : M) (ha : LOk T ct pins a) : EOk T ct pins (.lst m a) := by
  intro X Z k hX e h
  unfold mE at h
  split at h
  · refine PE.imp (pe_lst (ha hX m _ h)) fun σ H Q ⟨R, ρ, S, F, h, I, q⟩ => ?_
    refine ⟨_, ρ, S, F, by unfold wE at h; exact h, I, fun vs H1 S1 ρ1 F1 ds G w1 I1 r1 o1 t1 => ?_⟩
    refine ⟨by rw [← r1.length]; exact w1.1, fun p hp => ?_⟩
    have sm : Same H1 (upd H1 p (.lst vs)) := same_new hp
    have sp : S1 p = none := I1.sub.free hp
    have np : ∀ a, G a → a ≠ p := fun a z y => (o1 a z).2.1 (by rw [y]; exact hp)
    refine q _ _ S1 ρ1 F1 (.o m) _ (fun a => a = p ∨ G a) w1.2 (I1.grow sm (Same.refl _) (I1.sub.trans sm) fun a z => .inl z) ⟨?_, fun a z => ?_⟩ ?_
    · unfold RepM
      refine ⟨p, vs, ds, G, rfl, rfl, .inl rfl, upd_same, fun b z => ⟨.inr z, np b z⟩, r1.mono fun G' d v hg z => z.mono (Same.refl _) fun a y => upd_ne (np a (hg a y))⟩
    · rcases z with rfl | z
      · exact ⟨sp, by rw [upd_same]; exact (fun z => nomatch z), fun i y => (I1.off i _ y).2 hp⟩
      · obtain ⟨q1, q2, q3⟩ := o1 a z
        exact ⟨q1, by rw [upd_ne (np a z)]; exact q2, q3⟩
    · refine (Tr.trans (G := G) t1 (Tr.grow (G := fun a => a = p) (P := Pt F1) sm (Same.refl _) (fun a z => .inl z) fun a z => by rw [z]; exact hp)).sub fun a z => ?_
      rcases z with (z | z) | z
      · exact .inr (.inl z)
      · exact .inl z
      · exact .inr (.inr z)
  · cases h
theorem E_idx (ha : EOk T ct pins a) (hb : EOk T ct pins b) : EOk T ct pins (.idx a b) := by
  intro X Z k hX e h
  unfold mE at h
  split at h
  · simp only [Bool.and_eq_true] at h
    refine PE.imp (pe_ix (ix_item (ct := ct)) (ha hX _ h.1) (hb hX _ h.2) (ok_ix (mE_ok h.2))) fun σ H Q ⟨R, ρ, S, F, h, I, q⟩ => ?_
    refine tE.sh (by unfold wE at h; exact h) I (Tr.refl fun _ z => z) fun v1 H1 S1 ρ1 F1 m1 d1 w1 I1 r1 t1 s1 => ?_
    refine tE.sh w1 I1 t1 fun v2 H2 S2 ρ2 F2 m2 d2 w2 I2 r2 t2 s2 => ?_
    exact ⟨S2, d1, d2, _, I2.sub, r1.mono s2, r2, w2, fun d' v' k1 k2 => q.val I2 t2 k2 k1⟩
  · cases h
theorem O_nil : OOk T ct pins .nil := by
  intro X Z k hX e h
  unfold mO at h
  split at h
  · refine PO.imp po_none fun σ H Q ⟨R, ρ, S, F, h, I, q⟩ => ?_
    exact q none H S ρ F h I (Tr.refl fun _ z => z)
  · cases h
theorem O_cons (ha : EOk T ct pins a) : OOk T ct pins (.cons a r) := by
  intro X Z k hX e h
  unfold mO at h
  split at h
  · refine PO.imp (po_some (ha hX _ h)) fun σ H Q ⟨R, ρ, S, F, h, I, q⟩ => ?_
    refine tE.sh (by unfold wP at h; exact h) I (Tr.refl fun _ z => z) fun v1 H1 S1 ρ1 F1 m1 d1 w1 I1 r1 t1 s1 => ?_
    unfold opI at w1
    split at w1
    · unfold Rep at r1
      subst r1
      exact ⟨_, rfl, q _ H1 S1 ρ1 F1 w1 I1 t1⟩
    · exact w1.elim
  · cases h
end
end Y
namespace Y
open PySem PySem.Spec PyProof.Rows L2

theorem Items.out {R : Pm → D → V → Prop} : ∀ {F : Pm} {ds : List D} {vs : List V} {i : Nat} {d : D}, Items R F ds vs → ds[i]? = some d →
    ∃ (v : V) (F1 F2 : Pm), vs[i]? = some v ∧ (∀ a, F1 a → F a) ∧ (∀ a, F2 a → F a) ∧ (∀ a, F1 a → F2 a → False) ∧ R F1 d v ∧ Items R F2 (ds.eraseIdx i) (vs.eraseIdx i)
  | F, [], vs, i, d, h, e => by simp at e
  | F, d0 :: ds, vs, 0, d, h, e => by
    unfold Items at h
    obtain ⟨v, r, F1, F2, rfl, h1, h2, h3, h4, h5⟩ := h
    simp at e
    subst e
    exact ⟨v, F1, F2, rfl, h1, h2, h3, h4, h5⟩
  | F, d0 :: ds, vs, i + 1, d, h, e => by
    unfold Items at h
    obtain ⟨v, r, F1, F2, rfl, h1, h2, h3, h4, h5⟩ := h
    obtain ⟨w, G1, G2, e1, g1, g2, g3, g4, g5⟩ := Items.out (i := i) (d := d) h5 (by simpa using e)
    refine ⟨w, G1, fun a => F1 a ∨ G2 a, by simpa using e1, fun a z => h2 a (g1 a z), fun a z => z.elim (h1 a) fun z => h2 a (g2 a z), fun a z y => y.elim (fun y => h3 a y (g1 a z)) (g3 a z), g4, ?_⟩
    show Items R _ (d0 :: ds.eraseIdx i) (v :: r.eraseIdx i)
    unfold Items
    exact ⟨v, _, F1, G2, rfl, fun a z => .inl z, fun a z => .inr z, fun a z y => h3 a z (g2 a y), h4, g5⟩
theorem set_same {α : Type} : ∀ {l : List α} {n : Nat} {v : α}, l[n]? = some v → l.set n v = l
  | [], n, v, h => rfl
  | a :: l, 0, v, h => by
    simp at h
    subst h
    rfl
  | a :: l, n + 1, v, h => by
    show a :: l.set n v = a :: l
    rw [set_same (by simpa using h)]

section
variable {X : Cx} {ct : Ct}
/-- an item that may be own: how its place takes another -/
def rItemB (K : PySem.W.Frag) (ct : Ct) : R2 := fun x y H Q => ∃ S m d e G k, Same S H ∧ RepM K ct S H m G d x ∧ Rep K ct S e y ∧ itemB m d e k ∧
  ∀ m' d' put' v' G', k m' d' put' → RepM K ct S H m' G' d' v' → (∀ a, G' a → G a) →
    (m' ≠ .s → ∀ S2 H2 G2 d2, Same S S2 → (∀ a, G a → ¬ G' a → H2 a = H a) → (∀ a, G2 a → G a → G' a) → RepM K ct S2 H2 m' G2 d2 v' → RepM K ct S2 H2 m (fun a => G2 a ∨ (G a ∧ ¬ G' a)) (put' d2) x) → Q v' H
theorem ix_itemB : IxR X (rItemB X.K ct) := by
  intro value slice pins s σ H x y v u Q I rx ry ⟨S, m, d, e, G, k, hs, hd, he, hb, q⟩ hsub
  unfold itemB at hb
  split at hb
  · rename_i m' xs i
    obtain ⟨n, d', h1, h2, h3⟩ := hb
    unfold Rep at he
    subst he
    unfold RepM at hd
    obtain ⟨a, vs, ds, F', e1, rfl, e3, e4, e5, e6⟩ := hd
    cases e1
    obtain ⟨v1, F1, F2, f1, f2, f3, f4, f5, f6⟩ := e6.at h2
    have f5 : RepM X.K ct S H m' F1 d' v1 := f5
    have hl := e6.length
    refine ix_list value slice pins s σ H _ _ v u Q I rx ry ⟨a, vs, i, v1, rfl, rfl, SqL.of e4, ?_, ?_⟩ hsub
    · unfold atI
      rw [← hl, h1]
      exact f1
    · refine q m' d' _ v1 F1 h3 f5 (fun b z => (e5 b (f2 b z)).1) fun hm S2 H2 G2 d2 g1 g2 g3 g4 => ?_
      have na : ¬ F1 a := fun z => (e5 a (f2 a z)).2 rfl
      unfold RepM
      refine ⟨a, vs, xs.set n d2, fun b => G2 b ∨ F2 b, rfl, rfl, .inr ⟨e3, na⟩, by rw [g2 a e3 na]; exact e4, fun b z => ?_, ?_⟩
      · rcases z with z | z
        · exact ⟨.inl z, fun y => by rw [y] at z; exact na (g3 a z e3)⟩
        · exact ⟨.inr ⟨(e5 b (f3 b z)).1, fun y => f4 b y z⟩, (e5 b (f3 b z)).2⟩
      · have := f6 (fun G d v => RepM X.K ct S2 H2 m' G d v) G2 d2 v1 (fun F'' d v hF z => RepM.mono (F := F'') g1 (fun b y => g2 b (e5 b (f3 b (hF b y))).1 fun w => f4 b w (hF b y)) z) (fun b z y => f4 b (g3 b z (e5 b (f3 b y)).1) y) g4
        rw [set_same f1] at this
        exact this
  · unfold RepM at hd
    exact ix_item (ct := ct) value slice pins s σ H x y v u Q I rx ry ⟨S, d, e, _, hs, hd, he, hb, fun d' v' k1 k2 => q .s d' _ v' (fun _ => False) k1 (by unfold RepM; exact k2) (fun _ z => z.elim) fun hm => absurd rfl hm⟩ hsub
  · exact hb.elim
end

section
variable {T : List FSpec} {ct : Ct} {pins : List (Nat × V)} {a b c r p e : C}
theorem pe_root {X : Cx} {Z : SC} {k : Nat} (hX : XOk T ct Z k X) (hb : b.isBor = true) {ex : Expr} (h : mE Z b ex = true) : PE X ex (tVar b.root) := by
  cases b with
  | bor i =>
    unfold mE at h
    split at h
    · obtain ⟨h1, h2, h3, h4⟩ := slot_of hX h
      exact pe_var h1 h2 h3 h4
    · cases h
  | _ => cases hb
theorem root_isP (hb : b.isBor = true) : b.isP = true := by
  cases b <;> first | rfl | cases hb
theorem Sta.root {K : PySem.W.Frag} {S H : Hp} {σ : L2.St} {ρ : Env} {F : Sl → Pm} (I : Sta K ct pins S H σ ρ F) {i : Nat} (h : (ρ.at i).isSome = true) : ∃ v, σ[i]? = some (some v) := by
  obtain ⟨q, e⟩ := Option.isSome_iff_exists.mp h
  obtain ⟨v, e1, _⟩ := I.sl i q.1 q.2 e
  exact ⟨v, e1⟩
theorem Sta.slv {K : PySem.W.Frag} {S H : Hp} {σ : L2.St} {ρ : Env} {F : Sl → Pm} (I : Sta K ct pins S H σ ρ F) {i : Nat} {v : V} {m : M} {d : D} (hv : σ[i]? = some (some v)) (h : ρ.at i = some (m, d)) : RepM K ct S H m (F i) d v := by
  obtain ⟨w, e1, e2⟩ := I.sl i m d h
  rw [hv] at e1
  cases e1
  exact e2
/-- the slot itself, borrowed -/
theorem Lens.root {K : PySem.W.Frag} {S H : Hp} {σ : L2.St} {ρ : Env} {F : Sl → Pm} {i : Nat} {v : V} {m : M} {d : D} (hv : σ[i]? = some (some v)) (h : ρ.at i = some (m, d)) : Lens K ct S H σ ρ F i m (F i) id v :=
  ⟨m, d, v, h, hv, fun hm S2 H2 G2 d2 h1 h2 h3 h4 => h4.weak fun a z => .inl z⟩
theorem Lens.then {K : PySem.W.Frag} {S H : Hp} {σ : L2.St} {ρ : Env} {F : Sl → Pm} {i : Nat} {v v' : V} {m m' : M} {G G' : Pm} {put put' : D → D} (hG : ∀ a, G a → F i a) (hG' : ∀ a, G' a → G a) (ns : m' ≠ .s → m ≠ .s)
    (L : Lens K ct S H σ ρ F i m G put v) (l : m' ≠ .s → ∀ S2 H2 G2 d2, Same S S2 → (∀ a, G a → ¬ G' a → H2 a = H a) → (∀ a, G2 a → G a → G' a) → RepM K ct S2 H2 m' G2 d2 v' → RepM K ct S2 H2 m (fun a => G2 a ∨ (G a ∧ ¬ G' a)) (put' d2) v) :
    Lens K ct S H σ ρ F i m' G' (fun z => put (put' z)) v' := by
  obtain ⟨mr, dr, vr, e1, e2, e3⟩ := L
  refine ⟨mr, dr, vr, e1, e2, fun hm S2 H2 G2 d2 h1 h2 h3 h4 => ?_⟩
  have q := l hm S2 H2 G2 d2 h1 (fun a z n => h2 a (hG a z) n) (fun a z y => h3 a z (hG a y)) h4
  refine (e3 (ns hm) S2 H2 _ _ h1 (fun a z n => h2 a z fun y => n (hG' a y)) (fun a z y => ?_) q).weak fun a z => ?_
  · rcases z with z | z
    · exact hG' a (h3 a z y)
    · exact z.1
  · rcases z with (z | z) | z
    · exact .inl z
    · exact .inr ⟨hG a z.1, z.2⟩
    · exact .inr ⟨z.1, fun y => z.2 (hG' a y)⟩
theorem itemD_mono {x j : D} {k k' : D → Prop} (h : itemD x j k) (f : ∀ d, k d → k' d) : itemD x j k' := by
  unfold itemD at h ⊢
  split at h
  · obtain ⟨d, h1, h2⟩ := h
    exact ⟨d, h1, f _ h2⟩
  · obtain ⟨d, h1, h2⟩ := h
    exact ⟨d, h1, f _ h2⟩
  · obtain ⟨d, h1, h2⟩ := h
    exact ⟨d, h1, f _ h2⟩
  · obtain ⟨h0, d, h1, h2⟩ := h
    exact ⟨h0, d, h1, f _ h2⟩
  · obtain ⟨h0, d, h1, h2, h3⟩ := h
    exact ⟨h0, d, h1, h2, f _ h3⟩
  · exact h.elim
theorem itemB_ns {m : M} {x j : D} {k : M → D → (D → D) → Prop} (h : itemB m x j k) : itemB m x j fun m' d put => k m' d put ∧ (m' ≠ .s → m ≠ .s) := by
  cases m with
  | s => exact itemD_mono h fun d q => ⟨q, fun z => absurd rfl z⟩
  | o m' =>
    cases x with
    | lst xs =>
      cases j with
      | int i =>
        obtain ⟨n, d, h1, h2, h3⟩ := h
        exact ⟨n, d, h1, h2, h3, fun _ z => nomatch z⟩
      | _ => exact False.elim h
    | _ => exact False.elim h
  | _ => exact False.elim h

theorem E_slice (ha : EOk T ct pins b) (hlo : OOk T ct pins c) (hhi : OOk T ct pins r) : EOk T ct pins (.slice b c r) := by
  intro X Z k hX e h
  unfold mE at h
  split at h
  · simp only [Bool.and_eq_true] at h
    by_cases hb : b.isBor = true
    · refine PE.imp (pe_slice (sl_any (ct := ct)) (pe_root hX hb h.1.1) (hlo hX _ h.1.2) (hhi hX _ h.2)) fun σ H Q ⟨R, ρ, S, F, h, I, q⟩ => ?_
      unfold wE at h
      rw [hb] at h
      obtain ⟨h0, h⟩ := h
      obtain ⟨v, hv⟩ := I.root h0
      refine ⟨v, hv, _, ρ, S, F, h, I, fun l H1 S1 ρ1 F1 w1 I1 t1 => ?_⟩
      refine ⟨_, ρ1, S1, F1, w1, I1, fun u H2 S2 ρ2 F2 w2 I2 t2 => ?_⟩
      split at w2
      · rename_i m x hx
        exact ⟨S2, x, m, _, _, I2.sub, I2.slv hv hx, w2, q.kt I2 (t1.trans0 t2)⟩
      · exact w2.elim
    · refine PE.imp (pe_slice (sl_any (ct := ct)) (ha hX _ h.1.1) (hlo hX _ h.1.2) (hhi hX _ h.2)) fun σ H Q ⟨R, ρ, S, F, h, I, q⟩ => ?_
      unfold wE at h
      rw [Bool.not_eq_true] at hb
      rw [hb] at h
      refine tE.sh h I (Tr.refl fun _ z => z) fun v0 H0 S0 ρ0 F0 m0 d0 w0 I0 r0 t0 s0 => ?_
      refine ⟨_, ρ0, S0, F0, w0, I0, fun l H1 S1 ρ1 F1 w1 I1 t1 => ?_⟩
      refine ⟨_, ρ1, S1, F1, w1, I1, fun u H2 S2 ρ2 F2 w2 I2 t2 => ?_⟩
      exact ⟨S2, d0, .s, fun _ => False, _, I2.sub, by unfold RepM; exact (r0.mono t1.ss).mono t2.ss, w2, q.kt I2 ((t0.trans0 t1).trans0 t2)⟩
  · cases h

/-! ### paths -/
theorem B_bidx (hp : BOk T ct pins p) (he : EOk T ct pins e) : BOk T ct pins (.bidx p e) := by
  intro X Z k hX ex h
  unfold mE at h
  split at h
  · simp only [Bool.and_eq_true] at h
    by_cases hb : p.isBor = true
    · refine PE.imp (pe_ix (ix_itemB (ct := ct)) (pe_root hX hb h.1) (he hX _ h.2) (ok_ix (mE_ok h.2))) fun σ H Q ⟨R, ρ, S, F, h, I, q⟩ => ?_
      unfold wB at h
      rw [hb] at h
      obtain ⟨h0, h⟩ := h
      obtain ⟨v, hv⟩ := I.root h0
      refine ⟨v, hv, ?_⟩
      refine tE.sh h I (Tr.refl fun _ z => z) fun v2 H2 S2 ρ2 F2 m2 d2 w2 I2 r2 t2 s2 => ?_
      split at w2
      · rename_i m x hx
        refine ⟨S2, m, x, d2, _, _, I2.sub, I2.slv hv hx, r2, itemB_ns w2, fun m' d' put' v' G' k1 k2 k3 k4 => ?_⟩
        have L : Lens X.K ct S2 H2 σ ρ2 F2 p.root m (F2 p.root) id v := Lens.root hv hx
        exact q v' H2 S2 ρ2 F2 m' d' put' G' k1.1 I2 k2 k3 (Lens.then (put := id) (put' := put') (fun a z => z) k3 k1.2 L k4) t2
      · exact w2.elim
    · refine PE.imp (pe_ix (ix_itemB (ct := ct)) (hp hX _ h.1) (he hX _ h.2) (ok_ix (mE_ok h.2))) fun σ H Q ⟨R, ρ, S, F, h, I, q⟩ => ?_
      unfold wB at h
      rw [Bool.not_eq_true] at hb
      rw [hb] at h
      refine ⟨_, ρ, S, F, h, I, fun v1 H1 S1 ρ1 F1 m1 d1 put G w1 I1 r1 hG L1 t1 => ?_⟩
      obtain ⟨mr, dr, e1, w1⟩ := w1
      have lt := at_lt e1
      refine tE.sh w1 (I1.lock p.root) (Tr.refl fun _ z => z) fun v2 H2 S2 ρ2 F2 m2 d2 w2 I2 r2 t2 s2 => ?_
      have J := Sta.unlock I1 I2 t2 (fun a z => z) lt
      have L2 := Lens.unlock I1 I2 t2 L1
      have tt := t1.trans0 (Tr.unlock I1 t2)
      have r1' : RepM X.K ct S2 H2 m1 G d1 v1 := r1.mono t2.ss fun a z => (t2.locked I1 (hG a z)).1
      rw [e1] at J L2
      refine ⟨S2, m1, d1, d2, G, _, J.sub, r1', r2, itemB_ns w2, fun m' d' put' v' G' k1 k2 k3 k4 => ?_⟩
      refine q v' H2 S2 _ _ m' d' _ G' k1.1 J k2 (fun a z => Fs_self.mpr (hG a (k3 a z))) (Lens.then (fun a z => Fs_self.mpr (hG a z)) k3 k1.2 L2 k4) (tt.sub fun a z => ?_)
      obtain ⟨i, ⟨_, y⟩ | ⟨_, y⟩⟩ := z
      · exact .inr y
      · exact .inl ⟨i, y⟩
  · cases h
theorem E_rd (hp : BOk T ct pins p) : EOk T ct pins (.rd p) := by
  intro X Z k hX ex h
  unfold mE at h
  rw [Bool.and_eq_true] at h
  refine PE.imp (hp hX _ h.2) fun σ H Q ⟨R, ρ, S, F, h, I, q⟩ => ?_
  unfold wE at h
  refine ⟨_, ρ, S, F, h, I, fun v1 H1 S1 ρ1 F1 m1 d1 put G w1 I1 r1 hG L1 t1 => ?_⟩
  split at w1
  · unfold RepM at r1
    exact q.val I1 t1 r1 w1
  · exact w1.elim

/-! ### built-ins -/
theorem pe_b1 {X : Cx} {Z : SC} {k : Nat} (hX : XOk T ct Z k X) (f : B1) {y : Expr} {te : TE} {pn pos : Pos} (hg : Gl X f.nm) (h : PE X y te) (ho : okE y = true) : PE X (.Call (.Name f.nm pn) [y] [] pos) (tCB (rB1 X.K ct f) (tCons te tNil)) := by
  have st := ok_star (env := X.env) ho []
  have pa : PA X [y] (tCons te tNil) := pa_cons h pa_nil st
  have fr : X.mg f.nm = none := hX.free _ (by cases f <;> decide +kernel)
  have hc := call_b1 (ct := ct) hX.calm hX.gd (by have := hX.room.un; omega) (f := f)
  cases f
  · exact pe_callB hc hg fr (by decide +kernel) pa (by decide +kernel) (by decide +kernel) st rfl
  · exact pe_callTy hc hg fr (by decide +kernel) pa (by decide +kernel) (by decide +kernel) st rfl
  · exact pe_callB hc hg fr (by decide +kernel) pa (by decide +kernel) (by decide +kernel) st rfl
  · exact pe_callB hc hg fr (by decide +kernel) pa (by decide +kernel) (by decide +kernel) st rfl
  · exact pe_callB hc hg fr (by decide +kernel) pa (by decide +kernel) (by decide +kernel) st rfl
  · exact pe_callB hc hg fr (by decide +kernel) pa (by decide +kernel) (by decide +kernel) st rfl
  · exact pe_callB hc hg fr (by decide +kernel) pa (by decide +kernel) (by decide +kernel) st rfl
  · exact pe_callB hc hg fr (by decide +kernel) pa (by decide +kernel) (by decide +kernel) st rfl
  · exact pe_callB hc hg fr (by decide +kernel) pa (by decide +kernel) (by decide +kernel) st rfl
  · exact pe_callTy hc hg fr (by decide +kernel) pa (by decide +kernel) (by decide +kernel) st rfl
  · exact pe_callTy hc hg fr (by decide +kernel) pa (by decide +kernel) (by decide +kernel) st rfl
  · exact pe_callTy hc hg fr (by decide +kernel) pa (by decide +kernel) (by decide +kernel) st rfl
  · exact pe_callB hc hg fr (by decide +kernel) pa (by decide +kernel) (by decide +kernel) st rfl
theorem E_b1 (f : B1) (ha : EOk T ct pins a) (hb : BOk T ct pins a) : EOk T ct pins (.b1 f a) := by
  intro X Z k hX ex h
  unfold mE at h
  split at h
  · simp only [Bool.and_eq_true, decide_eq_true_eq] at h
    obtain ⟨⟨rfl, h1⟩, h2⟩ := h
    by_cases hp : a.isP = true
    · refine PE.imp (pe_b1 hX f (glo_of hX h1) (hb hX _ h2) (mE_ok h2)) fun σ H Q ⟨R, ρ, S, F, h, I, q⟩ => ?_
      unfold wE at h
      rw [hp] at h
      refine ⟨_, ρ, S, F, h, I, fun v1 H1 S1 ρ1 F1 m1 d1 put G w1 I1 r1 hG L1 t1 => ?_⟩
      exact ⟨v1, S1, d1, m1, G, _, rfl, I1.sub, r1, w1, q.kt I1 t1⟩
    · refine PE.imp (pe_b1 hX f (glo_of hX h1) (ha hX _ h2) (mE_ok h2)) fun σ H Q ⟨R, ρ, S, F, h, I, q⟩ => ?_
      unfold wE at h
      rw [Bool.not_eq_true] at hp
      rw [hp] at h
      refine tE.sh h I (Tr.refl fun _ z => z) fun v1 H1 S1 ρ1 F1 m1 d1 w1 I1 r1 t1 s1 => ?_
      exact ⟨v1, S1, d1, .s, fun _ => False, _, rfl, I1.sub, by unfold RepM; exact r1, w1, q.kt I1 t1⟩
  · cases h
theorem pa_two {X : Cx} {y z : Expr} {ta tb : TE} (h1 : PE X y ta) (h2 : PE X z tb) (o1 : okE y = true) (o2 : okE z = true) : PA X [y, z] (tCons ta (tCons tb tNil)) :=
  pa_cons h1 (pa_cons h2 pa_nil (ok_star o2 _)) (ok_star o1 _)
theorem star_two {env : PySem.Env} {z : Expr} {pos : Pos} (o2 : okE z = true) : (backTo pos (starEach [z] env)).any (·.1) = false := by
  rw [ok_star o2]
  rfl
theorem E_max2 (ha : EOk T ct pins a) (hb : EOk T ct pins b) : EOk T ct pins (.max2 a b) := by
  intro X Z k hX ex h
  unfold mE at h
  split at h
  · simp only [Bool.and_eq_true, decide_eq_true_eq] at h
    obtain ⟨⟨⟨rfl, h1⟩, h2⟩, h3⟩ := h
    refine PE.imp (pe_callB (call_max2 hX.calm) (glo_of hX h1) (hX.free _ (by decide +kernel)) (by decide +kernel) (pa_two (ha hX _ h2) (hb hX _ h3) (mE_ok h2) (mE_ok h3)) (by decide +kernel) (by decide +kernel) (ok_star (mE_ok h2) _) (star_two (mE_ok h3))) fun σ H Q ⟨R, ρ, S, F, h, I, q⟩ => ?_
    refine tE.sh (by unfold wE at h; exact h) I (Tr.refl fun _ z => z) fun v1 H1 S1 ρ1 F1 m1 d1 w1 I1 r1 t1 s1 => ?_
    refine tE.sh w1 I1 t1 fun v2 H2 S2 ρ2 F2 m2 d2 w2 I2 r2 t2 s2 => ?_
    split at w2
    · unfold Rep at r1 r2
      subst r1
      subst r2
      exact ⟨_, _, rfl, q.val I2 t2 (rInt _) w2⟩
    · exact w2.elim
  · cases h
theorem E_min2 (ha : EOk T ct pins a) (hb : EOk T ct pins b) : EOk T ct pins (.min2 a b) := by
  intro X Z k hX ex h
  unfold mE at h
  split at h
  · simp only [Bool.and_eq_true, decide_eq_true_eq] at h
    obtain ⟨⟨⟨rfl, h1⟩, h2⟩, h3⟩ := h
    refine PE.imp (pe_callB (call_min2 hX.calm) (glo_of hX h1) (hX.free _ (by decide +kernel)) (by decide +kernel) (pa_two (ha hX _ h2) (hb hX _ h3) (mE_ok h2) (mE_ok h3)) (by decide +kernel) (by decide +kernel) (ok_star (mE_ok h2) _) (star_two (mE_ok h3))) fun σ H Q ⟨R, ρ, S, F, h, I, q⟩ => ?_
    refine tE.sh (by unfold wE at h; exact h) I (Tr.refl fun _ z => z) fun v1 H1 S1 ρ1 F1 m1 d1 w1 I1 r1 t1 s1 => ?_
    refine tE.sh w1 I1 t1 fun v2 H2 S2 ρ2 F2 m2 d2 w2 I2 r2 t2 s2 => ?_
    split at w2
    · unfold Rep at r1 r2
      subst r1
      subst r2
      exact ⟨_, _, rfl, q.val I2 t2 (rInt _) w2⟩
    · exact w2.elim
  · cases h
theorem Reps.of_range (lo c : Int) (n : Nat) {K : PySem.W.Frag} {S : Hp} : Reps K ct S (rangeD lo c n) ((List.range n).map fun i => V.int (lo + (i : Nat) * c)) := by
  unfold rangeD
  have : ∀ l : List Nat, Reps K ct S (l.map fun i => D.int (lo + (i : Nat) * c)) (l.map fun i => V.int (lo + (i : Nat) * c)) := by
    intro l
    induction l with
    | nil => exact rfl
    | cons a l ih => exact Reps.cons (rInt _) ih
  exact this _
theorem E_lrange (ha : EOk T ct pins a) : EOk T ct pins (.lrange a) := by
  intro X Z k hX ex h
  unfold mE at h
  split at h
  · simp only [Bool.and_eq_true, decide_eq_true_eq] at h
    obtain ⟨⟨⟨⟨rfl, h1⟩, rfl⟩, h2⟩, h3⟩ := h
    refine PE.imp (pe_listRg hX.calm (glo_of hX h1) (hX.free _ (by decide +kernel)) (prg_1 (glo_of hX h2) (hX.free _ (by decide +kernel)) (ha hX _ h3) (ok_star (mE_ok h3) _)) rfl) fun σ H Q ⟨R, ρ, S, F, h, I, q⟩ => ?_
    refine tE.sh (by unfold wE at h; exact h) I (Tr.refl fun _ z => z) fun v1 H1 S1 ρ1 F1 m1 d1 w1 I1 r1 t1 s1 => ?_
    split at w1
    · rename_i i
      unfold Rep at r1
      subst r1
      obtain ⟨h0, h1, w1⟩ := w1
      refine ⟨i, rfl, RgOk.of_le (by omega) h1 (by omega) h0, fun p hp => ?_⟩
      have e : rgV 0 i = (List.range i.toNat).map fun j => V.int (0 + (j : Nat) * 1) := by
        unfold rgV
        rw [Int.sub_zero]
        refine List.map_congr_left fun j _ => ?_
        rw [Int.mul_one]
      rw [e]
      exact (q.kt I1 t1).newL I1.sub (Reps.of_range 0 1 i.toNat) w1 hp
    · exact w1.elim
  · cases h
end
end Y
namespace Y
open PySem PySem.Spec PyProof.Rows L2

theorem dropLast_erase {α : Type} : ∀ l : List α, l.eraseIdx (l.length - 1) = l.dropLast
  | [] => rfl
  | [a] => rfl
  | a :: b :: l => by
    have := dropLast_erase (b :: l)
    show a :: (b :: l).eraseIdx ((b :: l).length - 1) = a :: (b :: l).dropLast
    rw [this]

section
variable {T : List FSpec} {ct : Ct} {pins : List (Nat × V)} {a b c r p e : C}
variable {K : PySem.W.Frag} {S H S0 H0 : Hp} {σ : L2.St} {ρ : Env} {F : Sl → Pm} {P G Gy : Pm} {m m' me mr : M} {d dr dy : D} {v w : V} {rt : Nat} {put : D → D} {xs : List D}
theorem Lens.ss {S' : Hp} (e : Same S S') (L : Lens K ct S H σ ρ F rt m G put v) : Lens K ct S' H σ ρ F rt m G put v := by
  obtain ⟨mr, dr, vr, e1, e2, e3⟩ := L
  exact ⟨mr, dr, vr, e1, e2, fun hm S2 H2 G2 d2 h1 h2 h3 h4 => e3 hm S2 H2 G2 d2 (e.trans h1) h2 h3 h4⟩
theorem upd_there {p : Addr} {o : HO} {b : Addr} (h : H b ≠ none) : upd H p o b ≠ none := by
  by_cases z : b = p
  · subst z
    rw [upd_same]
    exact fun z => nomatch z
  · rw [upd_ne z]
    exact h
theorem app_fin (I : Sta K ct pins S H σ ρ F) (L : Lens K ct S H σ ρ F rt (.o m') G put v) (hr : ρ.at rt = some (mr, dr)) (hG : ∀ a, G a → F rt a) (hv : RepM K ct S H (.o m') G (.lst xs) v) (y : Vl K ct S H F me Gy dy w)
    (t : Tr P S0 H0 S H (fun a => Gy a ∨ Pt F a)) (c : cst me m' = true) :
    ∃ l vs, v = .ref l ∧ H l = some (.lst vs) ∧ vs.length = xs.length ∧ ∃ S' F', Sta K ct pins S' (upd H l (.lst (vs ++ [w]))) σ (ρ.set rt (some (mr, put (.lst (xs ++ [dy]))))) F' ∧ Tr P S0 H0 S' (upd H l (.lst (vs ++ [w]))) (Pt F') := by
  have hss : ∃ S1 Gy', Same S S1 ∧ Vl K ct S1 H F m' Gy' dy w ∧ Sta K ct pins S1 H σ ρ F ∧ Tr P S0 H0 S1 H (fun a => Gy' a ∨ Pt F a) := by
    rcases cst_eq c with rfl | rfl
    · obtain ⟨q1, q2, q3⟩ := y.frz I t
      exact ⟨_, _, frz_ge, Vl.sh q1, q2, q3.sub fun a z => z.elim (fun z => z.elim) fun z => z⟩
    · exact ⟨S, Gy, Same.refl _, y, I, t⟩
  obtain ⟨S1, Gy', e, y', I', t'⟩ := hss
  have L' := L.ss e
  have hv' : RepM K ct S1 H (.o m') G (.lst xs) v := hv.mono e fun _ _ => rfl
  unfold RepM at hv'
  obtain ⟨a, vs, ds, F', e1, rfl, e3, e4, e5, e6⟩ := hv'
  cases e1
  have nya : ∀ b, Gy' b → b ≠ a := fun b z q => (y'.off b z).2.2 rt (by rw [q]; exact hG a e3)
  have hH : ∀ b, ¬ G b → upd H a (.lst (vs ++ [w])) b = H b := fun b n => upd_ne fun q => n (by rw [q]; exact e3)
  have hq : RepM K ct S1 (upd H a (.lst (vs ++ [w]))) (.o m') (fun b => G b ∨ Gy' b) (.lst (xs ++ [dy])) (.ref a) := by
    unfold RepM
    refine ⟨a, vs ++ [w], _, fun b => F' b ∨ Gy' b, rfl, rfl, .inl e3, upd_same, fun b z => ?_, Items.append ?_ (fun b z q => (y'.off b z).2.2 rt (hG b (e5 b q).1)) (e6.mono fun G'' d v hg z => z.mono (Same.refl _) fun b q => upd_ne (e5 b (hg b q)).2)⟩
    · rcases z with z | z
      · exact ⟨.inl (e5 b z).1, (e5 b z).2⟩
      · exact ⟨.inr z, nya b z⟩
    · exact y'.rep.mono (Same.refl _) fun b z => upd_ne (nya b z)
  have hoff : ∀ b, (G b ∨ Gy' b) → S1 b = none ∧ upd H a (.lst (vs ++ [w])) b ≠ none ∧ (G b ∨ ∀ i, ¬ F i b) := fun b z => by
    rcases z with z | z
    · exact ⟨(I'.off rt b (hG b z)).1, upd_there (I'.off rt b (hG b z)).2, .inl z⟩
    · exact ⟨(y'.off b z).1, upd_there (y'.off b z).2.1, .inr (y'.off b z).2.2⟩
  refine ⟨a, vs, rfl, e4, e6.length.symm, S1, _, I'.put L' hr (fun z => nomatch z) hG hH (fun b z => upd_there z) hq hoff, t'.trans0 ?_⟩
  exact Tr.put (P := Gy') I' hG hH (fun b z => upd_there z) (CodeK.updL e4) fun b z => z.elim .inr .inl
theorem ty_list (h : RepM K ct S H (.o m) G d v) : tyV K "list" v H := by
  unfold RepM at h
  obtain ⟨a, vs, ds, F', _, rfl, _, e4, _, _⟩ := h
  exact .inl ⟨rfl, vs, SqL.of e4⟩
theorem wB_bor (hb : p.isBor = true) {R : M → D → (D → D) → Env → Prop} (h : wB T (pins.map (·.1)) p R ρ) : ∃ m d, ρ.at p.root = some (m, d) ∧ R m d id ρ := by
  cases p with
  | bor i =>
    unfold wB at h
    split at h
    · rename_i m d hd
      exact ⟨m, d, hd, h⟩
    · exact h.elim
  | _ => cases hb
theorem E_app (hp : BOk T ct pins p) (he : EOk T ct pins e) : EOk T ct pins (.app p e) := by
  intro X Z k hX ex h
  unfold mE at h
  split at h
  · rename_i o n ap y cp
    simp only [Bool.and_eq_true, decide_eq_true_eq] at h
    obtain ⟨⟨⟨rfl, hl⟩, h1⟩, h2⟩ := h
    have st := ok_star (env := X.env) (mE_ok h2) []
    by_cases hb : p.isBor = true
    · refine PE.imp (pe_bm PySem.F.plainAttrs_list PySem.F.slot_list_append PySem.F.type_list_append mt_append (pe_root hX hb h1) (pa_cons (he hX _ h2) pa_nil st) (ok_base (mE_ok h1) _) (by rw [st]; rfl) hl st rfl) fun σ H Q ⟨R, ρ, S, F, h, I, q⟩ => ?_
      unfold wE at h
      obtain ⟨m, d, hd, h⟩ := wB_bor hb h
      split at h
      · obtain ⟨v, hv⟩ := I.root (i := p.root) (by rw [hd]; rfl)
        refine ⟨v, hv, ty_list (I.slv hv hd), ?_⟩
        have h := h.2
        rw [if_pos hb] at h
        refine ⟨_, ρ, S, F, h, I, fun v2 H2 S2 ρ2 F2 m2 d2 G2 w2 I2 r2 t2 => ?_⟩
        dsimp only at w2
        split at w2
        · rename_i m3 xs3 hd2
          obtain ⟨z1, z2, z3⟩ := w2
          obtain ⟨l, vs, rfl, g2, g3, S3, F3, I3, t3⟩ := app_fin I2 (Lens.root hv hd2) hd2 (fun a z => z) (I2.slv hv hd2) r2 t2 z2
          exact ⟨l, vs, v2, rfl, rfl, g2, by rw [g3]; exact z1, q.val I3 t3 rNon z3⟩
        · exact w2.elim
      · exact h.elim
    · refine PE.imp (pe_bm PySem.F.plainAttrs_list PySem.F.slot_list_append PySem.F.type_list_append mt_append (hp hX _ h1) (pa_cons (he hX _ h2) pa_nil st) (ok_base (mE_ok h1) _) (by rw [st]; rfl) hl st rfl) fun σ H Q ⟨R, ρ, S, F, h, I, q⟩ => ?_
      unfold wE at h
      refine ⟨_, ρ, S, F, h, I, fun v1 H1 S1 ρ1 F1 m1 d1 put G w1 I1 r1 hG L1 t1 => ?_⟩
      split at w1
      · rename_i m' xs
        refine ⟨ty_list r1, ?_⟩
        obtain ⟨hz, w1⟩ := w1
        rw [if_neg hb] at w1
        have lt : p.root < ρ1.length := by
          obtain ⟨mr, dr, vr, f1, _⟩ := L1
          exact at_lt f1
        refine ⟨_, _, S1, _, w1, I1.lock p.root, fun v2 H2 S2 ρ2 F2 m2 d2 G2 w2 I2 r2 t2 => ?_⟩
        obtain ⟨c2, mr, dr, f1, w2⟩ := w2
        have hp2 : ∀ a, Pt F2 a → (G2 a ∨ Pt F2 a) := fun a z => .inr z
        have J := Sta.unlock I1 I2 t2 hp2 lt
        have L2 := Lens.unlock I1 I2 t2 L1
        have tt := t1.trans0 (Tr.unlock I1 t2)
        have r1' : RepM X.K ct S2 H2 (.o m') G (.lst xs) v1 := r1.mono t2.ss fun a z => (t2.locked I1 (hG a z)).1
        have y2 : Vl X.K ct S2 H2 (Fs F2 p.root (F1 p.root)) m2 G2 d2 v2 := ⟨r2.rep, fun a z => ⟨(r2.off a z).1, (r2.off a z).2.1, fun i y => by
          rcases y with ⟨_, y⟩ | ⟨_, y⟩
          · exact (t2.locked I1 y).2.2 (.inl z)
          · exact (r2.off a z).2.2 i y⟩⟩
        have rt : Env.at (ρ2.set p.root (ρ1.at p.root)) p.root = some (mr, dr) := by
          rw [at_set_self]
          · exact f1
          · rw [I2.len, ← I1.len]
            exact lt
        obtain ⟨l, vs, rfl, g2, g3, S3, F3, I3, t3⟩ := app_fin J L2 rt (fun a z => Fs_self.mpr (hG a z)) r1' y2 (tt.sub fun a z => by
          rcases z with z | ⟨i, ⟨_, y⟩ | ⟨_, y⟩⟩
          · exact .inl (.inl z)
          · exact .inr y
          · exact .inl (.inr ⟨i, y⟩)) c2
        refine ⟨l, vs, v2, rfl, rfl, g2, by rw [g3]; exact hz, q.val I3 t3 rNon ?_⟩
        rw [List.set_set]
        exact w2
      · exact w1.elim
  · cases h

theorem pop_fin (I : Sta K ct pins S H σ ρ F) (L : Lens K ct S H σ ρ F rt (.o m') G put v) (hr : ρ.at rt = some (mr, dr)) (hG : ∀ a, G a → F rt a) (hv : RepM K ct S H (.o m') G (.lst xs) v)
    (t : Tr P S0 H0 S H (Pt F)) {n : Nat} (hy : xs[n]? = some dy) :
    ∃ l vs y, v = .ref l ∧ H l = some (.lst vs) ∧ vs.length = xs.length ∧ vs[n]? = some y ∧ ∃ F' G', Sta K ct pins S (upd H l (.lst (vs.eraseIdx n))) σ (ρ.set rt (some (mr, put (.lst (xs.eraseIdx n))))) F' ∧
      Vl K ct S (upd H l (.lst (vs.eraseIdx n))) F' m' G' dy y ∧ Tr P S0 H0 S (upd H l (.lst (vs.eraseIdx n))) (fun a => G' a ∨ Pt F' a) := by
  unfold RepM at hv
  obtain ⟨a, vs, ds, F', e1, rfl, e3, e4, e5, e6⟩ := hv
  cases e1
  obtain ⟨y, F1, F2, g1, g2, g3, g4, g5, g6⟩ := e6.out hy
  have g5 : RepM K ct S H m' F1 dy y := g5
  have hH : ∀ b, ¬ G b → upd H a (.lst (vs.eraseIdx n)) b = H b := fun b z => upd_ne fun q => z (by rw [q]; exact e3)
  have sub2 : ∀ b, (b = a ∨ F2 b) → G b := fun b z => z.elim (fun z => by rw [z]; exact e3) fun z => (e5 b (g3 b z)).1
  have hq : RepM K ct S (upd H a (.lst (vs.eraseIdx n))) (.o m') (fun b => b = a ∨ F2 b) (.lst (xs.eraseIdx n)) (.ref a) := by
    unfold RepM
    exact ⟨a, _, _, F2, rfl, rfl, .inl rfl, upd_same, fun b z => ⟨.inr z, (e5 b (g3 b z)).2⟩, g6.mono fun G'' d v hg z => z.mono (Same.refl _) fun b q => upd_ne (e5 b (g3 b (hg b q))).2⟩
  have J := I.put L hr (fun z => nomatch z) hG hH (fun b z => upd_there z) hq fun b z => ⟨(I.off rt b (hG b (sub2 b z))).1, upd_there (I.off rt b (hG b (sub2 b z))).2, .inl (sub2 b z)⟩
  refine ⟨a, vs, y, rfl, e4, e6.length.symm, g1, _, F1, J, ⟨g5.mono (Same.refl _) fun b z => upd_ne (e5 b (g2 b z)).2, fun b z => ?_⟩, ?_⟩
  · have gb : G b := (e5 b (g2 b z)).1
    refine ⟨(I.off rt b (hG b gb)).1, upd_there (I.off rt b (hG b gb)).2, fun i y => ?_⟩
    rcases y with ⟨_, y⟩ | ⟨ne, y⟩
    · rcases y with (y | y) | y
      · exact (e5 b (g2 b z)).2 y
      · exact g4 b z y
      · exact y.2 gb
    · exact ne (I.dj i rt b y (hG b gb))
  · have tp := Tr.put (P := fun _ => False) (G2 := fun b => b = a ∨ F2 b) I hG hH (fun b z => upd_there z) (CodeK.updL e4) fun b z => .inr (sub2 b z)
    have t' := (t.sub (P1 := fun a => False ∨ Pt F a) fun a z => z.elim (fun z => z.elim) fun z => z)
    have tt := t'.trans0 tp
    refine ⟨tt.ss, tt.keep, tt.news, fun b z => ?_, tt.there, tt.code⟩
    rcases z with z | z
    · exact t.newp b ⟨rt, hG b (e5 b (g2 b z)).1⟩
    · exact tt.newp b z
theorem E_pop (hp : BOk T ct pins p) : EOk T ct pins (.pop p) := by
  intro X Z k hX ex h
  unfold mE at h
  split at h
  · rename_i o n ap cp
    simp only [Bool.and_eq_true, decide_eq_true_eq] at h
    obtain ⟨⟨rfl, hl⟩, h1⟩ := h
    refine PE.imp (pe_bm0 PySem.F.plainAttrs_list PySem.F.slot_list_pop PySem.F.type_list_pop mt_pop (hp hX _ h1) (ok_base (mE_ok h1) _) hl) fun σ H Q ⟨R, ρ, S, F, h, I, q⟩ => ?_
    unfold wE at h
    refine ⟨_, ρ, S, F, h, I, fun v1 H1 S1 ρ1 F1 m1 d1 put G w1 I1 r1 hG L1 t1 => ?_⟩
    split at w1
    · rename_i m' xs
      refine ⟨ty_list r1, ?_⟩
      obtain ⟨y, hy, mr, dr, f1, w1⟩ := w1
      obtain ⟨l, vs, yv, rfl, g1, g2, g3, F2, G2, I2, r2, t2⟩ := pop_fin I1 L1 f1 hG r1 t1 hy
      refine ⟨l, vs, yv, rfl, rfl, g1, by rw [g2]; exact g3, ?_⟩
      rw [dropLast_erase] at I2 
      have e : vs.eraseIdx (xs.length - 1) = vs.dropLast := by rw [← g2]; exact dropLast_erase vs
      rw [e] at I2 r2 t2
      exact q yv _ S1 _ F2 m' y G2 w1 I2 r2 t2
    · exact w1.elim
  · cases h
theorem E_popAt (he : EOk T ct pins e) : EOk T ct pins (.popAt p e) := by
  intro X Z k hX ex h
  unfold mE at h
  split at h
  · rename_i o n ap y cp
    simp only [Bool.and_eq_true, decide_eq_true_eq] at h
    obtain ⟨⟨⟨rfl, hl⟩, h1⟩, h2⟩ := h
    have st := ok_star (env := X.env) (mE_ok h2) []
    by_cases hb : p.isBor = true
    · refine PE.imp (pe_bm PySem.F.plainAttrs_list PySem.F.slot_list_pop PySem.F.type_list_pop mt_popAt (pe_root hX hb h1) (pa_cons (he hX _ h2) pa_nil st) (ok_base (mE_ok h1) _) (by rw [st]; rfl) hl st rfl) fun σ H Q ⟨R, ρ, S, F, h, I, q⟩ => ?_
      unfold wE at h
      rw [hb] at h
      obtain ⟨h0, hm, h⟩ := h
      obtain ⟨v, hv⟩ := I.root h0
      obtain ⟨⟨m, d⟩, hd⟩ := Option.isSome_iff_exists.mp h0
      have ty : tyV X.K "list" v H := by
        rw [hd] at hm
        cases m with
        | o m => exact ty_list (I.slv hv hd)
        | _ => exact hm.elim
      refine ⟨v, hv, ty, ?_⟩
      refine tE.sh h I (Tr.refl fun _ z => z) fun v2 H2 S2 ρ2 F2 m2 d2 w2 I2 r2 t2 s2 => ?_
      split at w2
      · rename_i xs i hd2
        obtain ⟨z1, z2, kk, yy, z3, z4, z5⟩ := w2
        unfold Rep at r2
        subst r2
        obtain ⟨l, vs, yv, rfl, g1, g2, g3, F3, G3, I3, r3, t3⟩ := pop_fin I2 (Lens.root hv hd2) hd2 (fun a z => z) (I2.slv hv hd2) t2 z4
        refine ⟨l, vs, i, kk, yv, rfl, rfl, g1, z1, z2, by rw [g2]; exact z3, g3, ?_⟩
        exact q yv _ S2 _ F3 .s yy G3 z5 I3 r3 t3
      · exact w2.elim
    · refine PE.no fun σ H Q ⟨R, ρ, S, F, h, I, q⟩ => ?_
      unfold wE at h
      rw [Bool.not_eq_true] at hb
      rw [hb] at h
      exact h
  · cases h
theorem ext_fin {ys : List D} {b : Addr} {ws : List V} (I : Sta K ct pins S H σ ρ F) (hv : σ[rt]? = some (some v)) (hr : ρ.at rt = some (.o .s, .lst xs))
    (t : Tr P S0 H0 S H (Pt F)) (hw : Reps K ct S ys ws) :
    ∃ l vs, v = .ref l ∧ H l = some (.lst vs) ∧ vs.length = xs.length ∧ ∃ F', Sta K ct pins S (upd H l (.lst (vs ++ ws))) σ (ρ.set rt (some (.o .s, .lst (xs ++ ys)))) F' ∧ Tr P S0 H0 S (upd H l (.lst (vs ++ ws))) (Pt F') := by
  have hq := I.slv hv hr
  unfold RepM at hq
  obtain ⟨a, vs, ds, F', e1, rfl, e3, e4, e5, e6⟩ := hq
  cases e1
  have er : Reps K ct S xs vs := Items.reps (F := F') (e6.mono fun G d v _ z => by unfold RepM at z; exact z)
  have hH : ∀ b, ¬ F rt b → upd H a (.lst (vs ++ ws)) b = H b := fun b z => upd_ne fun q => z (by rw [q]; exact e3)
  have hq : RepM K ct S (upd H a (.lst (vs ++ ws))) (.o .s) (F rt) (.lst (xs ++ ys)) (.ref a) := by
    unfold RepM
    exact ⟨a, _, _, fun _ => False, rfl, rfl, e3, upd_same, fun b z => z.elim, (Items.of_reps (er.append hw)).mono fun G d v _ z => by unfold RepM; exact z⟩
  refine ⟨a, vs, rfl, e4, er.length.symm, _, I.put (Lens.root hv hr) hr (fun z => nomatch z) (fun a z => z) hH (fun b z => upd_there z) hq fun b z => ⟨(I.off rt b z).1, upd_there (I.off rt b z).2, .inl z⟩, ?_⟩
  have t' := (t.sub (P1 := fun a => False ∨ Pt F a) fun a z => z.elim (fun z => z.elim) fun z => z)
  exact t'.trans0 (Tr.put (P := fun _ => False) I (fun a z => z) hH (fun b z => upd_there z) (CodeK.updL e4) fun b z => .inr z)
theorem E_ext (he : EOk T ct pins e) : EOk T ct pins (.ext p e) := by
  intro X Z k hX ex h
  unfold mE at h
  split at h
  · rename_i o n ap y cp
    simp only [Bool.and_eq_true, decide_eq_true_eq] at h
    obtain ⟨⟨⟨rfl, hl⟩, h1⟩, h2⟩ := h
    have st := ok_star (env := X.env) (mE_ok h2) []
    by_cases hb : p.isBor = true
    · refine PE.imp (pe_bm PySem.F.plainAttrs_list PySem.F.slot_list_extend PySem.F.type_list_extend mt_extend (pe_root hX hb h1) (pa_cons (he hX _ h2) pa_nil st) (ok_base (mE_ok h1) _) (by rw [st]; rfl) hl st rfl) fun σ H Q ⟨R, ρ, S, F, h, I, q⟩ => ?_
      unfold wE at h
      rw [hb] at h
      obtain ⟨h0, hm, h⟩ := h
      obtain ⟨v, hv⟩ := I.root h0
      obtain ⟨⟨m, d⟩, hd⟩ := Option.isSome_iff_exists.mp h0
      have ty : tyV X.K "list" v H := by
        rw [hd] at hm
        cases m with
        | o m => exact ty_list (I.slv hv hd)
        | _ => exact hm.elim
      refine ⟨v, hv, ty, ?_⟩
      refine tE.sh h I (Tr.refl fun _ z => z) fun v2 H2 S2 ρ2 F2 m2 d2 w2 I2 r2 t2 s2 => ?_
      split at w2
      · rename_i xs ys hd2
        unfold Rep at r2
        obtain ⟨b, ws, rfl, g1, g2⟩ := r2
        obtain ⟨l, vs, rfl, g3, g4, F3, I3, t3⟩ := ext_fin (b := b) I2 hv hd2 t2 g2
        exact ⟨l, b, vs, ws, rfl, rfl, g3, I2.sub _ _ g1, by rw [g4, ← g2.length]; exact w2.1, q.val I3 t3 rNon w2.2⟩
      · exact w2.elim
    · refine PE.no fun σ H Q ⟨R, ρ, S, F, h, I, q⟩ => ?_
      unfold wE at h
      rw [Bool.not_eq_true] at hb
      rw [hb] at h
      exact h
  · cases h
theorem E_index (hp : EOk T ct pins p) (he : EOk T ct pins e) : EOk T ct pins (.index p e) := by
  intro X Z k hX ex h
  unfold mE at h
  split at h
  · rename_i o n ap y cp
    simp only [Bool.and_eq_true, decide_eq_true_eq] at h
    obtain ⟨⟨⟨rfl, hl⟩, h1⟩, h2⟩ := h
    have st := ok_star (env := X.env) (mE_ok h2) []
    by_cases hb : p.isBor = true
    · refine PE.imp (pe_bm PySem.F.plainAttrs_list PySem.F.slot_list_index PySem.F.type_list_index (mt_idx (ct := ct)) (pe_root hX hb h1) (pa_cons (he hX _ h2) pa_nil st) (ok_base (mE_ok h1) _) (by rw [st]; rfl) hl st rfl) fun σ H Q ⟨R, ρ, S, F, h, I, q⟩ => ?_
      unfold wE at h
      rw [hb] at h
      obtain ⟨h0, hm, h⟩ := h
      obtain ⟨v, hv⟩ := I.root h0
      obtain ⟨⟨m, d⟩, hd⟩ := Option.isSome_iff_exists.mp h0
      have ty : tyV X.K "list" v H := by
        rw [hd] at hm
        cases m with
        | o m => exact ty_list (I.slv hv hd)
        | s =>
          cases d with
          | lst xs =>
            have := I.slv hv hd
            unfold RepM Rep at this
            obtain ⟨a, vs, rfl, e2, _⟩ := this
            exact .inl ⟨rfl, vs, SqL.of (I.sub _ _ e2)⟩
          | _ => exact hm.elim
        | _ => exact hm.elim
      refine ⟨v, hv, ty, ?_⟩
      refine tE.sh h I (Tr.refl fun _ z => z) fun v2 H2 S2 ρ2 F2 m2 d2 w2 I2 r2 t2 s2 => ?_
      split at w2
      · rename_i x hd2
        exact ⟨v2, S2, _, _, _, rfl, I2.sub, (I2.slv hv hd2).rd I2.sub, r2, w2, fun j hj => q.val I2 t2 (rInt _) hj⟩
      · exact w2.elim
    · refine PE.imp (pe_bm PySem.F.plainAttrs_list PySem.F.slot_list_index PySem.F.type_list_index (mt_idx (ct := ct)) (hp hX _ h1) (pa_cons (he hX _ h2) pa_nil st) (ok_base (mE_ok h1) _) (by rw [st]; rfl) hl st rfl) fun σ H Q ⟨R, ρ, S, F, h, I, q⟩ => ?_
      unfold wE at h
      rw [Bool.not_eq_true] at hb
      rw [hb] at h
      refine tE.sh h I (Tr.refl fun _ z => z) fun v1 H1 S1 ρ1 F1 m1 d1 w1 I1 r1 t1 s1 => ?_
      obtain ⟨xs, rfl⟩ : ∃ xs, d1 = .lst xs := by
        cases d1 with
        | lst xs => exact ⟨xs, rfl⟩
        | _ => exact w1.1.elim
      have r1' := r1
      unfold Rep at r1'
      obtain ⟨a, vs, rfl, e2, _⟩ := r1'
      refine ⟨.inl ⟨rfl, vs, SqL.of (I1.sub _ _ e2)⟩, ?_⟩
      refine tE.sh w1.2 I1 t1 fun v2 H2 S2 ρ2 F2 m2 d2 w2 I2 r2 t2 s2 => ?_
      exact ⟨v2, S2, _, _, _, rfl, I2.sub, (r1.mono s2).mono I2.sub, r2, w2, fun j hj => q.val I2 t2 (rInt _) hj⟩
  · cases h
end
end Y
namespace Y
open PySem PySem.Spec PyProof.Rows L2

/-! ### calls of defs -/
def PtN (F : Nat → Pm) : Pm := fun a => ∃ i, F i a
structure ArgsOk (K : PySem.W.Frag) (ct : Ct) (S H : Hp) (σ : L2.St) (ρ : Env) (F : Sl → Pm) (ms : List M) (ds : List D) (rs : List (Option Nat)) (vs : List V) (Gs : Nat → Pm) : Prop where
  l1 : ds.length = ms.length
  l2 : rs.length = ms.length
  l3 : vs.length = ms.length
  own : ∀ (i : Nat) m d v, ms[i]? = some m → ds[i]? = some d → vs[i]? = some v → rs[i]? = some none → RepM K ct S H m (Gs i) d v ∧ ∀ a, Gs i a → S a = none ∧ H a ≠ none ∧ ∀ j, ¬ F j a
  bor : ∀ (i : Nat) r, rs[i]? = some (some r) → ∃ m d v, ms[i]? = some m ∧ m ≠ .s ∧ ds[i]? = some d ∧ vs[i]? = some v ∧ ρ.at r = some (m, d) ∧ σ[r]? = some (some v) ∧ ∀ a, Gs i a ↔ F r a
  dj : ∀ i j a, Gs i a → Gs j a → i = j
  few : ∀ i a, Gs i a → i < ms.length
  inj : ∀ (i j : Nat) r, rs[i]? = some (some r) → rs[j]? = some (some r) → i = j

def shiftG (G : Pm) (Gs : Nat → Pm) : Nat → Pm
  | 0 => G
  | i + 1 => Gs i

section
variable (K : PySem.W.Frag) (ct : Ct) (T : List FSpec) (pins : List (Nat × V))
def tA (ms : List M) (c : C) : TA := fun σ H Q => ∃ (R : List D → List (Option Nat) → Env → Prop) (ρ : Env) (S : Hp) (F : Sl → Pm), wA T (pins.map (·.1)) ms c R ρ ∧ Sta K ct pins S H σ ρ F ∧
  ∀ vs H' S' ρ' F' ds rs Gs, R ds rs ρ' → Sta K ct pins S' H' σ ρ' F' → ArgsOk K ct S' H' σ ρ' F' ms ds rs vs Gs → Tr (Pt F) S H S' H' (fun a => PtN Gs a ∨ Pt F' a) → Q vs H'
end
section
variable (T : List FSpec) (ct : Ct) (pins : List (Nat × V))
def AOk (c : C) : Prop := ∀ {X : Cx} {Z : SC} {k : Nat}, XOk T ct Z k X → ∀ ms es, mL Z c es = true → PA X es (tA X.K ct T pins ms c)
end
section
variable {T : List FSpec} {ct : Ct} {pins : List (Nat × V)} {a b c r p e : C}
theorem A_nil : AOk T ct pins .nil := by
  intro X Z k hX ms es h
  unfold mL at h
  split at h
  · refine PA.imp pa_nil fun σ H Q ⟨R, ρ, S, F, h, I, q⟩ => ?_
    cases ms with
    | nil =>
      refine q [] H S ρ F [] [] (fun _ _ => False) h I ⟨rfl, rfl, rfl, fun i m d v h => by simp at h, fun i r h => by simp at h, fun i j a h => h.elim, fun i a h => h.elim, fun i j r h => by simp at h⟩ (Tr.refl fun a z => ?_)
      rcases z with ⟨i, z⟩ | z
      · exact z.elim
      · exact z
    | cons _ _ => exact False.elim h
  · cases h
theorem A_cons (ha : EOk T ct pins a) (hr : AOk T ct pins r) : AOk T ct pins (.cons a r) := by
  intro X Z k hX ms es h
  unfold mL at h
  split at h
  · simp only [Bool.and_eq_true] at h
    cases ms with
    | nil => exact PA.no fun σ H Q ⟨R, ρ, S, F, h, I, q⟩ => h
    | cons m ms =>
      by_cases hb : a.isBor = true
      · refine PA.imp (pa_cons (pe_root hX hb h.1) (hr hX ms _ h.2) (ok_star (mE_ok h.1) _)) fun σ H Q ⟨R, ρ, S, F, h, I, q⟩ => ?_
        unfold wA at h
        rw [hb] at h
        obtain ⟨h0, h⟩ := h
        obtain ⟨v, hv⟩ := I.root h0
        refine ⟨v, hv, _, ρ, S, F, h, I, fun vs H2 S2 ρ2 F2 ds rs Gs w2 I2 A2 t2 => ?_⟩
        split at w2
        · rename_i m' d hd
          obtain ⟨rfl, hm, hn, w2⟩ := w2
          have hrv := I2.slv hv hd
          have nog : ∀ i a', Gs i a' → ¬ F2 a.root a' := fun i a' z y => by
            have li := A2.few i a' z
            cases e : rs[i]? with
            | none =>
              have := List.getElem?_eq_none_iff.mp e
              rw [A2.l2] at this
              omega
            | some o =>
              cases o with
              | none =>
                have l1 := A2.l1
                have l3 := A2.l3
                exact ((A2.own i _ _ _ (List.getElem?_eq_getElem li) (List.getElem?_eq_getElem (by omega)) (List.getElem?_eq_getElem (by omega)) e).2 a' z).2.2 _ y
              | some r' =>
                obtain ⟨_, _, _, _, _, _, _, _, _, g⟩ := A2.bor i r' e
                have : r' = a.root := Option.some.inj (I2.dj _ _ a' ((g a').mp z) y)
                rw [this] at e
                exact hn (List.mem_of_getElem? e)
          refine q (v :: vs) H2 S2 ρ2 F2 (d :: ds) (some a.root :: rs) (shiftG (F2 a.root) Gs) w2 I2 ⟨?_, ?_, ?_, fun i m d v h1 h2 h3 h4 => ?_, fun i r h => ?_, fun i j a' h1 h2 => ?_, fun i a' h => ?_, fun i j r h1 h2 => ?_⟩ (t2.sub fun a' z => ?_)
          · rw [List.length_cons, List.length_cons, A2.l1]
          · rw [List.length_cons, List.length_cons, A2.l2]
          · rw [List.length_cons, List.length_cons, A2.l3]
          · cases i with
            | zero => simp at h4
            | succ i =>
              simp only [List.getElem?_cons_succ] at h1 h2 h3 h4
              exact A2.own i m d v h1 h2 h3 h4
          · cases i with
            | zero =>
              simp only [List.getElem?_cons_zero, Option.some.injEq] at h
              subst h
              exact ⟨_, d, v, rfl, hm, rfl, rfl, hd, hv, fun a' => Iff.rfl⟩
            | succ i =>
              simp only [List.getElem?_cons_succ] at h
              obtain ⟨m, d, v, g⟩ := A2.bor i r h
              exact ⟨m, d, v, by simp only [List.getElem?_cons_succ]; exact g⟩
          · cases i with
            | zero =>
              cases j with
              | zero => rfl
              | succ j => exact absurd h1 (nog j a' h2)
            | succ i =>
              cases j with
              | zero => exact absurd h2 (nog i a' h1)
              | succ j => rw [A2.dj i j a' h1 h2]
          · cases i with
            | zero => exact Nat.succ_pos _
            | succ i =>
              have := A2.few i a' h
              rw [List.length_cons]
              omega
          · cases i with
            | zero =>
              cases j with
              | zero => rfl
              | succ j =>
                simp only [List.getElem?_cons_zero, Option.some.injEq] at h1
                simp only [List.getElem?_cons_succ] at h2
                subst h1
                exact absurd (List.mem_of_getElem? h2) hn
            | succ i =>
              cases j with
              | zero =>
                simp only [List.getElem?_cons_zero, Option.some.injEq] at h2
                simp only [List.getElem?_cons_succ] at h1
                subst h2
                exact absurd (List.mem_of_getElem? h1) hn
              | succ j =>
                simp only [List.getElem?_cons_succ] at h1 h2
                rw [A2.inj i j r h1 h2]
          · rcases z with ⟨i, z⟩ | z
            · cases i with
              | zero => exact .inr ⟨_, z⟩
              | succ i => exact .inl ⟨i, z⟩
            · exact .inr z
        · exact w2.elim
      · refine PA.imp (pa_cons (ha hX _ h.1) (hr hX ms _ h.2) (ok_star (mE_ok h.1) _)) fun σ H Q ⟨R, ρ, S, F, h, I, q⟩ => ?_
        unfold wA at h
        rw [Bool.not_eq_true] at hb
        rw [hb] at h
        refine ⟨_, ρ, S, F, h, I, fun v1 H1 S1 ρ1 F1 m1 d1 G1 w1 I1 r1 t1 => ?_⟩
        obtain ⟨c1, w1⟩ := w1
        obtain ⟨S1', G1', r1', I1', t1'⟩ := r1.cast I1 t1 c1
        refine ⟨_, ρ1, S1', F1, w1, I1', fun vs H2 S2 ρ2 F2 ds rs Gs w2 I2 A2 t2 => ?_⟩
        have k1 := r1'.keep t2 fun i a z => .inr ⟨i, z⟩
        have dis : ∀ i a, Gs i a → ¬ G1' a := fun i a y z => by
          obtain ⟨q1, q2, q3⟩ := r1'.off a z
          rcases t2.newp a (.inl ⟨i, y⟩) with x | ⟨i, x⟩
          · exact q2 x
          · exact q3 i x
        refine q (v1 :: vs) H2 S2 ρ2 F2 (d1 :: ds) (none :: rs) (shiftG G1' Gs) w2 I2 ⟨?_, ?_, ?_, fun i m d v h1 h2 h3 h4 => ?_, fun i r h => ?_, fun i j a' h1 h2 => ?_, fun i a' h => ?_, fun i j r h1 h2 => ?_⟩ ?_
        · rw [List.length_cons, List.length_cons, A2.l1]
        · rw [List.length_cons, List.length_cons, A2.l2]
        · rw [List.length_cons, List.length_cons, A2.l3]
        · cases i with
          | zero =>
            simp only [List.getElem?_cons_zero, Option.some.injEq] at h1 h2 h3
            subst h1 h2 h3
            exact ⟨k1.rep, k1.off⟩
          | succ i =>
            simp only [List.getElem?_cons_succ] at h1 h2 h3 h4
            exact A2.own i m d v h1 h2 h3 h4
        · cases i with
          | zero => simp at h
          | succ i =>
            simp only [List.getElem?_cons_succ] at h
            obtain ⟨m, d, v, g⟩ := A2.bor i r h
            exact ⟨m, d, v, by simp only [List.getElem?_cons_succ]; exact g⟩
        · cases i with
          | zero =>
            cases j with
            | zero => rfl
            | succ j => exact absurd h1 (dis j a' h2)
          | succ i =>
            cases j with
            | zero => exact absurd h2 (dis i a' h1)
            | succ j => rw [A2.dj i j a' h1 h2]
        · cases i with
          | zero => exact Nat.succ_pos _
          | succ i =>
            have := A2.few i a' h
            rw [List.length_cons]
            omega
        · cases i with
          | zero => simp at h1
          | succ i =>
            cases j with
            | zero => simp at h2
            | succ j =>
              simp only [List.getElem?_cons_succ] at h1 h2
              rw [A2.inj i j r h1 h2]
        · refine (Tr.trans t1' t2).sub fun a' z => ?_
          rcases z with ⟨i, z⟩ | z
          · cases i with
            | zero => exact .inl z
            | succ i => exact .inr (.inl ⟨i, z⟩)
          · exact .inr (.inr z)
  · cases h

theorem upd1_len : ∀ (rs : List (Option Nat)) (ms : List M) (ds : List D) (ρ : Env), (upd1 ρ rs ms ds).length = ρ.length
  | [], ms, ds, ρ => by cases ms <;> cases ds <;> rfl
  | some i :: rs, [], ds, ρ => rfl
  | none :: rs, [], ds, ρ => rfl
  | some i :: rs, m :: ms, [], ρ => rfl
  | none :: rs, m :: ms, [], ρ => rfl
  | some i :: rs, m :: ms, d :: ds, ρ => by
    show ((upd1 ρ rs ms ds).set i _).length = _
    rw [List.length_set, upd1_len rs ms ds ρ]
  | none :: rs, m :: ms, d :: ds, ρ => upd1_len rs ms ds ρ
theorem upd1_at : ∀ {rs : List (Option Nat)} {ms : List M} {ds : List D} {ρ : Env} {j : Nat} {q : M × D}, Env.at (upd1 ρ rs ms ds) j = some q →
    (∃ i : Nat, rs[i]? = some (some j) ∧ ms[i]? = some q.1 ∧ ds[i]? = some q.2) ∨ ρ.at j = some q
  | [], ms, ds, ρ, j, q, h => by
    cases ms <;> cases ds <;> exact .inr h
  | some i :: rs, [], ds, ρ, j, q, h => .inr h
  | none :: rs, [], ds, ρ, j, q, h => .inr h
  | some i :: rs, m :: ms, [], ρ, j, q, h => .inr h
  | none :: rs, m :: ms, [], ρ, j, q, h => .inr h
  | some i :: rs, m :: ms, d :: ds, ρ, j, q, h => by
    have h : Env.at ((upd1 ρ rs ms ds).set i (some (m, d))) j = some q := h
    rcases at_set_some h with ⟨rfl, e⟩ | ⟨_, e⟩
    · cases e
      exact .inl ⟨0, rfl, rfl, rfl⟩
    · rcases upd1_at e with ⟨n, e1, e2, e3⟩ | e
      · exact .inl ⟨n + 1, by simpa using e1, by simpa using e2, by simpa using e3⟩
      · exact .inr e
  | none :: rs, m :: ms, d :: ds, ρ, j, q, h => by
    have h : Env.at (upd1 ρ rs ms ds) j = some q := h
    rcases upd1_at h with ⟨n, e1, e2, e3⟩ | e
    · exact .inl ⟨n + 1, by simpa using e1, by simpa using e2, by simpa using e3⟩
    · exact .inr e
theorem upd1_some : ∀ {rs : List (Option Nat)} {ms : List M} {ds : List D} {ρ : Env} {j i : Nat} {q : M × D}, Env.at (upd1 ρ rs ms ds) j = some q → rs[i]? = some (some j) → (∀ i' : Nat, rs[i']? = some (some j) → i' = i) → rs.length = ms.length → ds.length = ms.length →
    j < ρ.length → ms[i]? = some q.1 ∧ ds[i]? = some q.2
  | [], ms, ds, ρ, j, i, q, h, e, u, l1, l2, l3 => by simp at e
  | o :: rs, [], ds, ρ, j, i, q, h, e, u, l1, l2, l3 => by simp at l1
  | o :: rs, m :: ms, [], ρ, j, i, q, h, e, u, l1, l2, l3 => by simp at l2
  | some x :: rs, m :: ms, d :: ds, ρ, j, 0, q, h, e, u, l1, l2, l3 => by
    simp only [List.getElem?_cons_zero, Option.some.injEq] at e
    subst e
    have h : Env.at ((upd1 ρ rs ms ds).set x (some (m, d))) x = some q := h
    rw [at_set_self (by rw [upd1_len]; exact l3)] at h
    cases h
    exact ⟨rfl, rfl⟩
  | none :: rs, m :: ms, d :: ds, ρ, j, 0, q, h, e, u, l1, l2, l3 => by simp at e
  | some x :: rs, m :: ms, d :: ds, ρ, j, i + 1, q, h, e, u, l1, l2, l3 => by
    have h : Env.at ((upd1 ρ rs ms ds).set x (some (m, d))) j = some q := h
    have ne : j ≠ x := fun z => by
      subst z
      have := u 0 rfl
      omega
    rw [at_set_ne ne] at h
    simpa using upd1_some (i := i) h (by simpa using e) (fun i' z => by have := u (i' + 1) (by simpa using z); omega) (by simpa using l1) (by simpa using l2) l3
  | none :: rs, m :: ms, d :: ds, ρ, j, i + 1, q, h, e, u, l1, l2, l3 => by
    have h : Env.at (upd1 ρ rs ms ds) j = some q := h
    simpa using upd1_some (i := i) h (by simpa using e) (fun i' z => by have := u (i' + 1) (by simpa using z); omega) (by simpa using l1) (by simpa using l2) l3

/-- behind a call: the caller's rights -/
def backF (F F'' : Sl → Pm) (rs : List (Option Nat)) : Sl → Pm
  | some j => fun a => (∃ i : Nat, rs[i]? = some (some j) ∧ F'' i a) ∨ ((∀ i : Nat, rs[i]? ≠ some (some j)) ∧ F j a)
  | none => F'' none
/-- what the callee may change: its arguments, the tables -/
def giveF (Gs : Nat → Pm) (F : Sl → Pm) : Sl → Pm
  | some i => Gs i
  | none => F none
theorem Pt_give {Gs : Nat → Pm} {F : Sl → Pm} {a : Addr} : Pt (giveF Gs F) a ↔ PtN Gs a ∨ F none a := by
  constructor
  · rintro ⟨i, h⟩
    cases i with
    | none => exact .inr h
    | some i => exact .inl ⟨i, h⟩
  · rintro (⟨i, h⟩ | h)
    · exact ⟨some i, h⟩
    · exact ⟨none, h⟩
theorem call_fin {K : PySem.W.Frag} {S H : Hp} {σ : L2.St} {ρ : Env} {F : Sl → Pm} {sp : FSpec} {ds : List D} {rs : List (Option Nat)} {vs : List V} {Gs : Nat → Pm} {Q : VK} {R : M → D → Env → Prop} {P : Pm} {S0 H0 : Hp}
    (I : Sta K ct pins S H σ ρ F) (A : ArgsOk K ct S H σ ρ F sp.pm ds rs vs Gs) (t : Tr P S0 H0 S H (fun a => PtN Gs a ∨ Pt F a)) (h : sp.run ds fun d ds' => R sp.rm d (upd1 ρ rs sp.pm ds')) (q : Wt K ct pins σ P S0 H0 R Q) : SpOf K ct sp vs H Q E0 := by
  have gs : ∀ i, i < sp.pm.length → ∃ m d v o, sp.pm[i]? = some m ∧ ds[i]? = some d ∧ vs[i]? = some v ∧ rs[i]? = some o := fun i hi => by
    have l1 := A.l1
    have l2 := A.l2
    have l3 := A.l3
    exact ⟨_, _, _, _, List.getElem?_eq_getElem hi, List.getElem?_eq_getElem (by omega), List.getElem?_eq_getElem (by omega), List.getElem?_eq_getElem (by omega)⟩
  have off : ∀ i a, Gs i a → S a = none ∧ H a ≠ none := fun i a z => by
    obtain ⟨m, d, v, o, e1, e2, e3, e4⟩ := gs i (A.few i a z)
    cases o with
    | none => exact ⟨((A.own i m d v e1 e2 e3 e4).2 a z).1, ((A.own i m d v e1 e2 e3 e4).2 a z).2.1⟩
    | some r =>
      obtain ⟨_, _, _, _, _, _, _, _, _, g⟩ := A.bor i r e4
      exact I.off r a ((g a).mp z)
  -- the caller's other slots are not handed on
  have other : ∀ (i : Nat) (j : Sl) a, Gs i a → F j a → rs[i]? = some j ∧ j ≠ none := fun i j a z y => by
    obtain ⟨m, d, v, o, e1, e2, e3, e4⟩ := gs i (A.few i a z)
    cases o with
    | none => exact absurd y (((A.own i m d v e1 e2 e3 e4).2 a z).2.2 j)
    | some r =>
      obtain ⟨_, _, _, _, _, _, _, _, _, g⟩ := A.bor i r e4
      have := I.dj r j a ((g a).mp z) y
      rw [← this]
      exact ⟨e4, nofun⟩
  have gdj : ∀ i j a, giveF Gs F i a → giveF Gs F j a → i = j := fun i j a h1 h2 => by
    cases i with
    | none =>
      cases j with
      | none => rfl
      | some j => exact absurd rfl (other j none a h2 h1).2
    | some i =>
      cases j with
      | none => exact absurd rfl (other i none a h1 h2).2
      | some j => rw [A.dj i j a h1 h2]
  have goff : ∀ i a, giveF Gs F i a → S a = none ∧ H a ≠ none := fun i a h => by
    cases i with
    | none => exact I.off none a h
    | some i => exact off i a h
  refine ⟨S, ds, giveF Gs F, _, I.sub, A.l1, A.l3, fun i m d v e1 e2 e3 => ?_, gdj, goff, I.tb, h, fun v H' S' d ds' F'' G hR hsub tr hrep hoff hl hrs hdj hoff' htb => ?_⟩
  · obtain ⟨_, _, _, o, f1, f2, f3, f4⟩ := gs i (List.getElem?_eq_some_iff.mp e1).1
    rw [e1] at f1
    rw [e2] at f2
    rw [e3] at f3
    cases f1; cases f2; cases f3
    cases o with
    | none => exact (A.own i m d v e1 e2 e3 f4).1
    | some r =>
      obtain ⟨m', d', v', g1, g2, g3, g4, g5, g6, g7⟩ := A.bor i r f4
      rw [e1] at g1
      rw [e2] at g3
      rw [e3] at g4
      cases g1; cases g3; cases g4
      exact (I.slv g6 g5).weak fun a z => (g7 a).mpr z
  · -- what is not handed on stays
    have stay : ∀ (j : Nat) a, (∀ i : Nat, rs[i]? ≠ some (some j)) → F j a → H' a = H a ∧ S' a = none ∧ ¬ Pt F'' a ∧ ¬ G a := fun j a hn z => by
      have ng : ¬ Pt (giveF Gs F) a := fun y => by
        rcases Pt_give.mp y with ⟨i, y⟩ | y
        · exact hn i (other i j a y z).1
        · cases I.dj _ _ a y z
      obtain ⟨o1, o2⟩ := I.off j a z
      obtain ⟨o, e⟩ := ne_some o2
      have np : ∀ P' : Prop, (P' → H a = none ∨ Pt (giveF Gs F) a) → ¬ P' := fun P' f y => (f y).elim o2 ng
      exact ⟨by rw [e]; exact tr.keep a o e ng, Classical.byContradiction fun n => (tr.news a n).elim (fun q => q o1) fun q => q.elim o2 ng, np _ fun y => tr.newp a (.inr y), np _ fun y => tr.newp a (.inl y)⟩
    have J : Sta K ct pins S' H' σ (upd1 ρ rs sp.pm ds') (backF F F'' rs) := by
      refine ⟨hsub, by rw [upd1_len]; exact I.len, fun j m1 d1 e => ?_, fun i j a h1 h2 => ?_, fun j a h => ?_, I.pin, htb⟩
      · by_cases hj : ∃ i : Nat, rs[i]? = some (some j)
        · obtain ⟨i, hi⟩ := hj
          obtain ⟨m', d', v', g1, g2, g3, g4, g5, g6, g7⟩ := A.bor i j hi
          obtain ⟨u1, u2⟩ := upd1_some e hi (fun i' z => A.inj i' i j z hi) A.l2 (by rw [hl]) (at_lt g5)
          simp only at u1 u2
          rw [u1] at g1
          cases g1
          exact ⟨v', g6, (hrs i m1 d1 v' u1 g2 u2 g4).weak fun a z => .inl ⟨i, hi, z⟩⟩
        · have hn : ∀ i : Nat, rs[i]? ≠ some (some j) := fun i z => hj ⟨i, z⟩
          rcases upd1_at e with ⟨i, e1, _⟩ | e
          · exact absurd e1 (hn i)
          · obtain ⟨w, e1, e2⟩ := I.sl j m1 d1 e
            exact ⟨w, e1, (e2.mono tr.ss fun a z => (stay j a hn z).1).weak fun a z => .inr ⟨hn, z⟩⟩
      · cases i with
        | none =>
          cases j with
          | none => rfl
          | some j =>
            rcases h2 with ⟨n2, x2, y2⟩ | ⟨x2, y2⟩
            · cases hdj _ _ a h1 y2
            · exact absurd ⟨none, h1⟩ (stay j a x2 y2).2.2.1
        | some i =>
        cases j with
        | none =>
          rcases h1 with ⟨n1, x1, y1⟩ | ⟨x1, y1⟩
          · cases hdj _ _ a h2 y1
          · exact absurd ⟨none, h2⟩ (stay i a x1 y1).2.2.1
        | some j =>
        rcases h1 with ⟨n1, x1, y1⟩ | ⟨x1, y1⟩
        · rcases h2 with ⟨n2, x2, y2⟩ | ⟨x2, y2⟩
          · have := hdj n1 n2 a y1 y2
            cases this
            rw [x1] at x2
            cases x2
            rfl
          · exact absurd ⟨n1, y1⟩ (stay j a x2 y2).2.2.1
        · rcases h2 with ⟨n2, x2, y2⟩ | ⟨x2, y2⟩
          · exact absurd ⟨n2, y2⟩ (stay i a x1 y1).2.2.1
          · exact I.dj i j a y1 y2
      · cases j with
        | none => exact hoff' none a h
        | some j =>
        rcases h with ⟨n1, x1, y1⟩ | ⟨x1, y1⟩
        · exact hoff' n1 a y1
        · obtain ⟨q1, q2, _⟩ := stay j a x1 y1
          exact ⟨q2, by rw [q1]; exact (I.off j a y1).2⟩
    refine q v H' S' _ _ sp.rm d G hR J ⟨hrep, fun a z => ⟨(hoff a z).1, (hoff a z).2.1, fun j y => ?_⟩⟩ ?_
    · cases j with
      | none => exact (hoff a z).2.2 none y
      | some j =>
      rcases y with ⟨n1, x1, y1⟩ | ⟨x1, y1⟩
      · exact (hoff a z).2.2 n1 y1
      · exact (stay j a x1 y1).2.2.2 z
    · have tt : Tr P S0 H0 S' H' (fun a => (Pt F a ∧ ¬ Pt (giveF Gs F) a) ∨ (G a ∨ Pt F'' a)) := Tr.trans (G := fun a => Pt F a ∧ ¬ Pt (giveF Gs F) a) (t.sub fun a z => z.elim (fun z => .inr z.1) fun z => (Pt_give.mp z).elim .inl fun z => .inr ⟨none, z⟩) tr
      refine tt.sub fun a z => ?_
      rcases z with z | ⟨j, z⟩
      · exact .inr (.inl z)
      · cases j with
        | none => exact .inr (.inr ⟨none, z⟩)
        | some j =>
          rcases z with ⟨n1, x1, y1⟩ | ⟨x1, y1⟩
          · exact .inr (.inr ⟨n1, y1⟩)
          · refine .inl ⟨⟨j, y1⟩, fun y => ?_⟩
            rcases Pt_give.mp y with ⟨i, y⟩ | y
            · exact x1 i (other i j a y y1).1
            · cases I.dj _ _ a y y1
theorem ok_plain {Z : SC} {env : PySem.Env} {pos : Pos} : ∀ {c : C} {es : List Expr}, mL Z c es = true → (backTo pos (starEach es env)).any (·.1) = false := by
  intro c
  induction c with
  | nil =>
    intro es h
    unfold mL at h
    split at h
    · rfl
    · cases h
  | cons a r _ ih =>
    intro es h
    unfold mL at h
    split at h
    · simp only [Bool.and_eq_true] at h
      rw [ok_star (mE_ok h.1)]
      show (false || (backTo pos (starEach _ env)).any (·.1)) = false
      rw [ih h.2]
      rfl
    · cases h
  | _ =>
    intro es h
    cases h
theorem E_call (j : Nat) (ha : AOk T ct pins a) : EOk T ct pins (.call j a) := by
  intro X Z k hX ex h
  unfold mE at h
  split at h
  · rename_i x pn xs pos
    simp only [Bool.and_eq_true, decide_eq_true_eq] at h
    obtain ⟨⟨⟨⟨h0, h1⟩, h2⟩, h3⟩, h4⟩ := h
    cases hT : T[j]? with
    | none =>
      refine PE.no fun σ H Q ⟨R, ρ, S, F, h, I, q⟩ => ?_
      unfold wE at h
      rw [hT] at h
      exact h
    | some sp =>
      obtain ⟨x', kd, e1, ek, ent⟩ := hX.fns j sp hT
      rw [h1] at e1
      rw [h0] at ek
      cases e1
      cases ek
      obtain ⟨f, fd, ps, e2, e3, e4, e5, _⟩ := ent
      have hd : (x == ("__debug__" : Str)) = false := by
        unfold SC.plain at h3
        simp only [Bool.and_eq_true, Bool.not_eq_true'] at h3
        exact h3.1.1.1
      have run : ∀ {t : TA} {σ H Q}, (∀ σ H (Q : List V → Hp → Prop), tA X.K ct T pins sp.pm a σ H Q → t σ H Q) → tE X.K ct T pins (.call j a) σ H Q → tCall (SpOf X.K ct sp) [] E0 t σ H Q := by
        intro t σ H Q ht ⟨R, ρ, S, F, h, I, q⟩
        unfold wE at h
        rw [hT] at h
        refine ht _ _ _ ⟨_, ρ, S, F, h, I, fun vs H2 S2 ρ2 F2 ds rs Gs w2 I2 A2 t2 => ?_⟩
        show SpOf X.K ct sp (vs ++ []) H2 Q E0
        rw [List.append_nil]
        exact call_fin I2 A2 t2 w2 q
      have pa := ha hX sp.pm _ h4
      cases xs with
      | nil =>
        refine PE.imp (pe_callG0 (x := x) (pos := pos) (p := pn) (E := E0) e5 hX.gd hX.room (glo_of hX h2) e2 e3 e4 hd) fun σ H Q hq => run (fun σ H Q hq => ?_) hq
        cases a with
        | nil =>
          obtain ⟨R, ρ, S, F, h, I, q⟩ := hq
          cases hs : sp.pm with
          | nil =>
            rw [hs] at h q
            refine q [] H S ρ F [] [] (fun _ _ => False) h I ⟨rfl, rfl, rfl, fun i m d v h => by simp at h, fun i r h => by simp at h, fun i j a h => h.elim, fun i a h => h.elim, fun i j r h => by simp at h⟩ (Tr.refl fun a z => ?_)
            rcases z with ⟨i, z⟩ | z
            · exact z.elim
            · exact z
          | cons _ _ =>
            rw [hs] at h
            exact False.elim h
        | cons _ _ => cases h4
        | _ => cases h4
      | cons y ys =>
        refine PE.imp (pe_callG (E := E0) e5 hX.gd hX.room (glo_of hX h2) e2 e3 e4 pa hd ?_ ?_) fun σ H Q hq => run (fun σ H Q hq => hq) hq
        · cases a with
          | cons a1 a2 =>
            unfold mL at h4
            simp only [Bool.and_eq_true] at h4
            exact ok_star (mE_ok h4.1) _
          | _ => cases h4
        · cases a with
          | cons a1 a2 =>
            unfold mL at h4
            simp only [Bool.and_eq_true] at h4
            exact ok_plain h4.2
          | _ => cases h4
  · cases h
end
end Y
namespace Y
open PySem PySem.Spec PyProof.Rows L2

/-! ### enumerate(tuple) -/
abbrev itO (l : Addr) : Obj := { cls := .type "tuple_iterator", data := .fields #[.ref l, .int 0 0] }
abbrev enO (z : Addr) : Obj := { cls := .type "enumerate", data := .fields #[.none, .bool false, .ref z, rawInt 0, .none, .none] }
theorem enumT_new (l : Addr) (ys : Array Value) (n : Nat) (dct : Option Addr) (sl : Array (Option Value)) : Meets (Builtin.«enumerate.__new__» ⟨[.type "enumerate", .ref l], []⟩) (fun _ R s => s.heap.get? l = some { cls := .type "tuple", dict := dct, data := .seq ys n, slots := sl } ∧ R (.ok (.ret (.ref (s.heap.push (itO l)).objs.size))) { s with heap := (s.heap.push (itO l)).push (enO s.heap.objs.size) }) := by
  refine .of_wp fun prog w A R s hh => ?_
  obtain ⟨hp, g, d, tk, os⟩ := s
  obtain ⟨g1, g2⟩ := hh
  have sub := sub_enumerate
  have tup : Heap.IsTuple (Shared.heap ⟨hp, g, d, tk, os⟩) l ys := ⟨_, g1, rfl, n, rfl⟩
  wp_walk using AutoSeq1.wpAny_loadPart' g1
  refine wpAny_stack_any fun st0 => wpAny_pure ?_
  split
  · rename_i c0 _ _ _ _ _
    cases (c0 == Value.type "enumerate")
    · wp_walk using AutoSeq1.wpAny_loadPart' g1, wpAny_pyIter_tuple tup
      exact ⟨_, rfl, g2⟩
    · wp_walk using AutoSeq1.wpAny_loadPart' g1, wpAny_pyIter_tuple tup
      exact ⟨_, rfl, g2⟩
  · wp_walk using AutoSeq1.wpAny_loadPart' g1, wpAny_pyIter_tuple tup
    exact ⟨_, rfl, g2⟩
section
variable {prog : Program} {w : World} {A : Around} {E : Value → Shared → Prop} {s : Shared}
/-- enumerate(t): its two new cells -/
theorem call_enumT {l : Addr} {ys : Array Value} {Q : Value → Shared → Prop} (hL : s.heap.IsTuple l ys)
    (q : ∀ h', IsEnum h' (s.heap.objs.size + 1) s.heap.objs.size 0 .none → h'.IsTupleIter s.heap.objs.size l 0 → h'.objs.size = s.heap.objs.size + 2 → (∀ b o, s.heap.get? b = some o → h'.get? b = some o) → Q (.ref (s.heap.objs.size + 1)) { s with heap := h' }) :
    wpAny (model prog w) A (call (.type "enumerate") [.ref l]) Q E s := by
  obtain ⟨⟨c, dct, dt, sl⟩, g1, g2, n, g3⟩ := hL
  have g2 : c = .type "tuple" := g2
  have g3 : dt = .seq ys n := g3
  subst g2 g3
  refine callType_new F.called_enumerate (by decide) (F.typeCall_enumerate_1 _) (F.newCall_enumerate_1 _) (fun z => F.args_object_init_2 z _) F.entry_enumerate_new (enumT_new l ys n dct sl) ⟨g1, ?_⟩
  have z1 : (s.heap.push (itO l)).objs.size = s.heap.objs.size + 1 := Heap.size_push ..
  show _ ∧ _
  rw [z1]
  have en : IsEnum ((s.heap.push (itO l)).push (enO s.heap.objs.size)) (s.heap.objs.size + 1) s.heap.objs.size 0 .none := by
    have k := Heap.get?_push_size (s.heap.push (itO l)) (o := enO s.heap.objs.size) rfl
    rw [z1] at k
    exact k
  exact ⟨⟨_, en, rfl⟩, q _ en ⟨_, Heap.get?_push_of_some _ (Heap.get?_push_size _ rfl), rfl, rfl⟩ (by rw [Heap.size_push, z1]) fun b o k => Heap.get?_push_of_some _ (Heap.get?_push_of_some _ k)⟩
end
/-- the tuple at a, each item in a new pair -/
def IteT (K : PySem.W.Frag) (a : Addr) : It :=
  ⟨fun i H => ∃ (xs : List V) (x : V), SqT K H a xs ∧ xs[i]? = some x, fun i H v H1 => ∃ T x, v = .ref T ∧ H T = none ∧ H1 = upd H T (.tup [.int (i : Nat), x]) ∧ ∀ xs, SqT K H a xs → xs[i]? = some x, fun i H => ∃ xs : List V, SqT K H a xs ∧ xs.length = i⟩
theorem apart_cls {h : Heap} {a b : Addr} {o1 o2 : Obj} (e1 : h.get? a = some o1) (e2 : h.get? b = some o2) (n : o1.cls ≠ o2.cls) : a ≠ b := fun z => by
  subst z
  rw [e1] at e2
  cases e2
  exact n rfl
theorem turn_enumT {P : Program} {w : World} {K : PySem.W.Frag} {elts : List Expr} {kk : Nat} {tpos : Pos} (a en ti : Addr) : Turn P w K (.Tuple elts kk tpos) (IteT K a) [en, ti] en (fun i h => (∃ old, IsEnum h en ti ((i : Nat) : Int) old) ∧ h.IsTupleIter ti a i ∧ en ≠ ti) where
  mem := List.mem_cons_self ..
  obj := fun i h st b hb => by
    obtain ⟨⟨old, h1⟩, ⟨o, h2, h3, h4⟩, _⟩ := st
    rcases List.mem_cons.mp hb with z | z
    · rw [z]
      exact ⟨_, h1, fun v q => nomatch q⟩
    · rw [List.mem_singleton.mp z]
      exact ⟨o, h2, fun v q => by rw [h4] at q; cases q⟩
  keep := fun i h h' st k => by
    obtain ⟨⟨old, h1⟩, h2, h3⟩ := st
    exact ⟨⟨old, k en (List.mem_cons_self ..) _ h1⟩, h2.at fun o q => k ti (List.mem_cons_of_mem _ (List.mem_cons_self ..)) o q, h3⟩
  item := by
    intro X eP ew eK calm i pins s σ H E I fp st go
    subst eP ew eK
    obtain ⟨⟨old, h1⟩, h2, h3⟩ := st
    obtain ⟨xs, x, g1, g2⟩ := go
    obtain ⟨its, rv, p, sz⟩ := I.tuple g1
    obtain ⟨u, k1, k2⟩ := rv.get g2
    have l1 : en < s.heap.objs.size := Heap.lt_size h1
    have l2 : ti < s.heap.objs.size := by
      obtain ⟨_, q, _⟩ := h2
      exact Heap.lt_size q
    have p2 : s.heap.IsTuple a its.toArray := p
    have na : a ≠ ti := by
      obtain ⟨o1, q1, q2, _⟩ := p2
      obtain ⟨o2, r1, r2, _⟩ := h2
      exact apart_cls q1 r1 (by rw [q2, r2]; exact fun z => absurd (Value.type.inj z) (by decide))
    have nb : en ≠ a := by
      obtain ⟨o1, q1, q2, _⟩ := p2
      exact apart_cls h1 q1 (by rw [q2]; exact fun z => absurd (Value.type.inj z) (by decide))
    have hd := I.ok.hd calm
    have Dr := Draws.tuple (prog := X.prog) (w := X.w) (A := X.A.in1) hd ti a na its.toArray
    have lt : i < its.toArray.size := by
      have := (List.getElem?_eq_some_iff.mp k1).1
      simpa using this
    refine wpAny_pyNext_enum_itemD Dr h1 ⟨h2, p2⟩ lt h3 (by simp [h3, nb]) fun y h' tk y1 y2 y3 y4 y5 y6 => ?_
    have ey : y = u := by
      have : its.toArray[i]? = some y := y1
      rw [List.getElem?_toArray, k1] at this
      exact (Option.some.inj this).symm
    subst ey
    refine ⟨_, rfl, wpAny_letOwnedTupleGo_enum (s := { s with heap := h', toks := tk + 1 }) y2 fun h2' z1 z2 => ?_⟩
    have t1 : h2'.get? s.heap.objs.size = some { cls := .type "tuple", data := .seq #[.int i tk, y] } := (z2.2 _ (Nat.ne_of_gt l1)).trans y4
    have nw : ObjOk X.prog X.w (upd H s.heap.objs.size (.tup [.int (i : Nat), x])) h2' s.heap.objs.size (.tup [.int (i : Nat), x]) := ⟨(by decide : 2 ≤ sizeLine), [.int i tk, y], .cons ⟨_, rfl⟩ (.cons k2 .nil), ⟨_, t1, rfl, _, rfl⟩⟩
    have J : Inv X pins σ (upd H s.heap.objs.size (.tup [.int (i : Nat), x])) { s with heap := h2', toks := tk + 1 } :=
      I.turnedNew (ch := [en, ti]) (fun b ob hb q => (z2.2 b (fun z => hb (by simp [z]))).trans (y6 b ob (fun z => hb (by simp [z])) (fun z => hb (by simp [z])) q)) fp (Nat.le_refl _) nw
    refine ⟨.ref s.heap.objs.size, _, J, rfl, ⟨_, x, rfl, I.hok.fresh (Nat.le_refl _), rfl, fun ys hy => by rw [I.tuple_inj hy g1]; exact g2⟩, ⟨⟨y, ?_⟩, y3.1.at fun o q => (z2.2 ti (Ne.symm h3)).trans q, h3⟩, fun b hb => ?_⟩
    · have c1 : ((i + 1 : Nat) : Int) = (i : Int) + 1 := by omega
      rw [c1]
      exact z1
    · have lb : b < s.heap.objs.size := by
        rcases List.mem_cons.mp hb with z | z
        · rw [z]
          exact l1
        · rw [List.mem_singleton.mp z]
          exact l2
      rw [upd_ne (Nat.ne_of_lt lb)]
      exact (fp b hb).1
  done := by
    intro X eP ew eK calm i pins s σ H E I fp st go
    subst eP ew eK
    obtain ⟨⟨old, h1⟩, h2, h3⟩ := st
    obtain ⟨xs, g1, g2⟩ := go
    obtain ⟨its, rv, p, sz⟩ := I.tuple g1
    have p2 : s.heap.IsTuple a its.toArray := p
    have na : a ≠ ti := by
      obtain ⟨o1, q1, q2, _⟩ := p2
      obtain ⟨o2, r1, r2, _⟩ := h2
      exact apart_cls q1 r1 (by rw [q2, r2]; exact fun z => absurd (Value.type.inj z) (by decide))
    have hd := I.ok.hd calm
    have Dr := Draws.tuple (prog := X.prog) (w := X.w) (A := X.A.in1) hd ti a na its.toArray
    obtain ⟨f0, f1, f2, f3, f4, f5⟩ := fp ti (List.mem_cons_of_mem _ (List.mem_cons_self ..))
    have ei : its.toArray.size = i := by
      have := rv.length
      simp only [List.size_toArray]
      omega
    subst ei
    refine wpAny_pyNext_enum_endD Dr h1 ⟨h2, p2⟩ fun h' eb => ⟨rfl, ?_⟩
    refine I.turned (t' := s.toks) (fun b o nb q => ?_) f0 f1 f3 f4 f5
    exact eb b o nb q
  self := fun A i s Q E st q => by
    obtain ⟨⟨_, h1⟩, _⟩ := st
    exact wpAny_pyIter_enum h1 q
/-- enumerate of a list or of a tuple -/
def iEnumA (K : PySem.W.Frag) (ta : TA) : TI := fun σ H R => ta σ H fun vs H1 => ∃ a, vs = [.ref a] ∧ ((∃ xs, SqL K H1 a xs ∧ R (Ite K a) H1) ∨ (∃ xs, SqT K H1 a xs ∧ R (IteT K a) H1))
section
variable {X : Cx} {e : Expr} {ta : TA} {p pos tpos : Pos} {elts : List Expr} {kk : Nat}
theorem pi_enumA (hg : Gl X "enumerate") (hm : X.mg "enumerate" = none) (ha : PA X [e] ta)
    (hs : starEach [e] X.env = [(false, eval e X.env)] := by rfl) : PI X (.Tuple elts kk tpos) (.Call (.Name "enumerate" p) [e] [] pos) (iEnumA X.K ta) := by
  refine ⟨fun pins s σ H R I h => Call_ (ld_blt I hg hm boot_enumerate (PyProof.Rows.callWith_type1 (thn (ha.run pos pins s σ H _ I h) fun us s1 w1 => ?_) hs rfl))⟩
  obtain ⟨vs, H1, I1, r1, a, ex, q1⟩ := w1
  subst ex
  cases r1 with
  | cons r rr =>
    cases rr
    cases r
    have fps : ∀ b ∈ [s1.heap.objs.size + 1, s1.heap.objs.size], FpOk X pins H1 b := fun b hb => by
      have le : s1.heap.objs.size ≤ b := by
        rcases List.mem_cons.mp hb with z | z
        · omega
        · have := List.mem_singleton.mp z
          omega
      exact I1.fpOk le (I1.hok.fresh le)
    rcases q1 with ⟨xs, hq, q⟩ | ⟨xs, hq, q⟩
    · obtain ⟨its, rv, p', sz⟩ := I1.list hq
      refine call_enumerate_list p'.isList fun h2 e1 e2 e3 e4 => wpAny_pyIter_enum e1 ?_
      exact ⟨s1.heap.objs.size + 1, [s1.heap.objs.size + 1, s1.heap.objs.size], _, _, H1, rfl, I1.kept (t' := s1.toks) e4, turn_enum a _ _, ⟨⟨.none, e1⟩, e2, Nat.succ_ne_self _⟩, fps, q⟩
    · obtain ⟨its, rv, p', sz⟩ := I1.tuple hq
      have p2 : s1.heap.IsTuple a its.toArray := p'
      refine call_enumT p2 fun h2 e1 e2 e3 e4 => wpAny_pyIter_enum e1 ?_
      exact ⟨s1.heap.objs.size + 1, [s1.heap.objs.size + 1, s1.heap.objs.size], _, _, H1, rfl, I1.kept (t' := s1.toks) e4, turn_enumT a _ _, ⟨⟨.none, e1⟩, e2, Nat.succ_ne_self _⟩, fps, q⟩
end
end Y
namespace Y
open PySem PySem.Spec PyProof.Rows L2

/-! ### what is walked -/
def ItOk (K : PySem.W.Frag) (ct : Ct) (J : It) (S : Hp) (items : List D) : Prop := ∀ S2 H2, Same S S2 → Same S2 H2 →
  (∀ i, i < items.length → J.go i H2) ∧ (∀ i, i = items.length → J.stop i H2) ∧ ∀ i x H3, i < items.length → J.yld i H2 x H3 →
    ∃ S3 d, items[i]? = some d ∧ Rep K ct S3 d x ∧ Same S2 S3 ∧ Same H2 H3 ∧ Same S3 H3 ∧ (∀ a, S3 a ≠ none → S2 a ≠ none ∨ H2 a = none)
section
variable {K : PySem.W.Frag} {ct : Ct} {S H : Hp}
theorem it_list {a : Addr} {ds : List D} {vs : List V} (h : S a = some (.lst vs)) (r : Reps K ct S ds vs) : ItOk K ct (Itl K a) S ds := by
  intro S2 H2 s1 s2
  have ha : SqL K H2 a vs := SqL.of (s2 _ _ (s1 _ _ h))
  refine ⟨fun i hi => ⟨vs, vs[i]'(by rw [← r.length]; exact hi), ha, List.getElem?_eq_getElem _⟩, fun i hi => ⟨vs, ha, by rw [← r.length]; exact Nat.le_of_eq hi.symm⟩, fun i x H3 hi hy => ?_⟩
  obtain ⟨rfl, hx⟩ := hy
  obtain ⟨d, e1, e2⟩ := r.get' (hx vs ha)
  exact ⟨S2, d, e1, e2.mono s1, Same.refl _, Same.refl _, s2, fun a z => .inl z⟩
theorem it_tup {a : Addr} {ds : List D} {vs : List V} (h : SqT K S a vs) (r : Reps K ct S ds vs) : ItOk K ct (Itt K a) S ds := by
  intro S2 H2 s1 s2
  have ha : SqT K H2 a vs := Same.seqT s2 (Same.seqT s1 h)
  refine ⟨fun i hi => ⟨vs, vs[i]'(by rw [← r.length]; exact hi), ha, List.getElem?_eq_getElem _⟩, fun i hi => ⟨vs, ha, by rw [← r.length]; exact Nat.le_of_eq hi.symm⟩, fun i x H3 hi hy => ?_⟩
  obtain ⟨rfl, hx⟩ := hy
  obtain ⟨d, e1, e2⟩ := r.get' (hx vs ha)
  exact ⟨S2, d, e1, e2.mono s1, Same.refl _, Same.refl _, s2, fun a z => .inl z⟩
theorem rangeD_len (lo c : Int) (n : Nat) : (rangeD lo c n).length = n := by unfold rangeD; rw [List.length_map, List.length_range]
theorem rangeD_get {lo c : Int} {n i : Nat} (h : i < n) : (rangeD lo c n)[i]? = some (.int (lo + (i : Nat) * c)) := by
  unfold rangeD
  rw [List.getElem?_map, List.getElem?_range h]
  rfl
theorem it_rng {lo : Int} {n : Nat} : ItOk K ct (Itr lo n) S (rangeD lo 1 n) := by
  intro S2 H2 s1 s2
  rw [rangeD_len]
  refine ⟨fun i hi => hi, fun i hi => Nat.le_of_eq hi.symm, fun i x H3 hi hy => ?_⟩
  obtain ⟨rfl, rfl⟩ := hy
  refine ⟨S2, _, rangeD_get hi, ?_, Same.refl _, Same.refl _, s2, fun a z => .inl z⟩
  rw [Int.mul_one]
  exact rInt _
theorem it_rngC {lo c : Int} {n : Nat} : ItOk K ct (Itc lo c n) S (rangeD lo c n) := by
  intro S2 H2 s1 s2
  rw [rangeD_len]
  refine ⟨fun i hi => hi, fun i hi => Nat.le_of_eq hi.symm, fun i x H3 hi hy => ?_⟩
  obtain ⟨rfl, rfl⟩ := hy
  exact ⟨S2, _, rangeD_get hi, rInt _, Same.refl _, Same.refl _, s2, fun a z => .inl z⟩
theorem enumD_len (xs : List D) : (enumD xs).length = xs.length := by unfold enumD; rw [List.length_map, List.length_range]
theorem enumD_get {xs : List D} {i : Nat} {d : D} (h : xs[i]? = some d) : (enumD xs)[i]? = some (.tup [.int (i : Nat), d]) := by
  unfold enumD
  have hi := (List.getElem?_eq_some_iff.mp h).1
  rw [List.getElem?_map, List.getElem?_range hi]
  show some (D.tup [.int (i : Nat), xs.getD i .non]) = _
  rw [List.getD_eq_getElem?_getD, h]
  rfl
theorem new_pair {S2 H2 : Hp} {T : Addr} {d e : D} {x y : V} (s2 : Same S2 H2) (hT : H2 T = none) (h1 : Rep K ct S2 d x) (h2 : Rep K ct S2 e y) :
    Rep K ct (upd S2 T (.tup [x, y])) (.tup [d, e]) (.ref T) ∧ Same S2 (upd S2 T (.tup [x, y])) ∧ Same H2 (upd H2 T (.tup [x, y])) ∧ Same (upd S2 T (.tup [x, y])) (upd H2 T (.tup [x, y])) ∧ ∀ a, upd S2 T (.tup [x, y]) a ≠ none → S2 a ≠ none ∨ H2 a = none := by
  have sT : S2 T = none := s2.free hT
  refine ⟨?_, same_new sT, same_new hT, fun b o z => ?_, fun a z => ?_⟩
  · unfold Rep
    exact ⟨T, [x, y], rfl, SqT.of upd_same, Reps.cons (h1.mono (same_new sT)) (Reps.cons (h2.mono (same_new sT)) Reps.nil)⟩
  · by_cases hb : b = T
    · subst hb
      rw [upd_same] at z ⊢
      exact z
    · rw [upd_ne hb] at z ⊢
      exact s2 _ _ z
  · by_cases hb : a = T
    · subst hb
      exact .inr hT
    · rw [upd_ne hb] at z
      exact .inl z
theorem it_enum {a : Addr} {ds : List D} {vs : List V} (h : S a = some (.lst vs)) (r : Reps K ct S ds vs) : ItOk K ct (Ite K a) S (enumD ds) := by
  intro S2 H2 s1 s2
  have ha : SqL K H2 a vs := SqL.of (s2 _ _ (s1 _ _ h))
  rw [enumD_len]
  refine ⟨fun i hi => ⟨vs, vs[i]'(by rw [← r.length]; exact hi), ha, List.getElem?_eq_getElem _⟩, fun i hi => ⟨vs, ha, by rw [← r.length]; exact Nat.le_of_eq hi.symm⟩, fun i x H3 hi hy => ?_⟩
  obtain ⟨T, y, rfl, hT, rfl, hx⟩ := hy
  obtain ⟨d, e1, e2⟩ := r.get' (hx vs ha)
  obtain ⟨q1, q2, q3, q4, q5⟩ := new_pair (ct := ct) (K := K) s2 hT (rInt (i : Nat)) (e2.mono s1)
  exact ⟨_, _, enumD_get e1, q1, q2, q3, q4, q5⟩
theorem it_enumT {a : Addr} {ds : List D} {vs : List V} (h : SqT K S a vs) (r : Reps K ct S ds vs) : ItOk K ct (IteT K a) S (enumD ds) := by
  intro S2 H2 s1 s2
  have ha : SqT K H2 a vs := Same.seqT s2 (Same.seqT s1 h)
  rw [enumD_len]
  refine ⟨fun i hi => ⟨vs, vs[i]'(by rw [← r.length]; exact hi), ha, List.getElem?_eq_getElem _⟩, fun i hi => ⟨vs, ha, by rw [← r.length]; exact hi.symm⟩, fun i x H3 hi hy => ?_⟩
  obtain ⟨T, y, rfl, hT, rfl, hx⟩ := hy
  obtain ⟨d, e1, e2⟩ := r.get' (hx vs ha)
  obtain ⟨q1, q2, q3, q4, q5⟩ := new_pair (ct := ct) (K := K) s2 hT (rInt (i : Nat)) (e2.mono s1)
  exact ⟨_, _, enumD_get e1, q1, q2, q3, q4, q5⟩
theorem it_zip {a b : Addr} {ds es : List D} {vs ws : List V} (h : S a = some (.lst vs)) (r : Reps K ct S ds vs) (h' : S b = some (.lst ws)) (r' : Reps K ct S es ws) : ItOk K ct (Itz K a b) S (zipD ds es) := by
  intro S2 H2 s1 s2
  have ha : SqL K H2 a vs := SqL.of (s2 _ _ (s1 _ _ h))
  have hb : SqL K H2 b ws := SqL.of (s2 _ _ (s1 _ _ h'))
  have hl : (zipD ds es).length = min ds.length es.length := by unfold zipD; rw [List.length_map, List.length_zip]
  have l1 := r.length
  have l2 := r'.length
  rw [hl]
  refine ⟨fun i hi => ⟨vs, ws, vs[i]'(by omega), ws[i]'(by omega), ha, hb, List.getElem?_eq_getElem _, List.getElem?_eq_getElem _⟩, fun i hi => ⟨vs, ws, ha, hb, by omega⟩, fun i x H3 hi hy => ?_⟩
  obtain ⟨T, y, z, rfl, hT, rfl, hx, hz⟩ := hy
  obtain ⟨d, e1, e2⟩ := r.get' (hx vs ha)
  obtain ⟨e, f1, f2⟩ := r'.get' (hz ws hb)
  obtain ⟨q1, q2, q3, q4, q5⟩ := new_pair (ct := ct) (K := K) s2 hT (e2.mono s1) (f2.mono s1)
  refine ⟨_, _, ?_, q1, q2, q3, q4, q5⟩
  unfold zipD
  have hz : (ds.zip es)[i]? = some (d, e) := List.getElem?_zip_eq_some.mpr ⟨e1, f1⟩
  rw [List.getElem?_map, hz]
  rfl
end
section
variable (K : PySem.W.Frag) (ct : Ct) (T : List FSpec) (pins : List (Nat × V))
def tI (c : C) : TI := fun σ H R => ∃ (W : List D → Env → Prop) (ρ : Env) (S : Hp) (F : Sl → Pm), wI T (pins.map (·.1)) c W ρ ∧ Sta K ct pins S H σ ρ F ∧
  ∀ J H' S' ρ' F' items, W items ρ' → Sta K ct pins S' H' σ ρ' F' → Tr (Pt F) S H S' H' (Pt F') → ItOk K ct J S' items → R J H'
def tG (ow : List Nat) (c : C) : TG := fun v σ H Q => ∃ (R : Env → Prop) (ρ : Env) (S : Hp) (F : Sl → Pm) (d : D), wG T (pins.map (·.1)) c d R ρ ∧ Sta K ct pins S H σ ρ F ∧ Rep K ct S d v ∧
  ∀ σ' H' S' ρ' F', R ρ' → Sta K ct pins S' H' σ' ρ' F' → Tr (Pt F) S H S' H' (Pt F') → (ow ≠ [] → wipe σ' ow = wipe σ ow) → Q σ' H'
def tGs (ow : List Nat) (c : C) : TGs := fun vs σ H Q => ∃ (R : Env → Prop) (ρ : Env) (S : Hp) (F : Sl → Pm) (ds : List D), wGs T (pins.map (·.1)) c ds R ρ ∧ Sta K ct pins S H σ ρ F ∧ Reps K ct S ds vs ∧
  ∀ σ' H' S' ρ' F', R ρ' → Sta K ct pins S' H' σ' ρ' F' → Tr (Pt F) S H S' H' (Pt F') → (ow ≠ [] → wipe σ' ow = wipe σ ow) → Q σ' H'
end
section
variable (T : List FSpec) (ct : Ct) (pins : List (Nat × V))
def IOk (c : C) : Prop := ∀ {X : Cx} {Z : SC} {k : Nat}, XOk T ct Z k X → ∀ e tg, mI Z c e = true → tgOk c tg = true → PI X tg e (tI X.K ct T pins c)
def GOk (c : C) : Prop := ∀ {X : Cx} {Z : SC} {k : Nat}, XOk T ct Z k X → ∀ ow e, mG Z ow c e = true → PG X e (tG X.K ct T pins ow c)
def GsOk (c : C) : Prop := ∀ {X : Cx} {Z : SC} {k : Nat}, XOk T ct Z k X → ∀ ow es, mGs Z ow c es = true → PGs X es (tGs X.K ct T pins ow c)
end
section
variable {T : List FSpec} {ct : Ct} {pins : List (Nat × V)} {a b c r p e : C}
section
variable {X : Cx} {pins' : List (Addr × Obj)} {σ : L2.St} {H : Hp} {s : Shared} {tg : Expr} {R : It → Hp → Prop} {ad : Addr} {xs : List V}
theorem iter_lst (J : L2.Inv X pins' σ H s) (hq : SqL X.K H ad xs) (q : R (Itl X.K ad) H) : wpAny (model X.prog X.w) X.A (pyIter (.ref ad)) (PIE X pins' σ tg R) X.xe s := by
  obtain ⟨us, ru, pl, _⟩ := J.list hq
  refine wpAny_pyIter_list pl.isList ⟨_, [s.heap.objs.size], _, _, H, rfl, ?g1, turn_list ad _, ⟨_, Heap.get?_push_size _ rfl, rfl, rfl⟩, ?g2, q⟩
  case g1 => exact J.kept (t' := s.toks) fun _ _ z => Heap.get?_push_of_some _ z
  case g2 =>
    intro b hb
    rw [List.mem_singleton] at hb
    rw [hb]
    exact J.fpOk (Nat.le_refl _) (J.hok.fresh (Nat.le_refl _))
theorem iter_tup (J : L2.Inv X pins' σ H s) (hq : SqT X.K H ad xs) (q : R (Itt X.K ad) H) : wpAny (model X.prog X.w) X.A (pyIter (.ref ad)) (PIE X pins' σ tg R) X.xe s := by
  obtain ⟨us, ru, pl, _⟩ := J.tuple hq
  have pl : s.heap.IsTuple ad us.toArray := pl
  refine wpAny_pyIter_tuple pl ⟨_, [s.heap.objs.size], _, _, H, rfl, ?g1, turn_tuple ad _, ⟨_, Heap.get?_push_size _ rfl, rfl, rfl⟩, ?g2, q⟩
  case g1 => exact J.kept (t' := s.toks) fun _ _ z => Heap.get?_push_of_some _ z
  case g2 =>
    intro b hb
    rw [List.mem_singleton] at hb
    rw [hb]
    exact J.fpOk (Nat.le_refl _) (J.hok.fresh (Nat.le_refl _))
end
theorem I_itr (ha : EOk T ct pins a) : IOk T ct pins (.itr a) := by
  intro X Z k hX ex tg h _
  unfold mI at h
  have he := ha hX _ h
  refine ⟨fun pins' s σ H R J hw => ?_⟩
  obtain ⟨W, ρ, S, F, h, Ist, q⟩ := hw
  unfold wI at h
  let Q : VK := fun v H' => (∃ (b : Addr) (vs : List V), v = .ref b ∧ SqL X.K H' b vs ∧ R (Itl X.K b) H') ∨ (∃ (b : Addr) (vs : List V), v = .ref b ∧ SqT X.K H' b vs ∧ R (Itt X.K b) H')
  have go : tE X.K ct T pins a σ H Q := by
    refine tE.sh h Ist (Tr.refl fun _ z => z) fun v1 H1 S1 ρ1 F1 m1 d1 w1 I1 r1 t1 s1 => ?_
    split at w1
    · unfold Rep at r1
      obtain ⟨b, vs, rfl, e2, e3⟩ := r1
      exact .inl ⟨b, vs, rfl, SqL.of (I1.sub _ _ e2), q _ H1 S1 ρ1 F1 _ w1 I1 t1 (it_list e2 e3)⟩
    · unfold Rep at r1
      obtain ⟨b, vs, rfl, e2, e3⟩ := r1
      exact .inr ⟨b, vs, rfl, Same.seqT I1.sub e2, q _ H1 S1 ρ1 F1 _ w1 I1 t1 (it_tup e2 e3)⟩
    · exact w1.elim
  refine thn (he.run pins' s σ H Q J go) fun u s1 hu => ?_
  obtain ⟨x, H1, J1, rx, qx⟩ := hu
  rcases qx with ⟨b, vs, rfl, e2, e3⟩ | ⟨b, vs, rfl, e2, e3⟩
  · cases rx
    exact iter_lst J1 e2 e3
  · cases rx
    exact iter_tup J1 e2 e3
theorem I_rng1 (ha : EOk T ct pins a) : IOk T ct pins (.rng1 a) := by
  intro X Z k hX ex tg h _
  unfold mI at h
  split at h
  · simp only [Bool.and_eq_true, decide_eq_true_eq] at h
    obtain ⟨⟨rfl, h1⟩, h2⟩ := h
    have st := ok_star (env := X.env) (mE_ok h2) []
    refine PI.imp (pi_range1 (glo_of hX h1) (hX.free _ (by decide +kernel)) (pa_cons (ha hX _ h2) pa_nil st) st) fun σ H Q ⟨W, ρ, S, F, h, I, q⟩ => ?_
    refine tE.sh (by unfold wI at h; exact h) I (Tr.refl fun _ z => z) fun v1 H1 S1 ρ1 F1 m1 d1 w1 I1 r1 t1 s1 => ?_
    split at w1
    · unfold Rep at r1
      subst r1
      exact ⟨_, rfl, w1.1, w1.2.1, q _ H1 S1 ρ1 F1 _ w1.2.2 I1 t1 it_rng⟩
    · exact w1.elim
  · cases h
theorem I_rng2 (ha : EOk T ct pins a) (hb : EOk T ct pins b) : IOk T ct pins (.rng2 a b) := by
  intro X Z k hX ex tg h _
  unfold mI at h
  split at h
  · simp only [Bool.and_eq_true, decide_eq_true_eq] at h
    obtain ⟨⟨⟨rfl, h1⟩, h2⟩, h3⟩ := h
    have st := ok_star (env := X.env) (mE_ok h3) []
    refine PI.imp (pi_range2 (glo_of hX h1) (hX.free _ (by decide +kernel)) (pa_two (ha hX _ h2) (hb hX _ h3) (mE_ok h2) (mE_ok h3)) (by rw [ok_star (mE_ok h2), st]; rfl) st) fun σ H Q ⟨W, ρ, S, F, h, I, q⟩ => ?_
    refine tE.sh (by unfold wI at h; exact h) I (Tr.refl fun _ z => z) fun v1 H1 S1 ρ1 F1 m1 d1 w1 I1 r1 t1 s1 => ?_
    refine tE.sh w1 I1 t1 fun v2 H2 S2 ρ2 F2 m2 d2 w2 I2 r2 t2 s2 => ?_
    split at w2
    · unfold Rep at r1 r2
      subst r1
      subst r2
      exact ⟨_, _, rfl, w2.1, q _ H2 S2 ρ2 F2 _ w2.2 I2 t2 it_rng⟩
    · exact w2.elim
  · cases h
theorem I_rng3 (ha : EOk T ct pins a) (hb : EOk T ct pins b) (hc : EOk T ct pins c) : IOk T ct pins (.rng3 a b c) := by
  intro X Z k hX ex tg h _
  unfold mI at h
  split at h
  · simp only [Bool.and_eq_true, decide_eq_true_eq] at h
    obtain ⟨⟨⟨⟨rfl, h1⟩, h2⟩, h3⟩, h4⟩ := h
    have st := ok_star (env := X.env) (mE_ok h4) []
    refine PI.imp (pi_range3 (glo_of hX h1) (hX.free _ (by decide +kernel)) (pa_cons (ha hX _ h2) (pa_two (hb hX _ h3) (hc hX _ h4) (mE_ok h3) (mE_ok h4)) (ok_star (mE_ok h2) _)) (ok_star (mE_ok h2) _) (by rw [ok_star (mE_ok h3), st]; rfl)) fun σ H Q ⟨W, ρ, S, F, h, I, q⟩ => ?_
    refine tE.sh (by unfold wI at h; exact h) I (Tr.refl fun _ z => z) fun v1 H1 S1 ρ1 F1 m1 d1 w1 I1 r1 t1 s1 => ?_
    refine tE.sh w1 I1 t1 fun v2 H2 S2 ρ2 F2 m2 d2 w2 I2 r2 t2 s2 => ?_
    refine tE.sh w2 I2 t2 fun v3 H3 S3 ρ3 F3 m3 d3 w3 I3 r3 t3 s3 => ?_
    split at w3
    · unfold Rep at r1 r2 r3
      subst r1
      subst r2
      subst r3
      obtain ⟨n, hn, w3⟩ := w3
      exact ⟨_, _, _, n, rfl, hn, q _ H3 S3 ρ3 F3 _ w3 I3 t3 it_rngC⟩
    · exact w3.elim
  · cases h
theorem I_enum (ha : EOk T ct pins a) : IOk T ct pins (.enum a) := by
  intro X Z k hX ex tg h ht
  obtain ⟨txs, tkk, tps, rfl⟩ : ∃ xs kk p, tg = .Tuple xs kk p := by cases tg <;> first | exact ⟨_, _, _, rfl⟩ | exact absurd ht Bool.false_ne_true
  unfold mI at h
  split at h
  · simp only [Bool.and_eq_true, decide_eq_true_eq] at h
    obtain ⟨⟨rfl, h1⟩, h2⟩ := h
    have st := ok_star (env := X.env) (mE_ok h2) []
    · refine PI.imp (pi_enumA (glo_of hX h1) (hX.free _ (by decide +kernel)) (pa_cons (ha hX _ h2) pa_nil st) st) fun σ H Q ⟨W, ρ, S, F, h, I, q⟩ => ?_
      refine tE.sh (by unfold wI at h; exact h) I (Tr.refl fun _ z => z) fun v1 H1 S1 ρ1 F1 m1 d1 w1 I1 r1 t1 s1 => ?_
      split at w1
      · unfold Rep at r1
        obtain ⟨b, vs, rfl, e2, e3⟩ := r1
        exact ⟨b, rfl, .inl ⟨vs, SqL.of (I1.sub _ _ e2), q _ H1 S1 ρ1 F1 _ w1 I1 t1 (it_enum e2 e3)⟩⟩
      · unfold Rep at r1
        obtain ⟨b, vs, rfl, e2, e3⟩ := r1
        exact ⟨b, rfl, .inr ⟨vs, Same.seqT I1.sub e2, q _ H1 S1 ρ1 F1 _ w1 I1 t1 (it_enumT e2 e3)⟩⟩
      · exact w1.elim
  · cases h
theorem I_zip (ha : EOk T ct pins a) (hb : EOk T ct pins b) : IOk T ct pins (.zip a b) := by
  intro X Z k hX ex tg h ht
  obtain ⟨txs, tkk, tps, rfl⟩ : ∃ xs kk p, tg = .Tuple xs kk p := by cases tg <;> first | exact ⟨_, _, _, rfl⟩ | exact absurd ht Bool.false_ne_true
  unfold mI at h
  split at h
  · simp only [Bool.and_eq_true, decide_eq_true_eq] at h
    obtain ⟨⟨⟨rfl, h1⟩, h2⟩, h3⟩ := h
    have st := ok_star (env := X.env) (mE_ok h3) []
    · refine PI.imp (pi_zip (glo_of hX h1) (hX.free _ (by decide +kernel)) (pa_two (ha hX _ h2) (hb hX _ h3) (mE_ok h2) (mE_ok h3)) (ok_star (mE_ok h2) _) (star_two (mE_ok h3))) fun σ H Q ⟨W, ρ, S, F, h, I, q⟩ => ?_
      refine tE.sh (by unfold wI at h; exact h) I (Tr.refl fun _ z => z) fun v1 H1 S1 ρ1 F1 m1 d1 w1 I1 r1 t1 s1 => ?_
      refine tE.sh w1 I1 t1 fun v2 H2 S2 ρ2 F2 m2 d2 w2 I2 r2 t2 s2 => ?_
      split at w2
      · have r1 := r1.mono s2
        unfold Rep at r1 r2
        obtain ⟨b, vs, rfl, e2, e3⟩ := r1
        obtain ⟨b', ws, rfl, f2, f3⟩ := r2
        exact ⟨b, b', vs, ws, rfl, SqL.of (I2.sub _ _ e2), SqL.of (I2.sub _ _ f2), q _ H2 S2 ρ2 F2 _ w2 I2 t2 (it_zip e2 e3 f2 f3)⟩
      · exact w2.elim
  · cases h

/-! ### targets -/
theorem Sta.store {K : PySem.W.Frag} {S H : Hp} {σ : L2.St} {ρ : Env} {F : Sl → Pm} {m : M} {G : Pm} {d : D} {v : V} {i : Nat} (I : Sta K ct pins S H σ ρ F) (h : Vl K ct S H F m G d v) (hp : i ∉ pins.map (·.1)) :
    Sta K ct pins S H (σ.set i (some v)) (ρ.set i (some (m, d))) (Fs F i G) := by
  refine ⟨I.sub, by rw [List.length_set, List.length_set]; exact I.len, fun j m1 d1 e => ?_, fun j k a h1 h2 => ?_, fun j a z => ?_, fun p hpp => ?_, I.tbs fun _ _ => rfl⟩
  · rcases at_set_some e with ⟨rfl, z⟩ | ⟨ne, z⟩
    · cases z
      have hl := at_lt e
      rw [List.length_set, I.len] at hl
      exact ⟨v, by rw [List.getElem?_set_self hl], h.rep.weak fun a y => Fs_self.mpr y⟩
    · obtain ⟨w, e1, e2⟩ := I.sl j m1 d1 z
      exact ⟨w, by rw [List.getElem?_set_ne (Ne.symm ne)]; exact e1, e2.weak fun a y => (Fs_ne ne).mpr y⟩
  · rcases h1 with ⟨rfl, z⟩ | ⟨n1, z⟩
    · rcases h2 with ⟨rfl, y⟩ | ⟨n2, y⟩
      · rfl
      · exact absurd y ((h.off a z).2.2 k)
    · rcases h2 with ⟨rfl, y⟩ | ⟨n2, y⟩
      · exact absurd z ((h.off a y).2.2 j)
      · exact I.dj j k a z y
  · rcases z with ⟨rfl, z⟩ | ⟨_, z⟩
    · exact ⟨(h.off a z).1, (h.off a z).2.1⟩
    · exact I.off j a z
  · have ne : i ≠ p.1 := fun z => hp (by rw [z]; exact List.mem_map_of_mem hpp)
    rw [List.getElem?_set_ne ne]
    exact I.pin p hpp
theorem Pt_store {F : Sl → Pm} {i : Nat} {G : Pm} {a : Addr} (h : Pt (Fs F i G) a) : G a ∨ Pt F a := by
  obtain ⟨j, ⟨_, y⟩ | ⟨_, y⟩⟩ := h
  · exact .inl y
  · exact .inr ⟨j, y⟩
theorem wipe_set {σ : L2.St} {i : Nat} {x : Option V} : ∀ {ow : List Nat}, i ∈ ow → wipe (σ.set i x) ow = wipe σ ow
  | v :: vs, h => by
    unfold wipe
    by_cases hm : i ∈ vs
    · rw [wipe_set hm]
    · have e : i = v := by
        rcases List.mem_cons.mp h with z | z
        · exact z
        · exact absurd z hm
      subst e
      have : ∀ {ow : List Nat}, wipe (σ.set i x) ow = (wipe σ ow).set i ((wipe (σ.set i x) ow)[i]?.join) := by
        intro ow
        induction ow with
        | nil =>
          show σ.set i x = σ.set i ((σ.set i x)[i]?.join)
          by_cases hl : i < σ.length
          · rw [List.getElem?_set_self hl]
            rfl
          · rw [List.set_eq_of_length_le (by omega), List.set_eq_of_length_le (by omega)]
        | cons u us ih =>
          show (wipe (σ.set i x) us).set u none = ((wipe σ us).set u none).set i (((wipe (σ.set i x) us).set u none)[i]?.join)
          by_cases hu : u = i
          · subst hu
            rw [ih, List.set_set, List.set_set]
            by_cases hl : u < (wipe σ us).length
            · rw [List.getElem?_set_self hl]
              rfl
            · rw [List.set_eq_of_length_le (by omega), List.set_eq_of_length_le (by omega)]
          · rw [List.getElem?_set_ne hu, List.set_comm _ _ hu, ← ih]
      rw [this, List.set_set]
theorem store_of {X : Cx} {Z : SC} {k : Nat} (hX : XOk T ct Z k X) {i : Nat} {x : Str} (hs : Z.store i x = true) : X.N[i]? = some x ∧ L2.Loc X.env.scope x ∧ (X.fn x = true ∨ X.env.scope.names.lookup x = some .local) := by
  unfold SC.store at hs
  simp only [Bool.and_eq_true, decide_eq_true_eq] at hs
  have hl := hs.2
  unfold SC.sto at hl
  rw [hX.N]
  refine ⟨hs.1, ?_⟩
  unfold L2.Loc
  rw [hX.sc, hX.fn]
  split at hl
  · rename_i z
    exact ⟨.inl z, .inr z⟩
  · rename_i z
    exact ⟨.inr z, .inl hl⟩
  · cases hl
theorem G_tn (i : Nat) : GOk T ct pins (.tn i) := by
  intro X Z k hX ow e h
  unfold mG at h
  split at h
  · simp only [Bool.and_eq_true] at h
    obtain ⟨hs, hl, hf⟩ := store_of hX h.1
    refine PG.imp (pg_name (by rw [hX.N]; exact hX.nd) hs hl hf) fun v σ H Q ⟨R, ρ, S, F, d, h', I, hv, q⟩ => ?_
    unfold wG at h'
    refine q _ H S _ _ h'.2 (I.store (Vl.sh hv) h'.1) (Tr.refl fun a z => (Pt_store z).elim (fun z => z.elim) fun z => z) fun ne => wipe_set ?_
    have h2 := h.2
    cases ow with
    | nil => exact absurd rfl ne
    | cons x xs =>
      have : (x :: xs).contains i = true := by simpa using h2
      exact List.contains_iff_mem.mp this
  · cases h
theorem Gs_nil : GsOk T ct pins .nil := by
  intro X Z k hX ow es h
  unfold mGs at h
  split at h
  · refine PGs.imp pgs_nil fun v σ H Q ⟨R, ρ, S, F, ds, h', I, hv, q⟩ => ?_
    unfold wGs at h'
    obtain ⟨rfl, h'⟩ := h'
    unfold Reps at hv
    exact ⟨hv, q _ H S _ _ h' I (Tr.refl fun _ z => z) fun _ => rfl⟩
  · cases h
theorem mG_form {Z : SC} {ow : List Nat} {c : C} {e : Expr} (h : mG Z ow c e = true) : (∃ x p, e = .Name x p) ∨ ∃ xs k p, e = .Tuple xs k p := by
  cases c with
  | tn i =>
    unfold mG at h
    split at h
    · exact .inl ⟨_, _, rfl⟩
    · cases h
  | tt ts =>
    unfold mG at h
    split at h
    · exact .inr ⟨_, _, _, rfl⟩
    · cases h
  | _ => cases h
theorem Gs_cons (ha : GOk T ct pins a) (hr : GsOk T ct pins r) : GsOk T ct pins (.cons a r) := by
  intro X Z k hX ow es h
  unfold mGs at h
  split at h
  · rename_i e s
    simp only [Bool.and_eq_true] at h
    have hs : (assignEach (e :: s) X.env).map (·.2) = assign e X.env :: (assignEach s X.env).map (·.2) := by
      rcases mG_form h.1 with ⟨x, p, rfl⟩ | ⟨xs, k, p, rfl⟩ <;> rfl
    refine PGs.imp (pgs_cons (ha hX ow _ h.1) (hr hX ow _ h.2) hs) fun vs σ H Q ⟨R, ρ, S, F, ds, h', I, hv, q⟩ => ?_
    unfold wGs at h'
    cases ds with
    | nil => exact h'.elim
    | cons d ds =>
      unfold Reps at hv
      obtain ⟨v, vr, rfl, e1, e2⟩ := hv
      refine ⟨v, vr, rfl, _, ρ, S, F, d, h', I, e1, fun σ1 H1 S1 ρ1 F1 w1 I1 t1 u1 => ?_⟩
      exact ⟨R, ρ1, S1, F1, ds, w1, I1, e2.mono t1.ss, fun σ2 H2 S2 ρ2 F2 w2 I2 t2 u2 => q σ2 H2 S2 ρ2 F2 w2 I2 (t1.trans0 t2) fun ne => (u2 ne).trans (u1 ne)⟩
  · cases h
theorem mGs_len {Z : SC} {ow : List Nat} {env : PySem.Env} : ∀ {c : C} {es : List Expr}, mGs Z ow c es = true → (assignEach es env).length = c.len ∧ (assignEach es env).findIdx? (·.1) = none := by
  intro c
  induction c with
  | nil =>
    intro es h
    unfold mGs at h
    split at h
    · exact ⟨rfl, rfl⟩
    · cases h
  | cons a r _ ih =>
    intro es h
    unfold mGs at h
    split at h
    · rename_i e s
      simp only [Bool.and_eq_true] at h
      obtain ⟨i1, i2⟩ := ih h.2
      have hs : assignEach (e :: s) env = (false, assign e env) :: assignEach s env := by
        rcases mG_form h.1 with ⟨x, p, rfl⟩ | ⟨xs, k, p, rfl⟩ <;> rfl
      rw [hs]
      refine ⟨by rw [List.length_cons, i1]; rfl, ?_⟩
      rw [List.findIdx?_cons]
      show (if false = true then _ else _) = _
      rw [if_neg Bool.false_ne_true, i2]
      rfl
    · cases h
  | _ =>
    intro es h
    cases h
theorem G_tt (ha : GsOk T ct pins a) : GOk T ct pins (.tt a) := by
  intro X Z k hX ow e h
  unfold mG at h
  split at h
  · obtain ⟨h1, h2⟩ := mGs_len (env := X.env) h
    refine PG.imp (pg_tup hX.calm (ha hX ow _ h) h1 h2) fun v σ H Q ⟨R, ρ, S, F, d, h', I, hv, q⟩ => ?_
    unfold wG at h'
    split at h'
    · rename_i ds
      unfold Rep at hv
      obtain ⟨b, vs, rfl, e2, e3⟩ := hv
      exact ⟨b, vs, rfl, Same.seqT I.sub e2, by rw [← e3.length]; exact h'.1, R, ρ, S, F, ds, h'.2, I, e3, q⟩
    · exact h'.elim
  · cases h
end
end Y
namespace Y
open PySem PySem.Spec PyProof.Rows L2

theorem wipeE_len (ρ : Env) : ∀ vs : List Nat, (wipeE ρ vs).length = ρ.length
  | [] => rfl
  | v :: vs => by unfold wipeE; rw [List.length_set, wipeE_len ρ vs]
theorem wipeE_at {ρ : Env} {i : Nat} {q : M × D} : ∀ {vs : List Nat}, Env.at (wipeE ρ vs) i = some q → i ∉ vs ∧ ρ.at i = some q
  | [], h => ⟨by simp, h⟩
  | v :: vs, h => by
    unfold wipeE at h
    rcases at_set_some h with ⟨_, z⟩ | ⟨ne, z⟩
    · cases z
    · obtain ⟨h1, h2⟩ := wipeE_at z
      exact ⟨by simp only [List.mem_cons, not_or]; exact ⟨ne, h1⟩, h2⟩
theorem wipeE_out {ρ : Env} {i : Nat} : ∀ {vs : List Nat}, i ∉ vs → Env.at (wipeE ρ vs) i = ρ.at i
  | [], h => rfl
  | v :: vs, h => by
    simp only [List.mem_cons, not_or] at h
    unfold wipeE
    rw [at_set_ne h.1, wipeE_out h.2]
theorem backE_len (ρ ρ0 : Env) : ∀ vs : List Nat, (backE ρ ρ0 vs).length = ρ.length
  | [] => rfl
  | v :: vs => by unfold backE; rw [List.length_set, backE_len ρ ρ0 vs]
theorem backE_at {ρ ρ0 : Env} {i : Nat} {q : M × D} : ∀ {vs : List Nat}, Env.at (backE ρ ρ0 vs) i = some q → (i ∈ vs ∧ ρ0.at i = some q) ∨ (i ∉ vs ∧ ρ.at i = some q)
  | [], h => .inr ⟨by simp, h⟩
  | v :: vs, h => by
    unfold backE at h
    rcases at_set_some h with ⟨rfl, z⟩ | ⟨ne, z⟩
    · exact .inl ⟨List.mem_cons_self, z⟩
    · rcases backE_at z with ⟨h1, h2⟩ | ⟨h1, h2⟩
      · exact .inl ⟨List.mem_cons_of_mem _ h1, h2⟩
      · exact .inr ⟨by simp only [List.mem_cons, not_or]; exact ⟨ne, h1⟩, h2⟩
theorem wipe_in {σ : L2.St} {i : Nat} : ∀ {vs : List Nat}, i ∈ vs → (L2.wipe σ vs)[i]? = if i < σ.length then some none else none
  | v :: vs, h => by
    unfold L2.wipe
    by_cases e : v = i
    · subst e
      by_cases hl : v < σ.length
      · rw [List.getElem?_set_self (by rw [L2.wipe_length]; exact hl), if_pos hl]
      · rw [if_neg hl, List.getElem?_eq_none (by rw [List.length_set, L2.wipe_length]; omega)]
    · rw [List.getElem?_set_ne e]
      exact wipe_in ((List.mem_cons.mp h).resolve_left fun z => e z.symm)
theorem wipe_wipe (σ : L2.St) (vs : List Nat) : L2.wipe (L2.wipe σ vs) vs = L2.wipe σ vs := by
  refine List.ext_getElem? fun i => ?_
  by_cases h : i ∈ vs
  · rw [wipe_in h, wipe_in h, L2.wipe_length]
  · rw [wipe_out h]
def SlIn (i : Sl) (vs : List Nat) : Prop := ∃ v, v ∈ vs ∧ i = some v
theorem SlIn.nat {i : Nat} {vs : List Nat} : SlIn (some i) vs ↔ i ∈ vs := ⟨fun ⟨v, h, e⟩ => by rw [Option.some.inj e]; exact h, fun h => ⟨i, h, rfl⟩⟩
theorem SlIn.no {vs : List Nat} : ¬ SlIn none vs := fun ⟨_, _, e⟩ => nomatch e
def Fw (F : Sl → Pm) (vs : List Nat) : Sl → Pm := fun i a => ¬ SlIn i vs ∧ F i a
def Fb (F1 F2 : Sl → Pm) (vs : List Nat) : Sl → Pm := fun i a => (SlIn i vs ∧ F1 i a) ∨ (¬ SlIn i vs ∧ F2 i a)

section
variable {T : List FSpec} {ct : Ct} {pins : List (Nat × V)} {K : PySem.W.Frag} {S H S1 H1 S2 H2 : Hp} {σ : L2.St} {ρ ρ1 ρ2 : Env} {F F1 F2 : Sl → Pm} {P P2 : Pm} {vs : List Nat}
theorem Sta.wipe (I : Sta K ct pins S H σ ρ F) (hv : ∀ v ∈ vs, v ∉ pins.map (·.1)) : Sta K ct pins S H (L2.wipe σ vs) (wipeE ρ vs) (Fw F vs) := by
  refine ⟨I.sub, by rw [wipeE_len, L2.wipe_length]; exact I.len, fun i m d e => ?_, fun i j a h1 h2 => I.dj i j a h1.2 h2.2, fun i a h => I.off i a h.2, fun p hp => ?_, I.tb.mono (fun a z => ⟨SlIn.no, z⟩) fun _ _ => rfl⟩
  · obtain ⟨h1, h2⟩ := wipeE_at e
    obtain ⟨v, e1, e2⟩ := I.sl i m d h2
    exact ⟨v, by rw [wipe_out h1]; exact e1, e2.weak fun a z => ⟨fun z => h1 (SlIn.nat.mp z), z⟩⟩
  · rw [wipe_out fun z => hv _ z (List.mem_map_of_mem hp)]
    exact I.pin p hp
theorem Tr.wiped (I : Sta K ct pins S1 H1 σ ρ1 F1) (t : Tr (Pt (Fw F1 vs)) S1 H1 S2 H2 P2) {a : Addr} {r : Sl} (hr : SlIn r vs) (h : F1 r a) : H2 a = H1 a ∧ S2 a = none ∧ ¬ P2 a := by
  have nl : ¬ Pt (Fw F1 vs) a := fun ⟨i, ne, z⟩ => ne (by rw [I.dj i r a z h]; exact hr)
  obtain ⟨o1, o2⟩ := I.off r a h
  obtain ⟨o, e⟩ := ne_some o2
  refine ⟨by rw [e]; exact t.keep a o e nl, Classical.byContradiction fun n => ?_, fun z => ?_⟩
  · rcases t.news a n with q | q | q
    · exact q o1
    · exact o2 q
    · exact nl q
  · rcases t.newp a z with q | q
    · exact o2 q
    · exact nl q
theorem Sta.unwipe (I : Sta K ct pins S1 H1 σ ρ1 F1) (J : Sta K ct pins S2 H2 (L2.wipe σ vs) (wipeE ρ2 vs) F2) (t : Tr (Pt (Fw F1 vs)) S1 H1 S2 H2 P2) (hp : ∀ a, Pt F2 a → P2 a) : Sta K ct pins S2 H2 σ (backE ρ2 ρ1 vs) (Fb F1 F2 vs) := by
  refine ⟨J.sub, ?_, fun i m d e => ?_, fun i j a h1 h2 => ?_, fun i a h => ?_, I.pin, J.tb.mono (fun a z => .inr ⟨SlIn.no, z⟩) fun _ _ => rfl⟩
  · have := J.len
    rw [wipeE_len, L2.wipe_length] at this
    rw [backE_len]
    exact this
  · rcases backE_at e with ⟨hm, z⟩ | ⟨hm, z⟩
    · obtain ⟨v, e1, e2⟩ := I.sl i m d z
      exact ⟨v, e1, (e2.mono t.ss fun a y => (t.wiped I (SlIn.nat.mpr hm) y).1).weak fun a y => .inl ⟨SlIn.nat.mpr hm, y⟩⟩
    · obtain ⟨v, e1, e2⟩ := J.sl i m d (by rw [wipeE_out hm]; exact z)
      rw [wipe_out hm] at e1
      exact ⟨v, e1, e2.weak fun a y => .inr ⟨fun z => hm (SlIn.nat.mp z), y⟩⟩
  · rcases h1 with ⟨m1, z⟩ | ⟨m1, z⟩
    · rcases h2 with ⟨m2, y⟩ | ⟨m2, y⟩
      · exact I.dj i j a z y
      · exact absurd (hp a ⟨j, y⟩) (t.wiped I m1 z).2.2
    · rcases h2 with ⟨m2, y⟩ | ⟨m2, y⟩
      · exact absurd (hp a ⟨i, z⟩) (t.wiped I m2 y).2.2
      · exact J.dj i j a z y
  · rcases h with ⟨m1, z⟩ | ⟨m1, z⟩
    · obtain ⟨q1, q2, _⟩ := t.wiped I m1 z
      exact ⟨q2, by rw [q1]; exact (I.off i a z).2⟩
    · exact J.off i a z
theorem Tr.unwipe (I : Sta K ct pins S1 H1 σ ρ1 F1) (t : Tr (Pt (Fw F1 vs)) S1 H1 S2 H2 P2) : Tr (Pt F1) S1 H1 S2 H2 (fun a => P2 a ∨ ∃ i : Sl, SlIn i vs ∧ F1 i a) := by
  have up : ∀ a, Pt (Fw F1 vs) a → Pt F1 a := fun a ⟨i, _, z⟩ => ⟨i, z⟩
  refine ⟨t.ss, fun a o h n => t.keep a o h fun z => n (up a z), fun a z => ?_, fun a z => ?_, t.there, t.code⟩
  · rcases t.news a z with q | q | q
    · exact .inl q
    · exact .inr (.inl q)
    · exact .inr (.inr (up a q))
  · rcases z with z | ⟨i, _, z⟩
    · rcases t.newp a z with q | q
      · exact .inl q
      · exact .inr (up a q)
    · exact .inr ⟨i, z⟩
theorem XOk.blk {Z : SC} {k : Nat} {X : Cx} (hX : XOk T ct Z k X) (s : Shared) (H : Hp) (scope : Scope) (cl : List (Str × Addr)) (C : Addr) (fp : List Addr) (hk : scope.kind = .function) : XOk T ct (Z.blk scope) k (X.blk s H scope (compEnvC scope cl C X.env) fp) := by
  refine ⟨hX.N, hX.nd, ?_, rfl, hX.calm, hX.room, hX.gd, hX.free, hX.fns, hX.cls, hX.gis, rfl, hk, fun z => absurd rfl z⟩
  show relabel scope X.env = relS scope Z.sc
  rw [← hX.sc]
  rfl
theorem mI_fold {Z : SC} {c : C} {e : Expr} (h : mI Z c e = true) (env : PySem.Env) (x : Value) : foldedSetIterable e env x = pure x := by
  have key : ∀ e', (∀ a b p, e' ≠ .Set a b p) → foldedSetIterable e' env x = pure x := by
    intro e' hn
    cases e' <;> first | rfl | exact absurd rfl (hn _ _ _)
  refine key e fun a b p z => ?_
  subst z
  cases c <;> first | (unfold mI at h; exact absurd (mE_ok h) Bool.false_ne_true) | exact absurd h Bool.false_ne_true
/-- a grown list that is held: one more item -/
theorem Vl.more {m m' : M} {G Gy : Pm} {acc : List D} {D' : Addr} {d : D} {v : V} (h : Vl K ct S H F (.o m) G (.lst acc) (.ref D')) (y : Vl K ct S H F m Gy d v) (dis : ∀ a, Gy a → ¬ G a) :
    ∃ vs, H D' = some (.lst vs) ∧ vs.length = acc.length ∧ Vl K ct S (upd H D' (.lst (vs ++ [v]))) F (.o m) (fun a => G a ∨ Gy a) (.lst (acc ++ [d])) (.ref D') ∧ G D' := by
  have hr := h.rep
  unfold RepM at hr
  obtain ⟨a, vs, ds, F', e1, e2, e3, e4, e5, e6⟩ := hr
  cases e1
  cases e2
  have nya : ∀ b, Gy b → b ≠ D' := fun b z q => dis b z (by rw [q]; exact e3)
  refine ⟨vs, e4, e6.length.symm, ⟨?_, fun b z => ?_⟩, e3⟩
  · unfold RepM
    refine ⟨D', vs ++ [v], _, fun b => F' b ∨ Gy b, rfl, rfl, .inl e3, upd_same, fun b z => ?_, Items.append ?_ (fun b z q => dis b z (e5 b q).1) (e6.mono fun G'' d v hg z => z.mono (Same.refl _) fun b q => upd_ne (e5 b (hg b q)).2)⟩
    · rcases z with z | z
      · exact ⟨.inl (e5 b z).1, (e5 b z).2⟩
      · exact ⟨.inr z, nya b z⟩
    · exact y.rep.mono (Same.refl _) fun b z => upd_ne (nya b z)
  · rcases z with z | z
    · obtain ⟨q1, q2, q3⟩ := h.off b z
      exact ⟨q1, upd_there q2, q3⟩
    · obtain ⟨q1, q2, q3⟩ := y.off b z
      exact ⟨q1, upd_there q2, q3⟩
/-- an object that no slot holds is changed -/
theorem Sta.upd {D' : Addr} {o : HO} (I : Sta K ct pins S H σ ρ F) (hs : S D' = none) (hf : ∀ i, ¬ F i D') : Sta K ct pins S (L2.upd H D' o) σ ρ F := by
  refine ⟨fun a u h => ?_, I.len, fun i m d e => ?_, I.dj, fun i a z => ⟨(I.off i a z).1, upd_there (I.off i a z).2⟩, I.pin, I.tb.mono (fun _ z => z) fun a z => upd_ne fun q => hf none (by rw [← q]; exact z)⟩
  · rw [upd_ne fun z => by rw [z, hs] at h; cases h]
    exact I.sub a u h
  · obtain ⟨v, e1, e2⟩ := I.sl i m d e
    exact ⟨v, e1, e2.mono (Same.refl _) fun a z => upd_ne fun q => hf i (by rw [← q]; exact z)⟩
theorem Tr.upd {D' : Addr} {o : HO} {G : Pm} (t : Tr P S1 H1 S H (fun a => G a ∨ Pt F a)) (hd : G D') (hc : CodeK H (L2.upd H D' o)) : Tr P S1 H1 S (L2.upd H D' o) (fun a => G a ∨ Pt F a) := by
  refine ⟨t.ss, fun a u h n => ?_, t.news, t.newp, fun a z => upd_there (t.there a z), fun a q h => hc a q (t.code a q h)⟩
  have ne : a ≠ D' := fun z => by
    rcases t.newp D' (.inl hd) with q | q
    · rw [z, q] at h
      cases h
    · exact n (by rw [z]; exact q)
  rw [upd_ne ne]
  exact t.keep a u h n

variable {a b c r p e : C}
theorem comp_rd {X : Cx} (m : M) (own : List (Str × Nat)) {tgt src cond elt : C} (hne : own.map (·.2) ≠ []) {σ : L2.St} {H : Hp} {Q : VK} (hh : tE X.K ct T pins (.comp m own tgt src cond elt) σ H Q) :
    tLc (tI X.K ct T pins src) (tG X.K ct T pins (own.map (·.2)) tgt) (tC X.K ct T pins cond) (tE X.K ct T pins elt) (own.map (·.2)) σ H Q := by
  obtain ⟨R, ρ, S, F, h, I, q⟩ := hh
  unfold wE at h
  refine ⟨_, ρ, S, F, h, I, fun J H1 S1 ρ1 F1 items w1 I1 t1 hJ => ?_⟩
  obtain ⟨hpn, Inv, hi0, hturn, hend⟩ := w1
  intro L hL
  generalize hvs : own.map (·.2) = vs at *
  have W1 := I1.wipe hpn
  have sL : S1 L = none := I1.sub.free hL
  have gL : Same H1 (upd H1 L (.lst [])) := same_new hL
  refine ⟨fun i n Hc => n = items.length - i ∧ i ≤ items.length ∧ ∃ S ρ F acc G, Inv i acc (wipeE ρ vs) ∧ Sta X.K ct pins S Hc (wipe σ vs) (wipeE ρ vs) F ∧ Vl X.K ct S Hc F (.o m) G (.lst acc) (.ref L) ∧ Tr (Pt (Fw F1 vs)) S1 H1 S Hc (fun a => G a ∨ Pt F a), ⟨items.length, rfl, Nat.zero_le _, S1, ρ1, _, [], fun a => a = L, hi0, W1.grow gL (Same.refl _) (I1.sub.trans gL) (fun a z => .inl z), ⟨?_, fun a z => ?_⟩, ?_⟩, ?_⟩
  · unfold RepM
    exact ⟨L, [], [], fun _ => False, rfl, rfl, rfl, upd_same, fun _ z => z.elim, Items.nil⟩
  · subst z
    exact ⟨sL, by rw [upd_same]; exact (fun z => nomatch z), fun i y => (I1.off i _ y.2).2 hL⟩
  · exact Tr.grow gL (Same.refl _) (fun a z => .inl z) fun a z => by rw [z]; exact hL
  rintro i n Hc ⟨rfl, hi, S3, ρ3, F3, acc, G3, inv, I3, V3, t3⟩
  obtain ⟨j1, j2, j3⟩ := hJ S3 Hc t3.ss I3.sub
  by_cases hlt : i < items.length
  · refine .inr ⟨j1 i hlt, fun H' => i + 1 ≤ items.length ∧ ∃ S ρ F acc G, Inv (i + 1) acc (wipeE ρ vs) ∧ Sta X.K ct pins S H' (wipe σ vs) (wipeE ρ vs) F ∧ Vl X.K ct S H' F (.o m) G (.lst acc) (.ref L) ∧ Tr (Pt (Fw F1 vs)) S1 H1 S H' (fun a => G a ∨ Pt F a), fun H' ⟨z1, z2⟩ => ⟨items.length - (i + 1), by omega, rfl, z1, z2⟩, fun x H4 hy => ?_⟩
    obtain ⟨S4, d, e1, e2, e3, e4, e5, e6⟩ := j3 i x H4 hlt hy
    have I4 := I3.grow e4 e3 e5 e6
    have t4 : Tr (Pt F3) S3 Hc S4 H4 (Pt F3) := (Tr.grow (G := fun _ => False) e4 e3 e6 fun a z => z.elim).sub fun a z => .inr z
    have V4 := V3.keep t4 fun i a z => ⟨i, z⟩
    have T4 := Tr.trans t3 t4
    refine ⟨_, wipeE ρ3 vs, S4, F3, d, hturn i d acc ρ3 e1 inv, I4, e2, fun σ5 H5 S5 ρ5 F5 w5 I5 t5 u5 => ⟨(u5 hne).trans (wipe_wipe σ vs), ?_⟩⟩
    have V5 := V4.keep t5 fun i a z => ⟨i, z⟩
    have T5 := Tr.trans T4 t5
    refine ⟨_, ρ5, S5, F5, w5, I5, fun bb H6 S6 ρ6 F6 w6 I6 t6 => ?_⟩
    have V6 := V5.keep t6 fun i a z => ⟨i, z⟩
    have T6 := Tr.trans T5 t6
    cases bb with
    | false =>
      simp only [Bool.false_eq_true, if_false] at w6 ⊢
      have W6 := I6.wipe hpn
      rw [u5 hne, wipe_wipe] at W6
      exact ⟨hlt, S6, ρ6, _, acc, G3, w6, W6, ⟨V6.rep, fun a z => ⟨(V6.off a z).1, (V6.off a z).2.1, fun i y => (V6.off a z).2.2 i y.2⟩⟩, T6.sub fun a z => z.elim .inl fun ⟨i, y⟩ => .inr ⟨i, y.2⟩⟩
    | true =>
      simp only [if_true] at w6 ⊢
      refine ⟨_, ρ6, S6, F6, w6, I6, fun v7 H7 S7 ρ7 F7 m7 d7 G7 w7 I7 V7 t7 => ?_⟩
      obtain ⟨c7, l7, w7⟩ := w7
      obtain ⟨S8, G8, V8, I8, t8⟩ := V7.cast I7 t7 c7
      have A8 := V6.keep t8 fun i a z => .inr ⟨i, z⟩
      have T8 := Tr.trans T6 t8
      have dis : ∀ a, G8 a → ¬ G3 a := fun a z y => by
        rcases t8.newp a (.inl z) with q | ⟨i, q⟩
        · exact (V6.off a y).2.1 q
        · exact (V6.off a y).2.2 i q
      obtain ⟨ws, f1, f2, f3, f4⟩ := A8.more (m' := m) V8 dis
      refine ⟨ws, f1, by rw [f2]; exact l7, hlt, S8, ρ7, Fw F7 vs, acc ++ [d7], fun a => G3 a ∨ G8 a, w7, ?_, ⟨f3.rep, fun a z => ⟨(f3.off a z).1, (f3.off a z).2.1, fun i y => (f3.off a z).2.2 i y.2⟩⟩, ?_⟩
      · have W8 := I8.wipe hpn
        rw [u5 hne, wipe_wipe] at W8
        exact W8.upd (A8.off L f4).1 fun i y => (A8.off L f4).2.2 i y.2
      · refine (Tr.upd (D' := L) (o := .lst (ws ++ [v7])) (G := fun a => G3 a ∨ G8 a) (F := F7) (T8.sub fun a z => ?_) (.inl f4) (CodeK.updL f1)).sub fun a z => z.elim .inl fun ⟨i, y⟩ => .inr ⟨i, y.2⟩
        rcases z with (z | z) | z
        · exact .inl z
        · exact .inr (.inl z)
        · exact .inr (.inr z)
  · have e : i = items.length := by omega
    subst e
    refine .inl ⟨j2 _ rfl, ?_⟩
    have J3 := Sta.unwipe I1 I3 t3 fun a z => .inr z
    refine q (.ref L) Hc S3 _ _ (.o m) (.lst acc) G3 (hend acc ρ3 inv) J3 ⟨V3.rep, fun a z => ⟨(V3.off a z).1, (V3.off a z).2.1, fun i y => ?_⟩⟩ ?_
    · rcases y with ⟨hm, y⟩ | ⟨hm, y⟩
      · exact (t3.wiped I1 hm y).2.2 (.inl z)
      · exact (V3.off a z).2.2 i y
    · refine (t1.trans0 (Tr.unwipe I1 t3)).sub fun a z => ?_
      rcases z with z | ⟨i, ⟨hm, y⟩ | ⟨hm, y⟩⟩
      · exact .inl (.inl z)
      · exact .inr ⟨i, hm, y⟩
      · exact .inl (.inr ⟨i, y⟩)
theorem E_comp (m : M) (own : List (Str × Nat)) {tgt src cond elt : C} (hsrc : IOk T ct pins src) (htgt : GOk T ct pins tgt) (hcond : COk T ct pins cond) (helt : EOk T ct pins elt) : EOk T ct pins (.comp m own tgt src cond elt) := by
  intro X Z k hX ex h
  unfold mE at h
  split at h
  · rename_i y t it ifs scope pos
    simp only [Bool.and_eq_true, Bool.not_eq_true'] at h
    obtain ⟨⟨⟨⟨⟨⟨hb, ho⟩, h1⟩, h2⟩, h3⟩, h4⟩, h5⟩ := h
    have hne : own.map (·.2) ≠ [] := fun z => by
      cases own with
      | nil => cases ho
      | cons _ _ => cases z
    have bo : BlkOk X.N X.env.scope scope own := by
      rw [hX.N, hX.sc]
      exact blkOk_by hb
    exact PE.imp (pe_lc (g := tG X.K ct T pins (own.map (·.2)) tgt) (tt := tC X.K ct T pins cond) (te := tE X.K ct T pins elt) hX.calm (by rw [hX.N]; exact hX.nd) (hsrc hX _ t h1 h2) bo (fun s H C cl fp => htgt (hX.blk s H scope cl C fp bo.kind) (own.map (·.2)) _ h3) (fun s H C cl fp => hcond (hX.blk s H scope cl C fp bo.kind) _ h4) (fun s H C cl fp => helt (hX.blk s H scope cl C fp bo.kind) _ h5) (mI_fold h1 _)) fun σ H Q hq => comp_rd m own hne hq
  · cases h
end
end Y
namespace Y
open PySem PySem.Spec PyProof.Rows L2

/-! ### sorted(xs, key=f): f any callable, its answers data that can be ordered -/
/-- sorted by the keys, ties as they stood -/
def kSort {α : Type} (kz : List PyData) (xs : List α) : List α := ((xs.zip kz).mergeSort (PySem.W.dataLe false fun p => p.2)).map (·.1)
theorem kSort_perm {α : Type} {kz : List PyData} {xs : List α} (h : kz.length = xs.length) : (kSort kz xs).Perm xs := by
  unfold kSort
  have := (List.mergeSort_perm (xs.zip kz) (PySem.W.dataLe false fun p => p.2)).map (·.1)
  rw [List.map_fst_zip (by omega)] at this
  exact this
theorem kSort_len {α : Type} {kz : List PyData} {xs : List α} (h : kz.length = xs.length) : (kSort kz xs).length = xs.length := (kSort_perm h).length_eq
theorem each_vals : ∀ {ps : List (V × PyData)} {out : List Value}, PySem.W.EachIs (fun v p => RelV p.1 v) out ps → Vals (ps.map (·.1)) out
  | _, _, .nil => .nil
  | _, _, .cons h t => .cons h (each_vals t)
theorem vals_each : ∀ {xs : List V} {its : List Value} {kz : List PyData}, Vals xs its → kz.length = xs.length → PySem.W.EachIs (fun v p => RelV p.1 v) its (xs.zip kz)
  | _, _, kz, .nil, h => by
    rw [List.zip_nil_left]
    exact .nil
  | _, _, [], .cons r t, h => by simp at h
  | _, _, k :: kz, .cons r t, h => by
    rw [List.zip_cons_cons]
    exact .cons r (vals_each t (by simpa using h))
section
variable {X : Cx} {pins : List (Addr × Obj)} {σ : L2.St} {A : Around} {E : Value → Shared → Prop} {P : PySem.Fin → Shared → Prop} {a kS : Addr} {f : Value} {xs ys : List V} {kz : List PyData} {its : List Value} {H : Hp} {s : Shared}
theorem dpAll_each (I : Inv X pins σ H s) : ∀ {kvs : List V} {kz : List PyData} {us : List Value}, DpAll X.K H kvs kz → Vals kvs us → PySem.W.EachIs (fun v k => ∃ as, Reads s.heap v k as) us kz
  | _, _, _, .nil, r => by
    cases r
    exact .nil
  | _, _, _, .cons h t, r => by
    cases r with
    | cons r rr => exact .cons (Dp.reads I _ _ _ h r) (dpAll_each I t rr)
/-- the end: the keys' list is emptied, the sorted items stand in the list -/
theorem tailK {st : SortSt} {keys : Array Value} {e e1 : Nat} {out : List Value} (I : Inv X pins σ H s) (hka : kS ≠ a) (ha : H a = some (.frz (seqObj "list" #[] e1) (.lst []))) (hn : ∀ o' u', X.H_0 a ≠ some (.frz o' u')) {kvs : List V} (hk' : H kS = some (.lst kvs)) (hko : s.heap.get? kS = some (seqObj "list" keys e))
    (hsz : keys.size ≤ sizeLine) (hz : out.length ≤ sizeLine) (v1 : Vals ys out) (ho : (arrOf st).map (·.2) = out.toArray) (hfl : failedOf st = none)
    (h : ∀ s', Inv X pins σ (upd (upd H kS (.lst [])) a (.lst ys)) s' → P (.done (.ret .none)) s') :
    wpAny (model X.prog X.w) A (ksk_tail a false e1 (.ref kS) st) P E s := by
  have hal := (show ObjOk X.prog X.w H s.heap a (.frz (seqObj "list" #[] e1) (.lst [])) from I.hok a _ ha).1
  unfold ksk_tail
  try dsimp only
  have I1 : Inv X pins σ (upd H kS (.lst [])) { s with heap := s.heap.update kS (Obj.mapSeq fun _ => (#[] : Array Value)) } := by
    have z := I.hok kS _ hk'
    obtain ⟨_, its2, n2, _, e2⟩ := (show ObjOk X.prog X.w H s.heap kS (.lst kvs) from z)
    exact I.lset (t' := s.toks) (its := its2) (its' := []) hk' e2 rfl .nil (Nat.zero_le _)
  have s1 := Heap.SameBut.update s.heap kS (Obj.mapSeq fun _ => (#[] : Array Value))
  have na1 : (s.heap.update kS (Obj.mapSeq fun _ => (#[] : Array Value))).get? a = some (seqObj "list" #[] e1) := (s1.2 a hka.symm).trans hal
  rw [ho]
  simp only [Bool.false_eq_true, if_false]
  refine wpAny_bind (listUpdate_at hko rfl ?_ hsz (Nat.zero_le _))
  refine wpAny_bind (wpAny_letGo ?_)
  refine wpAny_bind (seqEpoch_at na1 rfl ?_)
  refine wpAny_bind (listUpdate_at na1 rfl ?_ (Nat.zero_le _) (by rw [List.size_toArray]; omega))
  rw [hfl]
  simp only [bne_self_eq_false, Bool.false_eq_true, if_false]
  have ha2 : upd H kS (.lst []) a = some (.frz (seqObj "list" #[] e1) (.lst [])) := by rw [upd_ne hka.symm]; exact ha
  have I2 := I1.unlock ha2 hn
  have I3 := I2.lset (t' := s.toks) (l := a) (xs := []) (ys := ys) (its := []) (its' := out) (f := fun _ => out.toArray) upd_same na1 rfl v1 (by rw [v1.length]; exact hz)
  rw [upd_upd] at I3
  exact wpAny_pure (h _ I3)
theorem endK {keys : Array Value} {e e1 : Nat} {κ : PyProof.Rows.KeyKind} (I : Inv X pins σ H s) (hka : kS ≠ a) (ha : H a = some (.frz (seqObj "list" #[] e1) (.lst []))) (hn : ∀ o' u', X.H_0 a ≠ some (.frz o' u')) {kvs : List V} (hk' : H kS = some (.lst kvs)) (hko : s.heap.get? kS = some (seqObj "list" keys e))
    (S : PySem.W.SortsAt X.prog X.w A s κ keys.toList) (hsz : keys.size = its.length) (hZ : its.length ≤ sizeLine) (hv : Vals ys (PySem.W.sortVals κ false keys.toList its))
    (h : ∀ s', Inv X pins σ (upd (upd H kS (.lst [])) a (.lst ys)) s' → P (.done (.ret .none)) s') :
    wpAny (model X.prog X.w) A (ksk_end a false its.toArray e1 (.ref kS) keys) P E s := by
  obtain ⟨kd, h1, h2⟩ := S.kind
  have hkl : keys.toList.length = its.length := by
    rw [Array.length_toList]
    exact hsz
  have hK : PyProof.Rows.KeysOf κ (keys.zip its.toArray) := PySem.W.keysOf_zip S.keys
  have hol : (PySem.W.sortVals κ false keys.toList its).length = its.length := PySem.W.sortVals_length false hkl
  have hss : (keys.zip its.toArray).size = its.length := by rw [Array.size_zip, hsz, List.size_toArray, Nat.min_self]
  have fin : ∀ st' : SortSt, (arrOf st').Perm (keys.zip its.toArray) → SortedToK κ (arrOf st') (keys.zip its.toArray).size →
      Stable κ (arrOf st') (keys.zip its.toArray) → (arrOf st').map (·.2) = (PySem.W.sortVals κ false keys.toList its).toArray := by
    intro st' hp hs ht
    have e := PySem.W.sort_out (rev := false) (keys := keys) (items := its.toArray) (xs := arrOf st') (κ := κ) hK hp hs ht
    have e' := congrArg List.toArray e
    rw [Array.toArray_toList] at e'
    exact e'
  unfold ksk_end
  try dsimp only
  rw [if_neg Bool.false_ne_true]
  by_cases hl2 : its.toArray.size < 2
  · rw [if_pos hl2, if_pos hl2]
    refine wpAny_bind (wpAny_pure ?_)
    rw [StateT.run_pure]
    refine wpAny_bind (wpAny_pure ?_)
    try dsimp only
    refine tailK (st := SortSt.mk' general' (if false = true then (keys.zip its.toArray).reverse else keys.zip its.toArray) #[] 7 none) I hka ha hn hk' hko (by rw [hsz]; exact hZ) (by rw [hol]; exact hZ) hv (fin _ (Array.Perm.refl _) ?_ (Stable.refl _)) rfl h
    intro i j hij hj
    rw [hss] at hj
    rw [List.size_toArray] at hl2
    have : i = j := by omega
    subst this
    exact KeyOrd.kle_refl _
  · rw [if_neg hl2, if_neg hl2]
    rw [List.size_toArray] at hl2
    refine wpAny_bind (h2 (by omega) _ ?_)
    refine wpAny_bind (wpAny_mono (PyProof.Rows.H.wpS_sortRunsSt (κ := κ) (kd := kd) (a₀ := keys.zip its.toArray)
      (st := SortSt.mk' kd (if false = true then (keys.zip its.toArray).reverse else keys.zip its.toArray) #[] 7 none)
      (Q := fun _ st' => failedOf st' = none ∧ (arrOf st').map (·.2) = (PySem.W.sortVals κ false keys.toList its).toArray)
      h1 hK ⟨Array.Perm.refl _, rfl, rfl⟩ rfl (Stable.refl _) (by rw [hss]; omega) fun st' a1 a2 a3 a4 => ⟨a2, fin st' a1 a3 a4⟩) ?_ fun _ _ e => e)
    rintro ⟨⟨⟩, st'⟩ s' ⟨rfl, hf, ho⟩
    try dsimp only at ho ⊢
    exact tailK I hka ha hn hk' hko (by rw [hsz]; exact hZ) (by rw [hol]; exact hZ) hv ho hf h
theorem restK {e1 : Nat} (G : Nat → List V → Hp → Prop) (I : Inv X pins σ H s) (hka : kS ≠ a) (ha : H a = some (.frz (seqObj "list" #[] e1) (.lst []))) (hn : ∀ o' u', X.H_0 a ≠ some (.frz o' u')) (hk' : H kS = some (.lst []))
    (hv : Vals xs its) (hlen : kz.length = its.length) (hZ : its.length ≤ sizeLine) (hal : PySem.W.AllAlike kz) (hsk : PySem.W.Sortable kz) (hu : ∀ d, d ∈ kz → A.units + d.depth < cLine) (g0 : G 0 [] H)
    (gu : ∀ i kvs H' ys, G i kvs H' → H' kS ≠ none → G i kvs (upd H' kS (.lst ys))) (gd : ∀ kvs H', G its.length kvs H' → DpAll X.K H' kvs kz)
    (turn : ∀ i x k u s' H' kvs, xs[i]? = some x → kz[i]? = some k → RelV x u → Inv X pins σ H' s' → G i kvs H' → wpAny (model X.prog X.w) A (call f [u])
      (fun r s'' => ∃ H'' kv, RelV kv r ∧ Inv X pins σ H'' s'' ∧ G (i + 1) (kvs ++ [kv]) H'' ∧ ∀ b o, b = a ∨ b = kS → H' b = some o → H'' b = some o) (fun _ _ => False) s')
    (h : ∀ H' s' kvs, G its.length kvs H' → H' kS ≠ none → H' a ≠ none → Inv X pins σ (upd (upd H' kS (.lst [])) a (.lst (kSort kz xs))) s' → P (.done (.ret .none)) s') :
    wpAny (model X.prog X.w) A (ksk_rest a f false its.toArray e1 (.ref kS)) P E s := by
  unfold ksk_rest
  refine wpAny_bind (wpAny_rule ?_)
  first
    | rw [List.forIn_toArray]
    | (rw [← Array.forIn_toList]; simp only [List.toList_toArray])
    | rw [← Array.forIn_toList]
  refine wpAny_bind (ksk_fold (fun i s' => ∃ H' kvs, Inv X pins σ H' s' ∧ G i kvs H' ∧ kvs.length = i ∧ H' a = some (.frz (seqObj "list" #[] e1) (.lst [])) ∧ H' kS = some (.lst kvs)) its 0 s
    ⟨H, [], I, g0, rfl, ha, hk'⟩ ?step ?done)
  case step =>
    rintro j v s' hx ⟨H', kvs, I', g', l', a', k'⟩
    simp only [Nat.zero_add] at k' g' l' ⊢
    have hj : j < its.length := (List.getElem?_eq_some_iff.mp hx).1
    obtain ⟨k, hkj⟩ : ∃ k, kz[j]? = some k := ⟨_, List.getElem?_eq_getElem (by omega)⟩
    have hjx : j < xs.length := by rw [hv.length]; exact hj
    have hxj : xs[j]? = some xs[j] := List.getElem?_eq_getElem hjx
    obtain ⟨v2, hv2, rv⟩ := hv.get hxj
    rw [hx] at hv2
    cases hv2
    refine wpAny_bind (wpAny_attempt (wpAny_mono (turn j xs[j] k v s' H' kvs hxj hkj rv I' g') (fun r s'' he => ?_) fun _ _ hF => hF.elim))
    obtain ⟨H'', kv, rk, I2, g2, fr⟩ := he
    try dsimp only
    have a2 := fr a _ (.inl rfl) a'
    have k2 := fr kS _ (.inr rfl) k'
    obtain ⟨zz, its2, n2, v2, e2⟩ := (show ObjOk X.prog X.w H'' s''.heap kS (.lst kvs) from I2.hok kS _ k2)
    have l2 : its2.length ≤ its.length := by
      have := v2.length
      omega
    have I3 := I2.lset (t' := s''.toks) (l := kS) (ys := kvs ++ [kv]) (its := its2) (its' := its2 ++ [r]) (f := (·.push r)) k2 e2 (by simp) (v2.append (.cons rk .nil)) (by rw [List.length_append, List.length_singleton]; omega)
    refine wpAny_bind (listUpdate_at e2 rfl ?_ (by rw [List.size_toArray]; omega) (by rw [Array.size_push, List.size_toArray]; omega))
    refine wpAny_pure ⟨rfl, _, _, I3, gu _ _ _ _ g2 (by rw [k2]; exact fun z => nomatch z), by rw [List.length_append, l']; rfl, by rw [upd_ne hka.symm]; exact a2, upd_same⟩
  case done =>
    rintro s' ⟨H', kvs, I', g', l', a', k'⟩
    rw [Nat.zero_add] at l' g'
    obtain ⟨zz, its2, n2, v2, e2⟩ := (show ObjOk X.prog X.w H' s'.heap kS (.lst kvs) from I'.hok kS _ k')
    try dsimp only
    refine wpAny_bind (listItems_at e2 rfl ?_)
    have hk2 : PySem.W.EachIs (fun v k => ∃ as, Reads s'.heap v k as) its2.toArray.toList kz := by
      rw [List.toList_toArray]
      exact dpAll_each I' (gd _ _ g') v2
    have hsz : its2.toArray.size = its.length := by rw [List.size_toArray, ← v2.length, l']
    refine endK (κ := PySem.W.dataKind s'.heap kz) (ys := kSort kz xs) I' hka a' hn k' e2 (PySem.W.SortsAt.data (s := s') hk2 hal hsk hu) hsz hZ ?_ fun s2 I2 => h H' s2 kvs g' (by rw [k']; exact fun z => nomatch z) (by rw [a']; exact fun z => nomatch z) I2
    have lx : kz.length = xs.length := hlen.trans hv.length.symm
    have e0 : (xs.zip kz).map (fun p => p.2) = kz := List.map_snd_zip (by omega)
    have ko : PySem.W.KeyedOut false ((xs.zip kz).map fun p => p.2) its (PySem.W.sortVals (PySem.W.dataKind s'.heap kz) false its2.toArray.toList its) := by
      rw [e0]
      exact ⟨s'.heap, its2.toArray.toList, hal, rfl, hk2⟩
    exact each_vals (PySem.W.keyedOut_each (fun p => p.2) ko (vals_each hv lx))
/-- list.sort(key=f) of a tracked list -/
theorem sortK {n : Nat} (G : Addr → Nat → List V → Hp → Prop) (I : Inv X pins σ H s) (ha : H a = some (.lst xs)) (ho : s.heap.get? a = some (seqObj "list" its.toArray n))
    (hv : Vals xs its) (hlen : kz.length = its.length) (sz : its.length ≤ sizeLine) (hal : PySem.W.AllAlike kz) (hsk : PySem.W.Sortable kz) (hu : ∀ d, d ∈ kz → A.units + d.depth < cLine)
    (g0 : ∀ kS H', kS ≠ a → H kS = none → (∀ b, b ≠ a → b ≠ kS → H' b = H b) → H' a ≠ none → H' kS ≠ none → G kS 0 [] H')
    (gu : ∀ kS i kvs H' ys, G kS i kvs H' → H' kS ≠ none → G kS i kvs (upd H' kS (.lst ys))) (gd : ∀ kS kvs H', G kS its.length kvs H' → DpAll X.K H' kvs kz)
    (turn : ∀ kS i x k u s' H' kvs, xs[i]? = some x → kz[i]? = some k → RelV x u → Inv X pins σ H' s' → G kS i kvs H' → wpAny (model X.prog X.w) A (call f [u])
      (fun r s'' => ∃ H'' kv, RelV kv r ∧ Inv X pins σ H'' s'' ∧ G kS (i + 1) (kvs ++ [kv]) H'' ∧ ∀ b o, b = a ∨ b = kS → H' b = some o → H'' b = some o) (fun _ _ => False) s')
    (h : ∀ kS H' s' kvs, G kS its.length kvs H' → kS ≠ a → H' kS ≠ none → H' a ≠ none → Inv X pins σ (upd (upd H' kS (.lst [])) a (.lst (kSort kz xs))) s' → P (.done (.ret .none)) s') :
    wpAny (model X.prog X.w) A (ksk_tree a f false) P E s := by
  have I1 := I.lset (t' := s.toks) (l := a) (ys := []) (its := its) (its' := []) (f := fun _ => (#[] : Array Value)) ha ho rfl .nil (Nat.zero_le _)
  obtain ⟨e1, ho1⟩ : ∃ e1, (s.heap.update a (Obj.mapSeq fun _ => (#[] : Array Value))).get? a = some (seqObj "list" #[] e1) := ⟨_, get?_update_seq ho fun _ => #[]⟩
  have hn := I1.nofrz (d := a) upd_same True.intro
  obtain ⟨od, I2⟩ := I1.lock (d := a) upd_same True.intro
  rw [upd_upd] at I2
  have eod : od = seqObj "list" #[] e1 := by
    have := (show ObjOk X.prog X.w _ _ a (.frz od (.lst [])) from I2.hok a _ upd_same).1
    have z : (s.heap.update a (Obj.mapSeq fun _ => (#[] : Array Value))).get? a = some od := this
    rw [ho1] at z
    exact (Option.some.inj z).symm
  subst eod
  unfold ksk_tree
  refine wpAny_bind (listItems_at ho rfl ?_)
  refine wpAny_bind (listUpdate_at ho rfl ?_ (by rw [List.size_toArray]; exact sz) (Nat.zero_le _))
  refine wpAny_bind (seqEpoch_at ho1 rfl ?_)
  refine wpAny_bind (wpAny_newTuple ?_ (by simpa using sz))
  have I3 : Inv X pins σ (upd H a (.frz (seqObj "list" #[] e1) (.lst []))) { s with heap := (s.heap.update a (Obj.mapSeq fun _ => (#[] : Array Value))).push (seqObj "tuple" its.toArray 0) } := I2.kept (t' := s.toks) fun b o e => Heap.get?_push_of_some _ e
  refine wpAny_bind (wpAny_newList ?_ (Nat.zero_le _))
  refine wpAny_holding ?_
  generalize hkS : ((s.heap.update a (Obj.mapSeq fun _ => (#[] : Array Value))).push (seqObj "tuple" its.toArray 0)).objs.size = kS
  have I4 := I3.lnew (its := []) (ys := []) (t' := s.toks) .nil (Nat.zero_le _)
  have kn : upd H a (.frz (seqObj "list" #[] e1) (.lst [])) kS = none := I3.hok.fresh (Nat.le_of_eq hkS)
  have hka : kS ≠ a := fun z => by
    rw [z, upd_same] at kn
    cases kn
  rw [upd_ne hka] at kn
  have I4 : Inv X pins σ (upd (upd H a (.frz (seqObj "list" #[] e1) (.lst []))) kS (.lst [])) { s with heap := ((s.heap.update a (Obj.mapSeq fun _ => (#[] : Array Value))).push (seqObj "tuple" its.toArray 0)).push (seqObj "list" #[] 0) } := by
    rw [← hkS]
    exact I4
  refine restK (fun i kvs H' => G kS i kvs H') I4 hka (by rw [upd_ne hka.symm, upd_same]) hn upd_same hv hlen sz hal hsk hu (g0 kS _ hka kn (fun b h1 h2 => by rw [upd_ne h2, upd_ne h1]) (by rw [upd_ne hka.symm, upd_same]; exact fun z => nomatch z) (by rw [upd_same]; exact fun z => nomatch z)) (gu kS) (gd kS) (turn kS) fun H' s' kvs gg kk aa II => h kS H' s' kvs gg hka kk aa II
end
/-- sorted(v, key=f), v's items are xs -/
theorem call_sortedK {X : Cx} {pins : List (Addr × Obj)} {σ : L2.St} {A : Around} {E : Value → Shared → Prop} {v f : Value} {xs : List V} {kz : List PyData} {H : Hp} {s : Shared} {Q : Value → Shared → Prop} {kw : List (Str × Value)} (G : Addr → Addr → Nat → List V → Hp → Prop)
    (hcol : ∀ {Qc : List Value → Shared → Prop}, (∀ its s', Vals xs its → Inv X pins σ H s' → Qc its s') → wpAny (model X.prog X.w) A.in1 (collect v) Qc E s) (hlen : kz.length = xs.length) (sz : xs.length ≤ sizeLine) (hal : PySem.W.AllAlike kz) (hsk : PySem.W.Sortable kz) (hu : ∀ d, d ∈ kz → A.in1.in1.units + d.depth < cLine)
    (ha1 : argsOk "sorted" ⟨[v], kw⟩) (ha2 : ∀ x, argsOk "list.sort" ⟨[.ref x], kw⟩) (ht : ∀ x, Builtin.«list.sort» ⟨[.ref x], kw⟩ = ksk_tree x f false)
    (g0 : ∀ a kS H', kS ≠ a → H a = none → H kS = none → (∀ b, b ≠ a → b ≠ kS → H' b = H b) → H' a ≠ none → H' kS ≠ none → G a kS 0 [] H')
    (gu : ∀ a kS i kvs H' ys, G a kS i kvs H' → H' kS ≠ none → G a kS i kvs (upd H' kS (.lst ys))) (gd : ∀ a kS kvs H', G a kS xs.length kvs H' → DpAll X.K H' kvs kz)
    (turn : ∀ a kS i x k u s' H' kvs, xs[i]? = some x → kz[i]? = some k → RelV x u → Inv X pins σ H' s' → G a kS i kvs H' → wpAny (model X.prog X.w) A.in1.in1 (call f [u])
      (fun r s'' => ∃ H'' kv, RelV kv r ∧ Inv X pins σ H'' s'' ∧ G a kS (i + 1) (kvs ++ [kv]) H'' ∧ ∀ b o, b = a ∨ b = kS → H' b = some o → H'' b = some o) (fun _ _ => False) s')
    (h : ∀ a kS H' s' kvs, G a kS xs.length kvs H' → kS ≠ a → H' kS ≠ none → H' a ≠ none → Inv X pins σ (upd (upd H' kS (.lst [])) a (.lst (kSort kz xs))) s' → Q (.ref a) s') :
    wpAny (model X.prog X.w) A (call (.builtin "sorted") [v] kw) Q E s := by
  refine call_function_entry_kw kind_sorted plain_sorted entry_sorted ha1 ?_
  unfold Builtin.«sorted»
  refine wpAny_bind (m := checkCount "sorted" 1 1 _) (wpAny_pure ?_)
  refine wpAny_bind (hcol fun its s0 hv I => ?_)
  have hlv := hv.length
  have hz : its.length ≤ sizeLine := by omega
  refine wpAny_bind (wpAny_newList ?_ hz)
  have an : H s0.heap.objs.size = none := I.hok.fresh (Nat.le_refl _)
  have I2 := I.lnew (its := its) (ys := xs) (t' := s0.toks) hv (by omega)
  have hoL : (s0.heap.push (seqObj "list" its.toArray 0)).get? s0.heap.objs.size = some (seqObj "list" its.toArray 0) := Heap.get?_push_size _ rfl
  refine wpAny_bind (wpAny_holding (wpAny_call_entry_kw slot_list_sort ⟨_, hoL, rfl⟩ entry_list_sort ?body (ha2 _)))
  case body =>
    have ht' := ht s0.heap.objs.size
    show wpAny (model X.prog X.w) A.in1.in1 (Builtin.«list.sort» ⟨[.ref s0.heap.objs.size], kw⟩) _ _ _
    rw [ht']
    refine sortK (a := s0.heap.objs.size) (kz := kz) (G s0.heap.objs.size) I2 upd_same hoL hv (by omega) (by omega) hal hsk hu (fun kS H' n1 n2 h1 h2 h3 => ?_) (gu _) (fun kS kvs H' g => gd _ _ _ _ (by rw [hlv]; exact g)) (turn _) fun kS H' s' kvs gg n1 n2 n3 II => ?_
    · rw [upd_ne n1] at n2
      exact g0 _ kS H' n1 an n2 (fun b b1 b2 => by rw [h1 b b1 b2, upd_ne b1]) h2 h3
    · refine ⟨_, rfl, wpAny_pure ⟨_, rfl, ?_⟩⟩
      exact h _ kS H' s' kvs (by rw [hlv]; exact gg) n1 n2 n3 II
/-- the items of a list -/
theorem col_list {X : Cx} {pins : List (Addr × Obj)} {σ : L2.St} {A : Around} {E : Value → Shared → Prop} {l : Addr} {xs : List V} {H : Hp} {s : Shared} (I : Inv X pins σ H s) (hl : SqL X.K H l xs) {Qc : List Value → Shared → Prop} (h : ∀ its s', Vals xs its → Inv X pins σ H s' → Qc its s') : wpAny (model X.prog X.w) A (collect (.ref l)) Qc E s := by
  obtain ⟨its, hv, pl, hz⟩ := I.list hl
  have hlv := hv.length
  refine collect_list pl.isList ?_ (by omega)
  refine h _ _ hv ?_
  exact I.kept (t' := s.toks) fun b o q => by
    have hlt : b < s.heap.objs.size := Heap.lt_size q
    rw [Heap.get?_update_ne _ _ _ _ (Nat.ne_of_lt hlt), Heap.get?_push_ne _ _ _ (Nat.ne_of_lt hlt)]
    exact q
/-- the items of a range -/
theorem col_range {X : Cx} {pins : List (Addr × Obj)} {σ : L2.St} {A : Around} {E : Value → Shared → Prop} {r : Addr} {a b : Int} {t u w : Tok} {H : Hp} {s : Shared} (I : Inv X pins σ H s) (hh : A.handled = none) (hr : IsRange s.heap r a b 1 t u w) (ok : RgOk a b) {Qc : List Value → Shared → Prop} (h : ∀ its s', Vals (rgV a b) its → Inv X pins σ H s' → Qc its s') : wpAny (model X.prog X.w) A (collect (.ref r)) Qc E s := by
  obtain ⟨b1, b2, b3, b4, b5⟩ := ok
  exact collect_range hh hr (small_one b1 b2 b3 b4) (rangeSize_nat a b) b5 fun h' tk acc hk hi => h _ _ (vals_rg hi) (I.kept (t' := tk) hk)
end Y
namespace Y
open PySem PySem.Spec PyProof.Rows L2 LamX

/-! ### a lambda of one parameter -/
/-- one parameter; captured names and globals -/
structure LamS1 (sc scope : Scope) (p : Str) : Prop where
  kind : scope.kind = .function
  co : scope.isCoroutine = false
  gen : scope.isGenerator = false
  own : ∀ y ∈ scope.names, (y.2 = .local → y.1 = p) ∧ y.2 ≠ .cell
  par : scope.names.lookup p = some .local
  free : ∀ y ∈ scope.names, y.2 = .free → sc.names.lookup y.1 = some .cell ∨ sc.names.lookup y.1 = some .free
theorem lamS1_by {sc scope : Scope} {p : Str} (h : lamSB1 sc scope p = true) : LamS1 sc scope p := by
  unfold lamSB1 at h
  simp only [Bool.and_eq_true, Bool.or_eq_true, Bool.not_eq_true', decide_eq_true_eq, decide_eq_false_iff_not, List.all_eq_true] at h
  obtain ⟨⟨⟨⟨h1, h2⟩, h3⟩, h4⟩, h5⟩ := h
  refine ⟨h1, h2, h3, fun y hy => ⟨fun e => (h5 y hy).1.1.resolve_left fun n => n e, (h5 y hy).1.2⟩, h4, fun y hy e => ?_⟩
  rcases (h5 y hy).2 with (z | z) | z
  · exact absurd e z
  · exact .inl z
  · exact .inr z
theorem LamS1.has {X : Cx} {scope : Scope} {p : Str} (L : LamS1 X.env.scope scope p) (ok : X.Ok) : ∀ y ∈ scope.names, y.2 = .free → ∃ c, X.env.cells.lookup y.1 = some c := fun y hy e => by
  rcases L.free y hy e with k | k
  · exact ok.has _ (.inl k)
  · exact ok.has _ (.inr k)
section
variable {X : Cx} {pins : List (Addr × Obj)} {σ : L2.St} {H HZ : Hp} {s s1 : Shared}
theorem lam_start1 {A : Around} {outer : List PySem.Env} {E : XK} {scope : Scope} {p : Str} {i : Nat} {v : V} {u : Value} {f c' : Addr} {h₁ : Heap} {tk : Nat} (I : Inv X pins σ H s) (L : LamS1 X.env.scope scope p) (hnd : X.N.Nodup) (hi : X.N[i]? = some p) (rv : RelV v u)
    (e0 : Env0 X.prog X.w X.K X.mg X.base A outer s1 HZ) (hd : A.handled = none)
    (un : Un (frs X.stack) [] H HZ s.heap s1.heap) (hns : h₁.Ns s1.heap.objs.size fun y => ([(p, u)] : List (Str × Value)).reverse.lookup y) (kp : ∀ b o, s1.heap.get? b = some o → h₁.get? b = some o) :
    Inv (lamCx X A outer s1 HZ E scope f c') [] (σ.set i (some v)) HZ { s1 with heap := h₁, toks := tk } := by
  have hfree := L.has I.ok
  have cm : ∀ {y c}, (cloFrom X.env.cells scope.names []).lookup y = some c → X.env.cells.lookup y = some c := fun {y c} e => by
    rcases cloFrom_mem (PySem.mem_of_lookup e) with hm | ⟨h1, h2⟩
    · cases hm
    · obtain ⟨c1, hc⟩ := hfree _ h1 rfl
      have hc : X.env.cells.lookup y = some c1 := hc
      have e2 : c = c1 := by
        rw [h2, hc] <;> rfl
      rw [e2]
      exact hc
  have look : ∀ {y}, scope.names.lookup y = some .free → ∃ c, (cloFrom X.env.cells scope.names []).lookup y = some c := fun {y} hl => by
    have hy : (y, NameKind.free) ∈ scope.names := PySem.mem_of_lookup hl
    exact mem_lookup (cloFrom_has (cells := X.env.cells) (acc := []) hy)
  have cellK : ∀ {c : Addr} {v : Option Value}, H c = none → s.heap.IsCell c v → h₁.IsCell c v := fun {c v} n ⟨o, ho, hd⟩ => by
    obtain ⟨sl, q⟩ := un.any ho n (by simp)
    exact ⟨_, kp _ _ q, hd⟩
  have noA : ∀ b : Addr, b ∉ (lamCx X A outer s1 HZ E scope f c').ex := fun b z => absurd (show b ∈ ([] : List Addr) from z) (by simp)
  refine ⟨⟨e0.mod, L.kind, rfl, rfl, Nat.le_refl _, fun y z c e1 e2 => I.ok.inj y z c (cm e1) (cm e2), fun y hy => ?_, fun y c z _ => ?_, fun _ => hd, Around.frames_deeper e0.frames, .inr ⟨rfl, rfl⟩, fun b z => absurd z (noA b), e0.bs, e0.bsz, fun b _ _ => noA b,
      fun b z => absurd z (noA b), e0.funs, e0.frf⟩,
    rfl, e0.bare, Un.kept kp, ⟨_, hns, fun j y v' e1 e2 e3 => ?_⟩, fun y c e => ?_, e0.hok.fresh (Nat.le_refl _), fun y c e => ?_, fun q hq => absurd (show q ∈ ([] : List (Addr × Obj)) ++ [] from hq) (by simp), e0.hok.kept kp, by rw [List.length_set]; exact I.len⟩
  · have hy : scope.names.lookup y = some .cell ∨ scope.names.lookup y = some .free := hy
    rcases hy with hy | hy
    · exact absurd rfl (L.own _ (PySem.mem_of_lookup hy)).2
    · exact look hy
  · have z : false = true := z
    cases z
  · have e1 : X.N[j]? = some y := e1
    have e3 : Vis scope y := e3
    by_cases hy : y = p
    · subst hy
      have hj : j = i := by
        obtain ⟨l1, g1⟩ := List.getElem?_eq_some_iff.mp e1
        obtain ⟨l2, g2⟩ := List.getElem?_eq_some_iff.mp hi
        exact (List.getElem_inj hnd).mp (g1.trans g2.symm)
      subst hj
      have l1 := (List.getElem?_eq_some_iff.mp e2).1
      rw [List.length_set] at l1
      rw [List.getElem?_set_self l1] at e2
      cases e2
      exact ⟨u, rv, .inl ⟨L.par, by simp⟩⟩
    · have hj : j ≠ i := fun z => hy (by
        rw [z, hi] at e1
        exact (Option.some.inj e1).symm)
      rw [List.getElem?_set_ne (Ne.symm hj)] at e2
      rcases e3 with k | k | k
      · exact absurd ((L.own _ (PySem.mem_of_lookup k)).1 rfl) hy
      · exact absurd rfl (L.own _ (PySem.mem_of_lookup k)).2
      · obtain ⟨m, hn, hl⟩ := I.loc
        have hvis : Vis X.env.scope y := (L.free _ (PySem.mem_of_lookup k) rfl).elim (fun k => .inr (.inl k)) (fun k => .inr (.inr k))
        obtain ⟨w', r, q⟩ := hl j y v' e1 e2 hvis
        obtain ⟨c2, h2⟩ := look k
        refine ⟨w', r, .inr ⟨.inr k, c2, h2, ?_⟩⟩
        have c1 := cm h2
        rcases q with ⟨k', _⟩ | ⟨_, c3, e', z⟩
        · have k' : X.env.scope.names.lookup y = some .local := k'
          rcases L.free _ (PySem.mem_of_lookup k) rfl with k2 | k2 <;> rw [show X.env.scope.names.lookup y = _ from k2] at k' <;> cases k'
        · rw [c1] at e'
          cases e'
          exact cellK (I.freeC y _ c1) z
  · obtain ⟨w', z⟩ := I.cell y c (cm e)
    exact ⟨w', cellK (I.freeC y c (cm e)) z⟩
  · obtain ⟨v, o, ho, hd⟩ := I.cell y c (cm e)
    exact un.free c o ho (I.freeC y c (cm e)) (by simp)
/-- the lambda is made: its code object is new, or found in the table; what is new belongs to the tables -/
theorem lam_makeF {T : List (Addr × Str)} {G : Pm} {c P : Addr} {params : Arguments} {body : Expr} {scope : Scope} {pos : Pos} {E : Value → Shared → Prop} {Q : Value → Shared → Prop} (I : Inv X pins σ H s) (TB : TabB X.base X.mg c P) (hcode : X.env.code = .ref c)
    (hm : (P, X.env.qual ++ "<lambda>") ∈ T) (hu : ∀ p ∈ T, p.1 = P → p.2 = X.env.qual ++ "<lambda>") (hT : TabsF G H T) (hdef : defaultsOf params X.env = ([], [])) (hfree : ∀ y ∈ scope.names, y.2 = .free → ∃ c, X.env.cells.lookup y.1 = some c)
    (h : ∀ (f c' : Addr) (pm ctv : Value) (H1 : Hp) (s' : Shared) (G1 : Pm), Inv X pins σ H1 s' → (∀ b o, H b = some o → b ≠ P → H1 b = some o) → (∀ b, H b ≠ none → H1 b ≠ none) → G P → (∀ a, G a → G1 a) → (∀ a, G1 a → G a ∨ (H a = none ∧ H1 a ≠ none)) → TabsF G1 H1 T →
      s'.heap.get? f = some (PySem.W.kla_obj "<lambda>" (X.env.qual ++ "<lambda>") params body scope (cloFrom X.env.cells scope.names []) pm c' ctv) → H1 f = none → f ≠ X.env.locals → f ∉ X.fs → H1 c' = some (CodeO c' (X.env.qual ++ "<lambda>")) → c' ≠ P → Q (.ref f) s') :
    wpAny (model X.prog X.w) X.A (eval (.Lambda params body scope pos) X.env) Q E s := by
  obtain ⟨ps, hP, gP, ht, ha⟩ := hT _ hm
  refine PySem.W.kla_eval hdef ?_
  have bP : s.heap.BuiltinsAt X.mg P := TB.bm.keeps I.bk
  have hP' : s.heap.get? P = some { cls := .none, data := .fields ps } := I.hok P _ hP
  have nofr : ∀ f, s.heap.objs.size ≤ f → f ≠ X.env.locals := fun f hf z => by
    have h1 := I.lt
    rw [← z] at h1
    exact Nat.lt_irrefl _ (Nat.lt_of_lt_of_le h1 hf)
  have cP : ∀ {b : Addr} {q : Str}, H b = some (CodeO b q) → b ≠ P := fun {b q} e z => by
    rw [z, hP] at e
    exact codeO_ne ps (Option.some.inj e).symm
  cases hc : codeAmong pos ps.toList with
  | none =>
    refine PySem.W.kla_makeFunction (mg := X.mg) (c := c) (P := P) (ps := ps) (closure_ok hfree) I.ok.glob (I.mod.glob.keeps I.bk) hcode (TB.code.keeps I.bk) hP' ht hc TB.gP bP fun c' ctv h' tk hx hge hlt hrec htb => ?_
    obtain ⟨c2, oc, vs, t, e2, hoc, hd, hv⟩ := hrec
    cases e2
    have hsz : s.heap.objs.size ≤ h'.objs.size := Nat.le_trans hge (Nat.le_of_lt hlt)
    have nC : H c' = none := I.hok.fresh hge
    have I1 := inv_table (t' := tk) (more := #[rawInt pos.line, rawInt pos.col, .ref c']) (h' := h'.push (PySem.W.kla_obj "<lambda>" (X.env.qual ++ "<lambda>") params body scope (cloFrom X.env.cells scope.names []) ((X.mg "__name__").getD .none) c' ctv)) I hP
      (fun b o hb e => Heap.get?_push_of_some _ (hx b o hb e)) (Heap.get?_push_of_some _ htb) hge ⟨oc, vs, t, Heap.get?_push_of_some _ hoc, hd, hv⟩
    have hE : ∀ b o, H b = some o → b ≠ P → (upd (upd H P (.tbl (ps ++ #[rawInt pos.line, rawInt pos.col, .ref c']))) c' (CodeO c' (X.env.qual ++ "<lambda>"))) b = some o := fun b o e n => by
      rw [upd_ne (ne_of_none e nC), upd_ne n]
      exact e
    have eL : (ps ++ #[rawInt pos.line, rawInt pos.col, .ref c']).toList = ps.toList ++ [rawInt pos.line, rawInt pos.col, .ref c'] := by simp
    refine h h'.objs.size c' ((X.mg "__name__").getD .none) ctv _ _ (fun a => G a ∨ a = c') I1 hE (fun b z => ?_) gP (fun a z => .inl z) (fun a z => ?_) (fun p hp => ?_) (Heap.get?_push_size _ rfl) ?_ (nofr _ hsz) (I.nofs hsz) upd_same (ne_of_none hP nC).symm
    · obtain ⟨o, e⟩ := ne_some z
      rw [upd_ne (ne_of_none e nC)]
      by_cases hb : b = P
      · rw [hb, upd_same]
        exact fun z => nomatch z
      · rw [upd_ne hb]
        exact z
    · rcases z with z | rfl
      · exact .inl z
      · exact .inr ⟨nC, by rw [upd_same]; exact fun z => nomatch z⟩
    · by_cases hb : p.1 = P
      · rw [hu p hp hb, hb]
        refine ⟨_, by rw [upd_ne (ne_of_none hP nC), upd_same], .inl gP, by rw [eL]; exact PySem.TriplesOk_snoc _ _ _ _ ht, fun p' cv hcv => ?_⟩
        rw [eL] at hcv
        rcases among_app _ ht hcv with z | z
        · obtain ⟨c0, e1, e2, e3⟩ := ha p' cv z
          exact ⟨c0, e1, hE _ _ e2 (cP e2), .inl e3⟩
        · exact ⟨c', z, upd_same, .inr rfl⟩
      · obtain ⟨ps', a1, a2, a3, a4⟩ := hT p hp
        refine ⟨ps', by rw [upd_ne (ne_of_none a1 nC), upd_ne hb]; exact a1, .inl a2, a3, fun p' cv hcv => ?_⟩
        obtain ⟨c0, e1, e2, e3⟩ := a4 p' cv hcv
        exact ⟨c0, e1, hE _ _ e2 (cP e2), .inl e3⟩
    · have n1 : h'.objs.size ≠ c' := Nat.ne_of_gt hlt
      have n2 : h'.objs.size ≠ P := Nat.ne_of_gt (Nat.lt_of_lt_of_le (Heap.lt_size hP') hsz)
      rw [upd_ne n1, upd_ne n2]
      exact I.hok.fresh hsz
  | some cv =>
    obtain ⟨c', e, hco, _⟩ := ha pos cv hc
    subst e
    refine PySem.W.kla_makeFunctionHit (mg := X.mg) (c := c) (P := P) (ps := ps) (closure_ok hfree) I.ok.glob (I.mod.glob.keeps I.bk) hcode (TB.code.keeps I.bk) hP' ht hc bP fun ctv h' tk hx hsz => ?_
    have I1 : Inv X pins σ H { s with heap := h'.push (PySem.W.kla_obj "<lambda>" (X.env.qual ++ "<lambda>") params body scope (cloFrom X.env.cells scope.names []) ((X.mg "__name__").getD .none) c' ctv), toks := tk } := I.kept fun b o e => Heap.get?_push_of_some _ (hx b o e)
    exact h h'.objs.size c' ((X.mg "__name__").getD .none) ctv H _ G I1 (fun b o e _ => e) (fun b z => z) gP (fun a z => z) (fun a z => .inl z) hT (Heap.get?_push_size _ rfl) (I.hok.fresh hsz) (nofr _ hsz) (I.nofs hsz) hco (cP hco)
/-- the lambda is called with u -/
theorem lam_call1 {A : Around} {scope : Scope} {params : Arguments} {body : Expr} {p : Str} {i k : Nat} {v : V} {u : Value} {f c' : Addr} {pm ctv : Value} {t : TE} {Q : VK} (I : Inv X pins σ H s) (L : LamS1 X.env.scope scope p) (hnd : X.N.Nodup) (hi : X.N[i]? = some p) (rv : RelV v u)
    (hf : s.heap.get? f = some (PySem.W.kla_obj "<lambda>" (X.env.qual ++ "<lambda>") params body scope (cloFrom X.env.cells scope.names []) pm c' ctv)) (hco : H c' = some (CodeO c' (X.env.qual ++ "<lambda>")))
    (hbind : bindArgs (PySem.W.kla_fn "<lambda>" (X.env.qual ++ "<lambda>") params body scope (cloFrom X.env.cells scope.names []) pm (.ref c') ctv) ⟨[u], []⟩ = pure [(p, u)])
    (hr : Room (k + 1) A) (hfr : A.frames = some X.stack)
    (hbody : Room k (A.deeper (lamEnv X scope s.heap.objs.size f c')) → PE (lamCx X A X.stack s H C8.E0 scope f c').nox body t) (ht : t (σ.set i (some v)) H Q) :
    wpAny (model X.prog X.w) A (call (.ref f) [u]) (fun r s' => EP X pins σ Q r s') (fun _ _ => False) s := by
  have e0 : Env0 X.prog X.w X.K X.mg X.base A X.stack s H := ⟨hfr, I.env0.mod, I.env0.bs, I.env0.bsz, I.env0.funs, I.env0.frf, I.env0.hok, I.env0.bare⟩
  have un : Un (frs X.stack) [] H H s.heap s.heap := Un.kept fun _ _ e => e
  obtain ⟨⟨oc, vs, t2, hoc, hdc, hvc⟩, _, _⟩ := I.hok c' _ hco
  have rc : codeAny (model X.prog X.w) A (.call (.ref f) ⟨[u], []⟩) (fun r s' => match r with | .ok (.ret w) => CE X.stack X.prog X.w H s Q w s' | .ok _ => False | .error _ => False) s := by
    refine PySem.W.kla_callFunE hr.depth hf rfl L.co L.gen rfl ⟨c', oc, vs, t2, rfl, hoc, hdc, hvc⟩ ?_
    rw [hbind]
    refine wpAny_pure (wpAny_newFunctionEnv (fun y hy => (L.own y hy).2) (fun y hy => ?_) (fun h₁ hns hsb => ⟨I.nolimit.fresh _ hsb, ?_⟩) L.kind)
    · rw [List.mem_singleton] at hy
      rw [hy]
      exact L.par
    show codeAny _ _ (.expr body (lamEnv X scope s.heap.objs.size f c')) _ _
    have kp : ∀ b o, s.heap.get? b = some o → h₁.get? b = some o := fun b o e => hsb.extBut b o (Nat.ne_of_lt (Heap.lt_size e)) (Heap.get?_push_of_some _ e)
    have J : Inv (lamCx X A X.stack s H C8.E0 scope f c') [] (σ.set i (some v)) H { s with heap := h₁, toks := s.toks + ([(p, u)] : List (Str × Value)).length } :=
      lam_start1 I L hnd hi rv e0 hr.hd un hns kp
    refine PySem.W.kla_codeExpr (wpAny_mono ((hbody (hr.deeper _)).run [] _ _ H Q (J.wish _) ht) (fun v s' hq => ?_) fun e s' hq => False.elim hq)
    obtain ⟨w', H', J', rv, q⟩ := hq
    have J' := J'.unwish
    exact ⟨w', H', J'.os, J'.bare, J'.base, J'.hok, rv, q⟩
  refine wpAny_call (codeAny_mono rc fun r s' hq => ?_)
  cases r with
  | error e => exact hq
  | ok fl =>
    cases fl with
    | ret u => exact I.after hq
    | next => exact False.elim hq
    | brk => exact False.elim hq
    | cont => exact False.elim hq
end
theorem XOk.lamX {T : List FSpec} {ct : Ct} {Z : SC} {k : Nat} {X : Cx} (hX : XOk T ct Z k X) {A : Around} {scope : Scope} {s : Shared} {H : Hp} {f c' : Addr} (hr : Room k (A.deeper (lamEnv X scope s.heap.objs.size f c'))) (hg : A.guards = some []) (hk : scope.kind = .function) :
    XOk T ct (Z.lam scope) k (lamCx X A X.stack s H C8.E0 scope f c').nox :=
  ⟨hX.N, hX.nd, rfl, rfl, rfl, hr, hg, hX.free, hX.fns, hX.cls, hX.gis, rfl, hk, fun z => absurd rfl z⟩
end Y
namespace Y
open PySem PySem.Spec PyProof.Rows L2 LamX

/-! ### sorted by a lambda -/
theorem bind1 {nm qn : Str} {p : Str} {pp : Pos} {lb : Expr} {scope : Scope} {cl : List (Str × Addr)} {pm cv ctv u : Value} : bindArgs (PySem.W.kla_fn nm qn ⟨[], [⟨p, none, pp⟩], none, [], [], none, []⟩ lb scope cl pm cv ctv) ⟨[u], []⟩ = pure [(p, u)] := by
  have e : (p == p) = true := beq_self_eq_true p
  have l : List.lookup p [(p, u)] = some u := by simp [List.lookup, e]
  have s0 : seqItems? Value.none = pure none := rfl
  unfold bindArgs PySem.W.kla_fn
  simp [s0, l, List.lookup, e]
theorem backE_self {ρ : Env} {i : Nat} : backE ρ ρ [i] = ρ := by
  show ρ.set i (ρ.at i) = ρ
  unfold Env.at
  cases e : ρ[i]? with
  | none =>
    have : ρ.length ≤ i := by simpa using e
    exact List.set_eq_of_length_le this
  | some x =>
    show ρ.set i x = ρ
    obtain ⟨h, rfl⟩ := List.getElem?_eq_some_iff.mp e
    exact List.set_getElem_self h
def Ft (F : Sl → Pm) (G : Pm) : Sl → Pm
  | none => G
  | some i => F (some i)
section
variable {K : PySem.W.Frag} {ct : Ct} {pins : List (Nat × V)} {S H H1 S1 H2 : Hp} {σ : L2.St} {ρ : Env} {F : Sl → Pm} {P P2 G1 : Pm} {b0 D' : Addr} {o : HO}
theorem Sta.tabs (I : Sta K ct pins S H σ ρ F) (e1 : ∀ b o, H b = some o → b ≠ b0 → H1 b = some o) (e2 : ∀ b, H b ≠ none → H1 b ≠ none) (gP : F none b0) (g2 : ∀ a, G1 a → F none a ∨ (H a = none ∧ H1 a ≠ none)) (tb : TabsF G1 H1 ct.tabs) : Sta K ct pins S H1 σ ρ (Ft F G1) := by
  refine ⟨fun a o h => ?_, I.len, fun i m d e => ?_, fun i j a h1 h2 => ?_, fun i a h => ?_, I.pin, tb⟩
  · refine e1 a o (I.sub a o h) fun z => ?_
    rw [z, (I.off none b0 gP).1] at h
    cases h
  · obtain ⟨v, q1, q2⟩ := I.sl i m d e
    refine ⟨v, q1, q2.mono (Same.refl _) fun a z => ?_⟩
    obtain ⟨o, h⟩ := ne_some (I.off (some i) a z).2
    rw [h]
    exact e1 a o h fun y => nomatch I.dj (some i) none a z (by rw [y]; exact gP)
  · cases i with
    | none =>
      cases j with
      | none => rfl
      | some j =>
        rcases g2 a h1 with z | z
        · exact I.dj none (some j) a z h2
        · exact absurd z.1 (I.off (some j) a h2).2
    | some i =>
      cases j with
      | none =>
        rcases g2 a h2 with z | z
        · exact I.dj (some i) none a h1 z
        · exact absurd z.1 (I.off (some i) a h1).2
      | some j => exact I.dj (some i) (some j) a h1 h2
  · cases i with
    | none =>
      rcases g2 a h with z | z
      · exact ⟨(I.off none a z).1, e2 a (I.off none a z).2⟩
      · exact ⟨I.sub.free z.1, z.2⟩
    | some i => exact ⟨(I.off (some i) a h).1, e2 a (I.off (some i) a h).2⟩
theorem Tr.tabs {ps : Array Value} (e1 : ∀ b o, H b = some o → b ≠ b0 → H1 b = some o) (e2 : ∀ b, H b ≠ none → H1 b ≠ none) (hP : H b0 = some (.tbl ps)) (gP : F none b0) (g2 : ∀ a, G1 a → F none a ∨ (H a = none ∧ H1 a ≠ none)) : Tr (Pt F) S H S H1 (Pt (Ft F G1)) := by
  refine ⟨Same.refl _, fun a o h n => e1 a o h fun z => n (by rw [z]; exact ⟨none, gP⟩), fun a z => .inl z, fun a z => ?_, e2, fun a q h => e1 a _ h fun z => ?_⟩
  · obtain ⟨i, z⟩ := z
    cases i with
    | none =>
      rcases g2 a z with y | y
      · exact .inr ⟨none, y⟩
      · exact .inl y.1
    | some i => exact .inr ⟨some i, z⟩
  · rw [z, hP] at h
    exact codeO_ne ps (Option.some.inj h).symm
theorem Tr.updN (t : Tr P S1 H1 S H P2) (hn : H1 D' = none) : Tr P S1 H1 S (L2.upd H D' o) P2 :=
  ⟨t.ss, fun a u h n => by rw [upd_ne (ne_of_none h hn)]; exact t.keep a u h n, t.news, t.newp, fun a z => upd_there (t.there a z), fun a q h => by rw [upd_ne (ne_of_none h hn)]; exact t.code a q h⟩
end
theorem Reps.of_zip {K : PySem.W.Frag} {ct : Ct} {S : Hp} : ∀ {ps : List (D × V)}, (∀ p ∈ ps, Rep K ct S p.1 p.2) → Reps K ct S (ps.map (·.1)) (ps.map (·.2))
  | [], _ => rfl
  | p :: ps, h => Reps.cons (h p List.mem_cons_self) (Reps.of_zip fun q hq => h q (List.mem_cons_of_mem _ hq))
theorem Reps.zip {K : PySem.W.Frag} {ct : Ct} {S : Hp} : ∀ {ds : List D} {vs : List V}, Reps K ct S ds vs → ∀ p ∈ ds.zip vs, Rep K ct S p.1 p.2
  | [], vs, h, p, hp => by simp at hp
  | d :: ds, vs, h, p, hp => by
    unfold Reps at h
    obtain ⟨v, r, rfl, e2, e3⟩ := h
    rw [List.zip_cons_cons] at hp
    rcases List.mem_cons.mp hp with rfl | hp
    · exact e2
    · exact Reps.zip e3 p hp
/-- values that are sorted by the keys stand for the data that are -/
theorem Reps.ksort {K : PySem.W.Frag} {ct : Ct} {S : Hp} {ds : List D} {vs : List V} (key : D → PyData) (h : Reps K ct S ds vs) : Reps K ct S (ds.mergeSort (PySem.W.dataLe false key)) (kSort (ds.map key) vs) := by
  have hl := h.length
  have e1 : ds.mergeSort (PySem.W.dataLe false key) = ((ds.zip vs).mergeSort (PySem.W.dataLe false fun p => key p.1)).map (·.1) := by
    have := List.map_mergeSort (r := PySem.W.dataLe false fun p : D × V => key p.1) (s := PySem.W.dataLe false key) (f := fun p : D × V => p.1) (l := ds.zip vs) fun _ _ _ _ => rfl
    rw [this, List.map_fst_zip (by omega)]
  have e2 : kSort (ds.map key) vs = ((ds.zip vs).mergeSort (PySem.W.dataLe false fun p => key p.1)).map (·.2) := by
    have hz : vs.zip (ds.map key) = (ds.zip vs).map fun p => (p.2, key p.1) := by
      clear e1 h
      induction ds generalizing vs with
      | nil => simp
      | cons d ds ih =>
        cases vs with
        | nil => simp at hl
        | cons v vs =>
          simp only [List.map_cons, List.zip_cons_cons, List.cons.injEq, true_and]
          exact ih (by simpa using hl)
    unfold kSort
    rw [hz]
    have := List.map_mergeSort (r := PySem.W.dataLe false fun p : D × V => key p.1) (s := PySem.W.dataLe false fun p : V × PyData => p.2) (f := fun p : D × V => (p.2, key p.1)) (l := ds.zip vs) fun _ _ _ _ => rfl
    rw [← this, List.map_map]
    rfl
  rw [e1, e2]
  refine Reps.of_zip fun p hp => h.zip p ?_
  exact (List.mergeSort_perm _ _).mem_iff.mp hp
theorem arePy_snoc : ∀ {ds : List D} {d : D}, D.arePy ds = true → d.isPy = true → D.arePy (ds ++ [d]) = true
  | [], d, _, h => by
    show D.arePy [d] = true
    unfold D.arePy
    rw [h]
    rfl
  | e :: ds, d, h, g => by
    show D.arePy (e :: (ds ++ [d])) = true
    unfold D.arePy at h ⊢
    rw [Bool.and_eq_true] at h ⊢
    exact ⟨h.1, arePy_snoc h.2 g⟩
theorem toPys_snoc : ∀ {ds : List D} {d : D}, D.toPys (ds ++ [d]) = D.toPys ds ++ [d.toPy]
  | [], d => rfl
  | e :: ds, d => by
    show e.toPy :: D.toPys (ds ++ [d]) = e.toPy :: D.toPys ds ++ [d.toPy]
    rw [toPys_snoc]
    rfl
section
variable {T : List FSpec} {ct : Ct} {pins : List (Nat × V)} {body : C}
theorem sort_call {X : Cx} {Z : SC} {k : Nat} (hX : XOk T ct Z k X) {i : Nat} {p : Str} {pp lp kp pos : Pos} {scope : Scope} {lb : Expr} (hb : EOk T ct pins body) (hl : Z.lamOk i p scope = true) (hm : mE (Z.lam scope) body lb = true)
    {pns0 pns : List (Addr × Obj)} (hsub : ∀ q ∈ pns0, q ∈ pns) {σ : L2.St} {s1 : Shared} {H1 S1 S0 H0 : Hp} {ρ1 : Env} {F1 : Sl → Pm} {P : Pm} {R : M → D → Env → Prop} {Q : VK} (I : Inv X pns σ H1 s1) (J : Sta X.K ct pins S1 H1 σ ρ1 F1) (t1 : Tr P S0 H0 S1 H1 (Pt F1)) (q : Wt X.K ct pins σ P S0 H0 R Q)
    {xs : List D} {vs : List V} (rx : Reps X.K ct S1 xs vs) {u : Value}
    (hcol : ∀ {pns' : List (Addr × Obj)} {S' H' : Hp} {s' : Shared} {E' : Value → Shared → Prop} {Qc : List Value → Shared → Prop}, (∀ q ∈ pns, q ∈ pns') → Same S1 S' → Same S' H' → Inv X pns' σ H' s' → (∀ its s'', Vals vs its → Inv X pns' σ H' s'' → Qc its s'') → wpAny (model X.prog X.w) X.A.in1 (collect u) Qc E' s')
    {key : D → PyData} (hpn : i ∉ pins.map (·.1)) (hs : srtD xs key) (hk : ∀ x ∈ xs, wE T (pins.map (·.1)) body (fun _ d ρ3 => d.isPy = true ∧ d.toPy = key x ∧ ρ3.set i none = ρ1.set i none) (ρ1.set i (some (.s, x)))) (hR : R (.o .s) (.lst (xs.mergeSort (PySem.W.dataLe false key))) ρ1) :
    wpAny (model X.prog X.w) X.A (evalAll ((backToKw pos (keywordEach [⟨some ("key" : Str), .Lambda ⟨[], [⟨p, none, pp⟩], none, [], [], none, []⟩ lb scope lp, kp⟩] X.env)).map (·.2))) (fun ws s2 => wpAny (model X.prog X.w) X.A (call (.builtin "sorted") [u] (([("key" : Str)]).zip ws)) (EP X pns0 σ Q) X.xe s2) X.xe s1 := by
  unfold SC.lamOk at hl
  simp only [Bool.and_eq_true, decide_eq_true_eq, Bool.not_eq_true', decide_eq_false_iff_not] at hl
  obtain ⟨⟨hi, hl⟩, hlr⟩ := hl
  obtain ⟨h4, c, P0, hcode, TB, hmem, huniq⟩ := hX.lam hlr
  have L : LamS1 X.env.scope scope p := by
    rw [hX.sc]
    exact lamS1_by hl
  have hi : X.N[i]? = some p := by rw [hX.N]; exact hi
  have hnd : X.N.Nodup := by rw [hX.N]; exact hX.nd
  have rm : Room (k + 2) X.A.in1.in1 := (Room.in1 (k := k + 2) (Room.in1 (k := k + 3) (hX.room0.mono (by omega))))
  obtain ⟨hs1, hs2, hs3, hs4⟩ := hs
  show wpAny _ _ (evalAll [do let v ← eval (.Lambda ⟨[], [⟨p, none, pp⟩], none, [], [], none, []⟩ lb scope lp) X.env; standAt pos; pure v]) _ _ s1
  refine wpAny_evalAll_cons (wpAny_bind (lam_makeF (T := ct.tabs) (G := F1 none) I TB hcode hmem huniq J.tb rfl (L.has I.ok) fun f c' pm ctv H2 s2 G2 I2 e1 e2 gP g1 g2 tb hf hfn hfl hfs hco ncP => wpAny_bind (wpAny_standAt (wpAny_pure (wpAny_evalAll_nil ?_)))))
  obtain ⟨ps, hP0, _, _⟩ := J.tb _ hmem
  have J2 := J.tabs e1 e2 gP g2 tb
  have t2 : Tr (Pt F1) S1 H1 S1 H2 (Pt (Ft F1 G2)) := Tr.tabs e1 e2 hP0 gP g2
  have T2 := t1.trans0 t2
  generalize Ft F1 G2 = F2 at J2 t2 T2
  have hv : ∀ v ∈ [i], v ∉ pins.map (·.1) := fun v hv => by
    rw [List.mem_singleton] at hv
    rw [hv]
    exact hpn
  have J2w := J2.wipe hv
  have kn : ∀ v, (PySem.W.kla_obj "<lambda>" (X.env.qual ++ "<lambda>") ⟨[], [⟨p, none, pp⟩], none, [], [], none, []⟩ lb scope (cloFrom X.env.cells scope.names []) pm c' ctv).data ≠ .cell v := fun v z => nomatch z
  have I3 : Inv X ((f, PySem.W.kla_obj "<lambda>" (X.env.qual ++ "<lambda>") ⟨[], [⟨p, none, pp⟩], none, [], [], none, []⟩ lb scope (cloFrom X.env.cells scope.names []) pm c' ctv) :: pns) σ H2 s2 := I2.pins_of fun q hq => by
    rcases List.mem_cons.mp hq with rfl | hq
    · exact ⟨hf, hfn, hfl, hfs, kn⟩
    · exact I2.pin q (List.mem_append_right _ hq)
  generalize hobj : PySem.W.kla_obj "<lambda>" (X.env.qual ++ "<lambda>") ⟨[], [⟨p, none, pp⟩], none, [], [], none, []⟩ lb scope (cloFrom X.env.cells scope.names []) pm c' ctv = ob at *
  have ek : (xs.map key).length = vs.length := by rw [List.length_map, rx.length]
  show wpAny _ _ (call (.builtin "sorted") [u] [(("key" : Str), Value.ref f)]) _ _ s2
  refine call_sortedK (A := X.A) (H := H2) (pins := (f, ob) :: pns) (σ := σ) (xs := vs) (kz := xs.map key) (kw := [(("key" : Str), Value.ref f)]) (f := .ref f)
    (fun a kS n kvs Hc => ∃ S F kds, Sta X.K ct pins S Hc (L2.wipe σ [i]) (wipeE ρ1 [i]) F ∧ Tr (Pt (Fw F2 [i])) S1 H2 S Hc (Pt F) ∧ (S a = none ∧ S kS = none ∧ H2 a = none ∧ H2 kS = none ∧ Hc a ≠ none ∧ Hc kS ≠ none) ∧ (∀ j, ¬ F j a ∧ ¬ F j kS) ∧ Hc c' = some (CodeO c' (X.env.qual ++ "<lambda>")) ∧ Reps X.K ct S kds kvs ∧ D.arePy kds = true ∧ D.toPys kds = (xs.map key).take n)
    (fun {Qc} hq => hcol (fun q hq => List.mem_cons_of_mem _ hq) (Same.refl _) J2.sub I3 hq) ek (by rw [← rx.length]; exact hs4) hs1 hs2 ?hu (ksk_s1 _ _) (fun _ => ksk_l1 _ _) (fun _ => ksk_t1 _ _) ?g0 ?gu ?gd ?turn ?fin
  case hu =>
    intro d hd
    obtain ⟨x, hx, rfl⟩ := List.mem_map.mp hd
    have := hs3 x hx
    have := hX.room0.un
    show X.A.units + 1 + 1 + (key x).depth < cLine
    omega
  case g0 =>
    intro a kS H' n1 n2 n3 h1 h2 h3
    have sm : Same H2 H' := fun b o hb => by
      rw [h1 b (ne_of_none hb n2) (ne_of_none hb n3)]
      exact hb
    refine ⟨S1, _, [], J2w.grow sm (Same.refl _) (J2w.sub.trans sm) (fun a z => .inl z), ?_, ⟨J2.sub.free n2, J2.sub.free n3, n2, n3, h2, h3⟩, fun j => ⟨fun z => (J2w.off j a z).2 n2, fun z => (J2w.off j kS z).2 n3⟩, sm _ _ hco, rfl, rfl, by rw [List.take_zero]; rfl⟩
    exact (Tr.grow (G := fun _ => False) sm (Same.refl _) (fun a z => .inl z) fun a z => z.elim).sub fun a z => .inr z
  case gu =>
    rintro a kS n kvs H' ys ⟨S, F, kds, g1, g2, ⟨g3, g4, g5, g6, g7, g8⟩, g9, g10, g11⟩ hk0
    refine ⟨S, F, kds, g1.upd g4 fun j => (g9 j).2, g2.updN g6, ⟨g3, g4, g5, g6, upd_there g7, upd_there g8⟩, g9, ?_, g11⟩
    rw [upd_ne fun z => by rw [z, g6] at hco; cases hco]
    exact g10
  case gd =>
    rintro a kS kvs H' ⟨S, F, kds, g1, g2, g3, g9, g10, g11, g12, g13⟩
    rw [← ek, List.take_length] at g13
    rw [← g13]
    exact g11.dp g1.sub g12
  case turn =>
    rintro a kS n x kd u s' H' kvs hx hkd ru I' ⟨S, F, kds, g1, g2, ⟨g3, g4, g5, g6, g7, g8⟩, g9, g10, g11, g12, g13⟩
    have hlen := rx.length
    have hn : n < xs.length := by
      rw [hlen]
      exact (List.getElem?_eq_some_iff.mp hx).1
    obtain ⟨dx, hdx, rdx⟩ := rx.get' hx
    have ekd : kd = key dx := by
      rw [List.getElem?_map, hdx] at hkd
      exact (Option.some.inj hkd).symm
    have hf' : s'.heap.get? f = some ob := (I'.pin (f, ob) (List.mem_append_right _ List.mem_cons_self)).1
    rw [← hobj] at hf'
    have il : i < σ.length := by
      rw [I'.len]
      exact (List.getElem?_eq_some_iff.mp hi).1
    have es : (L2.wipe σ [i]).set i (some x) = σ.set i (some x) := by
      show (σ.set i none).set i (some x) = _
      rw [List.set_set]
    have er : (wipeE ρ1 [i]).set i (some (M.s, dx)) = ρ1.set i (some (.s, dx)) := by
      show (ρ1.set i none).set i _ = _
      rw [List.set_set]
    have V1 : Vl X.K ct S H' F .s (fun _ => False) dx x := Vl.sh ((rdx.mono g2.ss))
    have g1s := g1.store V1 hpn
    rw [es, er] at g1s
    have ts : Tr (Pt F) S H' S H' (Pt (Fs F i fun _ => False)) := Tr.refl fun a z => by
      obtain ⟨j, ⟨_, y⟩ | ⟨_, y⟩⟩ := z
      · exact y.elim
      · exact ⟨j, y⟩
    refine wpAny_mono (lam_call1 (X := X) (A := X.A.in1.in1) (scope := scope) (body := lb) (p := p) (i := i) (k := k + 1) (v := x) (t := tE X.K ct T pins body) (Q := fun kv H'' => ∃ S' F' d', Sta X.K ct pins S' H'' (L2.wipe σ [i]) (wipeE ρ1 [i]) F' ∧ Tr (Pt F) S H' S' H'' (Pt F') ∧ Rep X.K ct S' d' kv ∧ d'.isPy = true ∧ d'.toPy = kd)
      I' L hnd hi ru hf' g10 bind1 rm (I'.env0.frames) (fun hr => hb (hX.lamX (hr.mono (Nat.le_succ _)) hX.gd L.kind) lb hm) ?_) (fun r s'' he => ?_) fun _ _ hF => hF
    · refine ⟨_, _, S, _, hk dx (List.mem_of_getElem? hdx), g1s, fun v' H'' S' ρ3 F3 m d G3 w3 I3 V3 t3 => ?_⟩
      obtain ⟨w1, w2, w3⟩ := w3
      obtain ⟨q1, q2, q3⟩ := V3.frz I3 t3
      have W := q2.wipe hv
      have ew : L2.wipe (σ.set i (some x)) [i] = L2.wipe σ [i] := by
        show (σ.set i (some x)).set i none = σ.set i none
        rw [List.set_set]
      have ee : wipeE ρ3 [i] = wipeE ρ1 [i] := w3
      rw [ew, ee] at W
      refine ⟨_, _, d, W, ts.trans0 (q3.sub fun a ⟨j, y⟩ => ⟨j, y.2⟩), q1, w1, by rw [w2, ekd]⟩
    · obtain ⟨kv, H'', I2, rkv, S', F', d', k1, k2, k3, k4, k5⟩ := he
      have keepA : ∀ b, S b = none → (∀ j, ¬ F j b) → H' b ≠ none → S' b = none ∧ (∀ j, ¬ F' j b) ∧ H'' b = H' b := fun b z1 z2 z3 => by
        obtain ⟨o, ho⟩ := ne_some z3
        refine ⟨Classical.byContradiction fun n => ?_, fun j y => ?_, by rw [ho]; exact k2.keep b o ho fun ⟨j, y⟩ => z2 j y⟩
        · rcases k2.news b n with y | y | ⟨j, y⟩
          · exact y z1
          · exact z3 y
          · exact z2 j y
        · rcases k2.newp b ⟨j, y⟩ with y | ⟨j', y⟩
          · exact z3 y
          · exact z2 j' y
      obtain ⟨a1, a2, a3⟩ := keepA a g3 (fun j => (g9 j).1) g7
      obtain ⟨b1, b2, b3⟩ := keepA kS g4 (fun j => (g9 j).2) g8
      refine ⟨H'', kv, rkv, I2, ⟨S', F', kds ++ [d'], k1, g2.trans0 k2, ⟨a1, b1, g5, g6, by rw [a3]; exact g7, by rw [b3]; exact g8⟩, fun j => ⟨a2 j, b2 j⟩, k2.code _ _ g10, (g11.mono k2.ss).append (Reps.cons k3 rfl), arePy_snoc g12 k4, ?_⟩, fun b o hb hbo => ?_⟩
      · rw [toPys_snoc, g13, k5, List.take_add_one, hkd]
        rfl
      · rcases hb with rfl | rfl
        · rw [a3]
          exact hbo
        · rw [b3]
          exact hbo
  case fin =>
    rintro a kS H' s' kvs ⟨S, F, kds, g1, g2, ⟨g3, g4, g5, g6, g7, g8⟩, g9, g10, g11, g12, g13⟩ n1 n2 n3 II
    have I4 : Inv X pns0 σ (upd (upd H' kS (.lst [])) a (.lst (kSort (xs.map key) vs))) s' := II.pins_of fun q hq => II.pin q (List.mem_append_right _ (List.mem_cons_of_mem _ (hsub q hq)))
    refine ⟨.ref a, _, I4, rfl, ?_⟩
    have gE := (g1.upd (o := .lst []) g4 fun j => (g9 j).2).upd (o := .lst (kSort (xs.map key) vs)) g3 fun j => (g9 j).1
    have tE := (g2.updN (D' := kS) (o := .lst []) g6).updN (D' := a) (o := .lst (kSort (xs.map key) vs)) g5
    have J3 := Sta.unwipe J2 gE tE fun a z => z
    rw [backE_self] at J3
    have T3 := T2.trans0 (Tr.unwipe J2 tE)
    refine q (.ref a) _ S ρ1 _ (.o .s) _ (fun b => b = a) hR J3 ⟨?_, fun b z => ?_⟩ ?_
    · unfold RepM
      exact ⟨a, _, _, fun _ => False, rfl, rfl, rfl, upd_same, fun _ z => z.elim, (Items.of_reps ((rx.mono g2.ss).ksort key)).mono fun G d v _ z => by unfold RepM; exact z⟩
    · subst z
      refine ⟨g3, by rw [upd_same]; exact (fun z => nomatch z), fun j y => ?_⟩
      rcases y with ⟨hm, y⟩ | ⟨hm, y⟩
      · exact (J2.off j _ y).2 g5
      · exact (g9 j).1 y
    · have tt := T2.trans0 (Tr.unwipe J2 tE)
      refine ⟨tt.ss, tt.keep, tt.news, fun b z => ?_, tt.there, tt.code⟩
      rcases z with z | ⟨j, ⟨hm, y⟩ | ⟨hm, y⟩⟩
      · subst z
        exact .inl (Classical.byContradiction fun n => T2.there b n g5)
      · exact tt.newp b (.inr ⟨j, hm, y⟩)
      · exact tt.newp b (.inl ⟨j, y⟩)
def SortOk (T : List FSpec) (pn : List Nat) (i : Nat) (b : C) (R : M → D → Env → Prop) (xs : List D) (ρ1 : Env) : Prop := i ∉ pn ∧ ∃ key : D → PyData, srtD xs key ∧ (∀ x ∈ xs, wE T pn b (fun _ d ρ3 => d.isPy = true ∧ d.toPy = key x ∧ ρ3.set i none = ρ1.set i none) (ρ1.set i (some (.s, x)))) ∧ R (.o .s) (.lst (xs.mergeSort (PySem.W.dataLe false key))) ρ1
theorem E_sortK (i : Nat) {a b : C} (hsrc : EOk T ct pins a) (hb : EOk T ct pins b) : EOk T ct pins (.sortK i a b) := by
  intro X Z k hX ex h
  unfold mE at h
  split at h
  · rename_i px y kn p pp lb scope lp kp pos
    simp only [Bool.and_eq_true, decide_eq_true_eq] at h
    obtain ⟨⟨⟨⟨⟨rfl, h1⟩, rfl⟩, h2⟩, h3⟩, h4⟩ := h
    refine ⟨fun pns s σ H Q I hq => ?_⟩
    obtain ⟨R, ρ, S, F, h, J, q⟩ := hq
    unfold wE at h
    have st := ok_star (env := X.env) (mE_ok h3) []
    refine wpAny_Call_Name_kw (ld_blt (u := .builtin "sorted") I (glo_of hX h1) (hX.free _ (by decide +kernel)) (by decide +kernel) ?_ (by decide) (by decide))
    have src := (pa_cons (hsrc hX _ h3) pa_nil st).run pos pns s σ H (fun vs H1 => ∃ S1 ρ1 F1 l xs ws, vs = [V.ref l] ∧ S1 l = some (.lst ws) ∧ Reps X.K ct S1 xs ws ∧ SortOk T (pins.map (·.1)) i b R xs ρ1 ∧ Sta X.K ct pins S1 H1 σ ρ1 F1 ∧ Tr (Pt F) S H S1 H1 (Pt F1)) I (tE.sh h J (Tr.refl fun _ z => z) fun v1 H1 S1 ρ1 F1 m1 d1 w1 I1 r1 t1 s1 => by
      split at w1
      · unfold Rep at r1
        obtain ⟨l, ws, rfl, e2, e3⟩ := r1
        exact ⟨S1, ρ1, F1, l, _, ws, rfl, e2, e3, w1, I1, t1⟩
      · exact w1.elim)
    refine PyProof.Rows.callWith_kw (thn src fun us s1 hq => ?_) (by rw [st]; rfl) (by rw [st]; rfl) rfl rfl
    obtain ⟨vs, H1, I1, ru, S1, ρ1, F1, l, xs, ws, rfl, e2, e3, w1, J1, t1⟩ := hq
    obtain ⟨hpn, key, k1, k2, k3⟩ := w1
    obtain rfl := Vals.ref1 ru
    exact sort_call hX hb h2 h4 (pns0 := pns) (pns := pns) (fun _ z => z) I1 J1 t1 q e3 (fun {pns' S' H' s' E' Qc} _ g1 g2 g3 g4 => col_list g3 (SqL.of (g2 _ _ (g1 _ _ e2))) g4) hpn k1 k2 k3
  · cases h
/-- range(e), its object pinned -/
theorem rng_run {X : Cx} {a : Expr} {ta : TE} {p pos : Pos} (hg : Gl X "range") (hm : X.mg "range" = none) (ha : PE X a ta) (na : starEach [a] X.env = (false, eval a X.env) :: starEach [] X.env) {pns : List (Addr × Obj)} {s : Shared} {σ : L2.St} {H : Hp} {R : V → Hp → Prop} (I : Inv X pns σ H s) (h : ta σ H R) (hR : ∀ x H', R x H' → ∃ n, x = .int n) :
    wpAny (model X.prog X.w) X.A (eval (.Call (.Name "range" p) [a] [] pos) X.env) (fun x s' => ∃ r b t u v H' ob, x = .ref r ∧ IsRange s'.heap r 0 b 1 t u v ∧ s'.heap.get? r = some ob ∧ Inv X ((r, ob) :: pns) σ H' s' ∧ R (.int b) H') X.xe s := by
  refine Call_ (ld_blt I hg hm boot_range (PyProof.Rows.callWith_type1 (one_arg ha I h (fun v s2 x H2 I2 r q => ?_) na) na))
  obtain ⟨n, rfl⟩ := hR _ _ q
  obtain ⟨t, rfl⟩ := r
  refine call_range_1 ⟨_, n, _, _, _, H2, _, rfl, IsRange.new _ _ _ _ _ _ _, IsRange.new _ _ _ _ _ _ _, ?_, q⟩
  refine (I2.kept (t' := _) fun b u e => Heap.get?_push_of_some _ e).pins_of fun q hq => ?_
  rcases List.mem_cons.mp hq with rfl | hq
  · refine ⟨IsRange.new _ _ _ _ _ _ _, I2.hok.fresh (Nat.le_refl _), fun z => ?_, I2.nofs (Nat.le_refl _), fun v z => nomatch z⟩
    have := I2.lt
    rw [← z] at this
    exact Nat.lt_irrefl _ this
  · have I3 := I2.kept (t' := s2.toks) (h' := s2.heap.push { cls := .type "range", data := .fields #[.int 0 s2.toks, .int n t, .int 1 s2.toks] }) fun b u e => Heap.get?_push_of_some _ e
    obtain ⟨g1, g2⟩ := I2.pin q (List.mem_append_right _ hq)
    exact ⟨Heap.get?_push_of_some _ g1, g2⟩
theorem E_sortR (i : Nat) {a b : C} (hsrc : EOk T ct pins a) (hb : EOk T ct pins b) : EOk T ct pins (.sortR i a b) := by
  intro X Z k hX ex h
  unfold mE at h
  split at h
  · rename_i px rr pr y pp2 kn p pp lb scope lp kp pos
    simp only [Bool.and_eq_true, decide_eq_true_eq] at h
    obtain ⟨⟨⟨⟨⟨⟨⟨rfl, h1⟩, rfl⟩, h1'⟩, rfl⟩, h2⟩, h3⟩, h4⟩ := h
    refine ⟨fun pns s σ H Q I hq => ?_⟩
    obtain ⟨R, ρ, S, F, h, J, q⟩ := hq
    unfold wE at h
    have st := ok_star (env := X.env) (mE_ok h3) []
    refine wpAny_Call_Name_kw (ld_blt (u := .builtin "sorted") I (glo_of hX h1) (hX.free _ (by decide +kernel)) (by decide +kernel) ?_ (by decide) (by decide))
    have src := rng_run (p := pr) (pos := pp2) (glo_of hX h1') (hX.free _ (by decide +kernel)) (hsrc hX _ h3) st (R := fun x H1 => ∃ S1 ρ1 F1 n, x = .int n ∧ (0 ≤ n ∧ n ≤ 16777216 ∧ SortOk T (pins.map (·.1)) i b R (rangeD 0 1 n.toNat) ρ1) ∧ Sta X.K ct pins S1 H1 σ ρ1 F1 ∧ Tr (Pt F) S H S1 H1 (Pt F1)) I (tE.sh h J (Tr.refl fun _ z => z) fun v1 H1 S1 ρ1 F1 m1 d1 w1 I1 r1 t1 s1 => by
      split at w1
      · unfold Rep at r1
        subst r1
        exact ⟨S1, ρ1, F1, _, rfl, w1, I1, t1⟩
      · exact w1.elim) fun x H' ⟨_, _, _, n, e, _⟩ => ⟨n, e⟩
    refine PyProof.Rows.callWith_kw (args_cons (thn src fun x s1 hq => args_nil ?_) rfl) rfl rfl rfl rfl
    obtain ⟨r, hi, t, u, w, H1, ob, rfl, hr, hob, I1, S1, ρ1, F1, n, e0, ⟨w1, w2, hpn, key, k1, k2, k3⟩, J1, t1⟩ := hq
    cases e0
    have ok : RgOk 0 hi := RgOk.of_le (by omega) w2 (by omega) w1
    have e3 : Reps X.K ct S1 (rangeD 0 1 hi.toNat) (rgV 0 hi) := by
      have e : rgV 0 hi = (List.range hi.toNat).map fun j => V.int (0 + (j : Nat) * 1) := by
        unfold rgV
        rw [Int.sub_zero]
        refine List.map_congr_left fun j _ => ?_
        rw [Int.mul_one]
      rw [e]
      exact Reps.of_range 0 1 hi.toNat
    refine sort_call hX hb h2 h4 (pns0 := pns) (pns := (r, ob) :: pns) (fun _ z => List.mem_cons_of_mem _ z) I1 J1 t1 q e3 (fun {pns' S' H' s' E' Qc} hp g1 g2 g3 g4 => ?_) hpn k1 k2 k3
    have hr' : IsRange s'.heap r 0 hi 1 t u w := by
      have z := (g3.pin (r, ob) (List.mem_append_right _ (hp _ List.mem_cons_self))).1
      have e : ob = _ := Option.some.inj (hob.symm.trans hr)
      rw [e] at z
      exact z
    exact col_range (A := X.A.in1) g3 (show X.A.in1.handled = none from g3.ok.hd hX.calm) hr' ok g4
  · cases h
theorem E_bitl {a : C} (ha : EOk T ct pins a) : EOk T ct pins (.bitl a) := by
  intro X Z k hX ex h
  unfold mE at h
  split at h
  · rename_i o n ap cp
    simp only [Bool.and_eq_true, decide_eq_true_eq] at h
    obtain ⟨⟨rfl, hl⟩, h1⟩ := h
    refine PE.imp (pe_bits (ha hX _ h1) (ok_base (mE_ok h1) _) hl) fun σ H Q ⟨R, ρ, S, F, h, I, q⟩ => ?_
    refine tE.sh (by unfold wE at h; exact h) I (Tr.refl fun _ z => z) fun v1 H1 S1 ρ1 F1 m1 d1 w1 I1 r1 t1 s1 => ?_
    split at w1
    · unfold Rep at r1
      subst r1
      exact ⟨_, rfl, q.val I1 t1 (rInt _) w1⟩
    · exact w1.elim
  · cases h
end
/-! ### an expression that changes nothing and whose value is flat -/
section
variable {K : PySem.W.Frag} {ct : Ct} {pins : List (Nat × V)} {S H S' H' : Hp} {σ : L2.St} {ρ ρ' : Env} {F F' : Sl → Pm} {G : Pm} {P2 : Pm}
open Classical in
noncomputable def Sc (H : Hp) (F : Sl → Pm) : Hp := fun a => if F none a then none else H a
def Fc (F : Sl → Pm) : Sl → Pm := fun i a => i = none ∧ F none a
theorem Sc_at {a : Addr} (h : ¬ F none a) : Sc H F a = H a := if_neg h
theorem Sc_some {a : Addr} {o : HO} (h : Sc H F a = some o) : ¬ F none a ∧ H a = some o := by
  by_cases z : F none a
  · exact nomatch (if_pos z).symm.trans h
  · exact ⟨z, (if_neg z).symm.trans h⟩
theorem Sta.notab (I : Sta K ct pins S H σ ρ F) {a : Addr} {o : HO} (h : S a = some o) : ¬ F none a := fun z => by
  rw [(I.off none a z).1] at h
  cases h
theorem shrE_at {i : Nat} {m : M} {d : D} (h : (shrE ρ).at i = some (m, d)) : m = .s ∧ ∃ m0, ρ.at i = some (m0, d) := by
  unfold Env.at shrE at h
  rw [List.getElem?_map] at h
  unfold Env.at
  cases e : ρ[i]? with
  | none =>
    rw [e] at h
    cases h
  | some o =>
    rw [e] at h
    cases o with
    | none => cases h
    | some p =>
      obtain ⟨m0, d0⟩ := p
      cases h
      exact ⟨rfl, m0, rfl⟩
theorem Sta.pur (I : Sta K ct pins S H σ ρ F) : Sta K ct pins (Sc H F) H σ (shrE ρ) (Fc F) := by
  refine ⟨fun a o h => (Sc_some h).2, by unfold shrE; rw [List.length_map]; exact I.len, fun i m d e => ?_, fun i j a h1 h2 => h1.1.trans h2.1.symm, fun i a h => ⟨if_pos h.2, (I.off none a h.2).2⟩, I.pin, I.tb.mono (fun a z => ⟨rfl, z⟩) fun _ _ => rfl⟩
  obtain ⟨rfl, m0, e0⟩ := shrE_at e
  obtain ⟨v, e1, e2⟩ := I.sl i m0 d e0
  refine ⟨v, e1, ?_⟩
  unfold RepM
  refine (e2.frz I.sub).mono fun a o h => ?_
  unfold Y.frz at h
  cases q : S a with
  | some u =>
    rw [q] at h
    cases h
    rw [Sc_at (I.notab q)]
    exact I.sub a _ q
  | none =>
    rw [q] at h
    simp only at h
    split at h
    · rename_i z
      rw [Sc_at fun y => nomatch I.dj none (some i) a y z]
      exact h
    · cases h
theorem Sta.unpur (I : Sta K ct pins S H σ ρ F) (J : Sta K ct pins S' H' σ ρ' F') (t : Tr (Pt (Fc F)) (Sc H F) H S' H' P2) : Sta K ct pins S H' σ ρ (Ft F (F' none)) := by
  have old : ∀ a o, H a = some o → ¬ F none a → H' a = some o := fun a o h n => J.sub a o (t.ss a o ((Sc_at n).trans h))
  refine ⟨fun a o h => old a o (I.sub a o h) (I.notab h), I.len, fun i m d e => ?_, fun i j a h1 h2 => ?_, fun i a h => ?_, I.pin, J.tb⟩
  · obtain ⟨v, e1, e2⟩ := I.sl i m d e
    refine ⟨v, e1, e2.mono (Same.refl _) fun a z => ?_⟩
    obtain ⟨o, h⟩ := ne_some (I.off (some i) a z).2
    rw [h]
    exact old a o h fun y => nomatch I.dj none (some i) a y z
  · have cross : ∀ (j : Nat), F' none a → F (some j) a → False := fun j z y => by
      obtain ⟨o, h⟩ := ne_some (I.off (some j) a y).2
      have := t.ss a o ((Sc_at fun w => nomatch I.dj none (some j) a w y).trans h)
      rw [(J.off none a z).1] at this
      cases this
    cases i with
    | none =>
      cases j with
      | none => rfl
      | some j => exact (cross j h1 h2).elim
    | some i =>
      cases j with
      | none => exact (cross i h2 h1).elim
      | some j => exact I.dj (some i) (some j) a h1 h2
  · cases i with
    | none =>
      refine ⟨Classical.byContradiction fun n => ?_, (J.off none a h).2⟩
      obtain ⟨o, q⟩ := ne_some n
      have := t.ss a o ((Sc_at (I.notab q)).trans (I.sub a o q))
      rw [(J.off none a h).1] at this
      cases this
    | some i =>
      refine ⟨(I.off (some i) a h).1, ?_⟩
      obtain ⟨o, q⟩ := ne_some (I.off (some i) a h).2
      rw [old a o q fun y => nomatch I.dj none (some i) a y h]
      exact fun z => nomatch z
theorem Tr.unpur (I : Sta K ct pins S H σ ρ F) (J : Sta K ct pins S' H' σ ρ' F') (t : Tr (Pt (Fc F)) (Sc H F) H S' H' (fun a => G a ∨ Pt F' a)) : Tr (Pt F) S H S H' (Pt (Ft F (F' none))) := by
  refine ⟨Same.refl _, fun a o h n => J.sub a o (t.ss a o ((Sc_at fun z => n ⟨none, z⟩).trans h)), fun a z => .inl z, fun a z => ?_, t.there, t.code⟩
  obtain ⟨i, z⟩ := z
  cases i with
  | none =>
    rcases t.newp a (.inr ⟨none, z⟩) with y | ⟨j, y⟩
    · exact .inl y
    · exact .inr ⟨none, y.2⟩
  | some i => exact .inr ⟨some i, z⟩
theorem Rep.flat2 {d : D} {v : V} (h : Rep K ct S d v) (f : d.flat = true) : Rep K ct S' d v := by
  cases d <;> first | (unfold Rep at h ⊢; exact h) | cases f
end
section
variable {T : List FSpec} {ct : Ct} {pins : List (Nat × V)} {a : C}
theorem E_pur (ha : EOk T ct pins a) : EOk T ct pins (.pur a) := by
  intro X Z k hX ex h
  unfold mE at h
  rw [Bool.and_eq_true] at h
  refine PE.imp (ha hX _ h.2) fun σ H Q ⟨R, ρ, S, F, h, I, q⟩ => ?_
  unfold wE at h
  refine ⟨_, shrE ρ, _, _, h, I.pur, fun v H1 S1 ρ1 F1 m1 d1 G1 w1 I1 V1 t1 => ?_⟩
  obtain ⟨f1, w1⟩ := w1
  have r1 : Rep X.K ct S d1 v := (V1.rep.frz I1.sub).flat2 f1
  exact q.val (I.unpur I1 t1) (Tr.unpur I I1 t1) r1 w1
theorem T_pur (ha : TOk T ct pins a) : TOk T ct pins (.pur a) := by
  intro X Z k hX ex h
  unfold mE at h
  rw [Bool.and_eq_true] at h
  refine PT.imp (ha hX _ h.2) fun σ H Q ⟨R, ρ, S, F, h, I, q⟩ => ?_
  unfold wT at h
  refine ⟨_, shrE ρ, _, _, h, I.pur, fun b H1 S1 ρ1 F1 w1 I1 t1 => ?_⟩
  exact q b H1 S ρ _ w1 (I.unpur I1 t1) (Tr.unpur (G := fun _ => False) I I1 (t1.sub fun a z => z.elim (fun z => z.elim) fun z => z))
end
end Y
namespace Y
open PySem PySem.Spec PyProof.Rows L2

/-! ### dict comprehensions -/
theorem any_zip_no : ∀ {ks : List Key} {vs : List V} {key : Key}, key ∉ ks → valV (ks.zip vs) key = none
  | [], _, _, _ => rfl
  | _ :: _, [], _, _ => rfl
  | k :: ks, v :: vs, key, h => by
    simp only [List.mem_cons, not_or] at h
    rw [List.zip_cons_cons, valV_neg (p := (k, v)) fun z => h.1 z.symm]
    exact any_zip_no h.2
section
variable {T : List FSpec} {ct : Ct} {pins : List (Nat × V)} {K : PySem.W.Frag} {S H : Hp} {F : Sl → Pm}
/-- a grown dict that is held: one more key -/
theorem Vl.moreK {G : Pm} {ks : List Key} {ds : List D} {D' : Addr} {d : D} {v : V} (h : Vl K ct S H F .dk G (.dk ks ds) (.ref D')) (y : Rep K ct S d v) (key : Key) :
    ∃ vs, H D' = some (.dK (ks.zip vs)) ∧ ks.length = vs.length ∧ Vl K ct S (upd H D' (.dK (ks.zip vs ++ [(key, v)]))) F .dk G (.dk (ks ++ [key]) (ds ++ [d])) (.ref D') ∧ G D' := by
  have hr := h.rep
  unfold RepM at hr
  obtain ⟨a, ks', vs, ds', e1, e2, e3, e4, e5, e6⟩ := hr
  cases e1
  cases e2
  refine ⟨vs, e4, e5, ⟨?_, fun b z => ?_⟩, e3⟩
  · unfold RepM
    refine ⟨D', ks ++ [key], vs ++ [v], ds ++ [d], rfl, rfl, e3, ?_, by rw [List.length_append, List.length_append, e5]; rfl, e6.append (Reps.cons y (by unfold Reps; rfl))⟩
    rw [upd_same, List.zip_append e5]
    rfl
  · obtain ⟨q1, q2, q3⟩ := h.off b z
    exact ⟨q1, upd_there q2, q3⟩

theorem dcomp_rd {X : Cx} (own : List (Str × Nat)) {tgt src cond ky va : C} (hne : own.map (·.2) ≠ []) {σ : L2.St} {H : Hp} {Q : VK} (hh : tE X.K ct T pins (.dcomp own tgt src cond ky va) σ H Q) :
    tDc (tI X.K ct T pins src) (tG X.K ct T pins (own.map (·.2)) tgt) (tC X.K ct T pins cond) (tE X.K ct T pins ky) (tE X.K ct T pins va) (own.map (·.2)) σ H Q := by
  obtain ⟨R, ρ, S, F, h, I, q⟩ := hh
  unfold wE at h
  refine ⟨_, ρ, S, F, h, I, fun J H1 S1 ρ1 F1 items w1 I1 t1 hJ => ?_⟩
  obtain ⟨hpn, Inv, hi0, hturn, hend⟩ := w1
  intro L hL
  generalize hvs : own.map (·.2) = vs at *
  have W1 := I1.wipe hpn
  have sL : S1 L = none := I1.sub.free hL
  have gL : Same H1 (upd H1 L (.dK [])) := same_new hL
  refine ⟨fun i n Hc => n = items.length - i ∧ i ≤ items.length ∧ ∃ S ρ F ks ds G, Inv i ks ds (wipeE ρ vs) ∧ Sta X.K ct pins S Hc (wipe σ vs) (wipeE ρ vs) F ∧ Vl X.K ct S Hc F .dk G (.dk ks ds) (.ref L) ∧ Tr (Pt (Fw F1 vs)) S1 H1 S Hc (fun a => G a ∨ Pt F a), ⟨items.length, rfl, Nat.zero_le _, S1, ρ1, _, [], [], fun a => a = L, hi0, W1.grow gL (Same.refl _) (I1.sub.trans gL) (fun a z => .inl z), ⟨?_, fun a z => ?_⟩, ?_⟩, ?_⟩
  · unfold RepM
    exact ⟨L, [], [], [], rfl, rfl, rfl, upd_same, rfl, by unfold Reps; rfl⟩
  · subst z
    exact ⟨sL, by rw [upd_same]; exact (fun z => nomatch z), fun i y => (I1.off i _ y.2).2 hL⟩
  · exact Tr.grow gL (Same.refl _) (fun a z => .inl z) fun a z => by rw [z]; exact hL
  rintro i n Hc ⟨rfl, hi, S3, ρ3, F3, ks, ds, G3, inv, I3, V3, t3⟩
  obtain ⟨j1, j2, j3⟩ := hJ S3 Hc t3.ss I3.sub
  by_cases hlt : i < items.length
  · refine .inr ⟨j1 i hlt, fun H' => i + 1 ≤ items.length ∧ ∃ S ρ F ks ds G, Inv (i + 1) ks ds (wipeE ρ vs) ∧ Sta X.K ct pins S H' (wipe σ vs) (wipeE ρ vs) F ∧ Vl X.K ct S H' F .dk G (.dk ks ds) (.ref L) ∧ Tr (Pt (Fw F1 vs)) S1 H1 S H' (fun a => G a ∨ Pt F a), fun H' ⟨z1, z2⟩ => ⟨items.length - (i + 1), by omega, rfl, z1, z2⟩, fun x H4 hy => ?_⟩
    obtain ⟨S4, d, e1, e2, e3, e4, e5, e6⟩ := j3 i x H4 hlt hy
    have I4 := I3.grow e4 e3 e5 e6
    have t4 : Tr (Pt F3) S3 Hc S4 H4 (Pt F3) := (Tr.grow (G := fun _ => False) e4 e3 e6 fun a z => z.elim).sub fun a z => .inr z
    have V4 := V3.keep t4 fun i a z => ⟨i, z⟩
    have T4 := Tr.trans t3 t4
    refine ⟨_, wipeE ρ3 vs, S4, F3, d, hturn i d ks ds ρ3 e1 inv, I4, e2, fun σ5 H5 S5 ρ5 F5 w5 I5 t5 u5 => ⟨(u5 hne).trans (wipe_wipe σ vs), ?_⟩⟩
    have V5 := V4.keep t5 fun i a z => ⟨i, z⟩
    have T5 := Tr.trans T4 t5
    refine ⟨_, ρ5, S5, F5, w5, I5, fun bb H6 S6 ρ6 F6 w6 I6 t6 => ?_⟩
    have V6 := V5.keep t6 fun i a z => ⟨i, z⟩
    have T6 := Tr.trans T5 t6
    cases bb with
    | false =>
      simp only [Bool.false_eq_true, if_false] at w6 ⊢
      have W6 := I6.wipe hpn
      rw [u5 hne, wipe_wipe] at W6
      exact ⟨hlt, S6, ρ6, _, ks, ds, G3, w6, W6, ⟨V6.rep, fun a z => ⟨(V6.off a z).1, (V6.off a z).2.1, fun i y => (V6.off a z).2.2 i y.2⟩⟩, T6.sub fun a z => z.elim .inl fun ⟨i, y⟩ => .inr ⟨i, y.2⟩⟩
    | true =>
      simp only [if_true] at w6 ⊢
      refine tE.sh w6 I6 (Tr.refl fun _ z => z) fun v7 H7 S7 ρ7 F7 m7 d7 w7 I7 r7 t7 s7 => ?_
      have V7 := V6.keep t7 fun i a z => ⟨i, z⟩
      have T7 := Tr.trans T6 t7
      refine tE.sh w7 I7 (Tr.refl fun _ z => z) fun v8 H8 S8 ρ8 F8 m8 d8 w8 I8 r8 t8 s8 => ?_
      have V8 := V7.keep t8 fun i a z => ⟨i, z⟩
      have T8 := Tr.trans T7 t8
      obtain ⟨key, k1, k2, k3, w8⟩ := w8
      obtain ⟨ws, f1, f2, f3, f4⟩ := V8.moreK r8 key
      have hz : (ks.zip ws).length = ks.length := by rw [List.length_zip, ← f2, Nat.min_self]
      refine ⟨ks.zip ws, key, keyD_rep r7 k1, f1, by rw [hz]; exact k3, hlt, S8, ρ8, Fw F8 vs, ks ++ [key], ds ++ [d8], G3, w8, ?_, ?_, ?_⟩
      · have W8 := I8.wipe hpn
        rw [u5 hne, wipe_wipe] at W8
        exact W8.upd (V8.off L f4).1 fun i y => (V8.off L f4).2.2 i y.2
      · rw [putK_new v8 (any_zip_no k2)]
        exact ⟨f3.rep, fun a z => ⟨(f3.off a z).1, (f3.off a z).2.1, fun i y => (f3.off a z).2.2 i y.2⟩⟩
      · exact (Tr.upd (D' := L) (G := G3) (F := F8) T8 f4 (CodeK.updDK f1)).sub fun a z => z.elim .inl fun ⟨i, y⟩ => .inr ⟨i, y.2⟩
  · have e : i = items.length := by omega
    subst e
    refine .inl ⟨j2 _ rfl, ?_⟩
    have J3 := Sta.unwipe I1 I3 t3 fun a z => .inr z
    refine q (.ref L) Hc S3 _ _ .dk (.dk ks ds) G3 (hend ks ds ρ3 inv) J3 ⟨V3.rep, fun a z => ⟨(V3.off a z).1, (V3.off a z).2.1, fun i y => ?_⟩⟩ ?_
    · rcases y with ⟨hm, y⟩ | ⟨hm, y⟩
      · exact (t3.wiped I1 hm y).2.2 (.inl z)
      · exact (V3.off a z).2.2 i y
    · refine (t1.trans0 (Tr.unwipe I1 t3)).sub fun a z => ?_
      rcases z with z | ⟨i, ⟨hm, y⟩ | ⟨hm, y⟩⟩
      · exact .inl (.inl z)
      · exact .inr ⟨i, hm, y⟩
      · exact .inl (.inr ⟨i, y⟩)
theorem E_dcomp (own : List (Str × Nat)) {tgt src cond ky va : C} (hsrc : IOk T ct pins src) (htgt : GOk T ct pins tgt) (hcond : COk T ct pins cond) (hky : EOk T ct pins ky) (hva : EOk T ct pins va) : EOk T ct pins (.dcomp own tgt src cond ky va) := by
  intro X Z k hX ex h
  unfold mE at h
  split at h
  · rename_i y y2 t it ifs scope pos
    simp only [Bool.and_eq_true, Bool.not_eq_true'] at h
    obtain ⟨⟨⟨⟨⟨⟨⟨hb, ho⟩, h1⟩, h2⟩, h3⟩, h4⟩, h5⟩, h6⟩ := h
    have hne : own.map (·.2) ≠ [] := fun z => by
      cases own with
      | nil => cases ho
      | cons _ _ => cases z
    have bo : BlkOk X.N X.env.scope scope own := by
      rw [hX.N, hX.sc]
      exact blkOk_by hb
    exact PE.imp (pe_dc (g := tG X.K ct T pins (own.map (·.2)) tgt) (tt := tC X.K ct T pins cond) (tk := tE X.K ct T pins ky) (tv := tE X.K ct T pins va) hX.calm (by rw [hX.N]; exact hX.nd) (hsrc hX _ t h1 h2) bo (fun s H C cl fp => htgt (hX.blk s H scope cl C fp bo.kind) (own.map (·.2)) _ h3) (fun s H C cl fp => hcond (hX.blk s H scope cl C fp bo.kind) _ h4) (fun s H C cl fp => hky (hX.blk s H scope cl C fp bo.kind) _ h5) (fun s H C cl fp => hva (hX.blk s H scope cl C fp bo.kind) _ h6) (mI_fold h1 _)) fun σ H Q hq => dcomp_rd own hne hq
  · cases h
end
section
variable {X : Cx}
/-- a name is given a dict comprehension's value, all on one line -/
theorem ps_setDc {i : Nat} {y : Str} {py : Pos} {kx vx tg iter : Expr} {ifs : List Expr} {scope : Scope} {own : List (Str × Nat)} {pos spos : Pos} {wi : TI} {g : TG} {tt : TT} {tk tv : TE} (hc : X.calm = true) (hN : X.N.Nodup) (hy : X.N[i]? = some y) (hyl : X.env.scope.names.lookup y = some .local)
    (hsw : swapsWith (.DictComp kx vx [⟨tg, iter, ifs, 0⟩] scope pos) (some (.Name y py)) spos.line X.env = pure true) (hi : PI X tg iter wi) (ok : BlkOk X.N X.env.scope scope own)
    (hg : ∀ (s : Shared) (H : Hp) (C : Addr) (cl : List (Str × Addr)) (fp : List Addr), PG (X.blk s H scope (compEnvC scope cl C X.env) fp) tg g) (ht : ∀ (s : Shared) (H : Hp) (C : Addr) (cl : List (Str × Addr)) (fp : List Addr), PTs (X.blk s H scope (compEnvC scope cl C X.env) fp) ifs tt)
    (hk : ∀ (s : Shared) (H : Hp) (C : Addr) (cl : List (Str × Addr)) (fp : List Addr), PE (X.blk s H scope (compEnvC scope cl C X.env) fp) kx tk)
    (he : ∀ (s : Shared) (H : Hp) (C : Addr) (cl : List (Str × Addr)) (fp : List Addr), PE (X.blk s H scope (compEnvC scope cl C X.env) fp) vx tv) (hs : ∀ x, foldedSetIterable iter X.env x = pure x) :
    PS X (.Assign [.Name y py] (.DictComp kx vx [⟨tg, iter, ifs, 0⟩] scope pos) spos) (tAsg (tDc wi g tt tk tv (own.map (·.2))) (gName i)) := by
  refine ⟨fun pins s σ H D I h => ?_⟩
  rw [exec_Assign_Name_used _ _ _ _ hsw]
  refine wpAny_bind (wpAny_standAt (wpAny_bind ?_))
  show wpAny _ X.A (do let _ ← comprehension (.DictComp kx vx [⟨tg, iter, ifs, 0⟩] scope pos) scope X.env (firstIterPos [⟨tg, iter, ifs, 0⟩] pos) newDict false (eval iter X.env) (some (assign (.Name y py) X.env))) _ _ s
  have hh : tDc wi g tt tk tv (own.map (·.2)) σ H (fun x H1 => gName i x σ H1 D.nx) := h
  refine wpAny_bind (thn (dc_core (Qf := fun _ s' => SP X pins D .next s') hc hN I hi ok hg ht hk he hs hh fun L C s' m H' I' q hn f => ?_) fun _ s' hq => wpAny_pure (wpAny_pure hq))
  show wpAny _ _ (assign (.Name y py) X.env (.ref L)) _ _ _
  refine wpAny_assign_Name (store_ok2 (v := V.ref L) I' hN hy (.inl hyl) rfl (fun s2 I2 ⟨a, sb, ha⟩ => ?_) (.inr hyl))
  obtain ⟨f0, f1, f2, f3, f4, f5⟩ := f
  have away : C ≠ a := by
    rcases ha with z | z
    · rw [z]; exact f1
    · exact fun e => f4 y a z e.symm
  refine ⟨m, hn.sameBut sb away, fun h3 sb3 => ?_⟩
  exact ⟨_, H', I2.turned (t' := s2.toks) (fun b o hb e => (sb3.2 b hb).trans e) f0 f1 f3 f4 f5, q⟩
theorem sw_trueD {kx vx : Expr} {gs : List Comprehension} {scope : Scope} {pos py : Pos} {y : Str} {l : Nat} {env : PySem.Env} (hk : env.scope.kind = .function) (hy : env.scope.names.lookup y = some .local) (hl : (py.line == pos.line) = true)
    (ha : (scope.names.any fun (n, k) => n == y && (k == .local || k == .cell)) = false) : swapsWith (.DictComp kx vx gs scope pos) (some (.Name y py)) l env = pure true := by
  have ky : env.kindOf y = some .local := hy
  have kb : env.blockKind = .function := by unfold Env.blockKind; rw [hk]; rfl
  unfold swapsWith
  simp only [kb, ky, ha, Expr.pos, hl]
  rfl
end
/-! ### tuples that are known to be plain -/
section
variable {T : List FSpec} {ct : Ct} {pins : List (Nat × V)} {a o e : C}
theorem E_varT (i : Nat) : EOk T ct pins (.varT i) := by
  intro X Z k hX e h
  unfold mE at h
  split at h
  · obtain ⟨h1, h2, h3, h4⟩ := slot_of hX h
    refine PE.imp (pe_var h1 h2 h3 h4) fun σ H Q ⟨R, ρ, S, F, h, I, q⟩ => ?_
    unfold wE at h
    split at h
    · rename_i xs hd
      obtain ⟨v, e1, e2⟩ := I.sl _ _ _ hd
      unfold RepM Rep at e2
      obtain ⟨b, vs, ob, rfl, e3, e4, e5⟩ := e2
      exact ⟨_, e1, q.val I (Tr.refl fun _ z => z) (d := .tup xs) (by unfold Rep; exact ⟨b, vs, rfl, .inl (.inr ⟨ob, e3⟩), e5⟩) h⟩
    · exact h.elim
  · cases h
/-- tuple(a list): its new object is known -/
theorem call_tupleK {X : Cx} : CallR X (.type "tuple") (fun xs H Q => ∃ p ys, xs = [.ref p] ∧ SqL X.K H p ys ∧ ∀ l ob, H l = none → ob.dict = none → Q (.ref l) (upd H l (.frz ob (.tup ys)))) := by
  intro pins s σ H xs us Q I r h
  obtain ⟨p, ys, rfl, hq, q⟩ := h
  obtain ⟨u, rfl, rx⟩ := vals1 r
  cases rx
  obtain ⟨its, r', pl, hz⟩ := I.list hq
  have hlen := r'.length
  refine call_tuple_list pl.isList (fun h' kp => ?_) (by simp only [List.size_toArray] <;> omega)
  have I1 : Inv X pins σ H { s with heap := h' } := I.kept (t' := s.toks) kp
  have I2 : Inv X pins σ (upd H h'.objs.size (.frz { cls := .type "tuple", data := .seq its.toArray } (.tup ys))) { s with heap := h'.push { cls := .type "tuple", data := .seq its.toArray } } :=
    I1.laid (t' := s.toks) (fun b o e => Heap.get?_push_of_some _ e) (Nat.le_refl _) ⟨Heap.get?_push_size _ rfl, hz, its, r', IsTup.new _ _⟩
  exact ⟨.ref h'.objs.size, _, I2, rfl, q _ _ (I1.hok.fresh (Nat.le_refl _)) rfl⟩
theorem Kt.newK {K : PySem.W.Frag} {S H : Hp} {k : M → D → Prop} {Q : VK} {ds : List D} {vs : List V} {p : Addr} {ob : Obj} (h : Kt K ct S H k Q) (e : Same S H) (r : Reps K ct S ds vs) (q : k .s (.tupk ds)) (hp : H p = none) (hd : ob.dict = none) : Q (.ref p) (upd H p (.frz ob (.tup vs))) := by
  have sp : S p = none := e.free hp
  have e2 : Same (upd S p (.frz ob (.tup vs))) (upd H p (.frz ob (.tup vs))) := fun b x z => by
    by_cases hb : b = p
    · subst hb
      rw [upd_same] at z ⊢
      exact z
    · rw [upd_ne hb] at z ⊢
      exact e _ _ z
  refine h _ _ (upd S p (.frz ob (.tup vs))) _ _ (fun _ => False) q (same_new hp) (same_new sp) e2 (fun a z => ?_) ?_ fun _ z => z.elim
  · by_cases hb : a = p
    · subst hb
      exact .inr hp
    · rw [upd_ne hb] at z
      exact .inl z
  · unfold RepM Rep
    exact ⟨p, vs, ob, rfl, upd_same, hd, r.mono (same_new sp)⟩
theorem E_tupk (ha : EOk T ct pins a) (hb : BOk T ct pins a) : EOk T ct pins (.tupk a) := by
  intro X Z k hX ex h
  unfold mE at h
  split at h
  · simp only [Bool.and_eq_true, decide_eq_true_eq] at h
    obtain ⟨⟨rfl, h1⟩, h2⟩ := h
    have st := ok_star (env := X.env) (mE_ok h2) []
    by_cases hp : a.isP = true
    · refine PE.imp (pe_callTy call_tupleK (glo_of hX h1) (hX.free _ (by decide +kernel)) (by decide +kernel) (pa_cons (hb hX _ h2) pa_nil st) (by decide +kernel) (by decide +kernel) st rfl) fun σ H Q ⟨R, ρ, S, F, h, I, q⟩ => ?_
      unfold wE at h
      rw [hp] at h
      refine ⟨_, ρ, S, F, h, I, fun v1 H1 S1 ρ1 F1 m1 d1 put G w1 I1 r1 hG L1 t1 => ?_⟩
      split at w1
      · obtain ⟨b, vs, rfl, e2, e3⟩ := r1.lstS w1.1 I1.sub
        exact ⟨b, vs, rfl, SqL.of e2, fun l ob hl ho => (q.kt I1 t1).newK I1.sub e3 w1.2 hl ho⟩
      · exact w1.elim
    · refine PE.imp (pe_callTy call_tupleK (glo_of hX h1) (hX.free _ (by decide +kernel)) (by decide +kernel) (pa_cons (ha hX _ h2) pa_nil st) (by decide +kernel) (by decide +kernel) st rfl) fun σ H Q ⟨R, ρ, S, F, h, I, q⟩ => ?_
      unfold wE at h
      rw [Bool.not_eq_true] at hp
      rw [hp] at h
      refine tE.sh h I (Tr.refl fun _ z => z) fun v1 H1 S1 ρ1 F1 m1 d1 w1 I1 r1 t1 s1 => ?_
      split at w1
      · unfold Rep at r1
        obtain ⟨b, vs, rfl, e2, e3⟩ := r1
        exact ⟨b, vs, rfl, SqL.of (I1.sub _ _ e2), fun l ob hl ho => (q.kt I1 t1).newK I1.sub e3 w1 hl ho⟩
      · exact w1.elim
  · cases h

/-- t.index(x) of a tuple that is known -/
def KnT (H : Hp) (x : V) : Prop := ∃ p ob vs, x = .ref p ∧ H p = some (.frz ob (.tup vs)) ∧ ob.dict = none
def tIdxT (K : PySem.W.Frag) (to : TE) (t : TA) : TE := fun σ H Q => to σ H fun x H1 => KnT H1 x ∧ t σ H1 fun xs H2 => ∃ (p : Addr) (ns : List Int) (k : Int), x = .ref p ∧ xs = [.int k] ∧ SqT K H2 p (ns.map V.int) ∧ k ∈ ns ∧ Q (.int (ns.idxOf k : Nat)) H2
theorem pe_idxT {X : Cx} {o e : Expr} {apos cpos : Pos} {to : TE} {t : TA} (ho : PE X o to) (ha : PA X [e] t) (hbase : attributeBase o "index" X.env (eval o X.env) = eval o X.env)
    (hs : starEach [e] X.env = (false, eval e X.env) :: starEach [] X.env) (hline : (apos.endLine == cpos.line) = true)
    (hfew : ((backTo cpos (starEach [e] X.env)).all (fun x => !x.1) && (backToKw cpos (keywordEach [] X.env)).all (fun x => x.1.isSome)
      && decide (([e] : List Expr).length + ([] : List Keyword).length + (if ([] : List Keyword).isEmpty then 0 else 1) < 30)) = true) : PE X (.Call (.Attribute o "index" apos) [e] [] cpos) (tIdxT X.K to t) := by
  refine ⟨fun pins s σ H Q I h => ?_⟩
  refine wpAny_Call_method_late hbase hfew hline rfl (thn (ho.run pins s σ H _ I h) fun v s1 ⟨x, H1, I1, r1, ty, q1⟩ => ?_)
  obtain ⟨p, ob, vs, rfl, hp, hd⟩ := ty
  obtain rfl : v = Value.ref p := r1
  obtain ⟨g1, z1, its, rv, tp⟩ := (show ObjOk X.prog X.w H1 s1.heap p (.frz ob (.tup vs)) from I1.hok p _ hp)
  refine ⟨"tuple", "tuple.index", PySem.F.plainAttrs_tuple, PySem.F.slot_tuple_index, PySem.F.type_tuple_index, let ⟨o, ho, hc, _⟩ := tp; ⟨o, ho, hc⟩, fun a ea => ?_, ?_⟩
  · cases ea
    exact ⟨ob, g1, hd⟩
  · have hA := ha.run cpos pins s1 σ H1 _ I1 q1
    rw [hs] at hA ⊢
    refine Calls.callWith_builtin (by rfl) (Calls.evalArgs_plain ?_)
    refine thn hA fun us s2 ⟨ws, H2, I2, r2, p', ns, k, e1, e2, e3, e4, q2⟩ => ?_
    cases e1
    subst e2
    obtain ⟨u, rfl, tk, rfl⟩ := vals1 r2
    obtain ⟨its2, rv2, pl2, hz2⟩ := I2.tuple e3
    exact PySem.SeqAt.tuple_index_ints (vs := its2) pl2 rv2.ints e4 ⟨.int (ns.idxOf k : Nat), H2, I2.tok _, ⟨_, rfl⟩, q2⟩
theorem E_idxT (ho : EOk T ct pins o) (he : EOk T ct pins e) : EOk T ct pins (.idxT o e) := by
  intro X Z k hX ex h
  unfold mE at h
  split at h
  · rename_i ob n ap y cp
    simp only [Bool.and_eq_true, decide_eq_true_eq] at h
    obtain ⟨⟨⟨rfl, hl⟩, h1⟩, h2⟩ := h
    have st := ok_star (env := X.env) (mE_ok h2) []
    refine PE.imp (pe_idxT (ho hX _ h1) (pa_cons (he hX _ h2) pa_nil st) (ok_base (mE_ok h1) _) st hl (by rw [st]; rfl)) fun σ H Q ⟨R, ρ, S, F, h, I, q⟩ => ?_
    refine tE.sh (by unfold wE at h; exact h) I (Tr.refl fun _ z => z) fun v1 H1 S1 ρ1 F1 m1 d1 w1 I1 r1 t1 s1 => ?_
    split at w1
    · rename_i xs
      unfold Rep at r1
      obtain ⟨b, vs, ob, rfl, e2, e3, e4⟩ := r1
      refine ⟨⟨b, ob, vs, rfl, I1.sub _ _ e2, e3⟩, ?_⟩
      refine tE.sh w1 I1 t1 fun v2 H2 S2 ρ2 F2 m2 d2 w2 I2 r2 t2 s2 => ?_
      obtain ⟨ns, kk, rfl, rfl, hk, w2⟩ := w2
      unfold Rep at r2
      subst r2
      have e5 := e4.ints
      subst e5
      exact ⟨b, ns, kk, rfl, rfl, .inl (.inr ⟨ob, I2.sub _ _ (s2 _ _ e2)⟩), hk, q.val I2 t2 (rInt _) w2⟩
    · exact w1.elim
  · cases h
end
end Y
namespace Y
open PySem PySem.Spec PyProof.Rows L2 HT

/-! ### t[::-1] of a tuple -/
section
variable {prog : Program} {w : World} {A : Around} {E : Value → Shared → Prop} {s : Shared}
theorem places_back (n : Nat) : Builtin.Slice.slicePlaces ((n : Int) - 1) (-1) (-1) = n := by
  unfold Builtin.Slice.slicePlaces
  have h1 : ¬ ((-1 : Int) > 0) := by omega
  rw [if_neg h1]
  by_cases h : (n : Int) - 1 > -1
  · rw [if_pos h, show (- -1 : Int) = 1 by decide, Int.ediv_one]
    omega
  · rw [if_neg h]
    omega
theorem sliceApplied_back {sl : Addr} {vl vu vs : Value} {n : Nat} {Q : Int × Int × Nat → Shared → Prop} (hs : s.heap.IsSliceOf sl vl vu vs) (pl : IsPart vl none) (pu : IsPart vu none) (pz : IsPart vs (some (-1)))
    (h : Q ((n : Int) - 1, -1, n) s) : wpAny (model prog w) A (Builtin.Slice.sliceApplied (.ref sl) (pure (n : Int))) Q E s := by
  obtain ⟨os, hos, hcs, hds⟩ := id hs
  unfold Builtin.Slice.sliceApplied Builtin.Slice.sliceFields
  refine wpAny_bind (wpAny_bind (wpAny_field hos hds (x := vl) rfl (wpAny_bind (wpAny_field hos hds (x := vu) rfl (wpAny_bind (wpAny_field hos hds (x := vs) rfl (wpAny_pure ?_)))))))
  refine wpAny_bind (slicePart_ pz ?_)
  show wpAny _ _ (if ((-1 : Int) == 0) = true then _ else _) _ _ s
  rw [if_neg (by decide)]
  refine wpAny_bind (slicePart_ pl (wpAny_bind (slicePart_ pu (wpAny_bind (wpAny_pure ?_)))))
  show wpAny _ _ (pure ((n : Int) - 1, (-1 : Int), Builtin.Slice.slicePlaces ((n : Int) - 1) (-1) (-1))) _ _ s
  rw [places_back]
  exact wpAny_pure h
theorem fmap_congr {α β : Type} {f g : α → Option β} : ∀ {l : List α}, (∀ x ∈ l, f x = g x) → l.filterMap f = l.filterMap g
  | [], _ => rfl
  | a :: l, h => by
    rw [List.filterMap_cons, List.filterMap_cons, h a List.mem_cons_self, fmap_congr fun x hx => h x (List.mem_cons_of_mem _ hx)]
theorem pick_back (xs : Array Value) : ((List.range xs.size).filterMap fun (m : Nat) => xs[(((xs.size : Int) - 1) + (m : Int) * (-1)).toNat]?).toArray = xs.toList.reverse.toArray := by
  have e : ((List.range xs.size).filterMap fun (m : Nat) => xs[(((xs.size : Int) - 1) + (m : Int) * (-1)).toNat]?) = ((List.range xs.size).map fun k => xs.size - 1 - k).filterMap (xs[·]?) := by
    rw [List.filterMap_map]
    refine fmap_congr fun m hm => ?_
    have := List.mem_range.mp hm
    have q : (((xs.size : Int) - 1) + (m : Int) * (-1)).toNat = xs.size - 1 - m := by omega
    rw [q]
    try rfl
  rw [e, PySem.W.krv_range, List.filterMap_reverse, PySem.W.krv_all]
theorem getItem_tuple_back {t sl : Addr} {items : Array Value} {vl vu vs : Value} {Q : Value → Shared → Prop} (ht : IsTup s.heap t items) (hs : s.heap.IsSliceOf sl vl vu vs) (pl : IsPart vl none) (pu : IsPart vu none) (pz : IsPart vs (some (-1)))
    (h : Q (.ref s.heap.objs.size) { s with heap := s.heap.push { cls := .type "tuple", data := .seq items.toList.reverse.toArray } })
    (hsz : items.size ≤ sizeLine) : wpAny (model prog w) A (getItem (.ref t) (.ref sl)) Q E s := by
  have htake : sizeOk (.seq items.toList.reverse.toArray) := by
    show items.toList.reverse.toArray.size ≤ sizeLine
    rw [List.size_toArray, List.length_reverse, Array.length_toList]
    exact hsz
  obtain ⟨os, hos, hcs, hds⟩ := id hs
  have hTs : s.TypeIs (.ref sl) "slice" := ⟨os, hos, hcs⟩
  unfold getItem
  try with_reducible refine wpAny_holding ?_
  first | refine wpAny_bind (wpAny_pure ?_) | skip
  refine wpAny_bind (wpAny_sequenceKey ht.typeIs (by decide) ?_)
  refine wpAny_bind (wpAny_callSpecial?_slot (name := Str.ofString "__getitem__") ht.typeIs PyProof.Rows.slot_tuple_getitem
    (wpAny_call_entry PyProof.Rows.slot_tuple_getitem ht.typeIs entry_tuple_getitem ?_ (args_tuple_getitem _ _)))
  show wpAny _ _ (Builtin.Tuple.tupleItemsOf (.ref t) >>= _) _ _ s
  refine wpAny_bind (tupleItemsOf_ ht ?_)
  refine wpAny_bind (wpAny_typeOf hTs ?_)
  rw [if_pos (by decide)]
  refine wpAny_bind (sliceApplied_back hs pl pu pz ?_)
  have hno : ¬ ((((items.size : Int) - 1) == 0 && (-1 : Int) == 1 && items.size == items.size) = true) := by
    rw [show ((-1 : Int) == 1) = false by decide, Bool.and_false]
    exact Bool.false_ne_true
  show wpAny _ _ (if ((((items.size : Int) - 1) == 0 && (-1 : Int) == 1 && items.size == items.size) = true) then _ else _) _ _ s
  rw [if_neg hno, pick_back]
  first
    | exact wpAny_bind (m := Builtin.Tuple.tupleExact _) (wpAny_newObj_type (wpAny_pure ⟨_, rfl, wpAny_pure h⟩) htake)
    | exact wpAny_bind (m := Builtin.Tuple.tupleExact _) (wpAny_newObj_type (wpAny_bind (wpAny_pure (wpAny_pure ⟨_, rfl, wpAny_pure h⟩))) htake)
    | exact wpAny_bind (wpAny_bind (m := Builtin.Tuple.tupleExact _) (wpAny_newObj_type (wpAny_pure (wpAny_pure ⟨_, rfl, wpAny_pure h⟩)) htake))
    | exact wpAny_bind (wpAny_bind (m := Builtin.Tuple.tupleExact _) (wpAny_newObj_type (wpAny_pure ⟨_, rfl, wpAny_pure h⟩) htake))
end
section
variable {X : Cx}
def tRevA (K : PySem.W.Frag) (te : TE) : TE := fun σ H Q => te σ H fun x H1 => (∃ a xs, x = .ref a ∧ SqL K H1 a xs ∧ ∀ p, H1 p = none → Q (.ref p) (upd H1 p (.lst xs.reverse))) ∨
  ∃ a xs, x = .ref a ∧ SqT K H1 a xs ∧ ∀ p, H1 p = none → Q (.ref p) (upd H1 p (.tup xs.reverse))
theorem pe_revA {e : Expr} {te : TE} {k : Nat} {p1 p2 p3 pos : Pos} (he : PE X e te) : PE X (.Subscript e (.Slice none none (some (.UnaryOp .USub (.Constant (.int 1) k p1) p2)) p3) pos) (tRevA X.K te) := by
  refine ⟨fun pins s σ H Q I h => ?_⟩
  refine Subscript_ (thn (he.run pins s σ H _ I h) fun v s1 ⟨x, H1, I1, r1, q1⟩ => ?_)
  have hst : PO X (some (.UnaryOp .USub (.Constant (.int 1) k p1) p2)) (tPart (tUn (rU fun i => .int (-i)) (L2.tC (.int 1)))) := po_some (pe_un un_neg pe_int)
  refine wpAny_Slice (thn (po_none.run pins s1 σ H1 (fun o H2 => o = none ∧ H2 = H1) I1 ⟨rfl, rfl⟩) fun vl s2 ⟨l, H2, I2, pl, el, e2⟩ => ?_)
  subst el e2
  refine thn (po_none.run pins s2 σ H2 (fun o H3 => o = none ∧ H3 = H2) I2 ⟨rfl, rfl⟩) fun vu s3 ⟨u, H3, I3, pu, eu, e3⟩ => ?_
  subst eu e3
  refine thn (hst.run pins s3 σ H3 (fun o H4 => o = some (-1) ∧ H4 = H3) I3 ⟨1, rfl, -1, rfl, rfl, rfl⟩) fun vs s4 ⟨o, H4, I4, pz, eo, e4⟩ => ?_
  subst eo e4
  have I5 : Inv X pins σ H4 { s4 with heap := s4.heap.push { cls := .type "slice", data := .fields #[vl, vu, vs] } } := I4.kept (t' := s4.toks) fun b ob q => Heap.get?_push_of_some _ q
  rcases q1 with ⟨a, xs, ex, hx, q⟩ | ⟨a, xs, ex, hx, q⟩
  · subst ex
    cases r1
    obtain ⟨its, r, ht, hz⟩ := I5.list hx
    have hlen := r.length
    show wpAny (model X.prog X.w) X.A (subscriptTail e (.Slice none none (some (.UnaryOp .USub (.Constant (.int 1) k p1) p2)) p3) (.ref a) (.ref s4.heap.objs.size)) (EP X pins σ Q) X.xe { s4 with heap := s4.heap.push { cls := .type "slice", data := .fields #[vl, vu, vs] } }
    refine tail_any (ops := [.ref a, .ref s4.heap.objs.size]) ht.isList.typeIs (PySem.slot_list_getitem.lookup) ?_ (by with_unfolding_all rfl)
    refine wpAny_getItem_list_slice ht.isList (Heap.IsSliceOf.new _ vl vu vs) pl pu pz (by decide) ?_ (by rw [List.size_toArray]; omega)
    rw [PySem.W.krv_pick]
    refine ⟨.ref _, _, I5.laid (t' := s4.toks) (o := .lst xs.reverse) (fun b ob q => Heap.get?_push_of_some _ q) (Nat.le_refl _) ?_, rfl, q _ (I5.hok.fresh (Nat.le_refl _))⟩
    exact ⟨by rw [List.length_reverse]; exact hz, _, 0, r.reverse, Heap.get?_push_size _ rfl⟩
  · subst ex
    cases r1
    obtain ⟨its, r, ht, hz⟩ := I5.tuple hx
    have hlen := r.length
    show wpAny (model X.prog X.w) X.A (subscriptTail e (.Slice none none (some (.UnaryOp .USub (.Constant (.int 1) k p1) p2)) p3) (.ref a) (.ref s4.heap.objs.size)) (EP X pins σ Q) X.xe { s4 with heap := s4.heap.push { cls := .type "slice", data := .fields #[vl, vu, vs] } }
    refine tail_any (ops := [.ref a, .ref s4.heap.objs.size]) ht.typeIs (PyProof.Rows.slot_tuple_getitem.lookup) ?_ (by with_unfolding_all rfl)
    refine getItem_tuple_back ht (Heap.IsSliceOf.new _ vl vu vs) pl pu pz ?_ (by rw [List.size_toArray]; omega)
    refine ⟨.ref _, _, I5.laid (t' := s4.toks) (o := .tup xs.reverse) (fun b ob q => Heap.get?_push_of_some _ q) (Nat.le_refl _) ?_, rfl, q _ (I5.hok.fresh (Nat.le_refl _))⟩
    exact ⟨by rw [List.length_reverse]; exact hz, _, r.reverse, IsTup.new _ _⟩

/-! ### len(set(t)) of a tuple of different ints -/
theorem count_same {es : List Int} {ns : List Int} (h : es.Nodup) (hn : ns.Nodup) (hm : ∀ k, decide (k ∈ ns) = true ↔ k ∈ es) : es.length = ns.length :=
  ((List.perm_ext_iff_of_nodup h hn).mpr fun k => ⟨fun z => of_decide_eq_true ((hm k).mpr z), fun z => (hm k).mp (decide_eq_true z)⟩).length_eq
def tLenSetT (K : PySem.W.Frag) (ta : TE) : TE := fun σ H Q => ta σ H fun x H1 => ∃ (l : Addr) (ns : List Int), x = V.ref l ∧ SqT K H1 l (ns.map V.int) ∧ ns.length < 4000 ∧ ns.Nodup ∧ Q (.int ns.length) H1
theorem pe_lenSetT {a : Expr} {ta : TE} {p p2 q pos : Pos} (hc : X.calm = true) (hg : Gl X "len") (hm : X.mg "len" = none) (hg2 : Gl X "set") (hm2 : X.mg "set" = none) (ha : PE X a ta)
    (na : starEach [a] X.env = (false, eval a X.env) :: starEach [] X.env) : PE X (.Call (.Name "len" p) [.Call (.Name "set" p2) [a] [] q] [] pos) (tLenSetT X.K ta) := by
  refine ⟨fun pins s σ H Q I h => ?_⟩
  refine Call_ (ld_blt I hg hm PySem.boot_len ?_)
  refine PyProof.Rows.callWith_builtin1 (PyProof.Rows.args_cons ?_ rfl) rfl rfl
  refine Call_ (ld_blt I hg2 hm2 PyProof.Rows.boot_set ?_)
  refine PyProof.Rows.callWith_type1 (PyProof.Rows.args_cons (thn (ha.run pins s σ H _ I h) fun v s1 ⟨x, H1, I1, r1, q1⟩ => PyProof.Rows.args_nil ?_) na) na ?_
  · obtain ⟨l, ns, rfl, hq, h1, hnd, q1⟩ := q1
    cases r1
    obtain ⟨its, r, pl, hz⟩ := I1.tuple hq
    refine call_set_tupI ns (I1.ok.hd hc) pl (by simpa using r.ints) (by unfold scanBound; omega) fun h' tk c hS hcn hk => ?_
    refine PyProof.Rows.args_nil ?_
    obtain ⟨o, es, ep, t, ho, hex, hd, _, hnd2, hmem, _, hf, hn, _⟩ := hS
    have I2 : Inv X pins σ H1 { s1 with heap := h', toks := tk } := I1.kept fun b o e => hk b o e
    have ec : es.size = ns.length := by
      have := count_same hnd2 hnd hmem
      rw [List.length_map, Array.length_toList] at this
      exact this
    exact call_len_set ho hex hd hf (by rw [ec]; omega) ⟨.int ns.length, H1, I2.tok _, ⟨_, by rw [ec]⟩, q1⟩
  · rfl
end
end Y
namespace Y
open PySem PySem.Spec PyProof.Rows L2

/-! ### objects -/
theorem lookup_zip {f : Str} : ∀ {ns : List Str} {vs : List V} {v : V}, ns.idxOf f < ns.length → vs[ns.idxOf f]? = some v → (ns.zip vs).lookup f = some v
  | [], vs, v, h, e => absurd h (Nat.not_lt_zero _)
  | n :: ns, [], v, h, e => by simp at e
  | n :: ns, w :: vs, v, h, e => by
    show List.lookup f ((n, w) :: ns.zip vs) = some v
    rw [List.lookup_cons]
    rw [List.idxOf_cons] at h e
    by_cases q : n = f
    · subst q
      rw [show (n == n) = true from beq_self_eq_true _] at e ⊢
      simpa using e
    · have q1 : (n == f) = false := beq_eq_false_iff_ne.mpr q
      have q2 : (f == n) = false := beq_eq_false_iff_ne.mpr (Ne.symm q)
      rw [q1] at h e
      rw [q2]
      simp only [cond_false] at h e
      exact lookup_zip (by simpa using h) (by simpa using e)
theorem lookup_none {f : Str} : ∀ {ns : List Str} {vs : List V}, f ∉ ns → (ns.zip vs).lookup f = none
  | [], vs, h => rfl
  | n :: ns, [], h => rfl
  | n :: ns, w :: vs, h => by
    show List.lookup f ((n, w) :: ns.zip vs) = none
    rw [List.lookup_cons, show (f == n) = false from beq_eq_false_iff_ne.mpr fun z => h (by rw [z]; exact List.mem_cons_self ..)]
    exact lookup_none fun z => h (List.mem_cons_of_mem _ z)
theorem RepFl.at {K : PySem.W.Frag} {ct : Ct} {S H : Hp} : ∀ {ms : M} {F : Pm} {ds : List D} {vs : List V} {i : Nat} {m : M} {d : D}, RepFl K ct S H ms F ds vs → mAt ms i = some m → ds[i]? = some d →
    ∃ (v : V) (F1 F2 : Pm), vs[i]? = some v ∧ (∀ a, F1 a → F a) ∧ (∀ a, F2 a → F a) ∧ (∀ a, F1 a → F2 a → False) ∧ RepM K ct S H m F1 d v ∧
      ∀ (S2 H2 : Hp) (G : Pm) (d' : D), Same S S2 → (∀ a, F2 a → H2 a = H a) → (∀ a, G a → ¬ F2 a) → RepM K ct S2 H2 m G d' v → RepFl K ct S2 H2 ms (fun a => G a ∨ F2 a) (ds.set i d') vs
  | .fnil, F, ds, vs, i, m, d, h, hm, e => by
    cases i <;> cases hm
  | .fcons m0 ms, F, ds, vs, 0, m, d, h, hm, e => by
    cases hm
    unfold RepFl at h
    obtain ⟨d0, ds', v, vs', F1, F2, rfl, rfl, h1, h2, h3, h4, h5⟩ := h
    simp only [List.getElem?_cons_zero, Option.some.injEq] at e
    subst e
    refine ⟨v, F1, F2, rfl, h1, h2, h3, h4, fun S2 H2 G d' e1 e2 e3 q => ?_⟩
    show RepFl K ct S2 H2 (.fcons _ ms) _ (d' :: ds') (v :: vs')
    unfold RepFl
    exact ⟨d', ds', v, vs', G, F2, rfl, rfl, fun a z => .inl z, fun a z => .inr z, e3, q, RepFl.mono e1 e2 h5⟩
  | .fcons m0 ms, F, ds, vs, i + 1, m, d, h, hm, e => by
    unfold RepFl at h
    obtain ⟨d0, ds', v, vs', F1, F2, rfl, rfl, h1, h2, h3, h4, h5⟩ := h
    obtain ⟨w, G1, G2, e1, g1, g2, g3, g4, g5⟩ := RepFl.at (i := i) (m := m) (d := d) h5 hm (by simpa using e)
    refine ⟨w, G1, fun a => F1 a ∨ G2 a, by simpa using e1, fun a z => h2 a (g1 a z), fun a z => z.elim (h1 a) fun z => h2 a (g2 a z), fun a z y => y.elim (fun y => h3 a y (g1 a z)) (g3 a z), g4, fun S2 H2 G d' e1 e2 e3 q => ?_⟩
    show RepFl K ct S2 H2 (.fcons m0 ms) _ (d0 :: ds'.set i d') (v :: vs')
    unfold RepFl
    refine ⟨d0, _, v, vs', F1, fun a => G a ∨ G2 a, rfl, rfl, fun a z => .inr (.inl z), fun a z => z.elim .inl fun z => .inr (.inr z), fun a z y => y.elim (fun y => e3 a y (.inl z)) fun y => h3 a z (g2 a y), h4.mono e1 fun a z => e2 a (.inl z), g5 S2 H2 G d' e1 (fun a z => e2 a (.inr z)) (fun a z y => e3 a z (.inr y)) q⟩
  | .s, F, ds, vs, i, m, d, h, hm, e => by cases i <;> cases hm
  | .o _, F, ds, vs, i, m, d, h, hm, e => by cases i <;> cases hm
  | .dk, F, ds, vs, i, m, d, h, hm, e => by cases i <;> cases hm
  | .dt, F, ds, vs, i, m, d, h, hm, e => by cases i <;> cases hm
  | .ins _ _ _, F, ds, vs, i, m, d, h, hm, e => by cases i <;> cases hm

section
variable {T : List FSpec} {ct : Ct} {pins : List (Nat × V)} {a b c r p e o : C}
theorem E_gint (x : Str) (i : Int) : EOk T ct pins (.gint x i) := by
  intro X Z k hX ex h
  unfold mE at h
  split at h
  · simp only [Bool.and_eq_true, decide_eq_true_eq] at h
    obtain ⟨⟨⟨rfl, h1⟩, h2⟩, h3⟩ := h
    obtain ⟨t, ht⟩ := hX.gis (x, i) (List.contains_iff_mem.mp h1)
    have hd : (x == ("__debug__" : Str)) = false := by
      unfold SC.plain at h3
      simp only [Bool.and_eq_true, Bool.not_eq_true'] at h3
      exact h3.1.1.1
    refine PE.imp (pe_glob (v := .int i) (glo_of hX h2) ht ⟨t, rfl⟩ hd) fun σ H Q ⟨R, ρ, S, F, h, I, q⟩ => ?_
    exact q.val I (Tr.refl fun _ z => z) (rInt _) h
  · cases h
theorem E_fld (f : Str) (ho : EOk T ct pins o) : EOk T ct pins (.fld o f) := by
  intro X Z k hX ex h
  unfold mE at h
  split at h
  · simp only [Bool.and_eq_true, decide_eq_true_eq] at h
    obtain ⟨⟨rfl, h1⟩, h2⟩ := h
    refine PE.imp (pe_fld (ho hX _ h2) (ok_base (mE_ok h2) _)) fun σ H Q ⟨R, ρ, S, F, h, I, q⟩ => ?_
    refine tE.sh (by unfold wE at h; exact h) I (Tr.refl fun _ z => z) fun v1 H1 S1 ρ1 F1 m1 d1 w1 I1 r1 t1 s1 => ?_
    unfold fldD at w1
    split at w1
    · obtain ⟨d, g1, g2, g3⟩ := w1
      unfold Rep at r1
      obtain ⟨x, C, dx, vs, rfl, e2, e3, e4, e5, e6⟩ := r1
      obtain ⟨v, f1, f2⟩ := e6.get g2
      exact ⟨x, C, dx, _, v, rfl, I1.sub _ _ e3, (hX.cls _ C e2).1, (hX.cls _ C e2).2 _ (List.contains_iff_mem.mp h1), lookup_zip g1 f1, q.val I1 t1 f2 g3⟩
    · exact w1.elim
  · cases h
theorem B_bfld (f : Str) (hp : BOk T ct pins p) : BOk T ct pins (.bfld p f) := by
  intro X Z k hX ex h
  unfold mE at h
  split at h
  · simp only [Bool.and_eq_true, decide_eq_true_eq] at h
    obtain ⟨⟨rfl, h1⟩, h2⟩ := h
    refine PE.imp (pe_fld (hp hX _ h2) (ok_base (mE_ok h2) _)) fun σ H Q ⟨R, ρ, S, F, h, I, q⟩ => ?_
    unfold wB at h
    refine ⟨_, ρ, S, F, h, I, fun v1 H1 S1 ρ1 F1 m1 d1 put G w1 I1 r1 hG L1 t1 => ?_⟩
    have hfl : ∀ c C, ct c = some C → Cls X.K C ∧ NoAttr X.K C f := fun c C e => ⟨(hX.cls c C e).1, (hX.cls c C e).2 _ (List.contains_iff_mem.mp h1)⟩
    unfold fldB at w1
    split at w1
    · rename_i c ns ms c' ns' vs
      obtain ⟨m', d, g1, g2, g3, g4⟩ := w1
      unfold RepM at r1
      obtain ⟨x, C, dx, ws, ds, F', e1, rfl, e3, e4, e5, e6, e7, e8, e9, e10, e11⟩ := r1
      cases e1
      obtain ⟨v, F3, F4, f1, f2, f3, f4, f5, f6⟩ := e11.at g2 g3
      refine ⟨x, C, dx, _, v, rfl, e7, (hfl _ C e3).1, (hfl _ C e3).2, lookup_zip g1 f1, ?_⟩
      have inG : ∀ a, F3 a → G a := fun a z => (e10 a (f2 a z)).1
      refine q v H1 S1 ρ1 F1 m' d _ F3 g4 I1 f5 (fun a z => hG a (inG a z)) (Lens.then (m := .ins c ns ms) hG inG (fun _ z => nomatch z) L1 fun hm S2 H2 G2 d2 k1 k2 k3 k4 => ?_) t1
      have nx : ¬ F3 x := fun z => (e10 x (f2 x z)).2.1 rfl
      have nd : ¬ F3 dx := fun z => (e10 dx (f2 dx z)).2.2 rfl
      unfold RepM
      refine ⟨x, C, dx, ws, _, fun a => G2 a ∨ F4 a, rfl, rfl, e3, .inr ⟨e4, nx⟩, .inr ⟨e5, nd⟩, e6, by rw [k2 x e4 nx]; exact e7, by rw [k2 dx e5 nd]; exact e8, e9, fun b z => ?_, ?_⟩
      · rcases z with z | z
        · exact ⟨.inl z, fun y => by rw [y] at z; exact nx (k3 x z e4), fun y => by rw [y] at z; exact nd (k3 dx z e5)⟩
        · exact ⟨.inr ⟨(e10 b (f3 b z)).1, fun y => f4 b y z⟩, (e10 b (f3 b z)).2⟩
      · exact f6 S2 H2 G2 d2 k1 (fun b z => k2 b (e10 b (f3 b z)).1 fun y => f4 b y z) (fun b z y => f4 b (k3 b z (e10 b (f3 b y)).1) y) k4
    · unfold RepM at r1
      unfold fldD at w1
      split at w1
      · obtain ⟨d, g1, g2, g3⟩ := w1
        unfold Rep at r1
        obtain ⟨x, C, dx, vs, rfl, e2, e3, e4, e5, e6⟩ := r1
        obtain ⟨v, f1, f2⟩ := e6.get g2
        refine ⟨x, C, dx, _, v, rfl, I1.sub _ _ e3, (hfl _ C e2).1, (hfl _ C e2).2, lookup_zip g1 f1, ?_⟩
        obtain ⟨mr, dr, vr, l1, l2, l3⟩ := L1
        exact q v H1 S1 ρ1 F1 .s d _ (fun _ => False) g3 I1 (by unfold RepM; exact f2) (fun _ z => z.elim) ⟨mr, dr, vr, l1, l2, fun z => absurd rfl z⟩ t1
      · exact w1.elim
    · exact w1.elim
  · cases h
theorem ArgsOk.consS {K : PySem.W.Frag} {S H : Hp} {σ : L2.St} {ρ : Env} {F : Sl → Pm} {ms : List M} {ds : List D} {rs : List (Option Nat)} {vs : List V} {Gs : Nat → Pm} {d : D} {v : V} (A : ArgsOk K ct S H σ ρ F ms ds rs vs Gs) (h : Rep K ct S d v) :
    ArgsOk K ct S H σ ρ F (.s :: ms) (d :: ds) (none :: rs) (v :: vs) (shiftG (fun _ => False) Gs) := by
  refine ⟨?_, ?_, ?_, fun i m d v h1 h2 h3 h4 => ?_, fun i r h => ?_, fun i j a' h1 h2 => ?_, fun i a' h => ?_, fun i j r h1 h2 => ?_⟩
  · rw [List.length_cons, List.length_cons, A.l1]
  · rw [List.length_cons, List.length_cons, A.l2]
  · rw [List.length_cons, List.length_cons, A.l3]
  · cases i with
    | zero =>
      simp only [List.getElem?_cons_zero, Option.some.injEq] at h1 h2 h3
      subst h1 h2 h3
      exact ⟨by unfold RepM; exact h, fun _ z => z.elim⟩
    | succ i =>
      simp only [List.getElem?_cons_succ] at h1 h2 h3 h4
      exact A.own i m d v h1 h2 h3 h4
  · cases i with
    | zero => simp at h
    | succ i =>
      simp only [List.getElem?_cons_succ] at h
      obtain ⟨m, d, v, g⟩ := A.bor i r h
      exact ⟨m, d, v, by simp only [List.getElem?_cons_succ]; exact g⟩
  · cases i with
    | zero => exact h1.elim
    | succ i =>
      cases j with
      | zero => exact h2.elim
      | succ j => rw [A.dj i j a' h1 h2]
  · cases i with
    | zero => exact h.elim
    | succ i =>
      have := A.few i a' h
      rw [List.length_cons]
      omega
  · cases i with
    | zero => simp at h1
    | succ i =>
      cases j with
      | zero => simp at h2
      | succ j =>
        simp only [List.getElem?_cons_succ] at h1 h2
        rw [A.inj i j r h1 h2]
theorem all_not {l : List (Bool × Sem Value)} (h : l.any (·.1) = false) : l.all (fun x => !x.1) = true := by
  induction l with
  | nil => rfl
  | cons a l ih =>
    rw [List.any_cons, Bool.or_eq_false_iff] at h
    rw [List.all_cons, h.1, ih h.2]
    rfl
theorem meth_form {o : Expr} {m : Str} {apos pos : Pos} {es : List Expr} {env : PySem.Env} (hbase : attributeBase o m env (eval o env) = eval o env) (hp : (backTo pos (starEach es env)).any (·.1) = false) (hl : es.length < 20) (hline : (apos.endLine == pos.line) = true) :
    ∃ pl, eval (.Call (.Attribute o m apos) es [] pos) env = (do
      let ov ← eval o env
      standAt apos.atName
      let (f, first) ← holding [ov] (getMethod ov m pl)
      callWith pos f first (backTo pos (starEach es env)) (backToKw pos (keywordEach [] env))) := by
  have hf : methodCallForm (es.length + ([] : List Keyword).length) (backTo pos (starEach es env)) (backToKw pos (keywordEach [] env)) = true := by
    unfold methodCallForm
    rw [all_not hp]
    show (true && true && decide (es.length + 0 + 0 < 30)) = true
    rw [decide_eq_true (by omega)]
    rfl
  have hpos : methodCallPos true o env apos pos = pure pos := by
    unfold methodCallPos
    simp [hline]
  refine ⟨(do return (← importBound o env).getD true), ?_⟩
  rw [arm_eval_Call, hbase]
  unfold methodCall
  rw [hf, hpos]
  rfl
theorem E_meth (cn mn : Str) (j : Nat) (ho : EOk T ct pins o) (ha : AOk T ct pins a) : EOk T ct pins (.meth cn mn j o a) := by
  intro X Z k hX ex h
  unfold mE at h
  split at h
  · rename_i b g ap xs cp
    simp only [Bool.and_eq_true, decide_eq_true_eq] at h
    obtain ⟨⟨⟨⟨⟨⟨rfl, h1⟩, h2⟩, hl⟩, h3⟩, h4⟩, h5⟩ := h
    cases hT : T[j]? with
    | none =>
      refine PE.no fun σ H Q ⟨R, ρ, S, F, h, I, q⟩ => ?_
      unfold wE at h
      rw [hT] at h
      exact h
    | some sp =>
      obtain ⟨x', kd, e1, ek, ent⟩ := hX.fns j sp hT
      rw [h1] at e1
      rw [h2] at ek
      cases e1
      cases ek
      obtain ⟨C, f, fd, ps, c1, c2, c3, c4, c5⟩ := ent
      have run : ∀ {t : TA} {σ H Q}, (∀ σ H (Q : List V → Hp → Prop), tA X.K ct T pins sp.pm.tail a σ H Q → t σ H Q) → tE X.K ct T pins (.meth cn mn j o a) σ H Q → tMeth C mn (SpOf X.K ct sp) [] E0 (tE X.K ct T pins o) t σ H Q := by
        intro t σ H Q ht ⟨R, ρ, S, F, h, I, q⟩
        unfold wE at h
        rw [hT] at h
        dsimp only at h
        split at h
        · rename_i ms hpm
          refine tE.sh h I (Tr.refl fun _ z => z) fun v1 H1 S1 ρ1 F1 m1 d1 w1 I1 r1 t1 s1 => ?_
          split at w1
          · rename_i c' ns ds
            obtain ⟨w2, w3, w4⟩ := w1
            subst w2
            have r0 := r1
            unfold Rep at r1
            obtain ⟨x, C', dx, vs, rfl, e2, e3, e4, e5, e6⟩ := r1
            rw [c1] at e2
            cases e2
            refine ⟨x, dx, _, rfl, I1.sub _ _ e3, lookup_none w3, ht _ _ _ ⟨_, ρ1, S1, F1, by rw [hpm]; exact w4, I1, fun vs2 H2 S2 ρ2 F2 ds2 rs Gs w5 I2 A2 t2 => ?_⟩⟩
            show SpOf X.K ct sp (V.ref x :: (vs2 ++ [])) H2 Q E0
            rw [List.append_nil]
            rw [hpm] at A2
            have A3 := A2.consS (r0.mono t2.ss)
            rw [show M.s :: (M.s :: ms).tail = sp.pm from hpm.symm] at A3
            refine call_fin I2 A3 ((t1.trans0 t2).sub fun a z => ?_) w5 q
            rcases z with ⟨i, z⟩ | z
            · cases i with
              | zero => exact z.elim
              | succ i => exact .inl ⟨i, z⟩
            · exact .inr z
          · exact w1.elim
        · exact h.elim
      obtain ⟨pl, hform⟩ := meth_form (ok_base (env := X.env) (mE_ok h3) mn) (ok_plain (env := X.env) (pos := cp) h4) h5 hl
      cases xs with
      | nil =>
        refine PE.imp (pe_methG0 (pl := pl) (E := E0) (ho hX _ h3) c2 c3 c5 hX.gd hX.room c4 ?_) fun σ H Q hq => run (fun σ H Q hq => ?_) hq
        · exact hform
        · cases a with
          | nil =>
            obtain ⟨R, ρ, S, F, h, I, q⟩ := hq
            cases hms : sp.pm.tail with
            | nil =>
              rw [hms] at h q
              refine q [] H S ρ F [] [] (fun _ _ => False) h I ⟨rfl, rfl, rfl, fun i m d v h => by simp at h, fun i r h => by simp at h, fun i j a h => h.elim, fun i a h => h.elim, fun i j r h => by simp at h⟩ (Tr.refl fun a z => ?_)
              rcases z with ⟨i, z⟩ | z
              · exact z.elim
              · exact z
            | cons _ _ =>
              rw [hms] at h
              exact False.elim h
          | cons _ _ => cases h4
          | _ => cases h4
      | cons y ys =>
        refine PE.imp (pe_methG (pl := pl) (E := E0) (ho hX _ h3) c2 c3 c5 hX.gd hX.room c4 (ha hX _ _ h4) ?_ ?_ ?_) fun σ H Q hq => run (fun σ H Q hq => hq) hq
        · cases a with
          | cons a1 a2 =>
            unfold mL at h4
            simp only [Bool.and_eq_true] at h4
            exact ok_star (mE_ok h4.1) _
          | _ => cases h4
        · cases a with
          | cons a1 a2 =>
            unfold mL at h4
            simp only [Bool.and_eq_true] at h4
            exact ok_plain h4.2
          | _ => cases h4
        · exact hform
  · cases h
theorem ne_nil {xs : List Expr} (h : (!xs.isEmpty) = true) : ∃ y ys, xs = y :: ys := by
  cases xs with
  | nil => cases h
  | cons y ys => exact ⟨y, ys, rfl⟩
theorem E_make (cn : Str) (j : Nat) (ha : AOk T ct pins a) : EOk T ct pins (.make cn j a) := by
  intro X Z k hX ex h
  unfold mE at h
  split at h
  · rename_i x pn xs pos
    simp only [Bool.and_eq_true, decide_eq_true_eq] at h
    obtain ⟨⟨⟨⟨⟨rfl, h1⟩, h2⟩, h3⟩, h4⟩, h5⟩ := h
    obtain ⟨y, ys, rfl⟩ := ne_nil h5
    cases hT : T[j]? with
    | none =>
      refine PE.no fun σ H Q ⟨R, ρ, S, F, h, I, q⟩ => ?_
      unfold wE at h
      rw [hT] at h
      exact h
    | some sp =>
      obtain ⟨x', kd, e1, ek, ent⟩ := hX.fns j sp hT
      rw [h1] at ek
      cases ek
      obtain ⟨C, f, fd, ps, k', hk, c1, c2, c3, c4, c5⟩ := ent
      have hd : (cn == ("__debug__" : Str)) = false := by
        unfold SC.plain at h3
        simp only [Bool.and_eq_true, Bool.not_eq_true'] at h3
        exact h3.1.1.1
      refine PE.imp (pe_makeG (E := E0) c2 c5 hX.gd (hX.room.mono hk) (glo_of hX h2) c3 c4 (ha hX sp.pm _ h4) hd ?_ ?_) fun σ H Q ⟨R, ρ, S, F, h, I, q⟩ => ?_
      · cases a with
        | cons a1 a2 =>
          unfold mL at h4
          simp only [Bool.and_eq_true] at h4
          exact ok_star (mE_ok h4.1) _
        | _ => cases h4
      · cases a with
        | cons a1 a2 =>
          unfold mL at h4
          simp only [Bool.and_eq_true] at h4
          exact ok_plain h4.2
        | _ => cases h4
      · unfold wE at h
        rw [hT] at h
        refine ⟨_, ρ, S, F, h, I, fun vs H2 S2 ρ2 F2 ds rs Gs w2 I2 A2 t2 => ?_⟩
        intro x dx hx hdx hne
        refine ⟨x, dx, vs ++ [], H2, Q, rfl, hx, hdx, hne, rfl, ?_, fun H3 hq => ⟨rfl, hq⟩⟩
        rw [List.append_nil]
        exact call_fin I2 A2 t2 w2 q
  · cases h
theorem E_isb (ha : EOk T ct pins a) : EOk T ct pins (.isb a) := by
  intro X Z k hX ex h
  unfold mE at h
  split at h
  · rename_i x px y z pz pos
    simp only [Bool.and_eq_true, decide_eq_true_eq] at h
    obtain ⟨⟨⟨⟨rfl, h1⟩, rfl⟩, h2⟩, h3⟩ := h
    have st : starEach [Expr.Name ("bool" : Str) pz] X.env = (false, eval (Expr.Name ("bool" : Str) pz) X.env) :: starEach [] X.env := rfl
    refine PE.imp (pe_callB call_isi (glo_of hX h1) (hX.free _ (by decide +kernel)) (by decide +kernel) (pa_cons (ha hX _ h3) (pa_cons (pe_bltn (v := .ty "bool") (u := .type "bool") (glo_of hX h2) (hX.free _ (by decide +kernel)) (by decide +kernel) rfl) pa_nil st) (ok_star (mE_ok h3) _)) (by decide +kernel) (by decide +kernel) (ok_star (mE_ok h3) _) (by rw [st]; rfl)) fun σ H Q ⟨R, ρ, S, F, h, I, q⟩ => ?_
    refine tE.sh (by unfold wE at h; exact h) I (Tr.refl fun _ z => z) fun v1 H1 S1 ρ1 F1 m1 d1 w1 I1 r1 t1 s1 => ?_
    obtain ⟨w1, w2⟩ := w1
    have fin : ∀ b, b = isBl d1 → Q (.bl b) H1 := fun b e => q.val I1 t1 (rBl b) (by rw [e]; exact w2)
    cases d1 with
    | non =>
      unfold Rep at r1
      subst r1
      exact ⟨.non, .ty "bool", _, _, false, rfl, .ty "bool", .base .non, kit_ty (by decide +kernel), fin _ rfl⟩
    | bl y =>
      unfold Rep at r1
      subst r1
      exact ⟨.bl y, .ty "bool", _, _, true, rfl, .ty "bool", .base (.bl y), kit_ty (by decide +kernel), fin _ rfl⟩
    | int y =>
      unfold Rep at r1
      subst r1
      exact ⟨.int y, .ty "bool", _, _, false, rfl, .ty "bool", .base (.int y), kit_ty (by decide +kernel), fin _ rfl⟩
    | str y =>
      unfold Rep at r1
      subst r1
      exact ⟨.str y, .ty "bool", _, _, false, rfl, .ty "bool", .base (.str y), kit_ty (by decide +kernel), fin _ rfl⟩
    | _ => cases w1
  · cases h
theorem ArgsOk.nil {K : PySem.W.Frag} {S H : Hp} {σ : L2.St} {ρ : Env} {F : Sl → Pm} : ArgsOk K ct S H σ ρ F [] [] [] [] (fun _ _ => False) :=
  ⟨rfl, rfl, rfl, fun i m d v h => by simp at h, fun i r h => by simp at h, fun i j a h => h.elim, fun i a h => h.elim, fun i j r h => by simp at h⟩
theorem E_prop (cn mn : Str) (j : Nat) (ho : EOk T ct pins o) : EOk T ct pins (.prop cn mn j o) := by
  intro X Z k hX ex h
  unfold mE at h
  split at h
  · rename_i b g ap
    simp only [Bool.and_eq_true, decide_eq_true_eq] at h
    obtain ⟨⟨⟨rfl, h1⟩, h2⟩, h3⟩ := h
    cases hT : T[j]? with
    | none =>
      refine PE.no fun σ H Q ⟨R, ρ, S, F, h, I, q⟩ => ?_
      unfold wE at h
      rw [hT] at h
      exact h
    | some sp =>
      obtain ⟨x', kd, e1, ek, ent⟩ := hX.fns j sp hT
      rw [h1] at e1
      rw [h2] at ek
      cases e1
      cases ek
      obtain ⟨C, pp, f, fd, ps, k', hk, c1, c2, c3, c4, c5⟩ := ent
      refine PE.imp (pe_propG (a := 0) (dx := 0) (E := E0) (ho hX _ h3) c2 c3 c5 hX.gd (hX.room.mono hk) c4 (ok_base (mE_ok h3) _)) fun σ H Q ⟨R, ρ, S, F, h, I, q⟩ => ?_
      unfold wE at h
      rw [hT] at h
      dsimp only at h
      split at h
      · rename_i hpm
        refine tE.sh h I (Tr.refl fun _ z => z) fun v1 H1 S1 ρ1 F1 m1 d1 w1 I1 r1 t1 s1 => ?_
        split at w1
        · rename_i c' ns ds
          obtain ⟨w2, w3⟩ := w1
          subst w2
          have r0 := r1
          unfold Rep at r1
          obtain ⟨x, C', dx, vs, rfl, e2, e3, e4, e5, e6⟩ := r1
          rw [c1] at e2
          cases e2
          refine ⟨x, dx, _, rfl, I1.sub _ _ e3, ?_⟩
          have A3 := (ArgsOk.nil (ct := ct) (K := X.K) (S := S1) (H := H1) (σ := σ) (ρ := ρ1) (F := F1)).consS r0
          rw [show ([.s] : List M) = sp.pm from hpm.symm] at A3
          refine call_fin I1 A3 (t1.sub fun a z => ?_) w3 q
          rcases z with ⟨i, z⟩ | z
          · cases i <;> exact z.elim
          · exact z
        · exact w1.elim
      · exact h.elim
  · cases h
theorem E_rev (hb : EOk T ct pins a) (hp : BOk T ct pins a) : EOk T ct pins (.rev a) := by
  intro X Z k hX ex h
  unfold mE at h
  split at h
  · by_cases hq : a.isP = true
    · refine PE.imp (pe_revA (hp hX _ h)) fun σ H Q ⟨R, ρ, S, F, h, I, q⟩ => ?_
      unfold wE at h
      rw [hq] at h
      refine ⟨_, ρ, S, F, h, I, fun v1 H1 S1 ρ1 F1 m1 d1 put G w1 I1 r1 hG L1 t1 => ?_⟩
      split at w1
      · obtain ⟨b, vs, rfl, e2, e3⟩ := r1.lstS w1.1 I1.sub
        exact .inl ⟨b, vs, rfl, SqL.of e2, fun p hp => (q.kt I1 t1).newL I1.sub e3.reverse w1.2 hp⟩
      · exact w1.elim
    · refine PE.imp (pe_revA (hb hX _ h)) fun σ H Q ⟨R, ρ, S, F, h, I, q⟩ => ?_
      unfold wE at h
      rw [Bool.not_eq_true] at hq
      rw [hq] at h
      refine tE.sh h I (Tr.refl fun _ z => z) fun v1 H1 S1 ρ1 F1 m1 d1 w1 I1 r1 t1 s1 => ?_
      split at w1
      · unfold Rep at r1
        obtain ⟨b, vs, rfl, e2, e3⟩ := r1
        exact .inl ⟨b, vs, rfl, SqL.of (I1.sub _ _ e2), fun p hp => (q.kt I1 t1).newL I1.sub e3.reverse w1 hp⟩
      · unfold Rep at r1
        obtain ⟨b, vs, rfl, e2, e3⟩ := r1
        exact .inr ⟨b, vs, rfl, Same.seqT I1.sub e2, fun p hp => (q.kt I1 t1).newT I1.sub e3.reverse w1 hp⟩
      · exact w1.elim
  · cases h
theorem E_lenset (ha : EOk T ct pins a) : EOk T ct pins (.lenset a) := by
  intro X Z k hX ex h
  unfold mE at h
  split at h
  · simp only [Bool.and_eq_true, decide_eq_true_eq] at h
    obtain ⟨⟨⟨⟨rfl, h1⟩, rfl⟩, h2⟩, h3⟩ := h
    refine PE.imp (pe_lenSetT hX.calm (glo_of hX h1) (hX.free _ (by decide +kernel)) (glo_of hX h2) (hX.free _ (by decide +kernel)) (ha hX _ h3) (ok_star (mE_ok h3) _)) fun σ H Q ⟨R, ρ, S, F, h, I, q⟩ => ?_
    refine tE.sh (by unfold wE at h; exact h) I (Tr.refl fun _ z => z) fun v1 H1 S1 ρ1 F1 m1 d1 w1 I1 r1 t1 s1 => ?_
    obtain ⟨ns, rfl, l1, l2, w1⟩ := w1
    unfold Rep at r1
    obtain ⟨b, vs, rfl, e2, e3⟩ := r1
    have e5 := e3.ints
    subst e5
    exact ⟨b, ns, rfl, Same.seqT I1.sub e2, l1, l2, q.val I1 t1 (rInt _) w1⟩
  · cases h
theorem isT_read {K : PySem.W.Frag} {S H : Hp} {t : Ty5} {d : D} {v : V} (hs : Same S H) (hr : Rep K ct S d v) (hc : d.common = true) : ∃ ty, TyX K H v ty ∧ PySem.W.kitOne K ty (.type t.nm) = some (isTy t d) := by
  cases d with
  | non =>
    unfold Rep at hr
    subst hr
    exact ⟨_, .base .non, kit_ty (by cases t <;> first | (show kitB _ _ = some true; decide +kernel) | (show kitB _ _ = some false; decide +kernel))⟩
  | bl b =>
    unfold Rep at hr
    subst hr
    exact ⟨_, .base (.bl b), kit_ty (by cases t <;> first | (show kitB _ _ = some true; decide +kernel) | (show kitB _ _ = some false; decide +kernel))⟩
  | int b =>
    unfold Rep at hr
    subst hr
    exact ⟨_, .base (.int b), kit_ty (by cases t <;> first | (show kitB _ _ = some true; decide +kernel) | (show kitB _ _ = some false; decide +kernel))⟩
  | str b =>
    unfold Rep at hr
    subst hr
    exact ⟨_, .base (.str b), kit_ty (by cases t <;> first | (show kitB _ _ = some true; decide +kernel) | (show kitB _ _ = some false; decide +kernel))⟩
  | lst ds =>
    unfold Rep at hr
    obtain ⟨a, vs, rfl, e2, _⟩ := hr
    exact ⟨_, .base (.lst (hs _ _ e2)), kit_ty (by cases t <;> first | (show kitB _ _ = some true; decide +kernel) | (show kitB _ _ = some false; decide +kernel))⟩
  | tup ds =>
    unfold Rep at hr
    obtain ⟨a, vs, rfl, e2, _⟩ := hr
    have kt : PySem.W.kitOne K (.type "tuple") (.type t.nm) = some (isTy t (.tup ds)) := kit_ty (by cases t <;> first | (show kitB _ _ = some true; decide +kernel) | (show kitB _ _ = some false; decide +kernel))
    rcases e2 with (e2 | ⟨o, e2⟩) | ⟨o, its, n, l1, l2, _⟩
    · exact ⟨_, .base (.tup (hs _ _ e2)), kt⟩
    · exact ⟨_, .fTuple (hs _ _ e2), kt⟩
    · exact ⟨_, .kTuple l1 l2, kt⟩
  | _ => cases hc
theorem E_isT (t : Ty5) (ha : EOk T ct pins a) (hp : BOk T ct pins a) : EOk T ct pins (.isT t a) := by
  intro X Z k hX ex h
  unfold mE at h
  split at h
  · rename_i x px y z pz pos
    simp only [Bool.and_eq_true, decide_eq_true_eq] at h
    obtain ⟨⟨⟨⟨rfl, h1⟩, rfl⟩, h2⟩, h3⟩ := h
    have st : starEach [Expr.Name (t.nm : Str) pz] X.env = (false, eval (Expr.Name (t.nm : Str) pz) X.env) :: starEach [] X.env := rfl
    have fr : X.mg (t.nm : Str) = none := hX.free _ (by cases t <;> decide +kernel)
    have nm := pe_bltn (X := X) (pos := pz) (v := .ty t.nm) (u := .type t.nm) (glo_of hX h2) fr (by cases t <;> decide +kernel) rfl (by cases t <;> decide +kernel) (by cases t <;> decide +kernel)
    have rule : ∀ {te : TE}, PE X y te → PE X (.Call (.Name "isinstance" px) [y, .Name (t.nm : Str) pz] [] pos) (tCB (rIsi X.K) (tCons te (tCons _ tNil))) := fun hy =>
      pe_callB call_isi (glo_of hX h1) (hX.free _ (by decide +kernel)) (by decide +kernel) (pa_cons hy (pa_cons nm pa_nil st) (ok_star (mE_ok h3) _)) (by decide +kernel) (by decide +kernel) (ok_star (mE_ok h3) _) (by rw [st]; rfl)
    by_cases hq : a.isP = true
    · refine PE.imp (rule (hp hX _ h3)) fun σ H Q ⟨R, ρ, S, F, h, I, q⟩ => ?_
      unfold wE at h
      rw [hq] at h
      refine ⟨_, ρ, S, F, h, I, fun v1 H1 S1 ρ1 F1 m1 d1 put G w1 I1 r1 hG L1 t1 => ?_⟩
      obtain ⟨ty, g1, g2⟩ := isT_read (t := t) (Same.refl _) (r1.rd I1.sub) w1.1
      exact ⟨v1, .ty t.nm, _, _, isTy t d1, rfl, .ty t.nm, g1, g2, (q.kt I1 t1).val I1.sub (rBl _) w1.2⟩
    · refine PE.imp (rule (ha hX _ h3)) fun σ H Q ⟨R, ρ, S, F, h, I, q⟩ => ?_
      unfold wE at h
      rw [Bool.not_eq_true] at hq
      rw [hq] at h
      refine tE.sh h I (Tr.refl fun _ z => z) fun v1 H1 S1 ρ1 F1 m1 d1 w1 I1 r1 t1 s1 => ?_
      obtain ⟨ty, g1, g2⟩ := isT_read (t := t) I1.sub r1 w1.1
      exact ⟨v1, .ty t.nm, _, _, isTy t d1, rfl, .ty t.nm, g1, g2, q.val I1 t1 (rBl _) w1.2⟩
  · cases h
end
end Y
namespace Y
open PySem PySem.Spec PyProof.Rows L2

structure Snd (T : List FSpec) (ct : Ct) (pins : List (Nat × V)) (c : C) : Prop where
  E : EOk T ct pins c
  B : BOk T ct pins c
  Tt : TOk T ct pins c
  W : c.isW = true → WOk T ct pins c
  L : LOk T ct pins c
  A : AOk T ct pins c
  O : OOk T ct pins c
  Cn : COk T ct pins c
  I : IOk T ct pins c
  G : GOk T ct pins c
  Gs : GsOk T ct pins c
section
variable {T : List FSpec} {ct : Ct} {pins : List (Nat × V)} {c : C}
theorem noE (h : ∀ R ρ, ¬ wE T (pins.map (·.1)) c R ρ) : EOk T ct pins c := fun hX e q => PE.no fun σ H Q ⟨R, ρ, S, F, h', _⟩ => h R ρ h'
theorem noE' (h : ∀ Z e, mE Z c e = false) : EOk T ct pins c := fun {X Z k} hX e q => by rw [h Z e] at q; cases q
theorem noB (h : ∀ R ρ, ¬ wB T (pins.map (·.1)) c R ρ) : BOk T ct pins c := fun hX e q => PE.no fun σ H Q ⟨R, ρ, S, F, h', _⟩ => h R ρ h'
theorem noT (h : ∀ R ρ, ¬ wT T (pins.map (·.1)) c R ρ) : TOk T ct pins c := fun hX e q => PT.no fun σ H Q ⟨R, ρ, S, F, h', _⟩ => h R ρ h'
theorem noB' (h : ∀ Z e, mE Z c e = false) : BOk T ct pins c := fun {X Z k} hX e q => by rw [h Z e] at q; cases q
theorem noT' (h : ∀ Z e, mE Z c e = false) : TOk T ct pins c := fun {X Z k} hX e q => by rw [h Z e] at q; cases q
theorem noL (h : ∀ Z e, mL Z c e = false) : LOk T ct pins c := fun {X Z k} hX m e q => by rw [h Z e] at q; cases q
theorem noA (h : ∀ Z e, mL Z c e = false) : AOk T ct pins c := fun {X Z k} hX m e q => by rw [h Z e] at q; cases q
theorem noO (h : ∀ Z e, mO Z c e = false) : OOk T ct pins c := fun {X Z k} hX e q => by rw [h Z e] at q; cases q
theorem noC (h : ∀ Z e, mC Z c e = false) : COk T ct pins c := fun {X Z k} hX e q => by rw [h Z e] at q; cases q
theorem noI (h : ∀ Z e, mI Z c e = false) : IOk T ct pins c := fun {X Z k} hX e t q => by rw [h Z e] at q; cases q
theorem noG (h : ∀ Z ow e, mG Z ow c e = false) : GOk T ct pins c := fun {X Z k} hX o e q => by rw [h Z o e] at q; cases q
theorem noGs (h : ∀ Z ow e, mGs Z ow c e = false) : GsOk T ct pins c := fun {X Z k} hX o e q => by rw [h Z o e] at q; cases q
/-- an expression -/
theorem Snd.ofE (hE : EOk T ct pins c) (hT : TOk T ct pins c := by refine noT ?_; intro _ _ h; exact h) (hB : BOk T ct pins c := by refine noB ?_; intro _ _ h; exact h) (hW : c.isW = true → WOk T ct pins c := by intro h; cases h)
    (hL : ∀ Z e, mL Z c e = false := by intros; rfl) (hO : ∀ Z e, mO Z c e = false := by intros; rfl) (hC : ∀ Z e, mC Z c e = false := by intros; rfl) (hI : ∀ Z e, mI Z c e = false := by intros; rfl)
    (hG : ∀ Z ow e, mG Z ow c e = false := by intros; rfl) (hGs : ∀ Z ow e, mGs Z ow c e = false := by intros; rfl) : Snd T ct pins c :=
  ⟨hE, hB, hT, hW, noL hL, noA hL, noO hO, noC hC, noI hI, noG hG, noGs hGs⟩
/-- anything else -/
theorem Snd.other (hL : LOk T ct pins c := by exact noL fun _ _ => rfl) (hA : AOk T ct pins c := by exact noA fun _ _ => rfl) (hO : OOk T ct pins c := by exact noO fun _ _ => rfl) (hC : COk T ct pins c := by exact noC fun _ _ => rfl)
    (hI : IOk T ct pins c := by exact noI fun _ _ => rfl) (hG : GOk T ct pins c := by exact noG fun _ _ _ => rfl) (hGs : GsOk T ct pins c := by exact noGs fun _ _ _ => rfl)
    (hE : ∀ Z e, mE Z c e = false := by intros; rfl) (hW : c.isW = true → False := by intro h; cases h) : Snd T ct pins c :=
  ⟨noE' hE, noB' hE, noT' hE, fun h => (hW h).elim, hL, hA, hO, hC, hI, hG, hGs⟩
theorem T_rd {p : C} (hE : EOk T ct pins (.rd p)) : TOk T ct pins (.rd p) := by
  by_cases hp : p.isP = true
  · refine T_of_E hE (fun Q ρ h => ?_) fun Z e h env whole => ?_
    · unfold wT at h
      unfold wE
      cases p with
      | bor i =>
        unfold wB at h ⊢
        split at h
        · split at h
          · exact h
          · exact h.elim
        · exact h.elim
      | bidx q e => exact h
      | bfld q f => exact h
      | _ => cases hp
    · unfold mE at h
      rw [Bool.and_eq_true] at h
      have h := h.2
      cases p with
      | bor i =>
        unfold mE at h
        split at h
        · rfl
        · cases h
      | bidx q e =>
        unfold mE at h
        split at h
        · rfl
        · cases h
      | bfld q f =>
        unfold mE at h
        split at h
        · rfl
        · cases h
      | _ => cases hp
  · refine noT fun R ρ h => ?_
    unfold wT at h
    cases p <;> first | exact hp rfl | exact h
theorem snd : ∀ c : C, Snd T ct pins c := by
  intro c
  induction c with
  | int i => exact Snd.ofE (E_int i)
  | bl i => exact Snd.ofE (E_bl i)
  | str i => exact Snd.ofE (E_str i)
  | non => exact Snd.ofE E_non
  | var i =>
    refine Snd.ofE (E_var i) (T_of_E (E_var i) (fun Q ρ h => ?_) fun Z e h env whole => ?_)
    · unfold wT at h
      unfold wE
      exact h
    · unfold mE at h
      split at h
      · rfl
      · cases h
  | mv i => exact Snd.ofE (E_mv i)
  | rd p hp => exact Snd.ofE (E_rd hp.B) (T_rd (E_rd hp.B))
  | bor i => exact Snd.ofE (by refine noE ?_; intro _ _ h; exact h) (hB := B_bor i)
  | bidx p e hp he => exact Snd.ofE (by refine noE ?_; intro _ _ h; exact h) (hB := B_bidx hp.B he.E)
  | bin op a b ha hb =>
    refine Snd.ofE (E_bin op ha.E hb.E) (T_of_E (E_bin op ha.E hb.E) (fun Q ρ h => h) fun Z e h env whole => ?_)
    unfold mE at h
    split at h
    · rfl
    · cases h
  | neg a ha => exact Snd.ofE (E_neg ha.E)
  | inv a ha => exact Snd.ofE (E_inv ha.E)
  | not a ha => exact Snd.ofE (E_not ha.E) (T_not ha.Tt)
  | cmp op a b ha hb => exact Snd.ofE (E_cmp op ha.E hb.E hb.B) (T_cmp op ha.E hb.E hb.B)
  | chain p q a b c ha hb hc => exact Snd.ofE (E_chain p q ha.E hb.E hc.E) (T_chain p q ha.E hb.E hc.E)
  | and a b ha hb =>
    by_cases hw : b.isW = true
    · have hw : WOk T ct pins (.and a b) := W_and ha.Tt (hb.W hw)
      refine Snd.ofE (E_and ha.E hb.E) (T_of_W (fun Z e h => ?_) hw) (hW := fun _ => hw)
      unfold mE at h
      split at h
      · exact ⟨_, _, _, rfl⟩
      · cases h
    · have no : ∀ Z e, mE Z (.and a b) e = false := fun Z e => by
        unfold mE
        split
        · rw [Bool.not_eq_true] at hw
          rw [hw]
          rfl
        · rfl
      exact Snd.ofE (noE' no) (noT' no) (noB' no) (hW := fun _ {X Z k} hX op es p q => by rw [no] at q; cases q)
  | or a b ha hb =>
    by_cases hw : b.isW = true
    · have hw : WOk T ct pins (.or a b) := W_or ha.Tt (hb.W hw)
      refine Snd.ofE (E_or ha.E hb.E) (T_of_W (fun Z e h => ?_) hw) (hW := fun _ => hw)
      unfold mE at h
      split at h
      · exact ⟨_, _, _, rfl⟩
      · cases h
    · have no : ∀ Z e, mE Z (.or a b) e = false := fun Z e => by
        unfold mE
        split
        · rw [Bool.not_eq_true] at hw
          rw [hw]
          rfl
        · rfl
      exact Snd.ofE (noE' no) (noT' no) (noB' no) (hW := fun _ {X Z k} hX op es p q => by rw [no] at q; cases q)
  | one a ha =>
    have hw : WOk T ct pins (.one a) := W_one ha.Tt
    refine Snd.ofE (E_one ha.E) (T_of_W (fun Z e h => ?_) hw) (hW := fun _ => hw)
    unfold mE at h
    split at h
    · exact ⟨_, _, _, rfl⟩
    · cases h
  | ite c a b hc ha hb => exact Snd.ofE (E_ite hc.Tt ha.E hb.E)
  | tup es h => exact Snd.ofE (E_tup h.L)
  | lst m es h => exact Snd.ofE (E_lst m h.L)
  | idx b e hb he =>
    refine Snd.ofE (E_idx hb.E he.E) (T_of_E (E_idx hb.E he.E) (fun Q ρ h => h) fun Z e h env whole => ?_)
    unfold mE at h
    split at h
    · rfl
    · cases h
  | slice b lo hi hb hlo hhi => exact Snd.ofE (E_slice hb.E hlo.O hhi.O)
  | comp m own tgt src cond elt h1 h2 h3 h4 => exact Snd.ofE (E_comp m own h2.I h1.G h3.Cn h4.E)
  | call j es h =>
    refine Snd.ofE (E_call j h.A) (T_of_E (E_call j h.A) (fun Q ρ h => h) fun Z e h env whole => ?_)
    unfold mE at h
    split at h
    · rfl
    · cases h
  | gint x i => exact Snd.ofE (E_gint x i)
  | isb a h =>
    refine Snd.ofE (E_isb h.E) (T_of_E (E_isb h.E) (fun Q ρ h => h) fun Z e h env whole => ?_)
    unfold mE at h
    split at h
    · rfl
    · cases h
  | isT t a h =>
    refine Snd.ofE (E_isT t h.E h.B) (T_of_E (E_isT t h.E h.B) (fun Q ρ h => ?_) fun Z e h env whole => ?_)
    · unfold wT at h
      unfold wE
      exact h
    · unfold mE at h
      split at h
      · rfl
      · cases h
  | prop c f j o ho => exact Snd.ofE (E_prop c f j ho.E)
  | rev a h => exact Snd.ofE (E_rev h.E h.B)
  | lenset a h => exact Snd.ofE (E_lenset h.E)
  | sortK i a b h1 h2 => exact Snd.ofE (E_sortK i h1.E h2.E)
  | sortR i a b h1 h2 => exact Snd.ofE (E_sortR i h1.E h2.E)
  | bitl a h => exact Snd.ofE (E_bitl h.E)
  | pur a h => exact Snd.ofE (E_pur h.E) (T_pur h.Tt)
  | varT i => exact Snd.ofE (E_varT i)
  | tupk a h => exact Snd.ofE (E_tupk h.E h.B)
  | idxT o e ho he => exact Snd.ofE (E_idxT ho.E he.E)
  | dcomp own tgt src cond ky va h1 h2 h3 h4 h5 => exact Snd.ofE (E_dcomp own h2.I h1.G h3.Cn h4.E h5.E)
  | fld o f ho => exact Snd.ofE (E_fld f ho.E)
  | bfld p f hp => exact Snd.ofE (by refine noE ?_; intro _ _ h; exact h) (hB := B_bfld f hp.B)
  | meth c m j o es ho he =>
    refine Snd.ofE (E_meth c m j ho.E he.A) (T_of_E (E_meth c m j ho.E he.A) (fun Q ρ h => ?_) fun Z e h env whole => ?_)
    · unfold wT at h
      unfold wE
      split at h
      · exact h
      · exact h
    · unfold mE at h
      split at h
      · rfl
      · cases h
  | make c j es he => exact Snd.ofE (E_make c j he.A)
  | b1 f a h =>
    refine Snd.ofE (E_b1 f h.E h.B) (T_of_E (E_b1 f h.E h.B) (fun Q ρ h => h) fun Z e h env whole => ?_)
    unfold mE at h
    split at h
    · rfl
    · cases h
  | max2 a b ha hb => exact Snd.ofE (E_max2 ha.E hb.E)
  | min2 a b ha hb => exact Snd.ofE (E_min2 ha.E hb.E)
  | lrange a ha => exact Snd.ofE (E_lrange ha.E)
  | app p e hp he => exact Snd.ofE (E_app hp.B he.E)
  | pop p hp => exact Snd.ofE (E_pop hp.B)
  | popAt p e hp he => exact Snd.ofE (E_popAt he.E)
  | ext p e hp he => exact Snd.ofE (E_ext he.E)
  | index o e ho he => exact Snd.ofE (E_index ho.E he.E)
  | nil => exact Snd.other L_nil A_nil O_nil C_nil (hGs := Gs_nil)
  | cons a r ha hr => exact Snd.other (L_cons ha.E hr.L) (A_cons ha.E hr.A) (O_cons ha.E) (C_cons ha.Tt) (hGs := Gs_cons ha.G hr.Gs)
  | itr a ha => exact Snd.other (hI := I_itr ha.E)
  | rng1 a ha => exact Snd.other (hI := I_rng1 ha.E)
  | rng2 a b ha hb => exact Snd.other (hI := I_rng2 ha.E hb.E)
  | rng3 a b c ha hb hc => exact Snd.other (hI := I_rng3 ha.E hb.E hc.E)
  | enum a ha => exact Snd.other (hI := I_enum ha.E)
  | zip a b ha hb => exact Snd.other (hI := I_zip ha.E hb.E)
  | tn i => exact Snd.other (hG := G_tn i)
  | tt ts h => exact Snd.other (hG := G_tt h.Gs)
  | _ => exact Snd.other
end
end Y
namespace Y
open PySem PySem.Spec PyProof.Rows L2

/-! ### statements: their form -/
def isTup : Expr → Bool
  | .Tuple .. => true | _ => false
def asgOk (Z : SC) (x : Str) (p' : Pos) : Expr → Bool
  | .ListComp _ _ scope cp => ((p'.line == cp.line) && decide (Z.sc.names.lookup x = some .local) && !(scope.names.any fun (n, k) => n == x && (k == .local || k == .cell))) || decide (Z.sc.names.lookup x = some .cell)
  | .DictComp _ _ _ scope cp => ((p'.line == cp.line) && decide (Z.sc.names.lookup x = some .local) && !(scope.names.any fun (n, k) => n == x && (k == .local || k == .cell))) || decide (Z.sc.names.lookup x = some .cell)
  | v => !isComp v
def C.isFrz : C → Bool
  | .frz _ => true | _ => false
mutual
def mS (Z : SC) : C → Stmt → Bool
  | .skip, st => match st with | .Pass _ => true | .Expr (.Constant (.str _) _ _) _ => true | _ => false
  | .ex e, st => match st with | .Expr v _ => mE Z e v && !isComp v | _ => false
  | .asg i _ e, st => match st with | .Assign [.Name x p'] v _ => Z.store i x && mE Z e v && asgOk Z x p' v | _ => false
  | .setf i f _ e, st => match st with | .Assign [.Attribute (.Name x _) g _] w _ => decide (f = g) && Z.flds.contains f && Z.slot i x && mE Z e w && !isComp w | _ => false
  | .unp ts e, st => match st with | .Assign [.Tuple xs _ _] v _ => mGs Z [] ts xs && mE Z e v && !isComp v && !isTup v | _ => false
  | .setix p e v, st => match st with | .Assign [.Subscript b i _] w _ => mE Z p b && mE Z e i && mE Z v w && !isComp w | _ => false
  | .swp i e1 e2 v, st => match st with | .Assign [.Tuple [.Subscript (.Name x _) i1 _, .Subscript (.Name y _) i2 _] _ _] w _ => Z.slot i x && Z.slot i y && mE Z e1 i1 && mE Z e2 i2 && mE Z v w && !isComp w | _ => false
  | .augix p e op v, st => match st with | .AugAssign (.Subscript b i _) o w _ => decide (op = o) && mE Z p b && mE Z e i && mE Z v w | _ => false
  | .aug i op e, st => match st with | .AugAssign (.Name x _) o w _ => decide (op = o) && Z.store i x && mE Z e w | _ => false
  | .ifs c a b, st => match st with | .If t x y _ => mE Z c t && mB Z a x && mB Z b y | _ => false
  | .for_ tgt src body, st => match st with | .For t it bd [] _ => mI Z src it && tgOk src t && mG Z [] tgt t && mB Z body bd | _ => false
  | .while_ c body, st => match st with | .While t bd [] _ => mE Z c t && mB Z body bd | _ => false
  | .ret e, st => match st with | .Return (some v) _ => mE Z e v | _ => false
  | .retn, st => match st with | .Return none _ => true | _ => false
  | .brk, st => match st with | .Break _ => true | _ => false
  | .cont, st => match st with | .Continue _ => true | _ => false
  | .mtch i x b r, st => match st with | .Match (.Name z _) (⟨.MatchValue (.Constant (.str y) _ _) _, none, bd⟩ :: rest) _ => Z.slot i z && decide (x = y) && mB Z b bd && mM Z i r rest | _ => false
  | .never, _ => true
  | _, _ => false
def mB (Z : SC) : C → List Stmt → Bool
  | .skip, sts => match sts with | [] => true | _ => false
  | .seq a b, sts => match a.isFrz with
    | true => mB Z b sts
    | false => (match sts with | st :: r => mS Z a st && mB Z b r | [] => false)
  | _, _ => false
/-- what is left of the cases -/
def mM (Z : SC) (i : Nat) : C → List MatchCase → Bool
  | .skip, cs => match cs with | [] => true | _ => false
  | .mtch j x b r, cs => match cs with | ⟨.MatchValue (.Constant (.str y) _ _) _, none, bd⟩ :: rest => decide (i = j) && decide (x = y) && mB Z b bd && mM Z i r rest | _ => false
  | .dflt b, cs => match cs with | [⟨.MatchAs none none _, none, bd⟩] => mB Z b bd | _ => false
  | _, _ => false
end

/-! ### statements: the logic -/
def augI (op : Operator) (x y : Int) (k : Int → Prop) : Prop := match op with
  | .Add => k (x + y)
  | .Sub => k (x - y)
  | _ => False
section
variable (T : List FSpec) (pn : List Nat)
def wS : C → Post → Env → Prop
  | .skip, D, ρ => D.nx ρ
  | .seq a b, D, ρ => wS a { D with nx := fun ρ1 => wS b D ρ1 } ρ
  | .ex e, D, ρ => wE T pn e (fun _ _ ρ1 => D.nx ρ1) ρ
  | .asg i m e, D, ρ => wE T pn e (fun m' d ρ1 => cst m' m = true ∧ i ∉ pn ∧ D.nx (ρ1.set i (some (m, d)))) ρ
  | .setf i f m e, D, ρ => wE T pn e (fun m' d ρ1 => cst m' m = true ∧ (match ρ1.at i with
      | some (.ins c ns ms, .obj c' ns' vs) => f ∉ ns ∧ ns.length < 1000 ∧ D.nx (ρ1.set i (some (.ins c (ns ++ [f]) (mSnoc ms m), .obj c' (ns' ++ [f]) (vs ++ [d]))))
      | _ => False)) ρ
  | .unp ts e, D, ρ => wE T pn e (fun _ d ρ1 => match d with | .tup ds => ds.length = ts.len ∧ wGs T pn ts ds D.nx ρ1 | _ => False) ρ
  | .setix p e v, D, ρ => wE T pn v (fun mv y ρ1 => match p.isBor with
    | true => (ρ1.at p.root).isSome = true ∧ wE T pn e (fun _ j ρ2 => match ρ2.at p.root, j with
        | some (.o m', .lst xs), .int i => ∃ n, ixN xs.length i = some n ∧ cst mv m' = true ∧ D.nx (ρ2.set p.root (some (.o m', .lst (xs.set n y))))
        | _, _ => False) ρ1
    | false => wB T pn p (fun m x put ρ2 => ∃ mr dr, ρ2.at p.root = some (mr, dr) ∧ wE T pn e (fun _ j ρ3 => match m, x, j with
        | .o m', .lst xs, .int i => ∃ n, ixN xs.length i = some n ∧ cst mv m' = true ∧ D.nx (ρ3.set p.root (some (mr, put (.lst (xs.set n y)))))
        | _, _, _ => False) (ρ2.set p.root none)) ρ1) ρ
  | .swp i e1 e2 v, D, ρ => wE T pn v (fun _ d ρ1 => match d with
    | .tup [a, b] => (ρ1.at i).isSome = true ∧ wE T pn e1 (fun _ j ρ2 => match ρ2.at i, j with
        | some (.o .s, .lst xs), .int k => ∃ n, ixN xs.length k = some n ∧ wE T pn e2 (fun _ j2 ρ3 => match ρ3.at i, j2 with
          | some (.o .s, .lst ys), .int k2 => ∃ n2, ixN ys.length k2 = some n2 ∧ D.nx (ρ3.set i (some (.o .s, .lst (ys.set n2 b))))
          | _, _ => False) (ρ2.set i (some (.o .s, .lst (xs.set n a))))
        | _, _ => False) ρ1
    | _ => False) ρ
  | .augix p e op v, D, ρ => match p.isBor with
    | true => (ρ.at p.root).isSome = true ∧ wE T pn e (fun _ j ρ1 => match ρ1.at p.root, j with
        | some (.o .s, .lst xs), .int i => 0 ≤ i ∧ ∃ x, xs[i.toNat]? = some (.int x) ∧ wE T pn v (fun _ y ρ2 => match ρ2.at p.root, y with
          | some (.o .s, .lst xs2), .int y => i < xs2.length ∧ augI op x y fun z => D.nx (ρ2.set p.root (some (.o .s, .lst (xs2.set i.toNat (.int z)))))
          | _, _ => False) ρ1
        | _, _ => False) ρ
    | false => wB T pn p (fun m x put ρ2 => ∃ mr dr, ρ2.at p.root = some (mr, dr) ∧ wE T pn e (fun _ j ρ3 => match m, x, j with
        | .o .s, .lst xs, .int i => 0 ≤ i ∧ ∃ x, xs[i.toNat]? = some (.int x) ∧ wE T pn v (fun _ y ρ4 => match y with
          | .int y => augI op x y fun z => D.nx (ρ4.set p.root (some (mr, put (.lst (xs.set i.toNat (.int z))))))
          | _ => False) ρ3
        | _, _, _ => False) (ρ2.set p.root none)) ρ
  | .aug i op e, D, ρ => match ρ.at i with
    | some (.s, .int x) => i ∉ pn ∧ wE T pn e (fun _ y ρ1 => match y with | .int y => augI op x y fun z => D.nx (ρ1.set i (some (.s, .int z))) | _ => False) ρ
    | _ => False
  | .ifs c a b, D, ρ => wT T pn c (fun k ρ1 => if k = true then wS a D ρ1 else wS b D ρ1) ρ
  | .for_ tgt src body, D, ρ => wI T pn src (fun items ρ1 => ∃ Inv : Nat → Env → Prop, Inv 0 ρ1 ∧
      (∀ k x ρ2, items[k]? = some x → Inv k ρ2 → wG T pn tgt x (fun ρ3 => wS body { D with nx := Inv (k + 1), ct := Inv (k + 1), bk := D.nx } ρ3) ρ2) ∧ ∀ ρ2, Inv items.length ρ2 → D.nx ρ2) ρ
  | .while_ c body, D, ρ => ∃ Inv : Nat → Env → Prop, (∃ n, Inv n ρ) ∧ ∀ n ρ1, Inv n ρ1 → wT T pn c (fun k ρ2 => if k = true then
      wS body { D with nx := fun ρ' => ∃ n', n' < n ∧ Inv n' ρ', ct := fun ρ' => ∃ n', n' < n ∧ Inv n' ρ', bk := D.nx } ρ2 else D.nx ρ2) ρ1
  | .ret e, D, ρ => wE T pn e (fun m d ρ1 => D.rt m d ρ1) ρ
  | .retn, D, ρ => D.rt .s .non ρ
  | .brk, D, ρ => D.bk ρ
  | .cont, D, ρ => D.ct ρ
  | .mtch i x b r, D, ρ => match ρ.at i with | some (.s, .str y) => if y = x then wS b D ρ else wS r D ρ | _ => False
  | .dflt b, D, ρ => wS b D ρ
  | .frz i, D, ρ => match ρ.at i with | some (m, d) => D.nx (ρ.set i (some (.s, d))) | none => False
  | _, _, _ => False
end
section
variable (K : PySem.W.Frag) (ct : Ct) (T : List FSpec) (pins : List (Nat × V))
/-- what is wanted behind a statement, over the heap -/
structure We (D : Ends) (po : Post) (P : Pm) (S H : Hp) : Prop where
  nx : ∀ σ' H' S' ρ' F', po.nx ρ' → Sta K ct pins S' H' σ' ρ' F' → Tr P S H S' H' (Pt F') → D.nx σ' H'
  bk : ∀ σ' H' S' ρ' F', po.bk ρ' → Sta K ct pins S' H' σ' ρ' F' → Tr P S H S' H' (Pt F') → D.bk σ' H'
  cn : ∀ σ' H' S' ρ' F', po.ct ρ' → Sta K ct pins S' H' σ' ρ' F' → Tr P S H S' H' (Pt F') → D.ct σ' H'
  rt : ∀ v σ' H' S' ρ' F' m d G, po.rt m d ρ' → Sta K ct pins S' H' σ' ρ' F' → Vl K ct S' H' F' m G d v → Tr P S H S' H' (fun a => G a ∨ Pt F' a) → D.rt v H'
def tS (c : C) : TS := fun D σ H => ∃ (po : Post) (ρ : Env) (S : Hp) (F : Sl → Pm), wS T (pins.map (·.1)) c po ρ ∧ Sta K ct pins S H σ ρ F ∧ We K ct pins D po (Pt F) S H
end
section
variable (T : List FSpec) (ct : Ct) (pins : List (Nat × V))
def SOk (c : C) : Prop := ∀ {X : Cx} {Z : SC} {k : Nat}, XOk T ct Z k X → ∀ e, mS Z c e = true → PS X e (tS X.K ct T pins c)
def BkOk (c : C) : Prop := ∀ {X : Cx} {Z : SC} {k : Nat}, XOk T ct Z k X → ∀ es, mB Z c es = true → PSs X es (tS X.K ct T pins c)
end
section
variable {X : Cx} {st : Stmt} {sts : List Stmt} {t t' : TS}
theorem PS.imp (h : PS X st t) (i : ∀ D σ H, t' D σ H → t D σ H) : PS X st t' := ⟨fun pins s σ H D I q => h.run pins s σ H D I (i _ _ _ q)⟩
theorem PS.no (i : ∀ D σ H, ¬ t D σ H) : PS X st t := ⟨fun pins s σ H D I q => (i _ _ _ q).elim⟩
theorem PSs.imp (h : PSs X sts t) (i : ∀ D σ H, t' D σ H → t D σ H) : PSs X sts t' := ⟨fun pins s σ H D I q => h.run pins s σ H D I (i _ _ _ q)⟩
theorem PSs.no (i : ∀ D σ H, ¬ t D σ H) : PSs X sts t := ⟨fun pins s σ H D I q => (i _ _ _ q).elim⟩
end
section
variable {K : PySem.W.Frag} {T : List FSpec} {ct : Ct} {pins : List (Nat × V)} {a b c r p e v : C} {D : Ends} {po : Post} {P P1 : Pm} {S H S1 H1 : Hp}
theorem We.later (w : We K ct pins D po P S H) (t : Tr P S H S1 H1 P1) : We K ct pins D po P1 S1 H1 :=
  ⟨fun σ' H' S' ρ' F' h I t' => w.nx σ' H' S' ρ' F' h I (t.trans0 t'), fun σ' H' S' ρ' F' h I t' => w.bk σ' H' S' ρ' F' h I (t.trans0 t'), fun σ' H' S' ρ' F' h I t' => w.cn σ' H' S' ρ' F' h I (t.trans0 t'),
    fun v σ' H' S' ρ' F' m d G h I hv t' => w.rt v σ' H' S' ρ' F' m d G h I hv (t.trans0 t')⟩
theorem S_ex (he : EOk T ct pins e) : SOk T ct pins (.ex e) := by
  intro X Z k hX st h
  unfold mS at h
  split at h
  · simp only [Bool.and_eq_true, Bool.not_eq_true'] at h
    refine PS.imp (ps_expr (he hX _ h.1) ?_) fun D σ H ⟨po, ρ, S, F, h, I, q⟩ => ?_
    · rename_i v _
      have := h.2
      cases v <;> first | rfl | exact absurd this (by intro z; cases z)
    · refine tE.sh (by unfold wS at h; exact h) I (Tr.refl fun _ z => z) fun v1 H1 S1 ρ1 F1 m1 d1 w1 I1 r1 t1 s1 => ?_
      exact q.nx σ H1 S1 ρ1 F1 w1 I1 t1
  · cases h
theorem asg_rd {X : Cx} {i : Nat} {m : M} {σ : L2.St} {H : Hp} {D : Ends} (h : tS X.K ct T pins (.asg i m e) D σ H) : tE X.K ct T pins e σ H fun x H1 => D.nx (σ.set i (some x)) H1 := by
  obtain ⟨po, ρ, S, F, h, I, q⟩ := h
  refine ⟨_, ρ, S, F, by unfold wS at h; exact h, I, fun v1 H1 S1 ρ1 F1 m1 d1 G1 w1 I1 r1 t1 => ?_⟩
  obtain ⟨c1, n1, w1⟩ := w1
  obtain ⟨S2, G2, r2, I2, t2⟩ := r1.cast I1 t1 c1
  exact q.nx _ H1 S2 _ _ w1 (I2.store r2 n1) (t2.sub fun a z => Pt_store z)
theorem sw_cell {elt : Expr} {gs : List Comprehension} {scope : Scope} {pos py : Pos} {y : Str} {l : Nat} {env : PySem.Env} (hy : env.scope.names.lookup y = some .cell) : swapsWith (.ListComp elt gs scope pos) (some (.Name y py)) l env = pure false := by
  have ky : env.kindOf y = some .cell := hy
  have e : ((some NameKind.cell : Option NameKind) == some .local) = false := by decide
  unfold swapsWith
  simp only [ky, e, Bool.and_false, Bool.false_and]
theorem sw_cellD {kx vx : Expr} {gs : List Comprehension} {scope : Scope} {pos py : Pos} {y : Str} {l : Nat} {env : PySem.Env} (hy : env.scope.names.lookup y = some .cell) : swapsWith (.DictComp kx vx gs scope pos) (some (.Name y py)) l env = pure false := by
  have ky : env.kindOf y = some .cell := hy
  have e : ((some NameKind.cell : Option NameKind) == some .local) = false := by decide
  unfold swapsWith
  simp only [ky, e, Bool.and_false, Bool.false_and]
theorem S_asg (i : Nat) (m : M) (he : EOk T ct pins e) (hc : ∀ m' own tgt src cond elt, e = .comp m' own tgt src cond elt → IOk T ct pins src ∧ GOk T ct pins tgt ∧ COk T ct pins cond ∧ EOk T ct pins elt)
    (hdc : ∀ own tgt src cond ky va, e = .dcomp own tgt src cond ky va → IOk T ct pins src ∧ GOk T ct pins tgt ∧ COk T ct pins cond ∧ EOk T ct pins ky ∧ EOk T ct pins va) : SOk T ct pins (.asg i m e) := by
  intro X Z k hX st h
  unfold mS at h
  split at h
  · rename_i x p' v pos
    simp only [Bool.and_eq_true] at h
    obtain ⟨⟨h1, h2⟩, h3⟩ := h
    obtain ⟨hs, hl, hf⟩ := store_of hX h1
    have hnd : X.N.Nodup := by rw [hX.N]; exact hX.nd
    have plain : isComp v = false → PS X (.Assign [.Name x p'] v pos) (tS X.K ct T pins (.asg i m e)) := fun z => by
      refine PS.imp (ps_set hnd hs hl (he hX _ h2) ?_ hf) fun D σ H hq => asg_rd hq
      cases v <;> first | rfl | exact absurd z (by intro z; cases z)
    by_cases hv : isComp v = true
    · cases v with
      | ListComp y gs scope cp =>
        unfold asgOk at h3
        rw [Bool.or_eq_true] at h3
        rcases h3 with h3 | h3
        rotate_left
        · exact PS.imp (ps_set hnd hs hl (he hX _ h2) (sw_cell (by rw [hX.sc]; exact of_decide_eq_true h3)) hf) fun D σ H hq => asg_rd hq
        have form : ∃ m' own tgt src cond elt, e = .comp m' own tgt src cond elt := by
          cases e with
          | comp m' own tgt src cond elt => exact ⟨m', own, tgt, src, cond, elt, rfl⟩
          | rd p =>
            unfold mE at h2
            rw [Bool.and_eq_true] at h2
            cases p <;> first | exact absurd h2.1 Bool.false_ne_true | exact absurd h2.2 Bool.false_ne_true
          | _ => exact absurd h2 Bool.false_ne_true
        obtain ⟨m', own, tgt, src, cond, elt, rfl⟩ := form
        obtain ⟨k1, k2, k3, k4⟩ := hc _ _ _ _ _ _ rfl
        unfold mE at h2
        split at h2
        · rename_i heq
          cases heq
          simp only [Bool.and_eq_true, Bool.not_eq_true'] at h2
          obtain ⟨⟨⟨⟨⟨⟨hb, ho⟩, g1⟩, g2⟩, g3⟩, g4⟩, g5⟩ := h2
          simp only [Bool.and_eq_true, Bool.not_eq_true', decide_eq_true_eq] at h3
          obtain ⟨⟨a1, a2⟩, a3⟩ := h3
          have hne : own.map (·.2) ≠ [] := fun z => by
            cases own with
            | nil => cases ho
            | cons _ _ => cases z
          have bo : BlkOk X.N X.env.scope scope own := by
            rw [hX.N, hX.sc]
            exact blkOk_by hb
          refine PS.imp (ps_setLc (i := i) (own := own) (g := tG X.K ct T pins (own.map (·.2)) tgt) (tt := tC X.K ct T pins cond) (te := tE X.K ct T pins elt) hX.calm hnd hs (by rw [hX.sc]; exact a2) (sw_true hX.kind (by rw [hX.sc]; exact a2) a1 a3) (k1 hX _ _ g1 g2) bo (fun s H C cl fp => k2 (hX.blk s H scope cl C fp bo.kind) (own.map (·.2)) _ g3) (fun s H C cl fp => k3 (hX.blk s H scope cl C fp bo.kind) _ g4) (fun s H C cl fp => k4 (hX.blk s H scope cl C fp bo.kind) _ g5) (mI_fold g1 _)) fun D σ H hq => ?_
          exact comp_rd (T := T) (ct := ct) (pins := pins) m' own (tgt := tgt) (src := src) (cond := cond) (elt := elt) hne (asg_rd hq)
        · cases h2
      | SetComp => exact absurd h3 Bool.false_ne_true
      | DictComp y y2 gs scope cp =>
        unfold asgOk at h3
        rw [Bool.or_eq_true] at h3
        rcases h3 with h3 | h3
        rotate_left
        · exact PS.imp (ps_set hnd hs hl (he hX _ h2) (sw_cellD (by rw [hX.sc]; exact of_decide_eq_true h3)) hf) fun D σ H hq => asg_rd hq
        have form : ∃ own tgt src cond ky va, e = .dcomp own tgt src cond ky va := by
          cases e with
          | dcomp own tgt src cond ky va => exact ⟨own, tgt, src, cond, ky, va, rfl⟩
          | rd p =>
            unfold mE at h2
            rw [Bool.and_eq_true] at h2
            cases p <;> first | exact absurd h2.1 Bool.false_ne_true | exact absurd h2.2 Bool.false_ne_true
          | _ => exact absurd h2 Bool.false_ne_true
        obtain ⟨own, tgt, src, cond, ky, va, rfl⟩ := form
        obtain ⟨k1, k2, k3, k4, k5⟩ := hdc _ _ _ _ _ _ rfl
        unfold mE at h2
        split at h2
        · rename_i heq
          cases heq
          simp only [Bool.and_eq_true, Bool.not_eq_true'] at h2
          obtain ⟨⟨⟨⟨⟨⟨⟨hb, ho⟩, g1⟩, g2⟩, g3⟩, g4⟩, g5⟩, g6⟩ := h2
          simp only [Bool.and_eq_true, Bool.not_eq_true', decide_eq_true_eq] at h3
          obtain ⟨⟨a1, a2⟩, a3⟩ := h3
          have hne : own.map (·.2) ≠ [] := fun z => by
            cases own with
            | nil => cases ho
            | cons _ _ => cases z
          have bo : BlkOk X.N X.env.scope scope own := by
            rw [hX.N, hX.sc]
            exact blkOk_by hb
          refine PS.imp (ps_setDc (i := i) (own := own) (g := tG X.K ct T pins (own.map (·.2)) tgt) (tt := tC X.K ct T pins cond) (tk := tE X.K ct T pins ky) (tv := tE X.K ct T pins va) hX.calm hnd hs (by rw [hX.sc]; exact a2) (sw_trueD hX.kind (by rw [hX.sc]; exact a2) a1 a3) (k1 hX _ _ g1 g2) bo (fun s H C cl fp => k2 (hX.blk s H scope cl C fp bo.kind) (own.map (·.2)) _ g3) (fun s H C cl fp => k3 (hX.blk s H scope cl C fp bo.kind) _ g4) (fun s H C cl fp => k4 (hX.blk s H scope cl C fp bo.kind) _ g5) (fun s H C cl fp => k5 (hX.blk s H scope cl C fp bo.kind) _ g6) (mI_fold g1 _)) fun D σ H hq => ?_
          exact dcomp_rd (T := T) (ct := ct) (pins := pins) own (tgt := tgt) (src := src) (cond := cond) (ky := ky) (va := va) hne (asg_rd hq)
        · cases h2
      | _ => exact absurd hv Bool.false_ne_true
    · rw [Bool.not_eq_true] at hv
      exact plain hv
  · cases h
end
end Y
namespace Y
open PySem PySem.Spec PyProof.Rows L2

section
variable {K : PySem.W.Frag} {ct : Ct} {pins : List (Nat × V)} {S H H2 : Hp} {σ : L2.St} {ρ : Env} {F : Sl → Pm} {P : Pm}
theorem putF_new {f : Str} {w : V} : ∀ {ns : List Str} {ws : List V}, f ∉ ns → ns.length = ws.length → putF f w (ns.zip ws) = (ns ++ [f]).zip (ws ++ [w])
  | [], [], h, e => rfl
  | [], _ :: _, h, e => by simp at e
  | _ :: _, [], h, e => by simp at e
  | n :: ns, v :: ws, h, e => by
    show (if n = f then (n, w) :: ns.zip ws else (n, v) :: putF f w (ns.zip ws)) = (n, v) :: (ns ++ [f]).zip (ws ++ [w])
    rw [if_neg fun z => h (by rw [z]; exact List.mem_cons_self ..), putF_new (fun z => h (List.mem_cons_of_mem _ z)) (by simpa using e)]
theorem RepFl.snoc {m : M} {G : Pm} {d : D} {v : V} (q : RepM K ct S H m G d v) : ∀ {ms : M} {F : Pm} {ds : List D} {vs : List V}, (∀ a, G a → ¬ F a) → RepFl K ct S H ms F ds vs → RepFl K ct S H (mSnoc ms m) (fun a => F a ∨ G a) (ds ++ [d]) (vs ++ [v])
  | .fnil, F, ds, vs, dis, h => by
    unfold RepFl at h
    obtain ⟨rfl, rfl⟩ := h
    show RepFl K ct S H (.fcons m .fnil) _ [d] [v]
    unfold RepFl
    exact ⟨d, [], v, [], G, fun _ => False, rfl, rfl, fun a z => .inr z, fun a z => z.elim, fun a _ z => z, q, by unfold RepFl; exact ⟨rfl, rfl⟩⟩
  | .fcons m0 ms, F, ds, vs, dis, h => by
    unfold RepFl at h
    obtain ⟨d0, ds', v0, vs', F1, F2, rfl, rfl, h1, h2, h3, h4, h5⟩ := h
    show RepFl K ct S H (.fcons m0 (mSnoc ms m)) _ (d0 :: (ds' ++ [d])) (v0 :: (vs' ++ [v]))
    unfold RepFl
    exact ⟨d0, _, v0, _, F1, fun a => F2 a ∨ G a, rfl, rfl, fun a z => .inl (h1 a z), fun a z => z.elim (fun z => .inl (h2 a z)) .inr, fun a z y => y.elim (h3 a z) fun y => dis a y (h1 a z), h4, RepFl.snoc q (fun a z y => dis a z (h2 a y)) h5⟩
  | .s, F, ds, vs, dis, h => by
    unfold RepFl at h
    exact h.elim
  | .o _, F, ds, vs, dis, h => by
    unfold RepFl at h
    exact h.elim
  | .dk, F, ds, vs, dis, h => by
    unfold RepFl at h
    exact h.elim
  | .dt, F, ds, vs, dis, h => by
    unfold RepFl at h
    exact h.elim
  | .ins _ _ _, F, ds, vs, dis, h => by
    unfold RepFl at h
    exact h.elim
theorem Sta.newslot {r : Nat} {v : V} {m2 : M} {d2 : D} {G2 : Pm} (I : Sta K ct pins S H σ ρ F) (hv : σ[r]? = some (some v)) (hH : ∀ a, ¬ F r a → H2 a = H a) (hT : ∀ a, H a ≠ none → H2 a ≠ none) (q : RepM K ct S H2 m2 G2 d2 v)
    (hG2 : ∀ a, G2 a → S a = none ∧ H2 a ≠ none ∧ (F r a ∨ ∀ i, ¬ F i a)) : Sta K ct pins S H2 σ (ρ.set r (some (m2, d2))) (Fs F r G2) := by
  have cross : ∀ (j : Sl) a, j ≠ some r → F j a → ¬ G2 a := fun j a ne h z => by
    rcases (hG2 a z).2.2 with y | y
    · exact ne (I.dj j r a h y)
    · exact y j h
  refine ⟨fun a o h => ?_, by rw [List.length_set]; exact I.len, fun i m1 d1 e => ?_, fun i j a h1 h2 => ?_, fun i a h => ?_, I.pin, I.tbs fun a z => hH a fun y => nomatch I.dj none r a z y⟩
  · rw [hH a fun z => by rw [(I.off r a z).1] at h; cases h]
    exact I.sub a o h
  · rcases at_set_some e with ⟨rfl, z⟩ | ⟨ne, z⟩
    · cases z
      exact ⟨v, hv, q.weak fun a z => Fs_self.mpr z⟩
    · obtain ⟨w, f1, f2⟩ := I.sl i m1 d1 z
      exact ⟨w, f1, (f2.mono (Same.refl _) fun a y => hH a fun z => ne (Option.some.inj (I.dj i r a y z))).weak fun a y => (Fs_ne ne).mpr y⟩
  · rcases h1 with ⟨rfl, z⟩ | ⟨n1, z⟩
    · rcases h2 with ⟨rfl, y⟩ | ⟨n2, y⟩
      · rfl
      · exact absurd z (cross j a n2 y)
    · rcases h2 with ⟨rfl, y⟩ | ⟨n2, y⟩
      · exact absurd y (cross i a n1 z)
      · exact I.dj i j a z y
  · rcases h with ⟨rfl, z⟩ | ⟨_, z⟩
    · exact ⟨(hG2 a z).1, (hG2 a z).2.1⟩
    · exact ⟨(I.off i a z).1, hT a (I.off i a z).2⟩
theorem Tr.newslot {r : Nat} {G2 : Pm} (I : Sta K ct pins S H σ ρ F) (hH : ∀ a, ¬ F r a → H2 a = H a) (hT : ∀ a, H a ≠ none → H2 a ≠ none) (hC : CodeK H H2) (hG2 : ∀ a, G2 a → P a ∨ F r a) : Tr (fun a => P a ∨ Pt F a) S H S H2 (Pt (Fs F r G2)) := by
  refine (Tr.put (P := P) (G := F r) I (fun a z => z) hH hT hC hG2).sub fun a z => ?_
  obtain ⟨i, ⟨e, y⟩ | ⟨e, y⟩⟩ := z
  · exact ⟨i, .inl ⟨e, .inl y⟩⟩
  · exact ⟨i, .inr ⟨e, y⟩⟩
end
section
variable {T : List FSpec} {ct : Ct} {pins : List (Nat × V)} {e : C}
theorem S_setf (i : Nat) (f : Str) (m : M) (he : EOk T ct pins e) : SOk T ct pins (.setf i f m e) := by
  intro X Z k hX st h
  unfold mS at h
  split at h
  · rename_i x px g pa w pos
    simp only [Bool.and_eq_true, decide_eq_true_eq, Bool.not_eq_true'] at h
    obtain ⟨⟨⟨⟨rfl, h1⟩, h2⟩, h3⟩, h4⟩ := h
    obtain ⟨s1, s2, s3, s4⟩ := slot_of hX h2
    refine PS.imp (ps_fld (pe_var (i := i) s1 s2 s3 s4) (he hX _ h3) ?_) fun D σ H ⟨po, ρ, S, F, h, I, q⟩ => ?_
    · cases w <;> first | rfl | exact absurd h4 (by intro z; cases z)
    · unfold wS at h
      refine ⟨_, ρ, S, F, h, I, fun v1 H1 S1 ρ1 F1 m1 d1 G1 w1 I1 r1 t1 => ?_⟩
      obtain ⟨c1, w1⟩ := w1
      obtain ⟨S2, G2, r2, I2, t2⟩ := r1.cast I1 t1 c1
      split at w1
      · rename_i c ns ms c' ns' vs hslot
        obtain ⟨w1, w2, w3⟩ := w1
        obtain ⟨v, e1, e2⟩ := I2.sl i _ _ hslot
        refine ⟨v, e1, ?_⟩
        unfold RepM at e2
        obtain ⟨a, C, dx, ws, ds, F', g1, rfl, g3, g4, g5, g6, g7, g8, g9, g10, g11⟩ := e2
        cases g1
        refine ⟨a, C, dx, _, rfl, g7, (hX.cls _ C g3).1, (hX.cls _ C g3).2 _ (List.contains_iff_mem.mp h1), ?_, ?_⟩
        · rw [List.length_zip, ← g9]
          omega
        · have hH : ∀ b, ¬ F1 i b → upd H1 a (.ins C dx (putF f v1 (ns.zip ws))) b = H1 b := fun b n => upd_ne fun z => n (by rw [z]; exact g4)
          have hT : ∀ b, H1 b ≠ none → upd H1 a (.ins C dx (putF f v1 (ns.zip ws))) b ≠ none := fun b z => upd_there z
          have nya : ∀ b, G2 b → b ≠ a := fun b z y => (r2.off b z).2.2 i (by rw [y]; exact g4)
          have nyd : ∀ b, G2 b → b ≠ dx := fun b z y => (r2.off b z).2.2 i (by rw [y]; exact g5)
          have hq : RepM X.K ct S2 (upd H1 a (.ins C dx (putF f v1 (ns.zip ws)))) (.ins c (ns ++ [f]) (mSnoc ms m)) (fun b => F1 i b ∨ G2 b) (.obj c (ns ++ [f]) (vs ++ [d1])) (.ref a) := by
            unfold RepM
            refine ⟨a, C, dx, ws ++ [v1], _, fun b => F' b ∨ G2 b, rfl, rfl, g3, .inl g4, .inl g5, g6, ?_, ?_, ?_, fun b z => ?_, ?_⟩
            · rw [upd_same, putF_new w1 g9]
            · rw [upd_ne (Ne.symm g6)]
              exact g8
            · rw [List.length_append, List.length_append, g9]
              rfl
            · rcases z with z | z
              · exact ⟨.inl (g10 b z).1, (g10 b z).2⟩
              · exact ⟨.inr z, nya b z, nyd b z⟩
            · exact RepFl.snoc (r2.rep.mono (Same.refl _) fun b z => upd_ne (nya b z)) (fun b z y => (r2.off b z).2.2 i (g10 b y).1) (RepFl.mono (Same.refl _) (fun b z => upd_ne (g10 b z).2.1) g11)
          have J := I2.newslot (H2 := upd H1 a (.ins C dx (putF f v1 (ns.zip ws)))) e1 hH hT hq fun b z => by
            rcases z with z | z
            · exact ⟨(I2.off i b z).1, hT b (I2.off i b z).2, .inl z⟩
            · exact ⟨(r2.off b z).1, hT b (r2.off b z).2.1, .inr (r2.off b z).2.2⟩
          have t3 := Tr.newslot (P := G2) (r := i) (G2 := fun b => F1 i b ∨ G2 b) (H2 := upd H1 a (.ins C dx (putF f v1 (ns.zip ws)))) I2 hH hT (CodeK.updI g7) fun b z => z.elim .inr .inl
          exact q.nx _ _ _ _ _ w3 J (t2.trans0 t3)
      · exact w1.elim
  · cases h
end
end Y
namespace Y
open PySem PySem.Spec PyProof.Rows L2

section
variable {K : PySem.W.Frag} {T : List FSpec} {ct : Ct} {pins : List (Nat × V)} {a b c r p e v tgt src body : C} {D : Ends} {po : Post} {P P1 : Pm} {S H S1 H1 S0 H0 : Hp} {σ : L2.St} {ρ : Env} {F : Sl → Pm} {G Gy : Pm} {m m' me mr : M} {dr dy : Y.D} {vv w : V} {rt : Nat} {put : Y.D → Y.D} {xs : List Y.D}
theorem S_unp (ts : C) (hg : GsOk T ct pins ts) (he : EOk T ct pins e) : SOk T ct pins (.unp ts e) := by
  intro X Z k hX st h
  unfold mS at h
  split at h
  · rename_i xs _ _ v pos
    simp only [Bool.and_eq_true, Bool.not_eq_true'] at h
    obtain ⟨⟨⟨h1, h2⟩, h3⟩, h4⟩ := h
    obtain ⟨n1, n2⟩ := mGs_len (env := X.env) h1
    refine PS.imp (ps_asg (he hX _ h2) (pg_tup hX.calm (hg hX [] _ h1) n1 n2) ?_ ?_ rfl) fun D σ H ⟨po, ρ, S, F, h, I, q⟩ => ?_
    · cases v <;> first | rfl | exact absurd h3 (by intro z; cases z)
    · cases v <;> first | rfl | exact absurd h4 (by intro z; cases z)
    · refine tE.sh (by unfold wS at h; exact h) I (Tr.refl fun _ z => z) fun v1 H1 S1 ρ1 F1 m1 d1 w1 I1 r1 t1 s1 => ?_
      split at w1
      · rename_i ds
        unfold Rep at r1
        obtain ⟨b, vs, rfl, e2, e3⟩ := r1
        exact ⟨b, vs, rfl, Same.seqT I1.sub e2, by rw [← e3.length]; exact w1.1, po.nx, ρ1, S1, F1, ds, w1.2, I1, e3, fun σ' H' S' ρ' F' hn I' t' _ => q.nx σ' H' S' ρ' F' hn I' (t1.trans0 t')⟩
      · exact w1.elim
  · cases h
/-- an item is put in a list's place -/
theorem set_fin (I : Sta K ct pins S H σ ρ F) (L : Lens K ct S H σ ρ F rt (.o m') G put vv) (hr : ρ.at rt = some (mr, dr)) (hG : ∀ a, G a → F rt a) (hv : RepM K ct S H (.o m') G (.lst xs) vv) (y : Vl K ct S H F me Gy dy w)
    (t : Tr P S0 H0 S H (fun a => Gy a ∨ Pt F a)) (c : cst me m' = true) {n : Nat} (hn : n < xs.length) :
    ∃ l vs, vv = .ref l ∧ H l = some (.lst vs) ∧ vs.length = xs.length ∧ ∃ S' F', Sta K ct pins S' (upd H l (.lst (vs.set n w))) σ (ρ.set rt (some (mr, put (.lst (xs.set n dy))))) F' ∧ Tr P S0 H0 S' (upd H l (.lst (vs.set n w))) (Pt F') := by
  have hss : ∃ S1 Gy', Same S S1 ∧ Vl K ct S1 H F m' Gy' dy w ∧ Sta K ct pins S1 H σ ρ F ∧ Tr P S0 H0 S1 H (fun a => Gy' a ∨ Pt F a) := by
    rcases cst_eq c with rfl | rfl
    · obtain ⟨q1, q2, q3⟩ := y.frz I t
      exact ⟨_, _, frz_ge, Vl.sh q1, q2, q3.sub fun a z => z.elim (fun z => z.elim) fun z => z⟩
    · exact ⟨S, Gy, Same.refl _, y, I, t⟩
  obtain ⟨S1, Gy', e, y', I', t'⟩ := hss
  have L' := L.ss e
  have hv' : RepM K ct S1 H (.o m') G (.lst xs) vv := hv.mono e fun _ _ => rfl
  unfold RepM at hv'
  obtain ⟨a, vs, ds, F', e1, rfl, e3, e4, e5, e6⟩ := hv'
  cases e1
  obtain ⟨ov, F1, F2, f1, f2, f3, f4, f5, f6⟩ := e6.at (List.getElem?_eq_getElem hn)
  have nya : ∀ b, Gy' b → b ≠ a := fun b z q => (y'.off b z).2.2 rt (by rw [q]; exact hG a e3)
  have hH : ∀ b, ¬ G b → upd H a (.lst (vs.set n w)) b = H b := fun b n => upd_ne fun q => n (by rw [q]; exact e3)
  have hq : RepM K ct S1 (upd H a (.lst (vs.set n w))) (.o m') (fun b => b = a ∨ (Gy' b ∨ F2 b)) (.lst (xs.set n dy)) (.ref a) := by
    unfold RepM
    refine ⟨a, vs.set n w, _, fun b => Gy' b ∨ F2 b, rfl, rfl, .inl rfl, upd_same, fun b z => ⟨.inr z, ?_⟩, ?_⟩
    · rcases z with z | z
      · exact nya b z
      · exact (e5 b (f3 b z)).2
    · exact f6 (fun G d v => RepM K ct S1 (upd H a (.lst (vs.set n w))) m' G d v) Gy' dy w (fun F'' d v hF z => RepM.mono (F := F'') (Same.refl _) (fun b q => upd_ne (e5 b (f3 b (hF b q))).2) z) (fun b z q => (y'.off b z).2.2 rt (hG b (e5 b (f3 b q)).1)) (y'.rep.mono (Same.refl _) fun b z => upd_ne (nya b z))
  have hoff : ∀ b, (b = a ∨ (Gy' b ∨ F2 b)) → S1 b = none ∧ upd H a (.lst (vs.set n w)) b ≠ none ∧ (G b ∨ ∀ i, ¬ F i b) := fun b z => by
    have old : G b → S1 b = none ∧ upd H a (.lst (vs.set n w)) b ≠ none ∧ (G b ∨ ∀ i, ¬ F i b) := fun z => ⟨(I'.off rt b (hG b z)).1, upd_there (I'.off rt b (hG b z)).2, .inl z⟩
    rcases z with z | z | z
    · exact old (by rw [z]; exact e3)
    · exact ⟨(y'.off b z).1, upd_there (y'.off b z).2.1, .inr (y'.off b z).2.2⟩
    · exact old (e5 b (f3 b z)).1
  refine ⟨a, vs, rfl, e4, e6.length.symm, S1, _, I'.put L' hr (fun z => nomatch z) hG hH (fun b z => upd_there z) hq hoff, t'.trans0 ?_⟩
  refine Tr.put (P := Gy') I' hG hH (fun b z => upd_there z) (CodeK.updL e4) fun b z => ?_
  rcases z with z | z | z
  · exact .inr (by rw [z]; exact e3)
  · exact .inl z
  · exact .inr (e5 b (f3 b z)).1
theorem ixN_lt {n : Nat} {i : Int} {j : Nat} (h : ixN n i = some j) : j < n := (ixN_seq h).2.1
theorem ok_assign {X : Cx} {o i : Expr} {pos : Pos} (hi : okE i = true) (v : Value) : assign (.Subscript o i pos) X.env v = (do
      let ov ← holding [v] (eval o X.env)
      let iv ← holding [v, ov] (eval i X.env)
      standAt pos
      holding [v, ov, iv] (setItem ov iv v)
      release [v, ov, iv] []) := by
  cases i <;> first | rfl | exact absurd hi Bool.false_ne_true
theorem S_setix (hp : BOk T ct pins p) (he : EOk T ct pins e) (hv : EOk T ct pins v) : SOk T ct pins (.setix p e v) := by
  intro X Z k hX st h
  unfold mS at h
  split at h
  · rename_i bx ix _ w pos
    simp only [Bool.and_eq_true, Bool.not_eq_true'] at h
    obtain ⟨⟨⟨h1, h2⟩, h3⟩, h4⟩ := h
    have sw : swapsWithSole [.Subscript bx ix ‹Pos›] w pos.line X.env = pure false := by
      cases w <;> first | rfl | exact absurd h4 (by intro z; cases z)
    by_cases hb : p.isBor = true
    · refine PS.imp (ps_asg (hv hX _ h3) (pg_sub (pe_root hX hb h1) (he hX _ h2) set_list (ok_assign (mE_ok h2))) sw rfl rfl) fun D σ H ⟨po, ρ, S, F, h, I, q⟩ => ?_
      unfold wS at h
      refine ⟨_, ρ, S, F, h, I, fun v1 H1 S1 ρ1 F1 m1 d1 G1 w1 I1 r1 t1 => ?_⟩
      dsimp only at w1
      rw [hb] at w1
      obtain ⟨h0, w1⟩ := w1
      obtain ⟨v, hv⟩ := I1.root h0
      refine ⟨v, hv, ?_⟩
      refine tE.sh w1 I1 (Tr.refl fun _ z => z) fun v2 H2 S2 ρ2 F2 m2 d2 w2 I2 r2 t2 s2 => ?_
      split at w2
      · rename_i m' xs i hd2
        obtain ⟨n, z1, z2, z3⟩ := w2
        unfold Rep at r2
        subst r2
        have y2 := r1.keep t2 fun i a z => ⟨i, z⟩
        have tt := Tr.trans t1 t2
        obtain ⟨l, vs, rfl, g2, g3, S3, F3, I3, t3⟩ := set_fin I2 (Lens.root hv hd2) hd2 (fun a z => z) (I2.slv hv hd2) y2 tt z2 (ixN_lt z1)
        exact ⟨l, vs, i, n, rfl, rfl, g2, by rw [g3]; exact z1, q.nx _ _ S3 _ F3 z3 I3 t3⟩
      · exact w2.elim
    · refine PS.imp (ps_asg (hv hX _ h3) (pg_sub (hp hX _ h1) (he hX _ h2) set_list (ok_assign (mE_ok h2))) sw rfl rfl) fun D σ H ⟨po, ρ, S, F, h, I, q⟩ => ?_
      unfold wS at h
      refine ⟨_, ρ, S, F, h, I, fun v1 H1 S1 ρ1 F1 m1 d1 G1 w1 I1 r1 t1 => ?_⟩
      dsimp only at w1
      rw [Bool.not_eq_true] at hb
      rw [hb] at w1
      refine ⟨_, ρ1, S1, F1, w1, I1, fun v2 H2 S2 ρ2 F2 m2 d2 put G2 w2 I2 r2 hG L2 t2 => ?_⟩
      obtain ⟨mr, dr, f1, w2⟩ := w2
      have lt := at_lt f1
      have y2 := r1.keep t2 fun i a z => ⟨i, z⟩
      have tt2 := Tr.trans t1 t2
      refine tE.sh w2 (I2.lock p.root) (Tr.refl fun _ z => z) fun v3 H3 S3 ρ3 F3 m3 d3 w3 I3 r3 t3 s3 => ?_
      split at w3
      · rename_i m' xs i
        obtain ⟨n, z1, z2, z3⟩ := w3
        unfold Rep at r3
        subst r3
        have J := Sta.unlock I2 I3 t3 (fun a z => z) lt
        have L3 := Lens.unlock I2 I3 t3 L2
        have tt := Tr.trans tt2 (Tr.unlock I2 t3)
        have r2' := r2.mono t3.ss fun a z => (t3.locked I2 (hG a z)).1
        have y3 : Vl X.K ct S3 H3 (Fs F3 p.root (F2 p.root)) m1 G1 d1 v1 := by
          refine y2.keep (Tr.unlock I2 t3) fun i a z => ?_
          rcases z with ⟨_, z⟩ | ⟨_, z⟩
          · exact .inr z
          · exact .inl ⟨i, z⟩
        have rt : Env.at (ρ3.set p.root (ρ2.at p.root)) p.root = some (mr, dr) := by
          rw [at_set_self]
          · exact f1
          · have := I3.len
            rw [this, ← I2.len]
            exact lt
        obtain ⟨l, vs, rfl, g2, g3, S4, F4, I4, t4⟩ := set_fin J L3 rt (fun a z => Fs_self.mpr (hG a z)) r2' y3 (tt.sub fun a z => by
          rcases z with z | ⟨i, ⟨_, y⟩ | ⟨_, y⟩⟩
          · exact .inl z
          · exact .inr (.inr y)
          · exact .inr (.inl ⟨i, y⟩)) z2 (ixN_lt z1)
        rw [List.set_set] at I4
        exact ⟨l, vs, i, n, rfl, rfl, g2, by rw [g3]; exact z1, q.nx _ _ S4 _ F4 z3 I4 t4⟩
      · exact w3.elim
  · cases h
/-- two items of an own list are given at once -/
theorem S_swp (i : Nat) {e1 e2 : C} (ha : EOk T ct pins e1) (hb : EOk T ct pins e2) (hv : EOk T ct pins v) : SOk T ct pins (.swp i e1 e2 v) := by
  intro X Z k hX st h
  unfold mS at h
  split at h
  · rename_i x px i1 p1 y py i2 p2 kt pt w pos
    simp only [Bool.and_eq_true, Bool.not_eq_true'] at h
    obtain ⟨⟨⟨⟨⟨g1, g2⟩, g3⟩, g4⟩, g5⟩, g6⟩ := h
    obtain ⟨a1, a2, a3, a4⟩ := slot_of hX g1
    obtain ⟨b1, b2, b3, b4⟩ := slot_of hX g2
    have sw : swapsWithSole [.Tuple [.Subscript (.Name x px) i1 p1, .Subscript (.Name y py) i2 p2] kt pt] w pos.line X.env = pure false := by
      cases w <;> first | rfl | exact absurd g6 (by intro z; cases z)
    have sst : swappedStores [.Tuple [.Subscript (.Name x px) i1 p1, .Subscript (.Name y py) i2 p2] kt pt] w X.env = pure none := by
      cases w <;> first | rfl | skip
      unfold swappedStores
      simp only [pure_bind]
      split
      · rfl
      · split
        · rfl
        · rfl
    refine PS.imp (ps_asg (hv hX _ g5) (pg_tup hX.calm (pgs_cons (pg_sub (pe_var a1 a2 a3 a4) (ha hX _ g3) set_list (ok_assign (mE_ok g3))) (pgs_cons (pg_sub (pe_var b1 b2 b3 b4) (hb hX _ g4) set_list (ok_assign (mE_ok g4))) pgs_nil))) sw sst rfl) fun D σ H ⟨po, ρ, S, F, h, I, q⟩ => ?_
    refine tE.sh (by unfold wS at h; exact h) I (Tr.refl fun _ z => z) fun v1 H1 S1 ρ1 F1 m1 d1 w1 I1 r1 t1 s1 => ?_
    split at w1
    · rename_i da db
      obtain ⟨h0, w1⟩ := w1
      unfold Rep at r1
      obtain ⟨l, vs, rfl, e2, e3⟩ := r1
      unfold Reps at e3
      obtain ⟨va, r, rfl, ra, e3⟩ := e3
      unfold Reps at e3
      obtain ⟨vb, r, rfl, rb, e3⟩ := e3
      unfold Reps at e3
      subst e3
      refine ⟨l, [va, vb], rfl, Same.seqT I1.sub e2, rfl, va, [vb], rfl, ?_⟩
      obtain ⟨u, hu⟩ := I1.root h0
      refine ⟨u, hu, ?_⟩
      refine tE.sh w1 I1 t1 fun v2 H2 S2 ρ2 F2 m2 d2 w2 I2 r2 t2 s2 => ?_
      split at w2
      · rename_i xs j hd2
        obtain ⟨n, z1, w2⟩ := w2
        unfold Rep at r2
        subst r2
        obtain ⟨l1, vs1, rfl, f2, f3, S3, F3, I3, t3⟩ := set_fin (S0 := S2) (H0 := H2) (P := Pt F2) (me := .s) I2 (Lens.root hu hd2) hd2 (fun a z => z) (I2.slv hu hd2) (Vl.sh (ra.mono s2)) ((Tr.refl fun _ z => z).sub fun a z => z.elim (fun z => z.elim) fun z => z) (cst_s _) (ixN_lt z1)
        refine ⟨l1, vs1, j, n, rfl, rfl, f2, by rw [f3]; exact z1, vb, [], rfl, ?_⟩
        refine ⟨V.ref l1, hu, ?_⟩
        refine tE.sh w2 I3 (t2.trans0 t3) fun v4 H4 S4 ρ4 F4 m4 d4 w4 I4 r4 t4 s4 => ?_
        split at w4
        · rename_i ys j2 hd4
          obtain ⟨n2, z3, w4⟩ := w4
          unfold Rep at r4
          subst r4
          obtain ⟨l2, vs2, e9, k2, k3, S5, F5, I5, t5⟩ := set_fin (S0 := S4) (H0 := H4) (P := Pt F4) (me := .s) I4 (Lens.root hu hd4) hd4 (fun a z => z) (I4.slv hu hd4) (Vl.sh (rb.mono (s2.trans (t3.ss.trans s4)))) ((Tr.refl fun _ z => z).sub fun a z => z.elim (fun z => z.elim) fun z => z) (cst_s _) (ixN_lt z3)
          exact ⟨l2, vs2, j2, n2, e9, rfl, k2, by rw [k3]; exact z3, rfl, q.nx _ _ S5 _ F5 w4 I5 (t4.trans0 t5)⟩
        · exact w4.elim
      · exact w2.elim
    · exact w1.elim
  · cases h
/-- xs[i] by values, i not negative -/
def rGetL : V → V → Hp → VK → Prop := fun x y H Q => ∃ l xs i v, x = .ref l ∧ y = .int i ∧ H l = some (.lst xs) ∧ 0 ≤ i ∧ xs[i.toNat]? = some v ∧ Q v H
theorem get_list {X : Cx} : PGet X rGetL := by
  intro ps s σ H o i ov iv Q J ro ri h
  obtain ⟨l, xs, n, z, rfl, rfl, hl, h0, hz, q⟩ := h
  cases ro
  obtain ⟨t, rfl⟩ := ri
  obtain ⟨us, ru, pl, hs⟩ := J.list (SqL.of hl)
  obtain ⟨u, hu, rz⟩ := ru.get hz
  have hlt := (List.getElem?_eq_some_iff.mp hz).1
  have h63 := line63
  exact wpAny_getItem_list pl.isList h0 (by omega) (x := u) (by simpa using hu) ⟨z, H, J, rz, q⟩
theorem ok_aug {i : Expr} (hi : okE i = true) (ov iv new : Value) : augStore i ov iv new = (do holding [new, ov, iv] (setItem ov iv new); release [new, ov, iv] []; pure .next) := by
  cases i <;> first | rfl | exact absurd hi Bool.false_ne_true
def rAug (op : Operator) : TIp := fun x y H Q => ∃ i j k, x = .int i ∧ y = .int j ∧ augI op i j k ∧ ∀ z, k z → Q (.int z) H
theorem ip_aug {X : Cx} {op : Operator} : PIp X op (rAug op) := by
  intro ps s σ H x y v u Q J rx ry ⟨i, j, k, e1, e2, h, q⟩
  unfold augI at h
  split at h
  · exact iop_add ps s σ H x y v u Q J rx ry ⟨i, j, e1, e2, q _ h⟩
  · exact iop_sub ps s σ H x y v u Q J rx ry ⟨i, j, e1, e2, q _ h⟩
  · exact h.elim
theorem S_augix (op : Operator) (hp : BOk T ct pins p) (he : EOk T ct pins e) (hv : EOk T ct pins v) : SOk T ct pins (.augix p e op v) := by
  intro X Z k hX st h
  unfold mS at h
  split at h
  · simp only [Bool.and_eq_true, decide_eq_true_eq] at h
    obtain ⟨⟨⟨rfl, h1⟩, h2⟩, h3⟩ := h
    have ixn : ∀ {n : Nat} {i : Int}, 0 ≤ i → i < n → ixN n i = some i.toNat := fun h0 h1 => by unfold ixN; rw [if_pos h0, if_pos h1]
    by_cases hb : p.isBor = true
    · refine PS.imp (ps_augS (pe_root hX hb h1) (he hX _ h2) get_list (hv hX _ h3) ip_aug set_list (ok_aug (mE_ok h2))) fun D σ H ⟨po, ρ, S, F, h, I, q⟩ => ?_
      unfold wS at h
      rw [hb] at h
      obtain ⟨h0, h⟩ := h
      obtain ⟨v, hv⟩ := I.root h0
      refine ⟨v, hv, ?_⟩
      refine tE.sh h I (Tr.refl fun _ z => z) fun v1 H1 S1 ρ1 F1 m1 d1 w1 I1 r1 t1 s1 => ?_
      split at w1
      · rename_i xs i hd
        obtain ⟨i0, x, hx, w1⟩ := w1
        unfold Rep at r1
        subst r1
        have hq := I1.slv hv hd
        obtain ⟨l, vs, rfl, g2, g3⟩ := hq.lstS (.inr rfl) I1.sub
        obtain ⟨xv, x1, x2⟩ := g3.get hx
        unfold Rep at x2
        subst x2
        refine ⟨l, vs, i, _, rfl, rfl, g2, i0, x1, ?_⟩
        refine tE.sh w1 I1 t1 fun v2 H2 S2 ρ2 F2 m2 d2 w2 I2 r2 t2 s2 => ?_
        split at w2
        · rename_i xs2 y hd2
          unfold Rep at r2
          subst r2
          refine ⟨x, y, _, rfl, rfl, w2.2, fun z hz => ?_⟩
          have y2 : Vl X.K ct S2 H2 F2 .s (fun _ => False) (.int z) (.int z) := Vl.sh (rInt z)
          have w2l := w2.1
          obtain ⟨l', vs2, e1, g4, g5, S3, F3, I3, t3⟩ := set_fin (n := i.toNat) I2 (Lens.root hv hd2) hd2 (fun a z => z) (I2.slv hv hd2) y2 (t2.sub fun a z => z.elim (fun z => z.elim) fun z => z) rfl (by omega)
          cases e1
          exact ⟨l, vs2, i, i.toNat, rfl, rfl, g4, ixn i0 (by rw [g5]; exact w2.1), q.nx _ _ S3 _ F3 hz I3 t3⟩
        · exact w2.elim
      · exact w1.elim
    · refine PS.imp (ps_augS (hp hX _ h1) (he hX _ h2) get_list (hv hX _ h3) ip_aug set_list (ok_aug (mE_ok h2))) fun D σ H ⟨po, ρ, S, F, h, I, q⟩ => ?_
      unfold wS at h
      rw [Bool.not_eq_true] at hb
      rw [hb] at h
      refine ⟨_, ρ, S, F, h, I, fun v1 H1 S1 ρ1 F1 m1 d1 put G1 w1 I1 r1 hG L1 t1 => ?_⟩
      obtain ⟨mr, dr, f1, w1⟩ := w1
      have lt := at_lt f1
      refine tE.sh w1 (I1.lock p.root) (Tr.refl fun _ z => z) fun v2 H2 S2 ρ2 F2 m2 d2 w2 I2 r2 t2 s2 => ?_
      split at w2
      · rename_i xs i
        obtain ⟨i0, x, hx, w2⟩ := w2
        unfold Rep at r2
        subst r2
        have r1' := r1.mono t2.ss fun a z => (t2.locked I1 (hG a z)).1
        obtain ⟨l, vs, rfl, g2, g3⟩ := r1'.lstS (.inr rfl) I2.sub
        obtain ⟨xv, x1, x2⟩ := g3.get hx
        unfold Rep at x2
        subst x2
        refine ⟨l, vs, i, _, rfl, rfl, g2, i0, x1, ?_⟩
        refine tE.sh w2 I2 t2 fun v3 H3 S3 ρ3 F3 m3 d3 w3 I3 r3 t3 s3 => ?_
        split at w3
        · rename_i y
          unfold Rep at r3
          subst r3
          refine ⟨x, y, _, rfl, rfl, w3, fun z hz => ?_⟩
          have J := Sta.unlock I1 I3 t3 (fun a z => z) lt
          have L3 := Lens.unlock I1 I3 t3 L1
          have tt := t1.trans0 (Tr.unlock I1 t3)
          have r3' := r1.mono t3.ss fun a z => (t3.locked I1 (hG a z)).1
          have y3 : Vl X.K ct S3 H3 (Fs F3 p.root (F1 p.root)) .s (fun _ => False) (.int z) (.int z) := Vl.sh (rInt z)
          have rt : Env.at (ρ3.set p.root (ρ1.at p.root)) p.root = some (mr, dr) := by
            rw [at_set_self]
            · exact f1
            · have := I3.len
              rw [this, ← I1.len]
              exact lt
          have hlt := (List.getElem?_eq_some_iff.mp hx).1
          obtain ⟨l', vs2, e1, g4, g5, S4, F4, I4, t4⟩ := set_fin (n := i.toNat) J L3 rt (fun a z => Fs_self.mpr (hG a z)) r3' y3 (tt.sub fun a z => by
            rcases z with z | ⟨i, ⟨_, y⟩ | ⟨_, y⟩⟩
            · exact z.elim
            · exact .inr y
            · exact .inl ⟨i, y⟩) rfl hlt
          cases e1
          rw [List.set_set] at I4
          exact ⟨l, vs2, i, i.toNat, rfl, rfl, g4, ixn i0 (by rw [g5]; omega), q.nx _ _ S4 _ F4 hz I4 t4⟩
        · exact w3.elim
      · exact w2.elim
  · cases h
theorem S_aug (i : Nat) (op : Operator) (he : EOk T ct pins e) : SOk T ct pins (.aug i op e) := by
  intro X Z k hX st h
  unfold mS at h
  split at h
  · simp only [Bool.and_eq_true, decide_eq_true_eq] at h
    obtain ⟨⟨rfl, h1⟩, h2⟩ := h
    obtain ⟨hs, hl, hf⟩ := store_of hX h1
    refine PS.imp (ps_aug (by rw [hX.N]; exact hX.nd) hs hl (he hX _ h2) ip_aug hf) fun D σ H ⟨po, ρ, S, F, h, I, q⟩ => ?_
    unfold wS at h
    split at h
    · rename_i x hd
      obtain ⟨n1, h⟩ := h
      obtain ⟨v, e1, e2⟩ := I.sl _ _ _ hd
      unfold RepM Rep at e2
      subst e2
      refine ⟨_, e1, ?_⟩
      refine tE.sh h I (Tr.refl fun _ z => z) fun v1 H1 S1 ρ1 F1 m1 d1 w1 I1 r1 t1 s1 => ?_
      split at w1
      · rename_i y
        unfold Rep at r1
        subst r1
        exact ⟨x, y, _, rfl, rfl, w1, fun z hz => q.nx _ H1 S1 _ _ hz (I1.store (Vl.sh (rInt z)) n1) (t1.sub fun a z => (Pt_store z).elim (fun z => z.elim) fun z => z)⟩
      · exact w1.elim
    · exact h.elim
  · cases h
theorem S_ifs (hc : TOk T ct pins c) (ha : BkOk T ct pins a) (hb : BkOk T ct pins b) : SOk T ct pins (.ifs c a b) := by
  intro X Z k hX st h
  unfold mS at h
  split at h
  · simp only [Bool.and_eq_true] at h
    obtain ⟨⟨h1, h2⟩, h3⟩ := h
    refine PS.imp (ps_if (hc hX _ h1) (ha hX _ h2) (hb hX _ h3)) fun D σ H ⟨po, ρ, S, F, h, I, q⟩ => ?_
    refine ⟨_, ρ, S, F, by unfold wS at h; exact h, I, fun k H1 S1 ρ1 F1 w1 I1 t1 => ?_⟩
    cases k with
    | true =>
      rw [if_pos rfl] at w1 ⊢
      exact ⟨po, ρ1, S1, F1, w1, I1, q.later t1⟩
    | false =>
      rw [if_neg Bool.false_ne_true] at w1 ⊢
      exact ⟨po, ρ1, S1, F1, w1, I1, q.later t1⟩
  · cases h
theorem S_for (hs : IOk T ct pins src) (hg : GOk T ct pins tgt) (hb : BkOk T ct pins body) : SOk T ct pins (.for_ tgt src body) := by
  intro X Z k hX st h
  unfold mS at h
  split at h
  · simp only [Bool.and_eq_true] at h
    obtain ⟨⟨⟨h1, h2⟩, h3⟩, h4⟩ := h
    have hp : PassesOwn (model X.prog X.w) X.A X.env X.xe := by
      rw [hX.xe]
      exact PassesOwn.never
    refine PS.imp (ps_for hp hX.calm (hs hX _ _ h1 h2) (hg hX [] _ h3) (hb hX _ h4) (mI_fold h1 _)) fun D σ H ⟨po, ρ, S, F, h, I, q⟩ => ?_
    refine ⟨_, ρ, S, F, by unfold wS at h; exact h, I, fun J H1 S1 ρ1 F1 items w1 I1 t1 hJ => ?_⟩
    obtain ⟨Inv, i0, turn, fin⟩ := w1
    refine ⟨fun i n σ' Hc => n = items.length - i ∧ i ≤ items.length ∧ ∃ S ρ F, Inv i ρ ∧ Sta X.K ct pins S Hc σ' ρ F ∧ Tr (Pt F1) S1 H1 S Hc (Pt F), ⟨items.length, rfl, Nat.zero_le _, S1, ρ1, F1, i0, I1, Tr.refl fun _ z => z⟩, ?_⟩
    rintro i n σ' Hc ⟨rfl, hi, S2, ρ2, F2, inv, I2, t2⟩
    obtain ⟨j1, j2, j3⟩ := hJ S2 Hc t2.ss I2.sub
    by_cases hlt : i < items.length
    · refine .inr ⟨j1 i hlt, fun σ3 H3 => ∃ S ρ F, Inv (i + 1) ρ ∧ Sta X.K ct pins S H3 σ3 ρ F ∧ Tr (Pt F1) S1 H1 S H3 (Pt F), fun σ3 H3 z => ⟨items.length - (i + 1), by omega, rfl, hlt, z⟩, fun x H3 hy => ?_⟩
      obtain ⟨S3, d, e1, e2, e3, e4, e5, e6⟩ := j3 i x H3 hlt hy
      have I3 := I2.grow e4 e3 e5 e6
      have t3 : Tr (Pt F2) S2 Hc S3 H3 (Pt F2) := (Tr.grow (G := fun _ => False) e4 e3 e6 fun a z => z.elim).sub fun a z => .inr z
      have T3 := t2.trans0 t3
      refine ⟨_, ρ2, S3, F2, d, turn i d ρ2 e1 inv, I3, e2, fun σ4 H4 S4 ρ4 F4 w4 I4 t4 _ => ?_⟩
      have T4 := T3.trans0 t4
      have TT := t1.trans0 T4
      refine ⟨_, ρ4, S4, F4, w4, I4, fun σ5 H5 S5 ρ5 F5 w5 I5 t5 => ?_, fun σ5 H5 S5 ρ5 F5 w5 I5 t5 => ?_, fun σ5 H5 S5 ρ5 F5 w5 I5 t5 => ?_, fun v σ5 H5 S5 ρ5 F5 m d G w5 I5 hv t5 => ?_⟩
      · exact ⟨S5, ρ5, F5, w5, I5, T4.trans0 t5⟩
      · exact q.nx σ5 H5 S5 ρ5 F5 w5 I5 (TT.trans0 t5)
      · exact ⟨S5, ρ5, F5, w5, I5, T4.trans0 t5⟩
      · exact q.rt v σ5 H5 S5 ρ5 F5 m d G w5 I5 hv (TT.trans0 t5)
    · have e : i = items.length := by omega
      subst e
      exact .inl ⟨j2 _ rfl, q.nx σ' Hc S2 ρ2 F2 (fin ρ2 inv) I2 (t1.trans0 t2)⟩
  · cases h
theorem S_while (hc : TOk T ct pins c) (hb : BkOk T ct pins body) : SOk T ct pins (.while_ c body) := by
  intro X Z k hX st h
  unfold mS at h
  split at h
  · simp only [Bool.and_eq_true] at h
    have hp : PassesOwn (model X.prog X.w) X.A X.env X.xe := by
      rw [hX.xe]
      exact PassesOwn.never
    refine PS.imp (ps_while hp (hc hX _ h.1) (hb hX _ h.2)) fun D σ H ⟨po, ρ, S, F, h, I, q⟩ => ?_
    unfold wS at h
    obtain ⟨Inv, ⟨n0, i0⟩, turn⟩ := h
    refine ⟨fun n σ' Hc => ∃ S' ρ F', Inv n ρ ∧ Sta X.K ct pins S' Hc σ' ρ F' ∧ Tr (Pt F) S H S' Hc (Pt F'), ⟨n0, S, ρ, F, i0, I, Tr.refl fun _ z => z⟩, ?_⟩
    rintro n σ' Hc ⟨S2, ρ2, F2, inv, I2, t2⟩
    refine ⟨_, ρ2, S2, F2, turn n ρ2 inv, I2, fun k H3 S3 ρ3 F3 w3 I3 t3 => ?_⟩
    have T3 := t2.trans0 t3
    dsimp only
    cases k with
    | true =>
      rw [if_pos rfl] at w3 ⊢
      refine ⟨fun σ4 H4 => ∃ n', n' < n ∧ ∃ S' ρ F', Inv n' ρ ∧ Sta X.K ct pins S' H4 σ4 ρ F' ∧ Tr (Pt F) S H S' H4 (Pt F'), fun σ4 H4 z => z, ?_⟩
      refine ⟨_, ρ3, S3, F3, w3, I3, fun σ5 H5 S5 ρ5 F5 w5 I5 t5 => ?_, fun σ5 H5 S5 ρ5 F5 w5 I5 t5 => ?_, fun σ5 H5 S5 ρ5 F5 w5 I5 t5 => ?_, fun v σ5 H5 S5 ρ5 F5 m d G w5 I5 hv t5 => ?_⟩
      · obtain ⟨n', l', w5⟩ := w5
        exact ⟨n', l', S5, ρ5, F5, w5, I5, T3.trans0 t5⟩
      · exact q.nx σ5 H5 S5 ρ5 F5 w5 I5 (T3.trans0 t5)
      · obtain ⟨n', l', w5⟩ := w5
        exact ⟨n', l', S5, ρ5, F5, w5, I5, T3.trans0 t5⟩
      · exact q.rt v σ5 H5 S5 ρ5 F5 m d G w5 I5 hv (T3.trans0 t5)
    | false =>
      rw [if_neg Bool.false_ne_true] at w3 ⊢
      exact q.nx _ H3 S3 ρ3 F3 w3 I3 T3
  · cases h
theorem S_ret (he : EOk T ct pins e) : SOk T ct pins (.ret e) := by
  intro X Z k hX st h
  unfold mS at h
  split at h
  · refine PS.imp (ps_ret (he hX _ h)) fun D σ H ⟨po, ρ, S, F, h, I, q⟩ => ?_
    exact ⟨_, ρ, S, F, by unfold wS at h; exact h, I, fun v1 H1 S1 ρ1 F1 m1 d1 G1 w1 I1 r1 t1 => q.rt v1 σ H1 S1 ρ1 F1 m1 d1 G1 w1 I1 r1 t1⟩
  · cases h
theorem S_retn : SOk T ct pins .retn := by
  intro X Z k hX st h
  unfold mS at h
  split at h
  · refine PS.imp ps_retN fun D σ H ⟨po, ρ, S, F, h, I, q⟩ => ?_
    exact q.rt .non σ H S ρ F .s .non (fun _ => False) h I (Vl.sh rNon) (Tr.refl fun a z => z.elim (fun z => z.elim) fun z => z)
  · cases h
theorem S_brk : SOk T ct pins .brk := by
  intro X Z k hX st h
  unfold mS at h
  split at h
  · exact PS.imp ps_break fun D σ H ⟨po, ρ, S, F, h, I, q⟩ => q.bk σ H S ρ F h I (Tr.refl fun _ z => z)
  · cases h
theorem S_cont : SOk T ct pins .cont := by
  intro X Z k hX st h
  unfold mS at h
  split at h
  · exact PS.imp ps_continue fun D σ H ⟨po, ρ, S, F, h, I, q⟩ => q.cn σ H S ρ F h I (Tr.refl fun _ z => z)
  · cases h
theorem S_skip : SOk T ct pins .skip := by
  intro X Z k hX st h
  unfold mS at h
  split at h
  · exact PS.imp ps_pass fun D σ H ⟨po, ρ, S, F, h, I, q⟩ => q.nx σ H S ρ F h I (Tr.refl fun _ z => z)
  · exact PS.imp ps_doc fun D σ H ⟨po, ρ, S, F, h, I, q⟩ => q.nx σ H S ρ F h I (Tr.refl fun _ z => z)
  · cases h
theorem S_never : SOk T ct pins .never := fun hX st h => PS.no fun D σ H ⟨po, ρ, S, F, h, I, q⟩ => h
theorem Bk_skip : BkOk T ct pins .skip := by
  intro X Z k hX st h
  unfold mB at h
  split at h
  · exact PSs.imp pss_nil fun D σ H ⟨po, ρ, S, F, h, I, q⟩ => q.nx σ H S ρ F h I (Tr.refl fun _ z => z)
  · cases h
theorem Bk_seq (ha : SOk T ct pins a) (hb : BkOk T ct pins b) : BkOk T ct pins (.seq a b) := by
  intro X Z k hX st h
  unfold mB at h
  by_cases hf : a.isFrz = true
  · rw [hf] at h
    refine PSs.imp (hb hX _ h) fun D σ H ⟨po, ρ, S, F, h, I, q⟩ => ?_
    cases a with
    | frz i =>
      unfold wS at h
      unfold wS at h
      split at h
      · rename_i m d hd
        have I1 := I.lock i
        obtain ⟨v, e1, e2⟩ := I.sl i m d hd
        have V1 : Vl X.K ct S H (Fs F i fun _ => False) m (F i) d v := ⟨e2, fun a z => ⟨(I.off i a z).1, (I.off i a z).2, fun j y => by
          rcases y with ⟨_, y⟩ | ⟨ne, y⟩
          · exact y
          · exact ne (I.dj j i a y z)⟩⟩
        have t0 : Tr (Pt F) S H S H (fun a => F i a ∨ Pt (Fs F i fun _ => False) a) := Tr.refl fun a z => by
          rcases z with z | z
          · exact ⟨i, z⟩
          · obtain ⟨j, _, y⟩ := Pt_lock.mp z
            exact ⟨j, y⟩
        obtain ⟨q1, q2, q3⟩ := V1.frz I1 t0
        -- the slot again, shared
        have I3 : Sta X.K ct pins (Y.frz S H (F i)) H σ (ρ.set i (some (.s, d))) (Fs F i fun _ => False) := by
          refine ⟨q2.sub, by rw [List.length_set]; exact I.len, fun j m1 d1 e => ?_, q2.dj, q2.off, q2.pin, q2.tb⟩
          rcases at_set_some e with ⟨rfl, z⟩ | ⟨ne, z⟩
          · cases z
            exact ⟨v, e1, by unfold RepM; exact q1⟩
          · exact q2.sl j m1 d1 (by rw [at_set_ne ne]; exact z)
        exact ⟨po, _, _, _, h, I3, q.later q3⟩
      · exact h.elim
    | _ => cases hf
  · rw [Bool.not_eq_true] at hf
    rw [hf] at h
    cases st with
    | nil => cases h
    | cons s1 sr =>
      have h : (mS Z a s1 && mB Z b sr) = true := h
      rw [Bool.and_eq_true] at h
      refine PSs.imp (pss_cons (ha hX _ h.1) (hb hX _ h.2)) fun D σ H ⟨po, ρ, S, F, h, I, q⟩ => ?_
      unfold wS at h
      refine ⟨_, ρ, S, F, h, I, fun σ1 H1 S1 ρ1 F1 w1 I1 t1 => ?_, q.bk, q.cn, q.rt⟩
      exact ⟨po, ρ1, S1, F1, w1, I1, q.later t1⟩
theorem S_no (h : ∀ Z e, mS Z c e = false) : SOk T ct pins c := fun {X Z k} hX e q => by rw [h Z e] at q; cases q
theorem Bk_no (h : ∀ Z e, mB Z c e = false) : BkOk T ct pins c := fun {X Z k} hX e q => by rw [h Z e] at q; cases q
/-! ### match over texts -/
def MOk (T : List FSpec) (ct : Ct) (pins : List (Nat × V)) (c : C) : Prop := ∀ {X : Cx} {Z : SC} {k : Nat}, XOk T ct Z k X → ∀ i cs, mM Z i c cs = true → ∀ (pns : List (Addr × Obj)) (s : Shared) (σ : L2.St) (H : Hp) (D : Ends) (y : Str) (u : Value) (fst : Bool), Inv X pns σ H s → RelV (.str y) u → σ[i]? = some (some (.str y)) → tS X.K ct T pins c D σ H →
  wpAny (model X.prog X.w) X.A (matchCases cs X.env u fst) (SP X pns D) X.xe s
theorem case_run {X : Cx} {x y : Str} {kc : Nat} {pc pv : Pos} {bd : List Stmt} {rest : List MatchCase} {pns : List (Addr × Obj)} {s : Shared} {D : Ends} {u : Value} {fst : Bool} (I : Inv X pns σ H s) (ru : RelV (.str y) u)
    (hb : y = x → ∀ s', Inv X pns σ H s' → wpAny (model X.prog X.w) X.A (execs bd X.env) (SP X pns D) X.xe s') (hr : y ≠ x → ∀ s', Inv X pns σ H s' → wpAny (model X.prog X.w) X.A (matchCases rest X.env u false) (SP X pns D) X.xe s') :
    wpAny (model X.prog X.w) X.A (matchCases (⟨.MatchValue (.Constant (.str x) kc pc) pv, none, bd⟩ :: rest) X.env u fst) (SP X pns D) X.xe s := by
  refine wpAny_matchCases_cons (wpAny_matchPattern_Value (thn (pe_str.run pns s σ H (fun v H1 => v = .str x ∧ H1 = H) I ⟨rfl, rfl⟩) fun u2 s1 hq => ?_))
  obtain ⟨v, H1, I1, r1, rfl, rfl⟩ := hq
  refine thn (op_eq pns s1 σ H1 (.str y) (.str x) u u2 (fun v H' => v = .bl (decide (y = x)) ∧ H' = H1) I1 ru r1 ⟨rfl, by rw [dec_str, Bool.beq_eq_decide_eq], rfl⟩) fun c s2 hq => ?_
  obtain ⟨v, H2, I2, r2, rfl, rfl⟩ := hq
  obtain rfl : c = .bool (decide (y = x)) := r2
  refine wpAny_truthy_bool ?_
  by_cases e : y = x
  · rw [if_pos (decide_eq_true e)]
    exact wpAny_assignInOrder_none (hb e s2 I2)
  · rw [if_neg (by rw [decide_eq_true_eq]; exact e)]
    exact hr e s2 I2
theorem Sta.strAt {K : PySem.W.Frag} {i : Nat} {y : Str} (I : Sta K ct pins S H σ ρ F) (h : ρ.at i = some (.s, .str y)) : σ[i]? = some (some (.str y)) := by
  obtain ⟨v, e1, e2⟩ := I.sl i _ _ h
  unfold RepM Rep at e2
  subst e2
  exact e1
theorem tS.mtch {K : PySem.W.Frag} {i : Nat} {x y : Str} {b r : C} (h : tS K ct T pins (.mtch i x b r) D σ H) (hy : σ[i]? = some (some (.str y))) : (y = x → tS K ct T pins b D σ H) ∧ (y ≠ x → tS K ct T pins r D σ H) := by
  obtain ⟨po, ρ, S, F, h, I, q⟩ := h
  unfold wS at h
  split at h
  · rename_i y2 hd
    have e := I.strAt hd
    rw [hy] at e
    cases e
    refine ⟨fun e => ?_, fun e => ?_⟩
    · rw [if_pos e] at h
      exact ⟨po, ρ, S, F, h, I, q⟩
    · rw [if_neg e] at h
      exact ⟨po, ρ, S, F, h, I, q⟩
  · exact h.elim
theorem M_mtch {i : Nat} {x : Str} {b r : C} (hb : BkOk T ct pins b) (hr : MOk T ct pins r) : MOk T ct pins (.mtch i x b r) := by
  intro X Z k hX j cs h pns s σ H D y u fst I ru hy ht
  unfold mM at h
  split at h
  · simp only [Bool.and_eq_true, decide_eq_true_eq] at h
    obtain ⟨⟨⟨rfl, rfl⟩, h1⟩, h2⟩ := h
    obtain ⟨t1, t2⟩ := ht.mtch hy
    exact case_run I ru (fun e s' I' => (hb hX _ h1).run pns s' σ H D I' (t1 e)) fun e s' I' => hr hX _ _ h2 pns s' σ H D y u false I' ru hy (t2 e)
  · cases h
theorem M_skip : MOk T ct pins .skip := by
  intro X Z k hX j cs h pns s σ H D y u fst I ru hy ht
  unfold mM at h
  split at h
  · obtain ⟨po, ρ, S, F, h, J, q⟩ := ht
    exact wpAny_matchCases_nil ⟨σ, H, I, q.nx σ H S ρ F h J (Tr.refl fun _ z => z)⟩
  · cases h
theorem M_dflt {b : C} (hb : BkOk T ct pins b) : MOk T ct pins (.dflt b) := by
  intro X Z k hX j cs h pns s σ H D y u fst I ru hy ht
  unfold mM at h
  split at h
  · obtain ⟨po, ρ, S, F, h', J, q⟩ := ht
    exact wpAny_matchCases_cons (wpAny_matchPattern_Capture (wpAny_assignInOrder_none ((hb hX _ h).run pns s σ H D I ⟨po, ρ, S, F, h', J, q⟩)))
  · cases h
theorem S_mtch {i : Nat} {x : Str} {b r : C} (hb : BkOk T ct pins b) (hr : MOk T ct pins r) : SOk T ct pins (.mtch i x b r) := by
  intro X Z k hX st h
  unfold mS at h
  split at h
  · rename_i z pz y kc pc pv bd rest pos
    simp only [Bool.and_eq_true, decide_eq_true_eq] at h
    obtain ⟨⟨⟨h0, rfl⟩, h1⟩, h2⟩ := h
    obtain ⟨s1, s2, s3, s4⟩ := slot_of hX h0
    refine ⟨fun pns s σ H D I ht => ?_⟩
    have ht0 := ht
    obtain ⟨po, ρ, S, F, h, J, q⟩ := ht
    unfold wS at h
    split at h
    · rename_i y hd
      have hy := J.strAt hd
      refine wpAny_Match (thn ((pe_var s1 s2 s3 s4).run pns s σ H (fun v H1 => v = .str y ∧ H1 = H) I ⟨_, hy, rfl, rfl⟩) fun u s1 hq => ?_)
      obtain ⟨v, H1, I1, ru, rfl, rfl⟩ := hq
      obtain ⟨t1, t2⟩ := ht0.mtch hy
      exact case_run I1 ru (fun e s' I' => (hb hX _ h1).run pns s' σ H1 D I' (t1 e)) fun e s' I' => hr hX _ _ h2 pns s' σ H1 D y u false I' ru hy (t2 e)
    · exact h.elim
  · cases h
theorem M_no (h : ∀ Z i cs, mM Z i c cs = false) : MOk T ct pins c := fun {X Z k} hX i cs q => by rw [h Z i cs] at q; cases q
theorem sndM : ∀ c : C, SOk T ct pins c ∧ BkOk T ct pins c ∧ MOk T ct pins c := by
  intro c
  induction c with
  | skip => exact ⟨S_skip, Bk_skip, M_skip⟩
  | seq a b ha hb => exact ⟨S_no (by intros; rfl), Bk_seq ha.1 hb.2.1, M_no (by intros; rfl)⟩
  | ex e => exact ⟨S_ex (snd e).E, Bk_no (by intros; rfl), M_no (by intros; rfl)⟩
  | asg i m e =>
    refine ⟨S_asg i m (snd e).E (fun m' own tgt src cond elt he => ?_) (fun own tgt src cond ky va he => ?_), Bk_no (by intros; rfl), M_no (by intros; rfl)⟩
    · exact ⟨(snd src).I, (snd tgt).G, (snd cond).Cn, (snd elt).E⟩
    · exact ⟨(snd src).I, (snd tgt).G, (snd cond).Cn, (snd ky).E, (snd va).E⟩
  | setf i f m e => exact ⟨S_setf i f m (snd e).E, Bk_no (by intros; rfl), M_no (by intros; rfl)⟩
  | unp ts e => exact ⟨S_unp ts (snd ts).Gs (snd e).E, Bk_no (by intros; rfl), M_no (by intros; rfl)⟩
  | setix p e v => exact ⟨S_setix (snd p).B (snd e).E (snd v).E, Bk_no (by intros; rfl), M_no (by intros; rfl)⟩
  | swp i a b v => exact ⟨S_swp i (snd a).E (snd b).E (snd v).E, Bk_no (by intros; rfl), M_no (by intros; rfl)⟩
  | augix p e op v => exact ⟨S_augix op (snd p).B (snd e).E (snd v).E, Bk_no (by intros; rfl), M_no (by intros; rfl)⟩
  | aug i op e => exact ⟨S_aug i op (snd e).E, Bk_no (by intros; rfl), M_no (by intros; rfl)⟩
  | ifs c a b _ ha hb => exact ⟨S_ifs (snd c).Tt ha.2.1 hb.2.1, Bk_no (by intros; rfl), M_no (by intros; rfl)⟩
  | for_ tgt src body _ _ hb => exact ⟨S_for (snd src).I (snd tgt).G hb.2.1, Bk_no (by intros; rfl), M_no (by intros; rfl)⟩
  | while_ c body _ hb => exact ⟨S_while (snd c).Tt hb.2.1, Bk_no (by intros; rfl), M_no (by intros; rfl)⟩
  | ret e => exact ⟨S_ret (snd e).E, Bk_no (by intros; rfl), M_no (by intros; rfl)⟩
  | retn => exact ⟨S_retn, Bk_no (by intros; rfl), M_no (by intros; rfl)⟩
  | brk => exact ⟨S_brk, Bk_no (by intros; rfl), M_no (by intros; rfl)⟩
  | cont => exact ⟨S_cont, Bk_no (by intros; rfl), M_no (by intros; rfl)⟩
  | never => exact ⟨S_never, Bk_no (by intros; rfl), M_no (by intros; rfl)⟩
  | mtch i x b r hb hr => exact ⟨S_mtch hb.2.1 hr.2.2, Bk_no (by intros; rfl), M_mtch hb.2.1 hr.2.2⟩
  | dflt b hb => exact ⟨S_no (by intros; rfl), Bk_no (by intros; rfl), M_dflt hb.2.1⟩
  | _ => exact ⟨S_no (by intros; rfl), Bk_no (by intros; rfl), M_no (by intros; rfl)⟩
theorem sndS : ∀ c : C, SOk T ct pins c ∧ BkOk T ct pins c := fun c => ⟨(sndM c).1, (sndM c).2.1⟩
end
end Y
namespace Y
open PySem PySem.Spec PyProof.Rows L2

/-! ### a def keeps its promise -/
def initE (n : Nat) (ms : List M) (ds : List D) : Env := (ms.zip ds).map some ++ List.replicate (n - ms.length) none
def ownIx : Nat → List M → List Nat
  | _, [] => []
  | i, .s :: ms => ownIx (i + 1) ms
  | i, _ :: ms => i :: ownIx (i + 1) ms
def pinsOf : Nat → List M → List V → List (Nat × V)
  | i, .s :: ms, _ :: vs => pinsOf (i + 1) ms vs
  | i, _ :: ms, v :: vs => (i, v) :: pinsOf (i + 1) ms vs
  | _, _, _ => []
def outs : Nat → List M → Env → List D → Prop
  | _, [], _, ds => ds = []
  | i, m :: ms, ρ, ds => ∃ d r, ds = d :: r ∧ (m = .s ∨ ρ.at i = some (m, d)) ∧ outs (i + 1) ms ρ r
/-- a result, with what the own parameters hold then (.non for the others) -/
def finL : Nat → List M → Env → (List D → Prop) → Prop
  | _, [], _, P => P []
  | i, .s :: ms, ρ, P => finL (i + 1) ms ρ fun r => P (.non :: r)
  | i, m :: ms, ρ, P => match ρ.at i with
    | some (m', d) => m' = m ∧ finL (i + 1) ms ρ fun r => P (d :: r)
    | none => False
theorem finL_outs : ∀ {i : Nat} {ms : List M} {ρ : Env} {P : List D → Prop}, finL i ms ρ P → ∃ ds, outs i ms ρ ds ∧ P ds
  | i, [], ρ, P, h => ⟨[], rfl, h⟩
  | i, m :: ms, ρ, P, h => by
    have own : (match ρ.at i with
      | some (m', d) => m' = m ∧ finL (i + 1) ms ρ fun r => P (d :: r)
      | none => False) → ∃ ds, outs i (m :: ms) ρ ds ∧ P ds := fun g => by
      split at g
      · rename_i m' d e
        obtain ⟨g1, g2⟩ := g
        subst g1
        obtain ⟨ds, h1, h2⟩ := finL_outs (i := i + 1) (ms := ms) (P := fun r => P (d :: r)) g2
        exact ⟨d :: ds, ⟨d, ds, rfl, .inr e, h1⟩, h2⟩
      · exact g.elim
    cases m with
    | s =>
      obtain ⟨ds, h1, h2⟩ := finL_outs (i := i + 1) (ms := ms) (P := fun r => P (.non :: r)) h
      exact ⟨.non :: ds, ⟨.non, ds, rfl, .inl rfl, h1⟩, h2⟩
    | _ => exact own h
def fin (sp : FSpec) (R : D → List D → Prop) (m : M) (d : D) (ρ : Env) : Prop := cst m sp.rm = true ∧ finL 0 sp.pm ρ (R d)
def wD (T : List FSpec) (sp : FSpec) (c : C) (n : Nat) : Prop := ∀ ds R, ds.length = sp.pm.length → sp.run ds R →
  wS T (ownIx 0 sp.pm) c ⟨fin sp R .s .non, fin sp R, fun _ => False, fun _ => False⟩ (initE n sp.pm ds)

theorem pins_map : ∀ {i : Nat} {ms : List M} {vs : List V}, vs.length = ms.length → (pinsOf i ms vs).map (·.1) = ownIx i ms
  | i, [], vs, h => by
    cases vs <;> rfl
  | i, m :: ms, [], h => by simp at h
  | i, m :: ms, v :: vs, h => by
    have ih := pins_map (i := i + 1) (ms := ms) (vs := vs) (by simpa using h)
    cases m with
    | s => exact ih
    | _ =>
      show i :: (pinsOf (i + 1) ms vs).map (·.1) = i :: ownIx (i + 1) ms
      rw [ih]
theorem pins_mem : ∀ {i : Nat} {ms : List M} {vs : List V} {p : Nat × V}, p ∈ pinsOf i ms vs → ∃ j, p.1 = i + j ∧ vs[j]? = some p.2
  | i, [], vs, p, h => by
    cases vs <;> exact absurd h (by intro z; cases z)
  | i, m :: ms, [], p, h => by
    cases m <;> exact absurd h (by intro z; cases z)
  | i, m :: ms, v :: vs, p, h => by
    have next : p ∈ pinsOf (i + 1) ms vs → ∃ j, p.1 = i + j ∧ (v :: vs)[j]? = some p.2 := fun h => by
      obtain ⟨j, e1, e2⟩ := pins_mem h
      exact ⟨j + 1, by omega, by simpa using e2⟩
    cases m with
    | s => exact next h
    | _ =>
      rcases List.mem_cons.mp (show p ∈ (i, v) :: pinsOf (i + 1) ms vs from h) with e | h
      · subst e
        exact ⟨0, rfl, rfl⟩
      · exact next h
theorem pins_of : ∀ {i j : Nat} {ms : List M} {vs : List V} {m : M} {v : V}, ms[j]? = some m → m ≠ .s → vs[j]? = some v → (i + j, v) ∈ pinsOf i ms vs
  | i, j, [], vs, m, v, h, n, e => by simp at h
  | i, j, m0 :: ms, [], m, v, h, n, e => by simp at e
  | i, 0, m0 :: ms, v0 :: vs, m, v, h, n, e => by
    simp only [List.getElem?_cons_zero, Option.some.injEq] at h e
    subst h e
    cases m0 with
    | s => exact absurd rfl n
    | _ => exact List.mem_cons_self ..
  | i, j + 1, m0 :: ms, v0 :: vs, m, v, h, n, e => by
    have ih := pins_of (i := i + 1) (j := j) (ms := ms) (vs := vs) (by simpa using h) n (by simpa using e)
    have q : i + (j + 1) = i + 1 + j := by omega
    rw [q]
    cases m0 with
    | s => exact ih
    | _ => exact List.mem_cons_of_mem _ ih
theorem outs_get : ∀ {i j : Nat} {ms : List M} {ρ : Env} {ds : List D} {m : M} {d : D}, outs i ms ρ ds → ms[j]? = some m → m ≠ .s → ds[j]? = some d → ρ.at (i + j) = some (m, d)
  | i, j, [], ρ, ds, m, d, h, e, n, q => by simp at e
  | i, 0, m0 :: ms, ρ, ds, m, d, h, e, n, q => by
    obtain ⟨d0, r, rfl, h1, h2⟩ := h
    simp only [List.getElem?_cons_zero, Option.some.injEq] at e q
    subst e q
    exact h1.resolve_left n
  | i, j + 1, m0 :: ms, ρ, ds, m, d, h, e, n, q => by
    obtain ⟨d0, r, rfl, h1, h2⟩ := h
    have ih := outs_get (i := i + 1) (j := j) h2 (by simpa using e) n (by simpa using q)
    have z : i + (j + 1) = i + 1 + j := by omega
    rw [z]
    exact ih
theorem outs_len : ∀ {i : Nat} {ms : List M} {ρ : Env} {ds : List D}, outs i ms ρ ds → ds.length = ms.length
  | i, [], ρ, ds, h => by
    have h : ds = [] := h
    subst h
    rfl
  | i, m :: ms, ρ, ds, h => by
    obtain ⟨d, r, rfl, h1, h2⟩ := h
    rw [List.length_cons, List.length_cons, outs_len h2]
theorem initE_at {n : Nat} {ms : List M} {ds : List D} {i : Nat} {m : M} {d : D} (hl : ds.length = ms.length) (h : (initE n ms ds).at i = some (m, d)) : ms[i]? = some m ∧ ds[i]? = some d := by
  unfold Env.at initE at h
  by_cases hi : i < ms.length
  · rw [List.getElem?_append_left (by rw [List.length_map, List.length_zip]; omega), List.getElem?_map] at h
    have : (ms.zip ds)[i]? = some (ms[i], ds[i]'(by omega)) := by
      rw [List.getElem?_eq_getElem (by rw [List.length_zip]; omega), List.getElem_zip]
    rw [this] at h
    simp only [Option.map_some, Option.join_some, Option.some.injEq, Prod.mk.injEq] at h
    obtain ⟨rfl, rfl⟩ := h
    exact ⟨List.getElem?_eq_getElem hi, List.getElem?_eq_getElem (by omega)⟩
  · rw [List.getElem?_append_right (by rw [List.length_map, List.length_zip]; omega)] at h
    cases q : (List.replicate (n - ms.length) (none : Option (M × D)))[i - ((ms.zip ds).map some).length]? with
    | none =>
      rw [q] at h
      cases h
    | some z =>
      rw [q] at h
      have := List.mem_of_getElem? q
      rw [List.mem_replicate] at this
      rw [this.2] at h
      cases h

section
variable {P : Program} {w : World} {K : PySem.W.Frag} {mg : Str → Option Value} {base : Heap} {ct : Ct} {x qual : Str} {params : Arguments} {body : List Stmt} {scope : Scope} {f : Addr} {fd : FuncData}
/-- a def that makes lambdas: its code object and the table -/
def LamK (mg : Str → Option Value) (base : Heap) (ct : Ct) (qual : Str) (fd : FuncData) (lr : Nat) : Prop := lr ≠ 0 → 4 ≤ lr ∧ ∃ c P, fd.code = .ref c ∧ LamX.TabB base mg c P ∧ (P, (qual ++ ".<locals>.") ++ "<lambda>") ∈ ct.tabs ∧ ∀ p ∈ ct.tabs, p.1 = P → p.2 = (qual ++ ".<locals>.") ++ "<lambda>"
theorem def_ok {T : List FSpec} {FN N ps flds : List Str} {KN : List Kd} {gis : List (Str × Int)} {k lr : Nat} {sp : FSpec} {c : C} (F : FunD K x qual params body scope [] [] f fd) (S : FnScope N ps scope) (hl : ps.length = sp.pm.length) (hm : mB ⟨N, scope, fun _ => true, FN, KN, flds, gis, lr⟩ c body = true)
    (free : ∀ x ∈ bltNames, mg x = none)
    (fns : ∀ (j : Nat) (sp : FSpec), T[j]? = some sp → ∃ x kd, FN[j]? = some x ∧ KN[j]? = some kd ∧ EntOk P w K mg base ct k x sp kd)
    (cls : ∀ c C, ct c = some C → Cls K C ∧ ∀ f ∈ flds, NoAttr K C f) (hgis : ∀ p ∈ gis, ∃ t, mg p.1 = some (.int p.2 t))
    (hw : wD T sp c N.length) (hlam : LamK mg base ct qual fd lr) : FnG P w K mg base (k + lr + 1) f fd ps (SpOf K ct sp) := by
  have hN : ps.length ≤ N.length := by
    have := congrArg List.length S.pre
    rw [List.length_take] at this
    omega
  refine FnG.of F S (fun vs H Q E h => ?_) fun A outer s H vs Q E gd hr h => ?_
  · obtain ⟨S0, ds, F0, R, _, _, h3, _⟩ := h
    rw [h3, hl]
  · obtain ⟨S0, ds, F0, R, h1, h2, h3, h4, h5, h6, htb, h7, h8⟩ := h
    have X0 : XOk T ct ⟨N, scope, fun _ => true, FN, KN, flds, gis, lr⟩ k (cxOf CX0 P w K mg base N qual scope f fd.code A outer s H E).nox :=
      ⟨rfl, S.nd, rfl, rfl, rfl, hr, gd, free, fns, cls, hgis, rfl, S.kind, hlam⟩
    refine ⟨tS K ct T (pinsOf 0 sp.pm vs) c, PSs.nox ((sndS (T := T) (ct := ct) (pins := pinsOf 0 sp.pm vs) c).2 X0 body hm), ?_⟩
    have sget : ∀ {i : Nat} {v : V}, vs[i]? = some v → (L2.start N vs)[i]? = some (some v) := fun {i v} e => by
      unfold L2.start
      obtain ⟨hi, _⟩ := List.getElem?_eq_some_iff.mp e
      rw [List.getElem?_append_left (by rw [List.length_map]; exact hi), List.getElem?_map, e]
      rfl
    have ends : ∀ v σ' H' S' ρ' F' m d G, fin sp R m d ρ' → Sta K ct (pinsOf 0 sp.pm vs) S' H' σ' ρ' F' → Vl K ct S' H' F' m G d v → Tr (Pt F0) S0 H S' H' (fun a => G a ∨ Pt F' a) → Q v H' := fun v σ' H' S' ρ' F' m d G hf I hv t => by
      obtain ⟨c1, q1⟩ := hf
      obtain ⟨ds', o1, r1⟩ := finL_outs q1
      obtain ⟨S2, G2, hv2, I2, t2⟩ := hv.cast I t c1
      refine h8 v H' S2 d ds' F' G2 r1 I2.sub t2 hv2.rep hv2.off (outs_len o1) (fun i m d v e1 n e2 e3 => ?_) I2.dj I2.off I2.tb
      have q := outs_get o1 e1 n e2
      rw [Nat.zero_add] at q
      obtain ⟨v', u1, u2⟩ := I2.sl i m d q
      have pi := I2.pin _ (pins_of (i := 0) e1 n e3)
      simp only [Nat.zero_add] at pi
      rw [u1] at pi
      cases pi
      exact u2
    refine ⟨⟨fin sp R .s .non, fin sp R, fun _ => False, fun _ => False⟩, initE N.length sp.pm ds, S0, F0, ?_, ⟨h1, ?_, fun i m d e => ?_, h5, h6, fun p hp => ?_, htb⟩, ⟨fun σ' H' S' ρ' F' hf I t => ?_, fun _ _ _ _ _ z => z.elim, fun _ _ _ _ _ z => z.elim, fun v σ' H' S' ρ' F' m d G hf I hv t => ends v σ' H' S' ρ' F' m d G hf I hv t⟩⟩
    · rw [pins_map h3]
      exact hw ds R h2 h7
    · unfold initE L2.start
      rw [List.length_append, List.length_append, List.length_map, List.length_map, List.length_zip, List.length_replicate, List.length_replicate]
      omega
    · obtain ⟨e1, e2⟩ := initE_at h2 e
      obtain ⟨hi, _⟩ := List.getElem?_eq_some_iff.mp e1
      exact ⟨vs[i], sget (List.getElem?_eq_getElem (by omega)), h4 i m d _ e1 e2 (List.getElem?_eq_getElem (by omega))⟩
    · obtain ⟨j, e1, e2⟩ := pins_mem hp
      rw [e1, Nat.zero_add]
      exact sget e2
    · exact ends .non σ' H' S' ρ' F' .s .non (fun _ => False) hf I (Vl.sh (by unfold Rep; rfl)) (t.sub fun a z => z.elim (fun z => z.elim) fun z => z)

/-- a slot ahead of all; one taken off the front -/
def shiftS (G : Pm) (F : Sl → Pm) : Sl → Pm
  | some 0 => G
  | some (i + 1) => F i
  | none => F none
def unS : Sl → Sl
  | some i => some (i + 1)
  | none => none
theorem unS_inj : ∀ {i j : Sl}, unS i = unS j → i = j
  | some i, some j, h => by cases h; rfl
  | none, none, _ => rfl
  | some i, none, h => nomatch h
  | none, some j, h => nomatch h
theorem shiftS_cases {G : Pm} {F : Sl → Pm} {a : Addr} : ∀ {i : Sl}, shiftS G F i a → (i = some 0 ∧ G a) ∨ ∃ j, i = unS j ∧ F j a
  | some 0, h => .inl ⟨rfl, h⟩
  | some (i + 1), h => .inr ⟨some i, rfl, h⟩
  | none, h => .inr ⟨none, rfl, h⟩
theorem unS_zero {i : Sl} : unS i ≠ some 0 := by
  cases i <;> exact nofun
theorem shiftS_un {G : Pm} {F : Sl → Pm} {a : Addr} {i : Sl} (h : F i a) : shiftS G F (unS i) a := by
  cases i <;> exact h
def fini (sp : FSpec) (R : D → List D → Prop) (m : M) (d : D) (ρ : Env) : Prop := m = .s ∧ d = .non ∧ ∃ m0 d0, ρ.at 0 = some (m0, d0) ∧ cst m0 sp.rm = true ∧ finL 1 sp.pm ρ (R d0)
def wDi (cn : Str) (T : List FSpec) (sp : FSpec) (c : C) (n : Nat) : Prop := ∀ ds R, ds.length = sp.pm.length → sp.run ds R →
  wS T (0 :: ownIx 1 sp.pm) c ⟨fini sp R .s .non, fini sp R, fun _ => False, fun _ => False⟩ (some (.ins cn [] .fnil, .obj cn [] []) :: initE (n - 1) sp.pm ds)
theorem init_ok {T : List FSpec} {FN N ps flds : List Str} {KN : List Kd} {gis : List (Str × Int)} {k : Nat} {sp : FSpec} {c : C} {cn : Str} {C : Addr} (hct : ct cn = some C) (F : FunD K x qual params body scope [] [] f fd) (S : FnScope N ps scope) (hl : ps.length = sp.pm.length + 1) (hm : mB ⟨N, scope, fun _ => true, FN, KN, flds, gis, 0⟩ c body = true)
    (free : ∀ x ∈ bltNames, mg x = none)
    (fns : ∀ (j : Nat) (sp : FSpec), T[j]? = some sp → ∃ x kd, FN[j]? = some x ∧ KN[j]? = some kd ∧ EntOk P w K mg base ct k x sp kd)
    (cls : ∀ c C, ct c = some C → Cls K C ∧ ∀ f ∈ flds, NoAttr K C f) (hgis : ∀ p ∈ gis, ∃ t, mg p.1 = some (.int p.2 t))
    (hw : wDi cn T sp c N.length) : FnG P w K mg base (k + 1) f fd ps (initSp C K ct sp) := by
  have hN : ps.length ≤ N.length := by
    have := congrArg List.length S.pre
    rw [List.length_take] at this
    omega
  refine FnG.of F S (fun vs H Q E h => ?_) fun A outer s H vs Q E gd hr h => ?_
  · obtain ⟨x, dx, vs', H0, Q0, rfl, _, _, _, _, ⟨S0, ds, F0, R, _, _, h3, _⟩, _⟩ := h
    rw [List.length_cons, h3, hl]
  · obtain ⟨x, dx, vs', H0, Q0, rfl, hx, hdx, hne, rfl, ⟨S0, ds, F0, R, h1, h2, h3, h4, h5, h6, htb, h7, h8⟩, hQ⟩ := h
    have X0 : XOk T ct ⟨N, scope, fun _ => true, FN, KN, flds, gis, 0⟩ k (cxOf CX0 P w K mg base N qual scope f fd.code A outer s (upd (upd H0 dx (.own x)) x (.ins C dx [])) E).nox :=
      ⟨rfl, S.nd, rfl, rfl, rfl, hr, gd, free, fns, cls, hgis, rfl, S.kind, fun z => absurd rfl z⟩
    refine ⟨tS K ct T ((0, .ref x) :: pinsOf 1 sp.pm vs') c, PSs.nox ((sndS (T := T) (ct := ct) (pins := (0, .ref x) :: pinsOf 1 sp.pm vs') c).2 X0 body hm), ?_⟩
    have hs1 : Same H0 (upd (upd H0 dx (.own x)) x (.ins C dx [])) := (same_new hdx).trans (same_new (by rw [upd_ne (Ne.symm hne)]; exact hx))
    have nx : ∀ i a, F0 i a → a ≠ x ∧ a ≠ dx := fun i a z => ⟨fun e => (h6 i a z).2 (by rw [e]; exact hx), fun e => (h6 i a z).2 (by rw [e]; exact hdx)⟩
    have t0 : Tr (Pt F0) S0 H0 S0 (upd (upd H0 dx (.own x)) x (.ins C dx [])) (Pt (shiftS (fun b => b = x ∨ b = dx) F0)) := by
      refine (Tr.grow (G := fun b => b = x ∨ b = dx) (P := Pt F0) hs1 (Same.refl _) (fun a z => .inl z) fun a z => ?_).sub fun a z => ?_
      · rcases z with rfl | rfl
        · exact hx
        · exact hdx
      · obtain ⟨i, z⟩ := z
        rcases shiftS_cases z with ⟨_, z⟩ | ⟨j, _, z⟩
        · exact .inl z
        · exact .inr ⟨j, z⟩
    have sget : ∀ {i : Nat} {v : V}, (V.ref x :: vs')[i]? = some v → (L2.start N (V.ref x :: vs'))[i]? = some (some v) := fun {i v} e => by
      unfold L2.start
      obtain ⟨hi, _⟩ := List.getElem?_eq_some_iff.mp e
      rw [List.getElem?_append_left (by rw [List.length_map]; exact hi), List.getElem?_map, e]
      rfl
    have ends : ∀ v σ' H' S' ρ' F' m d G, fini sp R m d ρ' → Sta K ct ((0, .ref x) :: pinsOf 1 sp.pm vs') S' H' σ' ρ' F' → Vl K ct S' H' F' m G d v → Tr (Pt F0) S0 H0 S' H' (fun a => G a ∨ Pt F' a) → Q v H' := fun v σ' H' S' ρ' F' m d G hf I hv t => by
      obtain ⟨rfl, rfl, m0, d0, e0, c1, q1⟩ := hf
      obtain ⟨ds', o1, r1⟩ := finL_outs q1
      have hv0 := hv.rp
      unfold Rep at hv0
      subst hv0
      have pin0 := I.pin _ (List.mem_cons_self ..)
      obtain ⟨v0, u1, u2⟩ := I.sl 0 m0 d0 e0
      simp only at pin0
      rw [pin0] at u1
      cases u1
      have I1 := I.lock 0
      have V1 : Vl K ct S' H' (Fs F' 0 fun _ => False) m0 (F' (some 0)) d0 (.ref x) := ⟨u2, fun a z => ⟨(I.off (some 0) a z).1, (I.off (some 0) a z).2, fun j y => by
        rcases y with ⟨_, y⟩ | ⟨ne, y⟩
        · exact y
        · exact ne (I.dj j (some 0) a y z)⟩⟩
      have t1 : Tr (Pt F0) S0 H0 S' H' (fun a => F' (some 0) a ∨ Pt (Fs F' 0 fun _ => False) a) := t.sub fun a z => by
        rcases z with z | z
        · exact .inr ⟨some 0, z⟩
        · obtain ⟨j, _, y⟩ := Pt_lock.mp z
          exact .inr ⟨j, y⟩
      obtain ⟨S2, G2, hv2, I2, t2⟩ := V1.cast I1 t1 c1
      refine hQ H' (h8 (.ref x) H' S2 d0 ds' (fun i => Fs F' 0 (fun _ => False) (unS i)) G2 r1 I2.sub (t2.sub fun a z => z.elim .inl fun ⟨i, z⟩ => .inr ⟨unS i, z⟩) hv2.rep (fun a z => ⟨(hv2.off a z).1, (hv2.off a z).2.1, fun i y => (hv2.off a z).2.2 (unS i) y⟩) (outs_len o1) (fun i m d v e1 n e2 e3 => ?_) (fun i j a z y => unS_inj (I2.dj (unS i) (unS j) a z y)) (fun i a z => I2.off (unS i) a z) I2.tb)
      have q := outs_get o1 e1 n e2
      have q2 : Env.at (ρ'.set 0 none) (i + 1) = some (m, d) := by
        rw [at_set_ne (by omega), Nat.add_comm]
        exact q
      obtain ⟨v', w1, w2⟩ := I2.sl (i + 1) m d q2
      have pi := I2.pin _ (List.mem_cons_of_mem _ (pins_of (i := 1) e1 n e3))
      simp only at pi
      rw [Nat.add_comm] at pi
      rw [w1] at pi
      cases pi
      exact w2
    refine ⟨⟨fini sp R .s .non, fini sp R, fun _ => False, fun _ => False⟩, some (.ins cn [] .fnil, .obj cn [] []) :: initE (N.length - 1) sp.pm ds, S0, shiftS (fun b => b = x ∨ b = dx) F0, ?_, ⟨h1.trans hs1, ?_, fun i m d e => ?_, fun i j a z y => ?_, fun i a z => ?_, fun p hp => ?_, htb.mono (fun _ z => z) fun a z => by rw [upd_ne (nx none a z).1, upd_ne (nx none a z).2]⟩, ⟨fun σ' H' S' ρ' F' hf I t => ?_, fun _ _ _ _ _ z => z.elim, fun _ _ _ _ _ z => z.elim, fun v σ' H' S' ρ' F' m d G hf I hv t => ends v σ' H' S' ρ' F' m d G hf I hv (t0.trans0 t)⟩⟩
    · show wS T (0 :: (pinsOf 1 sp.pm vs').map (·.1)) _ _ _
      rw [pins_map h3]
      exact hw ds R h2 h7
    · unfold initE L2.start
      rw [List.length_cons, List.length_append, List.length_append, List.length_map, List.length_map, List.length_zip, List.length_replicate, List.length_replicate, List.length_cons]
      omega
    · cases i with
      | zero =>
        cases e
        refine ⟨.ref x, sget rfl, ?_⟩
        unfold RepM
        exact ⟨x, C, dx, [], [], fun _ => False, rfl, rfl, hct, .inl rfl, .inr rfl, Ne.symm hne, upd_same, by rw [upd_ne hne, upd_same], rfl, fun _ z => z.elim, by unfold RepFl; exact ⟨rfl, rfl⟩⟩
      | succ i =>
        obtain ⟨e1, e2⟩ := initE_at h2 (show (initE (N.length - 1) sp.pm ds).at i = some (m, d) from e)
        obtain ⟨hi, _⟩ := List.getElem?_eq_some_iff.mp e1
        refine ⟨vs'[i], sget (by rw [List.getElem?_cons_succ]; exact List.getElem?_eq_getElem (by omega)), (h4 i m d _ e1 e2 (List.getElem?_eq_getElem (by omega))).mono (Same.refl _) fun a z => ?_⟩
        rw [upd_ne (nx i a z).1, upd_ne (nx i a z).2]
    · rcases shiftS_cases z with ⟨rfl, z2⟩ | ⟨i2, rfl, z2⟩
      · rcases shiftS_cases y with ⟨rfl, y2⟩ | ⟨j2, rfl, y2⟩
        · rfl
        · exact absurd z2 fun z => z.elim (nx j2 a y2).1 (nx j2 a y2).2
      · rcases shiftS_cases y with ⟨rfl, y2⟩ | ⟨j2, rfl, y2⟩
        · exact absurd y2 fun y => y.elim (nx i2 a z2).1 (nx i2 a z2).2
        · rw [h5 i2 j2 a z2 y2]
    · rcases shiftS_cases z with ⟨rfl, z2⟩ | ⟨i2, rfl, z2⟩
      · rcases z2 with rfl | rfl
        · exact ⟨h1.free hx, by rw [upd_same]; exact fun z => nomatch z⟩
        · exact ⟨h1.free hdx, by rw [upd_ne hne, upd_same]; exact fun z => nomatch z⟩
      · obtain ⟨o, e⟩ := ne_some (h6 i2 a z2).2
        exact ⟨(h6 i2 a z2).1, by rw [hs1 _ _ e]; exact fun z => nomatch z⟩
    · rcases List.mem_cons.mp hp with rfl | hp
      · exact sget rfl
      · obtain ⟨j, e1, e2⟩ := pins_mem hp
        rw [e1, Nat.add_comm]
        exact sget (by rw [List.getElem?_cons_succ]; exact e2)
    · exact ends .non σ' H' S' ρ' F' .s .non (fun _ => False) hf I (Vl.sh (by unfold Rep; rfl)) ((t0.trans0 t).sub fun a z => z.elim (fun z => z.elim) fun z => z)
end

/-! ### all defs of a text, one behind another -/
structure Fx where
  x : Str
  qual : Str
  kd : Kd
  st : Stmt
  N : List Str
  ps : List Str
  body : C
  dep : Nat
  fam : Nat → FSpec
  /-- the room that its lambdas want -/
  lr : Nat := 0
def Fx.sp (e : Fx) : FSpec := e.fam e.dep
/-- a def that does not call itself -/
def once (sp : FSpec) : Nat → FSpec
  | 0 => ⟨sp.pm, sp.rm, fun _ _ => False⟩
  | _ + 1 => sp
def Kd.stp : Kd → Nat
  | .mk _ => 2
  | .pr _ => 2
  | _ => 1
def Fx.cost (e : Fx) : Nat := (e.kd.stp + e.lr) * e.dep + 1
def lev : List Fx → Nat
  | [] => 0
  | e :: r => e.cost + lev r
def Kd.more : Kd → Nat
  | .mk _ => 1
  | _ => 0
def wDk (kd : Kd) (T : List FSpec) (sp : FSpec) (c : C) (n : Nat) : Prop := match kd with
  | .mk cn => wDi cn T sp c n
  | _ => wD T sp c n
/-- what is asked of the i-th def's text -/
structure FxOk (fs : List Fx) (flds : List Str) (gis : List (Str × Int)) (i : Nat) (e : Fx) : Prop where
  sc : FnScope e.N e.ps (defScope e.st)
  len : ∀ n, e.ps.length = (e.fam n).pm.length + e.kd.more
  mt : mB ⟨e.N, defScope e.st, fun _ => true, fs.map (·.x), fs.map (·.kd), flds, gis, e.lr⟩ e.body (defBody e.st) = true
  w0 : ∀ ds R, ¬ (e.fam 0).run ds R
  lr0 : ∀ c, e.kd = .mk c → e.lr = 0
  ws : ∀ n, wDk e.kd ((fs.take i).map (·.sp) ++ [e.fam n]) (e.fam (n + 1)) e.body e.N.length
section
variable {P : Program} {w : World} {K : PySem.W.Frag} {mg : Str → Option Value} {base : Heap} {ct : Ct}
/-- how a def's arguments bind -/
def BindOk (e : Fx) : Prop := ∀ (kV doc pm : Value) (an : Option Addr) (cdv ct : Value) (us : List Value), us.length = e.ps.length → bindArgs (PySem.W.fnOf e.x e.qual (defArgs e.st) (defBody e.st) (defScope e.st) .none kV doc pm an cdv ct) ⟨us, []⟩ = pure (e.ps.zip us)
def Has (K : PySem.W.Frag) (mg : Str → Option Value) (base : Heap) (ct : Ct) (e : Fx) : Prop := ∃ f fd, FunD K e.x e.qual (defArgs e.st) (defBody e.st) (defScope e.st) [] [] f fd ∧ BindOk e ∧ LamK mg base ct e.qual fd e.lr ∧ (match e.kd with
  | .fn => mg e.x = some (.ref f)
  | .me c => ∃ C, ct c = some C ∧ Cls K C ∧ Meth K C e.x f
  | .mk c => ∃ C, ct c = some C ∧ Mk K C f ∧ mg c = some (.ref C)
  | .pr c => ∃ C pp, ct c = some C ∧ Cls K C ∧ PropOf K C e.x pp f)
theorem lev_take : ∀ {fs : List Fx} {j i : Nat}, j ≤ i → lev (fs.take j) ≤ lev (fs.take i)
  | fs, 0, i, h => by
    rw [List.take_zero]
    exact Nat.zero_le _
  | [], j + 1, i, h => by
    rw [List.take_nil, List.take_nil]
    exact Nat.le_refl _
  | e :: r, j + 1, 0, h => by omega
  | e :: r, j + 1, i + 1, h => by
    show e.cost + lev (r.take j) ≤ e.cost + lev (r.take i)
    have := lev_take (fs := r) (j := j) (i := i) (by omega)
    omega
theorem lev_succ : ∀ {fs : List Fx} {i : Nat} {e : Fx}, fs[i]? = some e → lev (fs.take (i + 1)) = lev (fs.take i) + e.cost
  | [], i, e, h => by simp at h
  | e0 :: r, 0, e, h => by
    simp only [List.getElem?_cons_zero, Option.some.injEq] at h
    subst h
    show e0.cost + lev (r.take 0) = lev [] + e0.cost
    rw [List.take_zero]
    show e0.cost + 0 = 0 + e0.cost
    omega
  | e0 :: r, i + 1, e, h => by
    have := lev_succ (fs := r) (i := i) (e := e) (by simpa using h)
    show e0.cost + lev (r.take (i + 1)) = e0.cost + lev (r.take i) + e.cost
    omega
theorem EntOk.mono {j k : Nat} {x : Str} {sp : FSpec} {kd : Kd} (h : EntOk P w K mg base ct j x sp kd) (hk : j ≤ k) : EntOk P w K mg base ct k x sp kd := by
  cases kd with
  | fn =>
    obtain ⟨f, fd, ps, h1, h2, h3, h4, h5⟩ := h
    exact ⟨f, fd, ps, h1, h2, h3, h4.mono hk, h5⟩
  | me c =>
    obtain ⟨C, f, fd, ps, h1, h2, h3, h4, h5⟩ := h
    exact ⟨C, f, fd, ps, h1, h2, h3, h4, h5.mono hk⟩
  | mk c =>
    obtain ⟨C, f, fd, ps, k', h0, h1, h2, h3, h4, h5⟩ := h
    exact ⟨C, f, fd, ps, k', by omega, h1, h2, h3, h4, h5⟩
  | pr c =>
    obtain ⟨C, pp, f, fd, ps, k', h0, h1, h2, h3, h4, h5⟩ := h
    exact ⟨C, pp, f, fd, ps, k', by omega, h1, h2, h3, h4, h5⟩
theorem all_ok {fs : List Fx} {flds : List Str} {gis : List (Str × Int)} (free : ∀ x ∈ bltNames, mg x = none) (cls : ∀ c C, ct c = some C → Cls K C ∧ ∀ f ∈ flds, NoAttr K C f) (hgis : ∀ p ∈ gis, ∃ t, mg p.1 = some (.int p.2 t))
    (has : ∀ e ∈ fs, Has K mg base ct e) (ok : ∀ (i : Nat) e, fs[i]? = some e → FxOk fs flds gis i e) : ∀ (i : Nat) (e : Fx), fs[i]? = some e → EntOk P w K mg base ct (lev (fs.take (i + 1))) e.x e.sp e.kd := by
  intro i
  induction i using Nat.strongRecOn with
  | ind i ih =>
    intro e he
    have O := ok i e he
    obtain ⟨f, fd, F, hb0, hlm, hkd⟩ := has e (List.mem_of_getElem? he)
    have hb : Binds K fd e.ps [] := FunD.bindsN (ps := e.ps) F hb0
    have hba := FunD.bindsA (ps := e.ps) F hb0
    have hi : i < fs.length := (List.getElem?_eq_some_iff.mp he).1
    have hlen : ((fs.take i).map (·.sp)).length = i := by
      rw [List.length_map, List.length_take]
      omega
    -- the table that its body looks at
    have tab : ∀ n L, lev (fs.take i) ≤ L → EntOk P w K mg base ct L e.x (e.fam n) e.kd → ∀ (j : Nat) (sp : FSpec), ((fs.take i).map (·.sp) ++ [e.fam n])[j]? = some sp → ∃ x kd, (fs.map (·.x))[j]? = some x ∧ (fs.map (·.kd))[j]? = some kd ∧ EntOk P w K mg base ct L x sp kd := fun n L hL self j sp hj => by
      by_cases hji : j < i
      · rw [List.getElem?_append_left (by omega), List.getElem?_map, List.getElem?_take_of_lt hji] at hj
        cases hq : fs[j]? with
        | none =>
          rw [hq] at hj
          cases hj
        | some e' =>
          rw [hq] at hj
          cases hj
          refine ⟨e'.x, e'.kd, by rw [List.getElem?_map, hq]; rfl, by rw [List.getElem?_map, hq]; rfl, (ih j hji e' hq).mono ?_⟩
          have := lev_take (fs := fs) (j := j + 1) (i := i) (by omega)
          omega
      · rw [List.getElem?_append_right (by omega), hlen] at hj
        have : j = i := by
          obtain ⟨z, _⟩ := List.getElem?_eq_some_iff.mp hj
          simp only [List.length_cons, List.length_nil] at z
          omega
        subst this
        rw [Nat.sub_self] at hj
        cases hj
        exact ⟨e.x, e.kd, by rw [List.getElem?_map, he]; rfl, by rw [List.getElem?_map, he]; rfl, self⟩
    have no : ∀ {vs : List V} {H : Hp} {Q : VK} {E : XK}, SpOf K ct (e.fam 0) vs H Q E → False := fun h => by
      obtain ⟨S0, ds, F0, R, _, _, _, _, _, _, _, h7, _⟩ := h
      exact O.w0 _ _ h7
    have hlen0 := O.len
    have hws := O.ws
    have hmt := O.mt
    have step : ∀ n, EntOk P w K mg base ct (lev (fs.take i) + ((e.kd.stp + e.lr) * n + 1)) e.x (e.fam n) e.kd := by
      cases hk : e.kd with
      | fn =>
        rw [hk] at hkd hws hlen0 tab
        have one : ∀ n, lev (fs.take i) + ((Kd.fn.stp + e.lr) * (n + 1) + 1) = lev (fs.take i) + ((Kd.fn.stp + e.lr) * n + 1) + e.lr + 1 := fun n => by
          rw [Nat.mul_succ]
          show _ + (_ + (1 + e.lr) + 1) = _
          omega
        intro n
        induction n with
        | zero => exact ⟨f, fd, e.ps, hkd, F.kp, hb, FnG.none fun _ _ _ _ h => no h, hba⟩
        | succ n ihn =>
          rw [one]
          exact ⟨f, fd, e.ps, hkd, F.kp, hb, def_ok F O.sc (hlen0 _) hmt free (tab n _ (Nat.le_add_right _ _) ihn) cls hgis (hws n) hlm, hba⟩
      | me c =>
        rw [hk] at hkd hws hlen0 tab
        obtain ⟨C, h1, h2, h3⟩ := hkd
        have one : ∀ n, lev (fs.take i) + (((Kd.me c).stp + e.lr) * (n + 1) + 1) = lev (fs.take i) + (((Kd.me c).stp + e.lr) * n + 1) + e.lr + 1 := fun n => by
          rw [Nat.mul_succ]
          show _ + (_ + (1 + e.lr) + 1) = _
          omega
        intro n
        induction n with
        | zero => exact ⟨C, f, fd, e.ps, h1, h2, h3, hb, FnG.none fun _ _ _ _ h => no h⟩
        | succ n ihn =>
          rw [one]
          exact ⟨C, f, fd, e.ps, h1, h2, h3, hb, def_ok F O.sc (hlen0 _) hmt free (tab n _ (Nat.le_add_right _ _) ihn) cls hgis (hws n) hlm⟩
      | mk c =>
        rw [hk] at hkd hws hlen0 tab
        obtain ⟨C, h1, h2, h3⟩ := hkd
        intro n
        have noi : ∀ {vs : List V} {H : Hp} {Q : VK} {E : XK}, initSp C K ct (e.fam 0) vs H Q E → False := fun h => by
          obtain ⟨x, dx, vs', H0, Q0, _, _, _, _, _, h, _⟩ := h
          exact no h
        induction n with
        | zero => exact ⟨C, f, fd, e.ps, lev (fs.take i), (by rw [Nat.mul_zero, Nat.zero_add]; exact Nat.le_refl _), h1, h2, h3, hb, FnG.none fun _ _ _ _ h => noi h⟩
        | succ n ihn =>
          have l0 := O.lr0 c hk
          rw [l0] at hmt ihn
          rw [l0]
          exact ⟨C, f, fd, e.ps, lev (fs.take i) + (((Kd.mk c).stp + 0) * n + 1) + 1, (by show _ + ((2 + 0) * n + 1) + 1 + 1 ≤ _ + ((2 + 0) * (n + 1) + 1); omega), h1, h2, h3, hb, init_ok h1 F O.sc (hlen0 _) hmt free (tab n _ (Nat.le_add_right _ _) ihn) cls hgis (hws n)⟩
      | pr c =>
        rw [hk] at hkd hws hlen0 tab
        obtain ⟨C, pp, h1, h2, h3⟩ := hkd
        intro n
        induction n with
        | zero => exact ⟨C, pp, f, fd, e.ps, lev (fs.take i), (by rw [Nat.mul_zero, Nat.zero_add]; exact Nat.le_refl _), h1, h2, h3, hb, FnG.none fun _ _ _ _ h => no h⟩
        | succ n ihn =>
          exact ⟨C, pp, f, fd, e.ps, lev (fs.take i) + (((Kd.pr c).stp + e.lr) * n + 1) + e.lr + 1, (by rw [Nat.mul_succ]; show _ + (_ + 1) + _ + 1 + 1 ≤ _ + (_ + (2 + e.lr) + 1); omega), h1, h2, h3, hb, def_ok F O.sc (hlen0 _) hmt free (tab n _ (Nat.le_add_right _ _) ihn) cls hgis (hws n) hlm⟩
    have := step e.dep
    rw [lev_succ he]
    exact this
end
end Y
namespace Y
open PySem PySem.Spec PyProof.Rows L2

/-! ### the logic, step by step (for simp) -/
@[simp] theorem at0 {x : Option (M × D)} {ρ : Env} : Env.at (x :: ρ) 0 = x := rfl
@[simp] theorem at1 {x : Option (M × D)} {ρ : Env} {i : Nat} : Env.at (x :: ρ) (i + 1) = Env.at ρ i := rfl
@[simp] theorem shr0 : shrE [] = [] := rfl
@[simp] theorem shr1 {o : Option (M × D)} {ρ : Env} : shrE (o :: ρ) = o.map (fun p => (M.s, p.2)) :: shrE ρ := rfl
@[simp] theorem fl_int {i : Int} : (D.int i).flat = true := rfl
@[simp] theorem fl_bl {i : Bool} : (D.bl i).flat = true := rfl
@[simp] theorem fl_str {i : Str} : (D.str i).flat = true := rfl
@[simp] theorem fl_non : D.non.flat = true := rfl
section
variable {T : List FSpec} {pn : List Nat}
@[simp ↓] theorem x_Eint {i : Int} {R : M → D → Env → Prop} {ρ : Env} : wE T pn (.int i) R ρ = R .s (.int i) ρ := by rfl
@[simp ↓] theorem x_Ebl {b : Bool} {R : M → D → Env → Prop} {ρ : Env} : wE T pn (.bl b) R ρ = R .s (.bl b) ρ := by rfl
@[simp ↓] theorem x_Estr {x : Str} {R : M → D → Env → Prop} {ρ : Env} : wE T pn (.str x) R ρ = R .s (.str x) ρ := by rfl
@[simp ↓] theorem x_Enon  {R : M → D → Env → Prop} {ρ : Env} : wE T pn (.non) R ρ = R .s .non ρ := by rfl
@[simp ↓] theorem x_Evar {i : Nat} {R : M → D → Env → Prop} {ρ : Env} : wE T pn (.var i) R ρ = (match ρ.at i with | some (.s, d) => R .s d ρ | _ => False) := by rfl
@[simp ↓] theorem x_Emv {i : Nat} {R : M → D → Env → Prop} {ρ : Env} : wE T pn (.mv i) R ρ = (match ρ.at i with | some (m, d) => R m d (ρ.set i none) | _ => False) := by rfl
@[simp ↓] theorem x_Erd {p : C} {R : M → D → Env → Prop} {ρ : Env} : wE T pn (.rd p) R ρ = wB T pn p (fun m d _ ρ' => match m with | .s => R .s d ρ' | _ => False) ρ := by rfl
@[simp ↓] theorem x_Ebin {op : Operator} {a b : C} {R : M → D → Env → Prop} {ρ : Env} : wE T pn (.bin op a b) R ρ = wE T pn a (fun _ x ρ1 => wE T pn b (fun _ y ρ2 => binD op x y fun m d => R m d ρ2) ρ1) ρ := by rfl
@[simp ↓] theorem x_Eneg {a : C} {R : M → D → Env → Prop} {ρ : Env} : wE T pn (.neg a) R ρ = wE T pn a (fun _ x ρ1 => match x with | .int i => R .s (.int (-i)) ρ1 | _ => False) ρ := by rfl
@[simp ↓] theorem x_Einv {a : C} {R : M → D → Env → Prop} {ρ : Env} : wE T pn (.inv a) R ρ = wE T pn a (fun _ x ρ1 => match x with | .int i => R .s (.int (Builtin.bitNot i)) ρ1 | _ => False) ρ := by rfl
@[simp ↓] theorem x_Enot {a : C} {R : M → D → Env → Prop} {ρ : Env} : wE T pn (.not a) R ρ = wE T pn a (fun _ x ρ1 => match x with | .bl b => R .s (.bl (!b)) ρ1 | _ => False) ρ := by rfl
@[simp ↓] theorem x_Ecmp {op : CmpOp} {a b : C} {R : M → D → Env → Prop} {ρ : Env} : wE T pn (.cmp op a b) R ρ = wE T pn a (fun _ x ρ1 => match b.isP with
      | true => wB T pn b (fun _ y _ ρ2 => cmpD op x y fun c => R .s (.bl c) ρ2) ρ1
      | false => wE T pn b (fun _ y ρ2 => cmpD op x y fun c => R .s (.bl c) ρ2) ρ1) ρ := by rfl
@[simp ↓] theorem x_Echain {p q : CmpOp} {a b c : C} {R : M → D → Env → Prop} {ρ : Env} : wE T pn (.chain p q a b c) R ρ = wE T pn a (fun _ x ρ1 => wE T pn b (fun _ y ρ2 => cmpD p x y fun k => if k = true then wE T pn c (fun _ z ρ3 => cmpD q y z fun k' => R .s (.bl k') ρ3) ρ2 else R .s (.bl false) ρ2) ρ1) ρ := by rfl
@[simp ↓] theorem x_Eand {a b : C} {R : M → D → Env → Prop} {ρ : Env} : wE T pn (.and a b) R ρ = wE T pn a (fun _ x ρ1 => match x with | .bl k => if k = true then wE T pn b R ρ1 else R .s (.bl false) ρ1 | _ => False) ρ := by rfl
@[simp ↓] theorem x_Eor {a b : C} {R : M → D → Env → Prop} {ρ : Env} : wE T pn (.or a b) R ρ = wE T pn a (fun _ x ρ1 => match x with | .bl k => if k = true then R .s (.bl true) ρ1 else wE T pn b R ρ1 | _ => False) ρ := by rfl
@[simp ↓] theorem x_Eone {a : C} {R : M → D → Env → Prop} {ρ : Env} : wE T pn (.one a) R ρ = wE T pn a R ρ := by rfl
@[simp ↓] theorem x_Eite {a b c : C} {R : M → D → Env → Prop} {ρ : Env} : wE T pn (.ite c a b) R ρ = wT T pn c (fun k ρ1 => if k = true then wE T pn a R ρ1 else wE T pn b R ρ1) ρ := by rfl
@[simp ↓] theorem x_Etup {es : C} {R : M → D → Env → Prop} {ρ : Env} : wE T pn (.tup es) R ρ = wL T pn .s es (fun ds ρ1 => ds.length ≤ sizeLine ∧ R .s (.tup ds) ρ1) ρ := by rfl
@[simp ↓] theorem x_Elst {m : M} {es : C} {R : M → D → Env → Prop} {ρ : Env} : wE T pn (.lst m es) R ρ = wL T pn m es (fun ds ρ1 => ds.length ≤ sizeLine ∧ R (.o m) (.lst ds) ρ1) ρ := by rfl
@[simp ↓] theorem x_Elenset {a : C} {R : M → D → Env → Prop} {ρ : Env} : wE T pn (.lenset a) R ρ = wE T pn a (fun _ x ρ1 => ∃ ns : List Int, x = .tup (ns.map D.int) ∧ ns.length < 4000 ∧ ns.Nodup ∧ R .s (.int ns.length) ρ1) ρ := by rfl
@[simp ↓] theorem x_EsortK {i : Nat} {a b : C} {R : M → D → Env → Prop} {ρ : Env} : wE T pn (.sortK i a b) R ρ = wE T pn a (fun _ x ρ1 => match x with
      | .lst xs => i ∉ pn ∧ ∃ key : D → PyData, srtD xs key ∧ (∀ x ∈ xs, wE T pn b (fun _ d ρ3 => d.isPy = true ∧ d.toPy = key x ∧ ρ3.set i none = ρ1.set i none) (ρ1.set i (some (.s, x)))) ∧ R (.o .s) (.lst (xs.mergeSort (PySem.W.dataLe false key))) ρ1
      | _ => False) ρ := by rfl
@[simp ↓] theorem x_EsortR {i : Nat} {a b : C} {R : M → D → Env → Prop} {ρ : Env} : wE T pn (.sortR i a b) R ρ = wE T pn a (fun _ x ρ1 => match x with
      | .int n => 0 ≤ n ∧ n ≤ 16777216 ∧ i ∉ pn ∧ ∃ key : D → PyData, srtD (rangeD 0 1 n.toNat) key ∧ (∀ x ∈ rangeD 0 1 n.toNat, wE T pn b (fun _ d ρ3 => d.isPy = true ∧ d.toPy = key x ∧ ρ3.set i none = ρ1.set i none) (ρ1.set i (some (.s, x)))) ∧ R (.o .s) (.lst ((rangeD 0 1 n.toNat).mergeSort (PySem.W.dataLe false key))) ρ1
      | _ => False) ρ := by rfl
@[simp ↓] theorem x_Epur {a : C} {R : M → D → Env → Prop} {ρ : Env} : wE T pn (.pur a) R ρ = wE T pn a (fun _ x _ => x.flat = true ∧ R .s x ρ) (shrE ρ) := by rfl
@[simp ↓] theorem x_Ebitl {a : C} {R : M → D → Env → Prop} {ρ : Env} : wE T pn (.bitl a) R ρ = wE T pn a (fun _ x ρ1 => match x with | .int i => R .s (.int (Builtin.Int.intBits i : Nat)) ρ1 | _ => False) ρ := by rfl
@[simp ↓] theorem x_EvarT {i : Nat} {R : M → D → Env → Prop} {ρ : Env} : wE T pn (.varT i) R ρ = (match ρ.at i with | some (.s, .tupk xs) => R .s (.tup xs) ρ | _ => False) := by rfl
@[simp ↓] theorem x_Etupk {b : C} {R : M → D → Env → Prop} {ρ : Env} : wE T pn (.tupk b) R ρ = (match b.isP with
    | true => wB T pn b (fun m x _ ρ1 => match x with | .lst xs => (m = .s ∨ m = .o .s) ∧ R .s (.tupk xs) ρ1 | _ => False) ρ
    | false => wE T pn b (fun _ x ρ1 => match x with | .lst xs => R .s (.tupk xs) ρ1 | _ => False) ρ) := by rfl
@[simp ↓] theorem x_EidxT {o e : C} {R : M → D → Env → Prop} {ρ : Env} : wE T pn (.idxT o e) R ρ = wE T pn o (fun _ x ρ1 => match x with
      | .tupk xs => wE T pn e (fun _ y ρ2 => ∃ (ns : List Int) (k : Int), xs = ns.map D.int ∧ y = .int k ∧ k ∈ ns ∧ R .s (.int (ns.idxOf k : Nat)) ρ2) ρ1
      | _ => False) ρ := by rfl
@[simp ↓] theorem x_Eidx {b e : C} {R : M → D → Env → Prop} {ρ : Env} : wE T pn (.idx b e) R ρ = wE T pn b (fun _ x ρ1 => wE T pn e (fun _ j ρ2 => itemD x j fun d => R .s d ρ2) ρ1) ρ := by rfl
@[simp ↓] theorem x_Eslice {b lo hi : C} {R : M → D → Env → Prop} {ρ : Env} : wE T pn (.slice b lo hi) R ρ = (match b.isBor with
    | true => (ρ.at b.root).isSome = true ∧ wP T pn lo (fun l ρ1 => wP T pn hi (fun h ρ2 => match ρ2.at b.root with | some (m, x) => sliceD m x l h fun m' d => R m' d ρ2 | _ => False) ρ1) ρ
    | false => wE T pn b (fun _ x ρ1 => wP T pn lo (fun l ρ2 => wP T pn hi (fun h ρ3 => sliceD .s x l h fun m' d => R m' d ρ3) ρ2) ρ1) ρ) := by rfl
@[simp ↓] theorem x_Ecall {j : Nat} {es : C} {R : M → D → Env → Prop} {ρ : Env} : wE T pn (.call j es) R ρ = (match T[j]? with
    | some sp => wA T pn sp.pm es (fun ds rs ρ1 => sp.run ds fun d ds' => R sp.rm d (upd1 ρ1 rs sp.pm ds')) ρ
    | none => False) := by rfl
@[simp ↓] theorem x_Eb1 {f : B1} {a : C} {R : M → D → Env → Prop} {ρ : Env} : wE T pn (.b1 f a) R ρ = (match a.isP with
      | true => wB T pn a (fun m x _ ρ1 => b1D f m x fun m' d => R m' d ρ1) ρ
      | false => wE T pn a (fun _ x ρ1 => b1D f .s x fun m' d => R m' d ρ1) ρ) := by rfl
@[simp ↓] theorem x_Emax2 {a b : C} {R : M → D → Env → Prop} {ρ : Env} : wE T pn (.max2 a b) R ρ = wE T pn a (fun _ x ρ1 => wE T pn b (fun _ y ρ2 => match x, y with | .int i, .int j => R .s (.int (if j > i then j else i)) ρ2 | _, _ => False) ρ1) ρ := by rfl
@[simp ↓] theorem x_Emin2 {a b : C} {R : M → D → Env → Prop} {ρ : Env} : wE T pn (.min2 a b) R ρ = wE T pn a (fun _ x ρ1 => wE T pn b (fun _ y ρ2 => match x, y with | .int i, .int j => R .s (.int (if j < i then j else i)) ρ2 | _, _ => False) ρ1) ρ := by rfl
@[simp ↓] theorem x_Elrange {a : C} {R : M → D → Env → Prop} {ρ : Env} : wE T pn (.lrange a) R ρ = wE T pn a (fun _ x ρ1 => match x with | .int i => 0 ≤ i ∧ i ≤ 16777216 ∧ R (.o .s) (.lst (rangeD 0 1 i.toNat)) ρ1 | _ => False) ρ := by rfl
@[simp ↓] theorem x_Eappb {i : Nat} {e : C} {R : M → D → Env → Prop} {ρ : Env} : wE T pn (.app (.bor i) e) R ρ = (match ρ.at i with
      | some (.o m', .lst xs) => xs.length < sizeLine ∧ wE T pn e (fun me y ρ2 => match ρ2.at i with
              | some (.o m2, .lst xs2) => xs2.length < sizeLine ∧ cst me m2 = true ∧ R .s .non (ρ2.set i (some (.o m2, .lst (xs2 ++ [y]))))
              | _ => False) ρ
      | _ => False) := by 
  show wB T pn (.bor i) _ ρ = _
  unfold wB
  cases ρ.at i with
  | none => rfl
  | some q =>
    obtain ⟨m, d⟩ := q
    cases m <;> first | rfl | (cases d <;> rfl)
@[simp ↓] theorem x_Eappx {p j : C} {e : C} {R : M → D → Env → Prop} {ρ : Env} : wE T pn (.app (.bidx p j) e) R ρ = wB T pn (.bidx p j) (fun m x put ρ1 => match m, x with
      | .o m', .lst xs => xs.length < sizeLine ∧ wE T pn e (fun me y ρ2 => cst me m' = true ∧ ∃ mr dr, ρ1.at p.root = some (mr, dr) ∧ R .s .non (ρ2.set p.root (some (mr, put (.lst (xs ++ [y])))))) (ρ1.set p.root none)
      | _, _ => False) ρ := by rfl
@[simp ↓] theorem x_Eappf {p : C} {f : Str} {e : C} {R : M → D → Env → Prop} {ρ : Env} : wE T pn (.app (.bfld p f) e) R ρ = wB T pn (.bfld p f) (fun m x put ρ1 => match m, x with
      | .o m', .lst xs => xs.length < sizeLine ∧ wE T pn e (fun me y ρ2 => cst me m' = true ∧ ∃ mr dr, ρ1.at p.root = some (mr, dr) ∧ R .s .non (ρ2.set p.root (some (mr, put (.lst (xs ++ [y])))))) (ρ1.set p.root none)
      | _, _ => False) ρ := by rfl
@[simp ↓] theorem x_Epop {p : C} {R : M → D → Env → Prop} {ρ : Env} : wE T pn (.pop p) R ρ = wB T pn p (fun m x put ρ1 => match m, x with
      | .o m', .lst xs => ∃ y, xs[xs.length - 1]? = some y ∧ ∃ mr dr, ρ1.at p.root = some (mr, dr) ∧ R m' y (ρ1.set p.root (some (mr, put (.lst xs.dropLast))))
      | _, _ => False) ρ := by rfl
@[simp ↓] theorem x_EpopAt {i : Nat} {e : C} {R : M → D → Env → Prop} {ρ : Env} : wE T pn (.popAt (.bor i) e) R ρ = ((ρ.at i).isSome = true ∧ (match ρ.at i with | some (.o _, _) => True | _ => False) ∧ wE T pn e (fun _ j ρ2 => match ρ2.at i, j with
        | some (.o .s, .lst xs), .int n => -(2 ^ 63) ≤ n ∧ n < 2 ^ 63 ∧ ∃ k y, seqIndex? n xs.length = some k ∧ xs[k]? = some y ∧ R .s y (ρ2.set i (some (.o .s, .lst (xs.eraseIdx k))))
        | _, _ => False) ρ) := by rfl
@[simp ↓] theorem x_Eext {i : Nat} {e : C} {R : M → D → Env → Prop} {ρ : Env} : wE T pn (.ext (.bor i) e) R ρ = ((ρ.at i).isSome = true ∧ (match ρ.at i with | some (.o _, _) => True | _ => False) ∧ wE T pn e (fun _ y ρ2 => match ρ2.at i, y with
        | some (.o .s, .lst xs), .lst ys => xs.length + ys.length ≤ sizeLine ∧ R .s .non (ρ2.set i (some (.o .s, .lst (xs ++ ys))))
        | _, _ => False) ρ) := by rfl
@[simp ↓] theorem x_Eindex {o e : C} {R : M → D → Env → Prop} {ρ : Env} : wE T pn (.index o e) R ρ = (match o.isBor with
    | true => (ρ.at o.root).isSome = true ∧ (match ρ.at o.root with | some (.o _, _) => True | some (.s, .lst _) => True | _ => False) ∧ wE T pn e (fun _ y ρ2 => match ρ2.at o.root with | some (_, x) => indexD x y fun j => R .s (.int j) ρ2 | _ => False) ρ
    | false => wE T pn o (fun _ x ρ1 => (match x with | .lst _ => True | _ => False) ∧ wE T pn e (fun _ y ρ2 => indexD x y fun j => R .s (.int j) ρ2) ρ1) ρ) := by rfl
@[simp ↓] theorem x_Egint {x : Str} {i : Int} {R : M → D → Env → Prop} {ρ : Env} : wE T pn (.gint x i) R ρ = R .s (.int i) ρ := by rfl
@[simp ↓] theorem x_Eprop {c f : Str} {j : Nat} {o : C} {R : M → D → Env → Prop} {ρ : Env} : wE T pn (.prop c f j o) R ρ = (match T[j]? with
    | some sp => (match sp.pm with
      | [.s] => wE T pn o (fun _ x ρ1 => match x with
        | .obj c' ns vs => c' = c ∧ sp.run [.obj c' ns vs] fun d ds' => R sp.rm d (upd1 ρ1 [none] sp.pm ds')
        | _ => False) ρ
      | _ => False)
    | none => False) := by rfl
@[simp ↓] theorem x_Erev {b : C} {R : M → D → Env → Prop} {ρ : Env} : wE T pn (.rev b) R ρ = (match b.isP with
    | true => wB T pn b (fun m x _ ρ1 => match x with | .lst xs => (m = .s ∨ m = .o .s) ∧ R (.o .s) (.lst xs.reverse) ρ1 | _ => False) ρ
    | false => wE T pn b (fun m x ρ1 => match x with | .lst xs => R (.o .s) (.lst xs.reverse) ρ1 | .tup xs => R .s (.tup xs.reverse) ρ1 | _ => False) ρ) := by rfl
@[simp ↓] theorem x_EisT {t : Ty5} {a : C} {R : M → D → Env → Prop} {ρ : Env} : wE T pn (.isT t a) R ρ = (match a.isP with
    | true => wB T pn a (fun _ x _ ρ1 => x.common = true ∧ R .s (.bl (isTy t x)) ρ1) ρ
    | false => wE T pn a (fun _ x ρ1 => x.common = true ∧ R .s (.bl (isTy t x)) ρ1) ρ) := by rfl
@[simp ↓] theorem x_Eisb {a : C} {R : M → D → Env → Prop} {ρ : Env} : wE T pn (.isb a) R ρ = wE T pn a (fun _ x ρ1 => x.flat = true ∧ R .s (.bl (isBl x)) ρ1) ρ := by rfl
@[simp ↓] theorem x_Efld {o : C} {f : Str} {R : M → D → Env → Prop} {ρ : Env} : wE T pn (.fld o f) R ρ = wE T pn o (fun _ x ρ1 => fldD x f fun d => R .s d ρ1) ρ := by rfl
@[simp ↓] theorem x_Emeth {c m : Str} {j : Nat} {o es : C} {R : M → D → Env → Prop} {ρ : Env} : wE T pn (.meth c m j o es) R ρ = (match T[j]? with
    | some sp => (match sp.pm with
      | .s :: ms => wE T pn o (fun _ x ρ1 => match x with
        | .obj c' ns vs => c' = c ∧ m ∉ ns ∧ wA T pn ms es (fun ds rs ρ2 => sp.run (.obj c' ns vs :: ds) fun d ds' => R sp.rm d (upd1 ρ2 (none :: rs) sp.pm ds')) ρ1
        | _ => False) ρ
      | _ => False)
    | none => False) := by rfl
@[simp ↓] theorem x_Emake {c : Str} {j : Nat} {es : C} {R : M → D → Env → Prop} {ρ : Env} : wE T pn (.make c j es) R ρ = (match T[j]? with
    | some sp => wA T pn sp.pm es (fun ds rs ρ1 => sp.run ds fun d ds' => R sp.rm d (upd1 ρ1 rs sp.pm ds')) ρ
    | none => False) := by rfl
@[simp ↓] theorem x_Bbor {i : Nat} {R : M → D → (D → D) → Env → Prop} {ρ : Env} : wB T pn (.bor i) R ρ = (match ρ.at i with | some (m, d) => R m d id ρ | _ => False) := by rfl
@[simp ↓] theorem x_Bidx0 {i : Nat} {e : C} {R : M → D → (D → D) → Env → Prop} {ρ : Env} : wB T pn (.bidx (.bor i) e) R ρ = ((ρ.at i).isSome = true ∧ wE T pn e (fun _ j ρ2 => match ρ2.at i with | some (m, x) => itemB m x j fun m' d put => R m' d put ρ2 | _ => False) ρ) := by rfl
@[simp ↓] theorem x_Bidx1 {p j e : C} {R : M → D → (D → D) → Env → Prop} {ρ : Env} : wB T pn (.bidx (.bidx p j) e) R ρ = wB T pn (.bidx p j) (fun m x put ρ1 => ∃ mr dr, ρ1.at p.root = some (mr, dr) ∧ wE T pn e (fun _ j ρ2 => itemB m x j fun m' d put' => R m' d (fun z => put (put' z)) (ρ2.set p.root (some (mr, dr)))) (ρ1.set p.root none)) ρ := by rfl
@[simp ↓] theorem x_Bfld {p : C} {f : Str} {R : M → D → (D → D) → Env → Prop} {ρ : Env} : wB T pn (.bfld p f) R ρ = wB T pn p (fun m x put ρ1 => fldB m x f fun m' d put' => R m' d (fun z => put (put' z)) ρ1) ρ := by rfl
@[simp ↓] theorem x_Bidxf {p e : C} {f : Str} {R : M → D → (D → D) → Env → Prop} {ρ : Env} : wB T pn (.bidx (.bfld p f) e) R ρ = wB T pn (.bfld p f) (fun m x put ρ1 => ∃ mr dr, ρ1.at p.root = some (mr, dr) ∧ wE T pn e (fun _ j ρ2 => itemB m x j fun m' d put' => R m' d (fun z => put (put' z)) (ρ2.set p.root (some (mr, dr)))) (ρ1.set p.root none)) ρ := by rfl
@[simp ↓] theorem x_Pc {a r : C} {R : Option Int → Env → Prop} {ρ : Env} : wP T pn (.cons a r) R ρ = wE T pn a (fun _ x ρ1 => opI x fun i => R i ρ1) ρ := by rfl
@[simp ↓] theorem x_Pn {R : Option Int → Env → Prop} {ρ : Env} : wP T pn .nil R ρ = R none ρ := by rfl
@[simp ↓] theorem x_Ln {m : M} {R : List D → Env → Prop} {ρ : Env} : wL T pn m .nil R ρ = R [] ρ := by rfl
@[simp ↓] theorem x_Lc {m : M} {a r : C} {R : List D → Env → Prop} {ρ : Env} : wL T pn m (.cons a r) R ρ = wE T pn a (fun m' d ρ1 => cst m' m = true ∧ wL T pn m r (fun ds ρ2 => R (d :: ds) ρ2) ρ1) ρ := by rfl
@[simp ↓] theorem x_An {R : List D → List (Option Nat) → Env → Prop} {ρ : Env} : wA T pn [] .nil R ρ = R [] [] ρ := by rfl
@[simp ↓] theorem x_Ac {m : M} {ms : List M} {a r : C} {R : List D → List (Option Nat) → Env → Prop} {ρ : Env} : wA T pn (m :: ms) (.cons a r) R ρ = (match a.isBor with
    | true => (ρ.at a.root).isSome = true ∧ wA T pn ms r (fun ds rs ρ2 => match ρ2.at a.root with | some (m', d) => m' = m ∧ m ≠ .s ∧ some a.root ∉ rs ∧ R (d :: ds) (some a.root :: rs) ρ2 | _ => False) ρ
    | false => wE T pn a (fun m' d ρ1 => cst m' m = true ∧ wA T pn ms r (fun ds rs ρ2 => R (d :: ds) (none :: rs) ρ2) ρ1) ρ) := by rfl
@[simp ↓] theorem x_Tand {a b : C} {Q : Bool → Env → Prop} {ρ : Env} : wT T pn (.and a b) Q ρ = wT T pn a (fun k ρ1 => if k = true then wT T pn b Q ρ1 else Q false ρ1) ρ := by rfl
@[simp ↓] theorem x_Tor {a b : C} {Q : Bool → Env → Prop} {ρ : Env} : wT T pn (.or a b) Q ρ = wT T pn a (fun k ρ1 => if k = true then Q true ρ1 else wT T pn b Q ρ1) ρ := by rfl
@[simp ↓] theorem x_Tone {a : C} {Q : Bool → Env → Prop} {ρ : Env} : wT T pn (.one a) Q ρ = wT T pn a Q ρ := by rfl
@[simp ↓] theorem x_Tnot {a : C} {Q : Bool → Env → Prop} {ρ : Env} : wT T pn (.not a) Q ρ = wT T pn a (fun k ρ1 => Q (!k) ρ1) ρ := by rfl
@[simp ↓] theorem x_Tcmp {op : CmpOp} {a b : C} {Q : Bool → Env → Prop} {ρ : Env} : wT T pn (.cmp op a b) Q ρ = wE T pn a (fun _ x ρ1 => match b.isP with
      | true => wB T pn b (fun _ y _ ρ2 => cmpD op x y fun c => Q c ρ2) ρ1
      | false => wE T pn b (fun _ y ρ2 => cmpD op x y fun c => Q c ρ2) ρ1) ρ := by rfl
@[simp ↓] theorem x_Tchain {p q : CmpOp} {a b c : C} {Q : Bool → Env → Prop} {ρ : Env} : wT T pn (.chain p q a b c) Q ρ = wE T pn a (fun _ x ρ1 => wE T pn b (fun _ y ρ2 => cmpD p x y fun k => if k = true then wE T pn c (fun _ z ρ3 => cmpD q y z fun k' => Q k' ρ3) ρ2 else Q false ρ2) ρ1) ρ := by rfl
@[simp ↓] theorem x_Tvar {i : Nat} {Q : Bool → Env → Prop} {ρ : Env} : wT T pn (.var i) Q ρ = (match ρ.at i with | some (.s, x) => truD x fun k => Q k ρ | _ => False) := by rfl
@[simp ↓] theorem x_Tbin {op : Operator} {a b : C} {Q : Bool → Env → Prop} {ρ : Env} : wT T pn (.bin op a b) Q ρ = wE T pn a (fun _ x ρ1 => wE T pn b (fun _ y ρ2 => binD op x y fun _ d => truD d fun k => Q k ρ2) ρ1) ρ := by rfl
@[simp ↓] theorem x_Trd {p : C} {Q : Bool → Env → Prop} {ρ : Env} : wT T pn (.rd p) Q ρ = wB T pn p (fun m x _ ρ' => match m with | .s => truD x fun k => Q k ρ' | _ => False) ρ := by rfl
@[simp ↓] theorem x_Tidx {b e : C} {Q : Bool → Env → Prop} {ρ : Env} : wT T pn (.idx b e) Q ρ = wE T pn b (fun _ x ρ1 => wE T pn e (fun _ j ρ2 => itemD x j fun d => truD d fun k => Q k ρ2) ρ1) ρ := by rfl
@[simp ↓] theorem x_Tcall {j : Nat} {es : C} {Q : Bool → Env → Prop} {ρ : Env} : wT T pn (.call j es) Q ρ = (match T[j]? with
    | some sp => wA T pn sp.pm es (fun ds rs ρ1 => sp.run ds fun d ds' => truD d fun k => Q k (upd1 ρ1 rs sp.pm ds')) ρ
    | none => False) := by rfl
@[simp ↓] theorem x_Tmeth {c m : Str} {j : Nat} {o es : C} {Q : Bool → Env → Prop} {ρ : Env} : wT T pn (.meth c m j o es) Q ρ = (match T[j]? with
    | some sp => (match sp.pm with
      | .s :: ms => wE T pn o (fun _ x ρ1 => match x with
        | .obj c' ns vs => c' = c ∧ m ∉ ns ∧ wA T pn ms es (fun ds rs ρ2 => sp.run (.obj c' ns vs :: ds) fun d ds' => truD d fun k => Q k (upd1 ρ2 (none :: rs) sp.pm ds')) ρ1
        | _ => False) ρ
      | _ => False)
    | none => False) := by rfl
@[simp ↓] theorem x_TisT {t : Ty5} {a : C} {Q : Bool → Env → Prop} {ρ : Env} : wT T pn (.isT t a) Q ρ = (match a.isP with
    | true => wB T pn a (fun _ x _ ρ1 => x.common = true ∧ Q (isTy t x) ρ1) ρ
    | false => wE T pn a (fun _ x ρ1 => x.common = true ∧ Q (isTy t x) ρ1) ρ) := by rfl
@[simp ↓] theorem x_Tpur {a : C} {Q : Bool → Env → Prop} {ρ : Env} : wT T pn (.pur a) Q ρ = wT T pn a (fun k _ => Q k ρ) (shrE ρ) := by rfl
@[simp ↓] theorem x_Tisb {a : C} {Q : Bool → Env → Prop} {ρ : Env} : wT T pn (.isb a) Q ρ = wE T pn a (fun _ x ρ1 => x.flat = true ∧ Q (isBl x) ρ1) ρ := by rfl
@[simp ↓] theorem x_Tb1 {f : B1} {a : C} {Q : Bool → Env → Prop} {ρ : Env} : wT T pn (.b1 f a) Q ρ = (match a.isP with
      | true => wB T pn a (fun m x _ ρ1 => b1D f m x fun _ d => truD d fun k => Q k ρ1) ρ
      | false => wE T pn a (fun _ x ρ1 => b1D f .s x fun _ d => truD d fun k => Q k ρ1) ρ) := by rfl
@[simp ↓] theorem x_Cn {Q : Bool → Env → Prop} {ρ : Env} : wC T pn .nil Q ρ = Q true ρ := by rfl
@[simp ↓] theorem x_Cc {a r : C} {Q : Bool → Env → Prop} {ρ : Env} : wC T pn (.cons a r) Q ρ = wT T pn a Q ρ := by rfl
@[simp ↓] theorem x_Iitr {e : C} {R : List D → Env → Prop} {ρ : Env} : wI T pn (.itr e) R ρ = wE T pn e (fun _ x ρ1 => match x with | .lst xs => R xs ρ1 | .tup xs => R xs ρ1 | _ => False) ρ := by rfl
@[simp ↓] theorem x_Irng1 {a : C} {R : List D → Env → Prop} {ρ : Env} : wI T pn (.rng1 a) R ρ = wE T pn a (fun _ x ρ1 => match x with | .int j => -(2 ^ 62) ≤ j ∧ j < 2 ^ 62 ∧ R (rangeD 0 1 j.toNat) ρ1 | _ => False) ρ := by rfl
@[simp ↓] theorem x_Irng2 {a b : C} {R : List D → Env → Prop} {ρ : Env} : wI T pn (.rng2 a b) R ρ = wE T pn a (fun _ x ρ1 => wE T pn b (fun _ y ρ2 => match x, y with | .int i, .int j => (-(2 ^ 62) ≤ i ∧ i < 2 ^ 62 ∧ -(2 ^ 62) ≤ j ∧ j < 2 ^ 62) ∧ R (rangeD i 1 (j - i).toNat) ρ2 | _, _ => False) ρ1) ρ := by rfl
@[simp ↓] theorem x_Irng3 {a b c : C} {R : List D → Env → Prop} {ρ : Env} : wI T pn (.rng3 a b c) R ρ = wE T pn a (fun _ x ρ1 => wE T pn b (fun _ y ρ2 => wE T pn c (fun _ z ρ3 => match x, y, z with | .int i, .int j, .int k => ∃ n, RgC i j k n ∧ R (rangeD i k n) ρ3 | _, _, _ => False) ρ2) ρ1) ρ := by rfl
@[simp ↓] theorem x_Ienum {e : C} {R : List D → Env → Prop} {ρ : Env} : wI T pn (.enum e) R ρ = wE T pn e (fun _ x ρ1 => match x with | .lst xs => R (enumD xs) ρ1 | .tup xs => R (enumD xs) ρ1 | _ => False) ρ := by rfl
@[simp ↓] theorem x_Izip {a b : C} {R : List D → Env → Prop} {ρ : Env} : wI T pn (.zip a b) R ρ = wE T pn a (fun _ x ρ1 => wE T pn b (fun _ y ρ2 => match x, y with | .lst xs, .lst ys => R (zipD xs ys) ρ2 | _, _ => False) ρ1) ρ := by rfl
@[simp ↓] theorem x_Gn {i : Nat} {d : D} {R : Env → Prop} {ρ : Env} : wG T pn (.tn i) d R ρ = (i ∉ pn ∧ R (ρ.set i (some (.s, d)))) := by rfl
@[simp ↓] theorem x_Gt {ts : C} {d : D} {R : Env → Prop} {ρ : Env} : wG T pn (.tt ts) d R ρ = (match d with | .tup ds => ds.length = ts.len ∧ wGs T pn ts ds R ρ | _ => False) := by rfl
@[simp ↓] theorem x_Gsn {ds : List D} {R : Env → Prop} {ρ : Env} : wGs T pn .nil ds R ρ = (ds = [] ∧ R ρ) := by rfl
@[simp ↓] theorem x_Gsc {t r : C} {ds : List D} {R : Env → Prop} {ρ : Env} : wGs T pn (.cons t r) ds R ρ = (match ds with | d :: ds' => wG T pn t d (fun ρ1 => wGs T pn r ds' R ρ1) ρ | [] => False) := by rfl
@[simp ↓] theorem x_Sskip  {nx : Env → Prop} {rt : M → D → Env → Prop} {bk ct : Env → Prop} {ρ : Env} : wS T pn (.skip) ⟨nx, rt, bk, ct⟩ ρ = nx ρ := by rfl
@[simp ↓] theorem x_Sseq {a b : C} {nx : Env → Prop} {rt : M → D → Env → Prop} {bk ct : Env → Prop} {ρ : Env} : wS T pn (.seq a b) ⟨nx, rt, bk, ct⟩ ρ = wS T pn a ⟨wS T pn b ⟨nx, rt, bk, ct⟩, rt, bk, ct⟩ ρ := by rfl
@[simp ↓] theorem x_Sex {e : C} {nx : Env → Prop} {rt : M → D → Env → Prop} {bk ct : Env → Prop} {ρ : Env} : wS T pn (.ex e) ⟨nx, rt, bk, ct⟩ ρ = wE T pn e (fun _ _ ρ1 => nx ρ1) ρ := by rfl
@[simp ↓] theorem x_Sasg {i : Nat} {m : M} {e : C} {nx : Env → Prop} {rt : M → D → Env → Prop} {bk ct : Env → Prop} {ρ : Env} : wS T pn (.asg i m e) ⟨nx, rt, bk, ct⟩ ρ = wE T pn e (fun m' d ρ1 => cst m' m = true ∧ i ∉ pn ∧ nx (ρ1.set i (some (m, d)))) ρ := by rfl
@[simp ↓] theorem x_Ssetf {i : Nat} {f : Str} {m : M} {e : C} {nx : Env → Prop} {rt : M → D → Env → Prop} {bk ct : Env → Prop} {ρ : Env} : wS T pn (.setf i f m e) ⟨nx, rt, bk, ct⟩ ρ = wE T pn e (fun m' d ρ1 => cst m' m = true ∧ (match ρ1.at i with | some (.ins c ns ms, .obj c' ns' vs) => f ∉ ns ∧ ns.length < 1000 ∧ nx (ρ1.set i (some (.ins c (ns ++ [f]) (mSnoc ms m), .obj c' (ns' ++ [f]) (vs ++ [d])))) | _ => False)) ρ := by rfl
@[simp ↓] theorem x_Sunp {ts e : C} {nx : Env → Prop} {rt : M → D → Env → Prop} {bk ct : Env → Prop} {ρ : Env} : wS T pn (.unp ts e) ⟨nx, rt, bk, ct⟩ ρ = wE T pn e (fun _ d ρ1 => match d with | .tup ds => ds.length = ts.len ∧ wGs T pn ts ds nx ρ1 | _ => False) ρ := by rfl
@[simp ↓] theorem x_Sset0 {i : Nat} {e v : C} {nx : Env → Prop} {rt : M → D → Env → Prop} {bk ct : Env → Prop} {ρ : Env} : wS T pn (.setix (.bor i) e v) ⟨nx, rt, bk, ct⟩ ρ = wE T pn v (fun mv y ρ1 => (ρ1.at i).isSome = true ∧ wE T pn e (fun _ j ρ2 => match ρ2.at i, j with
        | some (.o m', .lst xs), .int k => ∃ n, ixN xs.length k = some n ∧ cst mv m' = true ∧ nx (ρ2.set i (some (.o m', .lst (xs.set n y))))
        | _, _ => False) ρ1) ρ := by rfl
@[simp ↓] theorem x_Sset1 {p j0 e v : C} {nx : Env → Prop} {rt : M → D → Env → Prop} {bk ct : Env → Prop} {ρ : Env} : wS T pn (.setix (.bidx p j0) e v) ⟨nx, rt, bk, ct⟩ ρ = wE T pn v (fun mv y ρ1 => wB T pn (.bidx p j0) (fun m x put ρ2 => ∃ mr dr, ρ2.at p.root = some (mr, dr) ∧ wE T pn e (fun _ j ρ3 => match m, x, j with
        | .o m', .lst xs, .int i => ∃ n, ixN xs.length i = some n ∧ cst mv m' = true ∧ nx (ρ3.set p.root (some (mr, put (.lst (xs.set n y)))))
        | _, _, _ => False) (ρ2.set p.root none)) ρ1) ρ := by rfl
@[simp ↓] theorem x_Sset1f {p e v : C} {f : Str} {nx : Env → Prop} {rt : M → D → Env → Prop} {bk ct : Env → Prop} {ρ : Env} : wS T pn (.setix (.bfld p f) e v) ⟨nx, rt, bk, ct⟩ ρ = wE T pn v (fun mv y ρ1 => wB T pn (.bfld p f) (fun m x put ρ2 => ∃ mr dr, ρ2.at p.root = some (mr, dr) ∧ wE T pn e (fun _ j ρ3 => match m, x, j with
        | .o m', .lst xs, .int i => ∃ n, ixN xs.length i = some n ∧ cst mv m' = true ∧ nx (ρ3.set p.root (some (mr, put (.lst (xs.set n y)))))
        | _, _, _ => False) (ρ2.set p.root none)) ρ1) ρ := by rfl
@[simp ↓] theorem x_Sswp {i : Nat} {a b v : C} {nx : Env → Prop} {rt : M → D → Env → Prop} {bk ct : Env → Prop} {ρ : Env} : wS T pn (.swp i a b v) ⟨nx, rt, bk, ct⟩ ρ = wE T pn v (fun _ d ρ1 => match d with
    | .tup [x, y] => (ρ1.at i).isSome = true ∧ wE T pn a (fun _ j ρ2 => match ρ2.at i, j with
        | some (.o .s, .lst xs), .int k => ∃ n, ixN xs.length k = some n ∧ wE T pn b (fun _ j2 ρ3 => match ρ3.at i, j2 with
          | some (.o .s, .lst ys), .int k2 => ∃ n2, ixN ys.length k2 = some n2 ∧ nx (ρ3.set i (some (.o .s, .lst (ys.set n2 y))))
          | _, _ => False) (ρ2.set i (some (.o .s, .lst (xs.set n x))))
        | _, _ => False) ρ1
    | _ => False) ρ := by rfl
@[simp ↓] theorem x_Saugx {r : Nat} {e v : C} {op : Operator} {nx : Env → Prop} {rt : M → D → Env → Prop} {bk ct : Env → Prop} {ρ : Env} : wS T pn (.augix (.bor r) e op v) ⟨nx, rt, bk, ct⟩ ρ = ((ρ.at r).isSome = true ∧ wE T pn e (fun _ j ρ1 => match ρ1.at r, j with
        | some (.o .s, .lst xs), .int i => 0 ≤ i ∧ ∃ x, xs[i.toNat]? = some (.int x) ∧ wE T pn v (fun _ y ρ2 => match ρ2.at r, y with
          | some (.o .s, .lst xs2), .int y => i < xs2.length ∧ augI op x y fun z => nx (ρ2.set r (some (.o .s, .lst (xs2.set i.toNat (.int z)))))
          | _, _ => False) ρ1
        | _, _ => False) ρ) := by rfl
@[simp ↓] theorem x_Saug {i : Nat} {op : Operator} {e : C} {nx : Env → Prop} {rt : M → D → Env → Prop} {bk ct : Env → Prop} {ρ : Env} : wS T pn (.aug i op e) ⟨nx, rt, bk, ct⟩ ρ = (match ρ.at i with
    | some (.s, .int x) => i ∉ pn ∧ wE T pn e (fun _ y ρ1 => match y with | .int y => augI op x y fun z => nx (ρ1.set i (some (.s, .int z))) | _ => False) ρ
    | _ => False) := by rfl
@[simp ↓] theorem x_Sifs {a b c : C} {nx : Env → Prop} {rt : M → D → Env → Prop} {bk ct : Env → Prop} {ρ : Env} : wS T pn (.ifs c a b) ⟨nx, rt, bk, ct⟩ ρ = wT T pn c (fun k ρ1 => if k = true then wS T pn a ⟨nx, rt, bk, ct⟩ ρ1 else wS T pn b ⟨nx, rt, bk, ct⟩ ρ1) ρ := by rfl
@[simp ↓] theorem x_Smtch {i : Nat} {x : Str} {b r : C} {nx : Env → Prop} {rt : M → D → Env → Prop} {bk ct : Env → Prop} {ρ : Env} : wS T pn (.mtch i x b r) ⟨nx, rt, bk, ct⟩ ρ = (match ρ.at i with | some (.s, .str y) => if y = x then wS T pn b ⟨nx, rt, bk, ct⟩ ρ else wS T pn r ⟨nx, rt, bk, ct⟩ ρ | _ => False) := by rfl
@[simp ↓] theorem x_Sdflt {b : C} {nx : Env → Prop} {rt : M → D → Env → Prop} {bk ct : Env → Prop} {ρ : Env} : wS T pn (.dflt b) ⟨nx, rt, bk, ct⟩ ρ = wS T pn b ⟨nx, rt, bk, ct⟩ ρ := by rfl
@[simp ↓] theorem x_Sret {e : C} {nx : Env → Prop} {rt : M → D → Env → Prop} {bk ct : Env → Prop} {ρ : Env} : wS T pn (.ret e) ⟨nx, rt, bk, ct⟩ ρ = wE T pn e (fun m d ρ1 => rt m d ρ1) ρ := by rfl
@[simp ↓] theorem x_Sretn  {nx : Env → Prop} {rt : M → D → Env → Prop} {bk ct : Env → Prop} {ρ : Env} : wS T pn (.retn) ⟨nx, rt, bk, ct⟩ ρ = rt .s .non ρ := by rfl
@[simp ↓] theorem x_Sbrk  {nx : Env → Prop} {rt : M → D → Env → Prop} {bk ct : Env → Prop} {ρ : Env} : wS T pn (.brk) ⟨nx, rt, bk, ct⟩ ρ = bk ρ := by rfl
@[simp ↓] theorem x_Scont  {nx : Env → Prop} {rt : M → D → Env → Prop} {bk ct : Env → Prop} {ρ : Env} : wS T pn (.cont) ⟨nx, rt, bk, ct⟩ ρ = ct ρ := by rfl
@[simp ↓] theorem x_Sfrz {i : Nat} {nx : Env → Prop} {rt : M → D → Env → Prop} {bk ct : Env → Prop} {ρ : Env} : wS T pn (.frz i) ⟨nx, rt, bk, ct⟩ ρ = (match ρ.at i with | some (m, d) => nx (ρ.set i (some (.s, d))) | none => False) := by rfl
@[simp] theorem x_badd {i j : Int} {k : M → D → Prop} : binD .Add (.int i) (.int j) k = k .s (.int (i + j)) := by rfl
@[simp] theorem x_bsub {i j : Int} {k : M → D → Prop} : binD .Sub (.int i) (.int j) k = k .s (.int (i - j)) := by rfl
@[simp] theorem x_bmul {i j : Int} {k : M → D → Prop} : binD .Mult (.int i) (.int j) k = (CMul i j ∧ k .s (.int (i * j))) := by rfl
@[simp] theorem x_bdiv {i j : Int} {k : M → D → Prop} : binD .FloorDiv (.int i) (.int j) k = (CDiv i j ∧ k .s (.int (i / j))) := by rfl
@[simp] theorem x_bmod {i j : Int} {k : M → D → Prop} : binD .Mod (.int i) (.int j) k = (0 < j ∧ k .s (.int (i % j))) := by rfl
@[simp] theorem x_bpow {i j : Int} {k : M → D → Prop} : binD .Pow (.int i) (.int j) k = (CPow i j ∧ k .s (.int (i ^ j.toNat))) := by rfl
@[simp] theorem x_bshl {i j : Int} {k : M → D → Prop} : binD .LShift (.int i) (.int j) k = (CPow i j ∧ k .s (.int (i * 2 ^ j.toNat))) := by rfl
@[simp] theorem x_bshr {i j : Int} {k : M → D → Prop} : binD .RShift (.int i) (.int j) k = (0 ≤ j ∧ k .s (.int (i / 2 ^ j.toNat))) := by rfl
@[simp] theorem x_band {i j : Int} {k : M → D → Prop} : binD .BitAnd (.int i) (.int j) k = k .s (.int (Builtin.bitAnd i j)) := by rfl
@[simp] theorem x_bor {i j : Int} {k : M → D → Prop} : binD .BitOr (.int i) (.int j) k = k .s (.int (Builtin.bitOr i j)) := by rfl
@[simp] theorem x_bxor {i j : Int} {k : M → D → Prop} : binD .BitXor (.int i) (.int j) k = k .s (.int (Builtin.bitXor i j)) := by rfl
@[simp] theorem x_badds {i j : Str} {k : M → D → Prop} : binD .Add (.str i) (.str j) k = (i.length + j.length ≤ sizeLine ∧ k .s (.str (i ++ j))) := by rfl
@[simp] theorem x_baddl {xs ys : List D} {k : M → D → Prop} : binD .Add (.lst xs) (.lst ys) k = (xs.length + ys.length ≤ sizeLine ∧ k (.o .s) (.lst (xs ++ ys))) := by rfl
@[simp] theorem x_baddt {xs ys : List D} {k : M → D → Prop} : binD .Add (.tup xs) (.tup ys) k = (xs.length + ys.length ≤ sizeLine ∧ k .s (.tup (xs ++ ys))) := by rfl
@[simp] theorem x_bmull {xs : List D} {n : Int} {k : M → D → Prop} : binD .Mult (.lst xs) (.int n) k = (-(2 ^ 63) ≤ n ∧ n < 2 ^ 63 ∧ xs.length * n.toNat ≤ sizeLine ∧ k (.o .s) (.lst (List.replicate n.toNat xs).flatten)) := by rfl
@[simp] theorem x_keqi {i j : Int}{k : Bool → Prop} : eqD (.int i) (.int j) k = k (decide (i = j)) := by rfl
@[simp] theorem x_keqs {i j : Str}{k : Bool → Prop} : eqD (.str i) (.str j) k = k (decide (i = j)) := by rfl
@[simp] theorem x_keqb {i j : Bool}{k : Bool → Prop} : eqD (.bl i) (.bl j) k = k (decide (i = j)) := by rfl
@[simp] theorem x_kcEq {x y : D}{k : Bool → Prop} : cmpD .Eq x y k = eqD x y k := by rfl
@[simp] theorem x_kcNe {x y : D}{k : Bool → Prop} : cmpD .NotEq x y k = eqD x y fun b => k (!b) := by rfl
@[simp] theorem x_kcLt {i j : Int}{k : Bool → Prop} : cmpD .Lt (.int i) (.int j) k = k (decide (i < j)) := by rfl
@[simp] theorem x_kcLe {i j : Int}{k : Bool → Prop} : cmpD .LtE (.int i) (.int j) k = k (decide (i ≤ j)) := by rfl
@[simp] theorem x_kcGt {i j : Int}{k : Bool → Prop} : cmpD .Gt (.int i) (.int j) k = k (decide (j < i)) := by rfl
@[simp] theorem x_kcGe {i j : Int}{k : Bool → Prop} : cmpD .GtE (.int i) (.int j) k = k (decide (j ≤ i)) := by rfl
@[simp] theorem x_kcIs {x : D}{k : Bool → Prop} : cmpD .Is x .non k = k (isN x) := by rfl
@[simp] theorem x_kcIsB {a b : Bool}{k : Bool → Prop} : cmpD .Is (.bl a) (.bl b) k = k (decide (a = b)) := by rfl
@[simp] theorem x_kcIsNB {a b : Bool}{k : Bool → Prop} : cmpD .IsNot (.bl a) (.bl b) k = k (!decide (a = b)) := by rfl
@[simp] theorem x_kcIsN {x : D}{k : Bool → Prop} : cmpD .IsNot x .non k = k (!isN x) := by rfl
@[simp] theorem x_kcIn {x y : D}{k : Bool → Prop} : cmpD .In x y k = inD x y k := by rfl
@[simp] theorem x_kcNi {x y : D}{k : Bool → Prop} : cmpD .NotIn x y k = inD x y fun b => k (!b) := by rfl
@[simp] theorem x_ktn {k : Bool → Prop} : truD .non k = k false := by rfl
@[simp] theorem x_ktb {b : Bool}{k : Bool → Prop} : truD (.bl b) k = k b := by rfl
@[simp] theorem x_kti {i : Int}{k : Bool → Prop} : truD (.int i) k = k (i != 0) := by rfl
@[simp] theorem x_kts {y : Str}{k : Bool → Prop} : truD (.str y) k = (y.length ≤ sizeLine ∧ k ((y.length : Int) != 0)) := by rfl
@[simp] theorem x_ktl {xs : List D}{k : Bool → Prop} : truD (.lst xs) k = k (!xs.isEmpty) := by rfl
@[simp] theorem x_ktt {xs : List D}{k : Bool → Prop} : truD (.tup xs) k = k (!xs.isEmpty) := by rfl
@[simp] theorem x_kil {xs : List D} {i : Int}{k : D → Prop} : itemD (.lst xs) (.int i) k = ∃ d, atI xs i = some d ∧ k d := by rfl
@[simp] theorem x_kit {xs : List D} {i : Int}{k : D → Prop} : itemD (.tup xs) (.int i) k = ∃ d, atI xs i = some d ∧ k d := by rfl
@[simp] theorem x_kis {ns : List Int} {i : Int}{k : D → Prop} : itemD (.scr ns) (.int i) k = ∃ n, atI ns i = some n ∧ k (.int n) := by rfl
@[simp] theorem x_kbl_o {m' : M} {xs : List D} {i : Int}{k : M → D → (D → D) → Prop} : itemB (.o m') (.lst xs) (.int i) k = (∃ n d, ixN xs.length i = some n ∧ xs[n]? = some d ∧ k m' d fun d' => .lst (xs.set n d')) := by rfl
@[simp] theorem x_kbl_s {x j : D}{k : M → D → (D → D) → Prop} : itemB .s x j k = itemD x j fun d => k .s d fun _ => x := by rfl
@[simp] theorem x_fll {m : M} {xs : List D}{k : M → D → Prop} : b1D .len m (.lst xs) k = k .s (.int xs.length) := by rfl
@[simp] theorem x_flt {m : M} {xs : List D}{k : M → D → Prop} : b1D .len m (.tup xs) k = k .s (.int xs.length) := by rfl
@[simp] theorem x_fls {m : M} {xs : List Int}{k : M → D → Prop} : b1D .len m (.scr xs) k = k .s (.int xs.length) := by rfl
@[simp] theorem x_flx {m : M} {x : Str}{k : M → D → Prop} : b1D .len m (.str x) k = (x.length ≤ sizeLine ∧ k .s (.int x.length)) := by rfl
@[simp] theorem x_fii {m : M} {i : Int}{k : M → D → Prop} : b1D .int m (.int i) k = k .s (.int i) := by rfl
@[simp] theorem x_fib {m : M} {b : Bool}{k : M → D → Prop} : b1D .int m (.bl b) k = k .s (.int (if b then 1 else 0)) := by rfl
@[simp] theorem x_fabs {m : M} {i : Int}{k : M → D → Prop} : b1D .abs m (.int i) k = k .s (.int (if i < 0 then -i else i)) := by rfl
@[simp] theorem x_fsum {m : M} {xs : List D}{k : M → D → Prop} : b1D .sum m (.lst xs) k = ∃ ns : List Int, xs = ns.map D.int ∧ k .s (.int ns.sum) := by rfl
@[simp] theorem x_fany {m : M} {xs : List D}{k : M → D → Prop} : b1D .any m (.lst xs) k = ∃ bs : List Bool, xs = bs.map D.bl ∧ k .s (.bl (bs.any id)) := by rfl
@[simp] theorem x_fall {m : M} {xs : List D}{k : M → D → Prop} : b1D .all m (.lst xs) k = ∃ bs : List Bool, xs = bs.map D.bl ∧ k .s (.bl (bs.all id)) := by rfl
@[simp] theorem x_fmax {m : M} {xs : List D}{k : M → D → Prop} : b1D .max m (.lst xs) k = ∃ ns : List Int, xs = ns.map D.int ∧ 0 < ns.length ∧ ∀ n, n ∈ ns → (∀ y, y ∈ ns → y ≤ n) → k .s (.int n) := by rfl
@[simp] theorem x_fmin {m : M} {xs : List D}{k : M → D → Prop} : b1D .min m (.lst xs) k = ∃ ns : List Int, xs = ns.map D.int ∧ 0 < ns.length ∧ ∀ n, n ∈ ns → (∀ y, y ∈ ns → n ≤ y) → k .s (.int n) := by rfl
@[simp] theorem x_fsorted {m : M} {xs : List D}{k : M → D → Prop} : b1D .sorted m (.lst xs) k = ∃ ns : List Int, xs = ns.map D.int ∧ ∀ ns' : List Int, ns'.Perm ns → ns'.Pairwise (· ≤ ·) → k (.o .s) (.lst (ns'.map D.int)) := by rfl
@[simp] theorem x_flistl {m : M} {xs : List D}{k : M → D → Prop} : b1D .list m (.lst xs) k = ((m = .s ∨ m = .o .s) ∧ k (.o .s) (.lst xs)) := by rfl
@[simp] theorem x_flistt {m : M} {xs : List D}{k : M → D → Prop} : b1D .list m (.tup xs) k = k (.o .s) (.lst xs) := by rfl
@[simp] theorem x_ftupl {m : M} {xs : List D}{k : M → D → Prop} : b1D .tuple m (.lst xs) k = ((m = .s ∨ m = .o .s) ∧ k .s (.tup xs)) := by rfl
@[simp] theorem x_ftupt {m : M} {xs : List D}{k : M → D → Prop} : b1D .tuple m (.tup xs) k = k .s (.tup xs) := by rfl
@[simp] theorem x_fstr {m : M} {i : Int}{k : M → D → Prop} : b1D .str m (.int i) k = (i.natAbs.log2 < 1920 ∧ k .s (.str (toString i))) := by rfl
@[simp] theorem x_frepr {m : M} {x : D}{k : M → D → Prop} : b1D .repr m x k = (showD x ∧ k .s (.str x.toPy.shown)) := by rfl
@[simp] theorem x_ksl {m : M} {xs : List D} {lo hi : Option Int} {k : M → D → Prop} : sliceD m (.lst xs) lo hi k = ((m = .s ∨ m = .o .s) ∧ k (.o .s) (.lst (cutD xs lo hi))) := by rfl
@[simp] theorem x_kst {m : M} {xs : List D} {lo hi : Option Int} {k : M → D → Prop} : sliceD m (.tup xs) lo hi k = k .s (.tup (cutD xs lo hi)) := by rfl
@[simp] theorem x_kop {i : Int} {k : Option Int → Prop} : opI (.int i) k = k (some i) := by rfl
@[simp] theorem x_kaugA {i j : Int} {k : Int → Prop} : augI .Add i j k = k (i + j) := by rfl
@[simp] theorem x_kaugS {i j : Int} {k : Int → Prop} : augI .Sub i j k = k (i - j) := by rfl
end
@[simp] theorem isP_int {i : Int} : C.isP (.int i : C) = false := rfl
@[simp] theorem isBor_int {i : Int} : C.isBor (.int i : C) = false := rfl
@[simp] theorem isP_bl {b : Bool} : C.isP (.bl b : C) = false := rfl
@[simp] theorem isBor_bl {b : Bool} : C.isBor (.bl b : C) = false := rfl
@[simp] theorem isP_str {x : Str} : C.isP (.str x : C) = false := rfl
@[simp] theorem isBor_str {x : Str} : C.isBor (.str x : C) = false := rfl
@[simp] theorem isP_non  : C.isP (.non  : C) = false := rfl
@[simp] theorem isBor_non  : C.isBor (.non  : C) = false := rfl
@[simp] theorem isP_var {i : Nat} : C.isP (.var i : C) = false := rfl
@[simp] theorem isBor_var {i : Nat} : C.isBor (.var i : C) = false := rfl
@[simp] theorem isP_mv {i : Nat} : C.isP (.mv i : C) = false := rfl
@[simp] theorem isBor_mv {i : Nat} : C.isBor (.mv i : C) = false := rfl
@[simp] theorem isP_lenset {a : C} : C.isP (.lenset a : C) = false := rfl
@[simp] theorem isBor_lenset {a : C} : C.isBor (.lenset a : C) = false := rfl
@[simp] theorem isP_varT {i : Nat} : C.isP (.varT i : C) = false := rfl
@[simp] theorem isBor_varT {i : Nat} : C.isBor (.varT i : C) = false := rfl
@[simp] theorem isP_tupk {a : C} : C.isP (.tupk a : C) = false := rfl
@[simp] theorem isBor_tupk {a : C} : C.isBor (.tupk a : C) = false := rfl
@[simp] theorem isP_idxT {a : C} {b : C} : C.isP (.idxT a b : C) = false := rfl
@[simp] theorem isBor_idxT {a : C} {b : C} : C.isBor (.idxT a b : C) = false := rfl
@[simp] theorem isP_rd {p : C} : C.isP (.rd p : C) = false := rfl
@[simp] theorem isBor_rd {p : C} : C.isBor (.rd p : C) = false := rfl
@[simp] theorem isP_bin {o : Operator} {a : C} {b : C} : C.isP (.bin o a b : C) = false := rfl
@[simp] theorem isBor_bin {o : Operator} {a : C} {b : C} : C.isBor (.bin o a b : C) = false := rfl
@[simp] theorem isP_neg {a : C} : C.isP (.neg a : C) = false := rfl
@[simp] theorem isBor_neg {a : C} : C.isBor (.neg a : C) = false := rfl
@[simp] theorem isP_inv {a : C} : C.isP (.inv a : C) = false := rfl
@[simp] theorem isBor_inv {a : C} : C.isBor (.inv a : C) = false := rfl
@[simp] theorem isP_not {a : C} : C.isP (.not a : C) = false := rfl
@[simp] theorem isBor_not {a : C} : C.isBor (.not a : C) = false := rfl
@[simp] theorem isP_cmp {o : CmpOp} {a : C} {b : C} : C.isP (.cmp o a b : C) = false := rfl
@[simp] theorem isBor_cmp {o : CmpOp} {a : C} {b : C} : C.isBor (.cmp o a b : C) = false := rfl
@[simp] theorem isP_chain {o1 : CmpOp} {o2 : CmpOp} {a : C} {b : C} {c : C} : C.isP (.chain o1 o2 a b c : C) = false := rfl
@[simp] theorem isBor_chain {o1 : CmpOp} {o2 : CmpOp} {a : C} {b : C} {c : C} : C.isBor (.chain o1 o2 a b c : C) = false := rfl
@[simp] theorem isP_and {a : C} {b : C} : C.isP (.and a b : C) = false := rfl
@[simp] theorem isBor_and {a : C} {b : C} : C.isBor (.and a b : C) = false := rfl
@[simp] theorem isP_or {a : C} {b : C} : C.isP (.or a b : C) = false := rfl
@[simp] theorem isBor_or {a : C} {b : C} : C.isBor (.or a b : C) = false := rfl
@[simp] theorem isP_one {a : C} : C.isP (.one a : C) = false := rfl
@[simp] theorem isBor_one {a : C} : C.isBor (.one a : C) = false := rfl
@[simp] theorem isP_ite {c : C} {a : C} {b : C} : C.isP (.ite c a b : C) = false := rfl
@[simp] theorem isBor_ite {c : C} {a : C} {b : C} : C.isBor (.ite c a b : C) = false := rfl
@[simp] theorem isP_tup {a : C} : C.isP (.tup a : C) = false := rfl
@[simp] theorem isBor_tup {a : C} : C.isBor (.tup a : C) = false := rfl
@[simp] theorem isP_lst {m : M} {a : C} : C.isP (.lst m a : C) = false := rfl
@[simp] theorem isBor_lst {m : M} {a : C} : C.isBor (.lst m a : C) = false := rfl
@[simp] theorem isP_idx {a : C} {b : C} : C.isP (.idx a b : C) = false := rfl
@[simp] theorem isBor_idx {a : C} {b : C} : C.isBor (.idx a b : C) = false := rfl
@[simp] theorem isP_slice {a : C} {b : C} {c : C} : C.isP (.slice a b c : C) = false := rfl
@[simp] theorem isBor_slice {a : C} {b : C} {c : C} : C.isBor (.slice a b c : C) = false := rfl
@[simp] theorem isP_comp {m : M} {ow : List (Str × Nat)} {t : C} {s : C} {c : C} {e : C} : C.isP (.comp m ow t s c e : C) = false := rfl
@[simp] theorem isBor_comp {m : M} {ow : List (Str × Nat)} {t : C} {s : C} {c : C} {e : C} : C.isBor (.comp m ow t s c e : C) = false := rfl
@[simp] theorem isP_call {j : Nat} {a : C} : C.isP (.call j a : C) = false := rfl
@[simp] theorem isBor_call {j : Nat} {a : C} : C.isBor (.call j a : C) = false := rfl
@[simp] theorem isP_b1 {f : B1} {a : C} : C.isP (.b1 f a : C) = false := rfl
@[simp] theorem isBor_b1 {f : B1} {a : C} : C.isBor (.b1 f a : C) = false := rfl
@[simp] theorem isP_max2 {a : C} {b : C} : C.isP (.max2 a b : C) = false := rfl
@[simp] theorem isBor_max2 {a : C} {b : C} : C.isBor (.max2 a b : C) = false := rfl
@[simp] theorem isP_min2 {a : C} {b : C} : C.isP (.min2 a b : C) = false := rfl
@[simp] theorem isBor_min2 {a : C} {b : C} : C.isBor (.min2 a b : C) = false := rfl
@[simp] theorem isP_lrange {a : C} : C.isP (.lrange a : C) = false := rfl
@[simp] theorem isBor_lrange {a : C} : C.isBor (.lrange a : C) = false := rfl
@[simp] theorem isP_app {a : C} {b : C} : C.isP (.app a b : C) = false := rfl
@[simp] theorem isBor_app {a : C} {b : C} : C.isBor (.app a b : C) = false := rfl
@[simp] theorem isP_pop {a : C} : C.isP (.pop a : C) = false := rfl
@[simp] theorem isBor_pop {a : C} : C.isBor (.pop a : C) = false := rfl
@[simp] theorem isP_popAt {a : C} {b : C} : C.isP (.popAt a b : C) = false := rfl
@[simp] theorem isBor_popAt {a : C} {b : C} : C.isBor (.popAt a b : C) = false := rfl
@[simp] theorem isP_ext {a : C} {b : C} : C.isP (.ext a b : C) = false := rfl
@[simp] theorem isBor_ext {a : C} {b : C} : C.isBor (.ext a b : C) = false := rfl
@[simp] theorem isP_index {a : C} {b : C} : C.isP (.index a b : C) = false := rfl
@[simp] theorem isBor_index {a : C} {b : C} : C.isBor (.index a b : C) = false := rfl
@[simp] theorem isP_nil  : C.isP (.nil  : C) = false := rfl
@[simp] theorem isBor_nil  : C.isBor (.nil  : C) = false := rfl
@[simp] theorem isP_cons {a : C} {b : C} : C.isP (.cons a b : C) = false := rfl
@[simp] theorem isBor_cons {a : C} {b : C} : C.isBor (.cons a b : C) = false := rfl
@[simp] theorem isP_bor {i : Nat} : C.isP (.bor i) = true := rfl
@[simp] theorem isBor_bor {i : Nat} : C.isBor (.bor i) = true := rfl
@[simp] theorem isP_bidx {p e : C} : C.isP (.bidx p e) = true := rfl
@[simp] theorem isBor_bidx {p e : C} : C.isBor (.bidx p e) = false := rfl
@[simp] theorem root_bor {i : Nat} : C.root (.bor i) = i := rfl
@[simp] theorem root_bidx {p e : C} : C.root (.bidx p e) = p.root := rfl
@[simp] theorem len_cons {p e : C} : C.len (.cons p e) = e.len + 1 := rfl
@[simp] theorem len_nil : C.len .nil = 0 := rfl
@[simp] theorem isP_bfld {p : C} {f : Str} : C.isP (.bfld p f) = true := rfl
@[simp] theorem isBor_bfld {p : C} {f : Str} : C.isBor (.bfld p f) = false := rfl
@[simp] theorem root_bfld {p : C} {f : Str} : C.root (.bfld p f) = p.root := rfl
@[simp] theorem isP_gint {x : Str} {i : Int} : C.isP (.gint x i) = false := rfl
@[simp] theorem isBor_gint {x : Str} {i : Int} : C.isBor (.gint x i) = false := rfl
@[simp] theorem isP_prop {c f : Str} {j : Nat} {o : C} : C.isP (.prop c f j o) = false := rfl
@[simp] theorem isBor_prop {c f : Str} {j : Nat} {o : C} : C.isBor (.prop c f j o) = false := rfl
@[simp] theorem isP_rev {b : C} : C.isP (.rev b) = false := rfl
@[simp] theorem isBor_rev {b : C} : C.isBor (.rev b) = false := rfl
@[simp] theorem isP_isT {t : Ty5} {b : C} : C.isP (.isT t b) = false := rfl
@[simp] theorem isBor_isT {t : Ty5} {b : C} : C.isBor (.isT t b) = false := rfl
@[simp] theorem isP_isb {e : C} : C.isP (.isb e) = false := rfl
@[simp] theorem isBor_isb {e : C} : C.isBor (.isb e) = false := rfl
@[simp] theorem isP_fld {e : C} {f : Str} : C.isP (.fld e f) = false := rfl
@[simp] theorem isBor_fld {e : C} {f : Str} : C.isBor (.fld e f) = false := rfl
@[simp] theorem isP_meth {c m : Str} {j : Nat} {o e : C} : C.isP (.meth c m j o e) = false := rfl
@[simp] theorem isBor_meth {c m : Str} {j : Nat} {o e : C} : C.isBor (.meth c m j o e) = false := rfl
@[simp] theorem isP_make {c : Str} {j : Nat} {e : C} : C.isP (.make c j e) = false := rfl
@[simp] theorem isBor_make {c : Str} {j : Nat} {e : C} : C.isBor (.make c j e) = false := rfl
@[simp] theorem isBl_b {b : Bool} : isBl (.bl b) = true := rfl
@[simp] theorem flat_b {b : Bool} : D.flat (.bl b) = true := rfl
@[simp] theorem flat_i {i : Int} : D.flat (.int i) = true := rfl
@[simp] theorem flat_n : D.flat .non = true := rfl
@[simp] theorem isN_n : isN .non = true := rfl
@[simp] theorem isN_i {i : Int} : isN (.int i) = false := rfl
@[simp] theorem cst_ss {m : M} : cst m .s = true := rfl
@[simp] theorem cst_refl {m : M} : cst m m = true := by
  cases m <;> first | rfl | exact decide_eq_true rfl
@[simp] theorem upd1_n {ρ : Env} {ds : List D} {ms : List M} : upd1 ρ [] ms ds = ρ := by cases ms <;> cases ds <;> rfl
@[simp] theorem upd1_a {ρ : Env} {i : Nat} {rs : List (Option Nat)} {m : M} {ms : List M} {d : D} {ds : List D} : upd1 ρ (some i :: rs) (m :: ms) (d :: ds) = (upd1 ρ rs ms ds).set i (some (m, d)) := rfl
@[simp] theorem upd1_b {ρ : Env} {rs : List (Option Nat)} {m : M} {ms : List M} {d : D} {ds : List D} : upd1 ρ (none :: rs) (m :: ms) (d :: ds) = upd1 ρ rs ms ds := rfl
@[simp] theorem ownIx_n {i : Nat} : ownIx i [] = [] := rfl
@[simp] theorem ownIx_s {i : Nat} {ms : List M} : ownIx i (.s :: ms) = ownIx (i + 1) ms := rfl
@[simp] theorem ownIx_o {i : Nat} {m : M} {ms : List M} : ownIx i (.o m :: ms) = i :: ownIx (i + 1) ms := rfl
theorem ixN_nat {n k : Nat} (h : k < n) : ixN n (k : Int) = some k := by
  unfold ixN
  rw [if_pos (by omega), if_pos (by omega), Int.toNat_natCast]
theorem ixN_int {n : Nat} {i : Int} (h0 : 0 ≤ i) (h : i < n) : ixN n i = some i.toNat := by
  unfold ixN
  rw [if_pos h0, if_pos h]
theorem atI_nat {α : Type} {xs : List α} {k : Nat} (h : k < xs.length) : atI xs (k : Int) = some xs[k] := by
  unfold atI
  rw [ixN_nat h]
  exact List.getElem?_eq_getElem h
theorem atI_int {α : Type} {xs : List α} {i : Int} (h0 : 0 ≤ i) (h : i < xs.length) : atI xs i = xs[i.toNat]? := by
  unfold atI
  rw [ixN_int h0 h]
  rfl
@[simp] theorem ixN_1_0 : ixN 1 0 = some 0 := rfl
@[simp] theorem ixN_1_m : ixN 1 (-1) = some 0 := rfl
@[simp] theorem ixN_2_0 : ixN 2 0 = some 0 := rfl
@[simp] theorem ixN_2_1 : ixN 2 1 = some 1 := rfl
@[simp] theorem ixN_2_m : ixN 2 (-1) = some 1 := rfl
@[simp] theorem ixN_3_0 : ixN 3 0 = some 0 := rfl
@[simp] theorem ixN_3_1 : ixN 3 1 = some 1 := rfl
@[simp] theorem ixN_3_2 : ixN 3 2 = some 2 := rfl
@[simp] theorem ixN_3_m : ixN 3 (-1) = some 2 := rfl
@[simp] theorem ixN_4_0 : ixN 4 0 = some 0 := rfl
@[simp] theorem ixN_4_1 : ixN 4 1 = some 1 := rfl
@[simp] theorem ixN_4_2 : ixN 4 2 = some 2 := rfl
@[simp] theorem ixN_4_3 : ixN 4 3 = some 3 := rfl
@[simp] theorem ixN_4_m : ixN 4 (-1) = some 3 := rfl
@[simp] theorem ixN_5_0 : ixN 5 0 = some 0 := rfl
@[simp] theorem ixN_5_1 : ixN 5 1 = some 1 := rfl
@[simp] theorem ixN_5_2 : ixN 5 2 = some 2 := rfl
@[simp] theorem ixN_5_3 : ixN 5 3 = some 3 := rfl
@[simp] theorem ixN_5_4 : ixN 5 4 = some 4 := rfl
@[simp] theorem ixN_5_m : ixN 5 (-1) = some 4 := rfl
@[simp] theorem ixN_6_0 : ixN 6 0 = some 0 := rfl
@[simp] theorem ixN_6_1 : ixN 6 1 = some 1 := rfl
@[simp] theorem ixN_6_2 : ixN 6 2 = some 2 := rfl
@[simp] theorem ixN_6_3 : ixN 6 3 = some 3 := rfl
@[simp] theorem ixN_6_4 : ixN 6 4 = some 4 := rfl
@[simp] theorem ixN_6_5 : ixN 6 5 = some 5 := rfl
@[simp] theorem ixN_6_m : ixN 6 (-1) = some 5 := rfl
@[simp] theorem atI_1_0 {α : Type} {x : α} : atI [x] 0 = some x := rfl
@[simp] theorem atI_2_0 {α : Type} {x y : α} : atI [x, y] 0 = some x := rfl
@[simp] theorem atI_2_1 {α : Type} {x y : α} : atI [x, y] 1 = some y := rfl
@[simp] theorem atI_3_0 {α : Type} {x y z : α} : atI [x, y, z] 0 = some x := rfl
@[simp] theorem atI_3_1 {α : Type} {x y z : α} : atI [x, y, z] 1 = some y := rfl
@[simp] theorem atI_3_2 {α : Type} {x y z : α} : atI [x, y, z] 2 = some z := rfl
@[simp] theorem atI_4_0 {α : Type} {x y z u : α} : atI [x, y, z, u] 0 = some x := rfl
@[simp] theorem atI_4_1 {α : Type} {x y z u : α} : atI [x, y, z, u] 1 = some y := rfl
@[simp] theorem atI_4_2 {α : Type} {x y z u : α} : atI [x, y, z, u] 2 = some z := rfl
@[simp] theorem atI_4_3 {α : Type} {x y z u : α} : atI [x, y, z, u] 3 = some u := rfl
@[simp] theorem atI_5_0 {α : Type} {x y z u v : α} : atI [x, y, z, u, v] 0 = some x := rfl
@[simp] theorem atI_5_1 {α : Type} {x y z u v : α} : atI [x, y, z, u, v] 1 = some y := rfl
@[simp] theorem atI_5_2 {α : Type} {x y z u v : α} : atI [x, y, z, u, v] 2 = some z := rfl
@[simp] theorem atI_5_3 {α : Type} {x y z u v : α} : atI [x, y, z, u, v] 3 = some u := rfl
@[simp] theorem atI_5_4 {α : Type} {x y z u v : α} : atI [x, y, z, u, v] 4 = some v := rfl
theorem seqIx {n k : Nat} (h : k < n) : seqIndex? (k : Int) n = some k := by
  unfold seqIndex?
  simp only [show ¬ ((k : Int) < 0) by omega, if_false, show (0 : Int) ≤ k by omega, show ((k : Int) < (n : Int)) by omega, decide_true, Bool.and_self, if_true, Int.toNat_natCast]
theorem wD_of {T : List FSpec} {sp : FSpec} {c : C} {n : Nat} (h : ∀ ds R, sp.run ds R → wS T (ownIx 0 sp.pm) c ⟨fin sp R .s .non, fin sp R, fun _ => False, fun _ => False⟩ (initE n sp.pm ds)) : wD T sp c n := fun ds R _ q => h ds R q
/-- a for loop -/
theorem wS_for {T : List FSpec} {pn : List Nat} {tgt src body : C} {nx : Env → Prop} {rt : M → D → Env → Prop} {bk ct : Env → Prop} {ρ : Env} (h : wI T pn src (fun items ρ1 => ∃ Inv : Nat → Env → Prop, Inv 0 ρ1 ∧
      (∀ k x ρ2, items[k]? = some x → Inv k ρ2 → wG T pn tgt x (fun ρ3 => wS T pn body ⟨Inv (k + 1), rt, nx, Inv (k + 1)⟩ ρ3) ρ2) ∧ ∀ ρ2, Inv items.length ρ2 → nx ρ2) ρ) : wS T pn (.for_ tgt src body) ⟨nx, rt, bk, ct⟩ ρ := h
end Y
namespace Y
open PySem PySem.Spec PyProof.Rows L2

/-! ### loops and comprehensions -/
theorem rng_get {lo : Int} {n k : Nat} {x : D} (h : (rangeD lo 1 n)[k]? = some x) : k < n ∧ x = .int (lo + k) := by
  unfold rangeD at h
  rw [List.getElem?_map] at h
  cases q : (List.range n)[k]? with
  | none =>
    rw [q] at h
    cases h
  | some z =>
    rw [q] at h
    cases h
    obtain ⟨h1, h2⟩ := List.getElem?_eq_some_iff.mp q
    rw [List.length_range] at h1
    rw [List.getElem_range] at h2
    subst h2
    exact ⟨h1, by show D.int (lo + (k : Nat) * 1) = _; rw [Int.mul_one]⟩
theorem rng_len {lo c : Int} {n : Nat} : (rangeD lo c n).length = n := by
  unfold rangeD
  rw [List.length_map, List.length_range]
theorem rng0 {n : Nat} : rangeD 0 1 n = (List.range n).map fun i => D.int (i : Nat) := by
  unfold rangeD
  refine List.map_congr_left fun i _ => ?_
  show D.int (0 + (i : Nat) * 1) = _
  rw [Int.mul_one, Int.zero_add]
theorem rng1 {a n : Nat} : rangeD (a : Int) 1 n = (List.range n).map fun i => D.int ((a + i : Nat) : Int) := by
  unfold rangeD
  refine List.map_congr_left fun i _ => ?_
  show D.int ((a : Int) + (i : Nat) * 1) = _
  rw [Int.mul_one, Int.natCast_add]
section
variable {T : List FSpec} {pn : List Nat} {body a b e elt cond src tgt : C} {nx : Env → Prop} {rt : M → D → Env → Prop} {bk ct : Env → Prop} {ρ : Env} {i : Nat} {m : M}
theorem wS_rng1 (Inv : Nat → Env → Prop) {n : Nat} (ha : ∀ R : M → D → Env → Prop, R .s (.int n) ρ → wE T pn a R ρ) (hn : n < 2 ^ 62) (hi : i ∉ pn) (h0 : Inv 0 ρ)
    (hs : ∀ k ρ2, k < n → Inv k ρ2 → wS T pn body ⟨Inv (k + 1), rt, nx, Inv (k + 1)⟩ (ρ2.set i (some (.s, .int k)))) (he : ∀ ρ2, Inv n ρ2 → nx ρ2) :
    wS T pn (.for_ (.tn i) (.rng1 a) body) ⟨nx, rt, bk, ct⟩ ρ := by
  refine wS_for ?_
  rw [x_Irng1]
  refine ha _ ?_
  refine ⟨by omega, by omega, Inv, h0, fun k x ρ2 hx hI => ?_, fun ρ2 hI => he ρ2 ?_⟩
  · rw [Int.toNat_natCast] at hx
    obtain ⟨h1, rfl⟩ := rng_get hx
    rw [x_Gn, Int.zero_add]
    exact ⟨hi, hs k ρ2 h1 hI⟩
  · rw [rng_len, Int.toNat_natCast] at hI
    exact hI
theorem wS_rng2 (Inv : Nat → Env → Prop) {lo n : Nat} (ha : ∀ R : M → D → Env → Prop, R .s (.int lo) ρ → wE T pn a R ρ) (hb : ∀ R : M → D → Env → Prop, R .s (.int n) ρ → wE T pn b R ρ) (hl : lo < 2 ^ 62) (hn : n < 2 ^ 62) (hi : i ∉ pn) (h0 : Inv lo ρ)
    (hs : ∀ k ρ2, lo ≤ k → k < n → Inv k ρ2 → wS T pn body ⟨Inv (k + 1), rt, nx, Inv (k + 1)⟩ (ρ2.set i (some (.s, .int k)))) (he : ∀ k ρ2, n ≤ k → (lo ≤ n → k = n) → Inv k ρ2 → nx ρ2) :
    wS T pn (.for_ (.tn i) (.rng2 a b) body) ⟨nx, rt, bk, ct⟩ ρ := by
  refine wS_for ?_
  rw [x_Irng2]
  refine ha _ (hb _ ?_)
  refine ⟨⟨by omega, by omega, by omega, by omega⟩, fun k => Inv (lo + k), h0, fun k x ρ2 hx hI => ?_, fun ρ2 hI => he _ ρ2 ?_ ?_ hI⟩
  · obtain ⟨h1, rfl⟩ := rng_get hx
    rw [x_Gn]
    refine ⟨hi, ?_⟩
    have := hs (lo + k) ρ2 (by omega) (by omega) hI
    rw [Int.natCast_add] at this
    exact this
  · rw [rng_len]
    omega
  · rw [rng_len]
    omega
theorem wS_itr (Inv : Nat → Env → Prop) {xs : List D} {mx : M} {x : D} (hx : x = .lst xs ∨ x = .tup xs) (ha : ∀ R : M → D → Env → Prop, R mx x ρ → wE T pn e R ρ) (h0 : Inv 0 ρ)
    (hs : ∀ k x ρ2, xs[k]? = some x → Inv k ρ2 → wG T pn tgt x (fun ρ3 => wS T pn body ⟨Inv (k + 1), rt, nx, Inv (k + 1)⟩ ρ3) ρ2) (he : ∀ ρ2, Inv xs.length ρ2 → nx ρ2) :
    wS T pn (.for_ tgt (.itr e) body) ⟨nx, rt, bk, ct⟩ ρ := by
  refine wS_for ?_
  rw [x_Iitr]
  refine ha _ ?_
  rcases hx with rfl | rfl
  · exact ⟨Inv, h0, hs, he⟩
  · exact ⟨Inv, h0, hs, he⟩

/-! comprehensions -/
theorem wE_comp {own : List (Str × Nat)} {R : M → D → Env → Prop} (h : wI T pn src (fun items ρ1 => (∀ v ∈ own.map (·.2), v ∉ pn) ∧ ∃ Inv : Nat → List D → Env → Prop, Inv 0 [] (wipeE ρ1 (own.map (·.2))) ∧
      (∀ k x acc ρ2, items[k]? = some x → Inv k acc (wipeE ρ2 (own.map (·.2))) → wG T pn tgt x (fun ρ3 => wC T pn cond (fun b ρ4 => if b = true then wE T pn elt (fun m' d ρ5 => cst m' m = true ∧ acc.length < sizeLine ∧ Inv (k + 1) (acc ++ [d]) (wipeE ρ5 (own.map (·.2)))) ρ4 else Inv (k + 1) acc (wipeE ρ4 (own.map (·.2)))) ρ3) (wipeE ρ2 (own.map (·.2)))) ∧
      ∀ acc ρ2, Inv items.length acc (wipeE ρ2 (own.map (·.2))) → R (.o m) (.lst acc) (backE ρ2 ρ1 (own.map (·.2)))) ρ) : wE T pn (.comp m own tgt src cond elt) R ρ := by
  unfold wE
  exact h
theorem wipe_get : ∀ {vs : List Nat} {ρ : Env} {j : Nat}, (wipeE ρ vs)[j]? = if j ∈ vs then (ρ[j]?).map fun _ => none else ρ[j]?
  | [], ρ, j => by
    show ρ[j]? = _
    rw [if_neg (by simp)]
  | v :: vs, ρ, j => by
    show ((wipeE ρ vs).set v none)[j]? = _
    rw [List.getElem?_set]
    have ih := wipe_get (vs := vs) (ρ := ρ) (j := j)
    have hl : (wipeE ρ vs).length = ρ.length := by
      have := wipe_len vs ρ
      exact this
    by_cases h : v = j
    · subst h
      rw [if_pos rfl, if_pos (List.mem_cons_self ..), hl]
      by_cases h2 : v < ρ.length
      · rw [if_pos h2, List.getElem?_eq_getElem h2]
        rfl
      · rw [if_neg h2, List.getElem?_eq_none (by omega)]
        rfl
    · rw [if_neg h, ih]
      by_cases h2 : j ∈ vs
      · rw [if_pos h2, if_pos (List.mem_cons_of_mem _ h2)]
      · rw [if_neg h2, if_neg (by intro z; rcases List.mem_cons.mp z with z | z; exact h z.symm; exact h2 z)]
where wipe_len : ∀ (vs : List Nat) (ρ : Env), (wipeE ρ vs).length = ρ.length
  | [], ρ => rfl
  | v :: vs, ρ => by
    show ((wipeE ρ vs).set v none).length = _
    rw [List.length_set, wipe_len vs ρ]
theorem back_get : ∀ {vs : List Nat} {ρ ρ0 : Env} {j : Nat}, (backE ρ ρ0 vs)[j]? = if j ∈ vs then (ρ[j]?).map fun _ => ρ0.at j else ρ[j]?
  | [], ρ, ρ0, j => by
    show ρ[j]? = _
    rw [if_neg (by simp)]
  | v :: vs, ρ, ρ0, j => by
    show ((backE ρ ρ0 vs).set v _)[j]? = _
    rw [List.getElem?_set]
    have ih := back_get (vs := vs) (ρ := ρ) (ρ0 := ρ0) (j := j)
    have hl : (backE ρ ρ0 vs).length = ρ.length := back_len vs ρ ρ0
    by_cases h : v = j
    · subst h
      rw [if_pos rfl, if_pos (List.mem_cons_self ..), hl]
      by_cases h2 : v < ρ.length
      · rw [if_pos h2, List.getElem?_eq_getElem h2]
        rfl
      · rw [if_neg h2, List.getElem?_eq_none (by omega)]
        rfl
    · rw [if_neg h, ih]
      by_cases h2 : j ∈ vs
      · rw [if_pos h2, if_pos (List.mem_cons_of_mem _ h2)]
      · rw [if_neg h2, if_neg (by intro z; rcases List.mem_cons.mp z with z | z; exact h z.symm; exact h2 z)]
where back_len : ∀ (vs : List Nat) (ρ ρ0 : Env), (backE ρ ρ0 vs).length = ρ.length
  | [], ρ, ρ0 => rfl
  | v :: vs, ρ, ρ0 => by
    show ((backE ρ ρ0 vs).set v _).length = _
    rw [List.length_set, back_len vs ρ ρ0]
theorem back_wipe {vs : List Nat} {ρ ρ0 : Env} (h : wipeE ρ vs = wipeE ρ0 vs) : backE ρ ρ0 vs = ρ0 := by
  refine List.ext_getElem? fun j => ?_
  have q : (wipeE ρ vs)[j]? = (wipeE ρ0 vs)[j]? := by rw [h]
  rw [wipe_get, wipe_get] at q
  rw [back_get]
  by_cases hj : j ∈ vs
  · rw [if_pos hj, if_pos hj] at q
    rw [if_pos hj]
    cases q1 : ρ[j]? with
    | none =>
      rw [q1] at q
      cases q2 : ρ0[j]? with
      | none => rfl
      | some z =>
        rw [q2] at q
        cases q
    | some y =>
      rw [q1] at q
      cases q2 : ρ0[j]? with
      | none =>
        rw [q2] at q
        cases q
      | some z =>
        show some (Env.at ρ0 j) = some z
        unfold Env.at
        rw [q2]
        rfl
  · rw [if_neg hj, if_neg hj] at q
    rw [if_neg hj]
    exact q
theorem filter_take {α : Type} {p : α → Bool} {xs : List α} {k : Nat} {x : α} (h : xs[k]? = some x) : (xs.take (k + 1)).filter p = (xs.take k).filter p ++ if p x = true then [x] else [] := by
  obtain ⟨h1, h2⟩ := List.getElem?_eq_some_iff.mp h
  rw [List.take_succ, h, List.filter_append]
  congr 1
  show List.filter p [x] = _
  rw [List.filter_cons]
  rfl
/-- a comprehension that changes nothing -/
theorem wE_compP {own : List (Str × Nat)} {R : M → D → Env → Prop} (items : List D) (p : D → Bool) (f : D → D) (g : D → Env) (hI : ∀ R : List D → Env → Prop, R items ρ → wI T pn src R ρ) (ho : ∀ v ∈ own.map (·.2), v ∉ pn) (hl : items.length ≤ sizeLine)
    (hg : ∀ x ∈ items, ∀ R : Env → Prop, R (g x) → wG T pn tgt x R (wipeE ρ (own.map (·.2)))) (hc : ∀ x ∈ items, ∀ Q : Bool → Env → Prop, Q (p x) (g x) → wC T pn cond Q (g x))
    (he : ∀ x ∈ items, p x = true → ∀ R : M → D → Env → Prop, (∀ m', cst m' m = true → R m' (f x) (g x)) → wE T pn elt R (g x)) (hw : ∀ x ∈ items, wipeE (g x) (own.map (·.2)) = wipeE ρ (own.map (·.2)))
    (h : R (.o m) (.lst ((items.filter p).map f)) ρ) : wE T pn (.comp m own tgt src cond elt) R ρ := by
  refine wE_comp (hI _ ⟨ho, fun k acc ρ' => acc = ((items.take k).filter p).map f ∧ ρ' = wipeE ρ (own.map (·.2)), ⟨rfl, rfl⟩, fun k x acc ρ2 hx hI => ?_, fun acc ρ2 hI => ?_⟩)
  · obtain ⟨h1, h2⟩ := hI
    have hm := List.mem_of_getElem? hx
    rw [h2]
    refine hg x hm _ (hc x hm _ ?_)
    have ft := filter_take (p := p) hx
    by_cases hp : p x = true
    · rw [if_pos hp]
      refine he x hm hp _ fun m' hm' => ⟨hm', ?_, ?_, hw x hm⟩
      · obtain ⟨hk, _⟩ := List.getElem?_eq_some_iff.mp hx
        rw [h1, List.length_map]
        have := List.length_filter_le p (items.take k)
        rw [List.length_take] at this
        omega
      · rw [ft, if_pos hp, List.map_append, h1]
        rfl
    · rw [if_neg hp]
      refine ⟨?_, hw x hm⟩
      rw [ft, if_neg hp, List.append_nil]
      exact h1
  · obtain ⟨h1, h2⟩ := hI
    rw [back_wipe h2, h1, List.take_length]
    exact h
/-- over range(n), one name -/
theorem wE_compR {s : Str} {R : M → D → Env → Prop} {n : Nat} (p : Nat → Bool) (f : Nat → D) (ha : ∀ R : M → D → Env → Prop, R .s (.int n) ρ → wE T pn a R ρ) (hn : n ≤ sizeLine) (hi : i ∉ pn) (hl : i < ρ.length)
    (hc : ∀ k, k < n → ∀ Q : Bool → Env → Prop, Q (p k) (ρ.set i (some (.s, .int k))) → wC T pn cond Q (ρ.set i (some (.s, .int k))))
    (he : ∀ k, k < n → p k = true → ∀ R : M → D → Env → Prop, (∀ m', cst m' m = true → R m' (f k) (ρ.set i (some (.s, .int k)))) → wE T pn elt R (ρ.set i (some (.s, .int k))))
    (h : R (.o m) (.lst (((List.range n).filter p).map f)) ρ) : wE T pn (.comp m [(s, i)] (.tn i) (.rng1 a) cond elt) R ρ := by
  have wset : ∀ v, (wipeE ρ [i]).set i v = ρ.set i v := fun v => by
    show ((ρ.set i none).set i v) = _
    rw [List.set_set]
  have key : ∀ x, x ∈ rangeD 0 1 n → ∃ k, k < n ∧ x = .int (k : Nat) := fun x hx => by
    rw [rng0] at hx
    obtain ⟨k, h1, h2⟩ := List.mem_map.mp hx
    exact ⟨k, List.mem_range.mp h1, h2.symm⟩
  let nat : D → Nat := fun x => match x with | .int i => i.toNat | _ => 0
  refine wE_compP (own := [(s, i)]) (rangeD 0 1 n) (fun x => p (nat x)) (fun x => f (nat x)) (fun x => ρ.set i (some (.s, x))) (fun R hR => ?_) (fun v hv => ?_) ?_ (fun x hx R hR => ?_) (fun x hx Q hQ => ?_) (fun x hx hp R hR => ?_) (fun x hx => ?_) ?_
  · rw [x_Irng1]
    refine ha _ ?_
    have : (n : Int) < 2 ^ 62 := Int.lt_of_le_of_lt (Int.ofNat_le.mpr hn) (by decide)
    exact ⟨by omega, this, hR⟩
  · have : v = i := by simpa using hv
    rw [this]
    exact hi
  · rw [rng_len]
    exact hn
  · rw [x_Gn]
    exact ⟨hi, by rw [show ([(s, i)].map (·.2)) = [i] from rfl, wset]; exact hR⟩
  · obtain ⟨k, hk, rfl⟩ := key x hx
    exact hc k hk Q hQ
  · obtain ⟨k, hk, rfl⟩ := key x hx
    exact he k hk hp R hR
  · show (ρ.set i _).set i none = ρ.set i none
    rw [List.set_set]
  · rw [rng0, List.filter_map, List.map_map]
    exact h
/-- the same without a test -/
theorem wE_compR0 {s : Str} {R : M → D → Env → Prop} {n : Nat} (f : Nat → D) (ha : ∀ R : M → D → Env → Prop, R .s (.int n) ρ → wE T pn a R ρ) (hn : n ≤ sizeLine) (hi : i ∉ pn) (hl : i < ρ.length)
    (he : ∀ k, k < n → ∀ R : M → D → Env → Prop, (∀ m', cst m' m = true → R m' (f k) (ρ.set i (some (.s, .int k)))) → wE T pn elt R (ρ.set i (some (.s, .int k))))
    (h : R (.o m) (.lst ((List.range n).map f)) ρ) : wE T pn (.comp m [(s, i)] (.tn i) (.rng1 a) .nil elt) R ρ :=
  wE_compR (fun _ => true) f ha hn hi hl (fun k hk Q hQ => by rw [x_Cn]; exact hQ) (fun k hk _ => he k hk) (by rw [List.filter_eq_self.mpr (fun _ _ => rfl)]; exact h)
theorem erase_perm {α : Type} {xs : List α} {r : Nat} (h : r < xs.length) : (xs[r] :: xs.eraseIdx r).Perm xs := by
  have e : xs.take r ++ xs[r] :: xs.drop (r + 1) = xs := by
    rw [← List.drop_eq_getElem_cons h, List.take_append_drop]
  rw [List.eraseIdx_eq_take_drop_succ]
  exact (List.perm_middle (l₁ := xs.take r) (a := xs[r]) (l₂ := xs.drop (r + 1))).symm.trans (by rw [e])
/-- over a list of things, however they are held -/
theorem wE_compA {α : Type} {own : List (Str × Nat)} {R : M → D → Env → Prop} (xs : List α) (w : α → D) (p : α → Bool) (f : α → D) (g : α → Env) (hI : ∀ R : List D → Env → Prop, R (xs.map w) ρ → wI T pn src R ρ) (ho : ∀ v ∈ own.map (·.2), v ∉ pn) (hl : xs.length ≤ sizeLine)
    (hg : ∀ x ∈ xs, ∀ R : Env → Prop, R (g x) → wG T pn tgt (w x) R (wipeE ρ (own.map (·.2)))) (hc : ∀ x ∈ xs, ∀ Q : Bool → Env → Prop, Q (p x) (g x) → wC T pn cond Q (g x))
    (he : ∀ x ∈ xs, p x = true → ∀ R : M → D → Env → Prop, (∀ m', cst m' m = true → R m' (f x) (g x)) → wE T pn elt R (g x)) (hw : ∀ x ∈ xs, wipeE (g x) (own.map (·.2)) = wipeE ρ (own.map (·.2)))
    (h : R (.o m) (.lst ((xs.filter p).map f)) ρ) : wE T pn (.comp m own tgt src cond elt) R ρ := by
  refine wE_comp (hI _ ⟨ho, fun k acc ρ' => acc = ((xs.take k).filter p).map f ∧ ρ' = wipeE ρ (own.map (·.2)), ⟨rfl, rfl⟩, fun k d acc ρ2 hx hI => ?_, fun acc ρ2 hI => ?_⟩)
  · obtain ⟨h1, h2⟩ := hI
    rw [List.getElem?_map] at hx
    cases hq : xs[k]? with
    | none =>
      rw [hq] at hx
      cases hx
    | some x =>
      rw [hq] at hx
      cases hx
      have hm := List.mem_of_getElem? hq
      rw [h2]
      refine hg x hm _ (hc x hm _ ?_)
      have ft := filter_take (p := p) hq
      by_cases hp : p x = true
      · rw [if_pos hp]
        refine he x hm hp _ fun m' hm' => ⟨hm', ?_, ?_, hw x hm⟩
        · obtain ⟨hk, _⟩ := List.getElem?_eq_some_iff.mp hq
          rw [h1, List.length_map]
          have := List.length_filter_le p (xs.take k)
          rw [List.length_take] at this
          omega
        · rw [ft, if_pos hp, List.map_append, h1]
          rfl
      · rw [if_neg hp]
        refine ⟨?_, hw x hm⟩
        rw [ft, if_neg hp, List.append_nil]
        exact h1
  · obtain ⟨h1, h2⟩ := hI
    rw [back_wipe h2, h1, List.length_map, List.take_length]
    exact h
/-- one name -/
theorem wE_compL {α : Type} {s : Str} {R : M → D → Env → Prop} (xs : List α) (w : α → D) (p : α → Bool) (f : α → D) {mx : M} {dx : D} (hd : dx = .lst (xs.map w) ∨ dx = .tup (xs.map w)) (hI : ∀ R : M → D → Env → Prop, R mx dx ρ → wE T pn e R ρ) (hi : i ∉ pn) (hl : xs.length ≤ sizeLine)
    (hc : ∀ x ∈ xs, ∀ Q : Bool → Env → Prop, Q (p x) (ρ.set i (some (.s, w x))) → wC T pn cond Q (ρ.set i (some (.s, w x))))
    (he : ∀ x ∈ xs, p x = true → ∀ R : M → D → Env → Prop, (∀ m', cst m' m = true → R m' (f x) (ρ.set i (some (.s, w x)))) → wE T pn elt R (ρ.set i (some (.s, w x))))
    (h : R (.o m) (.lst ((xs.filter p).map f)) ρ) : wE T pn (.comp m [(s, i)] (.tn i) (.itr e) cond elt) R ρ := by
  refine wE_compA (own := [(s, i)]) xs w p f (fun x => ρ.set i (some (.s, w x))) (fun R hR => ?_) (fun v hv => ?_) hl (fun x hx R hR => ?_) hc he (fun x hx => ?_) h
  · rw [x_Iitr]
    refine hI _ ?_
    rcases hd with rfl | rfl
    · exact hR
    · exact hR
  · have : v = i := by simpa using hv
    rw [this]
    exact hi
  · rw [x_Gn]
    refine ⟨hi, ?_⟩
    show R ((ρ.set i none).set i _)
    rw [List.set_set]
    exact hR
  · show (ρ.set i _).set i none = ρ.set i none
    rw [List.set_set]
end
/-! ### dicts -/
@[simp] theorem x_kdi {ks : List Key} {ds : List D} {i : Int} {k : D → Prop} : itemD (.dk ks ds) (.int i) k = ∃ d, dAt ks ds (.inl i) = some d ∧ k d := by
  refine propext ⟨fun h => ?_, fun ⟨d, h1, h2⟩ => ⟨_, d, rfl, h1, h2⟩⟩
  obtain ⟨key, d, h1, h2, h3⟩ := h
  cases h1
  exact ⟨d, h2, h3⟩
theorem dAt_at : ∀ {ks : List Key} {ds : List D} {key : Key} {n : Nat} {d : D}, ks.Nodup → ks[n]? = some key → ds[n]? = some d → dAt ks ds key = some d
  | [], ds, key, n, d, h, h1, h2 => by simp at h1
  | k :: ks, [], key, n, d, h, h1, h2 => by simp at h2
  | k :: ks, d0 :: ds, key, 0, d, h, h1, h2 => by
    simp at h1 h2
    subst h1
    subst h2
    unfold dAt
    rw [if_pos rfl]
  | k :: ks, d0 :: ds, key, n + 1, d, h, h1, h2 => by
    rw [List.nodup_cons] at h
    simp at h1 h2
    unfold dAt
    rw [if_neg fun z => h.1 (by rw [z]; exact List.mem_of_getElem? h1)]
    exact dAt_at h.2 h1 h2
section
variable {T : List FSpec} {pn : List Nat} {ρ : Env} {e ky va : C} {i j : Nat}
/-- a dict of the items' places -/
theorem wE_dcompEnum {s1 s2 : Str} {R : M → D → Env → Prop} (ns : List Int) (hn : ns.Nodup) {mx : M} {dx : D} (hd : dx = .lst (ns.map D.int) ∨ dx = .tup (ns.map D.int)) (hI : ∀ R : M → D → Env → Prop, R mx dx ρ → wE T pn e R ρ) (hi : i ∉ pn) (hj : j ∉ pn) (hij : i ≠ j) (hli : i < ρ.length) (hlj : j < ρ.length) (hl : ns.length ≤ sizeLine)
    (h : R .dk (.dk (ns.map Sum.inl) ((List.range ns.length).map fun a => .int (a : Nat))) ρ) : wE T pn (.dcomp [(s1, i), (s2, j)] (.tt (.cons (.tn i) (.cons (.tn j) .nil))) (.enum e) .nil (.var j) (.var i)) R ρ := by
  unfold wE wI
  refine hI _ ?_
  have key : ∀ xs, xs = ns.map D.int → (∀ v ∈ [i, j], v ∉ pn) ∧ ∃ Inv : Nat → List Key → List D → Env → Prop, Inv 0 [] [] (wipeE ρ [i, j]) ∧
      (∀ k x ks ds ρ2, (enumD xs)[k]? = some x → Inv k ks ds (wipeE ρ2 [i, j]) → wG T pn (.tt (.cons (.tn i) (.cons (.tn j) .nil))) x (fun ρ3 => wC T pn .nil (fun b ρ4 => if b = true then wE T pn (.var j) (fun _ kd ρ5 => wE T pn (.var i) (fun _ d ρ6 => ∃ key, keyD kd = some key ∧ key ∉ ks ∧ ks.length < sizeLine ∧ Inv (k + 1) (ks ++ [key]) (ds ++ [d]) (wipeE ρ6 [i, j])) ρ5) ρ4 else Inv (k + 1) ks ds (wipeE ρ4 [i, j])) ρ3) (wipeE ρ2 [i, j])) ∧
      ∀ ks ds ρ2, Inv (enumD xs).length ks ds (wipeE ρ2 [i, j]) → R .dk (.dk ks ds) (backE ρ2 ρ [i, j]) := by
    intro xs hx
    subst hx
    have el : (enumD (ns.map D.int)).length = ns.length := by unfold enumD; simp
    refine ⟨fun v hv => ?_, fun k ks ds ρ' => k ≤ ns.length ∧ ks = (ns.take k).map Sum.inl ∧ ds = ((List.range k).map fun a => .int (a : Nat)) ∧ ρ' = wipeE ρ [i, j], ⟨Nat.zero_le _, rfl, rfl, rfl⟩, ?_, ?_⟩
    · rcases List.mem_cons.mp hv with rfl | hv
      · exact hi
      · rw [List.mem_singleton.mp hv]
        exact hj
    · rintro k x ks ds ρ2 hx ⟨h1, h2, h3, h4⟩
      obtain ⟨hk, hx⟩ := List.getElem?_eq_some_iff.mp hx
      rw [el] at hk
      have hx2 : x = .tup [.int (k : Nat), .int ns[k]] := by
        rw [← hx]
        unfold enumD
        simp [List.getElem?_eq_getElem hk]
      subst hx2
      rw [h4]
      have a1 : Env.at (((wipeE ρ [i, j]).set i (some (.s, .int (k : Nat)))).set j (some (.s, .int ns[k]))) j = some (.s, .int ns[k]) := at_set_self (by rw [List.length_set, wipeE_len]; exact hlj)
      have a2 : Env.at (((wipeE ρ [i, j]).set i (some (.s, .int (k : Nat)))).set j (some (.s, .int ns[k]))) i = some (.s, .int (k : Nat)) := by
        rw [at_set_ne hij]
        exact at_set_self (by rw [wipeE_len]; exact hli)
      unfold wG
      refine ⟨rfl, ?_⟩
      unfold wGs
      dsimp only
      unfold wG wGs
      dsimp only
      refine ⟨hi, ?_⟩
      unfold wG wGs
      refine ⟨hj, rfl, ?_⟩
      unfold wC
      dsimp only
      rw [if_pos rfl]
      unfold wE
      rw [a1]
      dsimp only
      unfold wE
      rw [a2]
      dsimp only
      refine ⟨.inl ns[k], rfl, fun z => ?_, by rw [h2, List.length_map, List.length_take]; omega, hk, ?_, ?_, ?_⟩
      · rw [h2] at z
        obtain ⟨y, y1, y2⟩ := List.mem_map.mp z
        cases y2
        obtain ⟨m, m1, m2⟩ := List.mem_iff_getElem.mp y1
        rw [List.length_take] at m1
        rw [List.getElem_take] at m2
        exact List.pairwise_iff_getElem.mp hn m k (by omega) hk (by omega) m2
      · rw [h2, List.take_succ, List.getElem?_eq_getElem hk, List.map_append]
        rfl
      · rw [h3, List.range_succ, List.map_append]
        rfl
      · show (((((ρ.set j none).set i none).set i _).set j _).set j none).set i none = (ρ.set j none).set i none
        rw [List.set_set, List.set_set, List.set_comm _ _ hij, List.set_set, List.set_set]
    · rintro ks ds ρ2 ⟨h1, h2, h3, h4⟩
      rw [el] at h2 h3
      rw [List.take_length] at h2
      subst h2 h3
      have : backE ρ2 ρ [i, j] = ρ := back_wipe h4
      rw [this]
      exact h
  rcases hd with rfl | rfl
  · exact key _ rfl
  · exact key _ rfl
end
/-- one statement; what follows is kept out of sight -/
theorem x_step {T : List FSpec} {pn : List Nat} {a b : C} {nx : Env → Prop} {rt : M → D → Env → Prop} {bk ct : Env → Prop} {ρ : Env} (h : ∀ K : Env → Prop, (∀ ρ', wS T pn b ⟨nx, rt, bk, ct⟩ ρ' → K ρ') → wS T pn a ⟨K, rt, bk, ct⟩ ρ) : wS T pn (.seq a b) ⟨nx, rt, bk, ct⟩ ρ := h _ fun _ h => h
end Y
namespace Y
open PySem PySem.Spec PyProof.Rows L2

/-! ### the head: from facts to defs -/
def Fx.dd (e : Fx) : He.DefD := ⟨(match e.kd with | .fn => (e.x, none) | .me c => (c, some e.x) | .mk c => (c, some e.x) | .pr c => (c, some e.x)), e.x, e.qual, defArgs e.st, defBody e.st, defScope e.st, [], []⟩
def Fx.fa (e : Fx) : List He.Fa := match e.kd with
  | .fn => [.glo e.x]
  | .me c => [.meth c e.x]
  | .mk c => [.mkr c, .glo c]
  | .pr _ => []
def faOf (fs : List Fx) (cs : List Str) (flds : List Str) (gis : List (Str × Int)) : List He.Fa := fs.flatMap Fx.fa ++ (bltNames.map He.Fa.free ++ (cs.flatMap (fun c => He.Fa.cls c :: flds.map (He.Fa.noat c)) ++ gis.map fun p => He.Fa.int p.1 p.2))
def ctOf (K : PySem.W.Frag) (cs : List Str) (tabs : List (Addr × Str)) : Ct := ⟨fun c => if c ∈ cs then some (He.ga K c) else none, tabs⟩
theorem ctOf_in {K : PySem.W.Frag} {cs : List Str} {tabs : List (Addr × Str)} {c : Str} (h : c ∈ cs) : (ctOf K cs tabs) c = some (He.ga K c) := if_pos h
theorem ctOf_some {K : PySem.W.Frag} {cs : List Str} {tabs : List (Addr × Str)} {c : Str} {C : Addr} (h : (ctOf K cs tabs) c = some C) : c ∈ cs ∧ He.ga K c = C := by
  have h : (if c ∈ cs then some (He.ga K c) else none) = some C := h
  by_cases hc : c ∈ cs
  · rw [if_pos hc] at h
    exact ⟨hc, Option.some.inj h⟩
  · rw [if_neg hc] at h
    cases h
/-! properties: their getters -/
def isPr : Kd → Bool
  | .pr _ => true
  | _ => false
def Fx.cl (e : Fx) : Str := match e.kd with | .pr c => c | .me c => c | .mk c => c | .fn => e.x
def prop (K : PySem.W.Frag) (e : Fx) : Addr := He.ma K (He.ga K e.cl) e.x
def getr (K : PySem.W.Frag) (e : Fx) : Addr := match PySem.W.recIn K (prop K e) "property" with
  | some (.ref g :: _) => g
  | _ => 0
def getrV (K : PySem.W.Frag) (a : Addr) : He.FnW := match K.lookup a with
  | some ⟨_, _, .func z, _⟩ => some (z.name, z.qualname, z.params, z.body, z.scope, z.globals, z.closure, z.builtins)
  | _ => none
def Fx.look (e : Fx) : He.FnW := some (e.x, e.qual, defArgs e.st, .stmts (defBody e.st), defScope e.st, mainGlobals, [], builtinsNs)
def prOk (K : PySem.W.Frag) (e : Fx) : Bool := (He.eqO (PySem.W.findIn K (.ref (He.ga K e.cl)) e.x) (some (some (.ref (prop K e)))) && He.eqO (PySem.W.specialIn K (.ref (prop K e)) "__get__") (some (some (.builtin "property.__get__")))) &&
  ((decide (PySem.W.takesIn K (.ref (prop K e)) = some true) && (match PySem.W.recIn K (prop K e) "property" with | some (.ref _ :: _) => true | _ => false)) &&
  (PySem.W.keepIn K (.ref (getr K e)) && (match K.lookup (getr K e) with
  | some ⟨_, _, .func z, _⟩ => PySem.W.codeIn K z.code e.qual && (He.dflB K z.defaults [] && He.kwdB K z.kwdefaults [])
  | _ => false)))
theorem prOk_def {K : PySem.W.Frag} {e : Fx} (h : prOk K e = true) (v : getrV K (getr K e) = e.look) : PropOf K (He.ga K e.cl) e.x (prop K e) (getr K e) ∧ ∃ fd, FunD K e.x e.qual (defArgs e.st) (defBody e.st) (defScope e.st) [] [] (getr K e) fd := by
  obtain ⟨h1, h2⟩ := He.ba h
  obtain ⟨h3, h4⟩ := He.ba h1
  obtain ⟨h5, h6⟩ := He.ba h2
  obtain ⟨h7, h8⟩ := He.ba h5
  obtain ⟨h9, h10⟩ := He.ba h6
  refine ⟨⟨He.eqO_ok h3, He.eqO_ok h4, of_decide_eq_true h7, ?_⟩, ?_⟩
  · unfold getr
    cases q : PySem.W.recIn K (prop K e) "property" with
    | none =>
      rw [q] at h8
      cases h8
    | some l =>
      rw [q] at h8
      match l, h8 with
      | .ref g :: r, _ => exact ⟨r, rfl⟩
  · unfold getrV at v
    cases q : K.lookup (getr K e) with
    | none =>
      rw [q] at v
      cases v
    | some o =>
      obtain ⟨oc, od, dt, osl⟩ := o
      rw [q] at v h10
      cases dt with
      | func z =>
        obtain ⟨a1, a2, a3, a4, a5, a6, a7, a8, a9, a10, a11, a12, a13, a14, a15⟩ := z
        have v : (some (a1, a2, a3, a4, a5, a6, a7, a15) : He.FnW) = e.look := v
        unfold Fx.look at v
        simp only [Option.some.injEq, Prod.mk.injEq] at v
        obtain ⟨g1, g2, g3, g4, g5, g6, g7, g8⟩ := v
        subst g1 g2 g3 g4 g5 g6 g7 g8
        obtain ⟨k1, k2⟩ := He.ba h10
        obtain ⟨k3, k4⟩ := He.ba k2
        exact ⟨_, ⟨oc, od, _, _, _, _, _, _, _, osl, rfl, q, k1, He.dflB_ok k3, He.kwdB_ok k4⟩, h9⟩
      | _ => cases v
def fnOf (fs : List Fx) : List He.DefD := (fs.filter fun e => !isPr e.kd).map Fx.dd
def prOf (fs : List Fx) : List Fx := fs.filter fun e => isPr e.kd
abbrev AlP : Type := He.AlD × Bool × List He.FnW
def obsP (fa : List He.Fa) (fs : List Fx) (K : PySem.W.Frag) : AlP := (He.obsD fa (fnOf fs) K, (prOf fs).all (prOk K), (prOf fs).map fun e => getrV K (getr K e))
def valP (fs : List Fx) : AlP := (He.valD (fnOf fs), true, (prOf fs).map Fx.look)
def SaysP (fa : List He.Fa) (fs : List Fx) (K : PySem.W.Frag) : Prop := obsP fa fs K = valP fs
/-- the defs that make lambdas; their code objects and tables -/
def tfOf (fs : List Fx) : List Fx := fs.filter fun e => decide (e.lr ≠ 0)
def csOf (K : PySem.W.Frag) (fs : List Fx) : List (Addr × Addr) := (tfOf fs).map fun e => He.cT K e.dd.at_
def tabsOf (K : PySem.W.Frag) (fs : List Fx) : List (Addr × Str) := (tfOf fs).map fun e => ((He.cT K e.dd.at_).2, (e.qual ++ ".<locals>.") ++ "<lambda>")
abbrev AlQ : Type := AlP × Bool
def obsPG (n : Nat) (fa : List He.Fa) (fs : List Fx) (g : Addr → Option Obj) : AlQ := (obsP fa fs (He.frT g (He.asD g n)), decide ((csOf (He.frT g (He.asD g n)) fs).map (·.2)).Nodup && He.tabsB g ((tfOf fs).map fun e => e.dd.at_) (He.frT g (He.asD g n)))
/-- what the head tells -/
structure SaysQ (fa : List He.Fa) (fs : List Fx) (h : Heap) (K : PySem.W.Frag) : Prop where
  p : SaysP fa fs K
  nd : ((csOf K fs).map (·.2)).Nodup
  hd : ∀ q ∈ csOf K fs, PySem.W.codeHdIn K q.1 q.2 = true
  out : ∀ q ∈ csOf K fs, K.lookup q.2 = none
  empty : ∀ q ∈ csOf K fs, h.get? q.2 = some { cls := .none, data := .fields #[] }
theorem saysQ_of {n : Nat} {fa : List He.Fa} {fs : List Fx} {h : Heap} (z : obsPG n fa fs h.get? = (valP fs, true)) : SaysQ fa fs h (He.frT h.get? (He.asD h.get? n)) := by
  have z1 : SaysP fa fs (He.frT h.get? (He.asD h.get? n)) := congrArg (fun q : AlQ => q.1) z
  obtain ⟨z2, z3⟩ := He.ba (congrArg (fun q : AlQ => q.2) z)
  have one : ∀ q ∈ csOf (He.frT h.get? (He.asD h.get? n)) fs, PySem.W.codeHdIn (He.frT h.get? (He.asD h.get? n)) q.1 q.2 = true ∧ ∃ o, h.get? q.2 = some o ∧ He.emptyTab o = true := fun q hq => by
    obtain ⟨e, he, rfl⟩ := List.mem_map.mp hq
    obtain ⟨y1, y2⟩ := He.ba (List.all_eq_true.mp z3 _ (List.mem_map.mpr ⟨e, he, rfl⟩))
    refine ⟨y1, ?_⟩
    cases y : h.get? (He.cT (He.frT h.get? (He.asD h.get? n)) e.dd.at_).2 with
    | none =>
      rw [y] at y2
      cases y2
    | some o =>
      rw [y] at y2
      exact ⟨o, rfl, y2⟩
  refine ⟨z1, of_decide_eq_true z2, fun q hq => (one q hq).1, fun q hq => ?_, fun q hq => ?_⟩
  · obtain ⟨_, o, y1, y2⟩ := one q hq
    exact He.frT_none y1 y2
  · obtain ⟨_, o, y1, y2⟩ := one q hq
    rw [y1, He.emptyTab_eq y2]
def hookP (n : Nat) (fa : List He.Fa) (fs : List Fx) : PySem.W.Hook where
  α := AlQ
  obs := fun st => obsPG n fa fs st.heap.get?
  val := fun _ => (valP fs, true)
  says := fun _ hp => ∃ K : PySem.W.Frag, K.In hp ∧ SaysQ fa fs hp K
  of := fun _ _ z => ⟨_, He.frT_in, saysQ_of z⟩
  keeps := fun _ _ _ ⟨K, kin, c⟩ kp => ⟨K, PySem.W.Frag.In.keeps kin kp, ⟨c.p, c.nd, c.hd, c.out, fun q hq => kp _ _ (c.empty q hq)⟩⟩
theorem obsPG_eq {n : Nat} {fa : List He.Fa} {fs : List Fx} {g : Addr → Option Obj} {st : Shared} (h : ∀ a, g a = st.heap.get? a) : obsPG n fa fs g = (hookP n fa fs).obs st := by
  have z : g = st.heap.get? := funext h
  subst z
  rfl
theorem SaysP.d {fa : List He.Fa} {fs : List Fx} {K : PySem.W.Frag} (c : SaysP fa fs K) : He.SaysD fa (fnOf fs) K := congrArg (fun z : AlP => z.1) c
theorem SaysP.pr {fa : List He.Fa} {fs : List Fx} {K : PySem.W.Frag} (c : SaysP fa fs K) {e : Fx} (he : e ∈ fs) (hp : isPr e.kd = true) : PropOf K (He.ga K e.cl) e.x (prop K e) (getr K e) ∧ ∃ fd, FunD K e.x e.qual (defArgs e.st) (defBody e.st) (defScope e.st) [] [] (getr K e) fd := by
  have c1 : (prOf fs).all (prOk K) = true := congrArg (fun z : AlP => z.2.1) c
  have c2 : (prOf fs).map (fun e => getrV K (getr K e)) = (prOf fs).map Fx.look := congrArg (fun z : AlP => z.2.2) c
  have m : e ∈ prOf fs := List.mem_filter.mpr ⟨he, hp⟩
  exact prOk_def (List.all_eq_true.mp c1 e m) (List.map_inj_left.mp c2 e m)
section
variable {K : PySem.W.Frag} {h : Heap} {mg : Str → Option Value} {fa : List He.Fa} {fn : List He.DefD}
theorem says_fact (c : He.SaysD fa fn K) {f : He.Fa} (hf : f ∈ fa) : f.ok K = true := by
  obtain ⟨i, hi⟩ := List.mem_iff_getElem?.mp hf
  exact c.fact i hi
theorem says_def (c : He.SaysD fa fn K) {d : He.DefD} (hd : d ∈ fn) : ∃ fd, FunD K d.name d.qual d.params d.body d.scope (d.dvs K) (d.kws K) (He.fAd K d.at_) fd := by
  obtain ⟨i, hi⟩ := List.mem_iff_getElem?.mp hd
  exact c.def_ i hi
/-- where a def stands -/
def Fx.ad (K : PySem.W.Frag) (e : Fx) : Addr := if isPr e.kd = true then getr K e else He.fAd K e.dd.at_
theorem has_of {base : Heap} {tabs : List (Addr × Str)} {fs : List Fx} {cs flds : List Str} {gis : List (Str × Int)} (X : K.In h) (G : h.Ns mainGlobals mg) (c : SaysP (faOf fs cs flds gis) fs K) (kc : ∀ e ∈ fs, match e.kd with | .fn => True | .me c => c ∈ cs | .pr c => c ∈ cs | .mk c => c ∈ cs ∧ e.x = ("__init__" : Str)) (hb : ∀ e ∈ fs, BindOk e)
    (hlm : ∀ e ∈ fs, ∀ fd, FunD K e.x e.qual (defArgs e.st) (defBody e.st) (defScope e.st) [] [] (e.ad K) fd → LamK mg base (ctOf K cs tabs) e.qual fd e.lr) : ∀ e ∈ fs, Has K mg base (ctOf K cs tabs) e := by
  intro e he
  by_cases hpr : isPr e.kd = true
  · obtain ⟨g1, fd, g2⟩ := c.pr he hpr
    have kc := kc e he
    refine ⟨_, fd, g2, hb e he, hlm e he fd (by unfold Fx.ad; rw [if_pos hpr]; exact g2), ?_⟩
    cases hk : e.kd with
    | pr cn =>
      rw [hk] at kc
      have ecl : e.cl = cn := by unfold Fx.cl; rw [hk]
      rw [ecl] at g1
      refine ⟨He.ga K cn, prop K e, ctOf_in kc, He.cls_ok (says_fact c.d (List.mem_append_right _ (List.mem_append_right _ (List.mem_append_left _ (List.mem_flatMap.mpr ⟨cn, kc, List.mem_cons_self ..⟩))))), g1⟩
    | _ =>
      rw [hk] at hpr
      cases hpr
  have c := c.d
  obtain ⟨fd, F⟩ := says_def c (d := e.dd) (List.mem_map.mpr ⟨e, List.mem_filter.mpr ⟨he, by simpa using hpr⟩, rfl⟩)
  have F : FunD K e.x e.qual (defArgs e.st) (defBody e.st) (defScope e.st) [] [] (He.fAd K e.dd.at_) fd := F
  have fact : ∀ f ∈ e.fa, f.ok K = true := fun f hf => says_fact c (List.mem_append_left _ (List.mem_flatMap.mpr ⟨e, he, hf⟩))
  have clsf : ∀ cn ∈ cs, (He.Fa.cls cn).ok K = true := fun cn hc => says_fact c (List.mem_append_right _ (List.mem_append_right _ (List.mem_append_left _ (List.mem_flatMap.mpr ⟨cn, hc, List.mem_cons_self ..⟩))))
  refine ⟨_, fd, F, hb e he, hlm e he fd (by unfold Fx.ad; rw [if_neg hpr]; exact F), ?_⟩
  have kc := kc e he
  unfold Fx.dd Fx.fa at *
  cases hk : e.kd with
  | fn =>
    rw [hk] at fact
    exact He.glo_ok X G (fact _ (List.mem_cons_self ..))
  | me cn =>
    rw [hk] at fact kc
    refine ⟨He.ga K cn, ctOf_in kc, He.cls_ok (clsf cn kc), ?_⟩
    have := He.meth_ok (fact _ (List.mem_cons_self ..))
    simp only [hk]
    exact this
  | pr cn =>
    rw [hk] at hpr
    exact absurd rfl hpr
  | mk cn =>
    rw [hk] at fact kc
    refine ⟨He.ga K cn, ctOf_in kc.1, ?_, He.glo_ok X G (fact _ (List.mem_cons_of_mem _ (List.mem_cons_self ..)))⟩
    have := He.mkr_ok (fact _ (List.mem_cons_self ..))
    simp only [kc.2]
    exact this
theorem nodup_map_inj {α β : Type} {f : α → β} : ∀ {l : List α} {a b : α}, (l.map f).Nodup → a ∈ l → b ∈ l → f a = f b → a = b
  | [], a, b, _, ha, _, _ => by cases ha
  | x :: l, a, b, h, ha, hb, e => by
    rw [List.map_cons, List.nodup_cons] at h
    have out : ∀ c ∈ l, f c ≠ f x := fun c hc z => h.1 (List.mem_map.mpr ⟨c, hc, z⟩)
    rcases List.mem_cons.mp ha with h1 | h1
    · rcases List.mem_cons.mp hb with h2 | h2
      · rw [h1, h2]
      · exact absurd (by rw [← e, h1]) (out b h2)
    · rcases List.mem_cons.mp hb with h2 | h2
      · exact absurd (by rw [e, h2]) (out a h1)
      · exact nodup_map_inj h.2 h1 h2 e
/-- the defs that make lambdas find their tables -/
theorem lamK_of {base : Heap} {fs : List Fx} {cs : List Str} (hnd : ((csOf K fs).map (·.2)).Nodup) (h4 : ∀ e ∈ fs, e.lr ≠ 0 → 4 ≤ e.lr ∧ isPr e.kd = false) (TB : ∀ p ∈ csOf K fs, LamX.TabB base mg p.1 p.2) :
    ∀ e ∈ fs, ∀ fd, FunD K e.x e.qual (defArgs e.st) (defBody e.st) (defScope e.st) [] [] (e.ad K) fd → LamK mg base (ctOf K cs (tabsOf K fs)) e.qual fd e.lr := by
  intro e he fd F hlr
  obtain ⟨g1, g2⟩ := h4 e he hlr
  have ht : e ∈ tfOf fs := List.mem_filter.mpr ⟨he, decide_eq_true hlr⟩
  have ead : e.ad K = He.fAd K e.dd.at_ := by
    unfold Fx.ad
    rw [if_neg (by rw [g2]; exact Bool.false_ne_true)]
  rw [ead] at F
  obtain ⟨oc, od, dV, kV, doc, pm, an, cdv, ct, osl, rfl, lk, hcd, _, _⟩ := F.ex
  obtain ⟨c, rfl⟩ := He.codeIn_ref hcd
  have ec : He.codeOf K e.dd.at_ = c := He.codeOf_eq lk rfl
  refine ⟨g1, c, (He.cT K e.dd.at_).2, rfl, ?_, List.mem_map.mpr ⟨e, ht, rfl⟩, fun p hp e2 => ?_⟩
  · have := TB _ (List.mem_map.mpr ⟨e, ht, rfl⟩)
    rw [← ec]
    exact this
  · obtain ⟨e', he', rfl⟩ := List.mem_map.mp hp
    have : e' = e := nodup_map_inj (f := fun e : Fx => (He.cT K e.dd.at_).2) (by rw [csOf, List.map_map] at hnd; exact hnd) he' ht e2
    rw [this]
theorem free_of {fs : List Fx} {cs flds : List Str} {gis : List (Str × Int)} (X : K.In h) (G : h.Ns mainGlobals mg) (c : He.SaysD (faOf fs cs flds gis) fn K) : ∀ x ∈ bltNames, mg x = none := fun x hx =>
  He.free_ok X G (says_fact c (List.mem_append_right _ (List.mem_append_left _ (List.mem_map.mpr ⟨x, hx, rfl⟩))))
theorem cls_of {tabs : List (Addr × Str)} {fs : List Fx} {cs flds : List Str} {gis : List (Str × Int)} (c : He.SaysD (faOf fs cs flds gis) fn K) : ∀ cn C, (ctOf K cs tabs) cn = some C → Cls K C ∧ ∀ f ∈ flds, NoAttr K C f := fun cn C hC => by
  obtain ⟨hc, e⟩ := ctOf_some hC
  subst e
  have mem : ∀ f ∈ (He.Fa.cls cn :: flds.map (He.Fa.noat cn)), f.ok K = true := fun f hf => says_fact c (List.mem_append_right _ (List.mem_append_right _ (List.mem_append_left _ (List.mem_flatMap.mpr ⟨cn, hc, hf⟩))))
  exact ⟨He.cls_ok (mem _ (List.mem_cons_self ..)), fun f hf => He.noat_ok (mem _ (List.mem_cons_of_mem _ (List.mem_map.mpr ⟨f, hf, rfl⟩)))⟩
theorem gis_of {fs : List Fx} {cs flds : List Str} {gis : List (Str × Int)} (X : K.In h) (G : h.Ns mainGlobals mg) (c : He.SaysD (faOf fs cs flds gis) fn K) : ∀ p ∈ gis, ∃ t, mg p.1 = some (.int p.2 t) := fun p hp =>
  He.int_ok X G (says_fact c (List.mem_append_right _ (List.mem_append_right _ (List.mem_append_right _ (List.mem_map.mpr ⟨p, hp, rfl⟩)))))
/-- the law's def at the start: the script, the empty tables -/
theorem start_of {ct : Ct} {sp : FSpec} {cs : List (Addr × Addr)} (hct : ∀ p ∈ ct.tabs, ∃ q ∈ cs, p.1 = q.2) (hpm : sp.pm = [.s]) (hrm : sp.rm = .s) (H : Hp) (a : Addr) (ns : List Int) (hrun : sp.run [.scr ns] fun d _ => d = .bl true) (hT : ∀ p ∈ cs, H p.2 = some (.tbl #[])) (hS : SqL K H a (ns.map V.int)) :
    SpOf K ct sp [.ref a] H (fun v _ => v = .bl true) fun _ _ _ => False := by
  have hl : sp.pm.length = 1 := by rw [hpm]; rfl
  let S : Hp := fun b => if ∃ q ∈ cs, b = q.2 then none else H b
  have sS : Same S H := fun b o h => by
    by_cases hb : ∃ q ∈ cs, b = q.2
    · exact absurd ((if_pos hb).symm.trans h) fun z => nomatch z
    · exact (if_neg hb).symm.trans h
  have na : ∀ o, H a = some o → (∀ ps, o ≠ .tbl ps) → S a = some o := fun o h n => by
    refine (if_neg fun ⟨q, hq, e⟩ => ?_).trans h
    rw [e, hT q hq] at h
    exact n _ (Option.some.inj h).symm
  refine ⟨S, [.scr ns], fun i b => i = none ∧ ∃ q ∈ cs, b = q.2, fun d _ => d = .bl true, sS, hl.symm, hl.symm, fun i m d v e1 e2 e3 => ?_, fun i j b h1 h2 => h1.1.trans h2.1.symm, fun i b h => ⟨if_pos h.2, ?_⟩, fun p hp => ?_, hrun, fun v H' S' d ds' F' G h1 _ _ h4 _ _ _ _ _ _ => ?_⟩
  · rw [hpm] at e1
    cases i with
    | zero =>
      cases e1
      cases e2
      cases e3
      unfold RepM Rep
      refine ⟨a, rfl, ?_⟩
      rcases hS with (h | ⟨o, h⟩) | h
      · exact .inl (.inl (na _ h fun ps z => nomatch z))
      · exact .inl (.inr ⟨o, na _ h fun ps z => nomatch z⟩)
      · exact .inr h
    | succ i => cases e1
  · obtain ⟨q, hq, rfl⟩ := h.2
    rw [hT q hq]
    exact fun z => nomatch z
  · obtain ⟨q, hq, e⟩ := hct p hp
    rw [e]
    exact ⟨#[], hT q hq, ⟨rfl, q, hq, rfl⟩, trivial, fun pos cv h => by cases h⟩
  · subst h1
    rw [hrm] at h4
    have h4 : RepM K ct S' H' .s G (.bl true) v := h4
    unfold RepM Rep at h4
    exact h4
end
end Y
namespace Y
open PySem PySem.Spec PyProof.Rows L2
section
variable {P : Program} {w : World} {K : PySem.W.Frag} {mg : Str → Option Value} {base : Heap} {ct : Ct}
/-- the law's own def -/
theorem last_ok {fs : List Fx} {flds : List Str} {gis : List (Str × Int)} (free : ∀ x ∈ bltNames, mg x = none) (cls : ∀ c C, ct c = some C → Cls K C ∧ ∀ f ∈ flds, NoAttr K C f) (hgis : ∀ p ∈ gis, ∃ t, mg p.1 = some (.int p.2 t))
    (has : ∀ e ∈ fs, Has K mg base ct e) (ok : ∀ (i : Nat) e, fs[i]? = some e → FxOk fs flds gis i e) {i : Nat} {e : Fx} (he : fs[i]? = some e) (hkd : e.kd = .fn) (hdep : e.dep = 1) {f : Addr} {fd : FuncData}
    (F : FunD K e.x e.qual (defArgs e.st) (defBody e.st) (defScope e.st) [] [] f fd) (hb : BindOk e) (hmg : mg e.x = some (.ref f)) (hlr : e.lr = 0) : FnG P w K mg base (lev (fs.take i) + 2) f fd e.ps (SpOf K ct e.sp) := by
  have O := ok i e he
  have hws := O.ws 0
  have hlen0 := O.len 1
  rw [hkd] at hws hlen0
  have hsp : e.sp = e.fam 1 := by
    unfold Fx.sp
    rw [hdep]
  rw [hsp]
  have hi : i < fs.length := (List.getElem?_eq_some_iff.mp he).1
  have hlen : ((fs.take i).map (·.sp)).length = i := by
    rw [List.length_map, List.length_take]
    omega
  have no : ∀ {vs : List V} {H : Hp} {Q : VK} {E : XK}, SpOf K ct (e.fam 0) vs H Q E → False := fun h => by
    obtain ⟨S0, ds, F0, R, _, _, _, _, _, _, _, h7, _⟩ := h
    exact O.w0 _ _ h7
  have hmt := O.mt
  rw [hlr] at hmt
  refine def_ok (k := lev (fs.take i) + 1) F O.sc hlen0 hmt free (fun j sp hj => ?_) cls hgis hws fun z => absurd rfl z
  by_cases hji : j < i
  · rw [List.getElem?_append_left (by omega), List.getElem?_map, List.getElem?_take_of_lt hji] at hj
    cases hq : fs[j]? with
    | none =>
      rw [hq] at hj
      cases hj
    | some e' =>
      rw [hq] at hj
      cases hj
      refine ⟨e'.x, e'.kd, by rw [List.getElem?_map, hq]; rfl, by rw [List.getElem?_map, hq]; rfl, (all_ok free cls hgis has ok j e' hq).mono ?_⟩
      have := lev_take (fs := fs) (j := j + 1) (i := i) (by omega)
      omega
  · rw [List.getElem?_append_right (by omega), hlen] at hj
    have : j = i := by
      obtain ⟨z, _⟩ := List.getElem?_eq_some_iff.mp hj
      simp only [List.length_cons, List.length_nil] at z
      omega
    subst this
    rw [Nat.sub_self] at hj
    cases hj
    refine ⟨e.x, .fn, by rw [List.getElem?_map, he]; rfl, by rw [List.getElem?_map, he]; show some e.kd = _; rw [hkd], f, fd, e.ps, hmg, F.kp, FunD.bindsN (ps := e.ps) F hb, FnG.none fun _ _ _ _ h => no h, FunD.bindsA (ps := e.ps) F hb⟩
end
/-- all that the law's end asks, from what the head tells -/
theorem facts_of (P : Program) (w : World) {h : Heap} {mg : Str → Option Value} {fa : Addr} {fs : List Fx} {cs flds : List Str} {gis : List (Str × Int)} {x : Str} {i k n : Nat} {e : Fx}
    (kc : ∀ e ∈ fs, match e.kd with | .fn => True | .me c => c ∈ cs | .pr c => c ∈ cs | .mk c => c ∈ cs ∧ e.x = ("__init__" : Str)) (bs : ∀ e ∈ fs, BindOk e) (xs : ∀ (i : Nat) e, fs[i]? = some e → FxOk fs flds gis i e) (h4 : ∀ e ∈ fs, e.lr ≠ 0 → 4 ≤ e.lr ∧ isPr e.kd = false)
    (he : fs[i]? = some e) (hkd : e.kd = .fn) (hdep : e.dep = 1) (hlr : e.lr = 0) (hps : e.ps = [x]) (hpm : e.sp.pm = [.s]) (hrm : e.sp.rm = .s) (hrun : ∀ ns : List Int, ns.length ≤ n → e.sp.run [.scr ns] fun d _ => d = .bl true) (hlev : lev (fs.take i) + 2 = k)
    (Y : ∃ K : PySem.W.Frag, K.In h ∧ SaysQ (faOf fs cs flds gis) fs h K) (G : h.Ns mainGlobals mg) (hmg : mg e.x = some (.ref fa)) :
    ∃ (K : PySem.W.Frag) (fd : FuncData) (sp : Sp) (cs : List (Addr × Addr)), K.In h ∧ (∀ p ∈ cs, h.get? p.2 = some { cls := .none, data := .fields #[] }) ∧ (∀ p ∈ cs, K.lookup p.2 = none) ∧ (∀ p ∈ cs, PySem.W.CodeHd h p.1 p.2) ∧ (∀ (s : Shared) (u : Value), BindsTo s fd ⟨[u], []⟩ [(x, u)]) ∧
      (∀ (H : Hp) (a : Addr) (ns : List Int), ns.length ≤ n → (∀ p ∈ cs, H p.2 = some (.tbl #[])) → SqL K H a (ns.map V.int) → sp [.ref a] H (fun v _ => v = .bl true) fun _ _ _ => False) ∧
      ∀ base : Heap, K.In base → base.Ns mainGlobals mg → (∀ p ∈ cs, LamX.TabB base mg p.1 p.2) → FnG P w K mg base k fa fd [x] sp := by
  obtain ⟨K, X, c⟩ := Y
  have hm : e ∈ fs := List.mem_of_getElem? he
  have cd := c.p.d
  obtain ⟨fd, F⟩ := says_def cd (d := e.dd) (List.mem_map.mpr ⟨e, List.mem_filter.mpr ⟨hm, by rw [hkd]; rfl⟩, rfl⟩)
  have hfa : mg e.x = some (.ref (He.fAd K e.dd.at_)) := by
    have f1 : He.Fa.ok K (.glo e.x) = true := says_fact cd (List.mem_append_left _ (List.mem_flatMap.mpr ⟨e, hm, by unfold Fx.fa; rw [hkd]; exact List.mem_cons_self ..⟩))
    have f2 := He.glo_ok X G f1
    unfold Fx.dd
    rw [hkd]
    exact f2
  have efa := Option.some.inj (hmg.symm.trans hfa)
  injection efa with efa
  have F : FunD K e.x e.qual (defArgs e.st) (defBody e.st) (defScope e.st) [] [] fa fd := by
    rw [efa]
    exact F
  have hb := bs e hm
  refine ⟨K, fd, SpOf K (ctOf K cs (tabsOf K fs)) e.sp, csOf K fs, X, c.empty, c.out, fun p hp => PySem.W.codeHd_of_K X (c.hd p hp), fun s v => ?_, fun H a ns hl hT hS => start_of (fun p hp => ?_) hpm hrm H a ns (hrun ns hl) hT hS, fun base _ _ TB => ?_⟩
  · have := FunD.bindsA (ps := e.ps) F hb s [v] (by rw [hps]; rfl)
    rw [hps] at this
    exact this
  · obtain ⟨e', he', rfl⟩ := List.mem_map.mp hp
    exact ⟨_, List.mem_map.mpr ⟨e', he', rfl⟩, rfl⟩
  · rw [← hlev, ← hps]
    exact last_ok (free_of X G cd) (cls_of (tabs := tabsOf K fs) (fn := fnOf fs) cd) (gis_of X G cd) (has_of (base := base) (tabs := tabsOf K fs) X G c.p kc bs (lamK_of c.nd h4 TB)) xs he hkd hdep F hb hmg hlr
end Y
namespace Y
open PySem PySem.Spec PyProof.Rows L2

def c_cell : C :=
 (.seq (.ifs (.cmp .Lt (.var 1) (.b1 .len (.var 0))) (.seq (.ret (.idx (.var 0) (.var 1)))
 .skip) .skip)
 (.seq (.ret (.int 0))
 .skip))
/- N cell = 0:script 1:k -/
def c_stream : C :=
 (.seq (.ifs (.cmp .GtE (.var 0) (.bin .Pow (.int 10) (.int 18))) (.seq (.ret (.lst .s (.cons (.var 0) (.cons (.int 0) (.cons (.bin .Mod (.b1 .int (.var 0)) (.int 1000003)) .nil)))))
 .skip) .skip)
 (.seq (.ret (.lst .s (.cons (.int 0) (.cons (.int 0) (.cons (.bin .Mod (.b1 .int (.var 0)) (.int 1000000007)) .nil)))))
 .skip))
/- N stream = 0:cell_here -/
def c_draw : C :=
 (.seq (.ifs (.cmp .Gt (.rd (.bidx (.bor 0) (.int 0))) (.int 0)) (.seq (.asg 2 .s (.bin .Mod (.b1 .int (.bidx (.bor 0) (.int 0))) (.var 1)))
 (.seq (.setix (.bor 0) (.int 0) (.bin .FloorDiv (.rd (.bidx (.bor 0) (.int 0))) (.var 1)))
 (.seq (.ret (.var 2))
 .skip))) .skip)
 (.seq (.setix (.bor 0) (.int 1) (.bin .Add (.rd (.bidx (.bor 0) (.int 1))) (.int 1)))
 (.seq (.asg 3 .s (.bin .Mod (.b1 .int (.bin .Add (.bin .Mult (.rd (.bidx (.bor 0) (.int 2))) (.int 48271)) (.bin .Mult (.rd (.bidx (.bor 0) (.int 1))) (.int 69621)))) (.int 2147483647)))
 (.seq (.asg 3 .s (.bin .Mod (.b1 .int (.bin .Add (.bin .Add (.bin .Mult (.var 3) (.var 3)) (.bin .Mult (.rd (.bidx (.bor 0) (.int 1))) (.int 40692))) (.bin .FloorDiv (.var 3) (.int 1024)))) (.int 2147483629)))
 (.seq (.asg 3 .s (.bin .Mod (.b1 .int (.bin .Add (.bin .Mult (.var 3) (.int 16807)) (.rd (.bidx (.bor 0) (.int 2))))) (.int 2147483647)))
 (.seq (.ret (.bin .Mod (.b1 .int (.bin .FloorDiv (.var 3) (.int 16))) (.var 1)))
 .skip))))))
/- N draw = 0:stream_here 1:many 2:digit 3:mixed_here -/
def c_mixed : C :=
 (.seq (.asg 2 (.o .s) (.b1 .list (.var 1)))
 (.seq (.asg 3 (.o .s) (.lst .s .nil))
 (.seq (.for_ (.tn 4) (.rng1 (.b1 .len (.var 1)))
 (.seq (.ex (.app (.bor 3) (.popAt (.bor 2) (.call 2 (.cons (.bor 0) (.cons (.b1 .len (.bor 2)) .nil))))))
 .skip))
 (.seq (.ret (.mv 3))
 .skip))))
/- N mixed = 0:stream_here 1:items 2:rest 3:found 4:k -/

def c_closed : C :=
 (.seq (.asg 2 (.o (.o .s)) (.comp (.o .s) [("_law_k", 3)] (.tn 3) (.rng1 (.var 0)) .nil (.bin .Mult (.lst .s (.cons (.bl false) .nil)) (.var 0))))
 (.seq (.for_ (.tt (.cons (.tn 4) (.cons (.tn 5) .nil))) (.itr (.var 1))
 (.seq (.setix (.bidx (.bor 2) (.var 4)) (.var 5) (.bl true))
 .skip))
 (.seq (.for_ (.tn 6) (.rng1 (.var 0))
 (.seq (.for_ (.tn 4) (.rng1 (.var 0))
 (.seq (.ifs (.rd (.bidx (.bidx (.bor 2) (.var 4)) (.var 6))) (.seq (.for_ (.tn 5) (.rng1 (.var 0))
 (.seq (.ifs (.rd (.bidx (.bidx (.bor 2) (.var 6)) (.var 5))) (.seq (.setix (.bidx (.bor 2) (.var 4)) (.var 5) (.bl true))
 .skip) .skip)
 .skip))
 .skip) .skip)
 .skip))
 .skip))
 (.seq (.ret (.mv 2))
 .skip))))
/- N closed = 0:size 1:pairs_here 2:table 3:k 4:low 5:high 6:through -/
def c_pairs : C :=
 (.seq (.asg 1 .s (.lst .s .nil))
 (.seq (.for_ (.tn 2) (.rng1 (.b1 .len (.var 0)))
 (.seq (.asg 1 .s (.bin .Add (.var 1) (.comp .s [("_law_high", 3)] (.tn 3) (.rng1 (.b1 .len (.var 0))) (.cons (.idx (.idx (.var 0) (.var 2)) (.var 3)) .nil) (.tup (.cons (.var 2) (.cons (.var 3) .nil))))))
 .skip))
 (.seq (.ret (.var 1))
 .skip)))
/- N pairs = 0:table 1:found 2:low 3:high -/
def c_any_pairs : C :=
 (.seq (.asg 2 .s (.call 3 (.cons (.bor 0) (.cons (.lrange (.var 1)) .nil))))
 (.seq (.asg 3 .s (.idx (.lst .s (.cons (.int 2) (.cons (.int 3) (.cons (.int 5) (.cons (.int 9) .nil))))) (.call 2 (.cons (.bor 0) (.cons (.int 4) .nil)))))
 (.seq (.asg 4 (.o .s) (.lst .s .nil))
 (.seq (.for_ (.tn 5) (.rng1 (.var 1))
 (.seq (.for_ (.tn 6) (.rng2 (.bin .Add (.var 5) (.int 1)) (.var 1))
 (.seq (.ifs (.cmp .Eq (.call 2 (.cons (.bor 0) (.cons (.var 3) .nil))) (.int 0)) (.seq (.ex (.app (.bor 4) (.tup (.cons (.idx (.var 2) (.var 5)) (.cons (.idx (.var 2) (.var 6)) .nil)))))
 .skip) .skip)
 .skip))
 .skip))
 (.seq (.ret (.mv 4))
 .skip)))))
/- N any_pairs = 0:stream_here 1:size 2:names 3:often 4:pairs_here 5:low 6:high -/
@[simp] theorem ex2 {α β : Type} {a : α} {b : β} {p : α → β → Prop} : (∃ x y, (a = x ∧ b = y) ∧ p x y) ↔ p a b :=
  ⟨fun ⟨_, _, ⟨h1, h2⟩, h⟩ => by subst h1 h2; exact h, fun h => ⟨_, _, ⟨rfl, rfl⟩, h⟩⟩
/-! ### data of the laws -/
abbrev St3 := Int × Int × Int
def stD (z : St3) : D := .lst [.int z.1, .int z.2.1, .int z.2.2]
def pD (p : Nat × Nat) : D := .tup [.int (p.1 : Nat), .int (p.2 : Nat)]
def psD (ps : List (Nat × Nat)) : D := .lst (ps.map pD)
def nsD (ns : List Nat) : D := .lst (ns.map fun n => .int (n : Nat))
def rowL (n : Nat) (t : Nat → Nat → Bool) (i : Nat) : List D := (List.range n).map fun j => .bl (t i j)
def tabL (n : Nat) (t : Nat → Nat → Bool) : List D := (List.range n).map fun i => .lst (rowL n t i)
abbrev tabD (n : Nat) (t : Nat → Nat → Bool) : D := .lst (tabL n t)
def setT (t : Nat → Nat → Bool) (i j : Nat) (b : Bool) : Nat → Nat → Bool := fun i' j' => if i' = i ∧ j' = j then b else t i' j'
section
variable {n i j : Nat} {t : Nat → Nat → Bool} {b : Bool}
@[simp] theorem rowL_len : (rowL n t i).length = n := by
  unfold rowL
  rw [List.length_map, List.length_range]
@[simp] theorem tabL_len : (tabL n t).length = n := by
  unfold tabL
  rw [List.length_map, List.length_range]
theorem rowL_get (h : j < n) : (rowL n t i)[j]? = some (.bl (t i j)) := by
  unfold rowL
  rw [List.getElem?_map, List.getElem?_range h]
  rfl
theorem tabL_get (h : i < n) : (tabL n t)[i]? = some (.lst (rowL n t i)) := by
  unfold tabL
  rw [List.getElem?_map, List.getElem?_range h]
  rfl
@[simp] theorem rowL_idx {h : j < (rowL n t i).length} : (rowL n t i)[j] = .bl (t i j) := by
  have h2 : j < n := by rw [rowL_len] at h; exact h
  have := rowL_get (n := n) (t := t) (i := i) h2
  rw [List.getElem?_eq_getElem h] at this
  exact Option.some.inj this
@[simp] theorem tabL_idx {h : i < (tabL n t).length} : (tabL n t)[i] = .lst (rowL n t i) := by
  have h2 : i < n := by rw [tabL_len] at h; exact h
  have := tabL_get (n := n) (t := t) h2
  rw [List.getElem?_eq_getElem h] at this
  exact Option.some.inj this
theorem atI_row (h : j < n) : atI (rowL n t i) (j : Int) = some (.bl (t i j)) := by
  rw [atI_int (by omega) (by rw [rowL_len]; omega), Int.toNat_natCast, rowL_get h]
theorem atI_tab (h : i < n) : atI (tabL n t) (i : Int) = some (.lst (rowL n t i)) := by
  rw [atI_int (by omega) (by rw [tabL_len]; omega), Int.toNat_natCast, tabL_get h]
theorem set_map_range {α : Type} {f : Nat → α} {x : α} (h : i < n) : ((List.range n).map f).set i x = (List.range n).map fun k => if k = i then x else f k := by
  refine List.ext_getElem? fun k => ?_
  rw [List.getElem?_set, List.getElem?_map, List.getElem?_map, List.length_map, List.length_range]
  by_cases hk : k < n
  · rw [List.getElem?_range hk]
    by_cases e : i = k
    · subst e
      rw [if_pos rfl, if_pos h]
      show some x = some (if i = i then x else f i)
      rw [if_pos rfl]
    · rw [if_neg e]
      show some (f k) = some (if k = i then x else f k)
      rw [if_neg (Ne.symm e)]
  · rw [List.getElem?_eq_none (by rw [List.length_range]; omega), if_neg (by omega)]
    rfl
theorem tab_set (hi : i < n) (hj : j < n) : (tabL n t).set i (.lst ((rowL n t i).set j (.bl b))) = tabL n (setT t i j b) := by
  unfold tabL
  rw [set_map_range hi]
  refine List.map_congr_left fun k hk => ?_
  by_cases e : k = i
  · subst e
    rw [if_pos rfl]
    unfold rowL
    rw [set_map_range hj]
    congr 1
    refine List.map_congr_left fun l hl => ?_
    unfold setT
    by_cases e : l = j
    · subst e
      rw [if_pos rfl, if_pos ⟨rfl, rfl⟩]
    · rw [if_neg e, if_neg (fun z => e z.2)]
  · rw [if_neg e]
    congr 1
    unfold rowL
    refine List.map_congr_left fun l hl => ?_
    unfold setT
    rw [if_neg (fun z => e z.1)]
theorem tabL_congr {t' : Nat → Nat → Bool} (h : ∀ i j, i < n → j < n → t i j = t' i j) : tabL n t = tabL n t' := by
  unfold tabL
  refine List.map_congr_left fun k hk => ?_
  congr 1
  unfold rowL
  refine List.map_congr_left fun l hl => ?_
  rw [h k l (List.mem_range.mp hk) (List.mem_range.mp hl)]
theorem flat_rep {α : Type} {x : α} : ∀ n : Nat, (List.replicate n [x]).flatten = (List.range n).map fun _ => x
  | 0 => rfl
  | n + 1 => by
    rw [List.range_succ, List.map_append, ← flat_rep n, List.replicate_succ', List.flatten_append]
    rfl
theorem row_false : List.replicate n (D.bl false) = rowL n (fun _ _ => false) i := by
  unfold rowL
  rw [List.map_const', List.length_range]
end
/-- what has been closed: paths whose inner places are below r -/
inductive Wp (ps : List (Nat × Nat)) : Nat → Nat → Nat → Prop where
  | base {r i j : Nat} : (i, j) ∈ ps → Wp ps r i j
  | step {r i k j : Nat} : k < r → Wp ps r i k → Wp ps r k j → Wp ps r i j
abbrev TG (ps : List (Nat × Nat)) : Nat → Nat → Prop := Relation.TransGen fun i j => (i, j) ∈ ps
section
variable {ps : List (Nat × Nat)} {r i j k n : Nat}
theorem Wp.mono {r' : Nat} (h : Wp ps r i j) (hr : r ≤ r') : Wp ps r' i j := by
  induction h with
  | base h => exact .base h
  | step hk _ _ h1 h2 => exact .step (Nat.lt_of_lt_of_le hk hr) h1 h2
theorem Wp.split {r' : Nat} (h : Wp ps r' i j) : ∀ {r : Nat}, r' = r + 1 → Wp ps r i j ∨ (Wp ps r i r ∧ Wp ps r r j) := by
  induction h with
  | base h => exact fun _ => .inl (.base h)
  | @step i k j hk _ _ h1 h2 =>
    intro r e
    by_cases hr : k = r
    · subst hr
      have a : Wp ps k i k := (h1 e).elim id fun z => z.1
      have b : Wp ps k k j := (h2 e).elim id fun z => z.2
      exact .inr ⟨a, b⟩
    · have hk : k < r := by omega
      rcases h1 e with a | ⟨a, b⟩
      · rcases h2 e with c | ⟨c, d⟩
        · exact .inl (.step hk a c)
        · exact .inr ⟨.step hk a c, d⟩
      · rcases h2 e with c | ⟨c, d⟩
        · exact .inr ⟨a, .step hk b c⟩
        · exact .inr ⟨a, d⟩
theorem Wp.succ : Wp ps (r + 1) i j ↔ Wp ps r i j ∨ (Wp ps r i r ∧ Wp ps r r j) :=
  ⟨fun h => h.split rfl, fun h => h.elim (fun h => h.mono (Nat.le_succ _)) fun h => .step (Nat.lt_succ_self _) (h.1.mono (Nat.le_succ _)) (h.2.mono (Nat.le_succ _))⟩
theorem Wp.tg (h : Wp ps r i j) : TG ps i j := by
  induction h with
  | base h => exact .single h
  | step _ _ _ h1 h2 => exact h1.trans h2
theorem TG.wp (hp : ∀ p ∈ ps, p.1 < n ∧ p.2 < n) (h : TG ps i j) : Wp ps n i j := by
  induction h with
  | single h => exact .base h
  | tail _ h ih => exact .step (hp _ h).1 ih (.base h)
theorem Wp.zero : Wp ps 0 i j ↔ (i, j) ∈ ps := ⟨fun h => by
  cases h with
  | base h => exact h
  | step h => omega, .base⟩
end

def spCell : FSpec := ⟨[.s, .s], .s, fun ds R => ∃ ns k, ds = [.scr ns, .int k] ∧ 0 ≤ k ∧ ∀ r, R (.int r) [.non, .non]⟩
theorem ok_cell {T : List FSpec} : wD T spCell c_cell 2 := by
  refine wD_of fun ds R ⟨ns, k, e, hk, h⟩ => ?_
  subst e
  show wS _ [] _ _ [some (.s, .scr ns), some (.s, .int k)]
  unfold c_cell
  simp
  split
  · rename_i hl
    refine ⟨ns[k.toNat]'(by omega), ?_, rfl, h _⟩
    rw [atI_int hk hl]
    exact List.getElem?_eq_getElem _
  · exact ⟨rfl, h _⟩
def spStream : FSpec := ⟨[.s], .o .s, fun ds R => ∃ c, ds = [.int c] ∧ ∀ z, R (stD z) [.non]⟩
theorem ok_stream {T : List FSpec} : wD T spStream c_stream 1 := by
  refine wD_of fun ds R ⟨c, e, h⟩ => ?_
  subst e
  show wS _ [] _ _ [some (.s, .int c)]
  unfold c_stream
  have s3 : 3 ≤ sizeLine := by decide
  simp
  refine ⟨⟨by decide, by decide, by decide⟩, ?_⟩
  split
  · exact ⟨s3, rfl, h (c, 0, _)⟩
  · exact ⟨s3, rfl, h (0, 0, _)⟩
def spDraw : FSpec := ⟨[.o .s, .s], .s, fun ds R => ∃ (z : St3) (n : Nat), ds = [stD z, .int n] ∧ 0 < n ∧ n < 1000000 ∧ ∀ (r : Nat) z', r < n → R (.int r) [stD z', .non]⟩
@[simp] theorem spDraw_pm : spDraw.pm = [.o .s, .s] := rfl
@[simp] theorem spDraw_rm : spDraw.rm = .s := rfl
theorem mod_nat (a : Int) {n : Nat} (h : 0 < n) : ∃ r : Nat, a % n = (r : Nat) ∧ r < n := by
  have h1 := Int.emod_nonneg a (show (n : Int) ≠ 0 by omega)
  have h2 := Int.emod_lt_of_pos a (show (0 : Int) < n by omega)
  exact ⟨(a % n).toNat, by omega, by omega⟩
theorem ok_draw {T : List FSpec} : wD T spDraw c_draw 4 := by
  refine wD_of fun ds R ⟨⟨a, b, c⟩, n, e, hn, hn2, h⟩ => ?_
  subst e
  have cm : ∀ x y : Int, -(2 ^ 64) < y → y < 2 ^ 64 → CMul x y := fun x y h1 h2 => .inr ⟨h1, h2⟩
  have md : ∀ x k : Int, 0 < k → 0 ≤ x % k ∧ x % k < k := fun x k h => ⟨Int.emod_nonneg x (by omega), Int.emod_lt_of_pos x h⟩
  show wS _ [0] _ _ [some (.o .s, .lst [.int a, .int b, .int c]), some (.s, .int n), none, none]
  unfold c_draw
  simp
  split
  · refine ⟨by omega, ⟨by omega, by omega⟩, rfl, rfl, ?_⟩
    obtain ⟨r, e, hr⟩ := mod_nat a hn
    rw [e]
    exact h r (a / n, b, c) hr
  · refine ⟨cm _ _ (by decide) (by decide), cm _ _ (by decide) (by decide), ?_, cm _ _ (by decide) (by decide), ⟨by decide, by decide⟩, cm _ _ (by decide) (by decide), ⟨by decide, by decide⟩, by omega, rfl, rfl, ?_⟩
    · have := md (c * 48271 + (b + 1) * 69621) 2147483647 (by decide)
      exact cm _ _ (by omega) (by omega)
    · obtain ⟨r, e, hr⟩ := mod_nat _ hn
      rw [e]
      exact h r (a, b + 1, c) hr
def spMixed : FSpec := ⟨[.o .s, .s], .s, fun ds R => ∃ (z : St3) (xs : List D), ds = [stD z, .lst xs] ∧ xs.length < 1000000 ∧ ∀ z' ys, ys.Perm xs → R (.lst ys) [stD z', .non]⟩
@[simp] theorem spMixed_pm : spMixed.pm = [.o .s, .s] := rfl
@[simp] theorem spMixed_rm : spMixed.rm = .s := rfl
def IvMixed (xs : List D) (k : Nat) (ρ : Env) : Prop := ∃ z' rest found v, ρ = [some (.o .s, stD z'), some (.s, .lst xs), some (.o .s, .lst rest), some (.o .s, .lst found), v] ∧ rest.length + k = xs.length ∧ found.length = k ∧ (found ++ rest).Perm xs
theorem ok_mixed {T : List FSpec} (t2 : T[2]? = some spDraw) : wD T spMixed c_mixed 5 := by
  refine wD_of fun ds R ⟨z, xs, e, hl, h⟩ => ?_
  subst e
  show wS _ [0] _ _ [some (.o .s, stD z), some (.s, .lst xs), none, none, none]
  unfold c_mixed
  have s1 : (1000000 : Nat) ≤ sizeLine := by decide
  simp
  refine wS_rng1 (n := xs.length) (IvMixed xs) (fun R h => by simpa using h) (by omega) (by simp) ⟨z, xs, [], none, rfl, by omega, rfl, .refl _⟩ (fun k ρ hk ⟨z', rest, found, v, e, h1, h2, h3⟩ => ?_) (fun ρ ⟨z', rest, found, v, e, h1, h2, h3⟩ => ?_)
  · subst e
    simp [t2]
    refine ⟨by omega, z', rest.length, rfl, by omega, by omega, fun r z2 hr => ?_⟩
    simp
    refine ⟨by omega, r, seqIx hr, rest[r], List.getElem?_eq_getElem hr, by omega, z2, rest.eraseIdx r, found ++ [rest[r]], _, rfl, ?_, ?_, ?_⟩
    · rw [List.length_eraseIdx, if_pos hr]
      omega
    · rw [List.length_append, h2]
      rfl
    · refine List.Perm.trans ?_ h3
      rw [List.append_assoc]
      exact (erase_perm hr).append_left found
  · subst e
    simp
    refine ⟨rfl, rfl, h z' _ ?_⟩
    have : rest = [] := List.length_eq_zero_iff.mp (by omega)
    subst this
    rw [List.append_nil] at h3
    exact h3

def spClosed : FSpec := ⟨[.s, .s], .s, fun ds R => ∃ (n : Nat) (ps : List (Nat × Nat)), ds = [.int n, psD ps] ∧ n ≤ 64 ∧ (∀ p ∈ ps, p.1 < n ∧ p.2 < n) ∧ ∀ t, (∀ i j, i < n → j < n → (t i j = true ↔ TG ps i j)) → R (tabD n t) [.non, .non]⟩
@[simp] theorem spClosed_pm : spClosed.pm = [.s, .s] := rfl
@[simp] theorem spClosed_rm : spClosed.rm = .s := rfl
def EvClosed (n : Nat) (ps : List (Nat × Nat)) (t : Nat → Nat → Bool) (ρ : Env) : Prop := ∃ v3 v4 v5 v6, ρ = [some (.s, .int n), some (.s, psD ps), some (.o (.o .s), tabD n t), v3, v4, v5, v6]
def IvC1 (n : Nat) (ps : List (Nat × Nat)) (k : Nat) (ρ : Env) : Prop := ∃ t, EvClosed n ps t ρ ∧ ∀ i j, i < n → j < n → (t i j = true ↔ (i, j) ∈ ps.take k)
def IvC2 (n : Nat) (ps : List (Nat × Nat)) (r : Nat) (ρ : Env) : Prop := ∃ t, EvClosed n ps t ρ ∧ ∀ i j, i < n → j < n → (t i j = true ↔ Wp ps r i j)
/-- low rows are done -/
def IvC3 (n : Nat) (ps : List (Nat × Nat)) (r : Nat) (low : Nat) (ρ : Env) : Prop := ∃ t v3 v4 v5, ρ = [some (.s, .int n), some (.s, psD ps), some (.o (.o .s), tabD n t), v3, v4, v5, some (.s, .int (r : Nat))] ∧ ∀ i j, i < n → j < n → (t i j = true ↔ if i < low then Wp ps (r + 1) i j else Wp ps r i j)
def IvC4 (n : Nat) (ps : List (Nat × Nat)) (r low : Nat) (high : Nat) (ρ : Env) : Prop := ∃ t v3 v5, ρ = [some (.s, .int n), some (.s, psD ps), some (.o (.o .s), tabD n t), v3, some (.s, .int (low : Nat)), v5, some (.s, .int (r : Nat))] ∧
  ∀ i j, i < n → j < n → (t i j = true ↔ if i < low ∨ (i = low ∧ j < high) then Wp ps (r + 1) i j else Wp ps r i j)
theorem ok_closed {T : List FSpec} : wD T spClosed c_closed 7 := by
  refine wD_of fun ds R ⟨n, ps, e, hn, hp, h⟩ => ?_
  subst e
  show wS _ [] _ _ [some (.s, .int n), some (.s, psD ps), none, none, none, none, none]
  unfold c_closed
  have s1 : (1000000 : Nat) ≤ sizeLine := by decide
  rw [x_Sseq, x_Sasg]
  refine wE_compR0 (n := n) (fun i => .lst (rowL n (fun _ _ => false) i)) (fun R h => by simpa using h) (by omega) (by simp) (by simp) (fun k hk R h => ?_) ?_
  · simp
    refine ⟨by omega, by omega, by omega, ?_⟩
    rw [row_false (i := k)]
    exact h _ rfl
  simp
  refine wS_itr (IvC1 n ps) (.inl rfl) (fun R h => by simpa [psD] using h) ⟨fun _ _ => false, ⟨_, _, _, _, rfl⟩, fun i j _ _ => by simp⟩ (fun k x ρ hx hI => ?_) (fun ρ hI => ?_)
  · rw [List.getElem?_map] at hx
    cases hq : ps[k]? with
    | none =>
      rw [hq] at hx
      cases hx
    | some p =>
      rw [hq] at hx
      cases hx
      obtain ⟨t, ⟨v3, v4, v5, v6, e⟩, ht⟩ := hI
      subst e
      obtain ⟨hp1, hp2⟩ := hp p (List.mem_of_getElem? hq)
      simp [pD, ixN_nat, tabL_get, tab_set, hp1, hp2]
      refine ⟨_, ⟨_, _, _, _, rfl⟩, fun i j hi hj => ?_⟩
      rw [List.take_succ, hq]
      unfold setT
      by_cases e : i = p.1 ∧ j = p.2
      · rw [if_pos e]
        obtain ⟨rfl, rfl⟩ := e
        simp
      · rw [if_neg e, ht i j hi hj, List.mem_append]
        refine ⟨.inl, fun z => z.elim id fun z => absurd ?_ e⟩
        have : (i, j) = p := by simpa using z
        rw [← this]
        exact ⟨rfl, rfl⟩
  · obtain ⟨t, ⟨v3, v4, v5, v6, e⟩, ht⟩ := hI
    subst e
    rw [List.length_map, List.take_length] at ht
    rw [x_Sseq]
    refine wS_rng1 (IvC2 n ps) (n := n) (fun R h => by simpa using h) (by omega) (by simp) ⟨t, ⟨_, _, _, _, rfl⟩, fun i j hi hj => by rw [ht i j hi hj, Wp.zero]⟩ (fun r ρ hr hI => ?_) (fun ρ hI => ?_)
    · obtain ⟨t, ⟨v3, v4, v5, v6, e⟩, ht⟩ := hI
      subst e
      simp
      refine wS_rng1 (IvC3 n ps r) (n := n) (fun R h => by simpa using h) (by omega) (by simp) ⟨t, _, _, _, rfl, fun i j hi hj => by rw [ht i j hi hj, if_neg (Nat.not_lt_zero _)]⟩ (fun low ρ hlow hI => ?_) (fun ρ hI => ?_)
      · obtain ⟨t, v3, v4, v5, e, ht⟩ := hI
        subst e
        have hlr : t low r = true ↔ Wp ps r low r := by
          rw [ht low r hlow hr, if_neg (Nat.lt_irrefl _)]
        simp [ixN_nat, tabL_get, rowL_get, hlow, hr]
        split
        · rename_i hb
          refine wS_rng1 (IvC4 n ps r low) (n := n) (fun R h => by simpa using h) (by omega) (by simp) ⟨t, _, _, rfl, fun i j hi hj => ?_⟩ (fun high ρ hhigh hI => ?_) (fun ρ hI => ?_)
          · rw [ht i j hi hj]
            by_cases e : i < low
            · rw [if_pos e, if_pos (.inl e)]
            · rw [if_neg e, if_neg (by omega)]
          · obtain ⟨t, v3, v5, e, ht⟩ := hI
            subst e
            simp [ixN_nat, tabL_get, rowL_get, hhigh, hr]
            have hrh : t r high = true ↔ Wp ps r r high := by
              rw [ht r high hr hhigh]
              split
              · rw [Wp.succ]
                exact ⟨fun z => z.elim id fun z => z.2, .inl⟩
              · exact Iff.rfl
            have lh : Wp ps (r + 1) low high ↔ Wp ps r low high ∨ Wp ps r r high := by
              rw [Wp.succ]
              exact ⟨fun z => z.elim .inl fun z => .inr z.2, fun z => z.elim .inl fun z => .inr ⟨hlr.mp hb, z⟩⟩
            split
            · rename_i hb2
              simp [ixN_nat, tabL_get, tab_set, hlow, hhigh]
              refine ⟨_, _, _, rfl, fun i j hi hj => ?_⟩
              unfold setT
              by_cases e : i = low ∧ j = high
              · obtain ⟨rfl, rfl⟩ := e
                rw [if_pos ⟨rfl, rfl⟩, if_pos (.inr ⟨rfl, Nat.lt_succ_self _⟩), lh]
                exact ⟨fun _ => .inr (hrh.mp hb2), fun _ => rfl⟩
              · rw [if_neg e, ht i j hi hj]
                by_cases e1 : i < low ∨ (i = low ∧ j < high)
                · rw [if_pos e1, if_pos (by omega)]
                · rw [if_neg e1, if_neg (by omega)]
            · rename_i hb2
              refine ⟨_, _, _, rfl, fun i j hi hj => ?_⟩
              rw [ht i j hi hj]
              by_cases e : i = low ∧ j = high
              · obtain ⟨rfl, rfl⟩ := e
                rw [if_neg (by omega), if_pos (.inr ⟨rfl, Nat.lt_succ_self _⟩), lh]
                exact ⟨.inl, fun z => z.elim id fun z => absurd (hrh.mpr z) hb2⟩
              · by_cases e1 : i < low ∨ (i = low ∧ j < high)
                · rw [if_pos e1, if_pos (by omega)]
                · rw [if_neg e1, if_neg (by omega)]
          · obtain ⟨t, v3, v5, e, ht⟩ := hI
            subst e
            simp
            refine ⟨_, _, _, _, rfl, fun i j hi hj => ?_⟩
            rw [ht i j hi hj]
            by_cases e : i < low + 1
            · rw [if_pos e, if_pos (by omega)]
            · rw [if_neg e, if_neg (by omega)]
        · rename_i hb
          refine ⟨_, _, _, _, rfl, fun i j hi hj => ?_⟩
          rw [ht i j hi hj]
          by_cases e1 : i < low
          · rw [if_pos e1, if_pos (by omega)]
          · rw [if_neg e1]
            split
            · have : i = low := by omega
              subst this
              rw [Wp.succ]
              exact ⟨.inl, fun z => z.elim id fun z => absurd (hlr.mpr z.1) hb⟩
            · exact Iff.rfl
      · obtain ⟨t, v3, v4, v5, e, ht⟩ := hI
        subst e
        simp
        refine ⟨_, ⟨_, _, _, _, rfl⟩, fun i j hi hj => ?_⟩
        rw [ht i j hi hj, if_pos hi]
    · obtain ⟨t, ⟨v3, v4, v5, v6, e⟩, ht⟩ := hI
      subst e
      simp
      refine ⟨rfl, h t fun i j hi hj => ?_⟩
      rw [ht i j hi hj]
      exact ⟨Wp.tg, TG.wp hp⟩

/-! ### what the draws answer -/
theorem run_draw {z : St3} {i : Int} {P : D → List D → Prop} (h0 : 0 < i) (h1 : i < 1000000) (h : ∀ (r : Nat) z', (r : Int) < i → P (.int r) [stD z', .non]) : spDraw.run [stD z, .int i] P :=
  ⟨z, i.toNat, by rw [Int.toNat_of_nonneg (by omega)], by omega, by omega, fun r z' hr => h r z' (by omega)⟩
theorem perm_map_inv {α β : Type} {f : α → β} (g : β → α) (hg : ∀ x, g (f x) = x) {xs : List α} {ys : List β} (h : ys.Perm (xs.map f)) : ∃ zs : List α, ys = zs.map f ∧ zs.Perm xs := by
  refine ⟨ys.map g, ?_, ?_⟩
  · rw [List.map_map]
    have : ∀ y ∈ ys, (f ∘ g) y = y := fun y hy => by
      obtain ⟨x, _, rfl⟩ := List.mem_map.mp (h.mem_iff.mp hy)
      show f (g (f x)) = f x
      rw [hg]
    rw [List.map_congr_left this, List.map_id']
  · have := h.map g
    rw [List.map_map, show (g ∘ f) = id from funext hg, List.map_id] at this
    exact this
def nsL (ns : List Nat) : List D := ns.map fun n => .int (n : Nat)
@[simp] theorem nsL_len {ns : List Nat} : (nsL ns).length = ns.length := List.length_map ..
theorem nsL_get {ns : List Nat} {i : Nat} (h : i < ns.length) : (nsL ns)[i]? = some (.int (ns[i] : Nat)) := by
  unfold nsL
  rw [List.getElem?_map, List.getElem?_eq_getElem h]
  rfl
@[simp] theorem nsL_idx {ns : List Nat} {i : Nat} {h : i < (nsL ns).length} : (nsL ns)[i] = .int (ns[i]'(by rw [nsL_len] at h; exact h) : Nat) := by
  have h2 : i < ns.length := by rw [nsL_len] at h; exact h
  have := nsL_get (ns := ns) h2
  rw [List.getElem?_eq_getElem h] at this
  exact Option.some.inj this
theorem atI_ns {ns : List Nat} {i : Nat} (h : i < ns.length) : atI (nsL ns) (i : Int) = some (.int (ns[i] : Nat)) := by
  rw [atI_int (by omega) (by rw [nsL_len]; omega), Int.toNat_natCast, nsL_get h]
theorem rng_ns {n : Nat} : rangeD 0 1 n = nsL (List.range n) := rng0
theorem run_mixed {z : St3} {xs : List D} {P : D → List D → Prop} (h0 : xs.length < 1000000) (h : ∀ z' ys, ys.Perm xs → P (.lst ys) [stD z', .non]) : spMixed.run [stD z, .lst xs] P := ⟨z, xs, rfl, h0, h⟩
theorem run_names {z : St3} {n : Nat} {P : D → List D → Prop} (h0 : n < 1000000) (h : ∀ z' ns, ns.Perm (List.range n) → ns.length = n → P (.lst (nsL ns)) [stD z', .non]) : spMixed.run [stD z, .lst (rangeD 0 1 n)] P :=
  run_mixed (by rw [rng_len]; exact h0) fun z' ys hy => by
    rw [rng_ns] at hy
    obtain ⟨zs, rfl, hz⟩ := perm_map_inv (f := fun n : Nat => D.int (n : Nat)) (fun d => match d with | .int i => i.toNat | _ => 0) (fun x => Int.toNat_natCast x) hy
    exact h z' zs hz (by rw [hz.length_eq, List.length_range])
/-! ### pairs of numbers by a test -/
def prs (n : Nat) (t : Nat → Nat → Bool) (k : Nat) : List (Nat × Nat) := (List.range k).flatMap fun i => ((List.range n).filter (t i)).map fun j => (i, j)
theorem prs_succ {n k : Nat} {t : Nat → Nat → Bool} : prs n t (k + 1) = prs n t k ++ ((List.range n).filter (t k)).map fun j => (k, j) := by
  unfold prs
  rw [List.range_succ, List.flatMap_append]
  simp
theorem prs_len {n : Nat} {t : Nat → Nat → Bool} : ∀ {k : Nat}, (prs n t k).length ≤ k * n
  | 0 => Nat.zero_le _
  | k + 1 => by
    rw [prs_succ, List.length_append, List.length_map, Nat.succ_mul]
    have h1 := prs_len (n := n) (t := t) (k := k)
    have h2 := List.length_filter_le (t k) (List.range n)
    rw [List.length_range] at h2
    omega
theorem prs_mem {n k : Nat} {t : Nat → Nat → Bool} {p : Nat × Nat} : p ∈ prs n t k ↔ p.1 < k ∧ p.2 < n ∧ t p.1 p.2 = true := by
  unfold prs
  simp only [List.mem_flatMap, List.mem_range, List.mem_map, List.mem_filter]
  constructor
  · rintro ⟨i, hi, j, ⟨hj, ht⟩, rfl⟩
    exact ⟨hi, hj, ht⟩
  · rintro ⟨h1, h2, h3⟩
    exact ⟨p.1, h1, p.2, ⟨h2, h3⟩, rfl⟩
theorem prs_bound {n k : Nat} {t : Nat → Nat → Bool} {p : Nat → Bool} (hn : n ≤ 64) (hk : k ≤ 64) : (prs n t k).length + ((List.range n).filter p).length ≤ sizeLine := by
  have h1 := prs_len (n := n) (t := t) (k := k)
  have h2 := List.length_filter_le p (List.range n)
  rw [List.length_range] at h2
  have h3 : k * n ≤ 64 * 64 := Nat.mul_le_mul hk hn
  have h4 : 64 * 64 + 64 ≤ sizeLine := by decide
  omega
theorem prs_map {n k : Nat} {t : Nat → Nat → Bool} : (prs n t k).map pD ++ ((List.range n).filter (t k)).map (fun j => D.tup [.int (k : Nat), .int (j : Nat)]) = (prs n t (k + 1)).map pD := by
  rw [prs_succ, List.map_append, List.map_map]
  rfl
end Y
namespace Y
open PySem PySem.Spec PyProof.Rows L2

def c_any_spans : C :=
 (.seq (.asg 4 (.o .s) (.lst .s .nil))
 (.seq (.for_ (.tn 5) (.rng1 (.var 1))
 (.seq (.asg 6 .s (.call 2 (.cons (.bor 0) (.cons (.var 2) .nil))))
 (.seq (.asg 7 .s (.bin .Add (.var 6) (.var 3)))
 (.seq (.ifs (.cmp .Lt (.var 3) (.int 0)) (.seq (.asg 7 .s (.bin .Add (.var 6) (.call 2 (.cons (.bor 0) (.cons (.var 2) .nil)))))
 .skip) .skip)
 (.seq (.ex (.app (.bor 4) (.tup (.cons (.var 6) (.cons (.var 7) .nil)))))
 .skip)))))
 (.seq (.ret (.mv 4))
 .skip)))
/- N any_spans = 0:stream_here 1:size 2:most 3:length 4:spans 5:k 6:left 7:right -/
def c_by_spans : C :=
 (.seq (.asg 1 .s (.b1 .len (.var 0)))
 (.seq (.asg 2 .s (.lst .s .nil))
 (.seq (.for_ (.tn 3) (.rng1 (.var 1))
 (.seq (.asg 2 .s (.bin .Add (.var 2) (.comp .s [("_law_high", 4)] (.tn 4) (.rng1 (.var 1)) (.cons (.cmp .Lt (.idx (.idx (.var 0) (.var 3)) (.int 1)) (.idx (.idx (.var 0) (.var 4)) (.int 0))) .nil) (.tup (.cons (.var 3) (.cons (.var 4) .nil))))))
 .skip))
 (.seq (.ret (.var 2))
 .skip))))
/- N by_spans = 0:spans 1:size 2:found 3:low 4:high -/
def c_any_arcs : C :=
 (.seq (.asg 2 .s (.bin .Add (.int 2) (.call 2 (.cons (.bor 0) (.cons (.bin .Add (.var 1) (.int 2)) .nil)))))
 (.seq (.asg 3 (.o .s) (.lst .s .nil))
 (.seq (.for_ (.tn 4) (.rng1 (.var 1))
 (.seq (.asg 5 .s (.call 2 (.cons (.bor 0) (.cons (.bin .Sub (.var 2) (.int 1)) .nil))))
 (.seq (.ex (.app (.bor 3) (.tup (.cons (.var 5) (.cons (.bin .Add (.bin .Add (.var 5) (.int 1)) (.call 2 (.cons (.bor 0) (.cons (.bin .Sub (.bin .Sub (.var 2) (.int 1)) (.var 5)) .nil)))) .nil)))))
 .skip)))
 (.seq (.ret (.mv 3))
 .skip))))
/- N any_arcs = 0:stream_here 1:size 2:nodes 3:arcs 4:k 5:tail -/
def c_by_arcs : C :=
 (.seq (.asg 1 .s (.b1 .len (.var 0)))
 (.seq (.asg 2 .s (.lst .s .nil))
 (.seq (.for_ (.tn 3) (.rng1 (.var 1))
 (.seq (.asg 2 .s (.bin .Add (.var 2) (.comp .s [("_law_high", 4)] (.tn 4) (.rng1 (.var 1)) (.cons (.cmp .Eq (.idx (.idx (.var 0) (.var 3)) (.int 1)) (.idx (.idx (.var 0) (.var 4)) (.int 0))) .nil) (.tup (.cons (.var 3) (.cons (.var 4) .nil))))))
 .skip))
 (.seq (.ret (.var 2))
 .skip))))
/- N by_arcs = 0:arcs 1:size 2:found 3:low 4:high -/
def c_any_parents : C :=
 (.seq (.asg 2 .s (.call 3 (.cons (.bor 0) (.cons (.lrange (.var 1)) .nil))))
 (.seq (.asg 3 (.o .s) (.bin .Mult (.lst .s (.cons .non .nil)) (.var 1)))
 (.seq (.for_ (.tn 4) (.rng2 (.int 1) (.var 1))
 (.seq (.ifs (.cmp .Gt (.call 2 (.cons (.bor 0) (.cons (.int 5) .nil))) (.int 0)) (.seq (.setix (.bor 3) (.idx (.var 2) (.var 4)) (.idx (.var 2) (.call 2 (.cons (.bor 0) (.cons (.var 4) .nil)))))
 .skip) .skip)
 .skip))
 (.seq (.ret (.mv 3))
 .skip))))
/- N any_parents = 0:stream_here 1:size 2:names 3:parents 4:k -/
def c_by_parents : C :=
 (.seq (.ret (.comp .s [("_law_k", 1)] (.tn 1) (.rng1 (.b1 .len (.var 0))) (.cons (.cmp .IsNot (.idx (.var 0) (.var 1)) .non) .nil) (.tup (.cons (.idx (.var 0) (.var 1)) (.cons (.var 1) .nil)))))
 .skip)
/- N by_parents = 0:parents 1:k -/
def c_by_ranks : C :=
 (.seq (.asg 1 .s (.b1 .len (.var 0)))
 (.seq (.asg 2 .s (.lst .s .nil))
 (.seq (.for_ (.tn 3) (.rng1 (.var 1))
 (.seq (.asg 2 .s (.bin .Add (.var 2) (.comp .s [("_law_high", 4)] (.tn 4) (.rng1 (.var 1)) (.cons (.cmp .Lt (.idx (.var 0) (.var 3)) (.idx (.var 0) (.var 4))) .nil) (.tup (.cons (.var 3) (.cons (.var 4) .nil))))))
 .skip))
 (.seq (.ret (.var 2))
 .skip))))
/- N by_ranks = 0:ranks 1:size 2:found 3:low 4:high -/
def spPairs : FSpec := ⟨[.s], .s, fun ds R => ∃ (n : Nat) (t : Nat → Nat → Bool), ds = [tabD n t] ∧ n ≤ 64 ∧ R (psD (prs n t n)) [.non]⟩
@[simp] theorem spPairs_pm : spPairs.pm = [.s] := rfl
@[simp] theorem spPairs_rm : spPairs.rm = .s := rfl
def IvPairs (x : D) (n : Nat) (t : Nat → Nat → Bool) (k : Nat) (ρ : Env) : Prop := ∃ v2 v3, ρ = [some (.s, x), some (.s, psD (prs n t k)), v2, v3]
theorem ok_pairs {T : List FSpec} : wD T spPairs c_pairs 4 := by
  refine wD_of fun ds R ⟨n, t, e, hn, h⟩ => ?_
  subst e
  show wS _ [] _ _ [some (.s, tabD n t), none, none, none]
  unfold c_pairs
  have s1 : (1000000 : Nat) ≤ sizeLine := by decide
  simp
  refine wS_rng1 (IvPairs (tabD n t) n t) (n := n) (fun R h => by simpa using h) (by omega) (by simp) ⟨_, _, rfl⟩ (fun k ρ hk ⟨v2, v3, e⟩ => ?_) (fun ρ ⟨v2, v3, e⟩ => ?_)
  · subst e
    simp [psD]
    refine wE_compR (n := n) (t k) (fun j => D.tup [.int (k : Nat), .int (j : Nat)]) (fun R h => by simpa using h) (by omega) (by simp) (by simp) (fun j hj Q h => ?_) (fun j hj _ R h => ?_) ?_
    · simp [atI_tab, atI_row, hk, hj]
      exact h
    · simp
      exact ⟨by omega, h _ rfl⟩
    · simp
      refine ⟨prs_bound hn (by omega), ?_⟩
      rw [prs_map]
      exact ⟨_, _, rfl⟩
  · subst e
    simp
    exact ⟨rfl, h⟩
/-- pairs that can be laid in a row -/
def Acyc (n : Nat) (ps : List (Nat × Nat)) : Prop := ps.length ≤ 100000 ∧ ∃ r : Nat → Nat, ∀ p ∈ ps, p.1 < n ∧ p.2 < n ∧ r p.1 < r p.2

def spAnySpans : FSpec := ⟨[.o .s, .s, .s, .s], .s, fun ds R => ∃ (z : St3) (n most : Nat) (len : Int), ds = [stD z, .int n, .int most, .int len] ∧ n ≤ 64 ∧ 0 < most ∧ most < 1000 ∧ -1 ≤ len ∧
  ∀ z' sp, sp.length = n → (∀ p ∈ sp, p.1 ≤ p.2) → R (psD sp) [stD z', .non, .non, .non]⟩
@[simp] theorem spAnySpans_pm : spAnySpans.pm = [.o .s, .s, .s, .s] := rfl
@[simp] theorem spAnySpans_rm : spAnySpans.rm = .s := rfl
def IvAnySpans (n most len : D) (k : Nat) (ρ : Env) : Prop := ∃ z sp v5 v6 v7, ρ = [some (.o .s, stD z), some (.s, n), some (.s, most), some (.s, len), some (.o .s, psD sp), v5, v6, v7] ∧ sp.length = k ∧ ∀ p ∈ sp, p.1 ≤ p.2
theorem psD_app {ps : List (Nat × Nat)} {a b : Nat} : ps.map pD ++ [D.tup [.int (a : Nat), .int (b : Nat)]] = (ps ++ [(a, b)]).map pD := by
  rw [List.map_append]
  rfl
theorem ok_any_spans {T : List FSpec} (t2 : T[2]? = some spDraw) : wD T spAnySpans c_any_spans 8 := by
  refine wD_of fun ds R ⟨z, n, most, len, e, hn, hm0, hm, hlen, h⟩ => ?_
  subst e
  show wS _ [0] _ _ [some (.o .s, stD z), some (.s, .int n), some (.s, .int most), some (.s, .int len), none, none, none, none]
  unfold c_any_spans
  have s1 : (1000000 : Nat) ≤ sizeLine := by decide
  have s2 : 2 ≤ sizeLine := by decide
  simp
  refine wS_rng1 (IvAnySpans (.int n) (.int most) (.int len)) (n := n) (fun R h => by simpa using h) (by omega) (by simp) ⟨z, [], _, _, _, rfl, rfl, by simp⟩ (fun k ρ hk ⟨z1, sp, v5, v6, v7, e, h1, h2⟩ => ?_) (fun ρ ⟨z1, sp, v5, v6, v7, e, h1, h2⟩ => ?_)
  · subst e
    simp [t2]
    refine run_draw (by omega) (by omega) fun r z2 hr => ?_
    simp
    split
    · refine run_draw (by omega) (by omega) fun r2 z3 hr2 => ?_
      simp [psD]
      refine ⟨by omega, s2, by omega, ?_⟩
      rw [← Int.natCast_add, psD_app]
      refine ⟨z3, _, _, _, _, rfl, ?_, ?_⟩
      · rw [List.length_append, h1]
        rfl
      · intro p hp
        rcases List.mem_append.mp hp with hp | hp
        · exact h2 p hp
        · have : p = (r, r + r2) := by simpa using hp
          subst this
          show r ≤ r + r2
          omega
    · rename_i hl
      simp [psD]
      refine ⟨by omega, s2, by omega, ?_⟩
      have e : (r : Int) + len = ((r + len.toNat : Nat) : Int) := by omega
      rw [e, psD_app]
      refine ⟨z2, _, _, _, _, rfl, ?_, ?_⟩
      · rw [List.length_append, h1]
        rfl
      · intro p hp
        rcases List.mem_append.mp hp with hp | hp
        · exact h2 p hp
        · have : p = (r, r + len.toNat) := by simpa using hp
          subst this
          show r ≤ r + _
          omega
  · subst e
    simp
    exact ⟨rfl, rfl, h z1 sp h1 h2⟩
def ixP (sp : List (Nat × Nat)) (i : Nat) : Nat × Nat := sp.getD i (0, 0)
theorem atI_ps {ps : List (Nat × Nat)} {i : Nat} (h : i < ps.length) : atI (ps.map pD) (i : Int) = some (.tup [.int ((ixP ps i).1 : Nat), .int ((ixP ps i).2 : Nat)]) := by
  rw [atI_int (by omega) (by rw [List.length_map]; omega), Int.toNat_natCast, List.getElem?_map, List.getElem?_eq_getElem h]
  unfold ixP
  rw [List.getD_eq_getElem?_getD, List.getElem?_eq_getElem h]
  rfl
def spBySpans : FSpec := ⟨[.s], .s, fun ds R => ∃ sp : List (Nat × Nat), ds = [psD sp] ∧ sp.length ≤ 64 ∧ R (psD (prs sp.length (fun i j => decide ((ixP sp i).2 < (ixP sp j).1)) sp.length)) [.non]⟩
@[simp] theorem spBySpans_pm : spBySpans.pm = [.s] := rfl
@[simp] theorem spBySpans_rm : spBySpans.rm = .s := rfl
def IvBy (x : D) (n : Nat) (t : Nat → Nat → Bool) (k : Nat) (ρ : Env) : Prop := ∃ v3 v4, ρ = [some (.s, x), some (.s, .int (n : Nat)), some (.s, psD (prs n t k)), v3, v4]
theorem ok_by_spans {T : List FSpec} : wD T spBySpans c_by_spans 5 := by
  refine wD_of fun ds R ⟨sp, e, hn, h⟩ => ?_
  subst e
  show wS _ [] _ _ [some (.s, psD sp), none, none, none, none]
  unfold c_by_spans
  have s1 : (1000000 : Nat) ≤ sizeLine := by decide
  simp [psD]
  refine wS_rng1 (IvBy (psD sp) sp.length (fun i j => decide ((ixP sp i).2 < (ixP sp j).1))) (n := sp.length) (fun R h => by simpa using h) (by omega) (by simp) ⟨_, _, rfl⟩ (fun k ρ hk ⟨v2, v3, e⟩ => ?_) (fun ρ ⟨v2, v3, e⟩ => ?_)
  · subst e
    simp [psD]
    refine wE_compR (n := sp.length) (fun j => decide ((ixP sp k).2 < (ixP sp j).1)) (fun j => D.tup [.int (k : Nat), .int (j : Nat)]) (fun R h => by simpa using h) (by omega) (by simp) (by simp) (fun j hj Q h => ?_) (fun j hj _ R h => ?_) ?_
    · simp [atI_ps, hk, hj]
      simpa using h
    · simp
      exact ⟨by omega, h _ rfl⟩
    · simp
      refine ⟨prs_bound hn (by omega), ?_⟩
      rw [prs_map (t := fun i j => decide ((ixP sp i).2 < (ixP sp j).1))]
      exact ⟨_, _, rfl⟩
  · subst e
    simp
    exact ⟨rfl, h⟩
theorem acyc_spans {sp : List (Nat × Nat)} (h : ∀ p ∈ sp, p.1 ≤ p.2) (hl : sp.length ≤ 64) : Acyc sp.length (prs sp.length (fun i j => decide ((ixP sp i).2 < (ixP sp j).1)) sp.length) := by
  refine ⟨?_, fun i => (ixP sp i).1, fun p hp => ?_⟩
  · have h1 := prs_len (n := sp.length) (t := fun i j => decide ((ixP sp i).2 < (ixP sp j).1)) (k := sp.length)
    have h3 : sp.length * sp.length ≤ 64 * 64 := Nat.mul_le_mul hl hl
    omega
  obtain ⟨h1, h2, h3⟩ := prs_mem.mp hp
  have h3 : (ixP sp p.1).2 < (ixP sp p.2).1 := of_decide_eq_true h3
  refine ⟨h1, h2, ?_⟩
  have : (ixP sp p.1) ∈ sp := by
    unfold ixP
    rw [List.getD_eq_getElem?_getD, List.getElem?_eq_getElem h1]
    exact List.getElem_mem _
  have := h _ this
  show (ixP sp p.1).1 < (ixP sp p.2).1
  omega
end Y
namespace Y
open PySem PySem.Spec PyProof.Rows L2

def spAnyArcs : FSpec := ⟨[.o .s, .s], .s, fun ds R => ∃ (z : St3) (n : Nat), ds = [stD z, .int n] ∧ n ≤ 64 ∧ ∀ z' sp, sp.length = n → (∀ p ∈ sp, p.1 < p.2) → R (psD sp) [stD z', .non]⟩
@[simp] theorem spAnyArcs_pm : spAnyArcs.pm = [.o .s, .s] := rfl
@[simp] theorem spAnyArcs_rm : spAnyArcs.rm = .s := rfl
def IvAnyArcs (n nodes : D) (k : Nat) (ρ : Env) : Prop := ∃ z sp v4 v5, ρ = [some (.o .s, stD z), some (.s, n), some (.s, nodes), some (.o .s, psD sp), v4, v5] ∧ sp.length = k ∧ ∀ p ∈ sp, p.1 < p.2
theorem ok_any_arcs {T : List FSpec} (t2 : T[2]? = some spDraw) : wD T spAnyArcs c_any_arcs 6 := by
  refine wD_of fun ds R ⟨z, n, e, hn, h⟩ => ?_
  subst e
  show wS _ [0] _ _ [some (.o .s, stD z), some (.s, .int n), none, none, none, none]
  unfold c_any_arcs
  have s1 : (1000000 : Nat) ≤ sizeLine := by decide
  have s2 : 2 ≤ sizeLine := by decide
  simp [t2]
  refine run_draw (by omega) (by omega) fun r0 z0 hr0 => ?_
  simp
  refine wS_rng1 (IvAnyArcs (.int n) (.int (2 + r0))) (n := n) (fun R h => by simpa using h) (by omega) (by simp) ⟨z0, [], _, _, rfl, rfl, by simp⟩ (fun k ρ hk ⟨z1, sp, v4, v5, e, h1, h2⟩ => ?_) (fun ρ ⟨z1, sp, v4, v5, e, h1, h2⟩ => ?_)
  · subst e
    simp [t2]
    refine run_draw (by omega) (by omega) fun r z2 hr => ?_
    simp [psD, t2]
    refine ⟨by omega, run_draw (by omega) (by omega) fun r2 z3 hr2 => ?_⟩
    simp [psD]
    refine ⟨s2, by omega, ?_⟩
    have e : (r : Int) + 1 + (r2 : Int) = ((r + 1 + r2 : Nat) : Int) := by omega
    rw [e, psD_app]
    refine ⟨z3, _, _, _, rfl, ?_, ?_⟩
    · rw [List.length_append, h1]
      rfl
    · intro p hp
      rcases List.mem_append.mp hp with hp | hp
      · exact h2 p hp
      · have : p = (r, r + 1 + r2) := by simpa using hp
        subst this
        show r < r + 1 + r2
        omega
  · subst e
    simp
    exact ⟨rfl, rfl, h z1 sp h1 h2⟩
def spByArcs : FSpec := ⟨[.s], .s, fun ds R => ∃ sp : List (Nat × Nat), ds = [psD sp] ∧ sp.length ≤ 64 ∧ R (psD (prs sp.length (fun i j => decide ((ixP sp i).2 = (ixP sp j).1)) sp.length)) [.non]⟩
@[simp] theorem spByArcs_pm : spByArcs.pm = [.s] := rfl
@[simp] theorem spByArcs_rm : spByArcs.rm = .s := rfl
theorem ok_by_arcs {T : List FSpec} : wD T spByArcs c_by_arcs 5 := by
  refine wD_of fun ds R ⟨sp, e, hn, h⟩ => ?_
  subst e
  show wS _ [] _ _ [some (.s, psD sp), none, none, none, none]
  unfold c_by_arcs
  have s1 : (1000000 : Nat) ≤ sizeLine := by decide
  simp [psD]
  refine wS_rng1 (IvBy (psD sp) sp.length (fun i j => decide ((ixP sp i).2 = (ixP sp j).1))) (n := sp.length) (fun R h => by simpa using h) (by omega) (by simp) ⟨_, _, rfl⟩ (fun k ρ hk ⟨v2, v3, e⟩ => ?_) (fun ρ ⟨v2, v3, e⟩ => ?_)
  · subst e
    simp [psD]
    refine wE_compR (n := sp.length) (fun j => decide ((ixP sp k).2 = (ixP sp j).1)) (fun j => D.tup [.int (k : Nat), .int (j : Nat)]) (fun R h => by simpa using h) (by omega) (by simp) (by simp) (fun j hj Q h => ?_) (fun j hj _ R h => ?_) ?_
    · simp [atI_ps, hk, hj, Int.natCast_inj]
      simpa using h
    · simp
      exact ⟨by omega, h _ rfl⟩
    · simp
      refine ⟨prs_bound hn (by omega), ?_⟩
      rw [prs_map (t := fun i j => decide ((ixP sp i).2 = (ixP sp j).1))]
      exact ⟨_, _, rfl⟩
  · subst e
    simp
    exact ⟨rfl, h⟩
theorem prs_len2 {n : Nat} {t : Nat → Nat → Bool} (h : n ≤ 64) : (prs n t n).length ≤ 100000 := by
  have h1 := prs_len (n := n) (t := t) (k := n)
  have h3 : n * n ≤ 64 * 64 := Nat.mul_le_mul h h
  omega
theorem acyc_arcs {sp : List (Nat × Nat)} (h : ∀ p ∈ sp, p.1 < p.2) (hl : sp.length ≤ 64) : Acyc sp.length (prs sp.length (fun i j => decide ((ixP sp i).2 = (ixP sp j).1)) sp.length) := by
  refine ⟨prs_len2 hl, fun i => (ixP sp i).1, fun p hp => ?_⟩
  obtain ⟨h1, h2, h3⟩ := prs_mem.mp hp
  have h3 : (ixP sp p.1).2 = (ixP sp p.2).1 := of_decide_eq_true h3
  refine ⟨h1, h2, ?_⟩
  have : (ixP sp p.1) ∈ sp := by
    unfold ixP
    rw [List.getD_eq_getElem?_getD, List.getElem?_eq_getElem h1]
    exact List.getElem_mem _
  have := h _ this
  show (ixP sp p.1).1 < (ixP sp p.2).1
  omega

def nm (ns : List Nat) (i : Nat) : Nat := ns.getD i 0
def spByRanks : FSpec := ⟨[.s], .s, fun ds R => ∃ ns : List Nat, ds = [.lst (nsL ns)] ∧ ns.length ≤ 64 ∧ R (psD (prs ns.length (fun i j => decide (nm ns i < nm ns j)) ns.length)) [.non]⟩
@[simp] theorem spByRanks_pm : spByRanks.pm = [.s] := rfl
@[simp] theorem spByRanks_rm : spByRanks.rm = .s := rfl
theorem atI_nsD {ns : List Nat} {i : Nat} (h : i < ns.length) : atI (nsL ns) (i : Int) = some (.int (nm ns i : Nat)) := by
  rw [atI_ns h]
  unfold nm
  rw [List.getD_eq_getElem?_getD, List.getElem?_eq_getElem h]
  rfl
theorem ok_by_ranks {T : List FSpec} : wD T spByRanks c_by_ranks 5 := by
  refine wD_of fun ds R ⟨sp, e, hn, h⟩ => ?_
  subst e
  show wS _ [] _ _ [some (.s, .lst (nsL sp)), none, none, none, none]
  unfold c_by_ranks
  have s1 : (1000000 : Nat) ≤ sizeLine := by decide
  simp
  refine wS_rng1 (IvBy (.lst (nsL sp)) sp.length (fun i j => decide (nm sp i < nm sp j))) (n := sp.length) (fun R h => by simpa using h) (by omega) (by simp) ⟨_, _, rfl⟩ (fun k ρ hk ⟨v2, v3, e⟩ => ?_) (fun ρ ⟨v2, v3, e⟩ => ?_)
  · subst e
    simp [psD]
    refine wE_compR (n := sp.length) (fun j => decide (nm sp k < nm sp j)) (fun j => D.tup [.int (k : Nat), .int (j : Nat)]) (fun R h => by simpa using h) (by omega) (by simp) (by simp) (fun j hj Q h => ?_) (fun j hj _ R h => ?_) ?_
    · simp [atI_nsD, hk, hj]
      simpa using h
    · simp
      exact ⟨by omega, h _ rfl⟩
    · simp
      refine ⟨prs_bound hn (by omega), ?_⟩
      rw [prs_map (t := fun i j => decide (nm sp i < nm sp j))]
      exact ⟨_, _, rfl⟩
  · subst e
    simp
    exact ⟨rfl, h⟩
theorem acyc_ranks {ns : List Nat} (hl : ns.length ≤ 64) : Acyc ns.length (prs ns.length (fun i j => decide (nm ns i < nm ns j)) ns.length) := by
  refine ⟨prs_len2 hl, fun i => nm ns i, fun p hp => ?_⟩
  obtain ⟨h1, h2, h3⟩ := prs_mem.mp hp
  exact ⟨h1, h2, of_decide_eq_true h3⟩

/-! ### a row of names -/
structure Names (n : Nat) (ns : List Nat) : Prop where
  pm : ns.Perm (List.range n)
  len : ns.length = n
section
variable {n : Nat} {ns : List Nat}
theorem Names.nodup (h : Names n ns) : ns.Nodup := h.pm.nodup_iff.mpr List.nodup_range
theorem Names.lt (h : Names n ns) {i : Nat} (hi : i < n) : nm ns i < n := by
  have hi' : i < ns.length := by rw [h.len]; exact hi
  unfold nm
  rw [List.getD_eq_getElem?_getD, List.getElem?_eq_getElem hi']
  exact List.mem_range.mp (h.pm.mem_iff.mp (List.getElem_mem hi'))
theorem Names.idx (h : Names n ns) {i : Nat} (hi : i < n) : ns.idxOf (nm ns i) = i := by
  have hi' : i < ns.length := by rw [h.len]; exact hi
  unfold nm
  rw [List.getD_eq_getElem?_getD, List.getElem?_eq_getElem hi']
  exact h.nodup.idxOf_getElem i hi'
theorem Names.get (h : Names n ns) {i : Nat} (hi : i < n) : atI (nsL ns) (i : Int) = some (.int (nm ns i : Nat)) := atI_nsD (by rw [h.len]; exact hi)
end
theorem run_row {z : St3} {n : Nat} {P : D → List D → Prop} (h0 : n < 1000000) (h : ∀ z' ns, Names n ns → P (.lst (nsL ns)) [stD z', .non]) : spMixed.run [stD z, .lst (rangeD 0 1 n)] P :=
  run_names h0 fun z' ns h1 h2 => h z' ns ⟨h1, h2⟩

def spAnyPairs : FSpec := ⟨[.o .s, .s], .s, fun ds R => ∃ (z : St3) (n : Nat), ds = [stD z, .int n] ∧ n ≤ 64 ∧ ∀ z' ps, Acyc n ps → R (psD ps) [stD z', .non]⟩
@[simp] theorem spAnyPairs_pm : spAnyPairs.pm = [.o .s, .s] := rfl
@[simp] theorem spAnyPairs_rm : spAnyPairs.rm = .s := rfl
/-- pairs of a row, rising -/
def Up (n : Nat) (ns : List Nat) (ps : List (Nat × Nat)) : Prop := ∀ p ∈ ps, p.1 < n ∧ p.2 < n ∧ ns.idxOf p.1 < ns.idxOf p.2
theorem Up.app {n : Nat} {ns : List Nat} {ps : List (Nat × Nat)} (h : Up n ns ps) (N : Names n ns) {a b : Nat} (ha : a < b) (hb : b < n) : Up n ns (ps ++ [(nm ns a, nm ns b)]) := by
  intro p hp
  rcases List.mem_append.mp hp with hp | hp
  · exact h p hp
  · have : p = (nm ns a, nm ns b) := by simpa using hp
    subst this
    refine ⟨N.lt (by omega), N.lt hb, ?_⟩
    show ns.idxOf (nm ns a) < ns.idxOf (nm ns b)
    rw [N.idx (by omega), N.idx hb]
    exact ha
def IvAP (n : Nat) (ns : List Nat) (often : Nat) (k : Nat) (ρ : Env) : Prop := ∃ z ps v5 v6, ρ = [some (.o .s, stD z), some (.s, .int (n : Nat)), some (.s, .lst (nsL ns)), some (.s, .int (often : Nat)), some (.o .s, psD ps), v5, v6] ∧ ps.length ≤ k * 64 ∧ Up n ns ps
def IvAP2 (n : Nat) (ns : List Nat) (often low : Nat) (k : Nat) (ρ : Env) : Prop := ∃ z ps v6, ρ = [some (.o .s, stD z), some (.s, .int (n : Nat)), some (.s, .lst (nsL ns)), some (.s, .int (often : Nat)), some (.o .s, psD ps), some (.s, .int (low : Nat)), v6] ∧ ps.length ≤ low * 64 + k ∧ Up n ns ps
theorem ok_any_pairs {T : List FSpec} (t2 : T[2]? = some spDraw) (t3 : T[3]? = some spMixed) : wD T spAnyPairs c_any_pairs 7 := by
  refine wD_of fun ds R ⟨z, n, e, hn, h⟩ => ?_
  subst e
  show wS _ [0] _ _ [some (.o .s, stD z), some (.s, .int n), none, none, none, none, none]
  unfold c_any_pairs
  have s1 : (1000000 : Nat) ≤ sizeLine := by decide
  have s2 : 2 ≤ sizeLine := by decide
  have s4 : 4 ≤ sizeLine := by decide
  simp [t3]
  refine ⟨by omega, run_row (by omega) fun z1 ns hns => ?_⟩
  simp [t2]
  refine ⟨s4, run_draw (by omega) (by omega) fun r z2 hr => ?_⟩
  simp
  have four : ∃ often : Nat, 0 < often ∧ often < 10 ∧ atI [D.int 2, D.int 3, D.int 5, D.int 9] (r : Int) = some (.int (often : Nat)) := by
    match r, hr with
    | 0, _ => exact ⟨2, by decide, by decide, rfl⟩
    | 1, _ => exact ⟨3, by decide, by decide, rfl⟩
    | 2, _ => exact ⟨5, by decide, by decide, rfl⟩
    | 3, _ => exact ⟨9, by decide, by decide, rfl⟩
    | r + 4, h => omega
  obtain ⟨often, ho1, ho2, ho⟩ := four
  refine ⟨_, ho, ?_⟩
  refine wS_rng1 (IvAP n ns often) (n := n) (fun R h => by simpa using h) (by omega) (by simp) ⟨z2, [], _, _, rfl, by simp, by intro p hp; simp at hp⟩ (fun k ρ hk ⟨z3, ps, v5, v6, e, h1, h2⟩ => ?_) (fun ρ ⟨z3, ps, v5, v6, e, h1, h2⟩ => ?_)
  · subst e
    simp
    refine wS_rng2 (IvAP2 n ns often k) (lo := k + 1) (n := n) (fun R h => by simpa using h) (fun R h => by simpa using h) (by omega) (by omega) (by simp) ⟨z3, ps, _, rfl, by omega, h2⟩ (fun j ρ hj1 hj2 ⟨z4, ps, v6, e, h1, h2⟩ => ?_) (fun j ρ hj1 hj2 ⟨z4, ps, v6, e, h1, h2⟩ => ?_)
    · subst e
      simp [t2]
      refine run_draw (by omega) (by omega) fun r z5 hr => ?_
      simp
      split
      · simp [psD, hns.get hk, hns.get hj2]
        have : ps.length < sizeLine := by omega
        refine ⟨this, s2, ?_⟩
        refine ⟨this, ?_⟩
        rw [psD_app]
        exact ⟨z5, _, _, rfl, by rw [List.length_append]; show _ + 1 ≤ _; omega, h2.app hns (by omega) hj2⟩
      · exact ⟨z5, ps, _, rfl, by omega, h2⟩
    · subst e
      simp
      exact ⟨z4, ps, _, _, rfl, by omega, h2⟩
  · subst e
    simp
    exact ⟨rfl, rfl, h z3 ps ⟨by omega, fun x => ns.idxOf x, h2⟩⟩
end Y
namespace Y
open PySem PySem.Spec PyProof.Rows L2

def c_by_rows : C :=
 (.seq (.asg 2 .s (.lst .s .nil))
 (.seq (.for_ (.tn 3) (.rng1 (.b1 .len (.var 0)))
 (.seq (.asg 2 .s (.bin .Add (.var 2) (.comp .s [("_law_high", 4)] (.tn 4) (.itr (.slice (.var 0) (.cons (.bin .Add (.var 3) (.int 1)) .nil) .nil)) (.cons (.cmp .Lt (.index (.var 1) (.idx (.var 0) (.var 3))) (.index (.var 1) (.var 4))) .nil) (.tup (.cons (.idx (.var 0) (.var 3)) (.cons (.var 4) .nil))))))
 .skip))
 (.seq (.ret (.var 2))
 .skip)))
/- N by_rows = 0:one 1:other 2:found 3:at 4:high -/
def c_crown : C :=
 (.seq (.asg 2 .s (.call 3 (.cons (.bor 0) (.cons (.lrange (.var 1)) .nil))))
 (.seq (.asg 3 (.o .s) (.lst .s .nil))
 (.seq (.for_ (.tn 4) (.rng1 (.int 3))
 (.seq (.asg 3 (.o .s) (.bin .Add (.mv 3) (.comp .s [("_law_j", 5)] (.tn 5) (.rng1 (.int 3)) (.cons (.cmp .NotEq (.var 5) (.var 4)) .nil) (.tup (.cons (.idx (.var 2) (.var 4)) (.cons (.idx (.var 2) (.bin .Add (.int 3) (.var 5))) .nil))))))
 .skip))
 (.seq (.for_ (.tn 6) (.rng1 (.int 6))
 (.seq (.for_ (.tn 7) (.rng2 (.int 6) (.var 1))
 (.seq (.ifs (.cmp .Eq (.call 2 (.cons (.bor 0) (.cons (.int 4) .nil))) (.int 0)) (.seq (.ex (.app (.bor 3) (.tup (.cons (.idx (.var 2) (.var 6)) (.cons (.idx (.var 2) (.var 7)) .nil)))))
 .skip) .skip)
 .skip))
 .skip))
 (.seq (.ret (.mv 3))
 .skip)))))
/- N crown = 0:stream_here 1:size 2:names 3:pairs_here 4:k 5:j 6:low 7:high -/
/-! ### parents -/
def opD : Option Nat → D
  | none => .non
  | some k => .int (k : Nat)
def osL (os : List (Option Nat)) : List D := os.map opD
def par (os : List (Option Nat)) (i : Nat) : Option Nat := (os[i]?).join
@[simp] theorem osL_len {os : List (Option Nat)} : (osL os).length = os.length := List.length_map ..
theorem atI_os {os : List (Option Nat)} {i : Nat} (h : i < os.length) : atI (osL os) (i : Int) = some (opD (par os i)) := by
  rw [atI_int (by omega) (by rw [osL_len]; omega), Int.toNat_natCast]
  unfold osL par
  rw [List.getElem?_map, List.getElem?_eq_getElem h]
  rfl
/-- a rank that rises from parent to child -/
def UpP (n : Nat) (r : Nat → Nat) (os : List (Option Nat)) : Prop := ∀ c p, par os c = some p → c < n ∧ p < n ∧ r p < r c
def spAnyParents : FSpec := ⟨[.o .s, .s], .s, fun ds R => ∃ (z : St3) (n : Nat), ds = [stD z, .int n] ∧ n ≤ 64 ∧ ∀ z' os r, os.length = n → UpP n r os → R (.lst (osL os)) [stD z', .non]⟩
@[simp] theorem spAnyParents_pm : spAnyParents.pm = [.o .s, .s] := rfl
@[simp] theorem spAnyParents_rm : spAnyParents.rm = .s := rfl
def IvPar (n : Nat) (ns : List Nat) (k : Nat) (ρ : Env) : Prop := ∃ z os v4, ρ = [some (.o .s, stD z), some (.s, .int (n : Nat)), some (.s, .lst (nsL ns)), some (.o .s, .lst (osL os)), v4] ∧ os.length = n ∧ UpP n (fun x => ns.idxOf x) os
theorem osL_set {os : List (Option Nat)} {i : Nat} {a : Nat} : (osL os).set i (.int (a : Nat)) = osL (os.set i (some a)) := by
  unfold osL
  rw [List.map_set]
  rfl
theorem par_set {os : List (Option Nat)} {i a c : Nat} (h : i < os.length) : par (os.set i (some a)) c = if c = i then some a else par os c := by
  unfold par
  rw [List.getElem?_set]
  by_cases e : i = c
  · subst e
    rw [if_pos rfl, if_pos h, if_pos rfl]
    rfl
  · rw [if_neg e, if_neg (Ne.symm e)]
theorem ok_any_parents {T : List FSpec} (t2 : T[2]? = some spDraw) (t3 : T[3]? = some spMixed) : wD T spAnyParents c_any_parents 5 := by
  refine wD_of fun ds R ⟨z, n, e, hn, h⟩ => ?_
  subst e
  show wS _ [0] _ _ [some (.o .s, stD z), some (.s, .int n), none, none, none]
  unfold c_any_parents
  have s1 : (1000000 : Nat) ≤ sizeLine := by decide
  have s2 : 1 ≤ sizeLine := by decide
  simp [t3]
  refine ⟨by omega, run_row (by omega) fun z1 ns hns => ?_⟩
  simp
  have rep : List.replicate n D.non = osL (List.replicate n none) := by
    unfold osL
    rw [List.map_replicate]
    rfl
  refine ⟨s2, by omega, by omega, ?_⟩
  rw [rep]
  refine wS_rng2 (IvPar n ns) (lo := 1) (n := n) (fun R h => by simpa using h) (fun R h => by simpa using h) (by omega) (by omega) (by simp) ⟨z1, _, _, rfl, by rw [List.length_replicate], ?_⟩ (fun k ρ hk1 hk ⟨z2, os, v4, e, h1, h2⟩ => ?_) (fun k ρ hk1 hk2 ⟨z2, os, v4, e, h1, h2⟩ => ?_)
  · intro c p hc
    unfold par at hc
    rw [List.getElem?_replicate] at hc
    split at hc
    · cases hc
    · cases hc
  · subst e
    simp [t2]
    refine run_draw (by omega) (by omega) fun r z3 hr => ?_
    simp
    split
    · refine run_draw (by omega) (by omega) fun r2 z4 hr2 => ?_
      have hr2 : r2 < k := by omega
      simp [hns.get hk, hns.get (show r2 < n by omega), h1]
      refine ⟨nm ns k, ixN_nat (hns.lt hk), ?_⟩
      rw [osL_set]
      refine ⟨z4, _, _, rfl, by rw [List.length_set]; exact h1, fun c p hc => ?_⟩
      rw [par_set (by rw [h1]; exact hns.lt hk)] at hc
      split at hc
      · rename_i ec
        subst ec
        cases hc
        refine ⟨hns.lt hk, hns.lt (by omega), ?_⟩
        show ns.idxOf (nm ns r2) < ns.idxOf (nm ns k)
        rw [hns.idx hk, hns.idx (by omega)]
        exact hr2
      · exact h2 c p hc
    · exact ⟨z3, os, _, rfl, h1, h2⟩
  · subst e
    simp
    exact ⟨rfl, rfl, h z2 os _ h1 h2⟩
def parPs (os : List (Option Nat)) : List (Nat × Nat) := ((List.range os.length).filter fun k => (par os k).isSome).map fun k => ((par os k).getD 0, k)
def spByParents : FSpec := ⟨[.s], .s, fun ds R => ∃ os : List (Option Nat), ds = [.lst (osL os)] ∧ os.length ≤ 64 ∧ R (psD (parPs os)) [.non]⟩
@[simp] theorem spByParents_pm : spByParents.pm = [.s] := rfl
@[simp] theorem spByParents_rm : spByParents.rm = .s := rfl
theorem isN_op {o : Option Nat} : isN (opD o) = !o.isSome := by
  cases o <;> rfl
theorem ok_by_parents {T : List FSpec} : wD T spByParents c_by_parents 2 := by
  refine wD_of fun ds R ⟨os, e, hn, h⟩ => ?_
  subst e
  show wS _ [] _ _ [some (.s, .lst (osL os)), none]
  unfold c_by_parents
  have s1 : (1000000 : Nat) ≤ sizeLine := by decide
  have s2 : 2 ≤ sizeLine := by decide
  simp
  refine wE_compR (n := os.length) (fun k => (par os k).isSome) (fun k => D.tup [opD (par os k), .int (k : Nat)]) (fun R h => by simpa using h) (by omega) (by simp) (by simp) (fun j hj Q h => ?_) (fun j hj _ R h => ?_) ?_
  · simp [atI_os, hj, isN_op]
    exact h
  · simp [atI_os, hj]
    exact ⟨s2, h _ rfl⟩
  · refine ⟨rfl, ?_⟩
    have : ((List.range os.length).filter fun k => (par os k).isSome).map (fun k => D.tup [opD (par os k), .int (k : Nat)]) = (parPs os).map pD := by
      unfold parPs
      rw [List.map_map]
      refine List.map_congr_left fun k hk => ?_
      have hs := (List.mem_filter.mp hk).2
      cases q : par os k with
      | none =>
        rw [q] at hs
        cases hs
      | some p =>
        show _ = D.tup [.int (((par os k).getD 0 : Nat) : Int), _]
        rw [q]
        rfl
    rw [this]
    exact h
theorem acyc_parents {os : List (Option Nat)} {r : Nat → Nat} (h : UpP os.length r os) (hl : os.length ≤ 64) : Acyc os.length (parPs os) := by
  refine ⟨?_, r, fun p hp => ?_⟩
  · unfold parPs
    rw [List.length_map]
    have := List.length_filter_le (fun k => (par os k).isSome) (List.range os.length)
    rw [List.length_range] at this
    omega
  · unfold parPs at hp
    obtain ⟨k, hk, rfl⟩ := List.mem_map.mp hp
    have hs := (List.mem_filter.mp hk).2
    cases q : par os k with
    | none =>
      rw [q] at hs
      cases hs
    | some p =>
      obtain ⟨h1, h2, h3⟩ := h k p q
      exact ⟨h2, h1, h3⟩
/-! ### crowns -/
def spCrown : FSpec := ⟨[.o .s, .s], .s, fun ds R => ∃ (z : St3) (n : Nat), ds = [stD z, .int n] ∧ 5 < n ∧ n ≤ 64 ∧ ∀ z' ps, Acyc n ps → R (psD ps) [stD z', .non]⟩
@[simp] theorem spCrown_pm : spCrown.pm = [.o .s, .s] := rfl
@[simp] theorem spCrown_rm : spCrown.rm = .s := rfl
def IvCr (n : Nat) (ns : List Nat) (b : Nat) (k : Nat) (ρ : Env) : Prop := ∃ z ps v4 v6 v7, ρ = [some (.o .s, stD z), some (.s, .int (n : Nat)), some (.s, .lst (nsL ns)), some (.o .s, psD ps), v4, none, v6, v7] ∧ ps.length ≤ b + k * 64 ∧ Up n ns ps
def IvCr2 (n : Nat) (ns : List Nat) (low : Nat) (k : Nat) (ρ : Env) : Prop := ∃ z ps v4 v7, ρ = [some (.o .s, stD z), some (.s, .int (n : Nat)), some (.s, .lst (nsL ns)), some (.o .s, psD ps), v4, none, some (.s, .int (low : Nat)), v7] ∧ ps.length ≤ 192 + low * 64 + k ∧ Up n ns ps
theorem Up.apps {n : Nat} {ns : List Nat} {ps qs : List (Nat × Nat)} (h : Up n ns ps) (N : Names n ns) (hq : ∀ p ∈ qs, ∃ a b, a < b ∧ b < n ∧ p = (nm ns a, nm ns b)) : Up n ns (ps ++ qs) := by
  intro p hp
  rcases List.mem_append.mp hp with hp | hp
  · exact h p hp
  · obtain ⟨a, b, h1, h2, rfl⟩ := hq p hp
    refine ⟨N.lt (by omega), N.lt h2, ?_⟩
    show ns.idxOf (nm ns a) < ns.idxOf (nm ns b)
    rw [N.idx (by omega), N.idx h2]
    exact h1
theorem ok_crown {T : List FSpec} (t2 : T[2]? = some spDraw) (t3 : T[3]? = some spMixed) : wD T spCrown c_crown 8 := by
  refine wD_of fun ds R ⟨z, n, e, hn0, hn, h⟩ => ?_
  subst e
  show wS _ [0] _ _ [some (.o .s, stD z), some (.s, .int n), none, none, none, none, none, none]
  unfold c_crown
  have s1 : (1000000 : Nat) ≤ sizeLine := by decide
  have s2 : 2 ≤ sizeLine := by decide
  simp [t3]
  refine ⟨by omega, run_row (by omega) fun z1 ns hns => ?_⟩
  simp
  refine wS_rng1 (IvCr n ns 0) (n := 3) (fun R h => by simpa using h) (by omega) (by simp) ⟨z1, [], _, _, _, rfl, by simp, by intro p hp; simp at hp⟩ (fun k ρ hk ⟨z2, ps, v4, v6, v7, e, h1, h2⟩ => ?_) (fun ρ ⟨z2, ps, v4, v6, v7, e, h1, h2⟩ => ?_)
  · subst e
    simp [psD]
    refine wE_compR (n := 3) (fun j => decide (j ≠ k)) (fun j => D.tup [.int (nm ns k : Nat), .int (nm ns (3 + j) : Nat)]) (fun R h => by simpa using h) (by omega) (by simp) (by simp) (fun j hj Q h => ?_) (fun j hj _ R h => ?_) ?_
    · simp [Int.natCast_inj]
      simpa using h
    · have := hns.get (show 3 + j < n by omega)
      rw [Int.natCast_add] at this
      have c3 : ((3 : Nat) : Int) = 3 := rfl
      rw [c3] at this
      simp [hns.get (show k < n by omega), this]
      exact ⟨s2, h _ rfl⟩
    · have e : (((List.range 3).filter fun j => decide (j ≠ k)).map fun j => D.tup [.int (nm ns k : Nat), .int (nm ns (3 + j) : Nat)]) = (((List.range 3).filter fun j => decide (j ≠ k)).map fun j => (nm ns k, nm ns (3 + j))).map pD := by
        rw [List.map_map]
        rfl
      rw [e]
      have l3 := List.length_filter_le (fun j => decide (j ≠ k)) (List.range 3)
      rw [List.length_range] at l3
      simp only [x_baddl, x_Sskip, List.length_map, ← List.map_append, cst_refl, at0, at1, List.set_cons_succ, List.set_cons_zero]
      refine ⟨by omega, trivial, ?_⟩
      refine ⟨z2, _, _, _, _, rfl, ?_, h2.apps hns fun p hp => ?_⟩
      · rw [List.length_append, List.length_map]
        omega
      · obtain ⟨j, hj, rfl⟩ := List.mem_map.mp hp
        have := List.mem_range.mp (List.mem_filter.mp hj).1
        exact ⟨k, 3 + j, by omega, by omega, rfl⟩
  · subst e
    simp
    refine wS_rng1 (IvCr n ns 192) (n := 6) (fun R h => by simpa using h) (by omega) (by simp) ⟨z2, ps, _, _, _, rfl, by omega, h2⟩ (fun k ρ hk ⟨z3, ps, v4, v6, v7, e, h1, h2⟩ => ?_) (fun ρ ⟨z3, ps, v4, v6, v7, e, h1, h2⟩ => ?_)
    · subst e
      simp
      refine wS_rng2 (IvCr2 n ns k) (lo := 6) (n := n) (fun R h => by simpa using h) (fun R h => by simpa using h) (by omega) (by omega) (by simp) ⟨z3, ps, _, _, rfl, by omega, h2⟩ (fun j ρ hj1 hj2 ⟨z4, ps, v4, v7, e, h1, h2⟩ => ?_) (fun j ρ hj1 hj2 ⟨z4, ps, v4, v7, e, h1, h2⟩ => ?_)
      · subst e
        simp [t2]
        refine run_draw (by omega) (by omega) fun r z5 hr => ?_
        simp
        split
        · simp [psD, hns.get (show k < n by omega), hns.get hj2]
          refine ⟨by omega, s2, by omega, ?_⟩
          rw [psD_app]
          exact ⟨z5, _, _, _, rfl, by rw [List.length_append]; show _ + 1 ≤ _; omega, h2.app hns (by omega) hj2⟩
        · exact ⟨z5, ps, _, _, rfl, by omega, h2⟩
      · subst e
        simp
        exact ⟨z4, ps, _, _, _, rfl, by omega, h2⟩
    · subst e
      simp
      exact ⟨rfl, rfl, h z3 ps ⟨by omega, fun x => ns.idxOf x, h2⟩⟩
end Y
namespace Y
open PySem PySem.Spec PyProof.Rows L2

/-! ### slices, places -/
theorem cut_from {xs : List D} {i : Nat} : cutD xs (some (i : Int)) none = xs.drop i := by
  unfold cutD
  rw [HT.sIx_nat, HT.sIx_none]
  by_cases h : i ≤ xs.length
  · rw [Nat.min_eq_left h]
    rw [List.take_of_length_le (by rw [List.length_drop]; omega)]
  · rw [Nat.min_eq_right (by omega), List.drop_of_length_le (by omega), List.drop_of_length_le (by omega), List.take_nil]
theorem cut_to {xs : List D} {i : Nat} : cutD xs none (some (i : Int)) = xs.take i := by
  unfold cutD
  rw [HT.sIx_nat, HT.sIx_none, List.drop_zero, Nat.sub_zero]
  by_cases h : i ≤ xs.length
  · rw [Nat.min_eq_left h]
  · rw [Nat.min_eq_right (by omega), List.take_of_length_le (Nat.le_refl _), List.take_of_length_le (by omega)]
theorem nsL_drop {ns : List Nat} {i : Nat} : (nsL ns).drop i = nsL (ns.drop i) := by
  unfold nsL
  rw [List.map_drop]
theorem nsL_take {ns : List Nat} {i : Nat} : (nsL ns).take i = nsL (ns.take i) := by
  unfold nsL
  rw [List.map_take]
theorem nsL_app {a b : List Nat} : nsL a ++ nsL b = nsL (a ++ b) := by
  unfold nsL
  rw [List.map_append]
theorem index_ns {ns : List Nat} {v : Nat} {k : Int → Prop} (hv : v ∈ ns) (h : k (ns.idxOf v : Nat)) : indexD (.lst (nsL ns)) (.int (v : Nat)) k := by
  have hl : ns.idxOf v < ns.length := List.idxOf_lt_length_iff.mpr hv
  refine ⟨rfl, ?_, ns.idxOf v, .int (v : Nat), ?_, ?_, ?_, h⟩
  · rw [List.all_eq_true]
    intro d hd
    obtain ⟨n, _, rfl⟩ := List.mem_map.mp hd
    rfl
  · rw [nsL_get hl, List.getElem_idxOf hl]
  · show ((v : Int) == (v : Int)) = true
    exact beq_self_eq_true _
  · intro m z hm hz
    have hml : m < ns.length := by omega
    rw [nsL_get hml] at hz
    cases hz
    show ((ns[m] : Int) == (v : Int)) = false
    rw [beq_eq_false_iff_ne]
    intro e
    have e : ns[m] = v := by omega
    have := List.not_of_lt_findIdx (p := (· == v)) (xs := ns) (i := m) hm
    rw [e] at this
    simp at this
/-! ### two rows -/
def rowPs (a b : List Nat) (k : Nat) : List (Nat × Nat) := (List.range k).flatMap fun i => ((a.drop (i + 1)).filter fun y => decide (b.idxOf (nm a i) < b.idxOf y)).map fun y => (nm a i, y)
theorem rowPs_succ {a b : List Nat} {k : Nat} : rowPs a b (k + 1) = rowPs a b k ++ ((a.drop (k + 1)).filter fun y => decide (b.idxOf (nm a k) < b.idxOf y)).map fun y => (nm a k, y) := by
  unfold rowPs
  rw [List.range_succ, List.flatMap_append]
  simp
theorem rowPs_len {a b : List Nat} : ∀ {k : Nat}, (rowPs a b k).length ≤ k * a.length
  | 0 => Nat.zero_le _
  | k + 1 => by
    rw [rowPs_succ, List.length_append, List.length_map, Nat.succ_mul]
    have h1 := rowPs_len (a := a) (b := b) (k := k)
    have h2 := List.length_filter_le (fun y => decide (b.idxOf (nm a k) < b.idxOf y)) (a.drop (k + 1))
    rw [List.length_drop] at h2
    omega
def spByRows : FSpec := ⟨[.s, .s], .s, fun ds R => ∃ (n : Nat) (a b : List Nat), ds = [.lst (nsL a), .lst (nsL b)] ∧ n ≤ 64 ∧ Names n a ∧ Names n b ∧ R (psD (rowPs a b n)) [.non, .non]⟩
@[simp] theorem spByRows_pm : spByRows.pm = [.s, .s] := rfl
@[simp] theorem spByRows_rm : spByRows.rm = .s := rfl
def IvRows (a b : List Nat) (k : Nat) (ρ : Env) : Prop := ∃ v3 v4, ρ = [some (.s, .lst (nsL a)), some (.s, .lst (nsL b)), some (.s, psD (rowPs a b k)), v3, v4]
theorem ok_by_rows {T : List FSpec} : wD T spByRows c_by_rows 5 := by
  refine wD_of fun ds R ⟨n, a, b, e, hn, ha, hb, h⟩ => ?_
  subst e
  show wS _ [] _ _ [some (.s, .lst (nsL a)), some (.s, .lst (nsL b)), none, none, none]
  unfold c_by_rows
  have s1 : (1000000 : Nat) ≤ sizeLine := by decide
  have s2 : 2 ≤ sizeLine := by decide
  simp
  refine wS_rng1 (IvRows a b) (n := n) (fun R h => by simpa [ha.len] using h) (by omega) (by simp) ⟨_, _, rfl⟩ (fun k ρ hk ⟨v2, v3, e⟩ => ?_) (fun ρ ⟨v2, v3, e⟩ => ?_)
  · subst e
    simp [psD]
    have hmem : ∀ i, i < n → nm a i ∈ b := fun i hi => hb.pm.mem_iff.mpr (List.mem_range.mpr (ha.lt hi))
    refine wE_compL (a.drop (k + 1)) (fun n : Nat => D.int (n : Nat)) (fun y => decide (b.idxOf (nm a k) < b.idxOf y)) (fun y => D.tup [.int (nm a k : Nat), .int (y : Nat)]) (mx := .o .s) (dx := .lst (nsL (a.drop (k + 1)))) (.inl rfl) (fun R h => ?_) (by simp) (by rw [List.length_drop, ha.len]; omega) (fun y hy Q h => ?_) (fun y hy _ R h => ?_) ?_
    · simp
      have e : (k : Int) + 1 = ((k + 1 : Nat) : Int) := rfl
      rw [e, cut_from, nsL_drop]
      exact h
    · have hyb : y ∈ b := hb.pm.mem_iff.mpr (ha.pm.mem_iff.mp (List.mem_of_mem_drop hy))
      simp [ha.get hk]
      refine index_ns (hmem k hk) (index_ns hyb ?_)
      simpa using h
    · simp [ha.get hk]
      exact ⟨s2, h _ rfl⟩
    · have e : (((a.drop (k + 1)).filter fun y => decide (b.idxOf (nm a k) < b.idxOf y)).map fun y => D.tup [.int (nm a k : Nat), .int (y : Nat)]) = (((a.drop (k + 1)).filter fun y => decide (b.idxOf (nm a k) < b.idxOf y)).map fun y => (nm a k, y)).map pD := by
        rw [List.map_map]
        rfl
      rw [e]
      have l1 := rowPs_len (a := a) (b := b) (k := k + 1)
      have l2 : (k + 1) * a.length ≤ 64 * 64 := Nat.mul_le_mul (by omega) (by rw [ha.len]; exact hn)
      rw [rowPs_succ, List.length_append] at l1
      simp only [x_baddl, x_Sskip, List.length_map, ← List.map_append, cst_ss, at0, at1, List.set_cons_succ, List.set_cons_zero, ← rowPs_succ]
      rw [List.length_map] at l1
      exact ⟨by omega, _, _, rfl⟩
  · subst e
    simp
    exact ⟨rfl, h⟩
theorem acyc_rows {n : Nat} {a b : List Nat} (ha : Names n a) (hb : Names n b) (hn : n ≤ 64) : Acyc n (rowPs a b n) := by
  refine ⟨?_, fun x => b.idxOf x, fun p hp => ?_⟩
  · have l1 := rowPs_len (a := a) (b := b) (k := n)
    have l2 : n * a.length ≤ 64 * 64 := Nat.mul_le_mul hn (by rw [ha.len]; exact hn)
    omega
  · unfold rowPs at hp
    obtain ⟨i, hi, hp⟩ := List.mem_flatMap.mp hp
    obtain ⟨y, hy, rfl⟩ := List.mem_map.mp hp
    obtain ⟨h1, h2⟩ := List.mem_filter.mp hy
    exact ⟨ha.lt (List.mem_range.mp hi), List.mem_range.mp (ha.pm.mem_iff.mp (List.mem_of_mem_drop h1)), of_decide_eq_true h2⟩
end Y
namespace Y
open PySem PySem.Spec PyProof.Rows L2

def c_any_tree : C :=
 (.seq (.ifs (.cmp .Eq (.b1 .len (.var 1)) (.int 1)) (.seq (.ret (.tup (.cons (.str "one") (.cons (.idx (.var 1) (.int 0)) .nil))))
 .skip) .skip)
 (.seq (.asg 3 (.o .s) (.lst .s .nil))
 (.seq (.asg 4 .s (.b1 .list (.var 1)))
 (.seq (.for_ (.tn 5) (.rng1 (.b1 .len (.var 1)))
 (.seq (.ifs (.cmp .Gt (.b1 .len (.var 4)) (.int 0)) (.seq (.asg 6 .s (.bin .Add (.int 1) (.call 2 (.cons (.bor 0) (.cons (.b1 .len (.var 4)) .nil)))))
 (.seq (.ifs (.and (.cmp .Eq (.var 5) (.int 0)) (.one (.cmp .Eq (.var 6) (.b1 .len (.var 4))))) (.seq (.asg 6 .s (.max2 (.int 1) (.bin .Sub (.var 6) (.int 1))))
 .skip) .skip)
 (.seq (.ex (.app (.bor 3) (.slice (.var 4) .nil (.cons (.var 6) .nil))))
 (.seq (.asg 4 .s (.slice (.var 4) (.cons (.var 6) .nil) .nil))
 .skip)))) .skip)
 .skip))
 (.seq (.asg 7 .s (.idx (.lst .s (.cons (.str "beside") (.cons (.str "above") .nil))) (.b1 .int (.cmp .Eq (.var 2) (.str "beside")))))
 (.seq (.frz 3)
 (.seq (.ret (.tup (.cons (.var 2) (.cons (.b1 .tuple (.comp .s [("_law_branch", 8)] (.tn 8) (.itr (.var 3)) .nil (.call 10 (.cons (.bor 0) (.cons (.var 8) (.cons (.var 7) .nil)))))) .nil))))
 .skip)))))))
/- N any_tree = 0:stream_here 1:members 2:word 3:parts 4:rest 5:k 6:many 7:following 8:branch -/
def c_tree_members : C :=
 (.seq (.ifs (.cmp .Eq (.idx (.var 0) (.int 0)) (.str "one")) (.seq (.ret (.lst .s (.cons (.idx (.var 0) (.int 1)) .nil)))
 .skip) .skip)
 (.seq (.asg 1 .s (.lst .s .nil))
 (.seq (.for_ (.tn 2) (.itr (.idx (.var 0) (.int 1)))
 (.seq (.asg 1 .s (.bin .Add (.var 1) (.call 11 (.cons (.var 2) .nil))))
 .skip))
 (.seq (.ret (.var 1))
 .skip))))
/- N tree_members = 0:tree 1:found 2:branch -/
def c_by_tree : C :=
 (.seq (.ifs (.cmp .Eq (.idx (.var 0) (.int 0)) (.str "one")) (.seq (.ret (.lst .s .nil))
 .skip) .skip)
 (.seq (.asg 1 .s (.lst .s .nil))
 (.seq (.asg 2 .s (.lst .s .nil))
 (.seq (.for_ (.tn 3) (.itr (.idx (.var 0) (.int 1)))
 (.seq (.asg 1 .s (.bin .Add (.var 1) (.call 12 (.cons (.var 3) .nil))))
 (.seq (.asg 4 .s (.call 11 (.cons (.var 3) .nil)))
 (.seq (.ifs (.cmp .Eq (.idx (.var 0) (.int 0)) (.str "above")) (.seq (.for_ (.tn 5) (.itr (.var 2))
 (.seq (.asg 1 .s (.bin .Add (.var 1) (.comp .s [("_law_high", 6)] (.tn 6) (.itr (.var 4)) .nil (.tup (.cons (.var 5) (.cons (.var 6) .nil))))))
 .skip))
 (.seq (.asg 2 .s (.bin .Add (.var 2) (.var 4)))
 .skip)) .skip)
 .skip))))
 (.seq (.ret (.var 1))
 .skip)))))
/- N by_tree = 0:tree 1:found 2:lower 3:branch 4:members 5:low 6:high -/
/-! ### trees -/
inductive Tree where
  | one (k : Nat) | node (up : Bool) (ts : List Tree)
def wd (up : Bool) : Str := if up then "above" else "beside"
mutual
def treeD : Tree → D
  | .one k => .tup [.str "one", .int (k : Nat)]
  | .node up ts => .tup [.str (wd up), .tup (treesD ts)]
def treesD : List Tree → List D
  | [] => []
  | t :: ts => treeD t :: treesD ts
end
mutual
def mems : Tree → List Nat
  | .one k => [k]
  | .node _ ts => memss ts
def memss : List Tree → List Nat
  | [] => []
  | t :: ts => mems t ++ memss ts
end
mutual
def ht : Tree → Nat
  | .one _ => 1
  | .node _ ts => hts ts + 1
def hts : List Tree → Nat
  | [] => 0
  | t :: ts => max (ht t) (hts ts)
end
def crs (as bs : List Nat) : List (Nat × Nat) := as.flatMap fun a => bs.map fun b => (a, b)
mutual
def tprs : Tree → List (Nat × Nat)
  | .one _ => []
  | .node up ts => tprss up [] ts
def tprss (up : Bool) (lower : List Nat) : List Tree → List (Nat × Nat)
  | [] => []
  | t :: ts => tprs t ++ (if up then crs lower (mems t) else []) ++ tprss up (if up then lower ++ mems t else lower) ts
end
theorem treesD_map : ∀ ts : List Tree, treesD ts = ts.map treeD
  | [] => rfl
  | t :: ts => by
    show treeD t :: treesD ts = treeD t :: ts.map treeD
    rw [treesD_map ts]
theorem memss_app : ∀ as bs : List Tree, memss (as ++ bs) = memss as ++ memss bs
  | [], bs => rfl
  | t :: as, bs => by
    show mems t ++ memss (as ++ bs) = (mems t ++ memss as) ++ memss bs
    rw [memss_app as bs, List.append_assoc]
theorem hts_le {n : Nat} : ∀ {ts : List Tree}, hts ts ≤ n ↔ ∀ t ∈ ts, ht t ≤ n
  | [] => by simp [hts]
  | t :: ts => by
    show max (ht t) (hts ts) ≤ n ↔ _
    rw [Nat.max_le, hts_le (ts := ts)]
    simp
/-- the front of a row of trees -/
theorem tprss_app (up : Bool) : ∀ (as : List Tree) (lower : List Nat) (bs : List Tree), tprss up lower (as ++ bs) = tprss up lower as ++ tprss up (if up then lower ++ memss as else lower) bs
  | [], lower, bs => by
    show tprss up lower bs = [] ++ tprss up (if up then lower ++ [] else lower) bs
    rw [List.append_nil, ite_self]
    rfl
  | t :: as, lower, bs => by
    show tprs t ++ _ ++ tprss up _ (as ++ bs) = (tprs t ++ _ ++ tprss up _ as) ++ tprss up (if up then lower ++ (mems t ++ memss as) else lower) bs
    rw [tprss_app up as _ bs]
    cases up
    · simp
    · simp
def sq (n : Nat) : Nat := n * n
theorem sq_add (a b : Nat) : sq (a + b) = sq a + 2 * (a * b) + sq b := by
  unfold sq
  rw [Nat.add_mul, Nat.mul_add, Nat.mul_add, Nat.mul_comm b a]
  omega
theorem crs_len : ∀ {as bs : List Nat}, (crs as bs).length = as.length * bs.length
  | [], bs => by
    show 0 = 0 * _
    rw [Nat.zero_mul]
  | a :: as, bs => by
    have ih := crs_len (as := as) (bs := bs)
    unfold crs at ih ⊢
    rw [List.flatMap_cons, List.length_append, List.length_map, ih, List.length_cons, Nat.succ_mul, Nat.add_comm]
mutual
theorem tprs_len : ∀ t : Tree, (tprs t).length ≤ sq (mems t).length
  | .one k => Nat.zero_le _
  | .node up ts => by
    show (tprss up [] ts).length ≤ sq (memss ts).length
    have := tprss_len up [] ts
    simpa [sq] using this
theorem tprss_len (up : Bool) : ∀ (lower : List Nat) (ts : List Tree), (tprss up lower ts).length + sq lower.length ≤ sq (lower.length + (memss ts).length)
  | lower, [] => by
    show 0 + _ ≤ sq (_ + 0)
    rw [Nat.zero_add, Nat.add_zero]
    exact Nat.le_refl _
  | lower, t :: ts => by
    have h1 := tprs_len t
    show (tprs t ++ _ ++ tprss up _ ts).length + _ ≤ sq (_ + (mems t ++ memss ts).length)
    rw [List.length_append, List.length_append, List.length_append]
    cases up
    · have h2 := tprss_len false lower ts
      show (tprs t).length + 0 + (tprss false lower ts).length + _ ≤ _
      rw [Nat.add_comm (mems t).length, ← Nat.add_assoc, sq_add (lower.length + (memss ts).length)]
      omega
    · have h2 := tprss_len true (lower ++ mems t) ts
      rw [List.length_append] at h2
      show (tprs t).length + (crs lower (mems t)).length + (tprss true (lower ++ mems t) ts).length + _ ≤ _
      rw [crs_len, ← Nat.add_assoc]
      rw [sq_add lower.length] at h2
      omega
end
theorem crs_sub {as bs : List Nat} {p : Nat × Nat} (h : p ∈ crs as bs) : p.1 ∈ as ∧ p.2 ∈ bs := by
  unfold crs at h
  obtain ⟨a, ha, h⟩ := List.mem_flatMap.mp h
  obtain ⟨b, hb, rfl⟩ := List.mem_map.mp h
  exact ⟨ha, hb⟩
mutual
theorem tprs_sub : ∀ (t : Tree) (p : Nat × Nat), p ∈ tprs t → [p.1, p.2].Sublist (mems t)
  | .one k, p, h => by
    have h : p ∈ ([] : List (Nat × Nat)) := h
    cases h
  | .node up ts, p, h => by
    have := tprss_sub up [] ts p h
    show [p.1, p.2].Sublist (memss ts)
    simpa using this
theorem tprss_sub (up : Bool) : ∀ (lower : List Nat) (ts : List Tree) (p : Nat × Nat), p ∈ tprss up lower ts → [p.1, p.2].Sublist (lower ++ memss ts)
  | lower, [], p, h => by
    have h : p ∈ ([] : List (Nat × Nat)) := h
    cases h
  | lower, t :: ts, p, h => by
    have h : p ∈ tprs t ++ (if up then crs lower (mems t) else []) ++ tprss up (if up then lower ++ mems t else lower) ts := h
    show [p.1, p.2].Sublist (lower ++ (mems t ++ memss ts))
    rcases List.mem_append.mp h with h | h
    · rcases List.mem_append.mp h with h | h
      · exact (tprs_sub t p h).trans ((List.sublist_append_left _ _).trans (List.sublist_append_right _ _))
      · cases up
        · cases h
        · obtain ⟨h1, h2⟩ := crs_sub (show p ∈ crs lower (mems t) from h)
          have s1 : [p.1].Sublist lower := List.singleton_sublist.mpr h1
          have s2 : [p.2].Sublist (mems t ++ memss ts) := List.singleton_sublist.mpr (List.mem_append_left _ h2)
          exact s1.append s2
    · cases up
      · have := tprss_sub false lower ts p h
        exact this.trans ((List.Sublist.refl lower).append (List.sublist_append_right _ _))
      · have := tprss_sub true (lower ++ mems t) ts p h
        rw [List.append_assoc] at this
        exact this
end
theorem idx_sub {l : List Nat} {a b : Nat} (h : [a, b].Sublist l) (nd : l.Nodup) : l.idxOf a < l.idxOf b := by
  obtain ⟨r1, r2, rfl, h1, h2⟩ := List.cons_sublist_iff.mp h
  have hb := List.singleton_sublist.mp h2
  have hnb : b ∉ r1 := fun z => (List.nodup_append.mp nd).2.2 b z b hb rfl
  rw [List.idxOf_append, List.idxOf_append, if_pos h1, if_neg hnb]
  have := List.idxOf_lt_length_iff.mpr h1
  omega
theorem acyc_tree {n : Nat} {t : Tree} (h : Names n (mems t)) (hn : n ≤ 64) : Acyc n (tprs t) := by
  refine ⟨?_, fun x => (mems t).idxOf x, fun p hp => ?_⟩
  · have h1 := tprs_len t
    rw [h.len] at h1
    have : sq n ≤ 64 * 64 := Nat.mul_le_mul hn hn
    omega
  · have h1 := tprs_sub t p hp
    have hm : ∀ x, x ∈ mems t → x < n := fun x hx => List.mem_range.mp (h.pm.mem_iff.mp hx)
    exact ⟨hm _ (h1.subset (List.mem_cons_self ..)), hm _ (h1.subset (List.mem_cons_of_mem _ (List.mem_cons_self ..))), idx_sub h1 h.nodup⟩
end Y
namespace Y
open PySem PySem.Spec PyProof.Rows L2

/-- a comprehension that changes things -/
theorem wE_compI {T : List FSpec} {pn : List Nat} {src cond elt : C} {ρ : Env} {i : Nat} {m : M} {s : Str} {R : M → D → Env → Prop} (Inv : Nat → List D → Env → Prop) (items : List D) (hI : ∀ R : List D → Env → Prop, R items ρ → wI T pn src R ρ) (hi : i ∉ pn) (h0 : Inv 0 [] (ρ.set i none))
    (hs : ∀ k x acc ρ', items[k]? = some x → Inv k acc ρ' → wC T pn cond (fun b ρ4 => if b = true then wE T pn elt (fun m' d ρ5 => cst m' m = true ∧ acc.length < sizeLine ∧ Inv (k + 1) (acc ++ [d]) (ρ5.set i none)) ρ4 else Inv (k + 1) acc (ρ4.set i none)) (ρ'.set i (some (.s, x))))
    (he : ∀ acc ρ', Inv items.length acc ρ' → R (.o m) (.lst acc) (ρ'.set i (ρ.at i))) : wE T pn (.comp m [(s, i)] (.tn i) src cond elt) R ρ := by
  refine wE_comp (hI _ ⟨fun v hv => ?_, fun k acc ρ' => Inv k acc ρ', h0, fun k x acc ρ2 hx hI => ?_, fun acc ρ2 hI => ?_⟩)
  · have : v = i := by simpa using hv
    rw [this]
    exact hi
  · rw [x_Gn]
    exact ⟨hi, hs k x acc _ hx hI⟩
  · have := he acc _ hI
    have e : ((wipeE ρ2 ([(s, i)].map (·.2))).set i (ρ.at i)) = backE ρ2 ρ ([(s, i)].map (·.2)) := by
      show (ρ2.set i none).set i (ρ.at i) = ρ2.set i (ρ.at i)
      rw [List.set_set]
    rw [e] at this
    exact this

theorem wd_one {up : Bool} : (wd up = ("one" : Str)) ↔ False := by
  cases up
  · exact ⟨fun h => absurd h (by decide +kernel), False.elim⟩
  · exact ⟨fun h => absurd h (by decide +kernel), False.elim⟩
theorem wd_above {up : Bool} : (wd up = ("above" : Str)) ↔ up = true := by
  cases up
  · exact ⟨fun h => absurd h (by decide +kernel), fun h => absurd h (by decide)⟩
  · exact ⟨fun _ => rfl, fun _ => rfl⟩
theorem wd_beside {up : Bool} : (wd up = ("beside" : Str)) ↔ up = false := by
  cases up
  · exact ⟨fun _ => rfl, fun _ => rfl⟩
  · exact ⟨fun h => absurd h (by decide +kernel), fun h => absurd h (by decide)⟩
theorem treeD_one {k : Nat} : treeD (.one k) = .tup [.str "one", .int (k : Nat)] := rfl
theorem treeD_node {up : Bool} {ts : List Tree} : treeD (.node up ts) = .tup [.str (wd up), .tup (treesD ts)] := rfl
theorem treesD_get {ts : List Tree} {k : Nat} {x : D} (h : (treesD ts)[k]? = some x) : ∃ t, ts[k]? = some t ∧ x = treeD t := by
  rw [treesD_map, List.getElem?_map] at h
  cases q : ts[k]? with
  | none =>
    rw [q] at h
    cases h
  | some t =>
    rw [q] at h
    cases h
    exact ⟨t, rfl, rfl⟩
theorem treesD_len {ts : List Tree} : (treesD ts).length = ts.length := by
  rw [treesD_map, List.length_map]
theorem memss_take {ts : List Tree} {k : Nat} {t : Tree} (h : ts[k]? = some t) : memss (ts.take (k + 1)) = memss (ts.take k) ++ mems t := by
  rw [List.take_succ, h, memss_app]
  show _ ++ (mems t ++ []) = _
  rw [List.append_nil]
theorem memss_take_le {ts : List Tree} {k : Nat} : (memss (ts.take k)).length ≤ (memss ts).length := by
  have := memss_app (ts.take k) (ts.drop k)
  rw [List.take_append_drop] at this
  rw [this, List.length_append]
  omega
def famMems (n : Nat) : FSpec := ⟨[.s], .s, fun ds R => ∃ t, ds = [treeD t] ∧ ht t ≤ n ∧ (mems t).length ≤ 1000 ∧ R (.lst (nsL (mems t))) [.non]⟩
@[simp] theorem famMems_pm {n : Nat} : (famMems n).pm = [.s] := rfl
@[simp] theorem famMems_rm {n : Nat} : (famMems n).rm = .s := rfl
def IvMems (x : D) (ts : List Tree) (k : Nat) (ρ : Env) : Prop := ∃ v2, ρ = [some (.s, x), some (.s, .lst (nsL (memss (ts.take k)))), v2]
theorem ok_mems {T : List FSpec} {n : Nat} (t11 : T[11]? = some (famMems n)) : wD T (famMems (n + 1)) c_tree_members 3 := by
  refine wD_of fun ds R ⟨t, e, hn, hm, h⟩ => ?_
  subst e
  show wS _ [] _ _ [some (.s, treeD t), none, none]
  unfold c_tree_members
  have s1 : (1000000 : Nat) ≤ sizeLine := by decide
  have s2 : 1 ≤ sizeLine := by decide
  cases t with
  | one k =>
    rw [treeD_one]
    simp
    exact ⟨s2, rfl, h⟩
  | node up ts =>
    rw [treeD_node]
    simp [wd_one]
    refine wS_itr (IvMems (treeD (.node up ts)) ts) (.inr rfl) (fun R h => by simpa using h) ⟨_, rfl⟩ (fun k x ρ hx hI => ?_) (fun ρ hI => ?_)
    · obtain ⟨v2, e⟩ := hI
      obtain ⟨t, ht1, rfl⟩ := treesD_get hx
      subst e
      have hmt := memss_take ht1
      have hle := memss_take_le (ts := ts) (k := k + 1)
      have hh : ht t ≤ n := hts_le.mp (Nat.le_of_succ_le_succ hn) t (List.mem_of_getElem? ht1)
      have hml : (memss ts).length ≤ 1000 := hm
      rw [hmt, List.length_append] at hle
      simp [t11]
      refine ⟨t, rfl, hh, by omega, ?_⟩
      simp
      refine ⟨by omega, ?_⟩
      rw [nsL_app, ← hmt]
      exact ⟨_, rfl⟩
    · obtain ⟨v2, e⟩ := hI
      subst e
      simp
      rw [treesD_len, List.take_length]
      exact ⟨rfl, h⟩
abbrev treeDep : Nat := 24
def famTprs (n : Nat) : FSpec := ⟨[.s], .s, fun ds R => ∃ t, ds = [treeD t] ∧ ht t ≤ n ∧ ht t ≤ treeDep ∧ (mems t).length ≤ 1000 ∧ R (psD (tprs t)) [.non]⟩
@[simp] theorem famTprs_pm {n : Nat} : (famTprs n).pm = [.s] := rfl
@[simp] theorem famTprs_rm {n : Nat} : (famTprs n).rm = .s := rfl
def lowr (up : Bool) (ts : List Tree) : List Nat := if up then memss ts else []
def IvTp (x : D) (up : Bool) (ts : List Tree) (k : Nat) (ρ : Env) : Prop := ∃ v3 v4 v5 v6, ρ = [some (.s, x), some (.s, psD (tprss up [] (ts.take k))), some (.s, .lst (nsL (lowr up (ts.take k)))), v3, v4, v5, v6]
def IvTp2 (x : D) (pre : List (Nat × Nat)) (low ms : List Nat) (v3 : D) (j : Nat) (ρ : Env) : Prop := ∃ v5 v6, ρ = [some (.s, x), some (.s, psD (pre ++ crs (low.take j) ms)), some (.s, .lst (nsL low)), some (.s, v3), some (.s, .lst (nsL ms)), v5, v6]
theorem crs_take {as bs : List Nat} {k a : Nat} (h : as[k]? = some a) : crs (as.take (k + 1)) bs = crs (as.take k) bs ++ bs.map fun b => (a, b) := by
  unfold crs
  rw [List.take_succ, h, List.flatMap_append]
  simp
theorem tprss_take {up : Bool} {ts : List Tree} {k : Nat} {t : Tree} (h : ts[k]? = some t) : tprss up [] (ts.take (k + 1)) = tprss up [] (ts.take k) ++ (tprs t ++ if up then crs (lowr up (ts.take k)) (mems t) else []) := by
  rw [List.take_succ, h, tprss_app]
  congr 1
  show tprs t ++ _ ++ [] = _
  rw [List.append_nil]
  cases up
  · rfl
  · simp [lowr]
theorem lowr_take {up : Bool} {ts : List Tree} {k : Nat} {t : Tree} (h : ts[k]? = some t) : lowr up (ts.take (k + 1)) = if up then lowr up (ts.take k) ++ mems t else lowr up (ts.take k) := by
  unfold lowr
  rw [memss_take h]
  cases up <;> rfl
theorem tprss_bound {up : Bool} {ts : List Tree} {k : Nat} (h : (memss ts).length ≤ 1000) : (tprss up [] (ts.take k)).length ≤ 1000000 := by
  have h1 := tprss_len up [] (ts.take k)
  have h2 := memss_take_le (ts := ts) (k := k)
  simp only [List.length_nil, Nat.zero_add] at h1
  have h3 : sq (memss (ts.take k)).length ≤ sq 1000 := Nat.mul_le_mul (by omega) (by omega)
  have : sq 1000 = 1000000 := rfl
  omega
theorem ok_tprs {T : List FSpec} {n : Nat} (t11 : T[11]? = some (famMems treeDep)) (t12 : T[12]? = some (famTprs n)) : wD T (famTprs (n + 1)) c_by_tree 7 := by
  refine wD_of fun ds R ⟨t, e, hn, hdep, hm2, h⟩ => ?_
  subst e
  show wS _ [] _ _ [some (.s, treeD t), none, none, none, none, none, none]
  unfold c_by_tree
  have s1 : (2000000 : Nat) ≤ sizeLine := by decide
  have s2 : 2 ≤ sizeLine := by decide
  cases t with
  | one k =>
    rw [treeD_one]
    simp
    exact ⟨rfl, h⟩
  | node up ts =>
    rw [treeD_node]
    simp [wd_one]
    have hml : (memss ts).length ≤ 1000 := hm2
    refine wS_itr (IvTp (treeD (.node up ts)) up ts) (.inr rfl) (fun R h => by simpa using h) ⟨_, _, _, _, by unfold lowr; cases up <;> rfl⟩ (fun k x ρ hx hI => ?_) (fun ρ hI => ?_)
    · obtain ⟨v3, v4, v5, v6, e⟩ := hI
      obtain ⟨t, ht1, rfl⟩ := treesD_get hx
      subst e
      have hmt := memss_take ht1
      have hle := memss_take_le (ts := ts) (k := k + 1)
      have hh : ht t ≤ n := hts_le.mp (Nat.le_of_succ_le_succ hn) t (List.mem_of_getElem? ht1)
      rw [hmt, List.length_append] at hle
      have hb := tprss_bound (up := up) (k := k + 1) hml
      rw [tprss_take ht1, List.length_append, List.length_append] at hb
      have hh2 : ht t ≤ treeDep := hts_le.mp (Nat.le_of_succ_le hdep) t (List.mem_of_getElem? ht1)
      have htk := tprss_take (up := up) ht1
      have hlw := lowr_take (up := up) ht1
      rw [treeD_node]
      simp [t12, psD]
      refine ⟨t, rfl, hh, hh2, by omega, ?_⟩
      simp [psD, t11]
      refine ⟨by omega, t, rfl, hh2, by omega, ?_⟩
      simp [wd_above]
      cases up with
      | false =>
        simp
        simp at htk hlw
        rw [← List.map_append, ← htk, ← hlw]
        exact ⟨_, _, _, _, rfl⟩
      | true =>
        simp
        simp at htk hlw
        refine wS_itr (IvTp2 (treeD (.node true ts)) (tprss true [] (ts.take k) ++ tprs t) (lowr true (ts.take k)) (mems t) (treeD t)) (.inl rfl) (fun R h => by simpa using h) ⟨_, _, by
          unfold crs
          simp [psD, treeD_node]
          exact ⟨rfl, rfl⟩⟩ (fun j y ρ hy hJ => ?_) (fun ρ hJ => ?_)
        · obtain ⟨w5, w6, e⟩ := hJ
          subst e
          have hj : ∃ a, (lowr true (ts.take k))[j]? = some a ∧ y = .int (a : Nat) := by
            unfold nsL at hy
            rw [List.getElem?_map] at hy
            cases q : (lowr true (ts.take k))[j]? with
            | none =>
              rw [q] at hy
              cases hy
            | some a =>
              rw [q] at hy
              cases hy
              exact ⟨a, rfl, rfl⟩
          obtain ⟨a, ha, rfl⟩ := hj
          simp [psD]
          refine wE_compL (mems t) (fun n : Nat => D.int (n : Nat)) (fun _ => true) (fun b => D.tup [.int (a : Nat), .int (b : Nat)]) (mx := .s) (dx := .lst (nsL (mems t))) (.inl rfl) (fun R h => by simpa using h) (by simp) (by omega) (fun y hy Q h => by simpa using h) (fun y hy _ R h => ?_) ?_
          · simp
            exact ⟨s2, h _ rfl⟩
          · rw [List.filter_eq_self.mpr (fun _ _ => rfl)]
            have e : (mems t).map (fun b => D.tup [.int (a : Nat), .int (b : Nat)]) = ((mems t).map fun b => (a, b)).map pD := by
              rw [List.map_map]
              rfl
            rw [e]
            have hc := crs_take (bs := mems t) ha
            have hcl : (crs ((lowr true (ts.take k)).take (j + 1)) (mems t)).length ≤ 1000000 := by
              rw [crs_len, List.length_take]
              have h1 : (lowr true (ts.take k)).length ≤ 1000 := by
                show (memss (ts.take k)).length ≤ 1000
                omega
              exact Nat.le_trans (Nat.mul_le_mul (show min (j + 1) (lowr true (ts.take k)).length ≤ 1000 by omega) (show (mems t).length ≤ 1000 by omega)) (by decide)
            rw [hc, List.length_append, List.length_map] at hcl
            have e2 : psD (tprss true [] (ts.take k) ++ tprs t ++ crs ((lowr true (ts.take k)).take (j + 1)) (mems t)) = D.lst ((tprss true [] (ts.take k)).map pD ++ ((tprs t).map pD ++ ((crs ((lowr true (ts.take k)).take j) (mems t)).map pD ++ (mems t).map (pD ∘ fun b => (a, b))))) := by
              rw [hc]
              unfold psD
              simp
            simp
            refine ⟨by omega, ?_⟩
            unfold IvTp2
            rw [e2]
            exact ⟨_, _, rfl⟩
        · obtain ⟨w5, w6, e⟩ := hJ
          subst e
          have hl : (nsL (lowr true (ts.take k))).length = (lowr true (ts.take k)).length := nsL_len
          rw [hl, List.take_length]
          simp
          refine ⟨?_, ?_⟩
          · show (memss (ts.take k)).length + _ ≤ _
            omega
          · rw [nsL_app, ← hlw, ← htk]
            exact ⟨_, _, _, _, rfl⟩
    · obtain ⟨v3, v4, v5, v6, e⟩ := hI
      subst e
      simp
      rw [treesD_len, List.take_length]
      exact ⟨rfl, h⟩
end Y
namespace Y
open PySem PySem.Spec PyProof.Rows L2

def famTree (n : Nat) : FSpec := ⟨[.o .s, .s, .s], .s, fun ds R => ∃ (z : St3) (ns : List Nat) (up : Bool), ds = [stD z, .lst (nsL ns), .str (wd up)] ∧ 0 < ns.length ∧ ns.length ≤ n ∧ ns.length ≤ 1000 ∧
  ∀ z' t, mems t = ns → ht t ≤ ns.length → R (treeD t) [stD z', .non, .non]⟩
@[simp] theorem famTree_pm {n : Nat} : (famTree n).pm = [.o .s, .s, .s] := rfl
@[simp] theorem famTree_rm {n : Nat} : (famTree n).rm = .s := rfl
def nssL (ps : List (List Nat)) : List D := ps.map fun p => .lst (nsL p)
theorem nssL_app {ps : List (List Nat)} {p : List Nat} : nssL ps ++ [D.lst (nsL p)] = nssL (ps ++ [p]) := by
  unfold nssL
  rw [List.map_append]
  rfl
structure Parts (ns : List Nat) (k : Nat) (parts : List (List Nat)) (rest : List Nat) : Prop where
  all : parts.flatten ++ rest = ns
  sm : ∀ p ∈ parts, 0 < p.length ∧ p.length < ns.length
  few : rest.length + k ≤ ns.length
  cnt : parts.length ≤ k
  fst : k = 0 ∨ rest.length < ns.length
def IvTree (ns : List Nat) (w : D) (k : Nat) (ρ : Env) : Prop := ∃ z parts rest v5 v6, ρ = [some (.o .s, stD z), some (.s, .lst (nsL ns)), some (.s, w), some (.o .s, .lst (nssL parts)), some (.s, .lst (nsL rest)), v5, v6, none, none] ∧ Parts ns k parts rest
theorem Parts.step {ns : List Nat} {k m : Nat} {parts : List (List Nat)} {rest : List Nat} (P : Parts ns k parts rest) (h0 : 0 < m) (h1 : m ≤ rest.length) (h2 : k = 0 → m < ns.length) : Parts ns (k + 1) (parts ++ [rest.take m]) (rest.drop m) := by
  have hl := congrArg List.length P.all
  rw [List.length_append] at hl
  have hd : (rest.drop m).length = rest.length - m := List.length_drop ..
  have ht : (rest.take m).length = min m rest.length := List.length_take ..
  refine ⟨?_, fun p hp => ?_, ?_, ?_, .inr ?_⟩
  · rw [List.flatten_append]
    simp only [List.flatten_cons, List.flatten_nil, List.append_nil]
    rw [List.append_assoc, List.take_append_drop, P.all]
  · rcases List.mem_append.mp hp with hp | hp
    · exact P.sm p hp
    · have : p = rest.take m := by simpa using hp
      subst this
      rw [ht]
      rcases P.fst with e | e
      · have := h2 e
        omega
      · omega
  · have := P.few
    rw [hd]
    omega
  · have := P.cnt
    rw [List.length_append]
    show _ + 1 ≤ _
    omega
  · rw [hd]
    omega
theorem flatten_take {α : Type} {ps : List (List α)} {k : Nat} {p : List α} (h : ps[k]? = some p) : (ps.take (k + 1)).flatten = (ps.take k).flatten ++ p := by
  rw [List.take_succ, h, List.flatten_append]
  simp
def IvTree2 (ns : List Nat) (parts : List (List Nat)) (m : Nat) (w rest fol : D) (v5 v6 : Option (M × D)) (k : Nat) (acc : List D) (ρ : Env) : Prop := ∃ z ts, acc = treesD ts ∧ ts.length = k ∧ memss ts = (parts.take k).flatten ∧ hts ts ≤ m ∧
  ρ = [some (.o .s, stD z), some (.s, .lst (nsL ns)), some (.s, w), some (.s, .lst (nssL parts)), some (.s, rest), v5, v6, some (.s, fol), none]
theorem hts_app {as : List Tree} {t : Tree} {m : Nat} (h : hts as ≤ m) (h2 : ht t ≤ m) : hts (as ++ [t]) ≤ m := by
  rw [hts_le] at h ⊢
  intro x hx
  rcases List.mem_append.mp hx with hx | hx
  · exact h x hx
  · have : x = t := by simpa using hx
    rw [this]
    exact h2
theorem nat_one {i : Nat} : (if (1 : Int) < (i : Int) then (i : Int) else 1) = ((max 1 i : Nat) : Int) := by
  split <;> omega
theorem ok_any_tree {T : List FSpec} {n : Nat} (t2 : T[2]? = some spDraw) (t10 : T[10]? = some (famTree n)) : wD T (famTree (n + 1)) c_any_tree 9 := by
  refine wD_of fun ds R ⟨z, ns, up, e, h0, hn, hn2, h⟩ => ?_
  subst e
  show wS _ [0] _ _ [some (.o .s, stD z), some (.s, .lst (nsL ns)), some (.s, .str (wd up)), none, none, none, none, none, none]
  unfold c_any_tree
  have s1 : (1000000 : Nat) ≤ sizeLine := by decide
  have s2 : 2 ≤ sizeLine := by decide
  simp
  split
  · rename_i h1
    have h1 : ns.length = 1 := by omega
    obtain ⟨x, rfl⟩ := List.length_eq_one_iff.mp h1
    refine ⟨_, rfl, s2, rfl, rfl, ?_⟩
    exact h z (.one x) rfl (Nat.le_refl _)
  · rename_i h1
    have h1 : 1 < ns.length := by omega
    refine wS_rng1 (IvTree ns (.str (wd up))) (n := ns.length) (fun R h => by simpa using h) (by omega) (by simp) ⟨z, [], ns, _, _, rfl, rfl, by simp, by omega, by simp, .inl rfl⟩ (fun k ρ hk hI => ?_) (fun ρ hI => ?_)
    · obtain ⟨z1, parts, rest, v5, v6, e, P⟩ := hI
      subst e
      have hr : rest.length ≤ ns.length := by have := P.few; omega
      have hc : parts.length < sizeLine := by have := P.cnt; omega
      simp
      split
      · rename_i hpos
        simp [t2]
        refine run_draw (by omega) (by omega) fun r z2 hr2 => ?_
        have hr2 : r < rest.length := by omega
        have e1 : (1 : Int) + (r : Int) = ((1 + r : Nat) : Int) := rfl
        have go : ∀ (m : Nat) (v : Option (M × D)), 0 < m → m ≤ rest.length → (k = 0 → m < ns.length) → IvTree ns (.str (wd up)) (k + 1) [some (.o .s, stD z2), some (.s, .lst (nsL ns)), some (.s, .str (wd up)), some (.o .s, .lst (nssL parts ++ [.lst (cutD (nsL rest) none (some (m : Int)))])), some (.s, .lst (cutD (nsL rest) (some (m : Int)) none)), some (.s, .int (k : Nat)), v, none, none] := fun m v h0 h1 h2 => by
          rw [cut_to, cut_from, nsL_take, nsL_drop, nssL_app]
          exact ⟨z2, _, _, _, _, rfl, P.step h0 h1 h2⟩
        have hc' : (nssL parts).length < sizeLine := by
          unfold nssL
          rw [List.length_map]
          exact hc
        simp
        split
        · rename_i hk0
          split
          · rename_i hrr
            have e : (if (1 : Int) < 1 + (r : Int) - 1 then 1 + (r : Int) - 1 else 1) = ((max 1 r : Nat) : Int) := by
              split <;> omega
            rw [e]
            exact ⟨hc', go (max 1 r) _ (by omega) (by omega) (by omega)⟩
          · rw [e1]
            exact ⟨hc', go (1 + r) _ (by omega) (by omega) (by omega)⟩
        · rw [e1]
          exact ⟨hc', go (1 + r) _ (by omega) (by omega) (by omega)⟩
      · rename_i hpos
        have : rest = [] := List.length_eq_zero_iff.mp (by omega)
        subst this
        refine ⟨z1, parts, [], _, _, rfl, P.all, P.sm, by simp; omega, by have := P.cnt; omega, .inr (by simp; omega)⟩
    · obtain ⟨z1, parts, rest, v5, v6, e, P⟩ := hI
      subst e
      have : rest = [] := List.length_eq_zero_iff.mp (by have := P.few; omega)
      subst this
      have hall : parts.flatten = ns := by have := P.all; simpa using this
      simp
      refine ⟨s2, .str (wd (!up)), ?_, ?_⟩
      · simp only [wd_beside]
        cases up <;> rfl
      · refine wE_compI (IvTree2 ns parts (ns.length - 1) (.str (wd up)) (.lst (nsL [])) (.str (wd (!up))) v5 v6) (nssL parts) (fun R h => by simpa using h) (by simp) ⟨z1, [], rfl, rfl, rfl, by simp [hts], rfl⟩ (fun k x acc ρ hx hI => ?_) (fun acc ρ hI => ?_)
        · obtain ⟨z2, ts, ea, hl, hm, hh, e⟩ := hI
          subst e
          unfold nssL at hx
          rw [List.getElem?_map] at hx
          cases q : parts[k]? with
          | none =>
            rw [q] at hx
            cases hx
          | some p =>
            rw [q] at hx
            cases hx
            obtain ⟨p1, p2⟩ := P.sm p (List.mem_of_getElem? q)
            simp [t10]
            refine ⟨z2, p, !up, rfl, p1, by omega, by omega, fun z3 t hmt hht => ?_⟩
            simp
            have hkl : k < parts.length := (List.getElem?_eq_some_iff.mp q).1
            refine ⟨?_, z3, ts ++ [t], ?_, ?_, ?_, hts_app hh (by omega), rfl⟩
            · rw [ea, treesD_len, hl]
              have := P.cnt
              omega
            · rw [ea, treesD_map, treesD_map, List.map_append]
              rfl
            · rw [List.length_append, hl]
              rfl
            · rw [memss_app, hm, flatten_take q]
              show _ ++ (mems t ++ []) = _
              rw [List.append_nil, hmt]
        · obtain ⟨z2, ts, ea, hl, hm, hh, e⟩ := hI
          subst e
          have hl2 : (nssL parts).length = parts.length := by
            unfold nssL
            rw [List.length_map]
          rw [hl2, List.take_length, hall] at hm
          rw [ea]
          simp
          refine ⟨s2, rfl, rfl, h z2 (.node up ts) hm ?_⟩
          show hts ts + 1 ≤ _
          omega
end Y
namespace Y
open PySem PySem.Spec PyProof.Rows L2

def c_family : C :=
 (.seq (.ifs (.cmp .Eq (.var 1) (.int 0)) (.seq (.ret (.lst .s .nil))
 .skip) .skip)
 (.seq (.ifs (.cmp .Eq (.var 2) (.int 1)) (.seq (.ret (.call 17 (.cons (.comp .s [("_law_k", 3)] (.tn 3) (.rng1 (.var 1)) .nil (.call 2 (.cons (.bor 0) (.cons (.int 4) .nil)))) .nil)))
 .skip) .skip)
 (.seq (.ifs (.cmp .Eq (.var 2) (.int 2)) (.seq (.ret (.call 16 (.cons (.call 15 (.cons (.bor 0) (.cons (.var 1) .nil))) .nil)))
 .skip) .skip)
 (.seq (.ifs (.cmp .Eq (.var 2) (.int 3)) (.seq (.ret (.call 12 (.cons (.call 10 (.cons (.bor 0) (.cons (.call 3 (.cons (.bor 0) (.cons (.lrange (.var 1)) .nil))) (.cons (.idx (.lst .s (.cons (.str "beside") (.cons (.str "above") .nil))) (.call 2 (.cons (.bor 0) (.cons (.int 2) .nil)))) .nil)))) .nil)))
 .skip) .skip)
 (.seq (.ifs (.cmp .Eq (.var 2) (.int 4)) (.seq (.ret (.call 14 (.cons (.call 13 (.cons (.bor 0) (.cons (.var 1) .nil))) .nil)))
 .skip) .skip)
 (.seq (.ifs (.cmp .Eq (.var 2) (.int 5)) (.seq (.ret (.call 8 (.cons (.call 7 (.cons (.bor 0) (.cons (.var 1) (.cons (.bin .Add (.int 2) (.call 2 (.cons (.bor 0) (.cons (.int 8) .nil)))) (.cons (.neg (.int 1)) .nil))))) .nil)))
 .skip) .skip)
 (.seq (.ifs (.cmp .Eq (.var 2) (.int 6)) (.seq (.ret (.call 8 (.cons (.call 7 (.cons (.bor 0) (.cons (.var 1) (.cons (.bin .Add (.int 2) (.call 2 (.cons (.bor 0) (.cons (.int 12) .nil)))) (.cons (.call 2 (.cons (.bor 0) (.cons (.int 5) .nil))) .nil))))) .nil)))
 .skip) .skip)
 (.seq (.ifs (.cmp .Eq (.var 2) (.int 7)) (.seq (.ret (.call 9 (.cons (.call 3 (.cons (.bor 0) (.cons (.lrange (.var 1)) .nil))) (.cons (.call 3 (.cons (.bor 0) (.cons (.lrange (.var 1)) .nil))) .nil))))
 .skip) .skip)
 (.seq (.ifs (.and (.cmp .Eq (.var 2) (.int 8)) (.one (.cmp .Gt (.var 1) (.int 5)))) (.seq (.ret (.call 18 (.cons (.bor 0) (.cons (.var 1) .nil))))
 .skip) .skip)
 (.seq (.ret (.call 6 (.cons (.bor 0) (.cons (.var 1) .nil))))
 .skip))))))))))
/- N family = 0:stream_here 1:size 2:family_here 3:k -/
def c_any_order : C :=
 (.seq (.asg 2 .s (.call 2 (.cons (.bor 0) (.cons (.bin .Add (.var 1) (.int 1)) .nil))))
 (.seq (.ifs (.cmp .Eq (.call 2 (.cons (.bor 0) (.cons (.int 3) .nil))) (.int 0)) (.seq (.asg 2 .s (.var 1))
 .skip) .skip)
 (.seq (.asg 3 .s (.call 19 (.cons (.bor 0) (.cons (.var 2) (.cons (.call 2 (.cons (.bor 0) (.cons (.int 11) .nil))) .nil)))))
 (.seq (.asg 4 .s (.call 4 (.cons (.var 2) (.cons (.var 3) .nil))))
 (.seq (.ifs (.cmp .Eq (.call 2 (.cons (.bor 0) (.cons (.int 4) .nil))) (.int 0)) (.seq (.asg 5 (.o .s) (.lst .s .nil))
 (.seq (.for_ (.tt (.cons (.tn 6) (.cons (.tn 7) .nil))) (.itr (.var 3))
 (.seq (.ifs (.cmp .Gt (.call 2 (.cons (.bor 0) (.cons (.int 6) .nil))) (.int 0)) (.seq (.ex (.app (.bor 5) (.tup (.cons (.var 6) (.cons (.var 7) .nil)))))
 .skip) .skip)
 .skip))
 (.seq (.asg 4 .s (.call 4 (.cons (.var 2) (.cons (.mv 5) .nil))))
 .skip))) .skip)
 (.seq (.ret (.var 4))
 .skip))))))
/- N any_order = 0:stream_here 1:most 2:size 3:pairs_here 4:table 5:kept 6:low 7:high -/
def c_covers : C :=
 (.seq (.ifs (.not (.idx (.idx (.var 0) (.var 1)) (.var 2))) (.seq (.ret (.bl false))
 .skip) .skip)
 (.seq (.ret (.not (.b1 .any (.comp .s [("_law_k", 3)] (.tn 3) (.rng1 (.b1 .len (.var 0))) .nil (.and (.idx (.idx (.var 0) (.var 1)) (.var 3)) (.one (.idx (.idx (.var 0) (.var 3)) (.var 2))))))))
 .skip))
/- N covers = 0:table 1:low 2:high 3:k -/
def c_told : C :=
 (.seq (.asg 2 (.o .s) (.lst .s .nil))
 (.seq (.for_ (.tt (.cons (.tn 3) (.cons (.tn 4) .nil))) (.itr (.call 5 (.cons (.var 1) .nil)))
 (.seq (.ifs (.or (.call 21 (.cons (.var 1) (.cons (.var 3) (.cons (.var 4) .nil)))) (.one (.cmp .Eq (.call 2 (.cons (.bor 0) (.cons (.int 3) .nil))) (.int 0)))) (.seq (.ex (.app (.bor 2) (.tup (.cons (.var 3) (.cons (.var 4) .nil)))))
 .skip) .skip)
 (.seq (.ifs (.cmp .Eq (.call 2 (.cons (.bor 0) (.cons (.int 8) .nil))) (.int 0)) (.seq (.ex (.app (.bor 2) (.tup (.cons (.var 3) (.cons (.var 4) .nil)))))
 .skip) .skip)
 .skip)))
 (.seq (.ret (.call 3 (.cons (.bor 0) (.cons (.mv 2) .nil))))
 .skip)))
/- N told = 0:stream_here 1:table 2:pairs_here 3:low 4:high -/
theorem perm_pairs {ys : List D} {ps : List (Nat × Nat)} (h : ys.Perm (ps.map pD)) : ∃ qs : List (Nat × Nat), ys = qs.map pD ∧ qs.Perm ps :=
  perm_map_inv (f := pD) (fun d => match d with | .tup [.int a, .int b] => (a.toNat, b.toNat) | _ => (0, 0)) (fun x => by
    show ((x.1 : Int).toNat, (x.2 : Int).toNat) = x
    rw [Int.toNat_natCast, Int.toNat_natCast]) h
def spFamily : FSpec := ⟨[.o .s, .s, .s], .s, fun ds R => ∃ (z : St3) (n k : Nat), ds = [stD z, .int n, .int k] ∧ n ≤ 24 ∧ ∀ z' ps, Acyc n ps → R (psD ps) [stD z', .non, .non]⟩
@[simp] theorem spFamily_pm : spFamily.pm = [.o .s, .s, .s] := rfl
@[simp] theorem spFamily_rm : spFamily.rm = .s := rfl
structure TFam (T : List FSpec) : Prop where
  t2 : T[2]? = some spDraw
  t3 : T[3]? = some spMixed
  t6 : T[6]? = some spAnyPairs
  t7 : T[7]? = some spAnySpans
  t8 : T[8]? = some spBySpans
  t9 : T[9]? = some spByRows
  t10 : T[10]? = some (famTree treeDep)
  t12 : T[12]? = some (famTprs treeDep)
  t13 : T[13]? = some spAnyArcs
  t14 : T[14]? = some spByArcs
  t15 : T[15]? = some spAnyParents
  t16 : T[16]? = some spByParents
  t17 : T[17]? = some spByRanks
  t18 : T[18]? = some spCrown
def IvFam (n f : D) (k : Nat) (acc : List D) (ρ : Env) : Prop := ∃ z ns, acc = nsL ns ∧ ns.length = k ∧ ρ = [some (.o .s, stD z), some (.s, n), some (.s, f), none]
theorem rngD_len {n : Nat} : (rangeD 0 1 n).length = n := rng_len
theorem ok_family {T : List FSpec} (t : TFam T) : wD T spFamily c_family 4 := by
  refine wD_of fun ds R ⟨z, n, f, e, hn, h⟩ => ?_
  subst e
  show wS _ [0] _ _ [some (.o .s, stD z), some (.s, .int n), some (.s, .int f), none]
  unfold c_family
  have s1 : (1000000 : Nat) ≤ sizeLine := by decide
  have s2 : 2 ≤ sizeLine := by decide
  obtain ⟨t2, t3, t6, t7, t8, t9, t10, t12, t13, t14, t15, t16, t17, t18⟩ := t
  rw [x_Sseq, x_Sifs]
  simp only [x_Tcmp, x_Evar, x_Eint, isP_int, at0, at1, x_kcEq, x_keqi, decide_eq_true_eq]
  split
  · rename_i h0
    have h0 : n = 0 := by omega
    subst h0
    simp
    exact ⟨rfl, rfl, h z [] ⟨Nat.zero_le _, fun _ => 0, by simp⟩⟩
  rw [x_Sskip, x_Sseq, x_Sifs]
  simp only [x_Tcmp, x_Evar, x_Eint, isP_int, at0, at1, x_kcEq, x_keqi, decide_eq_true_eq]
  split
  · simp [t17]
    refine wE_compI (IvFam (.int n) (.int f)) (rangeD 0 1 n) (fun R h => by simp; exact ⟨by omega, h⟩) (by simp) ⟨z, [], rfl, rfl, rfl⟩ (fun k x acc ρ hx hI => ?_) (fun acc ρ hI => ?_)
    · obtain ⟨z1, ns, ea, hl, e⟩ := hI
      subst e
      obtain ⟨hk, rfl⟩ := rng_get hx
      simp [t2]
      refine run_draw (by omega) (by omega) fun r z2 hr => ?_
      simp
      refine ⟨?_, z2, ns ++ [r], ?_, ?_, rfl⟩
      · rw [ea, nsL_len, hl]
        omega
      · rw [ea, ← nsL_app]
        rfl
      · rw [List.length_append, hl]
        rfl
    · obtain ⟨z1, ns, ea, hl, e⟩ := hI
      subst e
      rw [rng_len] at hl
      subst ea
      simp
      refine ⟨ns, rfl, by omega, rfl, rfl, h z1 _ ?_⟩
      rw [← hl]
      exact acyc_ranks (by omega)
  rw [x_Sskip, x_Sseq, x_Sifs]
  simp only [x_Tcmp, x_Evar, x_Eint, isP_int, at0, at1, x_kcEq, x_keqi, decide_eq_true_eq]
  split
  · simp [t15, t16]
    refine ⟨z, n, rfl, by omega, fun z1 os r hl hu => ?_⟩
    simp
    refine ⟨os, rfl, by omega, rfl, rfl, h z1 _ ?_⟩
    subst hl
    exact acyc_parents hu (by omega)
  rw [x_Sskip, x_Sseq, x_Sifs]
  simp only [x_Tcmp, x_Evar, x_Eint, isP_int, at0, at1, x_kcEq, x_keqi, decide_eq_true_eq]
  split
  · simp only [x_Sseq, x_Sret, x_Ecall, t12, famTprs_pm, x_Ac, isBor_call, x_An]
    simp only [x_Ecall, t10, famTree_pm, x_Ac, isBor_bor, isBor_call, isBor_idx]
    simp [t3]
    refine ⟨by omega, run_row (by omega) fun z1 ns hns => ?_⟩
    simp [t2]
    refine ⟨s2, run_draw (by omega) (by omega) fun r z2 hr => ?_⟩
    simp
    have two : ∃ up, atI [D.str (Str.ofString "beside"), D.str (Str.ofString "above")] (r : Int) = some (.str (wd up)) := by
      match r, hr with
      | 0, _ => exact ⟨false, rfl⟩
      | 1, _ => exact ⟨true, rfl⟩
      | r + 2, h => omega
    obtain ⟨up, hup⟩ := two
    have hl := hns.len
    have htd : treeDep = 24 := rfl
    refine ⟨_, hup, z2, ns, up, rfl, by omega, by omega, by omega, fun z3 t hm hh => ?_⟩
    simp
    refine ⟨t, rfl, by omega, by omega, by rw [hm]; omega, ?_⟩
    simp
    refine ⟨rfl, rfl, h z3 _ ?_⟩
    rw [← hm] at hns
    exact acyc_tree hns (by omega)
  rw [x_Sskip, x_Sseq, x_Sifs]
  simp only [x_Tcmp, x_Evar, x_Eint, isP_int, at0, at1, x_kcEq, x_keqi, decide_eq_true_eq]
  split
  · simp [t13, t14]
    refine ⟨z, n, rfl, by omega, fun z1 sp hl hu => ?_⟩
    simp
    refine ⟨sp, rfl, by omega, rfl, rfl, h z1 _ ?_⟩
    subst hl
    exact acyc_arcs hu (by omega)
  rw [x_Sskip, x_Sseq, x_Sifs]
  simp only [x_Tcmp, x_Evar, x_Eint, isP_int, at0, at1, x_kcEq, x_keqi, decide_eq_true_eq]
  split
  · simp [t7, t8, t2]
    refine run_draw (by omega) (by omega) fun r z1 hr => ?_
    simp
    refine ⟨z1, n, 2 + r, -1, rfl, by omega, by omega, by omega, by omega, fun z2 sp hl hu => ?_⟩
    simp
    refine ⟨sp, rfl, by omega, rfl, rfl, h z2 _ ?_⟩
    subst hl
    exact acyc_spans hu (by omega)
  rw [x_Sskip, x_Sseq, x_Sifs]
  simp only [x_Tcmp, x_Evar, x_Eint, isP_int, at0, at1, x_kcEq, x_keqi, decide_eq_true_eq]
  split
  · simp [t7, t8, t2]
    refine run_draw (by omega) (by omega) fun r z1 hr => ?_
    simp [t2]
    refine run_draw (by omega) (by omega) fun r2 z2 hr2 => ?_
    simp
    refine ⟨z2, n, 2 + r, (r2 : Int), rfl, by omega, by omega, by omega, by omega, fun z2 sp hl hu => ?_⟩
    simp
    refine ⟨sp, rfl, by omega, rfl, rfl, h z2 _ ?_⟩
    subst hl
    exact acyc_spans hu (by omega)
  rw [x_Sskip, x_Sseq, x_Sifs]
  simp only [x_Tcmp, x_Evar, x_Eint, isP_int, at0, at1, x_kcEq, x_keqi, decide_eq_true_eq]
  split
  · simp [t3, t9]
    refine ⟨by omega, run_row (by omega) fun z1 a ha => ?_⟩
    simp [t3]
    refine ⟨by omega, run_row (by omega) fun z2 b hb => ?_⟩
    simp
    exact ⟨n, a, b, rfl, by omega, ha, hb, rfl, rfl, h z2 _ (acyc_rows ha hb (by omega))⟩
  rw [x_Sskip, x_Sseq, x_Sifs]
  simp only [x_Tand, x_Tone, x_Tcmp, x_Evar, x_Eint, isP_int, at0, at1, x_kcEq, x_kcGt, x_keqi, decide_eq_true_eq]
  have last : wS T [0] ((C.call 6 ((C.bor 0).cons ((C.var 1).cons C.nil))).ret.seq C.skip) ⟨fin spFamily R M.s D.non, fin spFamily R, fun _ => False, fun _ => False⟩ [some (M.s.o, stD z), some (M.s, D.int ↑n), some (M.s, D.int ↑f), none] := by
    simp [t6]
    exact ⟨z, n, rfl, by omega, fun z1 ps hp => ⟨rfl, rfl, h z1 ps hp⟩⟩
  split
  · split
    · rename_i h8 h5
      simp [t18]
      exact ⟨z, n, rfl, by omega, by omega, fun z1 ps hp => ⟨rfl, rfl, h z1 ps hp⟩⟩
    · rw [x_Sskip]
      exact last
  · rw [if_neg Bool.false_ne_true, x_Sskip]
    exact last
/-! ### orders -/
/-- a strict order of the places below n -/
structure Ord (n : Nat) (t : Nat → Nat → Bool) : Prop where
  tr : ∀ i j k, i < n → j < n → k < n → t i j = true → t j k = true → t i k = true
  rk : ∃ r : Nat → Nat, ∀ i j, i < n → j < n → t i j = true → r i < r j
theorem TG.rank {ps : List (Nat × Nat)} {r : Nat → Nat} (h : ∀ p ∈ ps, r p.1 < r p.2) {i j : Nat} (q : TG ps i j) : r i < r j := by
  induction q with
  | single e => exact h _ e
  | tail _ e ih => exact Nat.lt_trans ih (h _ e)
theorem ord_of {n : Nat} {ps : List (Nat × Nat)} {t : Nat → Nat → Bool} (h : Acyc n ps) (ht : ∀ i j, i < n → j < n → (t i j = true ↔ TG ps i j)) : Ord n t := by
  obtain ⟨_, r, hr⟩ := h
  refine ⟨fun i j k hi hj hk h1 h2 => ?_, r, fun i j hi hj h1 => ?_⟩
  · exact (ht i k hi hk).mpr (((ht i j hi hj).mp h1).trans ((ht j k hj hk).mp h2))
  · exact TG.rank (fun p hp => (hr p hp).2.2) ((ht i j hi hj).mp h1)
def spAnyOrder : FSpec := ⟨[.o .s, .s], .s, fun ds R => ∃ (z : St3) (most : Nat), ds = [stD z, .int most] ∧ most ≤ 24 ∧ ∀ z' n t, n ≤ most → Ord n t → R (tabD n t) [stD z', .non]⟩
@[simp] theorem spAnyOrder_pm : spAnyOrder.pm = [.o .s, .s] := rfl
@[simp] theorem spAnyOrder_rm : spAnyOrder.rm = .s := rfl
theorem run_closed {n : Nat} {ps : List (Nat × Nat)} {P : D → List D → Prop} (hn : n ≤ 64) (h : Acyc n ps) (q : ∀ t, Ord n t → (∀ i j, i < n → j < n → (t i j = true ↔ TG ps i j)) → P (tabD n t) [.non, .non]) : spClosed.run [.int n, psD ps] P := by
  refine ⟨n, ps, rfl, hn, fun p hp => ?_, fun t ht => q t (ord_of h ht) ht⟩
  obtain ⟨_, r, hr⟩ := h
  exact ⟨(hr p hp).1, (hr p hp).2.1⟩
def IvKept (n : Nat) (most size table : D) (ps : List (Nat × Nat)) (k : Nat) (ρ : Env) : Prop := ∃ z qs v6 v7, ρ = [some (.o .s, stD z), some (.s, most), some (.s, size), some (.s, psD ps), some (.s, table), some (.o .s, psD qs), v6, v7] ∧ qs.length ≤ k ∧ ∀ p ∈ qs, p ∈ ps
theorem psD_get {ps : List (Nat × Nat)} {k : Nat} {x : D} (h : (ps.map pD)[k]? = some x) : ∃ p, ps[k]? = some p ∧ x = .tup [.int (p.1 : Nat), .int (p.2 : Nat)] := by
  rw [List.getElem?_map] at h
  cases q : ps[k]? with
  | none =>
    rw [q] at h
    cases h
  | some p =>
    rw [q] at h
    cases h
    exact ⟨p, rfl, rfl⟩
theorem ok_any_order {T : List FSpec} (t2 : T[2]? = some spDraw) (t4 : T[4]? = some spClosed) (t19 : T[19]? = some spFamily) : wD T spAnyOrder c_any_order 8 := by
  refine wD_of fun ds R ⟨z, most, e, hn, h⟩ => ?_
  subst e
  show wS _ [0] _ _ [some (.o .s, stD z), some (.s, .int most), none, none, none, none, none, none]
  unfold c_any_order
  have s1 : (1000000 : Nat) ≤ sizeLine := by decide
  have s2 : 2 ≤ sizeLine := by decide
  rw [x_Sseq, x_Sasg]
  simp only [x_Ecall, t2, spDraw_pm, x_Ac, isBor_bor, isBor_bin, x_An, x_Ebin, x_Evar, x_Eint, at0, at1, x_badd, root_bor]
  refine ⟨rfl, rfl, trivial, fun z => (by cases z), fun z => (by simp at z), ?_⟩
  refine run_draw (by omega) (by omega) fun n z1 hr => ?_
  have hr : n ≤ most := by omega
  refine ⟨rfl, fun z => (by simp at z), ?_⟩
  show wS _ _ _ _ [some (.o .s, stD z1), some (.s, .int most), some (.s, .int (n : Nat)), none, none, none, none, none]
  rw [x_Sseq, x_Sifs]
  simp only [x_Tcmp, x_Ecall, t2, spDraw_pm, x_Ac, isBor_bor, isBor_int, isP_int, x_An, x_Evar, x_Eint, at0, at1, root_bor]
  refine ⟨rfl, rfl, trivial, fun z => (by cases z), fun z => (by simp at z), ?_⟩
  refine run_draw (by omega) (by omega) fun r z2 _ => ?_
  simp only [x_kcEq, x_keqi]
  show (if _ then wS _ _ _ _ [some (.o .s, stD z2), some (.s, .int most), some (.s, .int (n : Nat)), none, none, none, none, none] else wS _ _ _ _ [some (.o .s, stD z2), some (.s, .int most), some (.s, .int (n : Nat)), none, none, none, none, none])
  have main : ∀ n z, n ≤ most → wS T [0]
      (.seq (.asg 3 .s (.call 19 (.cons (.bor 0) (.cons (.var 2) (.cons (.call 2 (.cons (.bor 0) (.cons (.int 11) .nil))) .nil)))))
 (.seq (.asg 4 .s (.call 4 (.cons (.var 2) (.cons (.var 3) .nil))))
 (.seq (.ifs (.cmp .Eq (.call 2 (.cons (.bor 0) (.cons (.int 4) .nil))) (.int 0)) (.seq (.asg 5 (.o .s) (.lst .s .nil))
 (.seq (.for_ (.tt (.cons (.tn 6) (.cons (.tn 7) .nil))) (.itr (.var 3))
 (.seq (.ifs (.cmp .Gt (.call 2 (.cons (.bor 0) (.cons (.int 6) .nil))) (.int 0)) (.seq (.ex (.app (.bor 5) (.tup (.cons (.var 6) (.cons (.var 7) .nil)))))
 .skip) .skip)
 .skip))
 (.seq (.asg 4 .s (.call 4 (.cons (.var 2) (.cons (.mv 5) .nil))))
 .skip))) .skip)
 (.seq (.ret (.var 4))
 .skip)))) ⟨fin spAnyOrder R .s .non, fin spAnyOrder R, fun _ => False, fun _ => False⟩ [some (.o .s, stD z), some (.s, .int most), some (.s, .int (n : Nat)), none, none, none, none, none] := by
    intro n z hn2
    simp [t2, t19]
    refine run_draw (by omega) (by omega) fun fam z1 _ => ?_
    simp
    refine ⟨z1, n, fam, rfl, by omega, fun z2 ps hps => ?_⟩
    simp [t4]
    refine run_closed (by omega) hps fun t ht _ => ?_
    simp [t2]
    refine run_draw (by omega) (by omega) fun r z3 _ => ?_
    simp
    split
    · refine wS_itr (IvKept n (.int most) (.int n) (tabD n t) ps) (xs := ps.map pD) (.inl rfl) (fun R h => by simpa [psD] using h) ⟨z3, [], _, _, rfl, by simp, by simp⟩ (fun k x ρ hx hI => ?_) (fun ρ hI => ?_)
      · obtain ⟨z4, qs, v6, v7, e, hl, hq⟩ := hI
        obtain ⟨p, hp, rfl⟩ := psD_get hx
        have hk : k < ps.length := (List.getElem?_eq_some_iff.mp hp).1
        have hpl := hps.1
        subst e
        simp [t2]
        refine run_draw (by omega) (by omega) fun r z5 _ => ?_
        simp
        split
        · simp [psD]
          refine ⟨by omega, s2, by omega, ?_⟩
          rw [psD_app]
          refine ⟨z5, _, _, _, rfl, by rw [List.length_append]; show _ + 1 ≤ _; omega, fun q hq2 => ?_⟩
          rcases List.mem_append.mp hq2 with hq2 | hq2
          · exact hq q hq2
          · have : q = p := by simpa using hq2
            subst this
            exact List.mem_of_getElem? hp
        · exact ⟨z5, qs, _, _, rfl, by omega, hq⟩
      · obtain ⟨z4, qs, v6, v7, e, hl, hq⟩ := hI
        subst e
        rw [List.length_map] at hl
        have hqs : Acyc n qs := by
          obtain ⟨h1, r, h2⟩ := hps
          exact ⟨by omega, r, fun p hp => h2 p (hq p hp)⟩
        simp [t4]
        refine run_closed (by omega) hqs fun t ht _ => ?_
        simp
        exact ⟨rfl, rfl, h z4 n t hn2 ht⟩
    · exact ⟨rfl, rfl, h z3 n t hn2 ht⟩
  split
  · rw [x_Sseq, x_Sasg, x_Evar]
    refine ⟨rfl, fun z => (by simp at z), ?_⟩
    exact main most z2 (Nat.le_refl _)
  · exact main n z2 hr
end Y
namespace Y
open PySem PySem.Spec PyProof.Rows L2

/-! ### covers, pairs that tell an order -/
def covT (n : Nat) (t : Nat → Nat → Bool) (i j : Nat) : Bool := t i j && !((List.range n).any fun k => t i k && t k j)
def spCovers : FSpec := ⟨[.s, .s, .s], .s, fun ds R => ∃ (n : Nat) (t : Nat → Nat → Bool) (i j : Nat), ds = [tabD n t, .int i, .int j] ∧ n ≤ 64 ∧ i < n ∧ j < n ∧ R (.bl (covT n t i j)) [.non, .non, .non]⟩
@[simp] theorem spCovers_pm : spCovers.pm = [.s, .s, .s] := rfl
@[simp] theorem spCovers_rm : spCovers.rm = .s := rfl
theorem ok_covers {T : List FSpec} : wD T spCovers c_covers 4 := by
  refine wD_of fun ds R ⟨n, t, i, j, e, hn, hi, hj, h⟩ => ?_
  subst e
  show wS _ [] _ _ [some (.s, tabD n t), some (.s, .int i), some (.s, .int j), none]
  unfold c_covers
  have s1 : (1000000 : Nat) ≤ sizeLine := by decide
  simp [atI_tab, atI_row, hi, hj]
  split
  · rename_i h0
    refine wE_compR0 (n := n) (fun k => .bl (t i k && t k j)) (fun R h => by simpa using h) (by omega) (by simp) (by simp) (fun k hk R h => ?_) ?_
    · simp [atI_tab, atI_row, hi, hj, hk]
      cases q : t i k with
      | true =>
        rw [q] at h
        simpa using h _ rfl
      | false =>
        rw [q] at h
        simpa using h _ rfl
    · simp
      refine ⟨(List.range n).map fun k => t i k && t k j, by rw [List.map_map]; rfl, rfl, ?_⟩
      unfold covT at h
      rw [h0, Bool.true_and] at h
      rw [List.any_map]
      exact h
  · rename_i h0
    refine ⟨rfl, ?_⟩
    unfold covT at h
    rw [Bool.not_eq_true] at h0
    rw [h0] at h
    exact h
structure Tells (n : Nat) (t : Nat → Nat → Bool) (qs : List (Nat × Nat)) : Prop where
  sub : ∀ p ∈ qs, p.1 < n ∧ p.2 < n ∧ t p.1 p.2 = true
  cov : ∀ i j, i < n → j < n → covT n t i j = true → (i, j) ∈ qs
  few : qs.length ≤ 10000
def spTold : FSpec := ⟨[.o .s, .s], .s, fun ds R => ∃ (z : St3) (n : Nat) (t : Nat → Nat → Bool), ds = [stD z, tabD n t] ∧ n ≤ 64 ∧ ∀ z' qs, Tells n t qs → R (psD qs) [stD z', .non]⟩
@[simp] theorem spTold_pm : spTold.pm = [.o .s, .s] := rfl
@[simp] theorem spTold_rm : spTold.rm = .s := rfl
def IvTold (n : Nat) (t : Nat → Nat → Bool) (k : Nat) (ρ : Env) : Prop := ∃ z qs v3 v4, ρ = [some (.o .s, stD z), some (.s, tabD n t), some (.o .s, psD qs), v3, v4] ∧ qs.length ≤ 2 * k ∧ (∀ p ∈ qs, p.1 < n ∧ p.2 < n ∧ t p.1 p.2 = true) ∧ ∀ p ∈ (prs n t n).take k, covT n t p.1 p.2 = true → p ∈ qs
theorem IvTold.two {n k : Nat} {t : Nat → Nat → Bool} {p : Nat × Nat} (hp : (prs n t n)[k]? = some p) {qs : List (Nat × Nat)} (h1 : ∀ p ∈ (prs n t n).take k, covT n t p.1 p.2 = true → p ∈ qs) (h2 : covT n t p.1 p.2 = true → p ∈ qs) : ∀ p ∈ (prs n t n).take (k + 1), covT n t p.1 p.2 = true → p ∈ qs := by
  intro q hq hc
  rw [List.take_succ, hp] at hq
  rcases List.mem_append.mp hq with hq | hq
  · exact h1 q hq hc
  · have : q = p := by simpa using hq
    subst this
    exact h2 hc
theorem ok_told {T : List FSpec} (t2 : T[2]? = some spDraw) (t3 : T[3]? = some spMixed) (t5 : T[5]? = some spPairs) (t21 : T[21]? = some spCovers) : wD T spTold c_told 5 := by
  refine wD_of fun ds R ⟨z, n, t, e, hn, h⟩ => ?_
  subst e
  show wS _ [0] _ _ [some (.o .s, stD z), some (.s, tabD n t), none, none, none]
  unfold c_told
  have s1 : (1000000 : Nat) ≤ sizeLine := by decide
  have s2 : 2 ≤ sizeLine := by decide
  have hpl : (prs n t n).length ≤ 64 * 64 := Nat.le_trans prs_len (Nat.mul_le_mul hn hn)
  simp
  refine wS_itr (IvTold n t) (xs := (prs n t n).map pD) (mx := .s) (x := psD (prs n t n)) (.inl rfl) (fun R h => ?_) ⟨z, [], _, _, rfl, by simp, by simp, by simp⟩ (fun k x ρ hx hI => ?_) (fun ρ hI => ?_)
  · simp [t5]
    exact ⟨n, t, rfl, hn, by simpa using h⟩
  · obtain ⟨z1, qs, v3, v4, e, hl, hq, hc⟩ := hI
    obtain ⟨p, hp, rfl⟩ := psD_get hx
    have hk : k < (prs n t n).length := (List.getElem?_eq_some_iff.mp hp).1
    obtain ⟨m1, m2, m3⟩ := prs_mem.mp (List.mem_of_getElem? hp)
    subst e
    have add : ∀ {qs : List (Nat × Nat)}, (∀ p ∈ qs, p.1 < n ∧ p.2 < n ∧ t p.1 p.2 = true) → ∀ q ∈ qs ++ [(p.1, p.2)], q.1 < n ∧ q.2 < n ∧ t q.1 q.2 = true := fun hq q h => by
      rcases List.mem_append.mp h with h | h
      · exact hq q h
      · have : q = p := by simpa using h
        subst this
        exact ⟨m1, m2, m3⟩
    have second : ∀ z (qs : List (Nat × Nat)), qs.length ≤ 2 * k + 1 → (∀ p ∈ qs, p.1 < n ∧ p.2 < n ∧ t p.1 p.2 = true) → (∀ p ∈ (prs n t n).take (k + 1), covT n t p.1 p.2 = true → p ∈ qs) →
        wS T [0] (.seq (.ifs (.cmp .Eq (.call 2 (.cons (.bor 0) (.cons (.int 8) .nil))) (.int 0)) (.seq (.ex (.app (.bor 2) (.tup (.cons (.var 3) (.cons (.var 4) .nil))))) .skip) .skip) .skip)
          ⟨IvTold n t (k + 1), fin spTold R, wS T [0] (.seq (.ret (.call 3 (.cons (.bor 0) (.cons (.mv 2) .nil)))) .skip) ⟨fin spTold R .s .non, fin spTold R, fun _ => False, fun _ => False⟩, IvTold n t (k + 1)⟩
          [some (.o .s, stD z), some (.s, tabD n t), some (.o .s, psD qs), some (.s, .int (p.1 : Nat)), some (.s, .int (p.2 : Nat))] := fun z qs hl hq hc => by
      simp [t2]
      refine run_draw (by omega) (by omega) fun r z2 _ => ?_
      simp
      split
      · simp [psD]
        refine ⟨by omega, s2, by omega, ?_⟩
        rw [psD_app]
        exact ⟨z2, _, _, _, rfl, by rw [List.length_append]; show _ + 1 ≤ _; omega, add hq, fun q h1 h2 => List.mem_append_left _ (hc q h1 h2)⟩
      · exact ⟨z2, qs, _, _, rfl, by omega, hq, hc⟩
    have app : ∀ z, wS T [0] (.seq (.ex (.app (.bor 2) (.tup (.cons (.var 3) (.cons (.var 4) .nil))))) .skip)
          ⟨wS T [0] (.seq (.ifs (.cmp .Eq (.call 2 (.cons (.bor 0) (.cons (.int 8) .nil))) (.int 0)) (.seq (.ex (.app (.bor 2) (.tup (.cons (.var 3) (.cons (.var 4) .nil))))) .skip) .skip) .skip)
          ⟨IvTold n t (k + 1), fin spTold R, wS T [0] (.seq (.ret (.call 3 (.cons (.bor 0) (.cons (.mv 2) .nil)))) .skip) ⟨fin spTold R .s .non, fin spTold R, fun _ => False, fun _ => False⟩, IvTold n t (k + 1)⟩, fin spTold R, wS T [0] (.seq (.ret (.call 3 (.cons (.bor 0) (.cons (.mv 2) .nil)))) .skip) ⟨fin spTold R .s .non, fin spTold R, fun _ => False, fun _ => False⟩, IvTold n t (k + 1)⟩
          [some (.o .s, stD z), some (.s, tabD n t), some (.o .s, psD qs), some (.s, .int (p.1 : Nat)), some (.s, .int (p.2 : Nat))] := fun z => by
      rw [x_Sseq, x_Sex]
      simp only [x_Eappb, x_Etup, x_Lc, x_Ln, x_Evar, at0, at1, psD, List.set_cons_zero, List.set_cons_succ, psD_app, List.length_map]
      refine ⟨by omega, rfl, rfl, s2, by omega, rfl, ?_⟩
      exact second z (qs ++ [(p.1, p.2)]) (by rw [List.length_append]; show _ + 1 ≤ _; omega) (add hq) (IvTold.two hp (fun q h1 h2 => List.mem_append_left _ (hc q h1 h2)) fun _ => List.mem_append_right _ (List.mem_cons_self ..))
    simp only [x_Gt, x_Gsc, x_Gn, x_Gsn, len_cons, len_nil, List.length_cons, List.length_nil]
    refine ⟨trivial, by simp, by simp, trivial, ?_⟩
    show wS T [0] _ _ [some (.o .s, stD z1), some (.s, tabD n t), some (.o .s, psD qs), some (.s, .int (p.1 : Nat)), some (.s, .int (p.2 : Nat))]
    rw [x_Sseq, x_Sifs, x_Tor]
    simp only [x_Tcall, t21, spCovers_pm, x_Ac, x_An, isBor_var, x_Evar, at0, at1]
    refine ⟨rfl, rfl, rfl, n, t, p.1, p.2, rfl, hn, m1, m2, ?_⟩
    simp only [x_ktb]
    split
    · rw [if_pos trivial]
      exact app z1
    · rename_i hcv
      simp only [x_Tone, x_Tcmp, x_Ecall, t2, spDraw_pm, x_Ac, isBor_bor, isBor_int, isP_int, x_An, x_Evar, x_Eint, at0, at1, root_bor]
      refine ⟨rfl, rfl, rfl, fun z => (by cases z), fun z => (by simp at z), ?_⟩
      refine run_draw (by omega) (by omega) fun r z2 _ => ?_
      simp only [x_kcEq, x_keqi]
      show (if _ then wS _ _ _ _ [some (.o .s, stD z2), some (.s, tabD n t), some (.o .s, psD qs), some (.s, .int (p.1 : Nat)), some (.s, .int (p.2 : Nat))] else wS _ _ _ _ [some (.o .s, stD z2), some (.s, tabD n t), some (.o .s, psD qs), some (.s, .int (p.1 : Nat)), some (.s, .int (p.2 : Nat))])
      split
      · exact app z2
      · rw [x_Sskip]
        exact second z2 qs (by omega) hq (IvTold.two hp hc fun z => absurd z hcv)
  · obtain ⟨z1, qs, v3, v4, e, hl, hq, hc⟩ := hI
    subst e
    rw [List.length_map] at hl hc
    rw [List.take_length] at hc
    simp [t3, psD]
    refine run_mixed (by rw [List.length_map]; omega) fun z2 ys hy => ?_
    obtain ⟨ms, rfl, hm⟩ := perm_pairs hy
    refine ⟨rfl, rfl, h z2 ms ⟨fun p hp => hq p (hm.mem_iff.mp hp), fun i j hi hj hcv => ?_, by rw [hm.length_eq]; omega⟩⟩
    refine hm.mem_iff.mpr (hc (i, j) (prs_mem.mpr ⟨hi, hj, ?_⟩) hcv)
    unfold covT at hcv
    exact (Bool.and_eq_true_iff.mp hcv).1
end Y
namespace Y
open PySem PySem.Spec PyProof.Rows L2

def c_elements_of : C :=
 (.seq (.asg 1 (.o .s) (.lst .s .nil))
 (.seq (.asg 2 .s (.int 0))
 (.seq (.while_ (.cmp .Gt (.var 0) (.int 0))
 (.seq (.ifs (.bin .BitAnd (.var 0) (.int 1)) (.seq (.ex (.app (.bor 1) (.var 2)))
 .skip) .skip)
 (.seq (.asg 0 .s (.bin .RShift (.var 0) (.int 1)))
 (.seq (.aug 2 .Add (.int 1))
 .skip))))
 (.seq (.ret (.mv 1))
 .skip))))
/- N elements_of = 0:mask 1:found 2:at -/
def c_mask_of : C :=
 (.seq (.asg 1 .s (.int 0))
 (.seq (.for_ (.tn 2) (.itr (.var 0))
 (.seq (.asg 1 .s (.bin .BitOr (.var 1) (.bin .LShift (.int 1) (.var 2))))
 .skip))
 (.seq (.ret (.var 1))
 .skip)))
/- N mask_of = 0:members 1:mask 2:element -/
def c_found_ring : C :=
 (.seq (.asg 1 (.o .s) (.bin .Mult (.lst .s (.cons (.str "new") .nil)) (.b1 .len (.var 0))))
 (.seq (.for_ (.tn 2) (.rng1 (.b1 .len (.var 0)))
 (.seq (.asg 3 (.o .s) (.lst .s .nil))
 (.seq (.asg 4 (.o (.o .s)) (.lst (.o .s) .nil))
 (.seq (.ifs (.cmp .Eq (.rd (.bidx (.bor 1) (.var 2))) (.str "new")) (.seq (.setix (.bor 1) (.var 2) (.str "open"))
 (.seq (.ex (.app (.bor 3) (.var 2)))
 (.seq (.ex (.app (.bor 4) (.b1 .list (.idx (.var 0) (.var 2)))))
 .skip))) .skip)
 (.seq (.while_ (.cmp .Gt (.b1 .len (.bor 3)) (.int 0))
 (.seq (.ifs (.cmp .Eq (.b1 .len (.bidx (.bor 4) (.neg (.int 1)))) (.int 0)) (.seq (.setix (.bor 1) (.rd (.bidx (.bor 3) (.neg (.int 1)))) (.str "done"))
 (.seq (.ex (.pop (.bor 3)))
 (.seq (.ex (.pop (.bor 4)))
 (.seq .cont
 .skip)))) .skip)
 (.seq (.asg 5 .s (.pop (.bidx (.bor 4) (.neg (.int 1)))))
 (.seq (.ifs (.cmp .Eq (.rd (.bidx (.bor 1) (.var 5))) (.str "open")) (.seq .never
 .skip) .skip)
 (.seq (.ifs (.cmp .Eq (.rd (.bidx (.bor 1) (.var 5))) (.str "new")) (.seq (.setix (.bor 1) (.var 5) (.str "open"))
 (.seq (.ex (.app (.bor 3) (.var 5)))
 (.seq (.ex (.app (.bor 4) (.b1 .list (.idx (.var 0) (.var 5)))))
 .skip))) .skip)
 .skip)))))
 .skip)))))
 (.seq (.ret .non)
 .skip)))
/- N found_ring = 0:direct 1:state 2:first 3:way 4:left 5:following -/
def c_closed_masks : C :=
 (.seq (.asg 1 (.o .s) (.comp .s [("row", 2)] (.tn 2) (.itr (.var 0)) .nil (.call 24 (.cons (.var 2) .nil))))
 (.seq (.for_ (.tn 3) (.rng1 (.b1 .len (.bor 1)))
 (.seq (.for_ (.tn 4) (.rng1 (.b1 .len (.bor 1)))
 (.seq (.ifs (.bin .BitAnd (.bin .RShift (.rd (.bidx (.bor 1) (.var 4))) (.var 3)) (.int 1)) (.seq (.setix (.bor 1) (.var 4) (.bin .BitOr (.rd (.bidx (.bor 1) (.var 4))) (.rd (.bidx (.bor 1) (.var 3)))))
 .skip) .skip)
 .skip))
 .skip))
 (.seq (.ret (.mv 1))
 .skip)))
/- N closed_masks = 0:direct 1:masks 2:row 3:through 4:element -/
def c_Order___init__ : C :=
 (.seq (.ifs (.not (.chain .LtE .LtE (.int 0) (.var 1) (.gint "MOST" 40))) (.seq .never
 .skip) .skip)
 (.seq (.asg 3 (.o (.o .s)) (.comp (.o .s) [("element", 4)] (.tn 4) (.rng1 (.var 1)) .nil (.lst .s .nil)))
 (.seq (.for_ (.tt (.cons (.tn 5) (.cons (.tt (.cons (.tn 6) (.cons (.tn 7) .nil))) .nil))) (.enum (.var 2))
 (.seq (.ifs (.or (.not (.chain .LtE .Lt (.int 0) (.var 6) (.var 1))) (.one (.not (.chain .LtE .Lt (.int 0) (.var 7) (.var 1))))) (.seq .never
 .skip) .skip)
 (.seq (.ex (.app (.bidx (.bor 3) (.var 6)) (.var 7)))
 .skip)))
 (.seq (.frz 3)
 (.seq (.asg 8 .s (.call 25 (.cons (.var 3) .nil)))
 (.seq (.ifs (.cmp .IsNot (.var 8) .non) (.seq .never
 .skip) .skip)
 (.seq (.setf 0 "_size" .s (.var 1))
 (.seq (.setf 0 "_up" .s (.call 26 (.cons (.var 3) .nil)))
 (.seq (.setf 0 "_down" (.o .s) (.bin .Mult (.lst .s (.cons (.int 0) .nil)) (.var 1)))
 (.seq (.setf 0 "_pairs" (.o .s) (.lst .s .nil))
 (.seq (.for_ (.tn 6) (.rng1 (.var 1))
 (.seq (.for_ (.tn 7) (.itr (.call 23 (.cons (.rd (.bidx (.bfld (.bor 0) "_up") (.var 6))) .nil)))
 (.seq (.setix (.bfld (.bor 0) "_down") (.var 7) (.bin .BitOr (.rd (.bidx (.bfld (.bor 0) "_down") (.var 7))) (.bin .LShift (.int 1) (.var 6))))
 (.seq (.ex (.app (.bfld (.bor 0) "_pairs") (.tup (.cons (.var 6) (.cons (.var 7) .nil)))))
 .skip)))
 .skip))
 .skip)))))))))))
/- N Order___init__ = 0:self 1:size 2:pairs 3:direct 4:element 5:index 6:low 7:high 8:ring -/
def c_Order_below : C :=
 (.seq (.ret (.cmp .Eq (.bin .BitAnd (.bin .RShift (.idx (.fld (.var 0) "_up") (.var 1)) (.var 2)) (.int 1)) (.int 1)))
 .skip)
/- N Order_below = 0:self 1:low 2:high -/
theorem wS_wh {T : List FSpec} {pn : List Nat} {c body : C} {nx : Env → Prop} {rt : M → D → Env → Prop} {bk ct : Env → Prop} {ρ : Env} (Inv : Nat → Env → Prop) (n : Nat) (h0 : Inv n ρ)
    (h : ∀ n ρ1, Inv n ρ1 → wT T pn c (fun k ρ2 => if k = true then wS T pn body ⟨fun ρ' => ∃ n', n' < n ∧ Inv n' ρ', rt, nx, fun ρ' => ∃ n', n' < n ∧ Inv n' ρ'⟩ ρ2 else nx ρ2) ρ1) : wS T pn (.while_ c body) ⟨nx, rt, bk, ct⟩ ρ := ⟨Inv, ⟨n, h0⟩, h⟩
/-! ### bits -/
theorem band (a b : Nat) : Builtin.bitAnd (a : Int) (b : Int) = ((a &&& b : Nat) : Int) := by
  unfold Builtin.bitAnd
  rw [decide_eq_true (Int.natCast_nonneg a), decide_eq_true (Int.natCast_nonneg b)]
  rfl
theorem bnot (a : Int) : Builtin.bitNot a = -a - 1 := by
  unfold Builtin.bitNot
  omega
theorem bor (a b : Nat) : Builtin.bitOr (a : Int) (b : Int) = ((a ||| b : Nat) : Int) := by
  have ha : decide (0 ≤ Builtin.bitNot (a : Int)) = false := decide_eq_false (by rw [bnot]; omega)
  have hb : decide (0 ≤ Builtin.bitNot (b : Int)) = false := decide_eq_false (by rw [bnot]; omega)
  have nn : ∀ x : Int, Builtin.bitNot (Builtin.bitNot x) = x := fun x => by rw [bnot, bnot]; omega
  show Builtin.bitNot (Builtin.bitAnd (Builtin.bitNot (a : Int)) (Builtin.bitNot (b : Int))) = _
  unfold Builtin.bitAnd
  rw [ha, hb]
  show Builtin.bitNot (Builtin.bitNot _) = _
  rw [nn, nn, nn, Int.toNat_natCast, Int.toNat_natCast]
theorem bshr (a k : Nat) : (a : Int) / 2 ^ ((k : Int).toNat) = ((a >>> k : Nat) : Int) := by
  rw [Int.toNat_natCast, Nat.shiftRight_eq_div_pow]
  norm_cast
theorem band1 (a : Nat) : a &&& 1 = if a.testBit 0 then 1 else 0 := by
  rw [Nat.and_one_is_mod, Nat.testBit_zero]
  by_cases h : a % 2 = 1
  · rw [decide_eq_true h, h]
    rfl
  · rw [decide_eq_false h]
    show a % 2 = 0
    omega
def spMask : FSpec := ⟨[.s], .s, fun ds R => ∃ ns : List Nat, ds = [.lst (nsL ns)] ∧ (∀ n ∈ ns, n < 64) ∧ ∀ m : Nat, m < 2 ^ 64 → (∀ i, m.testBit i = true ↔ i ∈ ns) → R (.int (m : Nat)) [.non]⟩
@[simp] theorem spMask_pm : spMask.pm = [.s] := rfl
@[simp] theorem spMask_rm : spMask.rm = .s := rfl
def IvMask (ns : List Nat) (k : Nat) (ρ : Env) : Prop := ∃ (m : Nat) (v2 : Option (M × D)), ρ = [some (.s, .lst (nsL ns)), some (.s, .int (m : Nat)), v2] ∧ m < 2 ^ 64 ∧ ∀ i, m.testBit i = true ↔ i ∈ ns.take k
theorem ok_mask {T : List FSpec} : wD T spMask c_mask_of 3 := by
  refine wD_of fun ds R ⟨ns, e, hn, h⟩ => ?_
  subst e
  show wS _ [] _ _ [some (.s, .lst (nsL ns)), none, none]
  unfold c_mask_of
  simp
  refine wS_itr (IvMask ns) (xs := nsL ns) (.inl rfl) (fun R h => by simpa using h) ⟨0, _, rfl, by decide, by simp⟩ (fun k x ρ hx ⟨m, v2, e, h1, h2⟩ => ?_) (fun ρ ⟨m, v2, e, h1, h2⟩ => ?_)
  · subst e
    have hq : ∃ a, ns[k]? = some a ∧ x = .int (a : Nat) := by
      unfold nsL at hx
      rw [List.getElem?_map] at hx
      cases q : ns[k]? with
      | none =>
        rw [q] at hx
        cases hx
      | some a =>
        rw [q] at hx
        cases hx
        exact ⟨a, rfl, rfl⟩
    obtain ⟨a, ha, rfl⟩ := hq
    have ha64 := hn a (List.mem_of_getElem? ha)
    simp
    refine ⟨⟨by omega, by omega, by decide⟩, ?_⟩
    have e1 : (2 : Int) ^ a = ((2 ^ a : Nat) : Int) := by norm_cast
    rw [e1, bor]
    refine ⟨m ||| 2 ^ a, _, rfl, Nat.or_lt_two_pow h1 (Nat.pow_lt_pow_right (by decide) ha64), fun i => ?_⟩
    rw [Nat.testBit_or, Nat.testBit_two_pow, List.take_succ, ha, Bool.or_eq_true, h2 i, List.mem_append, decide_eq_true_eq]
    simp
    exact ⟨fun z => z.imp id Eq.symm, fun z => z.imp id Eq.symm⟩
  · subst e
    simp
    rw [nsL_len, List.take_length] at h2
    exact ⟨rfl, h m h1 h2⟩
def bitsOf (m : Nat) : List Nat := (List.range 64).filter fun i => m.testBit i
def spElems : FSpec := ⟨[.s], .o .s, fun ds R => ∃ m : Nat, ds = [.int (m : Nat)] ∧ m < 2 ^ 64 ∧ R (.lst (nsL (bitsOf m))) [.non]⟩
@[simp] theorem spElems_pm : spElems.pm = [.s] := rfl
@[simp] theorem spElems_rm : spElems.rm = .o .s := rfl
def shr (m k : Nat) : Nat := m >>> k
def IvEl (m : Nat) (n : Nat) (ρ : Env) : Prop := ∃ k, n + k = 64 ∧ ρ = [some (.s, .int ((shr m k : Nat) : Int)), some (.o .s, .lst (nsL ((List.range k).filter fun i => m.testBit i))), some (.s, .int (k : Nat))]
theorem ok_elems {T : List FSpec} : wD T spElems c_elements_of 3 := by
  refine wD_of fun ds R ⟨m, e, hm, h⟩ => ?_
  subst e
  show wS _ [] _ _ [some (.s, .int (m : Nat)), none, none]
  unfold c_elements_of
  have s1 : 64 ≤ sizeLine := by decide
  simp
  refine wS_wh (IvEl m) 64 ⟨0, rfl, rfl⟩ fun n ρ ⟨k, hk, e⟩ => ?_
  subst e
  simp
  split
  · rename_i hpos
    have hk64 : k < 64 := by
      refine Classical.byContradiction fun z => ?_
      have : k = 64 := by omega
      subst this
      unfold shr at hpos
      rw [Nat.shiftRight_eq_div_pow, Nat.div_eq_of_lt hm] at hpos
      exact Nat.lt_irrefl _ hpos
    have hl : ((List.range k).filter fun i => m.testBit i).length < sizeLine := by
      have := List.length_filter_le (fun i => m.testBit i) (List.range k)
      rw [List.length_range] at this
      omega
    have hb : (shr m k).testBit 0 = m.testBit k := by unfold shr; rw [Nat.testBit_shiftRight, Nat.add_zero]
    have e1 : Builtin.bitAnd ((shr m k : Nat) : Int) 1 = ((if m.testBit k then 1 else 0 : Nat) : Int) := by
      rw [show (1 : Int) = ((1 : Nat) : Int) from rfl, band, band1, hb]
    have e2 : ((shr m k : Nat) : Int) / 2 = ((shr m (k + 1) : Nat) : Int) := by
      unfold shr
      rw [Nat.shiftRight_add]
      exact bshr (m >>> k) 1
    rw [e1, e2]
    cases q : m.testBit k with
    | true =>
      simp
      refine ⟨hl, n - 1, by omega, k + 1, by omega, ?_⟩
      rw [List.range_succ, List.filter_append, ← nsL_app]
      simp [q, nsL]
    | false =>
      simp
      refine ⟨n - 1, by omega, k + 1, by omega, ?_⟩
      rw [List.range_succ, List.filter_append]
      simp [q]
  · rename_i hz
    refine ⟨rfl, ?_⟩
    have hz : shr m k = 0 := by omega
    have e : (List.range k).filter (fun i => m.testBit i) = bitsOf m := by
      unfold bitsOf
      have : List.range 64 = List.range k ++ (List.range (64 - k)).map (k + ·) := by
        rw [← List.range_add]
        congr 1
        omega
      rw [this, List.filter_append]
      have : ((List.range (64 - k)).map (k + ·)).filter (fun i => m.testBit i) = [] := by
        rw [List.filter_eq_nil_iff]
        intro i hi
        obtain ⟨j, _, rfl⟩ := List.mem_map.mp hi
        have e3 : (shr m k).testBit j = m.testBit (k + j) := by unfold shr; rw [Nat.testBit_shiftRight]
        rw [← e3, hz]
        simp
      rw [this, List.append_nil]
    rw [← e] at h
    exact h
end Y
namespace Y
open PySem PySem.Spec PyProof.Rows L2

def maskN (ns : List Nat) : Nat := ns.foldl (fun m a => m ||| 2 ^ a) 0
theorem maskN_go {i : Nat} : ∀ {ns : List Nat} {m : Nat}, (ns.foldl (fun m a => m ||| 2 ^ a) m).testBit i = true ↔ m.testBit i = true ∨ i ∈ ns
  | [], m => by simp
  | a :: ns, m => by
    show (ns.foldl (fun m a => m ||| 2 ^ a) (m ||| 2 ^ a)).testBit i = true ↔ _
    rw [maskN_go, Nat.testBit_or, Nat.testBit_two_pow, Bool.or_eq_true, decide_eq_true_eq, List.mem_cons, or_assoc]
    constructor
    · rintro (h | h | h)
      · exact .inl h
      · exact .inr (.inl h.symm)
      · exact .inr (.inr h)
    · rintro (h | h | h)
      · exact .inl h
      · exact .inr (.inl h.symm)
      · exact .inr (.inr h)
theorem maskN_bit {ns : List Nat} {i : Nat} : (maskN ns).testBit i = true ↔ i ∈ ns := by
  unfold maskN
  rw [maskN_go]
  simp
theorem maskN_lt {ns : List Nat} (h : ∀ n ∈ ns, n < 64) : maskN ns < 2 ^ 64 := by
  refine Nat.lt_pow_two_of_testBit _ fun i hi => ?_
  rw [Bool.eq_false_iff]
  intro z
  have := h i (maskN_bit.mp z)
  omega
theorem run_mask {ns : List Nat} {P : D → List D → Prop} (h : ∀ n ∈ ns, n < 64) (q : P (.int (maskN ns : Nat)) [.non]) : spMask.run [.lst (nsL ns)] P := by
  refine ⟨ns, rfl, h, fun m h1 h2 => ?_⟩
  have : m = maskN ns := Nat.eq_of_testBit_eq fun i => by
    rw [Bool.eq_iff_iff, h2 i, maskN_bit]
  rw [this]
  exact q
/-! ### rows of successors -/
def rowOf (rows : List (List Nat)) (i : Nat) : List Nat := (rows[i]?).getD []
def rowsPs (rows : List (List Nat)) : List (Nat × Nat) := (List.range rows.length).flatMap fun i => (rowOf rows i).map fun j => (i, j)
theorem rowsPs_mem {rows : List (List Nat)} {p : Nat × Nat} : p ∈ rowsPs rows ↔ p.1 < rows.length ∧ p.2 ∈ rowOf rows p.1 := by
  unfold rowsPs
  simp only [List.mem_flatMap, List.mem_range, List.mem_map]
  constructor
  · rintro ⟨i, hi, j, hj, rfl⟩
    exact ⟨hi, hj⟩
  · rintro ⟨h1, h2⟩
    exact ⟨p.1, h1, p.2, h2, rfl⟩
structure RowsOk (n : Nat) (rows : List (List Nat)) : Prop where
  len : rows.length = n
  lt : ∀ r ∈ rows, ∀ j ∈ r, j < n
  few : n ≤ 64
theorem RowsOk.ps {n : Nat} {rows : List (List Nat)} (h : RowsOk n rows) : ∀ p ∈ rowsPs rows, p.1 < n ∧ p.2 < n := by
  intro p hp
  obtain ⟨h1, h2⟩ := rowsPs_mem.mp hp
  refine ⟨by rw [← h.len]; exact h1, ?_⟩
  unfold rowOf at h2
  rw [List.getElem?_eq_getElem h1] at h2
  exact h.lt _ (List.getElem_mem h1) _ h2
/-- a list of masks tells a relation -/
structure Masks (n : Nat) (ms : List Nat) (q : Nat → Nat → Prop) : Prop where
  len : ms.length = n
  bit : ∀ i j, i < n → ((nm ms i).testBit j = true ↔ q i j)
  lt : ∀ m ∈ ms, m < 2 ^ 64
theorem nsL_set {ms : List Nat} {i m : Nat} : (nsL ms).set i (.int (m : Nat)) = nsL (ms.set i m) := by
  unfold nsL
  rw [List.map_set]
theorem nm_set {ms : List Nat} {i k m : Nat} (h : i < ms.length) : nm (ms.set i m) k = if k = i then m else nm ms k := by
  unfold nm
  rw [List.getD_eq_getElem?_getD, List.getD_eq_getElem?_getD, List.getElem?_set]
  by_cases e : i = k
  · subst e
    rw [if_pos rfl, if_pos h, if_pos rfl]
    rfl
  · rw [if_neg e, if_neg (Ne.symm e)]
theorem nm_mem {ms : List Nat} {i : Nat} (h : i < ms.length) : nm ms i ∈ ms := by
  unfold nm
  rw [List.getD_eq_getElem?_getD, List.getElem?_eq_getElem h]
  exact List.getElem_mem h
theorem mem_set {ms : List Nat} {i m x : Nat} (h : x ∈ ms.set i m) : x ∈ ms ∨ x = m := List.mem_or_eq_of_mem_set h
def spClosedM : FSpec := ⟨[.s], .o .s, fun ds R => ∃ (n : Nat) (rows : List (List Nat)), ds = [.lst (nssL rows)] ∧ RowsOk n rows ∧ ∀ ms, Masks n ms (TG (rowsPs rows)) → R (.lst (nsL ms)) [.non]⟩
@[simp] theorem spClosedM_pm : spClosedM.pm = [.s] := rfl
@[simp] theorem spClosedM_rm : spClosedM.rm = .o .s := rfl
def IvM1 (x : D) (n : Nat) (ps : List (Nat × Nat)) (r : Nat) (ρ : Env) : Prop := ∃ ms v3 v4, ρ = [some (.s, x), some (.o .s, .lst (nsL ms)), none, v3, v4] ∧ Masks n ms (Wp ps r)
def IvM2 (x : D) (n : Nat) (ps : List (Nat × Nat)) (r : Nat) (e : Nat) (ρ : Env) : Prop := ∃ ms v4, ρ = [some (.s, x), some (.o .s, .lst (nsL ms)), none, some (.s, .int (r : Nat)), v4] ∧ Masks n ms (fun i j => if i < e then Wp ps (r + 1) i j else Wp ps r i j)
theorem testbit_shr (m r : Nat) : Builtin.bitAnd ((m : Int) / 2 ^ r) 1 = ((if m.testBit r then 1 else 0 : Nat) : Int) := by
  have e1 := bshr m r
  rw [Int.toNat_natCast] at e1
  rw [e1, show (1 : Int) = ((1 : Nat) : Int) from rfl, band, band1, Nat.testBit_shiftRight, Nat.add_zero]
theorem ok_closedM {T : List FSpec} (t24 : T[24]? = some spMask) : wD T spClosedM c_closed_masks 5 := by
  refine wD_of fun ds R ⟨n, rows, e, hr, h⟩ => ?_
  subst e
  show wS _ [] _ _ [some (.s, .lst (nssL rows)), none, none, none, none]
  unfold c_closed_masks
  have s1 : 64 ≤ sizeLine := by decide
  have hn := hr.few
  have hl := hr.len
  rw [x_Sseq, x_Sasg]
  refine wE_compL rows (fun r => .lst (nsL r)) (fun _ => true) (fun r => .int (maskN r : Nat)) (mx := .s) (dx := .lst (nssL rows)) (.inl rfl) (fun R h => by simpa using h) (by simp) (by omega) (fun r hr Q h => by simpa using h) (fun r hrow _ R h => ?_) ?_
  · simp [t24]
    refine run_mask (fun j hj => Nat.lt_of_lt_of_le (hr.lt r hrow j hj) hn) ?_
    simpa using h _ rfl
  rw [List.filter_eq_self.mpr (fun _ _ => rfl)]
  have e0 : rows.map (fun r => D.int (maskN r : Nat)) = nsL (rows.map maskN) := by
    unfold nsL
    rw [List.map_map]
    rfl
  rw [e0]
  simp
  have hml : (rows.map maskN).length = n := by rw [List.length_map, hl]
  have start : Masks n (rows.map maskN) (Wp (rowsPs rows) 0) := ⟨hml, fun i j hi => by
    rw [Wp.zero, rowsPs_mem]
    unfold nm rowOf
    rw [List.getD_eq_getElem?_getD, List.getElem?_map, List.getElem?_eq_getElem (by omega)]
    show (maskN _).testBit j = true ↔ _
    rw [maskN_bit]
    exact ⟨fun z => ⟨by omega, z⟩, fun z => z.2⟩, fun m hm => by
    obtain ⟨r, hr1, rfl⟩ := List.mem_map.mp hm
    exact maskN_lt fun j hj => Nat.lt_of_lt_of_le (hr.lt r hr1 j hj) hn⟩
  refine wS_rng1 (IvM1 (.lst (nssL rows)) n (rowsPs rows)) (n := n) (fun R h => by simpa [hl] using h) (by omega) (by simp) ⟨_, _, _, rfl, start⟩ (fun r ρ hrn ⟨ms, v3, v4, e, hM⟩ => ?_) (fun ρ ⟨ms, v3, v4, e, hM⟩ => ?_)
  · subst e
    simp
    refine wS_rng1 (IvM2 (.lst (nssL rows)) n (rowsPs rows) r) (n := n) (fun R h => by simpa [hM.len] using h) (by omega) (by simp) ⟨ms, _, rfl, hM.len, fun i j hi => by rw [if_neg (Nat.not_lt_zero _)]; exact hM.bit i j hi, hM.lt⟩ (fun e ρ hen ⟨ms, v4, eq, hM⟩ => ?_) (fun ρ ⟨ms, v4, eq, hM⟩ => ?_)
    · subst eq
      have le := hM.len
      have g1 := hM.bit e r hen
      rw [if_neg (Nat.lt_irrefl _)] at g1
      simp only [x_Sseq, x_Sifs, x_Tbin, x_Ebin, x_Erd, x_Bidx0, x_Evar, at0, at1, x_Eint, x_kbl_o]
      refine ⟨rfl, e, .int (nm ms e : Nat), ixN_nat (by rw [nsL_len, le]; exact hen), by rw [nsL_get (by rw [le]; exact hen)]; unfold nm; rw [List.getD_eq_getElem?_getD, List.getElem?_eq_getElem (by omega)]; rfl, ?_⟩
      simp
      rw [testbit_shr]
      have rows2 : ∀ j, (Wp (rowsPs rows) (r + 1) r j ↔ Wp (rowsPs rows) r r j) := fun j => by
        rw [Wp.succ]
        exact ⟨fun z => z.elim id fun z => z.2, .inl⟩
      cases q : (nm ms e).testBit r with
      | true =>
        have wer := g1.mp q
        have get : ∀ i, i < n → ixN ms.length (i : Int) = some i ∧ (nsL ms)[i]? = some (.int (nm ms i : Nat)) := fun i hi => ⟨ixN_nat (by omega), by rw [nsL_get (by omega)]; unfold nm; rw [List.getD_eq_getElem?_getD, List.getElem?_eq_getElem (by omega)]; rfl⟩
        simp
        refine ⟨e, (get e hen).1, _, (get e hen).2, r, (get r hrn).1, _, (get r hrn).2, ?_⟩
        simp
        refine ⟨e, (get e hen).1, ?_⟩
        rw [bor, nsL_set]
        refine ⟨_, _, rfl, by rw [List.length_set]; exact le, fun i j hi => ?_, fun m hm => ?_⟩
        · rw [nm_set (by omega)]
          by_cases e1 : i = e
          · subst e1
            rw [if_pos rfl, if_pos (Nat.lt_succ_self _), Nat.testBit_or, Bool.or_eq_true, hM.bit i j hi, if_neg (Nat.lt_irrefl _), hM.bit r j hrn, Wp.succ (ps := rowsPs rows) (r := r) (i := i) (j := j)]
            constructor
            · rintro (z | z)
              · exact .inl z
              · split at z
                · exact .inr ⟨wer, (rows2 j).mp z⟩
                · exact .inr ⟨wer, z⟩
            · rintro (z | z)
              · exact .inl z
              · right
                split
                · exact (rows2 j).mpr z.2
                · exact z.2
          · rw [if_neg e1, hM.bit i j hi]
            by_cases e2 : i < e
            · rw [if_pos e2, if_pos (by omega)]
            · rw [if_neg e2, if_neg (by omega)]
        · rcases mem_set hm with z | z
          · exact hM.lt m z
          · rw [z]
            exact Nat.or_lt_two_pow (hM.lt _ (nm_mem (by omega))) (hM.lt _ (nm_mem (by omega)))
      | false =>
        simp
        refine ⟨ms, _, rfl, le, fun i j hi => ?_, hM.lt⟩
        rw [hM.bit i j hi]
        by_cases e1 : i < e
        · rw [if_pos e1, if_pos (by omega)]
        · rw [if_neg e1]
          split
          · have : i = e := by omega
            subst this
            rw [Wp.succ]
            exact ⟨.inl, fun z => z.elim id fun z => by rw [g1.mpr z.1] at q; cases q⟩
          · exact Iff.rfl
    · subst eq
      simp
      refine ⟨ms, _, _, rfl, hM.len, fun i j hi => ?_, hM.lt⟩
      rw [hM.bit i j hi, if_pos hi]
  · subst e
    simp
    refine ⟨rfl, h ms ⟨hM.len, fun i j hi => ?_, hM.lt⟩⟩
    rw [hM.bit i j hi]
    exact ⟨Wp.tg, TG.wp hr.ps⟩
end Y
namespace Y
open PySem PySem.Spec PyProof.Rows L2

/-! ### no ring is found -/
def stS : Nat → Str
  | 0 => "new"
  | 1 => "open"
  | _ => "done"
theorem stS_new {c : Nat} : (stS c = ("new" : Str)) ↔ c = 0 := by
  match c with
  | 0 => exact ⟨fun _ => rfl, fun _ => rfl⟩
  | 1 => exact ⟨fun h => absurd h (by decide +kernel), fun h => absurd h (by decide)⟩
  | c + 2 => exact ⟨fun h => absurd h (by show ¬ (("done" : Str) = "new"); decide +kernel), fun h => by omega⟩
theorem stS_open {c : Nat} : (stS c = ("open" : Str)) ↔ c = 1 := by
  match c with
  | 0 => exact ⟨fun h => absurd h (by decide +kernel), fun h => absurd h (by decide)⟩
  | 1 => exact ⟨fun _ => rfl, fun _ => rfl⟩
  | c + 2 => exact ⟨fun h => absurd h (by show ¬ (("done" : Str) = "open"); decide +kernel), fun h => by omega⟩
def stL (cs : List Nat) : List D := cs.map fun c => .str (stS c)
@[simp] theorem stL_len {cs : List Nat} : (stL cs).length = cs.length := List.length_map ..
theorem stL_get {cs : List Nat} {i : Nat} (h : i < cs.length) : (stL cs)[i]? = some (.str (stS (nm cs i))) := by
  unfold stL nm
  rw [List.getElem?_map, List.getD_eq_getElem?_getD, List.getElem?_eq_getElem h]
  rfl
theorem stL_set {cs : List Nat} {i c : Nat} : (stL cs).set i (.str (stS c)) = stL (cs.set i c) := by
  unfold stL
  rw [List.map_set]
theorem ixN_last {n : Nat} : ixN (n + 1) (-1) = some n := by
  unfold ixN
  rw [if_neg (by omega), if_pos (by omega)]
  congr 1
  omega
@[simp] theorem nssL_len {ps : List (List Nat)} : (nssL ps).length = ps.length := List.length_map ..
theorem nssL_get {ps : List (List Nat)} {i : Nat} (h : i < ps.length) : (nssL ps)[i]? = some (.lst (nsL (rowOf ps i))) := by
  unfold nssL rowOf
  rw [List.getElem?_map, List.getElem?_eq_getElem h]
  rfl
theorem atI_nss {ps : List (List Nat)} {i : Nat} (h : i < ps.length) : atI (nssL ps) (i : Int) = some (.lst (nsL (rowOf ps i))) := by
  rw [atI_int (by omega) (by rw [nssL_len]; omega), Int.toNat_natCast, nssL_get h]
structure Dfs (n : Nat) (rows : List (List Nat)) (r : Nat → Nat) (cs way : List Nat) (left : List (List Nat)) : Prop where
  cl : cs.length = n
  ll : left.length = way.length
  wn : ∀ x ∈ way, x < n
  lf : ∀ (i : Nat) l w, left[i]? = some l → way[i]? = some w → ∀ j ∈ l, j ∈ rowOf rows w
  op : ∀ x, x < n → (nm cs x = 1 ↔ x ∈ way)
  pw : way.Pairwise fun a b => r a < r b
def total (left : List (List Nat)) : Nat := (left.map List.length).sum
def big (rows : List (List Nat)) : Nat := total rows + 2
def meas (rows : List (List Nat)) (cs way : List Nat) (left : List (List Nat)) : Nat := cs.count 0 * big rows + total left + way.length
theorem total_app {a b : List (List Nat)} : total (a ++ b) = total a + total b := by
  unfold total
  rw [List.map_append, List.sum_append]
theorem total_one {l : List Nat} : total [l] = l.length := by
  unfold total
  simp
theorem le_sum {x : Nat} : ∀ {l : List Nat}, x ∈ l → x ≤ l.sum
  | [], h => by cases h
  | a :: l, h => by
    rw [List.sum_cons]
    rcases List.mem_cons.mp h with h | h
    · omega
    · have := le_sum h
      omega
theorem row_le {rows : List (List Nat)} : ∀ {i : Nat}, (rowOf rows i).length ≤ total rows := by
  intro i
  unfold rowOf total
  cases q : rows[i]? with
  | none => exact Nat.zero_le _
  | some l => exact le_sum (List.mem_map.mpr ⟨l, List.mem_of_getElem? q, rfl⟩)
theorem count_set {cs : List Nat} {i c : Nat} (h : i < cs.length) (h0 : nm cs i = 0) (hc : c ≠ 0) : (cs.set i c).count 0 + 1 = cs.count 0 := by
  induction cs generalizing i with
  | nil => exact absurd h (Nat.not_lt_zero _)
  | cons a cs ih =>
    cases i with
    | zero =>
      have : a = 0 := h0
      subst this
      show (c :: cs).count 0 + 1 = (0 :: cs).count 0
      rw [List.count_cons_self, List.count_cons_of_ne (by omega)]
    | succ i =>
      show (a :: cs.set i c).count 0 + 1 = (a :: cs).count 0
      have := ih (i := i) (by simpa using h) h0
      rw [List.count_cons, List.count_cons]
      omega
theorem count_set2 {cs : List Nat} {i c : Nat} (hc : c ≠ 0) : (cs.set i c).count 0 ≤ cs.count 0 := by
  by_cases h : i < cs.length
  · by_cases h0 : nm cs i = 0
    · have := count_set h h0 hc
      omega
    · have key : ∀ {cs : List Nat} {i : Nat}, i < cs.length → nm cs i ≠ 0 → (cs.set i c).count 0 = cs.count 0 := fun {cs} => by
        induction cs with
        | nil => intro i h; exact absurd h (Nat.not_lt_zero _)
        | cons a cs ih =>
          intro i h h0
          cases i with
          | zero =>
            have h0 : a ≠ 0 := h0
            show (c :: cs).count 0 = (a :: cs).count 0
            rw [List.count_cons_of_ne hc, List.count_cons_of_ne h0]
          | succ i =>
            show (a :: cs.set i c).count 0 = (a :: cs).count 0
            have := ih (i := i) (by simpa using h) h0
            rw [List.count_cons, List.count_cons, this]
      rw [key h h0]
      exact Nat.le_refl _
  · rw [List.set_eq_of_length_le (by omega)]
    exact Nat.le_refl _
/-- a new one is opened -/
theorem Dfs.push {n : Nat} {rows : List (List Nat)} {r : Nat → Nat} {cs way : List Nat} {left : List (List Nat)} (h : Dfs n rows r cs way left) {f : Nat} (hf : f < n) (h0 : nm cs f = 0) (hr : ∀ x ∈ way, r x < r f) : Dfs n rows r (cs.set f 1) (way ++ [f]) (left ++ [rowOf rows f]) := by
  refine ⟨by rw [List.length_set]; exact h.cl, by rw [List.length_append, List.length_append, h.ll]; rfl, fun x hx => ?_, fun i l w h1 h2 => ?_, fun x hx => ?_, ?_⟩
  · rcases List.mem_append.mp hx with hx | hx
    · exact h.wn x hx
    · have : x = f := by simpa using hx
      omega
  · by_cases hi : i < way.length
    · rw [List.getElem?_append_left (by rw [h.ll]; exact hi)] at h1
      rw [List.getElem?_append_left hi] at h2
      exact h.lf i l w h1 h2
    · have hil := (List.getElem?_eq_some_iff.mp h2).1
      rw [List.length_append] at hil
      have : i = way.length := by simp at hil; omega
      subst this
      rw [List.getElem?_append_right (Nat.le_refl _), Nat.sub_self] at h2
      rw [← h.ll, List.getElem?_append_right (Nat.le_refl _), Nat.sub_self] at h1
      cases h1
      cases h2
      exact fun j hj => hj
  · rw [nm_set (by rw [h.cl]; exact hf), List.mem_append]
    by_cases e : x = f
    · subst e
      rw [if_pos rfl]
      simp
    · rw [if_neg e, h.op x hx]
      simp [e]
  · rw [List.pairwise_append]
    refine ⟨h.pw, List.pairwise_singleton _ _, fun a ha b hb => ?_⟩
    have e : b = f := by simpa using hb
    rw [e]
    exact hr a ha
/-- the last one is done -/
theorem Dfs.pop {n : Nat} {rows : List (List Nat)} {r : Nat → Nat} {cs way : List Nat} {left : List (List Nat)} {w : Nat} {l : List Nat} (h : Dfs n rows r cs (way ++ [w]) (left ++ [l])) : Dfs n rows r (cs.set w 2) way left := by
  have hw : w < n := h.wn w (List.mem_append_right _ (List.mem_cons_self ..))
  have hll := h.ll
  rw [List.length_append, List.length_append] at hll
  have hl2 : left.length = way.length := by simpa using hll
  have pw := List.pairwise_append.mp h.pw
  have nw : w ∉ way := fun z => Nat.lt_irrefl _ (pw.2.2 w z w (List.mem_cons_self ..))
  refine ⟨by rw [List.length_set]; exact h.cl, hl2, fun x hx => h.wn x (List.mem_append_left _ hx), fun i l w h1 h2 => ?_, fun x hx => ?_, pw.1⟩
  · exact h.lf i l w (by rw [List.getElem?_append_left (List.getElem?_eq_some_iff.mp h1).1]; exact h1) (by rw [List.getElem?_append_left (List.getElem?_eq_some_iff.mp h2).1]; exact h2)
  · rw [nm_set (by rw [h.cl]; exact hw)]
    by_cases e : x = w
    · subst e
      rw [if_pos rfl]
      exact ⟨fun z => absurd z (by decide), fun z => absurd z nw⟩
    · rw [if_neg e, h.op x hx, List.mem_append]
      simp [e]
/-- a successor is taken -/
theorem Dfs.take {n : Nat} {rows : List (List Nat)} {r : Nat → Nat} {cs way : List Nat} {left : List (List Nat)} {w f : Nat} {l : List Nat} (h : Dfs n rows r cs (way ++ [w]) (left ++ [l ++ [f]])) : Dfs n rows r cs (way ++ [w]) (left ++ [l]) := by
  have hll := h.ll
  rw [List.length_append, List.length_append] at hll
  have hl2 : left.length = way.length := by simpa using hll
  refine ⟨h.cl, by rw [List.length_append, List.length_append, hl2]; rfl, h.wn, fun i l' w' h1 h2 => ?_, h.op, h.pw⟩
  by_cases hi : i < left.length
  · rw [List.getElem?_append_left hi] at h1
    exact h.lf i l' w' (by rw [List.getElem?_append_left hi]; exact h1) h2
  · have hil := (List.getElem?_eq_some_iff.mp h1).1
    rw [List.length_append] at hil
    have : i = left.length := by simp at hil; omega
    subst this
    rw [List.getElem?_append_right (Nat.le_refl _), Nat.sub_self] at h1
    cases h1
    intro j hj
    exact h.lf left.length (l ++ [f]) w' (by rw [List.getElem?_append_right (Nat.le_refl _), Nat.sub_self]; rfl) h2 j (List.mem_append_left _ hj)

def spRing : FSpec := ⟨[.s], .s, fun ds R => ∃ (n : Nat) (rows : List (List Nat)), ds = [.lst (nssL rows)] ∧ RowsOk n rows ∧ total rows ≤ 20000 ∧ (∃ r : Nat → Nat, ∀ p ∈ rowsPs rows, r p.1 < r p.2) ∧ R .non [.non]⟩
@[simp] theorem spRing_pm : spRing.pm = [.s] := rfl
@[simp] theorem spRing_rm : spRing.rm = .s := rfl
def IvR1 (rows : List (List Nat)) (n : Nat) (k : Nat) (ρ : Env) : Prop := ∃ cs v2 v3 v4 v5, ρ = [some (.s, .lst (nssL rows)), some (.o .s, .lst (stL cs)), v2, v3, v4, v5] ∧ cs.length = n ∧ ∀ x, x < n → nm cs x ≠ 1
def IvR2 (rows : List (List Nat)) (n : Nat) (r : Nat → Nat) (k : Nat) (μ : Nat) (ρ : Env) : Prop := ∃ cs way left v5, ρ = [some (.s, .lst (nssL rows)), some (.o .s, .lst (stL cs)), some (.s, .int (k : Nat)), some (.o .s, .lst (nsL way)), some (.o (.o .s), .lst (nssL left)), v5] ∧ Dfs n rows r cs way left ∧ meas rows cs way left = μ ∧ μ ≤ 1500000
theorem nss_last {ls : List (List Nat)} {l : List Nat} : nssL (ls ++ [l]) = nssL ls ++ [.lst (nsL l)] := by
  unfold nssL
  rw [List.map_append]
  rfl
theorem ns_last {ls : List Nat} {l : Nat} : nsL (ls ++ [l]) = nsL ls ++ [.int (l : Nat)] := by
  unfold nsL
  rw [List.map_append]
  rfl
theorem last_of {α : Type} {l : List α} (h : 0 < l.length) : ∃ a b, l = a ++ [b] := by
  have hne : l ≠ [] := fun z => by rw [z] at h; exact Nat.lt_irrefl _ h
  exact ⟨l.dropLast, l.getLast hne, (List.dropLast_concat_getLast hne).symm⟩
theorem ok_ring {T : List FSpec} : wD T spRing c_found_ring 6 := by
  refine wD_of fun ds R ⟨n, rows, e, hr, htot, ⟨r, hrk⟩, h⟩ => ?_
  subst e
  show wS _ [] _ _ [some (.s, .lst (nssL rows)), none, none, none, none, none]
  unfold c_found_ring
  have s1 : (2000000 : Nat) ≤ sizeLine := by decide
  have hn := hr.few
  have hl := hr.len
  have rep : List.replicate n (D.str ("new" : Str)) = stL (List.replicate n 0) := by
    unfold stL
    rw [List.map_replicate]
    rfl
  simp [hl]
  refine ⟨by omega, by omega, by omega, ?_⟩
  rw [rep]
  refine wS_rng1 (IvR1 rows n) (n := n) (fun R h => by simpa [hl] using h) (by omega) (by simp) ⟨_, _, _, _, _, rfl, by rw [List.length_replicate], fun x hx => ?_⟩ (fun k ρ hk ⟨cs, v2, v3, v4, v5, e, hcl, hno⟩ => ?_) (fun ρ ⟨cs, v2, v3, v4, v5, e, hcl, hno⟩ => ?_)
  · unfold nm
    rw [List.getD_eq_getElem?_getD, List.getElem?_replicate, if_pos hx]
    show (0 : Nat) ≠ 1
    decide
  · subst e
    -- the while
    have loop : ∀ cs way left v5, Dfs n rows r cs way left → meas rows cs way left ≤ 1500000 → wS T [] (.seq (.while_ (.cmp .Gt (.b1 .len (.bor 3)) (.int 0))
 (.seq (.ifs (.cmp .Eq (.b1 .len (.bidx (.bor 4) (.neg (.int 1)))) (.int 0)) (.seq (.setix (.bor 1) (.rd (.bidx (.bor 3) (.neg (.int 1)))) (.str "done"))
 (.seq (.ex (.pop (.bor 3)))
 (.seq (.ex (.pop (.bor 4)))
 (.seq .cont
 .skip)))) .skip)
 (.seq (.asg 5 .s (.pop (.bidx (.bor 4) (.neg (.int 1)))))
 (.seq (.ifs (.cmp .Eq (.rd (.bidx (.bor 1) (.var 5))) (.str "open")) (.seq .never
 .skip) .skip)
 (.seq (.ifs (.cmp .Eq (.rd (.bidx (.bor 1) (.var 5))) (.str "new")) (.seq (.setix (.bor 1) (.var 5) (.str "open"))
 (.seq (.ex (.app (.bor 3) (.var 5)))
 (.seq (.ex (.app (.bor 4) (.b1 .list (.idx (.var 0) (.var 5)))))
 .skip))) .skip)
 .skip))))) .skip) ⟨IvR1 rows n (k + 1), fin spRing R, wS T [] (.seq (.ret .non) .skip) ⟨fin spRing R .s .non, fin spRing R, fun _ => False, fun _ => False⟩, IvR1 rows n (k + 1)⟩
        [some (.s, .lst (nssL rows)), some (.o .s, .lst (stL cs)), some (.s, .int (k : Nat)), some (.o .s, .lst (nsL way)), some (.o (.o .s), .lst (nssL left)), v5] := fun cs way left v5 hd hme => by
      rw [x_Sseq]
      refine wS_wh (IvR2 rows n r k) _ ⟨cs, way, left, v5, rfl, hd, rfl, hme⟩ fun μ ρ ⟨cs, way, left, v5, e, hd, hμ, hμ2⟩ => ?_
      subst e
      simp
      split
      · rename_i hpos
        obtain ⟨w', w, rfl⟩ := last_of hpos
        obtain ⟨l', l, rfl⟩ := last_of (by rw [hd.ll]; exact hpos : 0 < left.length)
        have hw : w < n := hd.wn w (List.mem_append_right _ (List.mem_cons_self ..))
        rw [nss_last, ns_last]
        simp [ixN_last]
        have hcl2 := hd.cl
        unfold meas at hμ
        rw [total_app, total_one, List.length_append] at hμ
        simp only [List.length_singleton] at hμ
        split
        · rename_i hle
          subst hle
          refine ⟨w, ixN_nat (by rw [hcl2]; exact hw), meas rows (cs.set w 2) w' l', ?_, ?_⟩
          · have := Nat.mul_le_mul_right (big rows) (count_set2 (cs := cs) (i := w) (c := 2) (by decide))
            unfold meas
            simp only [List.length_nil] at hμ
            omega
          · have e2 : (stL cs).set w (.str ("done" : Str)) = stL (cs.set w 2) := stL_set (c := 2)
            rw [e2]
            refine ⟨cs.set w 2, w', l', v5, rfl, hd.pop, rfl, ?_⟩
            have := Nat.mul_le_mul_right (big rows) (count_set2 (cs := cs) (i := w) (c := 2) (by decide))
            unfold meas
            omega
        · rename_i hle
          obtain ⟨l0, f, rfl⟩ := last_of (Nat.pos_of_ne_zero fun z => hle (List.length_eq_zero_iff.mp z))
          have hlw : l'.length = w'.length := by
            have := hd.ll
            rw [List.length_append, List.length_append] at this
            simpa using this
          have hfr : f ∈ rowOf rows w := hd.lf l'.length (l0 ++ [f]) w (by rw [List.getElem?_append_right (Nat.le_refl _), Nat.sub_self]; rfl) (by rw [hlw, List.getElem?_append_right (Nat.le_refl _), Nat.sub_self]; rfl) f (List.mem_append_right _ (List.mem_cons_self ..))
          have hps := rowsPs_mem (rows := rows) (p := (w, f)) |>.mpr ⟨by rw [hl]; exact hw, hfr⟩
          have hf : f < n := (hr.ps _ hps).2
          have hrf : r w < r f := hrk _ hps
          have pw := List.pairwise_append.mp hd.pw
          have hrx : ∀ x ∈ w' ++ [w], r x < r f := fun x hx => by
            rcases List.mem_append.mp hx with hx | hx
            · exact Nat.lt_trans (pw.2.2 x hx w (List.mem_cons_self ..)) hrf
            · have : x = w := by simpa using hx
              rw [this]
              exact hrf
          have hno1 : nm cs f ≠ 1 := fun z => Nat.lt_irrefl _ (hrx f ((hd.op f hf).mp z))
          rw [List.length_append, List.length_singleton] at hμ
          refine ⟨.int (f : Nat), by rw [ns_last]; simp, ?_⟩
          rw [ns_last, List.dropLast_concat]
          have ix : ixN cs.length (f : Int) = some f := ixN_nat (by rw [hcl2]; exact hf)
          have g1 := stL_get (cs := cs) (i := f) (by rw [hcl2]; exact hf)
          simp only [x_kbl_o, stL_len]
          refine ⟨f, _, ix, g1, ?_⟩
          simp [stS_open, hno1]
          refine ⟨f, ix, _, g1, ?_⟩
          simp [stS_new]
          have tk := hd.take
          split
          · rename_i h0
            have hat := atI_nss (ps := rows) (i := f) (by rw [hl]; exact hf)
            have hcnt := count_set (c := 1) (by rw [hcl2]; exact hf) h0 (by decide)
            have hmul : cs.count 0 * big rows = (cs.set f 1).count 0 * big rows + big rows := by rw [← hcnt, Nat.succ_mul]
            have hrow := row_le (rows := rows) (i := f)
            have hbig : big rows = total rows + 2 := rfl
            have e2 : (stL cs).set f (.str ("open" : Str)) = stL (cs.set f 1) := stL_set (c := 1)
            have fin2 : IvR2 rows n r k (meas rows (cs.set f 1) (w' ++ [w] ++ [f]) (l' ++ [l0] ++ [rowOf rows f])) [some (.s, .lst (nssL rows)), some (.o .s, .lst (stL (cs.set f 1))), some (.s, .int (k : Nat)), some (.o .s, .lst (nsL (w' ++ [w] ++ [f]))), some (.o (.o .s), .lst (nssL (l' ++ [l0] ++ [rowOf rows f]))), some (.s, .int (f : Nat))] := by
              refine ⟨cs.set f 1, _, _, _, rfl, tk.push hf h0 hrx, rfl, ?_⟩
              unfold meas
              rw [total_app, total_app, total_one, total_one, List.length_append, List.length_append, List.length_singleton, List.length_singleton]
              omega
            have less : meas rows (cs.set f 1) (w' ++ [w] ++ [f]) (l' ++ [l0] ++ [rowOf rows f]) < μ := by
              unfold meas
              rw [total_app, total_app, total_one, total_one, List.length_append, List.length_append, List.length_singleton, List.length_singleton]
              omega
            generalize meas rows (cs.set f 1) (w' ++ [w] ++ [f]) (l' ++ [l0] ++ [rowOf rows f]) = μ' at fin2 less
            rw [nss_last, nss_last, ns_last, ns_last, ← e2] at fin2
            simp at fin2
            have a1 : w'.length + 1 < sizeLine := by omega
            have a2 : l'.length + 1 < sizeLine := by omega
            simp [ix, a1, a2, hat]
            exact ⟨_, less, fin2⟩
          · refine ⟨meas rows cs (w' ++ [w]) (l' ++ [l0]), ?_, cs, w' ++ [w], l' ++ [l0], _, by rw [nss_last, ns_last], tk, rfl, ?_⟩
            · unfold meas
              rw [total_app, total_one, List.length_append, List.length_singleton]
              omega
            · unfold meas
              rw [total_app, total_one, List.length_append, List.length_singleton]
              omega
      · rename_i hpos
        have : way = [] := List.length_eq_zero_iff.mp (by omega)
        subst this
        exact ⟨cs, _, _, _, _, rfl, hd.cl, fun x hx z => by have := (hd.op x hx).mp z; cases this⟩
    have ix : ixN cs.length (k : Int) = some k := ixN_nat (by rw [hcl]; exact hk)
    have g1 := stL_get (cs := cs) (i := k) (by rw [hcl]; exact hk)
    simp only [x_Sseq, x_Sasg, x_Elst, x_Ln, List.length_nil, List.set_cons_succ, List.set_cons_zero]
    refine ⟨by omega, rfl, fun z => (by cases z), by omega, rfl, fun z => (by cases z), ?_⟩
    rw [x_Sifs]
    simp only [x_Tcmp, x_Erd, x_Bidx0, x_Evar, x_Estr, isP_str, at0, at1, x_kbl_o, stL_len]
    refine ⟨rfl, k, _, ix, g1, ?_⟩
    simp only [x_kcEq, x_keqs, stS_new, decide_eq_true_eq]
    have emp : Dfs n rows r cs [] [] := ⟨hcl, rfl, fun x hx => (by cases hx), fun i l w h1 h2 => (by simp at h1), fun x hx => ⟨fun z => absurd z (hno x hx), fun z => (by cases z)⟩, List.Pairwise.nil⟩
    have hcc : cs.count 0 * big rows ≤ 64 * 20002 := Nat.mul_le_mul (Nat.le_trans List.count_le_length (by omega)) (by unfold big; omega)
    split
    · rename_i h0
      have e2 : (stL cs).set k (.str ("open" : Str)) = stL (cs.set k 1) := stL_set (c := 1)
      have hat := atI_nss (ps := rows) (i := k) (by rw [hl]; exact hk)
      have hme : meas rows (cs.set k 1) ([] ++ [k]) ([] ++ [rowOf rows k]) ≤ 1500000 := by
        have := Nat.mul_le_mul_right (big rows) (count_set2 (cs := cs) (i := k) (c := 1) (by decide))
        have := row_le (rows := rows) (i := k)
        unfold meas
        rw [List.nil_append, List.nil_append, total_one, List.length_singleton]
        omega
      have go := loop (cs.set k 1) ([] ++ [k]) ([] ++ [rowOf rows k]) v5 (emp.push hk h0 (fun x hx => (by cases hx))) hme
      simp [ix, hat]
      refine ⟨by omega, ?_⟩
      rw [e2]
      rw [x_Sseq] at go
      exact go
    · rw [x_Sskip]
      refine loop cs [] [] _ emp ?_
      unfold meas total
      simp
      omega
  · subst e
    simp
    exact ⟨rfl, h⟩
end Y
namespace Y
open PySem PySem.Spec PyProof.Rows L2

/-! ### orders as objects -/
def upM (n : Nat) (t : Nat → Nat → Bool) : List Nat := (List.range n).map fun i => maskN ((List.range n).filter (t i))
abbrev oNs : List Str := ["_size", "_up", "_down", "_pairs"]
def ordD (n : Nat) (t : Nat → Nat → Bool) : D := .obj "Order" oNs [.int (n : Nat), .lst (nsL (upM n t)), .lst (nsL (upM n fun i j => t j i)), psD (prs n t n)]
theorem upM_len {n : Nat} {t : Nat → Nat → Bool} : (upM n t).length = n := by
  unfold upM
  rw [List.length_map, List.length_range]
theorem upM_nm {n i : Nat} {t : Nat → Nat → Bool} (h : i < n) : nm (upM n t) i = maskN ((List.range n).filter (t i)) := by
  unfold nm upM
  rw [List.getD_eq_getElem?_getD, List.getElem?_map, List.getElem?_range h]
  rfl
theorem upM_bit {n i j : Nat} {t : Nat → Nat → Bool} (h : i < n) : (nm (upM n t) i).testBit j = true ↔ j < n ∧ t i j = true := by
  rw [upM_nm h, maskN_bit, List.mem_filter, List.mem_range]
theorem upM_lt {n : Nat} {t : Nat → Nat → Bool} (hn : n ≤ 64) : ∀ m ∈ upM n t, m < 2 ^ 64 := by
  intro m hm
  obtain ⟨i, _, rfl⟩ := List.mem_map.mp hm
  refine maskN_lt fun j hj => ?_
  have := List.mem_range.mp (List.mem_filter.mp hj).1
  omega
/-- masks are told by their bits -/
theorem masks_eq {n : Nat} {ms : List Nat} {t : Nat → Nat → Bool} (hl : ms.length = n) (h : ∀ i j, i < n → ((nm ms i).testBit j = true ↔ j < n ∧ t i j = true)) : ms = upM n t := by
  refine List.ext_getElem? fun i => ?_
  by_cases hi : i < n
  · have e : nm ms i = nm (upM n t) i := Nat.eq_of_testBit_eq fun j => by rw [Bool.eq_iff_iff, h i j hi, upM_bit hi]
    unfold nm at e
    rw [List.getD_eq_getElem?_getD, List.getD_eq_getElem?_getD, List.getElem?_eq_getElem (by omega), List.getElem?_eq_getElem (by rw [upM_len]; exact hi)] at e
    rw [List.getElem?_eq_getElem (by omega), List.getElem?_eq_getElem (by rw [upM_len]; exact hi)]
    exact congrArg some e
  · rw [List.getElem?_eq_none (by omega), List.getElem?_eq_none (by rw [upM_len]; omega)]
@[simp] theorem fld_size {a b c d : D} {k : D → Prop} : fldD (.obj "Order" oNs [a, b, c, d]) "_size" k ↔ k a := by
  have e : oNs.idxOf ("_size" : Str) = 0 := by decide +kernel
  show (∃ d', oNs.idxOf ("_size" : Str) < oNs.length ∧ [a, b, c, d][oNs.idxOf ("_size" : Str)]? = some d' ∧ k d') ↔ _
  rw [e]
  exact ⟨fun ⟨_, _, h1, h2⟩ => by cases h1; exact h2, fun h => ⟨_, by decide, rfl, h⟩⟩
@[simp] theorem fld_up {a b c d : D} {k : D → Prop} : fldD (.obj "Order" oNs [a, b, c, d]) "_up" k ↔ k b := by
  have e : oNs.idxOf ("_up" : Str) = 1 := by decide +kernel
  show (∃ d', oNs.idxOf ("_up" : Str) < oNs.length ∧ [a, b, c, d][oNs.idxOf ("_up" : Str)]? = some d' ∧ k d') ↔ _
  rw [e]
  exact ⟨fun ⟨_, _, h1, h2⟩ => by cases h1; exact h2, fun h => ⟨_, by decide, rfl, h⟩⟩
@[simp] theorem fld_down {a b c d : D} {k : D → Prop} : fldD (.obj "Order" oNs [a, b, c, d]) "_down" k ↔ k c := by
  have e : oNs.idxOf ("_down" : Str) = 2 := by decide +kernel
  show (∃ d', oNs.idxOf ("_down" : Str) < oNs.length ∧ [a, b, c, d][oNs.idxOf ("_down" : Str)]? = some d' ∧ k d') ↔ _
  rw [e]
  exact ⟨fun ⟨_, _, h1, h2⟩ => by cases h1; exact h2, fun h => ⟨_, by decide, rfl, h⟩⟩
@[simp] theorem fld_pairs {a b c d : D} {k : D → Prop} : fldD (.obj "Order" oNs [a, b, c, d]) "_pairs" k ↔ k d := by
  have e : oNs.idxOf ("_pairs" : Str) = 3 := by decide +kernel
  show (∃ d', oNs.idxOf ("_pairs" : Str) < oNs.length ∧ [a, b, c, d][oNs.idxOf ("_pairs" : Str)]? = some d' ∧ k d') ↔ _
  rw [e]
  exact ⟨fun ⟨_, _, h1, h2⟩ => by cases h1; exact h2, fun h => ⟨_, by decide, rfl, h⟩⟩
theorem atI_nm {ms : List Nat} {i : Nat} (h : i < ms.length) : atI (nsL ms) (i : Int) = some (.int (nm ms i : Nat)) := atI_nsD h
def spBelow : FSpec := ⟨[.s, .s, .s], .s, fun ds R => ∃ (n : Nat) (t : Nat → Nat → Bool) (i j : Nat), ds = [ordD n t, .int i, .int j] ∧ n ≤ 64 ∧ i < n ∧ j < n ∧ R (.bl (t i j)) [.non, .non, .non]⟩
@[simp] theorem spBelow_pm : spBelow.pm = [.s, .s, .s] := rfl
@[simp] theorem spBelow_rm : spBelow.rm = .s := rfl
theorem ok_below {T : List FSpec} : wD T spBelow c_Order_below 3 := by
  refine wD_of fun ds R ⟨n, t, i, j, e, hn, hi, hj, h⟩ => ?_
  subst e
  show wS _ [] _ _ [some (.s, ordD n t), some (.s, .int i), some (.s, .int j)]
  unfold c_Order_below ordD
  have hb := upM_bit (n := n) (t := t) (j := j) hi
  simp [atI_nm, upM_len, hi]
  rw [testbit_shr]
  have e : decide (((if (nm (upM n t) i).testBit j = true then 1 else 0 : Nat) : Int) = 1) = t i j := by
    cases q : t i j with
    | true =>
      rw [if_pos (hb.mpr ⟨hj, q⟩)]
      rfl
    | false =>
      rw [if_neg (fun z => by rw [(hb.mp z).2] at q; cases q)]
      rfl
  rw [e]
  exact ⟨rfl, h⟩
end Y
namespace Y
open PySem PySem.Spec PyProof.Rows L2

abbrev ms4 : M := .fcons .s (.fcons .s (.fcons (.o .s) (.fcons (.o .s) .fnil)))
section
variable {a b c d : D} {k : M → D → (D → D) → Prop}
theorem fb_go {f : Str} {i : Nat} {m' : M} {x : D} (e : oNs.idxOf f = i) (hi : i < oNs.length) (h1 : mAt ms4 i = some m') (h2 : [a, b, c, d][i]? = some x) : fldB (.ins "Order" oNs ms4) (.obj "Order" oNs [a, b, c, d]) f k ↔ k m' x fun d' => .obj "Order" oNs ([a, b, c, d].set i d') := by
  subst e
  show (∃ m' d', oNs.idxOf f < oNs.length ∧ mAt ms4 (oNs.idxOf f) = some m' ∧ [a, b, c, d][oNs.idxOf f]? = some d' ∧ k m' d' fun z => .obj "Order" oNs ([a, b, c, d].set (oNs.idxOf f) z)) ↔ _
  rw [h1, h2]
  exact ⟨fun ⟨_, _, _, g1, g2, g3⟩ => by cases g1; cases g2; exact g3, fun h => ⟨_, _, hi, rfl, rfl, h⟩⟩
@[simp] theorem fb_up : fldB (.ins "Order" oNs ms4) (.obj "Order" oNs [a, b, c, d]) "_up" k ↔ k .s b fun d' => .obj "Order" oNs [a, d', c, d] := fb_go (i := 1) (by decide +kernel) (by decide) rfl rfl
@[simp] theorem fb_down : fldB (.ins "Order" oNs ms4) (.obj "Order" oNs [a, b, c, d]) "_down" k ↔ k (.o .s) c fun d' => .obj "Order" oNs [a, b, d', d] := fb_go (i := 2) (by decide +kernel) (by decide) rfl rfl
@[simp] theorem fb_pairs : fldB (.ins "Order" oNs ms4) (.obj "Order" oNs [a, b, c, d]) "_pairs" k ↔ k (.o .s) d fun d' => .obj "Order" oNs [a, b, c, d'] := fb_go (i := 3) (by decide +kernel) (by decide) rfl rfl
end
def spInit : FSpec := ⟨[.s, .s], .s, fun ds R => ∃ (n : Nat) (ps : List (Nat × Nat)), ds = [.int n, psD ps] ∧ n ≤ 40 ∧ ps.length ≤ 20000 ∧ (∃ r : Nat → Nat, ∀ p ∈ ps, p.1 < n ∧ p.2 < n ∧ r p.1 < r p.2) ∧
  ∀ t, (∀ i j, i < n → j < n → (t i j = true ↔ TG ps i j)) → R (ordD n t) [.non, .non]⟩
@[simp] theorem spInit_pm : spInit.pm = [.s, .s] := rfl
@[simp] theorem spInit_rm : spInit.rm = .s := rfl
/-- the successors of each place among the first k pairs -/
def succs (ps : List (Nat × Nat)) (k : Nat) (i : Nat) : List Nat := ((ps.take k).filter fun p => p.1 == i).map (·.2)
def rowsK (n : Nat) (ps : List (Nat × Nat)) (k : Nat) : List (List Nat) := (List.range n).map (succs ps k)
theorem rowsK_len {n : Nat} {ps : List (Nat × Nat)} {k : Nat} : (rowsK n ps k).length = n := by
  unfold rowsK
  rw [List.length_map, List.length_range]
theorem rowsK_of {n i : Nat} {ps : List (Nat × Nat)} {k : Nat} (h : i < n) : rowOf (rowsK n ps k) i = succs ps k i := by
  unfold rowOf rowsK
  rw [List.getElem?_map, List.getElem?_range h]
  rfl
theorem succs_step {ps : List (Nat × Nat)} {k : Nat} {p : Nat × Nat} (h : ps[k]? = some p) (i : Nat) : succs ps (k + 1) i = if i = p.1 then succs ps k i ++ [p.2] else succs ps k i := by
  unfold succs
  rw [filter_take h]
  by_cases e : i = p.1
  · subst e
    simp
  · rw [if_neg e]
    have : (p.1 == i) = false := beq_eq_false_iff_ne.mpr (Ne.symm e)
    simp [this]
theorem rowsK_step {n : Nat} {ps : List (Nat × Nat)} {k : Nat} {p : Nat × Nat} (h : ps[k]? = some p) (hp : p.1 < n) : nssL (rowsK n ps (k + 1)) = (nssL (rowsK n ps k)).set p.1 (.lst (nsL (succs ps k p.1) ++ [.int (p.2 : Nat)])) := by
  unfold nssL rowsK
  rw [List.map_map, List.map_map, set_map_range hp]
  refine List.map_congr_left fun i hi => ?_
  show D.lst (nsL (succs ps (k + 1) i)) = _
  rw [succs_step h]
  by_cases e : i = p.1
  · subst e
    rw [if_pos rfl, if_pos rfl, ns_last]
  · rw [if_neg e, if_neg e]
    rfl
theorem rowsK_mem {n : Nat} {ps : List (Nat × Nat)} {p : Nat × Nat} (h : ∀ p ∈ ps, p.1 < n ∧ p.2 < n) : p ∈ rowsPs (rowsK n ps ps.length) ↔ p ∈ ps := by
  rw [rowsPs_mem, rowsK_len]
  constructor
  · rintro ⟨h1, h2⟩
    rw [rowsK_of h1] at h2
    unfold succs at h2
    rw [List.take_length] at h2
    obtain ⟨q, hq, e⟩ := List.mem_map.mp h2
    obtain ⟨q1, q2⟩ := List.mem_filter.mp hq
    have e1 : q.1 = p.1 := by simpa using q2
    have : q = p := Prod.ext e1 e
    rw [← this]
    exact q1
  · intro hp
    obtain ⟨h1, h2⟩ := h p hp
    refine ⟨h1, ?_⟩
    rw [rowsK_of h1]
    unfold succs
    rw [List.take_length]
    exact List.mem_map.mpr ⟨p, List.mem_filter.mpr ⟨hp, by simp⟩, rfl⟩
theorem sum_add {α : Type} {f g : α → Nat} : ∀ {l : List α}, (l.map fun x => f x + g x).sum = (l.map f).sum + (l.map g).sum
  | [] => rfl
  | a :: l => by
    rw [List.map_cons, List.sum_cons, List.map_cons, List.sum_cons, List.map_cons, List.sum_cons, sum_add (l := l)]
    omega
theorem sum_ind {a : Nat} : ∀ {n : Nat}, ((List.range n).map fun i => if i = a then 1 else 0).sum ≤ 1
  | 0 => Nat.zero_le _
  | n + 1 => by
    rw [List.range_succ, List.map_append, List.sum_append]
    by_cases h : n = a
    · have : ((List.range n).map fun i => if i = a then 1 else 0) = (List.range n).map fun _ => 0 := List.map_congr_left fun i hi => by
        have := List.mem_range.mp hi
        rw [if_neg (by omega)]
      rw [this, List.map_const', List.length_range]
      simp [h]
    · have ih := sum_ind (a := a) (n := n)
      simp [h]
      simpa using ih
theorem rowsK_total {n : Nat} {ps : List (Nat × Nat)} : ∀ {k : Nat}, k ≤ ps.length → total (rowsK n ps k) ≤ k
  | 0, _ => by
    unfold total rowsK
    rw [List.map_map]
    have : ((List.range n).map (List.length ∘ succs ps 0)) = (List.range n).map fun _ => 0 := List.map_congr_left fun i _ => by
      show (succs ps 0 i).length = 0
      unfold succs
      rw [List.take_zero]
      rfl
    rw [this, List.map_const']
    simp
  | k + 1, h => by
    have ih := rowsK_total (n := n) (ps := ps) (k := k) (by omega)
    unfold total rowsK at ih ⊢
    rw [List.map_map] at ih ⊢
    have hp : ps[k]? = some (ps[k]'(by omega)) := List.getElem?_eq_getElem (by omega)
    have : ((List.range n).map (List.length ∘ succs ps (k + 1))) = (List.range n).map fun i => (List.length ∘ succs ps k) i + if i = (ps[k]'(by omega)).1 then 1 else 0 := List.map_congr_left fun i _ => by
      show (succs ps (k + 1) i).length = (succs ps k i).length + _
      rw [succs_step hp]
      split
      · rw [List.length_append]
        rfl
      · rfl
    rw [this, sum_add]
    have := sum_ind (a := (ps[k]'(by omega)).1) (n := n)
    omega
def IvI1 (n : Nat) (ps : List (Nat × Nat)) (self : Option (M × D)) (k : Nat) (ρ : Env) : Prop := ∃ v5 v6 v7, ρ = [self, some (.s, .int (n : Nat)), some (.s, psD ps), some (.o (.o .s), .lst (nssL (rowsK n ps k))), none, v5, v6, v7, none]
def IvI2 (n : Nat) (t : Nat → Nat → Bool) (p rows : D) (k : Nat) (ρ : Env) : Prop := ∃ v5 v6 v7, ρ = [some (.ins "Order" oNs ms4, .obj "Order" oNs [.int n, .lst (nsL (upM n t)), .lst (nsL (upM n fun i j => t j i && decide (j < k))), psD (prs n t k)]), some (.s, .int n), some (.s, p), some (.s, rows), none, v5, v6, v7, some (.s, .non)]
theorem bits_up {n i : Nat} {t : Nat → Nat → Bool} (h : i < n) (hn : n ≤ 64) : bitsOf (nm (upM n t) i) = (List.range n).filter (t i) := by
  unfold bitsOf
  have e : List.range 64 = List.range n ++ (List.range (64 - n)).map (n + ·) := by
    rw [← List.range_add]
    congr 1
    omega
  rw [e, List.filter_append]
  have e2 : ((List.range (64 - n)).map (n + ·)).filter (fun j => (nm (upM n t) i).testBit j) = [] := by
    rw [List.filter_eq_nil_iff]
    intro j hj
    obtain ⟨k, _, rfl⟩ := List.mem_map.mp hj
    intro z
    have := (upM_bit h).mp z
    omega
  rw [e2, List.append_nil]
  refine List.filter_congr fun j hj => ?_
  rw [Bool.eq_iff_iff, upM_bit h]
  exact ⟨fun z => z.2, fun z => ⟨List.mem_range.mp hj, z⟩⟩
def dnK (n : Nat) (t : Nat → Nat → Bool) (low : Nat) (bs : List Nat) : List Nat := upM n fun j i => t i j && (decide (i < low) || (decide (i = low) && decide (j ∈ bs)))
def IvI3 (n : Nat) (t : Nat → Nat → Bool) (p rows : D) (low : Nat) (bs : List Nat) (m : Nat) (ρ : Env) : Prop := ∃ v5 v7, ρ = [some (.ins "Order" oNs ms4, .obj "Order" oNs [.int n, .lst (nsL (upM n t)), .lst (nsL (dnK n t low (bs.take m))), .lst ((prs n t low ++ (bs.take m).map fun j => (low, j)).map pD)]), some (.s, .int n), some (.s, p), some (.s, rows), none, v5, some (.s, .int (low : Nat)), v7, some (.s, .non)]
theorem dnK_step {n low b : Nat} {t : Nat → Nat → Bool} {bs : List Nat} (hlow : low < n) (hb : b < n) (ht : t low b = true) : (dnK n t low bs).set b (nm (dnK n t low bs) b ||| 2 ^ low) = dnK n t low (bs ++ [b]) := by
  refine masks_eq (by rw [List.length_set]; exact upM_len) fun i j hi => ?_
  have hl : b < (dnK n t low bs).length := by
    unfold dnK
    rw [upM_len]
    exact hb
  rw [nm_set hl]
  have g := upM_bit (n := n) (t := fun j i => t i j && (decide (i < low) || (decide (i = low) && decide (j ∈ bs)))) (i := i) (j := j) hi
  by_cases e : i = b
  · subst e
    rw [if_pos rfl, Nat.testBit_or, Nat.testBit_two_pow, Bool.or_eq_true]
    unfold dnK
    rw [g]
    simp
    constructor
    · rintro (⟨h1, h2, h3⟩ | h1)
      · exact ⟨h1, h2, h3.imp id fun z => z.1⟩
      · subst h1
        exact ⟨hlow, ht, .inr rfl⟩
    · rintro ⟨h1, h2, h3⟩
      rcases h3 with h3 | h3
      · exact .inl ⟨h1, h2, .inl h3⟩
      · right
        first | exact h3.symm | exact h3.1.symm
  · rw [if_neg e]
    unfold dnK
    rw [g]
    simp [e]
theorem enum_get {xs : List D} {k : Nat} {x : D} (h : (enumD xs)[k]? = some x) : ∃ y, xs[k]? = some y ∧ x = .tup [.int (k : Nat), y] := by
  unfold enumD at h
  rw [List.getElem?_map] at h
  cases q : (List.range xs.length)[k]? with
  | none =>
    rw [q] at h
    cases h
  | some z =>
    rw [q] at h
    obtain ⟨h1, h2⟩ := List.getElem?_eq_some_iff.mp q
    rw [List.length_range] at h1
    rw [List.getElem_range] at h2
    subst h2
    cases h
    refine ⟨xs[k], List.getElem?_eq_getElem h1, ?_⟩
    show D.tup [D.int (k : Nat), xs.getD k D.non] = _
    rw [List.getD_eq_getElem?_getD, List.getElem?_eq_getElem h1]
    rfl
theorem ok_init {T : List FSpec} (t23 : T[23]? = some spElems) (t25 : T[25]? = some spRing) (t26 : T[26]? = some spClosedM) : wDi "Order" T spInit c_Order___init__ 9 := by
  intro ds R _ ⟨n, ps, e, hn, hpl, ⟨r, hr⟩, h⟩
  subst e
  show wS _ [0] _ _ [some (.ins "Order" [] .fnil, .obj "Order" [] []), some (.s, .int n), some (.s, psD ps), none, none, none, none, none, none]
  unfold c_Order___init__
  have s1 : (1000000 : Nat) ≤ sizeLine := by decide
  have hps : ∀ p ∈ ps, p.1 < n ∧ p.2 < n := fun p hp => ⟨(hr p hp).1, (hr p hp).2.1⟩
  rw [x_Sseq, x_Sifs, x_Tnot]
  simp only [x_Tchain, x_Eint, x_Evar, x_Egint, at0, at1, x_kcLe]
  rw [decide_eq_true (by omega : (0 : Int) ≤ n), if_pos rfl, decide_eq_true (by omega : (n : Int) ≤ 40), if_neg (by decide), x_Sskip, x_Sseq, x_Sasg]
  refine wE_compR0 (n := n) (fun _ => .lst []) (fun R h => by simpa using h) (by omega) (by simp) (by simp) (fun k hk R h => ?_) ?_
  · simp
    exact h _ rfl
  have e0 : (List.range n).map (fun _ => D.lst []) = nssL (rowsK n ps 0) := by
    unfold nssL rowsK
    rw [List.map_map]
    refine List.map_congr_left fun i _ => ?_
    show D.lst [] = D.lst (nsL (succs ps 0 i))
    unfold succs
    rw [List.take_zero]
    rfl
  rw [e0, x_Sseq]
  refine ⟨rfl, fun z => (by simp at z), ?_⟩
  refine wS_for ?_
  rw [x_Ienum, x_Evar]
  refine ⟨IvI1 n ps (some (.ins "Order" [] .fnil, .obj "Order" [] [])), ⟨_, _, _, rfl⟩, fun k x ρ hx hI => ?_, fun ρ hI => ?_⟩
  · obtain ⟨y, hy, rfl⟩ := enum_get hx
    obtain ⟨p, hp, rfl⟩ := psD_get hy
    obtain ⟨v5, v6, v7, e⟩ := hI
    subst e
    obtain ⟨p1, p2⟩ := hps p (List.mem_of_getElem? hp)
    simp only [x_Gt, x_Gsc, x_Gn, x_Gsn, len_cons, len_nil, List.length_cons, List.length_nil]
    refine ⟨trivial, by simp, trivial, by simp, by simp, trivial, trivial, ?_⟩
    have hkl : k < ps.length := (List.getElem?_eq_some_iff.mp hp).1
    have hsl : (succs ps k p.1).length < sizeLine := by
      unfold succs
      rw [List.length_map]
      have := List.length_filter_le (fun q => q.1 == p.1) (ps.take k)
      rw [List.length_take] at this
      omega
    have ix : ixN (rowsK n ps k).length (p.1 : Int) = some p.1 := ixN_nat (by rw [rowsK_len]; exact p1)
    have g1 := nssL_get (ps := rowsK n ps k) (i := p.1) (by rw [rowsK_len]; exact p1)
    rw [rowsK_of p1] at g1
    simp [ix, g1, p1, p2, hsl]
    rw [← rowsK_step hp p1]
    exact ⟨_, _, _, rfl⟩
  · obtain ⟨v5, v6, v7, e⟩ := hI
    subst e
    rw [show (enumD (ps.map pD)).length = ps.length by unfold enumD; rw [List.length_map, List.length_range, List.length_map]]
    have hmem : ∀ p, p ∈ rowsPs (rowsK n ps ps.length) ↔ p ∈ ps := fun p => rowsK_mem hps
    have hrows : RowsOk n (rowsK n ps ps.length) := ⟨rowsK_len, fun row hrow j hj => by
      obtain ⟨i, hi, rfl⟩ := List.mem_map.mp hrow
      obtain ⟨q, hq, rfl⟩ := List.mem_map.mp hj
      rw [List.take_length] at hq
      exact (hps q (List.mem_filter.mp hq).1).2, by omega⟩
    have htg : ∀ i j, TG (rowsPs (rowsK n ps ps.length)) i j ↔ TG ps i j := fun i j => by
      have : (fun i j => (i, j) ∈ rowsPs (rowsK n ps ps.length)) = fun i j => (i, j) ∈ ps := by
        funext i j
        exact propext (hmem (i, j))
      unfold TG
      rw [this]
    rw [x_Sseq, x_Sfrz]
    simp only [at0, at1, List.set_cons_zero, List.set_cons_succ]
    rw [x_Sseq, x_Sasg]
    simp only [x_Ecall, t25, spRing_pm, x_Ac, isBor_var, x_Evar, at0, at1, x_An]
    refine ⟨rfl, n, rowsK n ps ps.length, rfl, hrows, ?_, ⟨r, fun p hp => (hr p ((hmem p).mp hp)).2.2⟩, ?_⟩
    · exact Nat.le_trans (rowsK_total (Nat.le_refl _)) hpl
    refine ⟨rfl, fun z => (by simp at z), ?_⟩
    show wS T [0] _ _ [some (.ins "Order" [] .fnil, .obj "Order" [] []), some (.s, .int n), some (.s, psD ps), some (.s, .lst (nssL (rowsK n ps ps.length))), none, v5, v6, v7, some (.s, .non)]
    rw [x_Sseq, x_Sifs]
    simp only [x_Tcmp, x_Evar, x_Enon, isP_non, at0, at1, x_kcIsN, isN_n, Bool.not_true]
    rw [if_neg (by decide), x_Sskip, x_Sseq, x_Ssetf, x_Evar]
    refine ⟨rfl, fun z => (by cases z), by decide, ?_⟩
    rw [x_Sseq, x_Ssetf]
    simp only [x_Ecall, t26, spClosedM_pm, x_Ac, isBor_var, x_Evar, at0, at1, List.set_cons_zero, List.set_cons_succ, x_An]
    refine ⟨rfl, n, rowsK n ps ps.length, rfl, hrows, fun ms hM => ?_⟩
    obtain ⟨t, ht⟩ : ∃ t : Nat → Nat → Bool, ∀ i j, t i j = true ↔ (TG ps i j) := ⟨fun i j => @decide (TG ps i j) (Classical.propDecidable _), fun i j => by simp⟩
    have hup : ms = upM n t := masks_eq hM.len fun i j hi => by
      rw [hM.bit i j hi, htg, ht]
      refine ⟨fun z => ⟨?_, z⟩, fun z => z.2⟩
      have := TG.wp hps z
      cases z with
      | single e => exact (hps _ e).2
      | tail _ e => exact (hps _ e).2
    subst hup
    have n1 : ("_up" : Str) ∉ ([("_size" : Str)] : List Str) := by decide +kernel
    have n2 : ("_down" : Str) ∉ ([("_size" : Str), "_up"] : List Str) := by decide +kernel
    have n3 : ("_pairs" : Str) ∉ ([("_size" : Str), "_up", "_down"] : List Str) := by decide +kernel
    refine ⟨rfl, n1, by decide, ?_⟩
    show wS T [0] _ _ [some (.ins "Order" ["_size", "_up"] (.fcons .s (.fcons .s .fnil)), .obj "Order" ["_size", "_up"] [.int n, .lst (nsL (upM n t))]), some (.s, .int n), some (.s, psD ps), some (.s, .lst (nssL (rowsK n ps ps.length))), none, v5, v6, v7, some (.s, .non)]
    have rep : (List.replicate n [D.int 0]).flatten = nsL (upM n fun i j => t j i && decide (j < 0)) := by
      rw [flat_rep]
      unfold nsL upM
      rw [List.map_map]
      refine List.map_congr_left fun i _ => ?_
      have : (List.range n).filter (fun j => t j i && decide (j < 0)) = [] := by
        rw [List.filter_eq_nil_iff]
        intro j _
        simp
      show D.int 0 = D.int ((maskN ((List.range n).filter (fun j => t j i && decide (j < 0))) : Nat) : Int)
      rw [this]
      rfl
    rw [x_Sseq, x_Ssetf]
    simp only [x_Ebin, x_Elst, x_Lc, x_Ln, x_Eint, x_Evar, at0, at1, List.set_cons_zero, List.set_cons_succ, x_bmull, Int.toNat_natCast]
    refine ⟨rfl, (by decide : 1 ≤ sizeLine), by omega, by omega, (by show 1 * n ≤ _; omega), rfl, n2, by decide, ?_⟩
    rw [rep, x_Sseq, x_Ssetf]
    simp only [x_Elst, x_Ln, at0, at1, List.set_cons_zero, List.set_cons_succ]
    refine ⟨by decide, rfl, n3, by decide, ?_⟩
    show wS T [0] _ _ [some (.ins "Order" oNs ms4, .obj "Order" oNs [.int n, .lst (nsL (upM n t)), .lst (nsL (upM n fun i j => t j i && decide (j < 0))), psD (prs n t 0)]), some (.s, .int n), some (.s, psD ps), some (.s, .lst (nssL (rowsK n ps ps.length))), none, v5, v6, v7, some (.s, .non)]
    rw [x_Sseq]
    refine wS_rng1 (IvI2 n t (psD ps) (.lst (nssL (rowsK n ps ps.length)))) (n := n) (fun R h => by simpa using h) (by omega) (by simp) ⟨_, _, _, rfl⟩ (fun low ρ hlow ⟨w5, w6, w7, e⟩ => ?_) (fun ρ ⟨w5, w6, w7, e⟩ => ?_)
    · subst e
      have hbl : ∀ b ∈ (List.range n).filter (t low), b < n ∧ t low b = true := fun b hb => by
        obtain ⟨h1, h2⟩ := List.mem_filter.mp hb
        exact ⟨List.mem_range.mp h1, h2⟩
      simp only [List.set_cons_zero, List.set_cons_succ]
      rw [x_Sseq]
      refine wS_itr (IvI3 n t (psD ps) (.lst (nssL (rowsK n ps ps.length))) low ((List.range n).filter (t low))) (xs := nsL ((List.range n).filter (t low))) (mx := .o .s) (x := .lst (nsL ((List.range n).filter (t low)))) (.inl rfl) (fun R h => ?_) ?_ (fun m x ρ hx ⟨w5, w7, e⟩ => ?_) (fun ρ ⟨w5, w7, e⟩ => ?_)
      · simp [t23, atI_nm, upM_len, hlow]
        refine ⟨nm (upM n t) low, rfl, upM_lt (by omega) _ (nm_mem (by rw [upM_len]; exact hlow)), ?_⟩
        rw [bits_up hlow (by omega)]
        simpa using h
      · have e4 : dnK n t low (((List.range n).filter (t low)).take 0) = upM n fun i j => t j i && decide (j < low) := by
          unfold dnK
          congr 1
          funext j i
          simp
        have e5 : (prs n t low ++ (((List.range n).filter (t low)).take 0).map fun j => (low, j)).map pD = (prs n t low).map pD := by simp
        unfold IvI3
        rw [e4, e5]
        exact ⟨_, _, rfl⟩
      · subst e
        generalize hbs : (List.range n).filter (t low) = bs at *
        have hq : ∃ b, bs[m]? = some b ∧ x = .int (b : Nat) := by
          unfold nsL at hx
          rw [List.getElem?_map] at hx
          cases q : bs[m]? with
          | none =>
            rw [q] at hx
            cases hx
          | some b =>
            rw [q] at hx
            cases hx
            exact ⟨b, rfl, rfl⟩
        obtain ⟨b, hb, rfl⟩ := hq
        obtain ⟨b1, b2⟩ := hbl b (List.mem_of_getElem? hb)
        have hdl : (dnK n t low (bs.take m)).length = n := upM_len
        have ix : ixN (dnK n t low (bs.take m)).length (b : Int) = some b := ixN_nat (by rw [hdl]; exact b1)
        have g1 : (nsL (dnK n t low (bs.take m)))[b]? = some (.int (nm (dnK n t low (bs.take m)) b : Nat)) := by
          rw [nsL_get (by rw [hdl]; exact b1)]
          unfold nm
          rw [List.getD_eq_getElem?_getD, List.getElem?_eq_getElem (by rw [hdl]; exact b1)]
          rfl
        have hbl2 : bs.length ≤ n := by
          rw [← hbs]
          have := List.length_filter_le (t low) (List.range n)
          rw [List.length_range] at this
          exact this
        have hpl2 : (prs n t low).length ≤ 1600 := Nat.le_trans prs_len (Nat.mul_le_mul (show low ≤ 40 by omega) hn)
        have e1 : (2 : Int) ^ low = ((2 ^ low : Nat) : Int) := by norm_cast
        have e2 : dnK n t low (bs.take (m + 1)) = (dnK n t low (bs.take m)).set b (nm (dnK n t low (bs.take m)) b ||| 2 ^ low) := by
          rw [dnK_step hlow b1 b2, List.take_succ, hb]
          rfl
        have e3 : (prs n t low ++ (bs.take (m + 1)).map fun j => (low, j)).map pD = (prs n t low ++ (bs.take m).map fun j => (low, j)).map pD ++ [.tup [.int (low : Nat), .int (b : Nat)]] := by
          rw [List.take_succ, hb]
          simp [pD]
        have hlen : ((prs n t low ++ (bs.take m).map fun j => (low, j)).map pD).length < sizeLine := by
          rw [List.length_map, List.length_append, List.length_map, List.length_take]
          omega
        unfold IvI3
        rw [e2, e3, ← nsL_set, ← bor, ← e1]
        generalize hP : (prs n t low ++ (bs.take m).map fun j => (low, j)).map pD = P at *
        have s2 : 2 ≤ sizeLine := by decide
        simp [ix, g1, hlen, s2]
        exact ⟨by omega, by omega, by decide⟩
      · subst e
        have hl2 : (nsL ((List.range n).filter (t low))).length = ((List.range n).filter (t low)).length := nsL_len
        have e4 : dnK n t low ((List.range n).filter (t low)) = upM n fun i j => t j i && decide (j < low + 1) := by
          unfold dnK upM
          refine List.map_congr_left fun i hi => ?_
          congr 1
          refine List.filter_congr fun j hj => ?_
          show (t j i && (decide (j < low) || (decide (j = low) && decide (i ∈ (List.range n).filter (t low))))) = (t j i && decide (j < low + 1))
          rw [Bool.eq_iff_iff]
          simp only [Bool.and_eq_true, Bool.or_eq_true, decide_eq_true_eq, List.mem_filter]
          constructor
          · rintro ⟨h1, h2 | ⟨h2, _⟩⟩
            · exact ⟨h1, by omega⟩
            · exact ⟨h1, by omega⟩
          · rintro ⟨h1, h2⟩
            refine ⟨h1, ?_⟩
            by_cases e : j = low
            · exact .inr ⟨e, hi, by rw [← e]; exact h1⟩
            · exact .inl (by omega)
        rw [x_Sskip, hl2, List.take_length, e4, ← prs_succ]
        exact ⟨_, _, _, rfl⟩
    · subst e
      rw [x_Sskip]
      have e3 : (upM n fun i j => t j i && decide (j < n)) = upM n fun i j => t j i := by
        unfold upM
        refine List.map_congr_left fun i _ => ?_
        congr 1
        refine List.filter_congr fun j hj => ?_
        show (t j i && decide (j < n)) = t j i
        rw [decide_eq_true (List.mem_range.mp hj), Bool.and_true]
      rw [e3]
      exact ⟨rfl, rfl, _, _, rfl, rfl, h t fun i j _ _ => ht i j⟩
end Y
namespace Y
open PySem PySem.Spec PyProof.Rows L2

def c_Order_apart : C :=
 (.seq (.ret (.and (.cmp .NotEq (.var 1) (.var 2)) (.and (.not (.meth "Order" "below" 28 (.var 0) (.cons (.var 1) (.cons (.var 2) .nil)))) (.one (.not (.meth "Order" "below" 28 (.var 0) (.cons (.var 2) (.cons (.var 1) .nil))))))))
 .skip)
/- N Order_apart = 0:self 1:one 2:other -/
def aprT (t : Nat → Nat → Bool) (i j : Nat) : Bool := decide (i ≠ j) && (!t i j && !t j i)
def spOApart : FSpec := ⟨[.s, .s, .s], .s, fun ds R => ∃ (n : Nat) (t : Nat → Nat → Bool) (i j : Nat), ds = [ordD n t, .int i, .int j] ∧ n ≤ 64 ∧ i < n ∧ j < n ∧ R (.bl (aprT t i j)) [.non, .non, .non]⟩
@[simp] theorem spOApart_pm : spOApart.pm = [.s, .s, .s] := rfl
@[simp] theorem spOApart_rm : spOApart.rm = .s := rfl
theorem below_ns : ("below" : Str) ∉ oNs := by decide +kernel
theorem ok_oapart {T : List FSpec} (t28 : T[28]? = some spBelow) : wD T spOApart c_Order_apart 3 := by
  refine wD_of fun ds R ⟨n, t, i, j, e, hn, hi, hj, h⟩ => ?_
  subst e
  show wS _ [] _ _ [some (.s, ordD n t), some (.s, .int i), some (.s, .int j)]
  unfold c_Order_apart
  have bl : ∀ a b (Q : D → List D → Prop), a < n → b < n → Q (.bl (t a b)) [.non, .non, .non] → spBelow.run [ordD n t, .int a, .int b] Q := fun a b Q h1 h2 q => ⟨n, t, a, b, rfl, hn, h1, h2, q⟩
  rw [x_Sseq, x_Sret]
  simp only [x_Eand, x_Eone, x_Ecmp, x_Enot, x_Emeth, t28, spBelow_pm, x_Evar, at0, at1, isP_var, x_kcNe, x_keqi]
  unfold ordD at bl ⊢
  simp [t28, below_ns]
  unfold aprT at h
  by_cases e : i = j
  · subst e
    simp at h ⊢
    exact ⟨rfl, h⟩
  · have b4 : ¬("below" : Str) = "_size" ∧ ¬("below" : Str) = "_up" ∧ ¬("below" : Str) = "_down" ∧ ¬("below" : Str) = "_pairs" := by decide +kernel
    rw [if_neg (by omega)]
    refine ⟨b4, bl i j _ hi hj ?_⟩
    cases q : t i j with
    | true =>
      simp [e, q] at h ⊢
      exact ⟨rfl, h⟩
    | false =>
      simp [t28]
      refine ⟨b4, bl j i _ hj hi ?_⟩
      simp [e, q] at h ⊢
      exact ⟨rfl, h⟩
end Y
namespace Y
open PySem PySem.Spec PyProof.Rows L2

/-! ### what can be shown and compared -/
theorem toPys_map {α : Type} (f : α → D) : ∀ xs : List α, D.toPys (xs.map f) = xs.map fun x => (f x).toPy
  | [] => rfl
  | x :: xs => by
    show (f x).toPy :: D.toPys (xs.map f) = _
    rw [toPys_map f xs]
    rfl
theorem toPys_eq : ∀ xs : List D, D.toPys xs = xs.map D.toPy
  | [] => rfl
  | x :: xs => by
    show x.toPy :: D.toPys xs = _
    rw [toPys_eq xs]
    rfl
/-- depth at most dp, shown in at most n signs -/
structure Sm (x : D) (dp n : Nat) : Prop where
  py : x.isPy = true
  sh : x.toPy.showable = true
  dep : x.toPy.depth ≤ dp
  len : x.toPy.shown.length ≤ n
  lay : x.toPy.canLay0 = true
theorem Sm.mono {x : D} {dp n dp' n' : Nat} (h : Sm x dp n) (h1 : dp ≤ dp') (h2 : n ≤ n') : Sm x dp' n' := ⟨h.py, h.sh, Nat.le_trans h.dep h1, Nat.le_trans h.len h2, h.lay⟩
theorem Sm.show {x : D} {dp n : Nat} (h : Sm x dp n) (h1 : dp ≤ 64) (h2 : n ≤ sizeLine) : showD x := ⟨h.py, h.sh, Nat.le_trans h.dep h1, Nat.le_trans h.len h2⟩
theorem Sm.shp {x : D} {dp n : Nat} (h : Sm x dp n) (h1 : dp ≤ 64) : x.shp := by
  refine ⟨h.py, ?_⟩
  unfold SeqAt.shaped
  rw [h.lay, decide_eq_true (Nat.le_trans h.dep h1)]
  rfl
theorem sm_int {i : Int} (h : i.natAbs < 2 ^ 60) : Sm (.int i) 0 62 := by
  have lg : i.natAbs.log2 < 61 := by
    by_cases e : i.natAbs = 0
    · rw [e]
      decide
    · have := Nat.log2_self_le e
      have h2 : 2 ^ i.natAbs.log2 < 2 ^ 60 := Nat.lt_of_le_of_lt this h
      have := (Nat.pow_lt_pow_iff_right (a := 2) (by decide)).mp h2
      omega
  refine ⟨rfl, ?_, ?_, ?_, rfl⟩
  · show decide (i.natAbs.log2 < 1920) = true
    exact decide_eq_true (by omega)
  · exact Nat.le_refl _
  · have := int_text_length_le (a := i) (k := 61) (by decide) lg
    show (Str.ofString (toString i)).length ≤ 62
    rw [PySem.ofString_length]
    omega
theorem sm_nat {n : Nat} (h : n < 2 ^ 60) : Sm (.int (n : Nat)) 0 62 := sm_int (by rw [Int.natAbs_natCast]; exact h)
theorem sm_bl (b : Bool) : Sm (.bl b) 0 62 := by
  refine ⟨rfl, rfl, Nat.le_refl _, ?_, rfl⟩
  cases b <;> decide +kernel
theorem sm_non : Sm .non 0 62 := ⟨rfl, rfl, Nat.le_refl _, by decide +kernel, rfl⟩
theorem textFrom_le : ∀ (ts : List Str) (k : Nat) (acc : Str) (n : Nat), (∀ t ∈ ts, t.length ≤ n) → (textFrom k acc ts).length ≤ acc.length + ts.length * (n + 2)
  | [], k, acc, n, _ => by
    show acc.length ≤ _
    omega
  | t :: ts, k, acc, n, h => by
    have ih := textFrom_le ts (k + 1) (acc ++ (if k > 0 then ", " else "" : String) ++ t) n fun u hu => h u (List.mem_cons_of_mem _ hu)
    have h1 := h t (List.mem_cons_self ..)
    have e : (acc ++ (if k > 0 then ", " else "" : String) ++ t).length ≤ acc.length + 2 + t.length := by
      rw [strLen_append, strLen_append]
      have : (((if k > 0 then ", " else "" : String) : Str)).length ≤ 2 := by split <;> decide +kernel
      omega
    show (textFrom (k + 1) _ ts).length ≤ _
    rw [List.length_cons, Nat.succ_mul]
    omega
theorem listText_le {ts : List Str} {n : Nat} (h : ∀ t ∈ ts, t.length ≤ n) : (listText ts).length ≤ 2 + ts.length * (n + 2) := by
  unfold listText
  rw [strLen_append]
  have h1 := textFrom_le ts 0 "[" n h
  have e1 : (("[" : String) : Str).length = 1 := by decide +kernel
  have e2 : (("]" : String) : Str).length = 1 := by decide +kernel
  rw [e1] at h1
  rw [e2]
  omega
theorem piled_le {ts : List Str} {n : Nat} (h : ∀ t ∈ ts, t.length ≤ n) : piled ts ≤ ts.length * (n + 2) := by
  unfold piled
  induction ts with
  | nil => exact Nat.zero_le _
  | cons t ts ih =>
    rw [List.map_cons, List.sum_cons, List.length_cons, Nat.succ_mul]
    have h1 := h t (List.mem_cons_self ..)
    have h2 := ih fun u hu => h u (List.mem_cons_of_mem _ hu)
    omega
theorem tupleText_le {ts : List Str} {n : Nat} (h : ∀ t ∈ ts, t.length ≤ n) : (tupleText ts).length ≤ 3 + ts.length * (n + 2) := by
  unfold tupleText
  rw [strLen_append, strLen_append]
  have e1 : (("(" : String) : Str).length = 1 := by decide +kernel
  have e2 : (((if ts.length == 1 then ",)" else ")" : String) : Str)).length ≤ 2 := by split <;> decide +kernel
  have e3 : (Str.join ", " ts).length ≤ ts.length * (n + 2) := by
    by_cases q : ts = []
    · subst q
      exact Nat.le_trans (by decide +kernel : (Str.join ", " []).length ≤ 0) (Nat.zero_le _)
    · have := join_length_add ts q
      have := piled_le h
      omega
  rw [e1]
  omega
theorem sm_all {xs : List D} {dp n : Nat} (h : ∀ x ∈ xs, Sm x dp n) : D.arePy xs = true ∧ PyData.showableAll (D.toPys xs) = true ∧ PyData.depthAll (D.toPys xs) ≤ dp ∧ (∀ t ∈ PyData.shownAll (D.toPys xs), t.length ≤ n) ∧ PyData.canLayAll0 (D.toPys xs) = true ∧ (PyData.shownAll (D.toPys xs)).length = xs.length := by
  induction xs with
  | nil => exact ⟨rfl, rfl, Nat.zero_le _, (fun t ht => nomatch (show t ∈ ([] : List Str) from ht)), rfl, rfl⟩
  | cons x xs ih =>
    obtain ⟨a1, a2, a3, a4, a5, a6⟩ := ih fun y hy => h y (List.mem_cons_of_mem _ hy)
    have hx := h x (List.mem_cons_self ..)
    refine ⟨?_, ?_, ?_, fun t ht => ?_, ?_, ?_⟩
    · show (x.isPy && D.arePy xs) = true
      rw [hx.py, a1]
      rfl
    · show (x.toPy.showable && PyData.showableAll (D.toPys xs)) = true
      rw [hx.sh, a2]
      rfl
    · exact Nat.max_le.mpr ⟨hx.dep, a3⟩
    · have ht : t ∈ x.toPy.shown :: PyData.shownAll (D.toPys xs) := ht
      rcases List.mem_cons.mp ht with rfl | ht
      · exact hx.len
      · exact a4 t ht
    · show (x.toPy.canLay0 && PyData.canLayAll0 (D.toPys xs)) = true
      rw [hx.lay, a5]
      rfl
    · show (x.toPy.shown :: PyData.shownAll (D.toPys xs)).length = _
      rw [List.length_cons, List.length_cons, a6]
theorem sm_lst {xs : List D} {dp n : Nat} (h : ∀ x ∈ xs, Sm x dp n) : Sm (.lst xs) (dp + 1) (2 + xs.length * (n + 2)) := by
  obtain ⟨a1, a2, a3, a4, a5, a6⟩ := sm_all h
  refine ⟨a1, a2, Nat.succ_le_succ a3, ?_, a5⟩
  have := listText_le a4
  rw [a6] at this
  exact this
theorem sm_tup {xs : List D} {dp n : Nat} (h : ∀ x ∈ xs, Sm x dp n) : Sm (.tup xs) (dp + 1) (3 + xs.length * (n + 2)) := by
  obtain ⟨a1, a2, a3, a4, a5, a6⟩ := sm_all h
  refine ⟨a1, a2, Nat.succ_le_succ a3, ?_, a5⟩
  have := tupleText_le a4
  rw [a6] at this
  exact this
/-! equality of data -/
theorem eqv_int (i j : Int) : PyData.eqv (.int i) (.int j) = decide (i = j) := by
  unfold PyData.eqv
  rw [Bool.beq_eq_decide_eq]
theorem eqv_bl (i j : Bool) : PyData.eqv (.bool i) (.bool j) = decide (i = j) := by
  unfold PyData.eqv
  rw [Bool.beq_eq_decide_eq]
theorem eqvAll_map {α : Type} [DecidableEq α] (f : α → PyData) (h : ∀ x y, PyData.eqv (f x) (f y) = decide (x = y)) : ∀ xs ys : List α, PyData.eqvAll (xs.map f) (ys.map f) = decide (xs = ys)
  | [], [] => by simp [PyData.eqvAll]
  | [], y :: ys => by simp [PyData.eqvAll]
  | x :: xs, [] => by simp [PyData.eqvAll]
  | x :: xs, y :: ys => by
    rw [List.map_cons, List.map_cons, PyData.eqvAll, h, eqvAll_map f h xs ys]
    simp
theorem eqv_lst {xs ys : List PyData} : PyData.eqv (.list xs) (.list ys) = PyData.eqvAll xs ys := by
  unfold PyData.eqv
  rfl
theorem eqv_tup {xs ys : List PyData} : PyData.eqv (.tuple xs) (.tuple ys) = PyData.eqvAll xs ys := by
  unfold PyData.eqv
  rfl
theorem eqv_ns (a b : List Nat) : PyData.eqv (D.lst (nsL a)).toPy (D.lst (nsL b)).toPy = decide (a = b) := by
  show PyData.eqv (.list (D.toPys (nsL a))) (.list (D.toPys (nsL b))) = _
  unfold nsL
  rw [eqv_lst, toPys_map, toPys_map]
  exact eqvAll_map (fun n : Nat => PyData.int (n : Nat)) (fun x y => by rw [eqv_int]; exact decide_eq_decide.mpr Int.ofNat_inj) a b
theorem eqv_ps (a b : List (Nat × Nat)) : PyData.eqv (psD a).toPy (psD b).toPy = decide (a = b) := by
  show PyData.eqv (.list (D.toPys (a.map pD))) (.list (D.toPys (b.map pD))) = _
  rw [eqv_lst, toPys_map, toPys_map]
  refine eqvAll_map (fun p : Nat × Nat => PyData.tuple [.int (p.1 : Nat), .int (p.2 : Nat)]) (fun x y => ?_) a b
  rw [eqv_tup]
  simp only [PyData.eqvAll, eqv_int, Bool.and_true]
  obtain ⟨x1, x2⟩ := x
  obtain ⟨y1, y2⟩ := y
  have e1 : decide ((x1 : Int) = y1) = decide (x1 = y1) := decide_eq_decide.mpr Int.ofNat_inj
  have e2 : decide ((x2 : Int) = y2) = decide (x2 = y2) := decide_eq_decide.mpr Int.ofNat_inj
  rw [e1, e2]
  simp
mutual
theorem eqv_refl : ∀ d : PyData, d.canLay0 = true → PyData.eqv d d = true
  | .none, _ => by simp [PyData.eqv]
  | .bool b, _ => by simp [PyData.eqv]
  | .int i, _ => by simp [PyData.eqv]
  | .str x, _ => by simp [PyData.eqv]
  | .list xs, h => by
    rw [eqv_lst]
    exact eqvs_refl xs h
  | .tuple xs, h => by
    rw [eqv_tup]
    exact eqvs_refl xs h
  | .dict _, h => by cases h
theorem eqvs_refl : ∀ ds : List PyData, PyData.canLayAll0 ds = true → PyData.eqvAll ds ds = true
  | [], _ => by simp [PyData.eqvAll]
  | d :: ds, h => by
    have h : (d.canLay0 && PyData.canLayAll0 ds) = true := h
    rw [Bool.and_eq_true] at h
    rw [PyData.eqvAll, eqv_refl d h.1, eqvs_refl ds h.2]
    rfl
end
/-- what a comparison of like things answers -/
theorem x_eqlst {xs ys : List D} {k : Bool → Prop} (h1 : (D.lst xs).shp) (h2 : (D.lst ys).shp) (h : k (PyData.eqv (D.lst xs).toPy (D.lst ys).toPy)) : eqD (.lst xs) (.lst ys) k := ⟨h1, h2, h⟩
theorem sm_ns {ns : List Nat} (h : ∀ n ∈ ns, n < 2 ^ 60) : Sm (.lst (nsL ns)) 1 (2 + ns.length * 64) := by
  have := sm_lst (xs := nsL ns) (dp := 0) (n := 62) fun x hx => by
    obtain ⟨n, hn, rfl⟩ := List.mem_map.mp hx
    exact sm_nat (h n hn)
  rw [nsL_len] at this
  exact this
theorem sm_pair {p : Nat × Nat} (h : p.1 < 2 ^ 60 ∧ p.2 < 2 ^ 60) : Sm (pD p) 1 131 := by
  refine (sm_tup (xs := [.int (p.1 : Nat), .int (p.2 : Nat)]) (dp := 0) (n := 62) fun x hx => ?_).mono (Nat.le_refl _) (by show 3 + 2 * (62 + 2) ≤ 131; decide)
  rcases List.mem_cons.mp hx with rfl | hx
  · exact sm_nat h.1
  · rw [List.mem_singleton.mp hx]
    exact sm_nat h.2
theorem sm_ps {ps : List (Nat × Nat)} (h : ∀ p ∈ ps, p.1 < 2 ^ 60 ∧ p.2 < 2 ^ 60) : Sm (psD ps) 2 (2 + ps.length * 133) := by
  have := sm_lst (xs := ps.map pD) (dp := 1) (n := 131) fun x hx => by
    obtain ⟨p, hp, rfl⟩ := List.mem_map.mp hx
    exact sm_pair (h p hp)
  rw [List.length_map] at this
  exact this
theorem sm_row {n i : Nat} {t : Nat → Nat → Bool} : Sm (.lst (rowL n t i)) 1 (2 + n * 64) := by
  have := sm_lst (xs := rowL n t i) (dp := 0) (n := 62) fun x hx => by
    unfold rowL at hx
    obtain ⟨j, _, rfl⟩ := List.mem_map.mp hx
    exact sm_bl _
  rw [rowL_len] at this
  exact this
theorem sm_tab {n : Nat} {t : Nat → Nat → Bool} : Sm (tabD n t) 2 (2 + n * (2 + n * 64 + 2)) := by
  have := sm_lst (xs := tabL n t) (dp := 1) (n := 2 + n * 64) fun x hx => by
    unfold tabL at hx
    obtain ⟨i, _, rfl⟩ := List.mem_map.mp hx
    exact sm_row
  rw [tabL_len] at this
  exact this
def tabB (n : Nat) (t : Nat → Nat → Bool) : List (List Bool) := (List.range n).map fun i => (List.range n).map fun j => t i j
theorem eqv_tab (n m : Nat) (t u : Nat → Nat → Bool) : PyData.eqv (tabD n t).toPy (tabD m u).toPy = decide (tabB n t = tabB m u) := by
  have e : ∀ n t, D.toPys (tabL n t) = (tabB n t).map fun row => PyData.list (row.map PyData.bool) := fun n t => by
    unfold tabL tabB
    rw [toPys_map, List.map_map]
    refine List.map_congr_left fun i _ => ?_
    show PyData.list (D.toPys (rowL n t i)) = _
    unfold rowL
    rw [toPys_map]
    show PyData.list _ = PyData.list (((List.range n).map fun j => t i j).map PyData.bool)
    rw [List.map_map]
    rfl
  show PyData.eqv (.list (D.toPys (tabL n t))) (.list (D.toPys (tabL m u))) = _
  rw [eqv_lst, e, e]
  refine eqvAll_map (fun row : List Bool => PyData.list (row.map PyData.bool)) (fun x y => ?_) _ _
  rw [eqv_lst]
  exact eqvAll_map PyData.bool eqv_bl x y
theorem tabB_eq {n m : Nat} {t u : Nat → Nat → Bool} : tabB n t = tabB m u ↔ n = m ∧ ∀ i j, i < n → j < n → t i j = u i j := by
  constructor
  · intro h
    have hl := congrArg List.length h
    unfold tabB at hl
    rw [List.length_map, List.length_map, List.length_range, List.length_range] at hl
    subst hl
    refine ⟨rfl, fun i j hi hj => ?_⟩
    have h1 : (tabB n t)[i]? = (tabB n u)[i]? := by rw [h]
    unfold tabB at h1
    rw [List.getElem?_map, List.getElem?_map, List.getElem?_range hi] at h1
    have h2 := congrArg (fun r : List Bool => r[j]?) (Option.some.inj h1)
    simp only [List.getElem?_map, List.getElem?_range hj, Option.map_some] at h2
    exact Option.some.inj h2
  · rintro ⟨rfl, h⟩
    unfold tabB
    refine List.map_congr_left fun i hi => List.map_congr_left fun j hj => h i j (List.mem_range.mp hi) (List.mem_range.mp hj)
end Y
namespace Y
open PySem PySem.Spec PyProof.Rows L2

def c_Order_size : C :=
 (.seq (.ret (.fld (.var 0) "_size"))
 .skip)
/- N Order_size = 0:self -/
def c_Order_pairs : C :=
 (.seq (.ret (.b1 .list (.fld (.var 0) "_pairs")))
 .skip)
/- N Order_pairs = 0:self -/
def c_Order_above : C :=
 (.seq (.ret (.call 23 (.cons (.idx (.fld (.var 0) "_up") (.var 1)) .nil)))
 .skip)
/- N Order_above = 0:self 1:element -/
def c_Order_under : C :=
 (.seq (.ret (.call 23 (.cons (.idx (.fld (.var 0) "_down") (.var 1)) .nil)))
 .skip)
/- N Order_under = 0:self 1:element -/
def c_Order_lowest : C :=
 (.seq (.ret (.comp .s [("element", 1)] (.tn 1) (.rng1 (.fld (.var 0) "_size")) (.cons (.cmp .Eq (.idx (.fld (.var 0) "_down") (.var 1)) (.int 0)) .nil) (.var 1)))
 .skip)
/- N Order_lowest = 0:self 1:element -/
def c_same_table : C :=
 (.seq (.ret (.and (.cmp .Eq (.prop "Order" "size" 32 (.var 0)) (.b1 .len (.var 1))) (.one (.cmp .Eq (.b1 .repr (.meth "Order" "pairs" 33 (.var 0) .nil)) (.b1 .repr (.call 5 (.cons (.var 1) .nil)))))))
 .skip)
/- N same_table = 0:order 1:table -/
def c_is_integer : C :=
 (.seq (.ret (.and (.isT .int (.var 0)) (.one (.not (.isb (.var 0))))))
 .skip)
/- N is_integer = 0:actual -/
def c_are_integers : C :=
 (.seq (.ret (.b1 .all (.comp .s [("_law_item", 1)] (.tn 1) (.itr (.var 0)) .nil (.call 44 (.cons (.var 1) .nil)))))
 .skip)
/- N are_integers = 0:actual 1:item -/
def c_near_chain : C :=
 (.seq (.asg 2 .s (.call 3 (.cons (.bor 0) (.cons (.lrange (.var 1)) .nil))))
 (.seq (.asg 3 (.o .s) (.comp .s [("_law_k", 4)] (.tn 4) (.rng1 (.bin .Sub (.var 1) (.int 2))) .nil (.tup (.cons (.idx (.var 2) (.var 4)) (.cons (.idx (.var 2) (.bin .Add (.var 4) (.int 2))) .nil)))))
 (.seq (.for_ (.tn 4) (.rng1 (.bin .Sub (.var 1) (.int 1)))
 (.seq (.ifs (.cmp .Gt (.call 2 (.cons (.bor 0) (.cons (.int 3) .nil))) (.int 0)) (.seq (.ex (.app (.bor 3) (.tup (.cons (.idx (.var 2) (.var 4)) (.cons (.idx (.var 2) (.bin .Add (.var 4) (.int 1))) .nil)))))
 .skip) .skip)
 .skip))
 (.seq (.ret (.call 4 (.cons (.var 1) (.cons (.mv 3) .nil))))
 .skip))))
/- N near_chain = 0:stream_here 1:size 2:names 3:pairs_here 4:k -/
def c_apart : C :=
 (.seq (.ret (.and (.cmp .NotEq (.var 1) (.var 2)) (.and (.not (.idx (.idx (.var 0) (.var 1)) (.var 2))) (.one (.not (.idx (.idx (.var 0) (.var 2)) (.var 1)))))))
 .skip)
/- N apart = 0:table 1:one 2:other -/
def c_said : C :=
 (.seq (.ret (.and (.isb (.var 0)) (.one (.cmp .Eq (.var 0) (.var 1)))))
 .skip)
/- N said = 0:actual 1:due -/
def c_Order_upper_covers : C :=
 (.seq (.asg 2 .s (.int 0))
 (.seq (.for_ (.tn 3) (.itr (.meth "Order" "above" 34 (.var 0) (.cons (.var 1) .nil)))
 (.seq (.asg 2 .s (.bin .BitOr (.var 2) (.idx (.fld (.var 0) "_up") (.var 3))))
 .skip))
 (.seq (.ret (.call 23 (.cons (.bin .BitAnd (.idx (.fld (.var 0) "_up") (.var 1)) (.inv (.var 2))) .nil)))
 .skip)))
/- N Order_upper_covers = 0:self 1:element 2:further 3:higher -/
def c_Order_covers : C :=
 (.seq (.asg 1 (.o .s) (.lst .s .nil))
 (.seq (.for_ (.tn 2) (.rng1 (.fld (.var 0) "_size"))
 (.seq (.ex (.ext (.bor 1) (.comp .s [("high", 3)] (.tn 3) (.itr (.meth "Order" "upper_covers" 39 (.var 0) (.cons (.var 2) .nil))) .nil (.tup (.cons (.var 2) (.cons (.var 3) .nil))))))
 .skip))
 (.seq (.ret (.mv 1))
 .skip)))
/- N Order_covers = 0:self 1:found 2:low 3:high -/
def c_Order_highest : C :=
 (.seq (.ret (.comp .s [("element", 1)] (.tn 1) (.rng1 (.fld (.var 0) "_size")) (.cons (.cmp .Eq (.idx (.fld (.var 0) "_up") (.var 1)) (.int 0)) .nil) (.var 1)))
 .skip)
/- N Order_highest = 0:self 1:element -/
def c_lower : C :=
 (.seq (.ret (.comp .s [("_law_low", 2)] (.tn 2) (.rng1 (.b1 .len (.var 0))) (.cons (.idx (.idx (.var 0) (.var 2)) (.var 1)) .nil) (.var 2)))
 .skip)
/- N lower = 0:table 1:element 2:low -/
def c_same : C :=
 (.seq (.ret (.and (.cmp .Eq (.prop "Order" "size" 32 (.var 0)) (.prop "Order" "size" 32 (.var 1))) (.one (.cmp .Eq (.meth "Order" "pairs" 33 (.var 0) .nil) (.meth "Order" "pairs" 33 (.var 1) .nil)))))
 .skip)
/- N same = 0:one 1:other -/
def c_Order_up_mask : C :=
 (.seq (.ret (.idx (.fld (.var 0) "_up") (.var 1)))
 .skip)
/- N Order_up_mask = 0:self 1:element -/
def c_Order_down_mask : C :=
 (.seq (.ret (.idx (.fld (.var 0) "_down") (.var 1)))
 .skip)
/- N Order_down_mask = 0:self 1:element -/
def c_Order_apart_mask : C :=
 (.seq (.asg 2 .s (.bin .Sub (.bin .LShift (.int 1) (.fld (.var 0) "_size")) (.int 1)))
 (.seq (.ret (.bin .BitXor (.var 2) (.bin .BitOr (.bin .BitOr (.idx (.fld (.var 0) "_up") (.var 1)) (.idx (.fld (.var 0) "_down") (.var 1))) (.bin .LShift (.int 1) (.var 1)))))
 .skip))
/- N Order_apart_mask = 0:self 1:element 2:everything -/
/-! ### tools -/
theorem cut_seq {T : List FSpec} {pn : List Nat} {a b : C} {nx : Env → Prop} {rt : M → D → Env → Prop} {bk ct : Env → Prop} {ρ : Env} (Mid : Env → Prop) (h2 : ∀ ρ', Mid ρ' → wS T pn b ⟨nx, rt, bk, ct⟩ ρ')
    (h1 : ∀ k : Env → Prop, (∀ ρ', Mid ρ' → k ρ') → wS T pn a ⟨k, rt, bk, ct⟩ ρ) : wS T pn (.seq a b) ⟨nx, rt, bk, ct⟩ ρ := h1 _ h2
theorem x_do {T : List FSpec} {pn : List Nat} {a b : C} {nx : Env → Prop} {rt : M → D → Env → Prop} {bk ct : Env → Prop} {ρ : Env} (ρ' : Env)
    (h1 : ∀ k : Env → Prop, k ρ' → wS T pn a ⟨k, rt, bk, ct⟩ ρ) (h2 : wS T pn b ⟨nx, rt, bk, ct⟩ ρ') : wS T pn (.seq a b) ⟨nx, rt, bk, ct⟩ ρ := h1 _ h2
theorem x_if {T : List FSpec} {pn : List Nat} {c a b : C} {nx : Env → Prop} {rt : M → D → Env → Prop} {bk ct : Env → Prop} {ρ : Env} (bb : Bool) (ρ' : Env)
    (hc : ∀ Q : Bool → Env → Prop, Q bb ρ' → wT T pn c Q ρ) (h1 : bb = true → wS T pn a ⟨nx, rt, bk, ct⟩ ρ') (h2 : bb = false → wS T pn b ⟨nx, rt, bk, ct⟩ ρ') : wS T pn (.ifs c a b) ⟨nx, rt, bk, ct⟩ ρ := by
  rw [x_Sifs]
  refine hc _ ?_
  cases bb with
  | true => exact h1 rfl
  | false => exact h2 rfl
theorem x_if0 {T : List FSpec} {pn : List Nat} {c a b : C} {nx : Env → Prop} {rt : M → D → Env → Prop} {bk ct : Env → Prop} {ρ : Env} (bb : Bool)
    (hc : ∀ Q : Bool → Env → Prop, Q bb ρ → wT T pn c Q ρ) (h1 : bb = true → wS T pn a ⟨nx, rt, bk, ct⟩ ρ) (h2 : bb = false → wS T pn b ⟨nx, rt, bk, ct⟩ ρ) : wS T pn (.ifs c a b) ⟨nx, rt, bk, ct⟩ ρ := x_if bb ρ hc h1 h2
theorem wS_enum {T : List FSpec} {pn : List Nat} {tgt e body : C} {nx : Env → Prop} {rt : M → D → Env → Prop} {bk ct : Env → Prop} {ρ : Env} (Inv : Nat → Env → Prop) {xs : List D} {mx : M} {x : D} (hx : x = .lst xs ∨ x = .tup xs)
    (ha : ∀ R : M → D → Env → Prop, R mx x ρ → wE T pn e R ρ) (h0 : Inv 0 ρ)
    (hs : ∀ k x ρ2, xs[k]? = some x → Inv k ρ2 → wG T pn tgt (.tup [.int (k : Nat), x]) (fun ρ3 => wS T pn body ⟨Inv (k + 1), rt, nx, Inv (k + 1)⟩ ρ3) ρ2) (he : ∀ ρ2, Inv xs.length ρ2 → nx ρ2) :
    wS T pn (.for_ tgt (.enum e) body) ⟨nx, rt, bk, ct⟩ ρ := by
  refine wS_for ?_
  rw [x_Ienum]
  refine ha _ ?_
  have len : (enumD xs).length = xs.length := by
    unfold enumD
    rw [List.length_map, List.length_range]
  have key : ∀ k x ρ2, (enumD xs)[k]? = some x → Inv k ρ2 → wG T pn tgt x (fun ρ3 => wS T pn body ⟨Inv (k + 1), rt, nx, Inv (k + 1)⟩ ρ3) ρ2 := fun k x ρ2 hx hI => by
    obtain ⟨y, hy, rfl⟩ := enum_get hx
    exact hs k y ρ2 hy hI
  rcases hx with rfl | rfl
  · exact ⟨Inv, h0, key, fun ρ2 hI => he ρ2 (by rw [len] at hI; exact hI)⟩
  · exact ⟨Inv, h0, key, fun ρ2 hI => he ρ2 (by rw [len] at hI; exact hI)⟩
section
variable {T : List FSpec} {pn : List Nat} {m : Str} {j i : Nat} {es : C} {ρ : Env} {sp : FSpec} {ms : List M} {n : Nat} {t : Nat → Nat → Bool}
theorem meth_E {R : M → D → Env → Prop} (hT : T[j]? = some sp) (hp : sp.pm = .s :: ms) (ho : ρ.at i = some (.s, ordD n t)) (hm : m ∉ oNs)
    (h : wA T pn ms es (fun ds rs ρ2 => sp.run (ordD n t :: ds) fun d ds' => R sp.rm d (upd1 ρ2 (none :: rs) sp.pm ds')) ρ) : wE T pn (.meth "Order" m j (.var i) es) R ρ := by
  rw [x_Emeth, hT]
  simp only [hp]
  rw [x_Evar, ho]
  refine ⟨rfl, hm, ?_⟩
  rw [← hp]
  exact h
theorem meth_T {Q : Bool → Env → Prop} (hT : T[j]? = some sp) (hp : sp.pm = .s :: ms) (ho : ρ.at i = some (.s, ordD n t)) (hm : m ∉ oNs)
    (h : wA T pn ms es (fun ds rs ρ2 => sp.run (ordD n t :: ds) fun d ds' => truD d fun k => Q k (upd1 ρ2 (none :: rs) sp.pm ds')) ρ) : wT T pn (.meth "Order" m j (.var i) es) Q ρ := by
  rw [x_Tmeth, hT]
  simp only [hp]
  rw [x_Evar, ho]
  refine ⟨rfl, hm, ?_⟩
  rw [← hp]
  exact h
end
theorem apart_ns : ("apart" : Str) ∉ oNs := by decide +kernel
/-! ### apart, said -/
def spApart : FSpec := ⟨[.s, .s, .s], .s, fun ds R => ∃ (n : Nat) (t : Nat → Nat → Bool) (i j : Nat), ds = [tabD n t, .int i, .int j] ∧ n ≤ 64 ∧ i < n ∧ j < n ∧ R (.bl (aprT t i j)) [.non, .non, .non]⟩
@[simp] theorem spApart_pm : spApart.pm = [.s, .s, .s] := rfl
@[simp] theorem spApart_rm : spApart.rm = .s := rfl
theorem ok_apart {T : List FSpec} : wD T spApart c_apart 3 := by
  refine wD_of fun ds R ⟨n, t, i, j, e, hn, hi, hj, h⟩ => ?_
  subst e
  show wS _ [] _ _ [some (.s, tabD n t), some (.s, .int i), some (.s, .int j)]
  unfold c_apart
  simp [atI_tab, atI_row, hi, hj]
  unfold aprT at h
  by_cases e : i = j
  · subst e
    simp at h ⊢
    exact ⟨rfl, h⟩
  · rw [if_neg (by omega)]
    cases q : t i j with
    | true =>
      simp [e, q] at h ⊢
      exact ⟨rfl, h⟩
    | false =>
      simp [e, q] at h ⊢
      exact ⟨rfl, h⟩
def spSaid : FSpec := ⟨[.s, .s], .s, fun ds R => ∃ a b : Bool, ds = [.bl a, .bl b] ∧ R (.bl (decide (a = b))) [.non, .non]⟩
@[simp] theorem spSaid_pm : spSaid.pm = [.s, .s] := rfl
@[simp] theorem spSaid_rm : spSaid.rm = .s := rfl
theorem ok_said {T : List FSpec} : wD T spSaid c_said 2 := by
  refine wD_of fun ds R ⟨a, b, e, h⟩ => ?_
  subst e
  show wS _ [] _ _ [some (.s, .bl a), some (.s, .bl b)]
  unfold c_said
  simp
  exact ⟨rfl, h⟩
/-! ### pairs that tell an order make it -/
theorem Tells.tg {n : Nat} {t : Nat → Nat → Bool} {qs : List (Nat × Nat)} (ho : Ord n t) (ht : Tells n t qs) : ∀ i j, i < n → j < n → (t i j = true ↔ TG qs i j) := by
  obtain ⟨r, hr⟩ := ho.rk
  have fwd : ∀ d i j, r j - r i ≤ d → i < n → j < n → t i j = true → TG qs i j := by
    intro d
    induction d with
    | zero =>
      intro i j hd hi hj h
      have := hr i j hi hj h
      omega
    | succ d ih =>
      intro i j hd hi hj h
      by_cases hc : covT n t i j = true
      · exact .single (ht.cov i j hi hj hc)
      · unfold covT at hc
        rw [h, Bool.true_and, Bool.not_eq_true', Bool.not_eq_false, List.any_eq_true] at hc
        obtain ⟨k, hk, hkk⟩ := hc
        have hk := List.mem_range.mp hk
        obtain ⟨h1, h2⟩ := Bool.and_eq_true_iff.mp hkk
        have r1 := hr i k hi hk h1
        have r2 := hr k j hk hj h2
        exact (ih i k (by omega) hi hk h1).trans (ih k j (by omega) hk hj h2)
  intro i j hi hj
  refine ⟨fwd _ i j (Nat.le_refl _) hi hj, fun h => ?_⟩
  induction h with
  | single e => exact (ht.sub _ e).2.2
  | tail q e ih =>
    have e2 := ht.sub _ e
    exact ho.tr _ _ _ hi e2.1 hj (ih e2.1) e2.2.2
theorem ordD_congr {n : Nat} {t t' : Nat → Nat → Bool} (h : ∀ i j, i < n → j < n → t i j = t' i j) : ordD n t = ordD n t' := by
  have e1 : upM n t = upM n t' := by
    unfold upM
    refine List.map_congr_left fun i hi => ?_
    congr 1
    exact List.filter_congr fun j hj => h i j (List.mem_range.mp hi) (List.mem_range.mp hj)
  have e2 : upM n (fun i j => t j i) = upM n fun i j => t' j i := by
    unfold upM
    refine List.map_congr_left fun i hi => ?_
    congr 1
    exact List.filter_congr fun j hj => h j i (List.mem_range.mp hj) (List.mem_range.mp hi)
  have e3 : prs n t n = prs n t' n := by
    unfold prs
    have : ∀ i ∈ List.range n, ((List.range n).filter (t i)).map (fun j => (i, j)) = ((List.range n).filter (t' i)).map fun j => (i, j) := fun i hi => by
      congr 1
      exact List.filter_congr fun j hj => h i j (List.mem_range.mp hi) (List.mem_range.mp hj)
    rw [List.flatMap_def, List.flatMap_def, List.map_congr_left this]
  unfold ordD
  rw [e1, e2, e3]
theorem run_order {n : Nat} {t : Nat → Nat → Bool} {qs : List (Nat × Nat)} {P : D → List D → Prop} (hn : n ≤ 40) (ho : Ord n t) (ht : Tells n t qs) (h : P (ordD n t) [.non, .non]) : spInit.run [.int n, psD qs] P := by
  obtain ⟨r, hr⟩ := ho.rk
  refine ⟨n, qs, rfl, hn, Nat.le_trans ht.few (by decide), ⟨r, fun p hp => ?_⟩, fun t' ht' => ?_⟩
  · obtain ⟨h1, h2, h3⟩ := ht.sub p hp
    exact ⟨h1, h2, hr _ _ h1 h2 h3⟩
  · rw [ordD_congr (t := t') (t' := t) fun i j hi hj => by rw [Bool.eq_iff_iff, ht' i j hi hj, ht.tg ho i j hi hj]]
    exact h
/-! ### the law -/
def spLaw : FSpec := ⟨[.s], .s, fun ds R => ∃ ns : List Int, ds = [.scr ns] ∧ ns.length ≤ 63 ∧ R (.bl true) [.non]⟩
@[simp] theorem spLaw_pm : spLaw.pm = [.s] := rfl
@[simp] theorem spLaw_rm : spLaw.rm = .s := rfl
@[simp] theorem spCell_pm : spCell.pm = [.s, .s] := rfl
@[simp] theorem spCell_rm : spCell.rm = .s := rfl
@[simp] theorem spStream_pm : spStream.pm = [.s] := rfl
@[simp] theorem spStream_rm : spStream.rm = .o .s := rfl
@[simp] theorem spInit_rm' : spInit.rm = .s := rfl
structure TLaw (T : List FSpec) : Prop where
  t0 : T[0]? = some spCell
  t1 : T[1]? = some spStream
  t2 : T[2]? = some spDraw
  t20 : T[20]? = some spAnyOrder
  t22 : T[22]? = some spTold
  t27 : T[27]? = some spInit
/-- a comprehension over range(a), where a draws -/
theorem wE_compN {T : List FSpec} {pn : List Nat} {a cond elt : C} {ρ : Env} {i : Nat} {m : M} {s : Str} {R : M → D → Env → Prop} (Src : Nat → Env → Prop) (ha : ∀ P : M → D → Env → Prop, (∀ (n : Nat) ρ', Src n ρ' → P .s (.int n) ρ') → wE T pn a P ρ)
    (hb : ∀ (n : Nat) ρ1, Src n ρ1 → n ≤ sizeLine ∧ i ∉ pn ∧ ∃ Inv : Nat → List D → Env → Prop, Inv 0 [] (ρ1.set i none) ∧
      (∀ k acc ρ', k < n → Inv k acc ρ' → wC T pn cond (fun b ρ4 => if b = true then wE T pn elt (fun m' d ρ5 => cst m' m = true ∧ acc.length < sizeLine ∧ Inv (k + 1) (acc ++ [d]) (ρ5.set i none)) ρ4 else Inv (k + 1) acc (ρ4.set i none)) (ρ'.set i (some (.s, .int k)))) ∧
      ∀ acc ρ', Inv n acc ρ' → R (.o m) (.lst acc) (ρ'.set i (ρ1.at i))) : wE T pn (.comp m [(s, i)] (.tn i) (.rng1 a) cond elt) R ρ := by
  refine wE_comp ?_
  rw [x_Irng1]
  refine ha _ fun n ρ1 hs => ?_
  obtain ⟨h1, h2, Inv, h3, h4, h5⟩ := hb n ρ1 hs
  have : (n : Int) < 2 ^ 62 := Int.lt_of_le_of_lt (Int.ofNat_le.mpr h1) (by decide)
  refine ⟨by omega, this, fun v hv => ?_, fun k acc ρ' => Inv k acc ρ', h3, fun k x acc ρ2 hx hI => ?_, fun acc ρ2 hI => ?_⟩
  · have : v = i := by simpa using hv
    rw [this]
    exact h2
  · obtain ⟨hk, rfl⟩ := rng_get hx
    rw [Int.toNat_natCast] at hk
    rw [x_Gn, Int.zero_add]
    exact ⟨h2, h4 k acc _ hk hI⟩
  · rw [rng_len, Int.toNat_natCast] at hI
    have := h5 acc _ hI
    have e : ((wipeE ρ2 ([(s, i)].map (·.2))).set i (ρ1.at i)) = backE ρ2 ρ1 ([(s, i)].map (·.2)) := by
      show (ρ2.set i none).set i (ρ1.at i) = ρ2.set i (ρ1.at i)
      rw [List.set_set]
    rw [e] at this
    exact this
theorem ht_pos : ∀ t : Tree, 0 < ht t
  | .one _ => by unfold ht; omega
  | .node _ _ => by unfold ht; omega
theorem tree0 {ds : List D} {R : D → List D → Prop} (h : (famTree 0).run ds R) : False := by
  obtain ⟨z, ns, up, e, h1, h2, _⟩ := h
  omega
theorem mems0 {ds : List D} {R : D → List D → Prop} (h : (famMems 0).run ds R) : False := by
  obtain ⟨t, e, h1, _⟩ := h
  have := ht_pos t
  omega
theorem tprs0 {ds : List D} {R : D → List D → Prop} (h : (famTprs 0).run ds R) : False := by
  obtain ⟨t, e, h1, _⟩ := h
  have := ht_pos t
  omega
end Y
namespace Y
open PySem PySem.Spec PyProof.Rows L2

/-! ### methods of Order -/
section
variable {T : List FSpec} {pn : List Nat} {j i : Nat} {ρ : Env} {sp : FSpec} {n : Nat} {t : Nat → Nat → Bool}
theorem prop_E {m : Str} {R : M → D → Env → Prop} (hT : T[j]? = some sp) (hp : sp.pm = [.s]) (ho : ρ.at i = some (.s, ordD n t)) (h : sp.run [ordD n t] fun d ds' => R sp.rm d ρ) : wE T pn (.prop "Order" m j (.var i)) R ρ := by
  rw [x_Eprop, hT]
  simp only [hp]
  rw [x_Evar, ho]
  refine ⟨rfl, ?_⟩
  have e : ∀ ds', upd1 ρ [none] [.s] ds' = ρ := fun ds' => by cases ds' <;> rfl
  simp only [e]
  exact h
end
def nsO (m : Str) : Prop := m ∉ oNs
theorem pairs_ns : ("pairs" : Str) ∉ oNs := by decide +kernel
theorem above_ns : ("above" : Str) ∉ oNs := by decide +kernel
theorem under_ns : ("under" : Str) ∉ oNs := by decide +kernel
theorem up_mask_ns : ("up_mask" : Str) ∉ oNs := by decide +kernel
theorem down_mask_ns : ("down_mask" : Str) ∉ oNs := by decide +kernel
def spSize : FSpec := ⟨[.s], .s, fun ds R => ∃ (n : Nat) (t : Nat → Nat → Bool), ds = [ordD n t] ∧ R (.int (n : Nat)) [.non]⟩
@[simp] theorem spSize_pm : spSize.pm = [.s] := rfl
@[simp] theorem spSize_rm : spSize.rm = .s := rfl
theorem ok_size {T : List FSpec} : wD T spSize c_Order_size 1 := by
  refine wD_of fun ds R ⟨n, t, e, h⟩ => ?_
  subst e
  show wS _ [] _ _ [some (.s, ordD n t)]
  unfold c_Order_size ordD
  simp
  exact ⟨rfl, h⟩
def spOPairs : FSpec := ⟨[.s], .o .s, fun ds R => ∃ (n : Nat) (t : Nat → Nat → Bool), ds = [ordD n t] ∧ R (psD (prs n t n)) [.non]⟩
@[simp] theorem spOPairs_pm : spOPairs.pm = [.s] := rfl
@[simp] theorem spOPairs_rm : spOPairs.rm = .o .s := rfl
theorem ok_opairs {T : List FSpec} : wD T spOPairs c_Order_pairs 1 := by
  refine wD_of fun ds R ⟨n, t, e, h⟩ => ?_
  subst e
  show wS _ [] _ _ [some (.s, ordD n t)]
  unfold c_Order_pairs ordD
  simp [psD]
  exact ⟨rfl, h⟩
def spAbove : FSpec := ⟨[.s, .s], .o .s, fun ds R => ∃ (n : Nat) (t : Nat → Nat → Bool) (i : Nat), ds = [ordD n t, .int (i : Nat)] ∧ n ≤ 64 ∧ i < n ∧ R (.lst (nsL ((List.range n).filter (t i)))) [.non, .non]⟩
@[simp] theorem spAbove_pm : spAbove.pm = [.s, .s] := rfl
@[simp] theorem spAbove_rm : spAbove.rm = .o .s := rfl
theorem mask_lt64 {n i : Nat} {t : Nat → Nat → Bool} (hn : n ≤ 64) (hi : i < n) : nm (upM n t) i < 2 ^ 64 := upM_lt hn _ (nm_mem (by rw [upM_len]; exact hi))
theorem ok_above {T : List FSpec} (t23 : T[23]? = some spElems) : wD T spAbove c_Order_above 2 := by
  refine wD_of fun ds R ⟨n, t, i, e, hn, hi, h⟩ => ?_
  subst e
  show wS _ [] _ _ [some (.s, ordD n t), some (.s, .int i)]
  unfold c_Order_above ordD
  simp [t23, atI_nm, upM_len, hi]
  refine ⟨nm (upM n t) i, rfl, mask_lt64 hn hi, ?_⟩
  rw [bits_up hi hn]
  exact ⟨rfl, h⟩
def spUnder : FSpec := ⟨[.s, .s], .o .s, fun ds R => ∃ (n : Nat) (t : Nat → Nat → Bool) (i : Nat), ds = [ordD n t, .int (i : Nat)] ∧ n ≤ 64 ∧ i < n ∧ R (.lst (nsL ((List.range n).filter fun j => t j i))) [.non, .non]⟩
@[simp] theorem spUnder_pm : spUnder.pm = [.s, .s] := rfl
@[simp] theorem spUnder_rm : spUnder.rm = .o .s := rfl
theorem ok_under {T : List FSpec} (t23 : T[23]? = some spElems) : wD T spUnder c_Order_under 2 := by
  refine wD_of fun ds R ⟨n, t, i, e, hn, hi, h⟩ => ?_
  subst e
  show wS _ [] _ _ [some (.s, ordD n t), some (.s, .int i)]
  unfold c_Order_under ordD
  simp [t23, atI_nm, upM_len, hi]
  refine ⟨nm (upM n fun i j => t j i) i, rfl, mask_lt64 hn hi, ?_⟩
  rw [bits_up hi hn]
  exact ⟨rfl, h⟩
def spUpMask : FSpec := ⟨[.s, .s], .s, fun ds R => ∃ (n : Nat) (t : Nat → Nat → Bool) (i : Nat), ds = [ordD n t, .int (i : Nat)] ∧ i < n ∧ R (.int (nm (upM n t) i : Nat)) [.non, .non]⟩
@[simp] theorem spUpMask_pm : spUpMask.pm = [.s, .s] := rfl
@[simp] theorem spUpMask_rm : spUpMask.rm = .s := rfl
theorem ok_upmask {T : List FSpec} : wD T spUpMask c_Order_up_mask 2 := by
  refine wD_of fun ds R ⟨n, t, i, e, hi, h⟩ => ?_
  subst e
  show wS _ [] _ _ [some (.s, ordD n t), some (.s, .int i)]
  unfold c_Order_up_mask ordD
  simp [atI_nm, upM_len, hi]
  exact ⟨rfl, h⟩
def spDownMask : FSpec := ⟨[.s, .s], .s, fun ds R => ∃ (n : Nat) (t : Nat → Nat → Bool) (i : Nat), ds = [ordD n t, .int (i : Nat)] ∧ i < n ∧ R (.int (nm (upM n fun i j => t j i) i : Nat)) [.non, .non]⟩
@[simp] theorem spDownMask_pm : spDownMask.pm = [.s, .s] := rfl
@[simp] theorem spDownMask_rm : spDownMask.rm = .s := rfl
theorem ok_downmask {T : List FSpec} : wD T spDownMask c_Order_down_mask 2 := by
  refine wD_of fun ds R ⟨n, t, i, e, hi, h⟩ => ?_
  subst e
  show wS _ [] _ _ [some (.s, ordD n t), some (.s, .int i)]
  unfold c_Order_down_mask ordD
  simp [atI_nm, upM_len, hi]
  exact ⟨rfl, h⟩
/-! ### comparing by what is shown -/
theorem prs_small {n k : Nat} {t : Nat → Nat → Bool} (hn : n ≤ 64) (hk : k ≤ n) : ∀ p ∈ prs n t k, p.1 < 2 ^ 60 ∧ p.2 < 2 ^ 60 := fun p hp => by
  obtain ⟨h1, h2, _⟩ := prs_mem.mp hp
  exact ⟨Nat.lt_of_lt_of_le (by omega) (show 64 ≤ 2 ^ 60 by decide), Nat.lt_of_lt_of_le (by omega) (show 64 ≤ 2 ^ 60 by decide)⟩
theorem show_prs {n : Nat} {t : Nat → Nat → Bool} (hn : n ≤ 64) : Sm (psD (prs n t n)) 2 (2 + 4096 * 133) := by
  refine (sm_ps (prs_small hn (Nat.le_refl _))).mono (Nat.le_refl _) ?_
  have h1 := prs_len (n := n) (t := t) (k := n)
  have h2 : n * n ≤ 64 * 64 := Nat.mul_le_mul hn hn
  have := Nat.mul_le_mul_right 133 (Nat.le_trans h1 h2)
  omega
theorem lim1 : 2 + 4096 * 133 ≤ sizeLine := by decide
def spSameTab : FSpec := ⟨[.s, .s], .s, fun ds R => ∃ (n m : Nat) (t u : Nat → Nat → Bool), ds = [ordD n t, tabD m u] ∧ n ≤ 64 ∧ m ≤ 64 ∧ ((n = m ∧ prs n t n = prs m u m) → R (.bl true) [.non, .non]) ∧ (¬ (n = m ∧ prs n t n = prs m u m) → ∀ b, R (.bl b) [.non, .non])⟩
@[simp] theorem spSameTab_pm : spSameTab.pm = [.s, .s] := rfl
@[simp] theorem spSameTab_rm : spSameTab.rm = .s := rfl
theorem ok_sametab {T : List FSpec} (t5 : T[5]? = some spPairs) (t32 : T[32]? = some spSize) (t33 : T[33]? = some spOPairs) : wD T spSameTab c_same_table 2 := by
  refine wD_of fun ds R ⟨n, m, t, u, e, hn, hm, h1, h2⟩ => ?_
  subst e
  show wS _ [] _ _ [some (.s, ordD n t), some (.s, tabD m u)]
  unfold c_same_table
  have sz : ∀ b, fin spSameTab R .s (.bl b) [some (.s, ordD n t), some (.s, tabD m u)] ↔ R (.bl b) [.non, .non] := fun b => ⟨fun h => h.2, fun h => ⟨rfl, h⟩⟩
  rw [x_Sseq, x_Sret, x_Eand, x_Ecmp]
  refine prop_E t32 spSize_pm rfl ⟨n, t, rfl, ?_⟩
  simp only [x_Eb1, isP_b1, isP_var, x_Evar, at0, at1, x_fll, tabL_len, x_kcEq, x_keqi]
  by_cases e : n = m
  · subst e
    rw [if_pos (decide_eq_true rfl), x_Eone, x_Ecmp]
    simp only [isP_b1, x_Eb1, isP_meth]
    refine meth_E t33 spOPairs_pm rfl pairs_ns ?_
    simp only [x_An]
    refine ⟨n, t, rfl, ?_⟩
    simp only [x_frepr, isP_call]
    refine ⟨(show_prs hn).show (by decide) lim1, ?_⟩
    simp only [upd1_b, upd1_n, spOPairs_pm]
    rw [x_Ecall, t5]
    simp only [spPairs_pm, x_Ac, isBor_var, x_Evar, at0, at1, x_An]
    refine ⟨rfl, n, u, rfl, hn, ?_⟩
    simp only [upd1_b, upd1_n]
    refine ⟨(show_prs hn).show (by decide) lim1, ?_⟩
    simp only [x_kcEq]
    show eqD (.str _) (.str _) _
    unfold eqD
    simp only [sz]
    by_cases q : prs n t n = prs n u n
    · rw [q, decide_eq_true rfl]
      exact h1 ⟨rfl, q⟩
    · exact h2 (fun z => q z.2) _
  · rw [if_neg (by rw [decide_eq_true_eq]; omega)]
    exact (sz _).mpr (h2 (fun z => e z.1) _)
def spSame : FSpec := ⟨[.s, .s], .s, fun ds R => ∃ (n m : Nat) (t u : Nat → Nat → Bool), ds = [ordD n t, ordD m u] ∧ n ≤ 64 ∧ m ≤ 64 ∧ R (.bl (decide (n = m ∧ prs n t n = prs m u m))) [.non, .non]⟩
@[simp] theorem spSame_pm : spSame.pm = [.s, .s] := rfl
@[simp] theorem spSame_rm : spSame.rm = .s := rfl
theorem ok_same {T : List FSpec} (t32 : T[32]? = some spSize) (t33 : T[33]? = some spOPairs) : wD T spSame c_same 2 := by
  refine wD_of fun ds R ⟨n, m, t, u, e, hn, hm, h1⟩ => ?_
  subst e
  show wS _ [] _ _ [some (.s, ordD n t), some (.s, ordD m u)]
  unfold c_same
  have sz : ∀ b, fin spSame R .s (.bl b) [some (.s, ordD n t), some (.s, ordD m u)] ↔ R (.bl b) [.non, .non] := fun b => ⟨fun h => h.2, fun h => ⟨rfl, h⟩⟩
  rw [x_Sseq, x_Sret, x_Eand, x_Ecmp]
  refine prop_E t32 spSize_pm rfl ⟨n, t, rfl, ?_⟩
  simp only [isP_prop]
  refine prop_E t32 spSize_pm rfl ⟨m, u, rfl, ?_⟩
  simp only [x_kcEq, x_keqi]
  by_cases e : n = m
  · subst e
    rw [if_pos (decide_eq_true rfl), x_Eone, x_Ecmp]
    simp only [isP_meth]
    refine meth_E t33 spOPairs_pm rfl pairs_ns ?_
    simp only [x_An]
    refine ⟨n, t, rfl, ?_⟩
    simp only [upd1_b, upd1_n, spOPairs_pm]
    refine meth_E t33 spOPairs_pm rfl pairs_ns ?_
    simp only [x_An]
    refine ⟨n, u, rfl, ?_⟩
    simp only [upd1_b, upd1_n, spOPairs_pm, x_kcEq]
    refine x_eqlst ((show_prs hn).shp (by decide)) ((show_prs hn).shp (by decide)) ?_
    rw [show PyData.eqv (D.lst ((prs n t n).map pD)).toPy (D.lst ((prs n u n).map pD)).toPy = decide (prs n t n = prs n u n) from eqv_ps _ _]
    refine (sz _).mpr ?_
    have : decide (n = n ∧ prs n t n = prs n u n) = decide (prs n t n = prs n u n) := by simp
    rw [this] at h1
    exact h1
  · rw [if_neg (by rw [decide_eq_true_eq]; omega)]
    refine (sz _).mpr ?_
    rw [decide_eq_false (fun z => e z.1)] at h1
    exact h1
theorem prs_tab {n : Nat} {t u : Nat → Nat → Bool} : prs n t n = prs n u n ↔ ∀ i j, i < n → j < n → t i j = u i j := by
  constructor
  · intro h i j hi hj
    rw [Bool.eq_iff_iff]
    have h1 : (i, j) ∈ prs n t n ↔ (i, j) ∈ prs n u n := by rw [h]
    rw [prs_mem, prs_mem] at h1
    exact ⟨fun z => (h1.mp ⟨hi, hj, z⟩).2.2, fun z => (h1.mpr ⟨hi, hj, z⟩).2.2⟩
  · intro h
    unfold prs
    rw [List.flatMap_def, List.flatMap_def]
    congr 1
    refine List.map_congr_left fun i hi => ?_
    congr 1
    exact List.filter_congr fun j hj => h i j (List.mem_range.mp hi) (List.mem_range.mp hj)
/-! ### integers -/
def spIsInt : FSpec := ⟨[.s], .s, fun ds R => ∃ i : Int, ds = [.int i] ∧ R (.bl true) [.non]⟩
@[simp] theorem spIsInt_pm : spIsInt.pm = [.s] := rfl
@[simp] theorem spIsInt_rm : spIsInt.rm = .s := rfl
theorem ok_isint {T : List FSpec} : wD T spIsInt c_is_integer 1 := by
  refine wD_of fun ds R ⟨i, e, h⟩ => ?_
  subst e
  show wS _ [] _ _ [some (.s, .int i)]
  unfold c_is_integer
  simp
  refine ⟨rfl, ?_⟩
  exact ⟨rfl, h⟩
def spAreInts : FSpec := ⟨[.s], .s, fun ds R => ∃ (ns : List Nat) (x : D), ds = [x] ∧ (x = .lst (nsL ns) ∨ x = .tup (nsL ns)) ∧ ns.length ≤ 100000 ∧ R (.bl true) [.non]⟩
@[simp] theorem spAreInts_pm : spAreInts.pm = [.s] := rfl
@[simp] theorem spAreInts_rm : spAreInts.rm = .s := rfl
theorem ok_areints {T : List FSpec} (t44 : T[44]? = some spIsInt) : wD T spAreInts c_are_integers 2 := by
  refine wD_of fun ds R ⟨ns, x, e, hx, hl, h⟩ => ?_
  subst e
  show wS _ [] _ _ [some (.s, x), none]
  unfold c_are_integers
  have s1 : (1000000 : Nat) ≤ sizeLine := by decide
  rw [x_Sseq, x_Sret]
  simp only [x_Eb1, isP_comp]
  refine wE_compL ns (fun n : Nat => .int (n : Nat)) (fun _ => true) (fun _ => .bl true) (mx := .s) hx (fun R h => by simpa using h) (by simp) (by omega) (fun n _ Q hQ => by simpa using hQ) (fun n _ _ R hR => ?_) ?_
  · simp [t44]
    exact ⟨(n : Int), rfl, hR _ rfl⟩
  · simp
    refine ⟨ns.map fun _ => true, by rw [List.map_map, List.filter_eq_self.mpr (fun _ _ => rfl)]; rfl, rfl, ?_⟩
    have : (ns.map fun _ => true).all id = true := by simp
    rw [this]
    exact h
def spLower : FSpec := ⟨[.s, .s], .o .s, fun ds R => ∃ (n : Nat) (t : Nat → Nat → Bool) (i : Nat), ds = [tabD n t, .int (i : Nat)] ∧ n ≤ 64 ∧ i < n ∧ R (.lst (nsL ((List.range n).filter fun j => t j i))) [.non, .non]⟩
@[simp] theorem spLower_pm : spLower.pm = [.s, .s] := rfl
@[simp] theorem spLower_rm : spLower.rm = .o .s := rfl
theorem ok_lower {T : List FSpec} : wD T spLower c_lower 3 := by
  refine wD_of fun ds R ⟨n, t, i, e, hn, hi, h⟩ => ?_
  subst e
  show wS _ [] _ _ [some (.s, tabD n t), some (.s, .int i), none]
  unfold c_lower
  have s1 : (1000000 : Nat) ≤ sizeLine := by decide
  rw [x_Sseq, x_Sret]
  refine wE_compR (n := n) (fun j => t j i) (fun j => .int (j : Nat)) (fun R h => by simpa using h) (by omega) (by simp) (by simp) (fun j hj Q hQ => ?_) (fun j hj _ R hR => ?_) ?_
  · simp [atI_tab, atI_row, hi, hj]
    exact hQ
  · simp
    exact hR _ rfl
  · exact ⟨rfl, h⟩
end Y
namespace Y
open PySem PySem.Spec PyProof.Rows L2

/-! ### a & ~b -/
theorem and_half (a b : Nat) : (a &&& b) / 2 = (a / 2) &&& (b / 2) := by
  refine Nat.eq_of_testBit_eq fun i => ?_
  rw [Nat.testBit_and, ← Nat.testBit_succ, ← Nat.testBit_succ, ← Nat.testBit_succ, Nat.testBit_and]
theorem and_low (a b : Nat) : (a &&& b) % 2 ≤ a % 2 := by
  have h : (a &&& b).testBit 0 = (a.testBit 0 && b.testBit 0) := Nat.testBit_and _ _ _
  rw [Nat.testBit_zero, Nat.testBit_zero, Nat.testBit_zero] at h
  have h1 : (a &&& b) % 2 < 2 := Nat.mod_lt _ (by decide)
  have h2 : a % 2 < 2 := Nat.mod_lt _ (by decide)
  by_cases e : a % 2 = 1
  · omega
  · rw [decide_eq_false e, Bool.false_and, decide_eq_false_iff_not] at h
    omega
theorem bit_sub : ∀ (j a b : Nat), (a - (a &&& b)).testBit j = (a.testBit j && !b.testBit j)
  | 0, a, b => by
    have h : (a &&& b).testBit 0 = (a.testBit 0 && b.testBit 0) := Nat.testBit_and _ _ _
    rw [Nat.testBit_zero, Nat.testBit_zero, Nat.testBit_zero] at h
    rw [Nat.testBit_zero, Nat.testBit_zero, Nat.testBit_zero]
    have h1 : (a &&& b) % 2 < 2 := Nat.mod_lt _ (by decide)
    have h2 : a % 2 < 2 := Nat.mod_lt _ (by decide)
    have h3 : b % 2 < 2 := Nat.mod_lt _ (by decide)
    have le : a &&& b ≤ a := Nat.and_le_left
    by_cases ea : a % 2 = 1
    · by_cases eb : b % 2 = 1
      · rw [decide_eq_true ea, decide_eq_true eb] at h ⊢
        have := of_decide_eq_true h
        exact decide_eq_false (by omega)
      · rw [decide_eq_true ea, decide_eq_false eb] at h ⊢
        have := of_decide_eq_false h
        exact decide_eq_true (by omega)
    · rw [decide_eq_false ea, Bool.false_and] at h
      rw [decide_eq_false ea, Bool.false_and]
      have := of_decide_eq_false h
      exact decide_eq_false (by omega)
  | j + 1, a, b => by
    rw [Nat.testBit_succ, Nat.testBit_succ, Nat.testBit_succ, ← bit_sub j (a / 2) (b / 2), ← and_half]
    have le : a &&& b ≤ a := Nat.and_le_left
    have lo := and_low a b
    have e : (a - (a &&& b)) / 2 = a / 2 - (a &&& b) / 2 := by omega
    rw [e]
theorem band_not (a b : Nat) : Builtin.bitAnd (a : Int) (Builtin.bitNot (b : Int)) = ((a - (a &&& b) : Nat) : Int) := by
  have e1 : decide (0 ≤ (a : Int)) = true := decide_eq_true (by omega)
  have e2 : decide (0 ≤ Builtin.bitNot (b : Int)) = false := decide_eq_false (by unfold Builtin.bitNot; omega)
  have e3 : Builtin.bitNot (Builtin.bitNot (b : Int)) = (b : Int) := by unfold Builtin.bitNot; omega
  have le : a &&& b ≤ a := Nat.and_le_left
  unfold Builtin.bitAnd
  rw [e1, e2]
  show (a : Int) - (((a : Int).toNat &&& (Builtin.bitNot (Builtin.bitNot (b : Int))).toNat : Nat) : Int) = _
  rw [e3, Int.toNat_natCast, Int.toNat_natCast]
  omega

/-! ### lowest, highest -/
theorem up_zero {n i : Nat} {t : Nat → Nat → Bool} (hi : i < n) : nm (upM n t) i = 0 ↔ (List.range n).filter (t i) = [] := by
  rw [upM_nm hi]
  constructor
  · intro h
    refine List.filter_eq_nil_iff.mpr fun j hj z => ?_
    have := (upM_bit (n := n) (t := t) hi (j := j)).mpr ⟨List.mem_range.mp hj, z⟩
    rw [upM_nm hi, h, Nat.zero_testBit] at this
    cases this
  · intro h
    rw [h]
    rfl
def topB (n : Nat) (t : Nat → Nat → Bool) (i : Nat) : Bool := decide ((List.range n).filter (t i) = [])
theorem dec_top {n j : Nat} {u : Nat → Nat → Bool} (hj : j < n) : decide ((nm (upM n u) j : Int) = 0) = topB n u j := by
  unfold topB
  exact decide_eq_decide.mpr (by rw [← up_zero hj]; omega)
theorem dec_topN {n j : Nat} {u : Nat → Nat → Bool} (hj : j < n) : decide (nm (upM n u) j = 0) = topB n u j := decide_eq_decide.mpr (up_zero hj)
def spHighest : FSpec := ⟨[.s], .o .s, fun ds R => ∃ (n : Nat) (t : Nat → Nat → Bool), ds = [ordD n t] ∧ n ≤ 64 ∧ R (.lst (nsL ((List.range n).filter (topB n t)))) [.non]⟩
@[simp] theorem spHighest_pm : spHighest.pm = [.s] := rfl
@[simp] theorem spHighest_rm : spHighest.rm = .o .s := rfl
theorem ok_highest {T : List FSpec} : wD T spHighest c_Order_highest 2 := by
  refine wD_of fun ds R ⟨n, t, e, hn, h⟩ => ?_
  subst e
  show wS _ [] _ _ [some (.s, ordD n t), none]
  unfold c_Order_highest
  have s1 : (1000000 : Nat) ≤ sizeLine := by decide
  rw [x_Sseq, x_Sret]
  refine wE_compR (n := n) (topB n t) (fun j => .int (j : Nat)) (fun R hR => by simp [ordD]; exact hR) (by omega) (by simp) (by simp) (fun j hj Q hQ => ?_) (fun j hj _ R hR => ?_) ?_
  · simp [ordD, atI_nm, upM_len, hj]
    first
      | (rw [dec_top hj]; exact hQ)
      | (rw [dec_topN hj]; exact hQ)
  · simp
    exact hR _ rfl
  · exact ⟨rfl, h⟩
def spLowest : FSpec := ⟨[.s], .o .s, fun ds R => ∃ (n : Nat) (t : Nat → Nat → Bool), ds = [ordD n t] ∧ n ≤ 64 ∧ R (.lst (nsL ((List.range n).filter (topB n fun i j => t j i)))) [.non]⟩
@[simp] theorem spLowest_pm : spLowest.pm = [.s] := rfl
@[simp] theorem spLowest_rm : spLowest.rm = .o .s := rfl
theorem ok_lowest {T : List FSpec} : wD T spLowest c_Order_lowest 2 := by
  refine wD_of fun ds R ⟨n, t, e, hn, h⟩ => ?_
  subst e
  show wS _ [] _ _ [some (.s, ordD n t), none]
  unfold c_Order_lowest
  have s1 : (1000000 : Nat) ≤ sizeLine := by decide
  rw [x_Sseq, x_Sret]
  refine wE_compR (n := n) (topB n fun i j => t j i) (fun j => .int (j : Nat)) (fun R hR => by simp [ordD]; exact hR) (by omega) (by simp) (by simp) (fun j hj Q hQ => ?_) (fun j hj _ R hR => ?_) ?_
  · simp [ordD, atI_nm, upM_len, hj]
    first
      | (rw [dec_top hj]; exact hQ)
      | (rw [dec_topN hj]; exact hQ)
  · simp
    exact hR _ rfl
  · exact ⟨rfl, h⟩

/-! ### upper_covers, covers -/
theorem bits_of {n m : Nat} {p : Nat → Bool} (hn : n ≤ 64) (h : ∀ j, m.testBit j = (decide (j < n) && p j)) : bitsOf m = (List.range n).filter p := by
  unfold bitsOf
  have e : List.range 64 = List.range n ++ (List.range (64 - n)).map (n + ·) := by
    rw [← List.range_add]
    congr 1
    omega
  rw [e, List.filter_append]
  have e1 : (List.range n).filter (fun i => m.testBit i) = (List.range n).filter p := List.filter_congr fun x hx => by
    rw [h x, decide_eq_true (List.mem_range.mp hx), Bool.true_and]
  have e2 : ((List.range (64 - n)).map (n + ·)).filter (fun i => m.testBit i) = [] := List.filter_eq_nil_iff.mpr fun x hx z => by
    obtain ⟨y, _, rfl⟩ := List.mem_map.mp hx
    rw [h, decide_eq_false (by omega), Bool.false_and] at z
    cases z
  rw [e1, e2, List.append_nil]
def furB (n : Nat) (t : Nat → Nat → Bool) (hs : List Nat) (j : Nat) : Bool := hs.any fun k => decide (j < n) && t k j
def IvUC (n : Nat) (t : Nat → Nat → Bool) (i : Nat) (hs : List Nat) (k : Nat) (ρ : Env) : Prop := ∃ m v3, ρ = [some (.s, ordD n t), some (.s, .int (i : Nat)), some (.s, .int (m : Nat)), v3] ∧ m < 2 ^ 64 ∧ ∀ j, m.testBit j = furB n t (hs.take k) j
def spUpCov : FSpec := ⟨[.s, .s], .o .s, fun ds R => ∃ (n : Nat) (t : Nat → Nat → Bool) (i : Nat), ds = [ordD n t, .int (i : Nat)] ∧ n ≤ 64 ∧ i < n ∧ R (.lst (nsL ((List.range n).filter (covT n t i)))) [.non, .non]⟩
@[simp] theorem spUpCov_pm : spUpCov.pm = [.s, .s] := rfl
@[simp] theorem spUpCov_rm : spUpCov.rm = .o .s := rfl
theorem up_bitB {n i j : Nat} {t : Nat → Nat → Bool} (h : i < n) : (nm (upM n t) i).testBit j = (decide (j < n) && t i j) := by
  rw [Bool.eq_iff_iff, upM_bit h, Bool.and_eq_true, decide_eq_true_iff]
theorem ok_upcov {T : List FSpec} (t23 : T[23]? = some spElems) (t34 : T[34]? = some spAbove) : wD T spUpCov c_Order_upper_covers 4 := by
  refine wD_of fun ds R ⟨n, t, i, e, hn, hi, h⟩ => ?_
  subst e
  show wS _ [] _ _ [some (.s, ordD n t), some (.s, .int (i : Nat)), none, none]
  unfold c_Order_upper_covers
  have s1 : (1000000 : Nat) ≤ sizeLine := by decide
  refine x_do [some (.s, ordD n t), some (.s, .int (i : Nat)), some (.s, .int ((0 : Nat) : Int)), none] (fun k hk => by simp; exact hk) ?_
  generalize hhs : (List.range n).filter (t i) = hs
  have hlt : ∀ x ∈ hs, x < n := fun x hx => by
    rw [← hhs] at hx
    exact List.mem_range.mp (List.mem_filter.mp hx).1
  refine cut_seq (IvUC n t i hs hs.length) (fun ρ hρ => ?_) fun K hK => ?_
  · obtain ⟨m, v3, e, h1, h2⟩ := hρ
    subst e
    rw [List.take_length] at h2
    simp [t23, ordD, atI_nm, upM_len, hi]
    rw [band_not]
    have le : (nm (upM n t) i) - ((nm (upM n t) i) &&& m) < 2 ^ 64 := Nat.lt_of_le_of_lt (Nat.sub_le _ _) (mask_lt64 hn hi)
    refine ⟨_, rfl, le, ?_⟩
    have e : bitsOf ((nm (upM n t) i) - ((nm (upM n t) i) &&& m)) = (List.range n).filter (covT n t i) := bits_of hn fun j => by
      rw [bit_sub, up_bitB hi, h2]
      by_cases hj : j < n
      · rw [decide_eq_true hj, Bool.true_and, Bool.true_and]
        unfold covT furB
        rw [decide_eq_true hj]
        congr 2
        rw [← hhs, List.any_filter]
        simp
      · rw [decide_eq_false hj, Bool.false_and, Bool.false_and, Bool.false_and]
    rw [e]
    exact ⟨rfl, h⟩
  · refine wS_itr (IvUC n t i hs) (xs := nsL hs) (mx := .o .s) (.inl rfl) (fun R hR => ?_) ⟨0, _, rfl, by decide, fun j => by unfold furB; simp⟩ (fun k x ρ hx hρ => ?_) (fun ρ hI => hK _ (by rw [nsL_len] at hI; exact hI))
    · refine meth_E t34 rfl rfl above_ns ?_
      simp
      refine ⟨n, t, i, rfl, hn, hi, ?_⟩
      rw [hhs]
      exact hR
    · obtain ⟨m, v3, e, h1, h2⟩ := hρ
      subst e
      have hk : k < hs.length := by
        have := (List.getElem?_eq_some_iff.mp hx).1
        rw [nsL_len] at this
        exact this
      rw [nsL_get hk] at hx
      cases hx
      have hkn := hlt _ (List.getElem_mem hk)
      have ht : hs.take (k + 1) = hs.take k ++ [hs[k]] := by rw [List.take_succ, List.getElem?_eq_getElem hk]; rfl
      generalize hs[k] = y at hkn ht
      simp [ordD, atI_nm, upM_len, hkn]
      rw [bor]
      refine ⟨_, _, rfl, Nat.or_lt_two_pow h1 (mask_lt64 hn hkn), fun j => ?_⟩
      rw [Nat.testBit_or, h2, up_bitB hkn, ht]
      unfold furB
      rw [List.any_append]
      simp

/-! ### covers of the whole order -/
theorem upcov_ns : ("upper_covers" : Str) ∉ oNs := by decide +kernel
def IvOC (n : Nat) (t : Nat → Nat → Bool) (k : Nat) (ρ : Env) : Prop := ∃ v2 v3, ρ = [some (.s, ordD n t), some (.o .s, psD (prs n (covT n t) k)), v2, v3]
def spOCovers : FSpec := ⟨[.s], .o .s, fun ds R => ∃ (n : Nat) (t : Nat → Nat → Bool), ds = [ordD n t] ∧ n ≤ 64 ∧ R (psD (prs n (covT n t) n)) [.non]⟩
@[simp] theorem spOCovers_pm : spOCovers.pm = [.s] := rfl
@[simp] theorem spOCovers_rm : spOCovers.rm = .o .s := rfl
theorem ok_ocovers {T : List FSpec} (t39 : T[39]? = some spUpCov) : wD T spOCovers c_Order_covers 4 := by
  refine wD_of fun ds R ⟨n, t, e, hn, h⟩ => ?_
  subst e
  show wS _ [] _ _ [some (.s, ordD n t), none, none, none]
  unfold c_Order_covers
  have s1 : (1000000 : Nat) ≤ sizeLine := by decide
  refine x_do [some (.s, ordD n t), some (.o .s, psD (prs n (covT n t) 0)), none, none] (fun k hk => by simp; exact hk) ?_
  refine cut_seq (IvOC n t n) (fun ρ hρ => ?_) fun K hK => ?_
  · obtain ⟨v2, v3, e⟩ := hρ
    subst e
    simp
    exact ⟨rfl, h⟩
  · refine wS_rng1 (IvOC n t) (n := n) (fun R h => by simp [ordD]; exact h) (by omega) (by simp) ⟨_, _, rfl⟩ (fun k ρ hk ⟨v2, v3, e⟩ => ?_) (fun ρ hI => hK _ hI)
    subst e
    simp [psD]
    refine wE_compL ((List.range n).filter (covT n t k)) (fun j : Nat => .int (j : Nat)) (fun _ => true) (fun j => D.tup [.int (k : Nat), .int (j : Nat)]) (mx := .o .s) (.inl rfl) (fun R hR => ?_) (by simp) ?_ (fun j hj Q hQ => ?_) (fun j hj _ R hR => ?_) ?_
    · refine meth_E t39 rfl rfl upcov_ns ?_
      simp
      exact ⟨n, t, k, rfl, hn, hk, hR⟩
    · have := List.length_filter_le (covT n t k) (List.range n)
      rw [List.length_range] at this
      omega
    · rw [x_Cn]
      exact hQ
    · simp
      exact ⟨by omega, hR _ rfl⟩
    · simp
      refine ⟨prs_bound hn (by omega), ?_⟩
      rw [prs_map]
      exact ⟨_, _, rfl⟩

/-! ### what stands apart -/
theorem ones_bit (n j : Nat) : (2 ^ n - 1).testBit j = decide (j < n) := Nat.testBit_two_pow_sub_one n j
theorem xor_sub (a b : Nat) (h : ∀ j, b.testBit j = true → a.testBit j = true) : Builtin.bitXor (a : Int) (b : Int) = ((a - (a &&& b) : Nat) : Int) := by
  have e : a ||| b = a := Nat.eq_of_testBit_eq fun j => by
    rw [Nat.testBit_or]
    cases hb : b.testBit j with
    | false => rw [Bool.or_false]
    | true => rw [h j hb]; rfl
  have le : a &&& b ≤ a := Nat.and_le_left
  unfold Builtin.bitXor
  rw [bor, e]
  have e1 : decide (0 ≤ (a : Int)) = true := decide_eq_true (by omega)
  have e2 : decide (0 ≤ (b : Int)) = true := decide_eq_true (by omega)
  unfold Builtin.bitAnd
  rw [e1, e2]
  show (a : Int) - (((a : Int).toNat &&& (b : Int).toNat : Nat) : Int) = _
  rw [Int.toNat_natCast, Int.toNat_natCast]
  omega
def apT (t : Nat → Nat → Bool) (i j : Nat) : Bool := !(t i j || t j i || decide (j = i))
def spApMask : FSpec := ⟨[.s, .s], .s, fun ds R => ∃ (n : Nat) (t : Nat → Nat → Bool) (i : Nat), ds = [ordD n t, .int (i : Nat)] ∧ n ≤ 64 ∧ i < n ∧ ∀ m : Nat, m < 2 ^ 64 → (∀ j, m.testBit j = (decide (j < n) && apT t i j)) → R (.int (m : Nat)) [.non, .non]⟩
@[simp] theorem spApMask_pm : spApMask.pm = [.s, .s] := rfl
@[simp] theorem spApMask_rm : spApMask.rm = .s := rfl
theorem ok_apmask {T : List FSpec} : wD T spApMask c_Order_apart_mask 3 := by
  refine wD_of fun ds R ⟨n, t, i, e, hn, hi, h⟩ => ?_
  subst e
  show wS _ [] _ _ [some (.s, ordD n t), some (.s, .int (i : Nat)), none]
  unfold c_Order_apart_mask
  have s1 : (1000000 : Nat) ≤ sizeLine := by decide
  simp [ordD, atI_nm, upM_len, hi]
  have c2 : ∀ k : Nat, k ≤ 64 → CPow 1 (k : Int) := fun k hk => ⟨by omega, by omega, by decide⟩
  refine ⟨c2 n hn, c2 i (by omega), ?_⟩
  have p1 : (2 : Int) ^ n - 1 = ((2 ^ n - 1 : Nat) : Int) := by
    have h1 : (1 : Nat) ≤ 2 ^ n := Nat.one_le_two_pow
    rw [Int.ofNat_sub h1]
    simp
  have p2 : (2 : Int) ^ i = ((2 ^ i : Nat) : Int) := by simp
  rw [p1, p2, bor, bor]
  have hb : ∀ j, ((nm (upM n t) i ||| nm (upM n fun i j => t j i) i) ||| 2 ^ i).testBit j = ((decide (j < n) && t i j) || (decide (j < n) && t j i) || decide (i = j)) := fun j => by
    rw [Nat.testBit_or, Nat.testBit_or, up_bitB hi, up_bitB hi, Nat.testBit_two_pow]
  rw [xor_sub _ _ fun j hj => by
    rw [ones_bit]
    rw [hb] at hj
    cases hd : decide (j < n) with
    | true => rfl
    | false =>
      rw [hd] at hj
      have := of_decide_eq_false hd
      have hij : ¬ i = j := by omega
      rw [decide_eq_false hij] at hj
      exact hj]
  refine ⟨rfl, h _ (Nat.lt_of_le_of_lt (Nat.sub_le _ _) ?_) fun j => ?_⟩
  · have : (2 : Nat) ^ n ≤ 2 ^ 64 := Nat.pow_le_pow_right (by decide) hn
    have : (1 : Nat) ≤ 2 ^ n := Nat.one_le_two_pow
    omega
  · rw [bit_sub, ones_bit, hb]
    unfold apT
    have e : decide (j = i) = decide (i = j) := decide_eq_decide.mpr ⟨Eq.symm, Eq.symm⟩
    rw [e]
    cases decide (j < n) <;> cases t i j <;> cases t j i <;> cases decide (i = j) <;> rfl
end Y
namespace Y
open PySem PySem.Spec PyProof.Rows L2

theorem nm_in {r : List Nat} {n k : Nat} (h : ∀ x ∈ r, x < n) (hk : k < r.length) : nm r k < n := h _ (nm_mem hk)
theorem sum_ge : ∀ {l : List Nat} {x : Nat}, x ∈ l → x ≤ l.sum
  | [], x, h => nomatch h
  | a :: l, x, h => by
    rw [List.sum_cons]
    rcases List.mem_cons.mp h with rfl | h
    · omega
    · have := sum_ge h
      omega
theorem Ord.dual {n : Nat} {t : Nat → Nat → Bool} (h : Ord n t) : Ord n fun i j => t j i := by
  obtain ⟨r, hr⟩ := h.rk
  refine ⟨fun i j k hi hj hk h1 h2 => h.tr k j i hk hj hi h2 h1, fun i => ((List.range n).map r).sum - r i, fun i j hi hj h1 => ?_⟩
  have h2 := hr j i hj hi h1
  have h3 : r i ≤ ((List.range n).map r).sum := sum_ge (List.mem_map.mpr ⟨i, List.mem_range.mpr hi, rfl⟩)
  show _ - r i < _ - r j
  omega
theorem Ord.pull {n k : Nat} {t : Nat → Nat → Bool} (h : Ord n t) {f : Nat → Nat} (hf : ∀ i, i < k → f i < n) : Ord k fun i j => t (f i) (f j) := by
  obtain ⟨r, hr⟩ := h.rk
  exact ⟨fun i j l hi hj hl h1 h2 => h.tr _ _ _ (hf i hi) (hf j hj) (hf l hl) h1 h2, fun i => r (f i), fun i j hi hj h1 => hr _ _ (hf i hi) (hf j hj) h1⟩
theorem prs_few {n : Nat} {t : Nat → Nat → Bool} (hn : n ≤ 64) : (prs n t n).length ≤ 10000 := by
  have h1 := prs_len (n := n) (t := t) (k := n)
  have h2 : n * n ≤ 64 * 64 := Nat.mul_le_mul hn hn
  omega
theorem tells_prs {n : Nat} {t : Nat → Nat → Bool} (hn : n ≤ 64) : Tells n t (prs n t n) :=
  ⟨fun p hp => prs_mem.mp hp, fun i j hi hj hc => prs_mem.mpr ⟨hi, hj, (Bool.and_eq_true_iff.mp hc).1⟩, prs_few hn⟩
theorem psD_map {ps : List (Nat × Nat)} {f : Nat × Nat → Nat × Nat} : D.lst (ps.map fun p => pD (f p)) = psD (ps.map f) := by
  unfold psD
  rw [List.map_map]
  rfl
/-- a comprehension over pairs, two names -/
theorem wE_comp2 {T : List FSpec} {pn : List Nat} {e elt : C} {ρ : Env} {i j : Nat} {s1 s2 : Str} {R : M → D → Env → Prop} (ps : List (Nat × Nat)) (f : Nat × Nat → Nat × Nat) {mx : M} (hI : ∀ R : M → D → Env → Prop, R mx (psD ps) ρ → wE T pn e R ρ)
    (hi : i ∉ pn) (hj : j ∉ pn) (hl : ps.length ≤ sizeLine) (hij : i ≠ j)
    (he : ∀ p ∈ ps, ∀ R : M → D → Env → Prop, (∀ m', R m' (pD (f p)) ((ρ.set i (some (.s, .int (p.1 : Nat)))).set j (some (.s, .int (p.2 : Nat))))) → wE T pn elt R ((ρ.set i (some (.s, .int (p.1 : Nat)))).set j (some (.s, .int (p.2 : Nat)))))
    (h : R (.o .s) (psD (ps.map f)) ρ) : wE T pn (.comp .s [(s1, i), (s2, j)] (.tt (.cons (.tn i) (.cons (.tn j) .nil))) (.itr e) .nil elt) R ρ := by
  refine wE_compA (own := [(s1, i), (s2, j)]) ps pD (fun _ => true) (fun p => pD (f p)) (fun p => (ρ.set i (some (.s, .int (p.1 : Nat)))).set j (some (.s, .int (p.2 : Nat)))) (fun R hR => ?_) (fun v hv => ?_) hl (fun p hp R hR => ?_) (fun p hp Q hQ => by rw [x_Cn]; exact hQ) (fun p hp _ R hR => he p hp R fun m' => hR m' (cst_s m')) (fun p hp => ?_) ?_
  · rw [x_Iitr]
    exact hI _ hR
  · have : v = i ∨ v = j := by simpa using hv
    rcases this with rfl | rfl
    · exact hi
    · exact hj
  · show wG T pn (.tt _) (.tup _) R (((ρ.set j none).set i none))
    simp only [x_Gt, x_Gsc, x_Gn, x_Gsn, len_cons, len_nil, List.length_cons, List.length_nil]
    refine ⟨trivial, hi, hj, trivial, ?_⟩
    have e : ((((ρ.set j none).set i none).set i (some (M.s, D.int (p.1 : Nat)))).set j (some (M.s, D.int (p.2 : Nat)))) = (ρ.set i (some (.s, .int (p.1 : Nat)))).set j (some (.s, .int (p.2 : Nat))) := by
      rw [List.set_set, List.set_comm _ _ (Ne.symm hij), List.set_set]
    rw [e]
    exact hR
  · show (((ρ.set i _).set j _).set j none).set i none = (ρ.set j none).set i none
    rw [List.set_set, List.set_comm _ _ (Ne.symm hij), List.set_set, List.set_comm _ _ hij]
  · rw [List.filter_eq_self.mpr (fun _ _ => rfl), psD_map]
    exact h
theorem run_made {n : Nat} {t : Nat → Nat → Bool} {qs : List (Nat × Nat)} {P : D → List D → Prop} (hn : n ≤ 40) (ho : Ord n t) (hs : ∀ p ∈ qs, p.1 < n ∧ p.2 < n ∧ t p.1 p.2 = true) (ha : ∀ i j, i < n → j < n → t i j = true → (i, j) ∈ qs) (hl : qs.length ≤ 10000) (h : P (ordD n t) [.non, .non]) : spInit.run [.int n, psD qs] P :=
  run_order hn ho ⟨hs, fun i j hi hj hc => ha i j hi hj (Bool.and_eq_true_iff.mp hc).1, hl⟩ h
def spNear : FSpec := ⟨[.o .s, .s], .s, fun ds R => ∃ (z : St3) (n : Nat), ds = [stD z, .int n] ∧ 2 ≤ n ∧ n ≤ 64 ∧ ∀ z' t, Ord n t → R (tabD n t) [stD z', .non]⟩
@[simp] theorem spNear_pm : spNear.pm = [.o .s, .s] := rfl
@[simp] theorem spNear_rm : spNear.rm = .s := rfl
def IvNr (n : Nat) (ns : List Nat) (k : Nat) (ρ : Env) : Prop := ∃ z ps v4, ρ = [some (.o .s, stD z), some (.s, .int (n : Nat)), some (.s, .lst (nsL ns)), some (.o .s, psD ps), v4] ∧ ps.length ≤ 64 + k ∧ Up n ns ps
theorem ok_near {T : List FSpec} (t2 : T[2]? = some spDraw) (t3 : T[3]? = some spMixed) (t4 : T[4]? = some spClosed) : wD T spNear c_near_chain 5 := by
  refine wD_of fun ds R ⟨z, n, e, hn2, hn, h⟩ => ?_
  subst e
  show wS _ [0] _ _ [some (.o .s, stD z), some (.s, .int n), none, none, none]
  unfold c_near_chain
  have s1 : (1000000 : Nat) ≤ sizeLine := by decide
  have s2 : 2 ≤ sizeLine := by decide
  simp [t3]
  refine ⟨by omega, run_row (by omega) fun z1 ns hns => ?_⟩
  simp
  have e2 : (n : Int) - 2 = ((n - 2 : Nat) : Int) := by omega
  have e1 : (n : Int) - 1 = ((n - 1 : Nat) : Int) := by omega
  refine wE_compR0 (n := n - 2) (fun k => pD (nm ns k, nm ns (k + 2))) (fun R h => by simp; rw [e2]; exact h) (by omega) (by simp) (by simp) (fun k hk R hR => ?_) ?_
  · have h1 : k < n := by omega
    have h2 : k + 2 < n := by omega
    have e3 : (k : Int) + 2 = ((k + 2 : Nat) : Int) := by omega
    simp [hns.get h1]
    rw [e3, hns.get h2]
    exact ⟨_, rfl, s2, hR _ rfl⟩
  · simp
    have e4 : ((List.range (n - 2)).map fun k => pD (nm ns k, nm ns (k + 2))) = ((List.range (n - 2)).map fun k => (nm ns k, nm ns (k + 2))).map pD := by rw [List.map_map]; rfl
    rw [e4]
    generalize hqs : ((List.range (n - 2)).map fun k => (nm ns k, nm ns (k + 2))) = qs
    have hql : qs.length ≤ 64 := by rw [← hqs, List.length_map, List.length_range]; omega
    have hup : Up n ns qs := fun p hp => by
      rw [← hqs] at hp
      obtain ⟨k, hk, rfl⟩ := List.mem_map.mp hp
      have hk := List.mem_range.mp hk
      refine ⟨hns.lt (by omega), hns.lt (by omega), ?_⟩
      show ns.idxOf (nm ns k) < ns.idxOf (nm ns (k + 2))
      rw [hns.idx (by omega), hns.idx (by omega)]
      omega
    refine wS_rng1 (IvNr n ns) (n := n - 1) (fun R h => by simp; rw [e1]; exact h) (by omega) (by simp) ⟨z1, qs, _, rfl, by omega, hup⟩ (fun k ρ hk ⟨z3, ps, v4, e, h1, h2⟩ => ?_) (fun ρ ⟨z3, ps, v4, e, h1, h2⟩ => ?_)
    · subst e
      simp [t2]
      refine run_draw (by omega) (by omega) fun r z5 hr => ?_
      simp
      split
      · have g1 : k < n := by omega
        have g2 : k + 1 < n := by omega
        have e3 : (k : Int) + 1 = ((k + 1 : Nat) : Int) := by omega
        simp [psD, hns.get g1]
        rw [e3, hns.get g2]
        have : ps.length < sizeLine := by omega
        refine ⟨this, _, rfl, s2, this, ?_⟩
        rw [psD_app]
        exact ⟨z5, _, _, rfl, by rw [List.length_append]; show _ + 1 ≤ _; omega, h2.app hns (by omega) g2⟩
      · exact ⟨z5, ps, _, rfl, by omega, h2⟩
    · subst e
      simp [t4]
      refine run_closed hn ⟨by omega, fun x => ns.idxOf x, h2⟩ fun t ht _ => ?_
      simp
      exact ⟨rfl, rfl, h z3 t ht⟩

theorem wE_comp2g {T : List FSpec} {pn : List Nat} {e elt : C} {ρ : Env} {i j : Nat} {s1 s2 : Str} {R : M → D → Env → Prop} (ps : List (Nat × Nat)) (f : Nat × Nat → D) {mx : M} (hI : ∀ R : M → D → Env → Prop, R mx (psD ps) ρ → wE T pn e R ρ)
    (hi : i ∉ pn) (hj : j ∉ pn) (hl : ps.length ≤ sizeLine) (hij : i ≠ j)
    (he : ∀ p ∈ ps, ∀ R : M → D → Env → Prop, (∀ m', R m' (f p) ((ρ.set i (some (.s, .int (p.1 : Nat)))).set j (some (.s, .int (p.2 : Nat))))) → wE T pn elt R ((ρ.set i (some (.s, .int (p.1 : Nat)))).set j (some (.s, .int (p.2 : Nat)))))
    (h : R (.o .s) (.lst (ps.map f)) ρ) : wE T pn (.comp .s [(s1, i), (s2, j)] (.tt (.cons (.tn i) (.cons (.tn j) .nil))) (.itr e) .nil elt) R ρ := by
  refine wE_compA (own := [(s1, i), (s2, j)]) ps pD (fun _ => true) f (fun p => (ρ.set i (some (.s, .int (p.1 : Nat)))).set j (some (.s, .int (p.2 : Nat)))) (fun R hR => ?_) (fun v hv => ?_) hl (fun p hp R hR => ?_) (fun p hp Q hQ => by rw [x_Cn]; exact hQ) (fun p hp _ R hR => he p hp R fun m' => hR m' (cst_s m')) (fun p hp => ?_) ?_
  · rw [x_Iitr]
    exact hI _ hR
  · have : v = i ∨ v = j := by simpa using hv
    rcases this with rfl | rfl
    · exact hi
    · exact hj
  · show wG T pn (.tt _) (.tup _) R (((ρ.set j none).set i none))
    simp only [x_Gt, x_Gsc, x_Gn, x_Gsn, len_cons, len_nil, List.length_cons, List.length_nil]
    refine ⟨trivial, hi, hj, trivial, ?_⟩
    have e : ((((ρ.set j none).set i none).set i (some (M.s, D.int (p.1 : Nat)))).set j (some (M.s, D.int (p.2 : Nat)))) = (ρ.set i (some (.s, .int (p.1 : Nat)))).set j (some (.s, .int (p.2 : Nat))) := by
      rw [List.set_set, List.set_comm _ _ (Ne.symm hij), List.set_set]
    rw [e]
    exact hR
  · show (((ρ.set i _).set j _).set j none).set i none = (ρ.set j none).set i none
    rw [List.set_set, List.set_comm _ _ (Ne.symm hij), List.set_set, List.set_comm _ _ hij]
  · rw [List.filter_eq_self.mpr (fun _ _ => rfl)]
    exact h

/-! ### sorted by a key -/
theorem rng_nsL (n : Nat) : rangeD 0 1 n = nsL (List.range n) := by
  unfold rangeD nsL
  refine List.map_congr_left fun i _ => ?_
  rw [Int.zero_add, Int.mul_one]
theorem srt_ints {xs : List D} {key : D → PyData} (h : ∀ x ∈ xs, ∃ i : Int, key x = .int i) (hl : xs.length ≤ sizeLine) : srtD xs key := by
  refine ⟨fun d hd d' hd' => ?_, .inr fun d hd => ?_, fun x hx => ?_, hl⟩
  · obtain ⟨x, hx, rfl⟩ := List.mem_map.mp hd
    obtain ⟨y, hy, rfl⟩ := List.mem_map.mp hd'
    obtain ⟨i, e⟩ := h x hx
    obtain ⟨j, e'⟩ := h y hy
    rw [e, e']
    simp [PySem.W.alike]
  · obtain ⟨x, hx, rfl⟩ := List.mem_map.mp hd
    obtain ⟨i, e⟩ := h x hx
    rw [e]
    exact ⟨nofun, nofun⟩
  · obtain ⟨i, e⟩ := h x hx
    rw [e]
    simp [PyData.depth]
def natKey (kf : Nat → Int) : D → PyData
  | .int i => .int (kf i.toNat)
  | _ => .int 0
theorem sort_ns (l : List Nat) (kf : Nat → Int) : (nsL l).mergeSort (PySem.W.dataLe false (natKey kf)) = nsL (l.mergeSort fun a b => decide (kf a ≤ kf b)) := by
  unfold nsL
  refine (List.map_mergeSort fun a _ b _ => ?_).symm
  rw [PySem.W.dataLe_eq]
  show decide (kf a ≤ kf b) = !PySem.W.dataLt (.int (kf b)) (.int (kf a))
  rw [PySem.W.dataLt_int, PySem.W.not_lt_int]
section
variable {T : List FSpec} {pn : List Nat} {ρ : Env} {i : Nat} {a b : C} {R : M → D → Env → Prop}
/-- sorted(xs, key=..), xs a list of elements, the key an int -/
theorem wE_sortK (l : List Nat) (kf : Nat → Int) (mx : M) (ha : ∀ R : M → D → Env → Prop, R mx (.lst (nsL l)) ρ → wE T pn a R ρ) (hi : i ∉ pn) (hl : l.length ≤ sizeLine)
    (hk : ∀ x ∈ l, ∀ R : M → D → Env → Prop, R .s (.int (kf x)) (ρ.set i (some (.s, .int (x : Nat)))) → wE T pn b R (ρ.set i (some (.s, .int (x : Nat)))))
    (h : R (.o .s) (.lst (nsL (l.mergeSort fun a b => decide (kf a ≤ kf b)))) ρ) : wE T pn (.sortK i a b) R ρ := by
  rw [x_EsortK]
  refine ha _ ⟨hi, natKey kf, srt_ints (fun x hx => ?_) (by rw [nsL_len]; exact hl), fun x hx => ?_, ?_⟩
  · obtain ⟨y, hy, rfl⟩ := List.mem_map.mp hx
    exact ⟨_, rfl⟩
  · obtain ⟨y, hy, rfl⟩ := List.mem_map.mp hx
    exact hk y hy _ ⟨rfl, rfl, List.set_set ..⟩
  · rw [sort_ns]
    exact h
theorem wE_sortR (n : Nat) (kf : Nat → Int) (hn : n ≤ 16777216) (ha : ∀ R : M → D → Env → Prop, R .s (.int (n : Nat)) ρ → wE T pn a R ρ) (hi : i ∉ pn)
    (hk : ∀ x, x < n → ∀ R : M → D → Env → Prop, R .s (.int (kf x)) (ρ.set i (some (.s, .int (x : Nat)))) → wE T pn b R (ρ.set i (some (.s, .int (x : Nat)))))
    (h : R (.o .s) (.lst (nsL ((List.range n).mergeSort fun a b => decide (kf a ≤ kf b)))) ρ) : wE T pn (.sortR i a b) R ρ := by
  rw [x_EsortR]
  refine ha _ ⟨by omega, by omega, hi, natKey kf, ?_, fun x hx => ?_, ?_⟩
  · rw [Int.toNat_natCast, rng_nsL]
    refine srt_ints (fun x hx => ?_) (by rw [nsL_len, List.length_range, sizeLine_eq]; omega)
    obtain ⟨y, hy, rfl⟩ := List.mem_map.mp hx
    exact ⟨_, rfl⟩
  · rw [Int.toNat_natCast, rng_nsL] at hx
    obtain ⟨y, hy, rfl⟩ := List.mem_map.mp hx
    exact hk y (List.mem_range.mp hy) _ ⟨rfl, rfl, List.set_set ..⟩
  · rw [Int.toNat_natCast, rng_nsL, sort_ns]
    exact h
end
theorem sorted_le {l : List Nat} {kf : Nat → Int} : (l.mergeSort fun a b => decide (kf a ≤ kf b)).Pairwise fun a b => kf a ≤ kf b := by
  have := List.pairwise_mergeSort (le := fun a b => decide (kf a ≤ kf b)) (fun a b c h1 h2 => by simp only [decide_eq_true_eq] at *; omega) (fun a b => by simp only [Bool.or_eq_true, decide_eq_true_eq]; omega) l
  exact this.imp fun h => of_decide_eq_true h
theorem sorted_pm {l : List Nat} {kf : Nat → Int} : (l.mergeSort fun a b => decide (kf a ≤ kf b)).Perm l := List.mergeSort_perm _ _
/-! ### a loop that counts down -/
theorem rngD_get {lo c : Int} {n k : Nat} {x : D} (h : (rangeD lo c n)[k]? = some x) : k < n ∧ x = .int (lo + (k : Nat) * c) := by
  unfold rangeD at h
  rw [List.getElem?_map] at h
  cases q : (List.range n)[k]? with
  | none =>
    rw [q] at h
    cases h
  | some y =>
    rw [q] at h
    obtain ⟨h1, h2⟩ := List.getElem?_eq_some_iff.mp q
    rw [List.length_range] at h1
    rw [List.getElem_range] at h2
    subst h2
    cases h
    exact ⟨h1, rfl⟩
theorem wS_down {T : List FSpec} {pn : List Nat} {a b c body : C} {i : Nat} {nx : Env → Prop} {rt : M → D → Env → Prop} {bk ct : Env → Prop} {ρ : Env} (Inv : Nat → Env → Prop) {lo n : Nat}
    (ha : ∀ R : M → D → Env → Prop, R .s (.int ((lo : Int) + n - 1)) ρ → wE T pn a R ρ) (hb : ∀ R : M → D → Env → Prop, R .s (.int ((lo : Int) - 1)) ρ → wE T pn b R ρ) (hc : ∀ R : M → D → Env → Prop, R .s (.int (-1)) ρ → wE T pn c R ρ)
    (hl : lo + n < 2 ^ 60) (hi : i ∉ pn) (h0 : Inv 0 ρ)
    (hs : ∀ m ρ2, m < n → Inv m ρ2 → wS T pn body ⟨Inv (m + 1), rt, nx, Inv (m + 1)⟩ (ρ2.set i (some (.s, .int ((lo + (n - 1 - m) : Nat)))))) (he : ∀ ρ2, Inv n ρ2 → nx ρ2) :
    wS T pn (.for_ (.tn i) (.rng3 a b c) body) ⟨nx, rt, bk, ct⟩ ρ := by
  refine wS_for ?_
  rw [x_Irng3]
  refine ha _ (hb _ (hc _ ?_))
  dsimp only
  have hr : RgC ((lo : Int) + n - 1) ((lo : Int) - 1) (-1) n := by
    have := RgC.neg (i := (lo : Int) + n - 1) (j := (lo : Int) - 1) (by omega) (by omega) (by omega) (by omega)
    have e : (((lo : Int) + n - 1) - ((lo : Int) - 1)).toNat = n := by omega
    rw [e] at this
    exact this
  refine ⟨n, hr, Inv, h0, fun m x ρ2 hx hI => ?_, fun ρ2 hI => he ρ2 ?_⟩
  · obtain ⟨hm, rfl⟩ := rngD_get hx
    rw [x_Gn]
    have e : (lo : Int) + n - 1 + (m : Nat) * (-1) = ((lo + (n - 1 - m) : Nat) : Int) := by omega
    rw [e]
    exact ⟨hi, hs m ρ2 hm hI⟩
  · have : (rangeD ((lo : Int) + n - 1) (-1) n).length = n := by
      unfold rangeD
      rw [List.length_map, List.length_range]
    rw [this] at hI
    exact hI

theorem nm_at {oth : List Nat} {k : Nat} (hk : k < oth.length) : oth[k] = nm oth k := by
  unfold nm
  rw [List.getD_eq_getElem?_getD, List.getElem?_eq_getElem hk]
  rfl
@[simp] theorem sl1 : 1 ≤ sizeLine := by decide
@[simp] theorem sl2 : 2 ≤ sizeLine := by decide
@[simp] theorem sl3 : 3 ≤ sizeLine := by decide
@[simp] theorem sl4 : 4 ≤ sizeLine := by decide
theorem nsL_nm {hs : List Nat} {j : Nat} (h : j < hs.length) : (nsL hs)[j]? = some (.int (nm hs j : Nat)) := by
  rw [nsL_get h, nm_at h]
theorem nsL_item {hs : List Nat} {k : Nat} {x : D} (h : (nsL hs)[k]? = some x) : k < hs.length ∧ x = .int (nm hs k : Nat) := by
  have hk : k < hs.length := by
    have := (List.getElem?_eq_some_iff.mp h).1
    rw [nsL_len] at this
    exact this
  rw [nsL_nm hk] at h
  exact ⟨hk, (Option.some.inj h).symm⟩
theorem nm_take {hs : List Nat} {k : Nat} {x : Nat} (h : x ∈ hs.take (k + 1)) (hk : k < hs.length) : x ∈ hs.take k ∨ x = nm hs k := by
  rw [List.take_add_one, List.getElem?_eq_getElem hk] at h
  rcases List.mem_append.mp h with h | h
  · exact .inl h
  · rw [← nm_at hk]
    exact .inr (by simpa using h)
theorem nsL_snoc {hs : List Nat} {x : Nat} : nsL hs ++ [.int (x : Nat)] = nsL (hs ++ [x]) := by
  unfold nsL
  rw [List.map_append]
  rfl
theorem nm_rev {cs : List Nat} {k : Nat} (hk : k < cs.length) : nm cs.reverse k = nm cs (cs.length - 1 - k) := by
  rw [← nm_at (by rw [List.length_reverse]; exact hk), List.getElem_reverse, nm_at]
theorem nm_app {cs : List Nat} {x k : Nat} (h : k ≤ cs.length) : nm (cs ++ [x]) k = if k < cs.length then nm cs k else x := by
  by_cases hk : k < cs.length
  · rw [if_pos hk, ← nm_at (by rw [List.length_append]; omega), List.getElem_append_left hk, nm_at]
  · have e : k = cs.length := by omega
    subst e
    rw [if_neg hk, ← nm_at (by simp), List.getElem_append_right (Nat.le_refl _)]
    simp
theorem dec_nat {a b : Nat} : decide ((a : Int) = (b : Int)) = decide (a = b) := decide_eq_decide.mpr Int.ofNat_inj
theorem dec_natlt {a b : Nat} : decide ((a : Int) < (b : Int)) = decide (a < b) := decide_eq_decide.mpr Int.ofNat_lt
theorem dec_natle {a b : Nat} : decide ((a : Int) ≤ (b : Int)) = decide (a ≤ b) := decide_eq_decide.mpr Int.ofNat_le
theorem atI_cons0 {α : Type} {x : α} {r : List α} : atI (x :: r) 0 = some x := by
  rw [atI_int (Int.le_refl _) (by simp)]
  rfl
@[simp] theorem cm_lst {xs : List D} : (D.lst xs).common = true := rfl
@[simp] theorem cm_tup {xs : List D} : (D.tup xs).common = true := rfl
@[simp] theorem cm_int {i : Int} : (D.int i).common = true := rfl
@[simp] theorem cm_str {i : Str} : (D.str i).common = true := rfl
@[simp] theorem cm_bl {i : Bool} : (D.bl i).common = true := rfl
@[simp] theorem cm_non : D.non.common = true := rfl
@[simp] theorem ty_l1 {xs : List D} : isTy .list (.lst xs) = true := rfl
@[simp] theorem ty_l2 {xs : List D} : isTy .list (.tup xs) = false := rfl
@[simp] theorem ty_t1 {xs : List D} : isTy .tuple (.tup xs) = true := rfl
@[simp] theorem ty_t2 {xs : List D} : isTy .tuple (.lst xs) = false := rfl
@[simp] theorem ty_i1 {i : Int} : isTy .int (.int i) = true := rfl
@[simp] theorem ty_b1 {i : Bool} : isTy .bool (.bl i) = true := rfl
@[simp] theorem ty_b2 {i : Int} : isTy .bool (.int i) = false := rfl
theorem sixty : (64 : Nat) ≤ 2 ^ 60 := by decide
theorem small_of {n x : Nat} (h : x < n) (hn : n ≤ 64) : x < 2 ^ 60 := Nat.lt_of_lt_of_le h (Nat.le_trans hn sixty)
/-- a comprehension over range(a), a whole number that may be below 0 -/
theorem wE_compZ {T : List FSpec} {pn : List Nat} {a cond elt : C} {ρ : Env} {i : Nat} {m : M} {s : Str} {R : M → D → Env → Prop} {z : Int} {n : Nat} (p : Nat → Bool) (f : Nat → D) (hz : z.toNat = n) (ha : ∀ R : M → D → Env → Prop, R .s (.int z) ρ → wE T pn a R ρ) (hn : n ≤ sizeLine) (h0 : -1000000000 ≤ z) (hi : i ∉ pn) (hl : i < ρ.length)
    (hc : ∀ k, k < n → ∀ Q : Bool → Env → Prop, Q (p k) (ρ.set i (some (.s, .int k))) → wC T pn cond Q (ρ.set i (some (.s, .int k))))
    (he : ∀ k, k < n → p k = true → ∀ R : M → D → Env → Prop, (∀ m', cst m' m = true → R m' (f k) (ρ.set i (some (.s, .int k)))) → wE T pn elt R (ρ.set i (some (.s, .int k))))
    (h : R (.o m) (.lst (((List.range n).filter p).map f)) ρ) : wE T pn (.comp m [(s, i)] (.tn i) (.rng1 a) cond elt) R ρ := by
  refine wE_compA (own := [(s, i)]) (List.range n) (fun k => .int (k : Nat)) p f (fun k => ρ.set i (some (.s, .int (k : Nat)))) (fun R hR => ?_) (fun v hv => ?_) (by rw [List.length_range]; exact hn) (fun x hx R hR => ?_) (fun x hx Q hQ => hc x (List.mem_range.mp hx) Q hQ) (fun x hx hp R hR => he x (List.mem_range.mp hx) hp R hR) (fun x hx => ?_) h
  · rw [x_Irng1]
    refine ha _ ?_
    have hs : sizeLine < 2 ^ 62 := by decide
    refine ⟨by omega, by omega, ?_⟩
    rw [hz, rng_nsL]
    exact hR
  · have : v = i := by simpa using hv
    rw [this]
    exact hi
  · rw [x_Gn]
    refine ⟨hi, ?_⟩
    show R ((ρ.set i none).set i _)
    rw [List.set_set]
    exact hR
  · show (ρ.set i _).set i none = ρ.set i none
    rw [List.set_set]
end Y
namespace Y
open PySem PySem.Spec PyProof.Rows L2

/-! ### heights -/
def mxl : List Nat → Nat
  | [] => 0
  | a :: l => max a (mxl l)
theorem mxl_ge : ∀ {l : List Nat} {x : Nat}, x ∈ l → x ≤ mxl l
  | a :: l, x, h => by
    unfold mxl
    rcases List.mem_cons.mp h with rfl | h
    · exact Nat.le_max_left _ _
    · exact Nat.le_trans (mxl_ge h) (Nat.le_max_right _ _)
theorem mxl_le : ∀ {l : List Nat} {m : Nat}, (∀ x ∈ l, x ≤ m) → mxl l ≤ m
  | [], m, _ => Nat.zero_le _
  | a :: l, m, h => by
    unfold mxl
    exact Nat.max_le.mpr ⟨h a List.mem_cons_self, mxl_le fun x hx => h x (List.mem_cons_of_mem _ hx)⟩
theorem mxl_in : ∀ {l : List Nat}, mxl l = 0 ∨ mxl l ∈ l
  | [] => .inl rfl
  | a :: l => by
    unfold mxl
    rcases Nat.le_total a (mxl l) with h | h
    · rw [Nat.max_eq_right h]
      rcases mxl_in (l := l) with z | z
      · exact .inl z
      · exact .inr (List.mem_cons_of_mem _ z)
    · rw [Nat.max_eq_left h]
      exact .inr List.mem_cons_self
def unds (n : Nat) (t : Nat → Nat → Bool) (i : Nat) : List Nat := (List.range n).filter fun j => t j i
theorem mem_unds {n i j : Nat} {t : Nat → Nat → Bool} : j ∈ unds n t i ↔ j < n ∧ t j i = true := by
  unfold unds
  rw [List.mem_filter, List.mem_range]
/-- each height is one more than the greatest of those below -/
def IsH (n : Nat) (t : Nat → Nat → Bool) (h : Nat → Nat) : Prop := ∀ i, i < n → h i = mxl ((unds n t i).map fun j => h j + 1)
theorem IsH.eq {n : Nat} {t : Nat → Nat → Bool} {h g : Nat → Nat} (ho : Ord n t) (h1 : IsH n t h) (h2 : IsH n t g) : ∀ i, i < n → h i = g i := by
  obtain ⟨r, hr⟩ := ho.rk
  have main : ∀ k i, r i ≤ k → i < n → h i = g i := by
    intro k
    induction k using Nat.strongRecOn with
    | ind k ih =>
      intro i hk hi
      rw [h1 i hi, h2 i hi]
      congr 1
      refine List.map_congr_left fun j hj => ?_
      obtain ⟨hj, e⟩ := mem_unds.mp hj
      have := hr j i hj hi e
      rw [ih (r j) (by omega) j (Nat.le_refl _) hj]
  exact fun i hi => main _ i (Nat.le_refl _) hi
theorem IsH.lt {n : Nat} {t : Nat → Nat → Bool} {h : Nat → Nat} (h1 : IsH n t h) {i j : Nat} (hi : i < n) (hj : j < n) (e : t j i = true) : h j < h i := by
  rw [h1 i hi]
  exact mxl_ge (List.mem_map.mpr ⟨j, mem_unds.mpr ⟨hj, e⟩, rfl⟩)
theorem IsH.down {n : Nat} {t : Nat → Nat → Bool} {h : Nat → Nat} (h1 : IsH n t h) {i : Nat} (hi : i < n) (z : h i ≠ 0) : ∃ j, j < n ∧ t j i = true ∧ h i = h j + 1 := by
  have e := h1 i hi
  rcases mxl_in (l := (unds n t i).map fun j => h j + 1) with q | q
  · omega
  · rw [← e] at q
    obtain ⟨j, hj, e2⟩ := List.mem_map.mp q
    obtain ⟨hj, e3⟩ := mem_unds.mp hj
    exact ⟨j, hj, e3, e2.symm⟩
/-- every height below one that is there, is there -/
theorem IsH.all {n : Nat} {t : Nat → Nat → Bool} {h : Nat → Nat} (h1 : IsH n t h) : ∀ (k : Nat) {i : Nat}, i < n → ∀ m, m + k = h i → ∃ j, j < n ∧ h j = m ∧ (k = 0 → j = i)
  | 0, i, hi, m, e => ⟨i, hi, by omega, fun _ => rfl⟩
  | k + 1, i, hi, m, e => by
    obtain ⟨j, hj, _, e2⟩ := h1.down hi (by omega)
    obtain ⟨l, hl, e3, _⟩ := IsH.all h1 k hj m (by omega)
    exact ⟨l, hl, e3, fun z => by omega⟩
theorem mem_unds_self {n i : Nat} {t : Nat → Nat → Bool} (ho : Ord n t) (hi : i < n) : i ∉ unds n t i := fun z => by
  obtain ⟨_, e⟩ := mem_unds.mp z
  obtain ⟨r, hr⟩ := ho.rk
  exact Nat.lt_irrefl _ (hr i i hi hi e)
theorem unds_len {n i j : Nat} {t : Nat → Nat → Bool} (ho : Ord n t) (hi : i < n) (hj : j < n) (e : t j i = true) : (unds n t j).length < (unds n t i).length := by
  have e1 : unds n t j = (unds n t i).filter fun k => t k j := by
    unfold unds
    rw [List.filter_filter]
    refine List.filter_congr fun k hk => ?_
    cases q : t k j with
    | false => rfl
    | true => rw [ho.tr k j i (List.mem_range.mp hk) hj hi q e]; rfl
  rw [e1]
  refine List.length_filter_lt_length_iff_exists.mpr ⟨j, mem_unds.mpr ⟨hj, e⟩, fun z => ?_⟩
  exact mem_unds_self ho hj (mem_unds.mpr ⟨hj, z⟩)

/-! ### the greatest of a list, with one more -/
theorem max_run0 {l : List Nat} {m : M} {k : M → D → Prop} (h : k .s (.int (mxl l : Nat))) : b1D .max m (.lst (.int 0 :: nsL l)) k := by
  rw [x_fmax]
  refine ⟨0 :: l.map Int.ofNat, ?_, by simp, fun x hx hy => ?_⟩
  · rw [List.map_cons, List.map_map]
    rfl
  · have e : x = (mxl l : Nat) := by
      refine Int.le_antisymm ?_ ?_
      · rcases List.mem_cons.mp hx with rfl | hx
        · omega
        · obtain ⟨y, h2, rfl⟩ := List.mem_map.mp hx
          exact Int.ofNat_le.mpr (mxl_ge h2)
      · rcases mxl_in (l := l) with z | z
        · rw [z]
          exact hy 0 List.mem_cons_self
        · exact hy _ (List.mem_cons_of_mem _ (List.mem_map.mpr ⟨_, z, rfl⟩))
    rw [e]
    exact h
/-- how many levels -/
def cntH : List Nat → Nat
  | [] => 0
  | a :: l => mxl (a :: l) + 1
theorem lt_cntH {l : List Nat} {x : Nat} (h : x ∈ l) : x < cntH l := by
  cases l with
  | nil => cases h
  | cons a l => exact Nat.lt_succ_of_le (mxl_ge h)
theorem cntH_in {l : List Nat} (h : 0 < cntH l) (h0 : 0 ∈ l ∨ mxl l ≠ 0) : cntH l - 1 ∈ l := by
  cases l with
  | nil => exact absurd h (Nat.lt_irrefl _)
  | cons a l =>
    show mxl (a :: l) + 1 - 1 ∈ _
    rw [Nat.add_sub_cancel]
    rcases mxl_in (l := a :: l) with z | z
    · rcases h0 with q | q
      · rw [z]; exact q
      · exact absurd z q
    · exact z
theorem mxl_mem {a : Nat} {l : List Nat} : mxl (a :: l) ∈ a :: l := by
  rcases mxl_in (l := a :: l) with z | z
  · have := mxl_ge (l := a :: l) (x := a) List.mem_cons_self
    have e : a = 0 := by omega
    rw [z, e]
    exact List.mem_cons_self
  · exact z
theorem max_run1 {l : List Nat} {P : Int → Prop} (h : P ((cntH l : Int) - 1)) : ∃ ns : List Int, D.int (-1) :: nsL l = ns.map D.int ∧ 0 < ns.length ∧ ∀ n, n ∈ ns → (∀ y, y ∈ ns → y ≤ n) → P n := by
  refine ⟨-1 :: l.map Int.ofNat, ?_, by simp, fun x hx hy => ?_⟩
  · rw [List.map_cons, List.map_map]
    rfl
  · have e : x = (cntH l : Int) - 1 := by
      cases l with
      | nil =>
        rcases List.mem_cons.mp hx with rfl | hx
        · rfl
        · cases hx
      | cons a l =>
        have ec : (cntH (a :: l) : Int) - 1 = (mxl (a :: l) : Nat) := by
          show ((mxl (a :: l) + 1 : Nat) : Int) - 1 = _
          omega
        rw [ec]
        refine Int.le_antisymm ?_ (hy _ (List.mem_cons_of_mem _ (List.mem_map.mpr ⟨_, mxl_mem, rfl⟩)))
        rcases List.mem_cons.mp hx with rfl | hx
        · omega
        · obtain ⟨y, h2, rfl⟩ := List.mem_map.mp hx
          exact Int.ofNat_le.mpr (mxl_ge h2)
    rw [e]
    exact h

/-! ### heights, the program's -/
def c_heights : C :=
 (.seq (.asg 1 (.o .s) (.bin .Mult (.lst .s (.cons (.int 0) .nil)) (.prop "Order" "size" 32 (.var 0))))
 (.seq (.for_ (.tn 2) (.itr (.sortR 3 (.prop "Order" "size" 32 (.var 0)) (.b1 .len (.meth "Order" "under" 35 (.var 0) (.cons (.var 3) .nil)))))
 (.seq (.setix (.bor 1) (.var 2) (.b1 .max (.bin .Add (.lst .s (.cons (.int 0) .nil)) (.comp .s [("lower", 4)] (.tn 4) (.itr (.meth "Order" "under" 35 (.var 0) (.cons (.var 2) .nil))) .nil (.bin .Add (.rd (.bidx (.bor 1) (.var 4))) (.int 1))))))
 .skip))
 (.seq (.ret (.mv 1))
 .skip)))
theorem zeros (n : Nat) : List.replicate n (D.int 0) = nsL (List.replicate n 0) := by
  unfold nsL
  rw [List.map_replicate]
  rfl
def spHeights : FSpec := ⟨[.s], .o .s, fun ds R => ∃ (n : Nat) (t : Nat → Nat → Bool), ds = [ordD n t] ∧ n ≤ 64 ∧ Ord n t ∧ ∀ hs : List Nat, hs.length = n → IsH n t (nm hs) → R (.lst (nsL hs)) [.non]⟩
@[simp] theorem spHeights_pm : spHeights.pm = [.s] := rfl
@[simp] theorem spHeights_rm : spHeights.rm = .o .s := rfl
def uC (n : Nat) (t : Nat → Nat → Bool) (a : Nat) : Int := (unds n t a).length
def hOrd (n : Nat) (t : Nat → Nat → Bool) : List Nat := (List.range n).mergeSort fun a b => decide (uC n t a ≤ uC n t b)
theorem hOrd_pm {n : Nat} {t : Nat → Nat → Bool} : (hOrd n t).Perm (List.range n) := sorted_pm (kf := uC n t)
theorem hOrd_le {n : Nat} {t : Nat → Nat → Bool} : (hOrd n t).Pairwise fun a b => (unds n t a).length ≤ (unds n t b).length := (sorted_le (l := List.range n) (kf := uC n t)).imp fun h => Int.ofNat_le.mp h
def IvH (n : Nat) (t : Nat → Nat → Bool) (es : List Nat) (k : Nat) (ρ : Env) : Prop := ∃ hs v2 v3 v4, ρ = [some (.s, ordD n t), some (.o .s, .lst (nsL hs)), v2, v3, v4] ∧ hs.length = n ∧ ∀ i ∈ es.take k, nm hs i = mxl ((unds n t i).map fun j => nm hs j + 1)
theorem ok_heights {T : List FSpec} (t32 : T[32]? = some spSize) (t35 : T[35]? = some spUnder) : wD T spHeights c_heights 5 := by
  refine wD_of fun ds R ⟨n, t, e, hn, ho, h⟩ => ?_
  subst e
  show wS _ [] _ _ [some (.s, ordD n t), none, none, none, none]
  unfold c_heights
  have s1 : (1000000 : Nat) ≤ sizeLine := by decide
  refine x_step fun K hK => ?_
  simp [-x_Eprop]
  refine prop_E t32 spSize_pm rfl ⟨n, t, rfl, ?_⟩
  simp
  rw [zeros]
  refine ⟨by omega, by omega, hK _ (x_step fun K2 hK2 => ?_)⟩
  refine wS_itr (IvH n t (hOrd n t)) (xs := nsL (hOrd n t)) (mx := .o .s) (.inl rfl) (fun R hR => ?_) ⟨_, _, _, _, rfl, by rw [List.length_replicate], fun i hi => by cases hi⟩ (fun k x ρ hx ⟨hs, v2, v3, v4, e, hl, hd⟩ => ?_) (fun ρ ⟨hs, v2, v3, v4, e, hl, hd⟩ => ?_)
  · refine wE_sortR n (uC n t) (by omega) (fun R hR => prop_E t32 spSize_pm rfl ⟨n, t, rfl, hR⟩) (by simp) (fun x hx R hR => ?_) hR
    simp [-x_Emeth]
    refine meth_E t35 spUnder_pm rfl under_ns ?_
    simp
    refine ⟨n, t, x, rfl, hn, hx, ?_⟩
    simp
    exact hR
  · subst e
    have p1 := hOrd_pm (n := n) (t := t)
    have p2 := hOrd_le (n := n) (t := t)
    generalize hOrd n t = es at hx hd p1 p2
    have hk : k < es.length := by
      have := (List.getElem?_eq_some_iff.mp hx).1
      rw [nsL_len] at this
      exact this
    rw [nsL_get hk, nm_at hk] at hx
    cases hx
    have hen : nm es k < n := List.mem_range.mp (p1.mem_iff.mp (nm_mem hk))
    have hnd : es.Nodup := p1.nodup_iff.mpr List.nodup_range
    generalize he : nm es k = e at hen
    rw [x_Gn]
    refine ⟨by simp, ?_⟩
    refine x_step fun K3 hK3 => ?_
    rw [x_Sset0, x_Eb1]
    simp only [isP_bin]
    rw [x_Ebin]
    simp [-x_Emeth]
    refine wE_compL (unds n t e) (fun j => .int (j : Nat)) (fun _ => true) (fun j => .int ((nm hs j + 1 : Nat) : Int)) (mx := .o .s) (.inl rfl) (fun R hR => ?_) (by simp) ?_ (fun j hj Q hQ => by rw [x_Cn]; exact hQ) (fun j hj _ R hR => ?_) ?_
    · refine meth_E t35 spUnder_pm rfl under_ns ?_
      simp
      refine ⟨n, t, e, rfl, hn, hen, ?_⟩
      simp
      exact hR
    · have : (unds n t e).length ≤ n := by
        have := List.length_filter_le (fun j => t j e) (List.range n)
        rw [List.length_range] at this
        exact this
      omega
    · obtain ⟨hj, _⟩ := mem_unds.mp hj
      have hj2 : j < hs.length := by omega
      simp
      refine ⟨j, ixN_nat hj2, _, nsL_nm hj2, ?_⟩
      simp
      exact hR _ rfl
    · rw [List.filter_eq_self.mpr (fun _ _ => rfl)]
      have hl2 : (unds n t e).length ≤ n := by
        have := List.length_filter_le (fun j => t j e) (List.range n)
        rw [List.length_range] at this
        exact this
      have e1 : [D.int 0] ++ (unds n t e).map (fun j => D.int ((nm hs j + 1 : Nat) : Int)) = .int 0 :: nsL ((unds n t e).map fun j => nm hs j + 1) := by
        unfold nsL
        rw [List.map_map]
        rfl
      rw [x_baddl]
      refine ⟨by simp; omega, ?_⟩
      rw [e1]
      refine max_run0 ?_
      simp
      refine ⟨e, ixN_nat (by omega), ?_⟩
      rw [nsL_set]
      refine hK3 _ ?_
      simp
      refine ⟨_, _, _, _, rfl, by rw [List.length_set]; exact hl, fun i hi => ?_⟩
      -- what is changed
      have same : ∀ i, i < n → e ∉ unds n t i → mxl ((unds n t i).map fun j => nm (hs.set e (mxl ((unds n t e).map fun j => nm hs j + 1))) j + 1) = mxl ((unds n t i).map fun j => nm hs j + 1) := fun i hi hne => by
        congr 1
        refine List.map_congr_left fun j hj => ?_
        rw [nm_set (by omega), if_neg fun z => hne (by rw [← z]; exact hj)]
      rcases nm_take hi hk with hi | rfl
      · have hin : i < n := List.mem_range.mp (p1.mem_iff.mp (List.mem_of_mem_take hi))
        obtain ⟨l, hl3, hl4⟩ := List.mem_take_iff_getElem.mp hi
        have hle := List.pairwise_iff_getElem.mp p2 l k (by omega) hk (by omega)
        rw [nm_at hk, he, hl4] at hle
        have hne : e ∉ unds n t i := fun z => by
          have := unds_len ho hin hen (mem_unds.mp z).2
          omega
        rw [same i hin hne, nm_set (by omega), if_neg fun z => ?_]
        · exact hd i hi
        · have := (List.getElem_inj hnd).mp (hl4.trans (z.trans (he.symm.trans (nm_at hk).symm)))
          omega
      · rw [he, same e hen (mem_unds_self ho hen), nm_set (by omega), if_pos rfl]
  · subst e
    refine hK2 _ ?_
    simp
    refine ⟨rfl, h hs hl fun i hi => hd i ?_⟩
    rw [nsL_len, List.take_length]
    exact hOrd_pm.mem_iff.mpr (List.mem_range.mpr hi)
end Y
namespace Y
open PySem PySem.Spec PyProof.Rows L2

/-! ### there are heights -/
def hF (n : Nat) (t : Nat → Nat → Bool) : Nat → Nat → Nat
  | 0, _ => 0
  | f + 1, i => mxl ((unds n t i).map fun j => hF n t f j + 1)
theorem unds_le {n i : Nat} {t : Nat → Nat → Bool} : (unds n t i).length ≤ n := by
  have := List.length_filter_le (fun j => t j i) (List.range n)
  rw [List.length_range] at this
  exact this
theorem hF_stay {n : Nat} {t : Nat → Nat → Bool} (ho : Ord n t) : ∀ (f i : Nat), i < n → (unds n t i).length ≤ f → hF n t f i = hF n t (f + 1) i
  | 0, i, hi, h => by
    have : unds n t i = [] := List.eq_nil_of_length_eq_zero (by omega)
    show 0 = mxl ((unds n t i).map fun j => hF n t 0 j + 1)
    rw [this]
    rfl
  | f + 1, i, hi, h => by
    show mxl ((unds n t i).map fun j => hF n t f j + 1) = mxl ((unds n t i).map fun j => hF n t (f + 1) j + 1)
    congr 1
    refine List.map_congr_left fun j hj => ?_
    obtain ⟨hj, e⟩ := mem_unds.mp hj
    have := unds_len ho hi hj e
    rw [hF_stay ho f j hj (by omega)]
theorem hF_isH {n : Nat} {t : Nat → Nat → Bool} (ho : Ord n t) : IsH n t (hF n t n) := fun i hi => hF_stay ho n i hi unds_le
theorem IsH.le_unds {n : Nat} {t : Nat → Nat → Bool} {h : Nat → Nat} (ho : Ord n t) (h1 : IsH n t h) : ∀ (k i : Nat), i < n → (unds n t i).length ≤ k → h i ≤ k
  | k, i, hi, hk => by
    induction k generalizing i with
    | zero =>
      have : unds n t i = [] := List.eq_nil_of_length_eq_zero (by omega)
      rw [h1 i hi, this]
      exact Nat.le_refl _
    | succ k ih =>
      rw [h1 i hi]
      refine mxl_le fun x hx => ?_
      obtain ⟨j, hj, rfl⟩ := List.mem_map.mp hx
      obtain ⟨hj, e⟩ := mem_unds.mp hj
      have := unds_len ho hi hj e
      have := ih j hj (by omega)
      omega

/-! ### the law's heights -/
def c_l_heights : C :=
 (.seq (.asg 1 .s (.b1 .len (.var 0)))
 (.seq (.asg 2 (.o .s) (.bin .Mult (.lst .s (.cons (.int 0) .nil)) (.var 1)))
 (.seq (.for_ (.tn 3) (.rng1 (.var 1))
 (.seq (.for_ (.tt (.cons (.tn 4) (.cons (.tn 5) .nil))) (.itr (.call 5 (.cons (.var 0) .nil)))
 (.seq (.ifs (.cmp .Lt (.rd (.bidx (.bor 2) (.var 5))) (.bin .Add (.rd (.bidx (.bor 2) (.var 4))) (.int 1))) (.seq (.setix (.bor 2) (.var 5) (.bin .Add (.rd (.bidx (.bor 2) (.var 4))) (.int 1)))
 .skip) .skip)
 .skip))
 .skip))
 (.seq (.ret (.mv 2))
 .skip))))
def spLHeights : FSpec := ⟨[.s], .o .s, fun ds R => ∃ (n : Nat) (t : Nat → Nat → Bool), ds = [tabD n t] ∧ n ≤ 64 ∧ Ord n t ∧ ∀ hs : List Nat, hs.length = n → IsH n t (nm hs) → R (.lst (nsL hs)) [.non]⟩
@[simp] theorem spLHeights_pm : spLHeights.pm = [.s] := rfl
@[simp] theorem spLHeights_rm : spLHeights.rm = .o .s := rfl
/-- at most the heights, and those up to k are there -/
structure Part (n : Nat) (h : Nat → Nat) (k : Nat) (hs : List Nat) : Prop where
  len : hs.length = n
  le : ∀ i, i < n → nm hs i ≤ h i
  eq : ∀ i, i < n → h i ≤ k → nm hs i = h i
def IvL (n : Nat) (t : Nat → Nat → Bool) (k : Nat) (ρ : Env) : Prop := ∃ hs v3 v4 v5, ρ = [some (.s, tabD n t), some (.s, .int (n : Nat)), some (.o .s, .lst (nsL hs)), v3, v4, v5] ∧ Part n (hF n t n) k hs
def IvL2 (n : Nat) (t : Nat → Nat → Bool) (k : Nat) (j : Nat) (ρ : Env) : Prop := ∃ hs v3 v4 v5, ρ = [some (.s, tabD n t), some (.s, .int (n : Nat)), some (.o .s, .lst (nsL hs)), v3, v4, v5] ∧ Part n (hF n t n) k hs ∧ ∀ p ∈ (prs n t n).take j, hF n t n p.1 ≤ k → hF n t n p.1 + 1 ≤ nm hs p.2
theorem psD_item {ps : List (Nat × Nat)} {k : Nat} {x : D} (h : (ps.map pD)[k]? = some x) : ∃ p, ps[k]? = some p ∧ x = pD p := by
  rw [List.getElem?_map] at h
  cases q : ps[k]? with
  | none =>
    rw [q] at h
    cases h
  | some p =>
    rw [q] at h
    exact ⟨p, rfl, (Option.some.inj h).symm⟩
theorem mem_take_succ {α : Type} {l : List α} {k : Nat} {p x : α} (h : l[k]? = some p) (hx : x ∈ l.take (k + 1)) : x ∈ l.take k ∨ x = p := by
  rw [List.take_add_one, h] at hx
  rcases List.mem_append.mp hx with z | z
  · exact .inl z
  · exact .inr (by simpa using z)
theorem ok_lheights {T : List FSpec} (t5 : T[5]? = some spPairs) : wD T spLHeights c_l_heights 6 := by
  refine wD_of fun ds R ⟨n, t, e, hn, ho, h⟩ => ?_
  subst e
  show wS _ [] _ _ [some (.s, tabD n t), none, none, none, none, none]
  unfold c_l_heights
  have s1 : (1000000 : Nat) ≤ sizeLine := by decide
  have hH := hF_isH ho
  refine x_step fun K hK => ?_
  simp
  refine hK _ (x_step fun K1 hK1 => ?_)
  simp
  rw [zeros]
  refine ⟨by omega, by omega, hK1 _ (x_step fun K2 hK2 => ?_)⟩
  refine wS_rng1 (IvL n t) (n := n) (fun R hR => by simpa using hR) (by omega) (by simp) ⟨_, _, _, _, rfl, by rw [List.length_replicate], fun i hi => ?_, fun i hi hz => ?_⟩ (fun k ρ hk ⟨hs, v3, v4, v5, e, hp⟩ => ?_) (fun ρ ⟨hs, v3, v4, v5, e, hp⟩ => ?_)
  · unfold nm
    rw [List.getD_eq_getElem?_getD, List.getElem?_replicate, if_pos hi]
    exact Nat.zero_le _
  · unfold nm
    rw [List.getD_eq_getElem?_getD, List.getElem?_replicate, if_pos hi]
    show 0 = _
    omega
  · subst e
    simp
    refine wS_itr (IvL2 n t k) (xs := (prs n t n).map pD) (mx := .s) (.inl rfl) (fun R hR => ?_) ⟨hs, _, _, _, rfl, hp, fun p hp => by cases hp⟩ (fun j x ρ hx ⟨gs, w3, w4, w5, e, g1, g2⟩ => ?_) (fun ρ ⟨gs, w3, w4, w5, e, g1, g2⟩ => ?_)
    · simp [t5]
      exact ⟨n, t, rfl, hn, hR⟩
    · subst e
      obtain ⟨p, hp2, rfl⟩ := psD_item hx
      obtain ⟨q1, q2, q3⟩ := prs_mem.mp (List.mem_of_getElem? hp2)
      have l1 : p.1 < gs.length := by rw [g1.len]; exact q1
      have l2 : p.2 < gs.length := by rw [g1.len]; exact q2
      simp [pD]
      refine ⟨p.2, ixN_nat l2, _, nsL_nm l2, p.1, ixN_nat l1, _, nsL_nm l1, ?_⟩
      simp
      have hlt := hH.lt q2 q1 q3
      have a1 := g1.le p.1 q1
      split
      · skip
        refine ⟨p.1, ixN_nat l1, _, nsL_nm l1, ?_⟩
        simp
        refine ⟨p.2, ixN_nat l2, ?_⟩
        rw [show ((nm gs p.1 : Int) + 1) = ((nm gs p.1 + 1 : Nat) : Int) by omega, nsL_set]
        refine ⟨_, _, _, _, rfl, ⟨by rw [List.length_set]; exact g1.len, fun i hi => ?_, fun i hi hz => ?_⟩, fun r hr hz => ?_⟩
        · rw [nm_set l2]
          split
          · rename_i e
            subst e
            omega
          · exact g1.le i hi
        · rw [nm_set l2]
          split
          · rename_i e
            subst e
            have := g1.eq p.2 q2 hz
            omega
          · exact g1.eq i hi hz
        · rw [nm_set l2]
          rcases mem_take_succ hp2 hr with hr | rfl
          · have := g2 r hr hz
            split
            · rename_i e
              rw [e] at this
              omega
            · exact this
          · rw [if_pos rfl]
            have := g1.eq r.1 q1 hz
            omega
      · refine ⟨gs, _, _, _, rfl, g1, fun r hr hz => ?_⟩
        rcases mem_take_succ hp2 hr with hr | rfl
        · exact g2 r hr hz
        · have := g1.eq r.1 q1 hz
          omega
    · subst e
      rw [List.length_map, List.take_length] at g2
      refine ⟨gs, _, _, _, rfl, g1.len, g1.le, fun i hi hz => ?_⟩
      by_cases hk2 : hF n t n i ≤ k
      · exact g1.eq i hi hk2
      · obtain ⟨j, hj, e1, e2⟩ := hH.down hi (by omega)
        have := g2 (j, i) (prs_mem.mpr ⟨hj, hi, e1⟩) (show hF n t n j ≤ k by omega)
        have := g1.le i hi
        show nm gs i = _
        have h3 : hF n t n j + 1 ≤ nm gs i := by assumption
        omega
  · subst e
    refine hK2 _ ?_
    simp
    have all : ∀ i, i < n → nm hs i = hF n t n i := fun i hi => hp.eq i hi (hH.le_unds ho n i hi unds_le)
    refine ⟨rfl, h hs hp.len fun i hi => ?_⟩
    rw [all i hi, hH i hi]
    congr 1
    refine List.map_congr_left fun j hj => ?_
    rw [all j (mem_unds.mp hj).1]
end Y
namespace Y
open PySem PySem.Spec PyProof.Rows L2

/-! ### levels -/
def c_levels : C :=
 (.seq (.asg 1 .s (.call 50 (.cons (.var 0) .nil)))
 (.seq (.asg 2 (.o (.o .s)) (.comp (.o .s) [("height", 3)] (.tn 3) (.rng1 (.bin .Add (.b1 .max (.bin .Add (.lst .s (.cons (.neg (.int 1)) .nil)) (.var 1))) (.int 1))) .nil (.lst .s .nil)))
 (.seq (.for_ (.tt (.cons (.tn 4) (.cons (.tn 3) .nil))) (.enum (.var 1))
 (.seq (.ex (.app (.bidx (.bor 2) (.var 3)) (.var 4)))
 .skip))
 (.seq (.ret (.mv 2))
 .skip))))
/-- the elements ahead of k at a height -/
def lvlK (hs : List Nat) (k h : Nat) : List Nat := (List.range k).filter fun i => decide (nm hs i = h)
def lvlL (hs : List Nat) (k : Nat) : List D := (List.range (cntH hs)).map fun h => .lst (nsL (lvlK hs k h))
def spLevels : FSpec := ⟨[.s], .o (.o .s), fun ds R => ∃ (n : Nat) (t : Nat → Nat → Bool), ds = [ordD n t] ∧ n ≤ 64 ∧ Ord n t ∧ ∀ hs : List Nat, hs.length = n → IsH n t (nm hs) → R (.lst (lvlL hs n)) [.non]⟩
@[simp] theorem spLevels_pm : spLevels.pm = [.s] := rfl
@[simp] theorem spLevels_rm : spLevels.rm = .o (.o .s) := rfl
def IvV (o : D) (hs : List Nat) (k : Nat) (ρ : Env) : Prop := ∃ v3 v4, ρ = [some (.s, o), some (.s, .lst (nsL hs)), some (.o (.o .s), .lst (lvlL hs k)), v3, v4]
theorem lvlL_get {hs : List Nat} {k h : Nat} (hh : h < cntH hs) : (lvlL hs k)[h]? = some (.lst (nsL (lvlK hs k h))) := by
  unfold lvlL
  rw [List.getElem?_map, List.getElem?_range hh]
  rfl
theorem lvlL_len {hs : List Nat} {k : Nat} : (lvlL hs k).length = cntH hs := by
  unfold lvlL
  rw [List.length_map, List.length_range]
theorem lvlL_set {hs : List Nat} {k : Nat} : (lvlL hs k).set (nm hs k) (.lst (nsL (lvlK hs k (nm hs k)) ++ [.int (k : Nat)])) = lvlL hs (k + 1) := by
  refine List.ext_getElem? fun h => ?_
  by_cases hh : h < cntH hs
  · rw [lvlL_get hh]
    by_cases e : nm hs k = h
    · subst e
      rw [List.getElem?_set_self (by rw [lvlL_len]; exact hh), nsL_snoc]
      unfold lvlK
      rw [List.range_succ, List.filter_append]
      simp
    · rw [List.getElem?_set_ne e, lvlL_get hh]
      unfold lvlK
      rw [List.range_succ, List.filter_append]
      simp [e]
  · rw [List.getElem?_eq_none (by rw [List.length_set, lvlL_len]; omega), List.getElem?_eq_none (by rw [lvlL_len]; omega)]
theorem lvlK_len {hs : List Nat} {k h : Nat} : (lvlK hs k h).length ≤ k := by
  have := List.length_filter_le (fun i => decide (nm hs i = h)) (List.range k)
  rw [List.length_range] at this
  exact this
theorem cntH_le {n : Nat} {t : Nat → Nat → Bool} {hs : List Nat} (ho : Ord n t) (hl : hs.length = n) (hh : IsH n t (nm hs)) : cntH hs ≤ n + 1 := by
  cases e : hs with
  | nil => exact Nat.zero_le _
  | cons a l =>
    rw [← e]
    have : mxl hs ≤ n := mxl_le fun x hx => by
      obtain ⟨i, hi, rfl⟩ := List.mem_iff_getElem.mp hx
      rw [nm_at hi]
      exact hh.le_unds ho n i (by omega) unds_le
    rw [e] at this ⊢
    exact Nat.succ_le_succ this
theorem nm_lt_cnt {hs : List Nat} {k : Nat} (hk : k < hs.length) : nm hs k < cntH hs := lt_cntH (nm_mem hk)
theorem ok_levels {T : List FSpec} (t50 : T[50]? = some spHeights) : wD T spLevels c_levels 5 := by
  refine wD_of fun ds R ⟨n, t, e, hn, ho, h⟩ => ?_
  subst e
  show wS _ [] _ _ [some (.s, ordD n t), none, none, none, none]
  unfold c_levels
  have s1 : (1000000 : Nat) ≤ sizeLine := by decide
  refine x_step fun K hK => ?_
  simp [t50]
  refine ⟨n, t, rfl, hn, ho, fun hs hl hh => ?_⟩
  simp
  refine hK _ (x_step fun K1 hK1 => ?_)
  have hc := cntH_le ho hl hh
  rw [x_Sasg]
  refine wE_compR0 (n := cntH hs) (fun _ => .lst []) (fun R hR => ?_) (by omega) (by simp) (by simp) (fun j hj R hR => ?_) ?_
  · simp
    refine ⟨by omega, ?_⟩
    refine max_run1 ?_
    rw [Int.sub_add_cancel]
    exact hR
  · simp
    exact hR _ rfl
  · simp
    have e0 : (List.range (cntH hs)).map (fun _ => D.lst []) = lvlL hs 0 := List.map_congr_left fun _ _ => rfl
    rw [e0]
    refine hK1 _ (x_step fun K2 hK2 => ?_)
    refine wS_enum (IvV (ordD n t) hs) (xs := nsL hs) (mx := .s) (.inl rfl) (fun R hR => by simpa using hR) ⟨_, _, rfl⟩ (fun k x ρ hx ⟨v3, v4, e⟩ => ?_) (fun ρ ⟨v3, v4, e⟩ => ?_)
    · subst e
      obtain ⟨hk, rfl⟩ := nsL_item hx
      have hlt := nm_lt_cnt hk
      have := lvlK_len (hs := hs) (k := k) (h := nm hs k)
      simp
      refine ⟨nm hs k, ?_, ?_⟩
      · rw [lvlL_len]
        exact ixN_nat hlt
      refine ⟨_, lvlL_get hlt, ?_⟩
      simp
      refine ⟨by omega, ?_⟩
      rw [lvlL_set]
      exact ⟨_, _, rfl⟩
    · subst e
      refine hK2 _ ?_
      simp
      rw [hl]
      exact ⟨rfl, h hs hl hh⟩

/-! ### longest_chain -/
def c_longest_chain : C :=
 (.seq (.asg 1 .s (.call 50 (.cons (.var 0) .nil)))
 (.seq (.asg 2 (.o .s) (.lst .s .nil))
 (.seq (.for_ (.tn 3) (.rng3 (.b1 .max (.bin .Add (.lst .s (.cons (.neg (.int 1)) .nil)) (.var 1))) (.neg (.int 1)) (.neg (.int 1)))
 (.seq (.ifs (.cmp .Eq (.b1 .len (.bor 2)) (.int 0)) (.seq (.ex (.app (.bor 2) (.index (.var 1) (.var 3))))
 .skip) (.seq (.ex (.app (.bor 2) (.idx (.comp .s [("lower", 4)] (.tn 4) (.itr (.meth "Order" "under" 35 (.var 0) (.cons (.rd (.bidx (.bor 2) (.neg (.int 1)))) .nil))) (.cons (.cmp .Eq (.idx (.var 1) (.var 4)) (.var 3)) .nil) (.var 4)) (.int 0))))
 .skip))
 .skip))
 (.seq (.ret (.rev (.bor 2)))
 .skip))))
/-- a row of elements that rises -/
structure Ris (n : Nat) (t : Nat → Nat → Bool) (cs : List Nat) : Prop where
  lt : ∀ x ∈ cs, x < n
  up : ∀ k, k + 1 < cs.length → t (nm cs k) (nm cs (k + 1)) = true
def spLong : FSpec := ⟨[.s], .o .s, fun ds R => ∃ (n : Nat) (t : Nat → Nat → Bool), ds = [ordD n t] ∧ n ≤ 64 ∧ Ord n t ∧ ∀ hs cs : List Nat, hs.length = n → IsH n t (nm hs) → cs.length = cntH hs → Ris n t cs → R (.lst (nsL cs)) [.non]⟩
@[simp] theorem spLong_pm : spLong.pm = [.s] := rfl
@[simp] theorem spLong_rm : spLong.rm = .o .s := rfl
/-- the chain from its top down: k elements -/
structure Fal (n : Nat) (t : Nat → Nat → Bool) (hs : List Nat) (k : Nat) (cs : List Nat) : Prop where
  len : cs.length = k
  lt : ∀ x ∈ cs, x < n
  at_ : ∀ j, j < k → nm hs (nm cs j) + j + 1 = cntH hs
  dn : ∀ j, j + 1 < k → t (nm cs (j + 1)) (nm cs j) = true
theorem Fal.ris {n k : Nat} {t : Nat → Nat → Bool} {hs cs : List Nat} (h : Fal n t hs k cs) : Ris n t cs.reverse := by
  refine ⟨fun x hx => h.lt x (List.mem_reverse.mp hx), fun j hj => ?_⟩
  rw [List.length_reverse] at hj
  rw [nm_rev (by omega), nm_rev (by omega)]
  have := h.dn (cs.length - 1 - (j + 1)) (by rw [← h.len]; omega)
  rw [show cs.length - 1 - (j + 1) + 1 = cs.length - 1 - j by omega] at this
  exact this
theorem Fal.add {n k x : Nat} {t : Nat → Nat → Bool} {hs cs : List Nat} (h : Fal n t hs k cs) (hx : x < n) (ha : nm hs x + k + 1 = cntH hs) (hd : 0 < k → t x (nm cs (k - 1)) = true) : Fal n t hs (k + 1) (cs ++ [x]) := by
  have hl := h.len
  refine ⟨by rw [List.length_append, hl]; rfl, fun y hy => ?_, fun j hj => ?_, fun j hj => ?_⟩
  · rcases List.mem_append.mp hy with z | z
    · exact h.lt y z
    · rw [List.mem_singleton.mp z]
      exact hx
  · rw [nm_app (cs := cs) (x := x) (k := j) (by omega)]
    split
    · exact h.at_ j (by omega)
    · have e : j = k := by omega
      subst e
      exact ha
  · rw [nm_app (cs := cs) (x := x) (k := j) (by omega), nm_app (cs := cs) (x := x) (k := j + 1) (by omega), if_pos (show j < cs.length by omega)]
    split
    · exact h.dn j (by omega)
    · have e : j = k - 1 := by omega
      subst e
      exact hd (by omega)
def IvC (n : Nat) (t : Nat → Nat → Bool) (hs : List Nat) (k : Nat) (ρ : Env) : Prop := ∃ cs v3 v4, ρ = [some (.s, ordD n t), some (.s, .lst (nsL hs)), some (.o .s, .lst (nsL cs)), v3, v4] ∧ Fal n t hs k cs
theorem top_mem {hs : List Nat} (h : 0 < cntH hs) : cntH hs - 1 ∈ hs := by
  cases hs with
  | nil => exact absurd h (Nat.lt_irrefl _)
  | cons a l => exact mxl_mem
theorem nsL_rev {cs : List Nat} : (nsL cs).reverse = nsL cs.reverse := by
  unfold nsL
  rw [List.map_reverse]
theorem nm_idx {hs : List Nat} {x : Nat} (h : x ∈ hs) : nm hs (hs.idxOf x) = x := by
  have hi := List.idxOf_lt_length_iff.mpr h
  rw [← nm_at hi, List.getElem_idxOf]
theorem ok_long {T : List FSpec} (t50 : T[50]? = some spHeights) (t35 : T[35]? = some spUnder) : wD T spLong c_longest_chain 5 := by
  refine wD_of fun ds R ⟨n, t, e, hn, ho, h⟩ => ?_
  subst e
  show wS _ [] _ _ [some (.s, ordD n t), none, none, none, none]
  unfold c_longest_chain
  have s1 : (1000000 : Nat) ≤ sizeLine := by decide
  refine x_step fun K hK => ?_
  simp [t50]
  refine ⟨n, t, rfl, hn, ho, fun hs hl hh => ?_⟩
  simp
  refine hK _ (x_step fun K1 hK1 => ?_)
  have hc := cntH_le ho hl hh
  simp
  refine hK1 _ (x_step fun K2 hK2 => ?_)
  refine wS_down (IvC n t hs) (lo := 0) (n := cntH hs) (fun R hR => ?_) (fun R hR => by simp; exact hR) (fun R hR => by simp; exact hR) (by omega) (by simp) ⟨[], _, _, rfl, rfl, fun x hx => (by cases hx), fun j hj => absurd hj (Nat.not_lt_zero _), fun j hj => absurd hj (Nat.not_lt_zero _)⟩ (fun k ρ hk ⟨cs, v3, v4, e, hf⟩ => ?_) (fun ρ ⟨cs, v3, v4, e, hf⟩ => ?_)
  · simp
    refine ⟨by omega, ?_⟩
    refine max_run1 ?_
    rw [show (((0 : Nat) : Int) + (cntH hs : Nat) - 1) = (cntH hs : Int) - 1 by omega] at hR
    exact hR
  · subst e
    have hl2 := hf.len
    by_cases hk0 : k = 0
    · subst hk0
      have e0 : cs = [] := List.eq_nil_of_length_eq_zero hl2
      subst e0
      simp
      have hm := top_mem hk
      have hi := List.idxOf_lt_length_iff.mpr hm
      refine ⟨by omega, index_ns hm ⟨by omega, ?_⟩⟩
      refine ⟨[hs.idxOf (cntH hs - 1)], _, _, rfl, ?_⟩
      refine hf.add (by omega) ?_ (fun z => absurd z (Nat.lt_irrefl _))
      rw [nm_idx hm]
      omega
    · rw [x_Sseq, x_Sifs, x_Tcmp]
      simp [-x_Emeth, hl2, hk0]
      refine ⟨by omega, ?_⟩
      obtain ⟨k, rfl⟩ : ∃ k', k = k' + 1 := ⟨k - 1, by omega⟩
      have hc1 : nm cs k < n := hf.lt _ (nm_mem (by omega))
      have hc2 := hf.at_ k (by omega)
      generalize hce : nm cs k = c at hc1 hc2
      refine wE_compL (unds n t c) (fun j => .int (j : Nat)) (fun j => decide (nm hs j = cntH hs - 1 - (k + 1))) (fun j => .int (j : Nat)) (mx := .o .s) (.inl rfl) (fun R hR => ?_) (by simp) ?_ (fun j hj Q hQ => ?_) (fun j hj _ R hR => ?_) ?_
      · refine meth_E t35 spUnder_pm rfl under_ns ?_
        simp
        refine ⟨k, by rw [hl2]; exact ixN_last, _, nsL_nm (by omega), ?_⟩
        rw [hce]
        refine ⟨n, t, c, rfl, hn, hc1, ?_⟩
        simp
        exact hR
      · have := unds_le (n := n) (t := t) (i := c)
        omega
      · have hj2 := (mem_unds.mp hj).1
        simp
        refine ⟨_, atI_nm (by omega), ?_⟩
        simp
        rw [dec_nat]
        exact hQ
      · simp
        exact hR _ rfl
      · obtain ⟨j, hj, e1, e2⟩ := hh.down hc1 (by omega)
        have hin : j ∈ (unds n t c).filter fun j => decide (nm hs j = cntH hs - 1 - (k + 1)) := List.mem_filter.mpr ⟨mem_unds.mpr ⟨hj, e1⟩, decide_eq_true (by omega)⟩
        cases hq : (unds n t c).filter fun j => decide (nm hs j = cntH hs - 1 - (k + 1)) with
        | nil =>
          rw [hq] at hin
          cases hin
        | cons x r =>
          have hx : x ∈ (unds n t c).filter fun j => decide (nm hs j = cntH hs - 1 - (k + 1)) := by
            rw [hq]
            exact List.mem_cons_self
          obtain ⟨x1, x2⟩ := List.mem_filter.mp hx
          obtain ⟨x1, x3⟩ := mem_unds.mp x1
          have x2 := of_decide_eq_true x2
          simp
          refine ⟨_, atI_cons0, ?_⟩
          refine ⟨by omega, ?_⟩
          rw [nsL_snoc]
          refine ⟨_, _, _, rfl, hf.add x1 (by omega) fun _ => ?_⟩
          rw [Nat.add_sub_cancel, hce]
          exact x3
  · subst e
    refine hK2 _ ?_
    simp
    rw [nsL_rev]
    exact ⟨rfl, h hs _ hl hh (by rw [List.length_reverse]; exact hf.len) hf.ris⟩
end Y
namespace Y
open PySem PySem.Spec PyProof.Rows L2

def c_is_chain : C :=
 (.seq (.ret (.b1 .all (.comp .s [("_law_k", 2)] (.tn 2) (.rng1 (.bin .Sub (.b1 .len (.var 1)) (.int 1))) .nil (.idx (.idx (.var 0) (.idx (.var 1) (.var 2))) (.idx (.var 1) (.bin .Add (.var 2) (.int 1)))))))
 .skip)
def spIsChain : FSpec := ⟨[.s, .s], .s, fun ds R => ∃ (n : Nat) (t : Nat → Nat → Bool) (cs : List Nat), ds = [tabD n t, .lst (nsL cs)] ∧ cs.length ≤ 100 ∧ Ris n t cs ∧ R (.bl true) [.non, .non]⟩
@[simp] theorem spIsChain_pm : spIsChain.pm = [.s, .s] := rfl
@[simp] theorem spIsChain_rm : spIsChain.rm = .s := rfl
theorem all_true (n : Nat) : ∃ bs : List Bool, (List.range n).map (fun _ => D.bl true) = bs.map D.bl ∧ bs.all id = true := by
  refine ⟨List.replicate n true, ?_, by simp⟩
  rw [List.map_const', List.map_replicate, List.length_range]
theorem ok_ischain {T : List FSpec} : wD T spIsChain c_is_chain 3 := by
  refine wD_of fun ds R ⟨n, t, cs, e, hl, hr, h⟩ => ?_
  subst e
  show wS _ [] _ _ [some (.s, tabD n t), some (.s, .lst (nsL cs)), none]
  unfold c_is_chain
  have s1 : (1000000 : Nat) ≤ sizeLine := by decide
  rw [x_Sseq, x_Sret, x_Eb1]
  simp only [isP_comp]
  refine wE_compZ (z := (cs.length : Int) - 1) (n := cs.length - 1) (fun _ => true) (fun _ => .bl true) (by omega) (fun R hR => by simp; exact hR) (by omega) (by omega) (by simp) (by simp) (fun k hk Q hQ => by rw [x_Cn]; exact hQ) (fun k hk _ R hR => ?_) ?_
  · have h1 : k < cs.length := by omega
    have h2 : k + 1 < cs.length := by omega
    have a1 := hr.lt _ (nm_mem h1)
    have a2 := hr.lt _ (nm_mem h2)
    simp
    refine ⟨_, atI_nm h1, _, atI_tab a1, _, atI_nm (i := k + 1) h2, _, atI_row a2, ?_⟩
    rw [hr.up k h2]
    exact hR _ rfl
  · obtain ⟨bs, e1, e2⟩ := all_true (cs.length - 1)
    rw [List.filter_eq_self.mpr (fun _ _ => rfl), e1, x_fall]
    refine ⟨bs, rfl, ?_⟩
    rw [e2]
    exact ⟨rfl, h⟩

def c_law : C :=
 (.seq (.asg 1 (.o .s) (.call 1 (.cons (.call 0 (.cons (.var 0) (.cons (.int 0) .nil))) .nil)))
 (.seq (.asg 2 .s (.call 20 (.cons (.bor 1) (.cons (.int 9) .nil))))
 (.seq (.asg 3 .s (.call 2 (.cons (.bor 1) (.cons (.int 12) .nil))))
 (.seq (.ifs (.cmp .Eq (.var 3) (.int 0)) (.seq (.asg 2 .s (.call 4 (.cons (.int 30) (.cons (.call 6 (.cons (.call 1 (.cons (.call 0 (.cons (.var 0) (.cons (.int 1) .nil))) .nil)) (.cons (.int 30) .nil))) .nil))))
 .skip) .skip)
 (.seq (.ifs (.cmp .Eq (.var 3) (.int 1)) (.seq (.asg 2 .s (.call 47 (.cons (.call 1 (.cons (.call 0 (.cons (.var 0) (.cons (.int 1) .nil))) .nil)) (.cons (.int 40) .nil))))
 .skip) .skip)
 (.seq (.asg 4 .s (.b1 .len (.var 2)))
 (.seq (.asg 5 .s (.make "Order" 27 (.cons (.var 4) (.cons (.call 22 (.cons (.bor 1) (.cons (.var 2) .nil))) .nil))))
 (.seq (.asg 6 .s (.call 53 (.cons (.var 2) .nil)))
 (.seq (.asg 7 .s (.b1 .max (.bin .Add (.lst .s (.cons (.neg (.int 1)) .nil)) (.var 6))))
 (.seq (.asg 8 .s (.comp .s [("_law_height", 9)] (.tn 9) (.rng1 (.bin .Add (.var 7) (.int 1))) .nil (.comp .s [("_law_element", 10)] (.tn 10) (.rng1 (.var 4)) (.cons (.cmp .Eq (.idx (.var 6) (.var 10)) (.var 9)) .nil) (.var 10))))
 (.seq (.for_ (.tn 11) (.rng1 (.int 2))
 (.seq (.asg 12 (.o .s) (.call 50 (.cons (.var 5) .nil)))
 (.seq (.asg 13 (.o (.o .s)) (.call 51 (.cons (.var 5) .nil)))
 (.seq (.asg 14 (.o .s) (.call 52 (.cons (.var 5) .nil)))
 (.seq (.ifs (.pur (.or (.cmp .NotEq (.b1 .repr (.var 12)) (.b1 .repr (.var 6))) (.or (.cmp .NotEq (.b1 .repr (.var 13)) (.b1 .repr (.var 8))) (.one (.not (.isT .list (.var 14))))))) (.seq (.ret (.bl false))
 .skip) .skip)
 (.seq (.ifs (.pur (.or (.not (.call 45 (.cons (.var 14) .nil))) (.or (.cmp .NotEq (.b1 .len (.var 14)) (.bin .Add (.var 7) (.int 1))) (.one (.not (.b1 .all (.comp .s [("_law_one", 15)] (.tn 15) (.itr (.var 14)) .nil (.and (.cmp .LtE (.int 0) (.var 15)) (.one (.cmp .Lt (.var 15) (.var 4))))))))))) (.seq (.ret (.bl false))
 .skip) .skip)
 (.seq (.ifs (.pur (.not (.call 54 (.cons (.var 2) (.cons (.var 14) .nil))))) (.seq (.ret (.bl false))
 .skip) .skip)
 (.seq (.ex (.app (.bor 12) (.int 4)))
 (.seq (.ifs (.cmp .Gt (.b1 .len (.bor 13)) (.int 0)) (.seq (.ex (.app (.bidx (.bor 13) (.int 0)) (.int 9)))
 .skip) .skip)
 (.seq (.ex (.app (.bor 13) (.lst .s (.cons (.int 1) .nil))))
 (.seq (.ex (.app (.bor 14) (.int 0)))
 .skip)))))))))))
 (.seq (.ret (.call 43 (.cons (.var 5) (.cons (.var 2) .nil))))
 .skip))))))))))))

def IvLaw (ns : List Int) (z : St3) (n : Nat) (t : Nat → Nat → Bool) (hs : List Nat) (kd : Nat) (k : Nat) (ρ : Env) : Prop := ∃ v9 v10 v11 v12 v13 v14 v15, ρ = [some (.s, .scr ns), some (.o .s, stD z), some (.s, tabD n t), some (.s, .int (kd : Nat)), some (.s, .int (n : Nat)), some (.s, ordD n t), some (.s, .lst (nsL hs)), some (.s, .int ((cntH hs : Int) - 1)), some (.s, .lst (lvlL hs n)), v9, v10, v11, v12, v13, v14, v15]
theorem ok_law {T : List FSpec} (t : TLaw T) (t4 : T[4]? = some spClosed) (t6 : T[6]? = some spAnyPairs) (t43 : T[43]? = some spSameTab) (t45 : T[45]? = some spAreInts) (t47 : T[47]? = some spNear)
    (t50 : T[50]? = some spHeights) (t51 : T[51]? = some spLevels) (t52 : T[52]? = some spLong) (t53 : T[53]? = some spLHeights) (t54 : T[54]? = some spIsChain) : wD T spLaw c_law 16 := by
  refine wD_of fun ds R ⟨ns, e, hl, h⟩ => ?_
  subst e
  show wS _ [] _ _ [some (.s, .scr ns), none, none, none, none, none, none, none, none, none, none, none, none, none, none, none]
  unfold c_law
  have s1 : (1000000 : Nat) ≤ sizeLine := by decide
  obtain ⟨t0, t1, t2, t20, t22, t27⟩ := t
  refine x_step fun K hK => ?_
  simp [t0, t1]
  refine ⟨ns, 0, rfl, by decide, fun r => ?_⟩
  simp [t1]
  refine ⟨r, rfl, fun z => ?_⟩
  simp
  refine hK _ (x_step fun K1 hK1 => ?_)
  simp [t20]
  refine ⟨z, 9, rfl, by omega, fun z1 n1 u1 hn1 ho1 => ?_⟩
  simp
  refine hK1 _ (x_step fun K2 hK2 => ?_)
  simp [t2]
  refine run_draw (by omega) (by omega) fun kd z2 hr => ?_
  simp
  refine hK2 _ (x_step fun K3 hK3 => ?_)
  have go : ∀ (n : Nat) (t : Nat → Nat → Bool), n ≤ 40 → Ord n t → K3 [some (.s, .scr ns), some (.o .s, stD z2), some (.s, tabD n t), some (.s, .int (kd : Nat)), none, none, none, none, none, none, none, none, none, none, none, none] := fun n1 u1 hn1 ho1 => ?_
  · rw [x_Sifs, x_Tcmp]
    simp
    split
    · simp [t0, t1, t4, t6]
      refine ⟨ns, 1, rfl, by decide, fun c => ⟨c, rfl, fun z3 => ⟨z3, 30, rfl, by omega, fun z4 ps hp => ?_⟩⟩⟩
      refine run_closed (n := 30) (by omega) hp fun t ht _ => ?_
      simp
      exact go 30 t (by omega) ht
    · exact go n1 u1 (by omega) ho1
  refine hK3 _ (x_step fun K4 hK4 => ?_)
  have go2 : ∀ (n : Nat) (t : Nat → Nat → Bool), n ≤ 40 → Ord n t → K4 [some (.s, .scr ns), some (.o .s, stD z2), some (.s, tabD n t), some (.s, .int (kd : Nat)), none, none, none, none, none, none, none, none, none, none, none, none] := fun n t hn ho => ?_
  · rw [x_Sifs, x_Tcmp]
    simp
    split
    · simp [t0, t1, t47]
      refine ⟨ns, 1, rfl, by decide, fun c => ⟨c, rfl, fun z3 => ⟨z3, 40, rfl, by omega, by omega, fun z4 t ht => ?_⟩⟩⟩
      simp
      exact go2 40 t (by omega) ht
    · exact go2 n1 u1 (by omega) ho1
  refine hK4 _ (x_step fun K5 hK5 => ?_)
  simp
  refine hK5 _ (x_step fun K6 hK6 => ?_)
  simp [t22, t27]
  refine ⟨z2, n, t, rfl, by omega, fun z3 qs hq => ?_⟩
  simp
  refine run_order hn ho hq ?_
  simp
  refine hK6 _ (x_step fun K7 hK7 => ?_)
  simp [t53]
  refine ⟨n, t, rfl, by omega, ho, fun hs hl hh => ?_⟩
  simp
  refine hK7 _ (x_step fun K8 hK8 => ?_)
  have hc := cntH_le ho hl hh
  simp
  refine ⟨by omega, max_run1 ?_⟩
  refine hK8 _ (x_step fun K9 hK9 => ?_)
  rw [x_Sasg]
  refine wE_compR0 (n := cntH hs) (fun k => .lst (nsL (lvlK hs n k))) (fun R hR => ?_) (by omega) (by simp) (by simp) (fun j hj R hR => ?_) ?_
  · simp
    exact hR
  · refine wE_compR (n := n) (fun i => decide (nm hs i = j)) (fun i => .int (i : Nat)) (fun R hR => by simp; exact hR) (by omega) (by simp) (by simp) (fun i hi Q hQ => ?_) (fun i hi _ R hR => ?_) ?_
    · simp
      refine ⟨_, atI_nm (by omega), ?_⟩
      simp
      rw [dec_nat]
      exact hQ
    · simp
      exact hR _ rfl
    · exact hR _ rfl
  simp
  refine hK9 _ (x_step fun K10 hK10 => ?_)
  refine wS_rng1 (IvLaw ns z3 n t hs kd) (n := 2) (fun R hR => by simp; exact hR) (by omega) (by simp) ⟨_, _, _, _, _, _, _, rfl⟩ (fun k ρ hk ⟨v9, v10, v11, v12, v13, v14, v15, e⟩ => ?_) (fun ρ ⟨v9, v10, v11, v12, v13, v14, v15, e⟩ => ?_)
  · subst e
    simp only [List.set_cons_succ, List.set_cons_zero]
    refine x_step fun L1 h1 => ?_
    simp [t50]
    refine ⟨n, t, rfl, by omega, ho, fun hs2 hl2 hh2 => ?_⟩
    obtain rfl : hs2 = hs := by
      refine List.ext_getElem (by omega) fun i i1 i2 => ?_
      rw [nm_at, nm_at]
      exact hh2.eq ho hh i (by omega)
    simp
    refine h1 _ (x_step fun L2 h2 => ?_)
    simp [t51]
    refine ⟨n, t, rfl, by omega, ho, fun hs3 hl3 hh3 => ?_⟩
    obtain rfl : hs3 = hs2 := by
      refine List.ext_getElem (by omega) fun i i1 i2 => ?_
      rw [nm_at, nm_at]
      exact hh3.eq ho hh i (by omega)
    simp
    refine h2 _ (x_step fun L3 h3 => ?_)
    simp [t52]
    refine ⟨n, t, rfl, by omega, ho, fun hs4 cs hl4 hh4 hcs hris => ?_⟩
    obtain rfl : hs4 = hs3 := by
      refine List.ext_getElem (by omega) fun i i1 i2 => ?_
      rw [nm_at, nm_at]
      exact hh4.eq ho hh i (by omega)
    simp
    refine h3 _ (x_step fun L4 h4 => ?_)
    rw [x_Sifs, x_Tpur]
    simp
    have hcl : ∀ x ∈ hs4, x < n + 1 := fun x hx => Nat.lt_of_lt_of_le (lt_cntH hx) hc
    have sm1 := sm_ns (ns := hs4) fun x hx => small_of (hcl x hx) (by omega)
    have sm2 : Sm (.lst (lvlL hs4 n)) 2 (2 + (lvlL hs4 n).length * (2 + 40 * 64 + 2)) := sm_lst fun x hx => by
      obtain ⟨j, hj, rfl⟩ := List.mem_map.mp hx
      refine (sm_ns (ns := lvlK hs4 n j) fun x hx => ?_).mono (Nat.le_refl _) ?_
      · exact small_of (List.mem_range.mp (List.mem_filter.mp hx).1) (by omega)
      · have := lvlK_len (hs := hs4) (k := n) (h := j)
        have := Nat.mul_le_mul_right 64 (Nat.le_trans this hn)
        omega
    rw [lvlL_len] at sm2
    have hb : 2 + cntH hs4 * (2 + 40 * 64 + 2) ≤ sizeLine := by
      have := Nat.mul_le_mul_right (2 + 40 * 64 + 2) (show cntH hs4 ≤ 41 by omega)
      omega
    refine ⟨sm1.show (by decide) (by omega), sm2.show (by decide) hb, ?_⟩
    refine h4 _ (x_step fun L5 h5 => ?_)
    rw [x_Sifs, x_Tpur]
    simp [t45]
    refine ⟨cs, _, rfl, .inl rfl, by omega, ?_⟩
    simp
    rw [hcs]
    rw [if_pos rfl]
    refine wE_compL cs (fun j => .int (j : Nat)) (fun _ => true) (fun _ => .bl true) (mx := .s) (.inl rfl) (fun R hR => by simp; exact hR) (by simp) (by omega) (fun j hj Q hQ => by rw [x_Cn]; exact hQ) (fun j hj _ R hR => ?_) ?_
    · have := hris.lt j hj
      simp
      rw [decide_eq_true this]
      exact hR _ rfl
    rw [List.filter_eq_self.mpr (fun _ _ => rfl), x_fall]
    refine ⟨cs.map fun _ => true, by rw [List.map_map]; rfl, ?_⟩
    simp
    refine h5 _ (x_step fun L6 h6 => ?_)
    rw [x_Sifs, x_Tpur]
    simp [t54]
    refine ⟨n, t, cs, rfl, by omega, hris, ?_⟩
    simp
    refine h6 _ (x_step fun L7 h7 => ?_)
    simp
    refine ⟨by omega, h7 _ (x_step fun L8 h8 => ?_)⟩
    rw [x_Sifs, x_Tcmp]
    simp
    rw [lvlL_len]
    split
    · refine ⟨0, ?_, _, lvlL_get (by omega), ?_⟩
      · exact ixN_nat (k := 0) (by omega)
      simp
      have := lvlK_len (hs := hs4) (k := n) (h := 0)
      refine ⟨by omega, h8 _ (x_step fun L9 h9 => ?_)⟩
      simp
      rw [lvlL_len]
      refine ⟨by omega, h9 _ (x_step fun L10 h10 => ?_)⟩
      simp
      exact ⟨by omega, h10 _ (by simp; exact ⟨_, _, _, _, _, _, _, rfl⟩)⟩
    · refine h8 _ (x_step fun L9 h9 => ?_)
      simp
      rw [lvlL_len]
      refine ⟨by omega, h9 _ (x_step fun L10 h10 => ?_)⟩
      simp
      exact ⟨by omega, h10 _ (by simp; exact ⟨_, _, _, _, _, _, _, rfl⟩)⟩
  · subst e
    refine hK10 _ ?_
    simp [t43]
    refine ⟨n, n, t, t, rfl, by omega, by omega, fun _ => ?_, fun z => absurd ⟨rfl, rfl⟩ z⟩
    simp
    exact ⟨rfl, h⟩
end Y
namespace Y
open PySem PySem.Spec PyProof.Rows L2
namespace Hd
def top (i : Nat) : Stmt := PySem.Challenge.pw_drawnorders_k05_heights_and_chains.main.body.getD i (.Pass ⟨0, 0, 0, 0⟩)
def inCls : Stmt → Nat → Stmt
  | .ClassDef _ _ _ b _ _ _ _ _ _ _, j => b.getD j (.Pass ⟨0, 0, 0, 0⟩)
  | _, _ => .Pass ⟨0, 0, 0, 0⟩
def e0 : Fx := ⟨"_law_cell", "_law_cell", .fn, top 18, ["_law_script", "_law_k"], ["_law_script", "_law_k"], c_cell, 1, once spCell, 0⟩
def e1 : Fx := ⟨"_law_stream", "_law_stream", .fn, top 19, ["_law_cell_here"], ["_law_cell_here"], c_stream, 1, once spStream, 0⟩
def e2 : Fx := ⟨"_law_draw", "_law_draw", .fn, top 20, ["_law_stream_here", "_law_many", "_law_digit", "_law_mixed_here"], ["_law_stream_here", "_law_many"], c_draw, 1, once spDraw, 0⟩
def e3 : Fx := ⟨"_law_mixed", "_law_mixed", .fn, top 21, ["_law_stream_here", "_law_items", "_law_rest", "_law_found", "_law_k"], ["_law_stream_here", "_law_items"], c_mixed, 1, once spMixed, 0⟩
def e4 : Fx := ⟨"_law_closed", "_law_closed", .fn, top 22, ["_law_size", "_law_pairs_here", "_law_table", "_law_k", "_law_low", "_law_high", "_law_through"], ["_law_size", "_law_pairs_here"], c_closed, 1, once spClosed, 0⟩
def e5 : Fx := ⟨"_law_pairs", "_law_pairs", .fn, top 23, ["_law_table", "_law_found", "_law_low", "_law_high"], ["_law_table"], c_pairs, 1, once spPairs, 0⟩
def e6 : Fx := ⟨"_law_any_pairs", "_law_any_pairs", .fn, top 29, ["_law_stream_here", "_law_size", "_law_names", "_law_often", "_law_pairs_here", "_law_low", "_law_high"], ["_law_stream_here", "_law_size"], c_any_pairs, 1, once spAnyPairs, 0⟩
def e7 : Fx := ⟨"_law_any_spans", "_law_any_spans", .fn, top 30, ["_law_stream_here", "_law_size", "_law_most", "_law_length", "_law_spans", "_law_k", "_law_left", "_law_right"], ["_law_stream_here", "_law_size", "_law_most", "_law_length"], c_any_spans, 1, once spAnySpans, 0⟩
def e8 : Fx := ⟨"_law_by_spans", "_law_by_spans", .fn, top 31, ["_law_spans", "_law_size", "_law_found", "_law_low", "_law_high"], ["_law_spans"], c_by_spans, 1, once spBySpans, 0⟩
def e9 : Fx := ⟨"_law_by_rows", "_law_by_rows", .fn, top 32, ["_law_one", "_law_other", "_law_found", "_law_at", "_law_high"], ["_law_one", "_law_other"], c_by_rows, 1, once spByRows, 0⟩
def e10 : Fx := ⟨"_law_any_tree", "_law_any_tree", .fn, top 33, ["_law_stream_here", "_law_members", "_law_word", "_law_parts", "_law_rest", "_law_k", "_law_many", "_law_following", "_law_branch"], ["_law_stream_here", "_law_members", "_law_word"], c_any_tree, treeDep, famTree, 0⟩
def e11 : Fx := ⟨"_law_tree_members", "_law_tree_members", .fn, top 34, ["_law_tree", "_law_found", "_law_branch"], ["_law_tree"], c_tree_members, treeDep, famMems, 0⟩
def e12 : Fx := ⟨"_law_by_tree", "_law_by_tree", .fn, top 35, ["_law_tree", "_law_found", "_law_lower", "_law_branch", "_law_members", "_law_low", "_law_high"], ["_law_tree"], c_by_tree, treeDep, famTprs, 0⟩
def e13 : Fx := ⟨"_law_any_arcs", "_law_any_arcs", .fn, top 36, ["_law_stream_here", "_law_size", "_law_nodes", "_law_arcs", "_law_k", "_law_tail"], ["_law_stream_here", "_law_size"], c_any_arcs, 1, once spAnyArcs, 0⟩
def e14 : Fx := ⟨"_law_by_arcs", "_law_by_arcs", .fn, top 37, ["_law_arcs", "_law_size", "_law_found", "_law_low", "_law_high"], ["_law_arcs"], c_by_arcs, 1, once spByArcs, 0⟩
def e15 : Fx := ⟨"_law_any_parents", "_law_any_parents", .fn, top 38, ["_law_stream_here", "_law_size", "_law_names", "_law_parents", "_law_k"], ["_law_stream_here", "_law_size"], c_any_parents, 1, once spAnyParents, 0⟩
def e16 : Fx := ⟨"_law_by_parents", "_law_by_parents", .fn, top 39, ["_law_parents", "_law_k"], ["_law_parents"], c_by_parents, 1, once spByParents, 0⟩
def e17 : Fx := ⟨"_law_by_ranks", "_law_by_ranks", .fn, top 40, ["_law_ranks", "_law_size", "_law_found", "_law_low", "_law_high"], ["_law_ranks"], c_by_ranks, 1, once spByRanks, 0⟩
def e18 : Fx := ⟨"_law_crown", "_law_crown", .fn, top 41, ["_law_stream_here", "_law_size", "_law_names", "_law_pairs_here", "_law_k", "_law_j", "_law_low", "_law_high"], ["_law_stream_here", "_law_size"], c_crown, 1, once spCrown, 0⟩
def e19 : Fx := ⟨"_law_family", "_law_family", .fn, top 42, ["_law_stream_here", "_law_size", "_law_family_here", "_law_k"], ["_law_stream_here", "_law_size", "_law_family_here"], c_family, 1, once spFamily, 0⟩
def e20 : Fx := ⟨"_law_any_order", "_law_any_order", .fn, top 44, ["_law_stream_here", "_law_most", "_law_size", "_law_pairs_here", "_law_table", "_law_kept", "_law_low", "_law_high"], ["_law_stream_here", "_law_most"], c_any_order, 1, once spAnyOrder, 0⟩
def e21 : Fx := ⟨"_law_covers", "_law_covers", .fn, top 24, ["_law_table", "_law_low", "_law_high", "_law_k"], ["_law_table", "_law_low", "_law_high"], c_covers, 1, once spCovers, 0⟩
def e22 : Fx := ⟨"_law_told", "_law_told", .fn, top 45, ["_law_stream_here", "_law_table", "_law_pairs_here", "_law_low", "_law_high"], ["_law_stream_here", "_law_table"], c_told, 1, once spTold, 0⟩
def e23 : Fx := ⟨"elements_of", "elements_of", .fn, top 12, ["mask", "found", "at"], ["mask"], c_elements_of, 1, once spElems, 0⟩
def e24 : Fx := ⟨"mask_of", "mask_of", .fn, top 13, ["members", "mask", "element"], ["members"], c_mask_of, 1, once spMask, 0⟩
def e25 : Fx := ⟨"found_ring", "found_ring", .fn, top 14, ["direct", "state", "first", "way", "left", "following"], ["direct"], c_found_ring, 1, once spRing, 0⟩
def e26 : Fx := ⟨"closed_masks", "closed_masks", .fn, top 15, ["direct", "masks", "row", "through", "element"], ["direct"], c_closed_masks, 1, once spClosedM, 0⟩
def e27 : Fx := ⟨"__init__", "Order.__init__", .mk "Order", inCls (top 16) 0, ["self", "size", "pairs", "direct", "element", "index", "low", "high", "ring"], ["self", "size", "pairs"], c_Order___init__, 1, once spInit, 0⟩
def e28 : Fx := ⟨"below", "Order.below", .me "Order", inCls (top 16) 4, ["self", "low", "high"], ["self", "low", "high"], c_Order_below, 1, once spBelow, 0⟩
def e29 : Fx := ⟨"_law_cell", "_law_cell", .fn, top 18, ["_law_script", "_law_k"], ["_law_script", "_law_k"], c_cell, 1, once spCell, 0⟩
def e30 : Fx := ⟨"_law_cell", "_law_cell", .fn, top 18, ["_law_script", "_law_k"], ["_law_script", "_law_k"], c_cell, 1, once spCell, 0⟩
def e31 : Fx := ⟨"_law_cell", "_law_cell", .fn, top 18, ["_law_script", "_law_k"], ["_law_script", "_law_k"], c_cell, 1, once spCell, 0⟩
def e32 : Fx := ⟨"size", "Order.size", .pr "Order", inCls (top 16) 1, ["self"], ["self"], c_Order_size, 1, once spSize, 0⟩
def e33 : Fx := ⟨"pairs", "Order.pairs", .me "Order", inCls (top 16) 11, ["self"], ["self"], c_Order_pairs, 1, once spOPairs, 0⟩
def e34 : Fx := ⟨"above", "Order.above", .me "Order", inCls (top 16) 9, ["self", "element"], ["self", "element"], c_Order_above, 1, once spAbove, 0⟩
def e35 : Fx := ⟨"under", "Order.under", .me "Order", inCls (top 16) 10, ["self", "element"], ["self", "element"], c_Order_under, 1, once spUnder, 0⟩
def e36 : Fx := ⟨"_law_cell", "_law_cell", .fn, top 18, ["_law_script", "_law_k"], ["_law_script", "_law_k"], c_cell, 1, once spCell, 0⟩
def e37 : Fx := ⟨"_law_cell", "_law_cell", .fn, top 18, ["_law_script", "_law_k"], ["_law_script", "_law_k"], c_cell, 1, once spCell, 0⟩
def e38 : Fx := ⟨"_law_cell", "_law_cell", .fn, top 18, ["_law_script", "_law_k"], ["_law_script", "_law_k"], c_cell, 1, once spCell, 0⟩
def e39 : Fx := ⟨"_law_cell", "_law_cell", .fn, top 18, ["_law_script", "_law_k"], ["_law_script", "_law_k"], c_cell, 1, once spCell, 0⟩
def e40 : Fx := ⟨"_law_cell", "_law_cell", .fn, top 18, ["_law_script", "_law_k"], ["_law_script", "_law_k"], c_cell, 1, once spCell, 0⟩
def e41 : Fx := ⟨"lowest", "Order.lowest", .me "Order", inCls (top 16) 14, ["self", "element"], ["self"], c_Order_lowest, 1, once spLowest, 0⟩
def e42 : Fx := ⟨"_law_cell", "_law_cell", .fn, top 18, ["_law_script", "_law_k"], ["_law_script", "_law_k"], c_cell, 1, once spCell, 0⟩
def e43 : Fx := ⟨"_law_same_table", "_law_same_table", .fn, top 28, ["_law_order", "_law_table"], ["_law_order", "_law_table"], c_same_table, 1, once spSameTab, 0⟩
def e44 : Fx := ⟨"_law_is_integer", "_law_is_integer", .fn, top 26, ["_law_actual"], ["_law_actual"], c_is_integer, 1, once spIsInt, 0⟩
def e45 : Fx := ⟨"_law_are_integers", "_law_are_integers", .fn, top 27, ["_law_actual", "_law_item"], ["_law_actual"], c_are_integers, 1, once spAreInts, 0⟩
def e46 : Fx := ⟨"_law_cell", "_law_cell", .fn, top 18, ["_law_script", "_law_k"], ["_law_script", "_law_k"], c_cell, 1, once spCell, 0⟩
def e47 : Fx := ⟨"_law_near_chain", "_law_near_chain", .fn, top 43, ["_law_stream_here", "_law_size", "_law_names", "_law_pairs_here", "_law_k"], ["_law_stream_here", "_law_size"], c_near_chain, 1, once spNear, 0⟩
def e48 : Fx := ⟨"_law_cell", "_law_cell", .fn, top 18, ["_law_script", "_law_k"], ["_law_script", "_law_k"], c_cell, 1, once spCell, 0⟩
def e49 : Fx := ⟨"_law_cell", "_law_cell", .fn, top 18, ["_law_script", "_law_k"], ["_law_script", "_law_k"], c_cell, 1, once spCell, 0⟩
def e50 : Fx := ⟨"heights", "heights", .fn, top 2, ["order", "found", "element", "one", "lower"], ["order"], c_heights, 1, once spHeights, 4⟩
def e51 : Fx := ⟨"levels", "levels", .fn, top 3, ["order", "table", "found", "height", "element"], ["order"], c_levels, 1, once spLevels, 0⟩
def e52 : Fx := ⟨"longest_chain", "longest_chain", .fn, top 4, ["order", "table", "chain", "height", "lower"], ["order"], c_longest_chain, 1, once spLong, 0⟩
def e53 : Fx := ⟨"_law_heights", "_law_heights", .fn, top 25, ["_law_table", "_law_size", "_law_found", "_law_k", "_law_low", "_law_high"], ["_law_table"], c_l_heights, 1, once spLHeights, 0⟩
def e54 : Fx := ⟨"_law_is_chain", "_law_is_chain", .fn, top 46, ["_law_table", "_law_row", "_law_k"], ["_law_table", "_law_row"], c_is_chain, 1, once spIsChain, 0⟩
def e55 : Fx := ⟨"law", "law", .fn, top 47, ["_law_script", "_law_stream_here", "_law_table", "_law_kind", "_law_size", "_law_order", "_law_due", "_law_most", "_law_series", "_law_height", "_law_element", "_law_turn", "_law_told_here", "_law_lists", "_law_chain", "_law_one"], ["_law_script"], c_law, 1, once spLaw, 0⟩
def fs : List Fx := [e0, e1, e2, e3, e4, e5, e6, e7, e8, e9, e10, e11, e12, e13, e14, e15, e16, e17, e18, e19, e20, e21, e22, e23, e24, e25, e26, e27, e28, e29, e30, e31, e32, e33, e34, e35, e36, e37, e38, e39, e40, e41, e42, e43, e44, e45, e46, e47, e48, e49, e50, e51, e52, e53, e54, e55]
def flds : List Str := ["_size", "_up", "_down", "_pairs"]
def gis : List (Str × Int) := [("MOST", 40)]
def cs : List Str := ["Order"]
theorem m0 : mB ⟨e0.N, defScope e0.st, fun _ => true, fs.map (·.x), fs.map (·.kd), flds, gis, e0.lr⟩ e0.body (defBody e0.st) = true := by decide +kernel
theorem x0 : FxOk fs flds gis 0 e0 := ⟨⟨rfl, rfl, rfl, by decide +kernel, rfl, by decide +kernel, by decide +kernel⟩, fun n => by cases n <;> rfl, m0, fun _ _ h => h, fun _ _ => rfl, fun n => ok_cell⟩
theorem b0 : BindOk e0 := fun _ _ _ _ _ _ us hl => match us, hl with | [_, _], _ => rfl
theorem m1 : mB ⟨e1.N, defScope e1.st, fun _ => true, fs.map (·.x), fs.map (·.kd), flds, gis, e1.lr⟩ e1.body (defBody e1.st) = true := by decide +kernel
theorem x1 : FxOk fs flds gis 1 e1 := ⟨⟨rfl, rfl, rfl, by decide +kernel, rfl, by decide +kernel, by decide +kernel⟩, fun n => by cases n <;> rfl, m1, fun _ _ h => h, fun _ _ => rfl, fun n => ok_stream⟩
theorem b1 : BindOk e1 := fun _ _ _ _ _ _ us hl => match us, hl with | [_], _ => rfl
theorem m2 : mB ⟨e2.N, defScope e2.st, fun _ => true, fs.map (·.x), fs.map (·.kd), flds, gis, e2.lr⟩ e2.body (defBody e2.st) = true := by decide +kernel
theorem x2 : FxOk fs flds gis 2 e2 := ⟨⟨rfl, rfl, rfl, by decide +kernel, rfl, by decide +kernel, by decide +kernel⟩, fun n => by cases n <;> rfl, m2, fun _ _ h => h, fun _ _ => rfl, fun n => ok_draw⟩
theorem b2 : BindOk e2 := fun _ _ _ _ _ _ us hl => match us, hl with | [_, _], _ => rfl
theorem m3 : mB ⟨e3.N, defScope e3.st, fun _ => true, fs.map (·.x), fs.map (·.kd), flds, gis, e3.lr⟩ e3.body (defBody e3.st) = true := by decide +kernel
theorem x3 : FxOk fs flds gis 3 e3 := ⟨⟨rfl, rfl, rfl, by decide +kernel, rfl, by decide +kernel, by decide +kernel⟩, fun n => by cases n <;> rfl, m3, fun _ _ h => h, fun _ _ => rfl, fun n => ok_mixed rfl⟩
theorem b3 : BindOk e3 := fun _ _ _ _ _ _ us hl => match us, hl with | [_, _], _ => rfl
theorem m4 : mB ⟨e4.N, defScope e4.st, fun _ => true, fs.map (·.x), fs.map (·.kd), flds, gis, e4.lr⟩ e4.body (defBody e4.st) = true := by decide +kernel
theorem x4 : FxOk fs flds gis 4 e4 := ⟨⟨rfl, rfl, rfl, by decide +kernel, rfl, by decide +kernel, by decide +kernel⟩, fun n => by cases n <;> rfl, m4, fun _ _ h => h, fun _ _ => rfl, fun n => ok_closed⟩
theorem b4 : BindOk e4 := fun _ _ _ _ _ _ us hl => match us, hl with | [_, _], _ => rfl
theorem m5 : mB ⟨e5.N, defScope e5.st, fun _ => true, fs.map (·.x), fs.map (·.kd), flds, gis, e5.lr⟩ e5.body (defBody e5.st) = true := by decide +kernel
theorem x5 : FxOk fs flds gis 5 e5 := ⟨⟨rfl, rfl, rfl, by decide +kernel, rfl, by decide +kernel, by decide +kernel⟩, fun n => by cases n <;> rfl, m5, fun _ _ h => h, fun _ _ => rfl, fun n => ok_pairs⟩
theorem b5 : BindOk e5 := fun _ _ _ _ _ _ us hl => match us, hl with | [_], _ => rfl
theorem m6 : mB ⟨e6.N, defScope e6.st, fun _ => true, fs.map (·.x), fs.map (·.kd), flds, gis, e6.lr⟩ e6.body (defBody e6.st) = true := by decide +kernel
theorem x6 : FxOk fs flds gis 6 e6 := ⟨⟨rfl, rfl, rfl, by decide +kernel, rfl, by decide +kernel, by decide +kernel⟩, fun n => by cases n <;> rfl, m6, fun _ _ h => h, fun _ _ => rfl, fun n => ok_any_pairs rfl rfl⟩
theorem b6 : BindOk e6 := fun _ _ _ _ _ _ us hl => match us, hl with | [_, _], _ => rfl
theorem m7 : mB ⟨e7.N, defScope e7.st, fun _ => true, fs.map (·.x), fs.map (·.kd), flds, gis, e7.lr⟩ e7.body (defBody e7.st) = true := by decide +kernel
theorem x7 : FxOk fs flds gis 7 e7 := ⟨⟨rfl, rfl, rfl, by decide +kernel, rfl, by decide +kernel, by decide +kernel⟩, fun n => by cases n <;> rfl, m7, fun _ _ h => h, fun _ _ => rfl, fun n => ok_any_spans rfl⟩
theorem b7 : BindOk e7 := fun _ _ _ _ _ _ us hl => match us, hl with | [_, _, _, _], _ => rfl
theorem m8 : mB ⟨e8.N, defScope e8.st, fun _ => true, fs.map (·.x), fs.map (·.kd), flds, gis, e8.lr⟩ e8.body (defBody e8.st) = true := by decide +kernel
theorem x8 : FxOk fs flds gis 8 e8 := ⟨⟨rfl, rfl, rfl, by decide +kernel, rfl, by decide +kernel, by decide +kernel⟩, fun n => by cases n <;> rfl, m8, fun _ _ h => h, fun _ _ => rfl, fun n => ok_by_spans⟩
theorem b8 : BindOk e8 := fun _ _ _ _ _ _ us hl => match us, hl with | [_], _ => rfl
theorem m9 : mB ⟨e9.N, defScope e9.st, fun _ => true, fs.map (·.x), fs.map (·.kd), flds, gis, e9.lr⟩ e9.body (defBody e9.st) = true := by decide +kernel
theorem x9 : FxOk fs flds gis 9 e9 := ⟨⟨rfl, rfl, rfl, by decide +kernel, rfl, by decide +kernel, by decide +kernel⟩, fun n => by cases n <;> rfl, m9, fun _ _ h => h, fun _ _ => rfl, fun n => ok_by_rows⟩
theorem b9 : BindOk e9 := fun _ _ _ _ _ _ us hl => match us, hl with | [_, _], _ => rfl
theorem m10 : mB ⟨e10.N, defScope e10.st, fun _ => true, fs.map (·.x), fs.map (·.kd), flds, gis, e10.lr⟩ e10.body (defBody e10.st) = true := by decide +kernel
theorem x10 : FxOk fs flds gis 10 e10 := ⟨⟨rfl, rfl, rfl, by decide +kernel, rfl, by decide +kernel, by decide +kernel⟩, fun n => by cases n <;> rfl, m10, fun _ _ h => tree0 h, fun _ _ => rfl, fun n => ok_any_tree rfl rfl⟩
theorem b10 : BindOk e10 := fun _ _ _ _ _ _ us hl => match us, hl with | [_, _, _], _ => rfl
theorem m11 : mB ⟨e11.N, defScope e11.st, fun _ => true, fs.map (·.x), fs.map (·.kd), flds, gis, e11.lr⟩ e11.body (defBody e11.st) = true := by decide +kernel
theorem x11 : FxOk fs flds gis 11 e11 := ⟨⟨rfl, rfl, rfl, by decide +kernel, rfl, by decide +kernel, by decide +kernel⟩, fun n => by cases n <;> rfl, m11, fun _ _ h => mems0 h, fun _ _ => rfl, fun n => ok_mems rfl⟩
theorem b11 : BindOk e11 := fun _ _ _ _ _ _ us hl => match us, hl with | [_], _ => rfl
theorem m12 : mB ⟨e12.N, defScope e12.st, fun _ => true, fs.map (·.x), fs.map (·.kd), flds, gis, e12.lr⟩ e12.body (defBody e12.st) = true := by decide +kernel
theorem x12 : FxOk fs flds gis 12 e12 := ⟨⟨rfl, rfl, rfl, by decide +kernel, rfl, by decide +kernel, by decide +kernel⟩, fun n => by cases n <;> rfl, m12, fun _ _ h => tprs0 h, fun _ _ => rfl, fun n => ok_tprs rfl rfl⟩
theorem b12 : BindOk e12 := fun _ _ _ _ _ _ us hl => match us, hl with | [_], _ => rfl
theorem m13 : mB ⟨e13.N, defScope e13.st, fun _ => true, fs.map (·.x), fs.map (·.kd), flds, gis, e13.lr⟩ e13.body (defBody e13.st) = true := by decide +kernel
theorem x13 : FxOk fs flds gis 13 e13 := ⟨⟨rfl, rfl, rfl, by decide +kernel, rfl, by decide +kernel, by decide +kernel⟩, fun n => by cases n <;> rfl, m13, fun _ _ h => h, fun _ _ => rfl, fun n => ok_any_arcs rfl⟩
theorem b13 : BindOk e13 := fun _ _ _ _ _ _ us hl => match us, hl with | [_, _], _ => rfl
theorem m14 : mB ⟨e14.N, defScope e14.st, fun _ => true, fs.map (·.x), fs.map (·.kd), flds, gis, e14.lr⟩ e14.body (defBody e14.st) = true := by decide +kernel
theorem x14 : FxOk fs flds gis 14 e14 := ⟨⟨rfl, rfl, rfl, by decide +kernel, rfl, by decide +kernel, by decide +kernel⟩, fun n => by cases n <;> rfl, m14, fun _ _ h => h, fun _ _ => rfl, fun n => ok_by_arcs⟩
theorem b14 : BindOk e14 := fun _ _ _ _ _ _ us hl => match us, hl with | [_], _ => rfl
theorem m15 : mB ⟨e15.N, defScope e15.st, fun _ => true, fs.map (·.x), fs.map (·.kd), flds, gis, e15.lr⟩ e15.body (defBody e15.st) = true := by decide +kernel
theorem x15 : FxOk fs flds gis 15 e15 := ⟨⟨rfl, rfl, rfl, by decide +kernel, rfl, by decide +kernel, by decide +kernel⟩, fun n => by cases n <;> rfl, m15, fun _ _ h => h, fun _ _ => rfl, fun n => ok_any_parents rfl rfl⟩
theorem b15 : BindOk e15 := fun _ _ _ _ _ _ us hl => match us, hl with | [_, _], _ => rfl
theorem m16 : mB ⟨e16.N, defScope e16.st, fun _ => true, fs.map (·.x), fs.map (·.kd), flds, gis, e16.lr⟩ e16.body (defBody e16.st) = true := by decide +kernel
theorem x16 : FxOk fs flds gis 16 e16 := ⟨⟨rfl, rfl, rfl, by decide +kernel, rfl, by decide +kernel, by decide +kernel⟩, fun n => by cases n <;> rfl, m16, fun _ _ h => h, fun _ _ => rfl, fun n => ok_by_parents⟩
theorem b16 : BindOk e16 := fun _ _ _ _ _ _ us hl => match us, hl with | [_], _ => rfl
theorem m17 : mB ⟨e17.N, defScope e17.st, fun _ => true, fs.map (·.x), fs.map (·.kd), flds, gis, e17.lr⟩ e17.body (defBody e17.st) = true := by decide +kernel
theorem x17 : FxOk fs flds gis 17 e17 := ⟨⟨rfl, rfl, rfl, by decide +kernel, rfl, by decide +kernel, by decide +kernel⟩, fun n => by cases n <;> rfl, m17, fun _ _ h => h, fun _ _ => rfl, fun n => ok_by_ranks⟩
theorem b17 : BindOk e17 := fun _ _ _ _ _ _ us hl => match us, hl with | [_], _ => rfl
theorem m18 : mB ⟨e18.N, defScope e18.st, fun _ => true, fs.map (·.x), fs.map (·.kd), flds, gis, e18.lr⟩ e18.body (defBody e18.st) = true := by decide +kernel
theorem x18 : FxOk fs flds gis 18 e18 := ⟨⟨rfl, rfl, rfl, by decide +kernel, rfl, by decide +kernel, by decide +kernel⟩, fun n => by cases n <;> rfl, m18, fun _ _ h => h, fun _ _ => rfl, fun n => ok_crown rfl rfl⟩
theorem b18 : BindOk e18 := fun _ _ _ _ _ _ us hl => match us, hl with | [_, _], _ => rfl
theorem m19 : mB ⟨e19.N, defScope e19.st, fun _ => true, fs.map (·.x), fs.map (·.kd), flds, gis, e19.lr⟩ e19.body (defBody e19.st) = true := by decide +kernel
theorem x19 : FxOk fs flds gis 19 e19 := ⟨⟨rfl, rfl, rfl, by decide +kernel, rfl, by decide +kernel, by decide +kernel⟩, fun n => by cases n <;> rfl, m19, fun _ _ h => h, fun _ _ => rfl, fun n => ok_family ⟨rfl, rfl, rfl, rfl, rfl, rfl, rfl, rfl, rfl, rfl, rfl, rfl, rfl, rfl⟩⟩
theorem b19 : BindOk e19 := fun _ _ _ _ _ _ us hl => match us, hl with | [_, _, _], _ => rfl
theorem m20 : mB ⟨e20.N, defScope e20.st, fun _ => true, fs.map (·.x), fs.map (·.kd), flds, gis, e20.lr⟩ e20.body (defBody e20.st) = true := by decide +kernel
theorem x20 : FxOk fs flds gis 20 e20 := ⟨⟨rfl, rfl, rfl, by decide +kernel, rfl, by decide +kernel, by decide +kernel⟩, fun n => by cases n <;> rfl, m20, fun _ _ h => h, fun _ _ => rfl, fun n => ok_any_order rfl rfl rfl⟩
theorem b20 : BindOk e20 := fun _ _ _ _ _ _ us hl => match us, hl with | [_, _], _ => rfl
theorem m21 : mB ⟨e21.N, defScope e21.st, fun _ => true, fs.map (·.x), fs.map (·.kd), flds, gis, e21.lr⟩ e21.body (defBody e21.st) = true := by decide +kernel
theorem x21 : FxOk fs flds gis 21 e21 := ⟨⟨rfl, rfl, rfl, by decide +kernel, rfl, by decide +kernel, by decide +kernel⟩, fun n => by cases n <;> rfl, m21, fun _ _ h => h, fun _ _ => rfl, fun n => ok_covers⟩
theorem b21 : BindOk e21 := fun _ _ _ _ _ _ us hl => match us, hl with | [_, _, _], _ => rfl
theorem m22 : mB ⟨e22.N, defScope e22.st, fun _ => true, fs.map (·.x), fs.map (·.kd), flds, gis, e22.lr⟩ e22.body (defBody e22.st) = true := by decide +kernel
theorem x22 : FxOk fs flds gis 22 e22 := ⟨⟨rfl, rfl, rfl, by decide +kernel, rfl, by decide +kernel, by decide +kernel⟩, fun n => by cases n <;> rfl, m22, fun _ _ h => h, fun _ _ => rfl, fun n => ok_told rfl rfl rfl rfl⟩
theorem b22 : BindOk e22 := fun _ _ _ _ _ _ us hl => match us, hl with | [_, _], _ => rfl
theorem m23 : mB ⟨e23.N, defScope e23.st, fun _ => true, fs.map (·.x), fs.map (·.kd), flds, gis, e23.lr⟩ e23.body (defBody e23.st) = true := by decide +kernel
theorem x23 : FxOk fs flds gis 23 e23 := ⟨⟨rfl, rfl, rfl, by decide +kernel, rfl, by decide +kernel, by decide +kernel⟩, fun n => by cases n <;> rfl, m23, fun _ _ h => h, fun _ _ => rfl, fun n => ok_elems⟩
theorem b23 : BindOk e23 := fun _ _ _ _ _ _ us hl => match us, hl with | [_], _ => rfl
theorem m24 : mB ⟨e24.N, defScope e24.st, fun _ => true, fs.map (·.x), fs.map (·.kd), flds, gis, e24.lr⟩ e24.body (defBody e24.st) = true := by decide +kernel
theorem x24 : FxOk fs flds gis 24 e24 := ⟨⟨rfl, rfl, rfl, by decide +kernel, rfl, by decide +kernel, by decide +kernel⟩, fun n => by cases n <;> rfl, m24, fun _ _ h => h, fun _ _ => rfl, fun n => ok_mask⟩
theorem b24 : BindOk e24 := fun _ _ _ _ _ _ us hl => match us, hl with | [_], _ => rfl
theorem m25 : mB ⟨e25.N, defScope e25.st, fun _ => true, fs.map (·.x), fs.map (·.kd), flds, gis, e25.lr⟩ e25.body (defBody e25.st) = true := by decide +kernel
theorem x25 : FxOk fs flds gis 25 e25 := ⟨⟨rfl, rfl, rfl, by decide +kernel, rfl, by decide +kernel, by decide +kernel⟩, fun n => by cases n <;> rfl, m25, fun _ _ h => h, fun _ _ => rfl, fun n => ok_ring⟩
theorem b25 : BindOk e25 := fun _ _ _ _ _ _ us hl => match us, hl with | [_], _ => rfl
theorem m26 : mB ⟨e26.N, defScope e26.st, fun _ => true, fs.map (·.x), fs.map (·.kd), flds, gis, e26.lr⟩ e26.body (defBody e26.st) = true := by decide +kernel
theorem x26 : FxOk fs flds gis 26 e26 := ⟨⟨rfl, rfl, rfl, by decide +kernel, rfl, by decide +kernel, by decide +kernel⟩, fun n => by cases n <;> rfl, m26, fun _ _ h => h, fun _ _ => rfl, fun n => ok_closedM rfl⟩
theorem b26 : BindOk e26 := fun _ _ _ _ _ _ us hl => match us, hl with | [_], _ => rfl
theorem m27 : mB ⟨e27.N, defScope e27.st, fun _ => true, fs.map (·.x), fs.map (·.kd), flds, gis, e27.lr⟩ e27.body (defBody e27.st) = true := by decide +kernel
theorem x27 : FxOk fs flds gis 27 e27 := ⟨⟨rfl, rfl, rfl, by decide +kernel, rfl, by decide +kernel, by decide +kernel⟩, fun n => by cases n <;> rfl, m27, fun _ _ h => h, fun _ _ => rfl, fun n => ok_init rfl rfl rfl⟩
theorem b27 : BindOk e27 := fun _ _ _ _ _ _ us hl => match us, hl with | [_, _, _], _ => rfl
theorem m28 : mB ⟨e28.N, defScope e28.st, fun _ => true, fs.map (·.x), fs.map (·.kd), flds, gis, e28.lr⟩ e28.body (defBody e28.st) = true := by decide +kernel
theorem x28 : FxOk fs flds gis 28 e28 := ⟨⟨rfl, rfl, rfl, by decide +kernel, rfl, by decide +kernel, by decide +kernel⟩, fun n => by cases n <;> rfl, m28, fun _ _ h => h, fun _ _ => rfl, fun n => ok_below⟩
theorem b28 : BindOk e28 := fun _ _ _ _ _ _ us hl => match us, hl with | [_, _, _], _ => rfl
theorem m29 : mB ⟨e29.N, defScope e29.st, fun _ => true, fs.map (·.x), fs.map (·.kd), flds, gis, e29.lr⟩ e29.body (defBody e29.st) = true := by decide +kernel
theorem x29 : FxOk fs flds gis 29 e29 := ⟨⟨rfl, rfl, rfl, by decide +kernel, rfl, by decide +kernel, by decide +kernel⟩, fun n => by cases n <;> rfl, m29, fun _ _ h => h, fun _ _ => rfl, fun n => ok_cell⟩
theorem b29 : BindOk e29 := fun _ _ _ _ _ _ us hl => match us, hl with | [_, _], _ => rfl
theorem m30 : mB ⟨e30.N, defScope e30.st, fun _ => true, fs.map (·.x), fs.map (·.kd), flds, gis, e30.lr⟩ e30.body (defBody e30.st) = true := by decide +kernel
theorem x30 : FxOk fs flds gis 30 e30 := ⟨⟨rfl, rfl, rfl, by decide +kernel, rfl, by decide +kernel, by decide +kernel⟩, fun n => by cases n <;> rfl, m30, fun _ _ h => h, fun _ _ => rfl, fun n => ok_cell⟩
theorem b30 : BindOk e30 := fun _ _ _ _ _ _ us hl => match us, hl with | [_, _], _ => rfl
theorem m31 : mB ⟨e31.N, defScope e31.st, fun _ => true, fs.map (·.x), fs.map (·.kd), flds, gis, e31.lr⟩ e31.body (defBody e31.st) = true := by decide +kernel
theorem x31 : FxOk fs flds gis 31 e31 := ⟨⟨rfl, rfl, rfl, by decide +kernel, rfl, by decide +kernel, by decide +kernel⟩, fun n => by cases n <;> rfl, m31, fun _ _ h => h, fun _ _ => rfl, fun n => ok_cell⟩
theorem b31 : BindOk e31 := fun _ _ _ _ _ _ us hl => match us, hl with | [_, _], _ => rfl
theorem m32 : mB ⟨e32.N, defScope e32.st, fun _ => true, fs.map (·.x), fs.map (·.kd), flds, gis, e32.lr⟩ e32.body (defBody e32.st) = true := by decide +kernel
theorem x32 : FxOk fs flds gis 32 e32 := ⟨⟨rfl, rfl, rfl, by decide +kernel, rfl, by decide +kernel, by decide +kernel⟩, fun n => by cases n <;> rfl, m32, fun _ _ h => h, fun _ _ => rfl, fun n => ok_size⟩
theorem b32 : BindOk e32 := fun _ _ _ _ _ _ us hl => match us, hl with | [_], _ => rfl
theorem m33 : mB ⟨e33.N, defScope e33.st, fun _ => true, fs.map (·.x), fs.map (·.kd), flds, gis, e33.lr⟩ e33.body (defBody e33.st) = true := by decide +kernel
theorem x33 : FxOk fs flds gis 33 e33 := ⟨⟨rfl, rfl, rfl, by decide +kernel, rfl, by decide +kernel, by decide +kernel⟩, fun n => by cases n <;> rfl, m33, fun _ _ h => h, fun _ _ => rfl, fun n => ok_opairs⟩
theorem b33 : BindOk e33 := fun _ _ _ _ _ _ us hl => match us, hl with | [_], _ => rfl
theorem m34 : mB ⟨e34.N, defScope e34.st, fun _ => true, fs.map (·.x), fs.map (·.kd), flds, gis, e34.lr⟩ e34.body (defBody e34.st) = true := by decide +kernel
theorem x34 : FxOk fs flds gis 34 e34 := ⟨⟨rfl, rfl, rfl, by decide +kernel, rfl, by decide +kernel, by decide +kernel⟩, fun n => by cases n <;> rfl, m34, fun _ _ h => h, fun _ _ => rfl, fun n => ok_above rfl⟩
theorem b34 : BindOk e34 := fun _ _ _ _ _ _ us hl => match us, hl with | [_, _], _ => rfl
theorem m35 : mB ⟨e35.N, defScope e35.st, fun _ => true, fs.map (·.x), fs.map (·.kd), flds, gis, e35.lr⟩ e35.body (defBody e35.st) = true := by decide +kernel
theorem x35 : FxOk fs flds gis 35 e35 := ⟨⟨rfl, rfl, rfl, by decide +kernel, rfl, by decide +kernel, by decide +kernel⟩, fun n => by cases n <;> rfl, m35, fun _ _ h => h, fun _ _ => rfl, fun n => ok_under rfl⟩
theorem b35 : BindOk e35 := fun _ _ _ _ _ _ us hl => match us, hl with | [_, _], _ => rfl
theorem m36 : mB ⟨e36.N, defScope e36.st, fun _ => true, fs.map (·.x), fs.map (·.kd), flds, gis, e36.lr⟩ e36.body (defBody e36.st) = true := by decide +kernel
theorem x36 : FxOk fs flds gis 36 e36 := ⟨⟨rfl, rfl, rfl, by decide +kernel, rfl, by decide +kernel, by decide +kernel⟩, fun n => by cases n <;> rfl, m36, fun _ _ h => h, fun _ _ => rfl, fun n => ok_cell⟩
theorem b36 : BindOk e36 := fun _ _ _ _ _ _ us hl => match us, hl with | [_, _], _ => rfl
theorem m37 : mB ⟨e37.N, defScope e37.st, fun _ => true, fs.map (·.x), fs.map (·.kd), flds, gis, e37.lr⟩ e37.body (defBody e37.st) = true := by decide +kernel
theorem x37 : FxOk fs flds gis 37 e37 := ⟨⟨rfl, rfl, rfl, by decide +kernel, rfl, by decide +kernel, by decide +kernel⟩, fun n => by cases n <;> rfl, m37, fun _ _ h => h, fun _ _ => rfl, fun n => ok_cell⟩
theorem b37 : BindOk e37 := fun _ _ _ _ _ _ us hl => match us, hl with | [_, _], _ => rfl
theorem m38 : mB ⟨e38.N, defScope e38.st, fun _ => true, fs.map (·.x), fs.map (·.kd), flds, gis, e38.lr⟩ e38.body (defBody e38.st) = true := by decide +kernel
theorem x38 : FxOk fs flds gis 38 e38 := ⟨⟨rfl, rfl, rfl, by decide +kernel, rfl, by decide +kernel, by decide +kernel⟩, fun n => by cases n <;> rfl, m38, fun _ _ h => h, fun _ _ => rfl, fun n => ok_cell⟩
theorem b38 : BindOk e38 := fun _ _ _ _ _ _ us hl => match us, hl with | [_, _], _ => rfl
theorem m39 : mB ⟨e39.N, defScope e39.st, fun _ => true, fs.map (·.x), fs.map (·.kd), flds, gis, e39.lr⟩ e39.body (defBody e39.st) = true := by decide +kernel
theorem x39 : FxOk fs flds gis 39 e39 := ⟨⟨rfl, rfl, rfl, by decide +kernel, rfl, by decide +kernel, by decide +kernel⟩, fun n => by cases n <;> rfl, m39, fun _ _ h => h, fun _ _ => rfl, fun n => ok_cell⟩
theorem b39 : BindOk e39 := fun _ _ _ _ _ _ us hl => match us, hl with | [_, _], _ => rfl
theorem m40 : mB ⟨e40.N, defScope e40.st, fun _ => true, fs.map (·.x), fs.map (·.kd), flds, gis, e40.lr⟩ e40.body (defBody e40.st) = true := by decide +kernel
theorem x40 : FxOk fs flds gis 40 e40 := ⟨⟨rfl, rfl, rfl, by decide +kernel, rfl, by decide +kernel, by decide +kernel⟩, fun n => by cases n <;> rfl, m40, fun _ _ h => h, fun _ _ => rfl, fun n => ok_cell⟩
theorem b40 : BindOk e40 := fun _ _ _ _ _ _ us hl => match us, hl with | [_, _], _ => rfl
theorem m41 : mB ⟨e41.N, defScope e41.st, fun _ => true, fs.map (·.x), fs.map (·.kd), flds, gis, e41.lr⟩ e41.body (defBody e41.st) = true := by decide +kernel
theorem x41 : FxOk fs flds gis 41 e41 := ⟨⟨rfl, rfl, rfl, by decide +kernel, rfl, by decide +kernel, by decide +kernel⟩, fun n => by cases n <;> rfl, m41, fun _ _ h => h, fun _ _ => rfl, fun n => ok_lowest⟩
theorem b41 : BindOk e41 := fun _ _ _ _ _ _ us hl => match us, hl with | [_], _ => rfl
theorem m42 : mB ⟨e42.N, defScope e42.st, fun _ => true, fs.map (·.x), fs.map (·.kd), flds, gis, e42.lr⟩ e42.body (defBody e42.st) = true := by decide +kernel
theorem x42 : FxOk fs flds gis 42 e42 := ⟨⟨rfl, rfl, rfl, by decide +kernel, rfl, by decide +kernel, by decide +kernel⟩, fun n => by cases n <;> rfl, m42, fun _ _ h => h, fun _ _ => rfl, fun n => ok_cell⟩
theorem b42 : BindOk e42 := fun _ _ _ _ _ _ us hl => match us, hl with | [_, _], _ => rfl
theorem m43 : mB ⟨e43.N, defScope e43.st, fun _ => true, fs.map (·.x), fs.map (·.kd), flds, gis, e43.lr⟩ e43.body (defBody e43.st) = true := by decide +kernel
theorem x43 : FxOk fs flds gis 43 e43 := ⟨⟨rfl, rfl, rfl, by decide +kernel, rfl, by decide +kernel, by decide +kernel⟩, fun n => by cases n <;> rfl, m43, fun _ _ h => h, fun _ _ => rfl, fun n => ok_sametab rfl rfl rfl⟩
theorem b43 : BindOk e43 := fun _ _ _ _ _ _ us hl => match us, hl with | [_, _], _ => rfl
theorem m44 : mB ⟨e44.N, defScope e44.st, fun _ => true, fs.map (·.x), fs.map (·.kd), flds, gis, e44.lr⟩ e44.body (defBody e44.st) = true := by decide +kernel
theorem x44 : FxOk fs flds gis 44 e44 := ⟨⟨rfl, rfl, rfl, by decide +kernel, rfl, by decide +kernel, by decide +kernel⟩, fun n => by cases n <;> rfl, m44, fun _ _ h => h, fun _ _ => rfl, fun n => ok_isint⟩
theorem b44 : BindOk e44 := fun _ _ _ _ _ _ us hl => match us, hl with | [_], _ => rfl
theorem m45 : mB ⟨e45.N, defScope e45.st, fun _ => true, fs.map (·.x), fs.map (·.kd), flds, gis, e45.lr⟩ e45.body (defBody e45.st) = true := by decide +kernel
theorem x45 : FxOk fs flds gis 45 e45 := ⟨⟨rfl, rfl, rfl, by decide +kernel, rfl, by decide +kernel, by decide +kernel⟩, fun n => by cases n <;> rfl, m45, fun _ _ h => h, fun _ _ => rfl, fun n => ok_areints rfl⟩
theorem b45 : BindOk e45 := fun _ _ _ _ _ _ us hl => match us, hl with | [_], _ => rfl
theorem m46 : mB ⟨e46.N, defScope e46.st, fun _ => true, fs.map (·.x), fs.map (·.kd), flds, gis, e46.lr⟩ e46.body (defBody e46.st) = true := by decide +kernel
theorem x46 : FxOk fs flds gis 46 e46 := ⟨⟨rfl, rfl, rfl, by decide +kernel, rfl, by decide +kernel, by decide +kernel⟩, fun n => by cases n <;> rfl, m46, fun _ _ h => h, fun _ _ => rfl, fun n => ok_cell⟩
theorem b46 : BindOk e46 := fun _ _ _ _ _ _ us hl => match us, hl with | [_, _], _ => rfl
theorem m47 : mB ⟨e47.N, defScope e47.st, fun _ => true, fs.map (·.x), fs.map (·.kd), flds, gis, e47.lr⟩ e47.body (defBody e47.st) = true := by decide +kernel
theorem x47 : FxOk fs flds gis 47 e47 := ⟨⟨rfl, rfl, rfl, by decide +kernel, rfl, by decide +kernel, by decide +kernel⟩, fun n => by cases n <;> rfl, m47, fun _ _ h => h, fun _ _ => rfl, fun n => ok_near rfl rfl rfl⟩
theorem b47 : BindOk e47 := fun _ _ _ _ _ _ us hl => match us, hl with | [_, _], _ => rfl
theorem m48 : mB ⟨e48.N, defScope e48.st, fun _ => true, fs.map (·.x), fs.map (·.kd), flds, gis, e48.lr⟩ e48.body (defBody e48.st) = true := by decide +kernel
theorem x48 : FxOk fs flds gis 48 e48 := ⟨⟨rfl, rfl, rfl, by decide +kernel, rfl, by decide +kernel, by decide +kernel⟩, fun n => by cases n <;> rfl, m48, fun _ _ h => h, fun _ _ => rfl, fun n => ok_cell⟩
theorem b48 : BindOk e48 := fun _ _ _ _ _ _ us hl => match us, hl with | [_, _], _ => rfl
theorem m49 : mB ⟨e49.N, defScope e49.st, fun _ => true, fs.map (·.x), fs.map (·.kd), flds, gis, e49.lr⟩ e49.body (defBody e49.st) = true := by decide +kernel
theorem x49 : FxOk fs flds gis 49 e49 := ⟨⟨rfl, rfl, rfl, by decide +kernel, rfl, by decide +kernel, by decide +kernel⟩, fun n => by cases n <;> rfl, m49, fun _ _ h => h, fun _ _ => rfl, fun n => ok_cell⟩
theorem b49 : BindOk e49 := fun _ _ _ _ _ _ us hl => match us, hl with | [_, _], _ => rfl
theorem m50 : mB ⟨e50.N, defScope e50.st, fun _ => true, fs.map (·.x), fs.map (·.kd), flds, gis, e50.lr⟩ e50.body (defBody e50.st) = true := by decide +kernel
theorem x50 : FxOk fs flds gis 50 e50 := ⟨⟨rfl, rfl, rfl, by decide +kernel, rfl, by decide +kernel, by decide +kernel⟩, fun n => by cases n <;> rfl, m50, fun _ _ h => h, (fun _ h => nomatch h), fun n => ok_heights rfl rfl⟩
theorem b50 : BindOk e50 := fun _ _ _ _ _ _ us hl => match us, hl with | [_], _ => rfl
theorem m51 : mB ⟨e51.N, defScope e51.st, fun _ => true, fs.map (·.x), fs.map (·.kd), flds, gis, e51.lr⟩ e51.body (defBody e51.st) = true := by decide +kernel
theorem x51 : FxOk fs flds gis 51 e51 := ⟨⟨rfl, rfl, rfl, by decide +kernel, rfl, by decide +kernel, by decide +kernel⟩, fun n => by cases n <;> rfl, m51, fun _ _ h => h, fun _ _ => rfl, fun n => ok_levels rfl⟩
theorem b51 : BindOk e51 := fun _ _ _ _ _ _ us hl => match us, hl with | [_], _ => rfl
theorem m52 : mB ⟨e52.N, defScope e52.st, fun _ => true, fs.map (·.x), fs.map (·.kd), flds, gis, e52.lr⟩ e52.body (defBody e52.st) = true := by decide +kernel
theorem x52 : FxOk fs flds gis 52 e52 := ⟨⟨rfl, rfl, rfl, by decide +kernel, rfl, by decide +kernel, by decide +kernel⟩, fun n => by cases n <;> rfl, m52, fun _ _ h => h, fun _ _ => rfl, fun n => ok_long rfl rfl⟩
theorem b52 : BindOk e52 := fun _ _ _ _ _ _ us hl => match us, hl with | [_], _ => rfl
theorem m53 : mB ⟨e53.N, defScope e53.st, fun _ => true, fs.map (·.x), fs.map (·.kd), flds, gis, e53.lr⟩ e53.body (defBody e53.st) = true := by decide +kernel
theorem x53 : FxOk fs flds gis 53 e53 := ⟨⟨rfl, rfl, rfl, by decide +kernel, rfl, by decide +kernel, by decide +kernel⟩, fun n => by cases n <;> rfl, m53, fun _ _ h => h, fun _ _ => rfl, fun n => ok_lheights rfl⟩
theorem b53 : BindOk e53 := fun _ _ _ _ _ _ us hl => match us, hl with | [_], _ => rfl
theorem m54 : mB ⟨e54.N, defScope e54.st, fun _ => true, fs.map (·.x), fs.map (·.kd), flds, gis, e54.lr⟩ e54.body (defBody e54.st) = true := by decide +kernel
theorem x54 : FxOk fs flds gis 54 e54 := ⟨⟨rfl, rfl, rfl, by decide +kernel, rfl, by decide +kernel, by decide +kernel⟩, fun n => by cases n <;> rfl, m54, fun _ _ h => h, fun _ _ => rfl, fun n => ok_ischain⟩
theorem b54 : BindOk e54 := fun _ _ _ _ _ _ us hl => match us, hl with | [_, _], _ => rfl
theorem m55 : mB ⟨e55.N, defScope e55.st, fun _ => true, fs.map (·.x), fs.map (·.kd), flds, gis, e55.lr⟩ e55.body (defBody e55.st) = true := by decide +kernel
theorem x55 : FxOk fs flds gis 55 e55 := ⟨⟨rfl, rfl, rfl, by decide +kernel, rfl, by decide +kernel, by decide +kernel⟩, fun n => by cases n <;> rfl, m55, fun _ _ h => h, fun _ _ => rfl, fun n => ok_law ⟨rfl, rfl, rfl, rfl, rfl, rfl⟩ rfl rfl rfl rfl rfl rfl rfl rfl rfl rfl⟩
theorem b55 : BindOk e55 := fun _ _ _ _ _ _ us hl => match us, hl with | [_], _ => rfl
theorem xs : ∀ (i : Nat) e, fs[i]? = some e → FxOk fs flds gis i e
  | 0, _, h => Option.some.inj h ▸ x0
  | 1, _, h => Option.some.inj h ▸ x1
  | 2, _, h => Option.some.inj h ▸ x2
  | 3, _, h => Option.some.inj h ▸ x3
  | 4, _, h => Option.some.inj h ▸ x4
  | 5, _, h => Option.some.inj h ▸ x5
  | 6, _, h => Option.some.inj h ▸ x6
  | 7, _, h => Option.some.inj h ▸ x7
  | 8, _, h => Option.some.inj h ▸ x8
  | 9, _, h => Option.some.inj h ▸ x9
  | 10, _, h => Option.some.inj h ▸ x10
  | 11, _, h => Option.some.inj h ▸ x11
  | 12, _, h => Option.some.inj h ▸ x12
  | 13, _, h => Option.some.inj h ▸ x13
  | 14, _, h => Option.some.inj h ▸ x14
  | 15, _, h => Option.some.inj h ▸ x15
  | 16, _, h => Option.some.inj h ▸ x16
  | 17, _, h => Option.some.inj h ▸ x17
  | 18, _, h => Option.some.inj h ▸ x18
  | 19, _, h => Option.some.inj h ▸ x19
  | 20, _, h => Option.some.inj h ▸ x20
  | 21, _, h => Option.some.inj h ▸ x21
  | 22, _, h => Option.some.inj h ▸ x22
  | 23, _, h => Option.some.inj h ▸ x23
  | 24, _, h => Option.some.inj h ▸ x24
  | 25, _, h => Option.some.inj h ▸ x25
  | 26, _, h => Option.some.inj h ▸ x26
  | 27, _, h => Option.some.inj h ▸ x27
  | 28, _, h => Option.some.inj h ▸ x28
  | 29, _, h => Option.some.inj h ▸ x29
  | 30, _, h => Option.some.inj h ▸ x30
  | 31, _, h => Option.some.inj h ▸ x31
  | 32, _, h => Option.some.inj h ▸ x32
  | 33, _, h => Option.some.inj h ▸ x33
  | 34, _, h => Option.some.inj h ▸ x34
  | 35, _, h => Option.some.inj h ▸ x35
  | 36, _, h => Option.some.inj h ▸ x36
  | 37, _, h => Option.some.inj h ▸ x37
  | 38, _, h => Option.some.inj h ▸ x38
  | 39, _, h => Option.some.inj h ▸ x39
  | 40, _, h => Option.some.inj h ▸ x40
  | 41, _, h => Option.some.inj h ▸ x41
  | 42, _, h => Option.some.inj h ▸ x42
  | 43, _, h => Option.some.inj h ▸ x43
  | 44, _, h => Option.some.inj h ▸ x44
  | 45, _, h => Option.some.inj h ▸ x45
  | 46, _, h => Option.some.inj h ▸ x46
  | 47, _, h => Option.some.inj h ▸ x47
  | 48, _, h => Option.some.inj h ▸ x48
  | 49, _, h => Option.some.inj h ▸ x49
  | 50, _, h => Option.some.inj h ▸ x50
  | 51, _, h => Option.some.inj h ▸ x51
  | 52, _, h => Option.some.inj h ▸ x52
  | 53, _, h => Option.some.inj h ▸ x53
  | 54, _, h => Option.some.inj h ▸ x54
  | 55, _, h => Option.some.inj h ▸ x55
  | n + 56, _, h => by cases h
theorem bs : ∀ e ∈ fs, BindOk e := List.forall_mem_cons.mpr ⟨b0, List.forall_mem_cons.mpr ⟨b1, List.forall_mem_cons.mpr ⟨b2, List.forall_mem_cons.mpr ⟨b3, List.forall_mem_cons.mpr ⟨b4, List.forall_mem_cons.mpr ⟨b5, List.forall_mem_cons.mpr ⟨b6, List.forall_mem_cons.mpr ⟨b7, List.forall_mem_cons.mpr ⟨b8, List.forall_mem_cons.mpr ⟨b9, List.forall_mem_cons.mpr ⟨b10, List.forall_mem_cons.mpr ⟨b11, List.forall_mem_cons.mpr ⟨b12, List.forall_mem_cons.mpr ⟨b13, List.forall_mem_cons.mpr ⟨b14, List.forall_mem_cons.mpr ⟨b15, List.forall_mem_cons.mpr ⟨b16, List.forall_mem_cons.mpr ⟨b17, List.forall_mem_cons.mpr ⟨b18, List.forall_mem_cons.mpr ⟨b19, List.forall_mem_cons.mpr ⟨b20, List.forall_mem_cons.mpr ⟨b21, List.forall_mem_cons.mpr ⟨b22, List.forall_mem_cons.mpr ⟨b23, List.forall_mem_cons.mpr ⟨b24, List.forall_mem_cons.mpr ⟨b25, List.forall_mem_cons.mpr ⟨b26, List.forall_mem_cons.mpr ⟨b27, List.forall_mem_cons.mpr ⟨b28, List.forall_mem_cons.mpr ⟨b29, List.forall_mem_cons.mpr ⟨b30, List.forall_mem_cons.mpr ⟨b31, List.forall_mem_cons.mpr ⟨b32, List.forall_mem_cons.mpr ⟨b33, List.forall_mem_cons.mpr ⟨b34, List.forall_mem_cons.mpr ⟨b35, List.forall_mem_cons.mpr ⟨b36, List.forall_mem_cons.mpr ⟨b37, List.forall_mem_cons.mpr ⟨b38, List.forall_mem_cons.mpr ⟨b39, List.forall_mem_cons.mpr ⟨b40, List.forall_mem_cons.mpr ⟨b41, List.forall_mem_cons.mpr ⟨b42, List.forall_mem_cons.mpr ⟨b43, List.forall_mem_cons.mpr ⟨b44, List.forall_mem_cons.mpr ⟨b45, List.forall_mem_cons.mpr ⟨b46, List.forall_mem_cons.mpr ⟨b47, List.forall_mem_cons.mpr ⟨b48, List.forall_mem_cons.mpr ⟨b49, List.forall_mem_cons.mpr ⟨b50, List.forall_mem_cons.mpr ⟨b51, List.forall_mem_cons.mpr ⟨b52, List.forall_mem_cons.mpr ⟨b53, List.forall_mem_cons.mpr ⟨b54, List.forall_mem_cons.mpr ⟨b55, fun _ h => nomatch h⟩⟩⟩⟩⟩⟩⟩⟩⟩⟩⟩⟩⟩⟩⟩⟩⟩⟩⟩⟩⟩⟩⟩⟩⟩⟩⟩⟩⟩⟩⟩⟩⟩⟩⟩⟩⟩⟩⟩⟩⟩⟩⟩⟩⟩⟩⟩⟩⟩⟩⟩⟩⟩⟩⟩⟩
theorem kc : ∀ e ∈ fs, match e.kd with | .fn => True | .me c => c ∈ cs | .pr c => c ∈ cs | .mk c => c ∈ cs ∧ e.x = ("__init__" : Str) := List.forall_mem_cons.mpr ⟨trivial, List.forall_mem_cons.mpr ⟨trivial, List.forall_mem_cons.mpr ⟨trivial, List.forall_mem_cons.mpr ⟨trivial, List.forall_mem_cons.mpr ⟨trivial, List.forall_mem_cons.mpr ⟨trivial, List.forall_mem_cons.mpr ⟨trivial, List.forall_mem_cons.mpr ⟨trivial, List.forall_mem_cons.mpr ⟨trivial, List.forall_mem_cons.mpr ⟨trivial, List.forall_mem_cons.mpr ⟨trivial, List.forall_mem_cons.mpr ⟨trivial, List.forall_mem_cons.mpr ⟨trivial, List.forall_mem_cons.mpr ⟨trivial, List.forall_mem_cons.mpr ⟨trivial, List.forall_mem_cons.mpr ⟨trivial, List.forall_mem_cons.mpr ⟨trivial, List.forall_mem_cons.mpr ⟨trivial, List.forall_mem_cons.mpr ⟨trivial, List.forall_mem_cons.mpr ⟨trivial, List.forall_mem_cons.mpr ⟨trivial, List.forall_mem_cons.mpr ⟨trivial, List.forall_mem_cons.mpr ⟨trivial, List.forall_mem_cons.mpr ⟨trivial, List.forall_mem_cons.mpr ⟨trivial, List.forall_mem_cons.mpr ⟨trivial, List.forall_mem_cons.mpr ⟨trivial, List.forall_mem_cons.mpr ⟨⟨by decide +kernel, rfl⟩, List.forall_mem_cons.mpr ⟨(by decide +kernel : _ ∈ cs), List.forall_mem_cons.mpr ⟨trivial, List.forall_mem_cons.mpr ⟨trivial, List.forall_mem_cons.mpr ⟨trivial, List.forall_mem_cons.mpr ⟨(by decide +kernel : _ ∈ cs), List.forall_mem_cons.mpr ⟨(by decide +kernel : _ ∈ cs), List.forall_mem_cons.mpr ⟨(by decide +kernel : _ ∈ cs), List.forall_mem_cons.mpr ⟨(by decide +kernel : _ ∈ cs), List.forall_mem_cons.mpr ⟨trivial, List.forall_mem_cons.mpr ⟨trivial, List.forall_mem_cons.mpr ⟨trivial, List.forall_mem_cons.mpr ⟨trivial, List.forall_mem_cons.mpr ⟨trivial, List.forall_mem_cons.mpr ⟨(by decide +kernel : _ ∈ cs), List.forall_mem_cons.mpr ⟨trivial, List.forall_mem_cons.mpr ⟨trivial, List.forall_mem_cons.mpr ⟨trivial, List.forall_mem_cons.mpr ⟨trivial, List.forall_mem_cons.mpr ⟨trivial, List.forall_mem_cons.mpr ⟨trivial, List.forall_mem_cons.mpr ⟨trivial, List.forall_mem_cons.mpr ⟨trivial, List.forall_mem_cons.mpr ⟨trivial, List.forall_mem_cons.mpr ⟨trivial, List.forall_mem_cons.mpr ⟨trivial, List.forall_mem_cons.mpr ⟨trivial, List.forall_mem_cons.mpr ⟨trivial, List.forall_mem_cons.mpr ⟨trivial, fun _ h => nomatch h⟩⟩⟩⟩⟩⟩⟩⟩⟩⟩⟩⟩⟩⟩⟩⟩⟩⟩⟩⟩⟩⟩⟩⟩⟩⟩⟩⟩⟩⟩⟩⟩⟩⟩⟩⟩⟩⟩⟩⟩⟩⟩⟩⟩⟩⟩⟩⟩⟩⟩⟩⟩⟩⟩⟩⟩
abbrev R : PySem.W.OpenRow := PySem.W.OpenLaw.row PySem.Challenge.rw_drawnorders_k05_heights_and_chains
abbrev fa : List He.Fa := faOf fs cs flds gis
abbrev hk : PySem.W.Hook := hookP 6 fa fs
def ob (s : PySem.W.SharedT) : AlQ := obsPG 6 fa fs (HandSHeadRun.getT s)
theorem ob_eq (s : PySem.W.SharedT) : ob s = hk.obs s.abs := obsPG_eq (HandSHeadRun.getT_eq s)
def nm0 : List PySem.Str := ["_wall", "heights", "levels", "longest_chain", "OrderError", "BadSize", "BadPair", "Ring", "MOST", "elements_of", "mask_of", "found_ring", "closed_masks", "Order", "_law_cell", "_law_stream", "_law_draw", "_law_mixed", "_law_closed", "_law_pairs", "_law_covers", "_law_heights", "_law_is_integer", "_law_are_integers", "_law_same_table", "_law_any_pairs", "_law_any_spans", "_law_by_spans", "_law_by_rows", "_law_any_tree"]
def nm1 : List PySem.Str := ["_law_tree_members", "_law_by_tree", "_law_any_arcs", "_law_by_arcs", "_law_any_parents", "_law_by_parents", "_law_by_ranks", "_law_crown", "_law_family", "_law_near_chain", "_law_any_order", "_law_told", "_law_is_chain"]
def names : List PySem.Str := nm0 ++ nm1
theorem run (w : World) : HandSHeadRun.RunEq R (PySem.W.view R.prog [47]) hk ob 4000 names w := by
  intro os
  kernel_rfl
theorem lvl : lev (fs.take 55) = 185 := by decide +kernel
theorem h4 : ∀ e ∈ fs, e.lr ≠ 0 → 4 ≤ e.lr ∧ isPr e.kd = false := List.forall_mem_cons.mpr ⟨fun z => absurd rfl z, List.forall_mem_cons.mpr ⟨fun z => absurd rfl z, List.forall_mem_cons.mpr ⟨fun z => absurd rfl z, List.forall_mem_cons.mpr ⟨fun z => absurd rfl z, List.forall_mem_cons.mpr ⟨fun z => absurd rfl z, List.forall_mem_cons.mpr ⟨fun z => absurd rfl z, List.forall_mem_cons.mpr ⟨fun z => absurd rfl z, List.forall_mem_cons.mpr ⟨fun z => absurd rfl z, List.forall_mem_cons.mpr ⟨fun z => absurd rfl z, List.forall_mem_cons.mpr ⟨fun z => absurd rfl z, List.forall_mem_cons.mpr ⟨fun z => absurd rfl z, List.forall_mem_cons.mpr ⟨fun z => absurd rfl z, List.forall_mem_cons.mpr ⟨fun z => absurd rfl z, List.forall_mem_cons.mpr ⟨fun z => absurd rfl z, List.forall_mem_cons.mpr ⟨fun z => absurd rfl z, List.forall_mem_cons.mpr ⟨fun z => absurd rfl z, List.forall_mem_cons.mpr ⟨fun z => absurd rfl z, List.forall_mem_cons.mpr ⟨fun z => absurd rfl z, List.forall_mem_cons.mpr ⟨fun z => absurd rfl z, List.forall_mem_cons.mpr ⟨fun z => absurd rfl z, List.forall_mem_cons.mpr ⟨fun z => absurd rfl z, List.forall_mem_cons.mpr ⟨fun z => absurd rfl z, List.forall_mem_cons.mpr ⟨fun z => absurd rfl z, List.forall_mem_cons.mpr ⟨fun z => absurd rfl z, List.forall_mem_cons.mpr ⟨fun z => absurd rfl z, List.forall_mem_cons.mpr ⟨fun z => absurd rfl z, List.forall_mem_cons.mpr ⟨fun z => absurd rfl z, List.forall_mem_cons.mpr ⟨fun z => absurd rfl z, List.forall_mem_cons.mpr ⟨fun z => absurd rfl z, List.forall_mem_cons.mpr ⟨fun z => absurd rfl z, List.forall_mem_cons.mpr ⟨fun z => absurd rfl z, List.forall_mem_cons.mpr ⟨fun z => absurd rfl z, List.forall_mem_cons.mpr ⟨fun z => absurd rfl z, List.forall_mem_cons.mpr ⟨fun z => absurd rfl z, List.forall_mem_cons.mpr ⟨fun z => absurd rfl z, List.forall_mem_cons.mpr ⟨fun z => absurd rfl z, List.forall_mem_cons.mpr ⟨fun z => absurd rfl z, List.forall_mem_cons.mpr ⟨fun z => absurd rfl z, List.forall_mem_cons.mpr ⟨fun z => absurd rfl z, List.forall_mem_cons.mpr ⟨fun z => absurd rfl z, List.forall_mem_cons.mpr ⟨fun z => absurd rfl z, List.forall_mem_cons.mpr ⟨fun z => absurd rfl z, List.forall_mem_cons.mpr ⟨fun z => absurd rfl z, List.forall_mem_cons.mpr ⟨fun z => absurd rfl z, List.forall_mem_cons.mpr ⟨fun z => absurd rfl z, List.forall_mem_cons.mpr ⟨fun z => absurd rfl z, List.forall_mem_cons.mpr ⟨fun z => absurd rfl z, List.forall_mem_cons.mpr ⟨fun z => absurd rfl z, List.forall_mem_cons.mpr ⟨fun z => absurd rfl z, List.forall_mem_cons.mpr ⟨fun z => absurd rfl z, List.forall_mem_cons.mpr ⟨fun _ => ⟨by decide, rfl⟩, List.forall_mem_cons.mpr ⟨fun z => absurd rfl z, List.forall_mem_cons.mpr ⟨fun z => absurd rfl z, List.forall_mem_cons.mpr ⟨fun z => absurd rfl z, List.forall_mem_cons.mpr ⟨fun z => absurd rfl z, List.forall_mem_cons.mpr ⟨fun z => absurd rfl z, fun _ h => nomatch h⟩⟩⟩⟩⟩⟩⟩⟩⟩⟩⟩⟩⟩⟩⟩⟩⟩⟩⟩⟩⟩⟩⟩⟩⟩⟩⟩⟩⟩⟩⟩⟩⟩⟩⟩⟩⟩⟩⟩⟩⟩⟩⟩⟩⟩⟩⟩⟩⟩⟩⟩⟩⟩⟩⟩⟩
end Hd
end Y
open PySem PySem.W PySem.Calls PyProof.Rows
theorem PySem.Challenge.cw_drawnorders_k05_heights_and_chains_holds : PySem.Challenge.rw_drawnorders_k05_heights_and_chains.Holds := by
  w_on; o_law
  refine HandSHeadRun.head_any (r := Y.Hd.R) (q := view Y.Hd.R.prog [47]) (H := Y.Hd.hk) (ob := Y.Hd.ob) (M := 4000) (loose := Y.Hd.names) (d := HandSHeadRun.topDef Y.Hd.R.prog 47) (kwd := []) Y.Hd.ob_eq
    (by kernel_rfl) (fun s => by kernel_rfl) Y.Hd.run (by kernel_rfl) (by kernel_rfl) (by kernel_rfl) (by rfl) (by first | assumption | decide +kernel) (by decide +kernel) ⟨rfl, rfl, rfl, rfl, rfl, by decide +kernel⟩ ?hw ?hc
  case hw => w_witness2
  case hc =>
    refine Y.walk_T (l := PySem.Challenge.rw_drawnorders_k05_heights_and_chains) (n := 63) (k := 185 + 2) (x := "_law_script") rfl (by decide) (by kernel_rfl) ⟨rfl, by decide, by decide⟩ ?F
    intro w mg fa h says G hmg0
    have hmg : mg ("law" : PySem.Str) = some (.ref fa) := by
      have e : (HandSHeadRun.topDef Y.Hd.R.prog 47).name = ("law" : PySem.Str) := by kernel_rfl
      rw [← e]
      exact hmg0
    exact Y.facts_of (PySem.Challenge.rw_drawnorders_k05_heights_and_chains.prog) w (e := Y.Hd.e55) Y.Hd.kc Y.Hd.bs Y.Hd.xs Y.Hd.h4 (i := 55) rfl rfl rfl rfl rfl rfl rfl (fun ns hl => ⟨ns, rfl, hl, rfl⟩) (congrArg (fun z => z + 2) Y.Hd.lvl) says G hmg
