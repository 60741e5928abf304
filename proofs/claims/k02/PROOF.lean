import PyProof.Rows.All
import Wide.All
import OpenK.AllK
import Wide.FinOn
import HandS.ForMost
import HandS.Exc
import HandS.Deep
import HandS.Wide
import HandS.TupAny
import HandS.TupMul
import HandS.TupLe
import HandS.IsInst
import HandS.NoneIn
import HandS.Style
import HandS.Defaults
import KE.SortData
import PyProof.ListRange
import PyProof.Rows.Range3
import HandS.Ends
import HandS.EndBits
import HandS.Head0
import HandS.Head1
import HandS.Head2
import HandS.HeadEnd
import HandS.HeadHook1
import HandS.HeadHook2
import KE.KEqSeq
import PySem.Challenge.RW_lanepacks_k02_whole_words
import KE.KStateDown
set_option Elab.async false
set_option linter.all false
set_option maxRecDepth 100000
set_option maxHeartbeats 2000000
/-! FL1: data, what a heap holds of it, the state between two steps. -/
namespace FL
open PySem L2

abbrev D := PyData
/-- the datum of a key -/
def kD : Key → D
  | .inl i => .int i
  | .inr x => .str x
/-- a def of the module, as a datum -/
def fnD (x : Str) : D := .dict [(.none, .str x)]
/-- ahead of the entries of a dict whose keys are tuples -/
def mkT : D × D := (.none, .none)
/-- a tuple that the module's top wrote, as a datum -/
def wtD (ds : List D) : D := .dict [(.none, .tuple ds)]
/-- the script, as a datum -/
def scrD (ns : List Int) : D := .dict [(.none, .list (ns.map PyData.int))]

/-- every tracked thing stays -/
def Le (F H : Hp) : Prop := ∀ a o, F a = some o → H a = some o
theorem Le.refl (H : Hp) : Le H H := fun _ _ h => h
theorem Le.trans {A B C : Hp} (x : Le A B) (y : Le B C) : Le A C := fun a o h => y a o (x a o h)
theorem Le.new {H : Hp} {p : Addr} {o : HO} (h : H p = none) : Le H (upd H p o) := fun a u e => by
  rw [upd_ne (ne_of_none e h)]; exact e
theorem Le.back {F H : Hp} (l : Le F H) {p : Addr} (h : H p = none) : F p = none := by
  cases q : F p with
  | none => rfl
  | some o => rw [l p o q] at h; cases h
theorem Le.rd {F H : Hp} (l : Le F H) {a : Addr} {u : HO} (h : Rd F a u) : Rd H a u := by
  rcases h with h | ⟨o, h⟩
  · exact .inl (l _ _ h)
  · exact .inr ⟨o, l _ _ h⟩
theorem Le.lst {K : PySem.W.Frag} {F H : Hp} (l : Le F H) {a : Addr} {xs : List V} (h : SqL K F a xs) : SqL K H a xs := by
  rcases h with h | h
  · exact .inl (l.rd h)
  · exact .inr h
theorem Le.tup {K : PySem.W.Frag} {F H : Hp} (l : Le F H) {a : Addr} {xs : List V} (h : SqT K F a xs) : SqT K H a xs := by
  rcases h with h | h
  · exact .inl (l.rd h)
  · exact .inr h

mutual
/-- in the frozen part F of the heap the value holds the datum -/
inductive Fz (mg : Str → Option Value) (K : PySem.W.Frag) (F : Hp) : V → D → Prop
  | non : Fz mg K F .non .none
  | bl (b : Bool) : Fz mg K F (.bl b) (.bool b)
  | int (i : Int) : Fz mg K F (.int i) (.int i)
  | str (x : Str) : Fz mg K F (.str x) (.str x)
  | lst {a : Addr} {vs : List V} {ds : List D} : F a = some (.lst vs) → FzA mg K F vs ds → Fz mg K F (.ref a) (.list ds)
  | tup {a : Addr} {vs : List V} {ds : List D} : F a = some (.tup vs) → FzA mg K F vs ds → Fz mg K F (.ref a) (.tuple ds)
  | wt {a : Addr} {vs : List V} {ds : List D} : SqT K F a vs → FzA mg K F vs ds → Fz mg K F (.ref a) (wtD ds)
  | dK {a : Addr} {kvs : List (Key × V)} {l : List (D × D)} : F a = some (.dK kvs) → FzK mg K F kvs l → Fz mg K F (.ref a) (.dict l)
  | dT {a : Addr} {kvs : List (List Key × V)} {l : List (D × D)} : F a = some (.dT kvs) → FzT mg K F kvs l → Fz mg K F (.ref a) (.dict (mkT :: l))
  | scr {a : Addr} {ns : List Int} : SqL K F a (ns.map V.int) → Fz mg K F (.ref a) (scrD ns)
  | fn {x : Str} {f : Addr} : mg x = some (.ref f) → Fz mg K F (.ref f) (fnD x)
inductive FzA (mg : Str → Option Value) (K : PySem.W.Frag) (F : Hp) : List V → List D → Prop
  | nil : FzA mg K F [] []
  | cons {v : V} {vs : List V} {d : D} {ds : List D} : Fz mg K F v d → FzA mg K F vs ds → FzA mg K F (v :: vs) (d :: ds)
inductive FzK (mg : Str → Option Value) (K : PySem.W.Frag) (F : Hp) : List (Key × V) → List (D × D) → Prop
  | nil : FzK mg K F [] []
  | cons {k : Key} {v : V} {vs : List (Key × V)} {d : D} {ds : List (D × D)} : Fz mg K F v d → FzK mg K F vs ds → FzK mg K F ((k, v) :: vs) ((kD k, d) :: ds)
inductive FzT (mg : Str → Option Value) (K : PySem.W.Frag) (F : Hp) : List (List Key × V) → List (D × D) → Prop
  | nil : FzT mg K F [] []
  | cons {k : List Key} {v : V} {vs : List (List Key × V)} {d : D} {ds : List (D × D)} : Fz mg K F v d → FzT mg K F vs ds → FzT mg K F ((k, v) :: vs) ((.tuple (k.map kD), d) :: ds)
end

section
variable {mg : Str → Option Value} {K : PySem.W.Frag} {F F' H : Hp}
mutual
theorem Fz.mono (l : Le F F') : ∀ {v : V} {d : D}, Fz mg K F v d → Fz mg K F' v d
  | _, _, .non => .non
  | _, _, .bl b => .bl b
  | _, _, .int i => .int i
  | _, _, .str x => .str x
  | _, _, .lst h r => .lst (l _ _ h) (FzA.mono l r)
  | _, _, .scr h => .scr (l.lst h)
  | _, _, .tup h r => .tup (l _ _ h) (FzA.mono l r)
  | _, _, .wt h r => .wt (l.tup h) (FzA.mono l r)
  | _, _, .dK h r => .dK (l _ _ h) (FzK.mono l r)
  | _, _, .dT h r => .dT (l _ _ h) (FzT.mono l r)
  | _, _, .fn h => .fn h
theorem FzA.mono (l : Le F F') : ∀ {v : List V} {d : List D}, FzA mg K F v d → FzA mg K F' v d
  | _, _, .nil => .nil
  | _, _, .cons h r => .cons (Fz.mono l h) (FzA.mono l r)
theorem FzK.mono (l : Le F F') : ∀ {v : List (Key × V)} {d : List (D × D)}, FzK mg K F v d → FzK mg K F' v d
  | _, _, .nil => .nil
  | _, _, .cons h r => .cons (Fz.mono l h) (FzK.mono l r)
theorem FzT.mono (l : Le F F') : ∀ {v : List (List Key × V)} {d : List (D × D)}, FzT mg K F v d → FzT mg K F' v d
  | _, _, .nil => .nil
  | _, _, .cons h r => .cons (Fz.mono l h) (FzT.mono l r)
end
theorem FzA.len : ∀ {vs : List V} {ds : List D}, FzA mg K F vs ds → vs.length = ds.length
  | _, _, .nil => rfl
  | _, _, .cons _ r => by rw [List.length_cons, List.length_cons, FzA.len r]
theorem FzA.get : ∀ {vs : List V} {ds : List D} {i : Nat} {d : D}, FzA mg K F vs ds → ds[i]? = some d → ∃ v, vs[i]? = some v ∧ Fz mg K F v d
  | _, _, _, _, .nil, e => by simp at e
  | _, _, 0, _, .cons h _, e => by simp at e; subst e; exact ⟨_, rfl, h⟩
  | _, _, i + 1, d, .cons _ r, e => by
    obtain ⟨v, h1, h2⟩ := FzA.get (i := i) (d := d) r (by simpa using e)
    exact ⟨v, by simpa using h1, h2⟩
theorem FzA.append : ∀ {vs ws : List V} {ds es : List D}, FzA mg K F vs ds → FzA mg K F ws es → FzA mg K F (vs ++ ws) (ds ++ es)
  | _, _, _, _, .nil, s => s
  | _, _, _, _, .cons h r, s => .cons h (FzA.append r s)
theorem FzA.one {v : V} {d : D} (h : Fz mg K F v d) : FzA mg K F [v] [d] := .cons h .nil
theorem FzA.set {v : V} {d : D} (h : Fz mg K F v d) : ∀ {vs : List V} {ds : List D} (i : Nat), FzA mg K F vs ds → FzA mg K F (vs.set i v) (ds.set i d)
  | _, _, _, .nil => .nil
  | _, _, 0, .cons _ r => .cons h r
  | _, _, i + 1, .cons q r => .cons q (FzA.set h i r)
theorem FzA.take : ∀ {vs : List V} {ds : List D} (n : Nat), FzA mg K F vs ds → FzA mg K F (vs.take n) (ds.take n)
  | _, _, 0, _ => by simp only [List.take_zero]; exact .nil
  | _, _, _ + 1, .nil => .nil
  | _, _, n + 1, .cons h r => .cons h (FzA.take n r)
theorem FzA.drop : ∀ {vs : List V} {ds : List D} (n : Nat), FzA mg K F vs ds → FzA mg K F (vs.drop n) (ds.drop n)
  | _, _, 0, h => h
  | _, _, _ + 1, .nil => .nil
  | _, _, n + 1, .cons _ r => FzA.drop n r
theorem FzA.rev : ∀ {vs : List V} {ds : List D}, FzA mg K F vs ds → FzA mg K F vs.reverse ds.reverse
  | _, _, .nil => .nil
  | _, _, .cons h r => by
    rw [List.reverse_cons, List.reverse_cons]
    exact (FzA.rev r).append (.one h)
theorem FzA.ints : ∀ ns : List Int, FzA mg K F (ns.map V.int) (ns.map PyData.int)
  | [] => .nil
  | n :: r => .cons (.int n) (FzA.ints r)
theorem FzA.of_get : ∀ {vs : List V} {ds : List D}, FzA mg K F vs ds → ∀ {i : Nat} {v : V}, vs[i]? = some v → ∃ d, ds[i]? = some d ∧ Fz mg K F v d
  | _, _, .nil, _, _, e => by simp at e
  | _, _, .cons h _, 0, _, e => by simp at e; subst e; exact ⟨_, rfl, h⟩
  | _, _, .cons _ r, i + 1, v, e => by
    obtain ⟨d, h1, h2⟩ := FzA.of_get r (i := i) (v := v) (by simpa using e)
    exact ⟨d, by simpa using h1, h2⟩

/-! frozen data that hold no dict, as the data of the layer below -/
mutual
theorem Fz.dp : ∀ {v : V} {d : D}, Fz mg K F v d → d.canLay0 = true → Dp K F v d
  | _, _, .non, _ => .non
  | _, _, .bl b, _ => .bl b
  | _, _, .int i, _ => .int i
  | _, _, .str x, _ => .str x
  | _, _, .lst h r, c => .lst (SqL.of h) (FzA.dp r (by simpa [PyData.canLay0] using c))
  | _, _, .wt _ _, c => by simp [PyData.canLay0, wtD] at c
  | _, _, .tup h r, c => .tup (SqT.of h) (FzA.dp r (by simpa [PyData.canLay0] using c))
  | _, _, .dK _ _, c => by simp [PyData.canLay0] at c
  | _, _, .dT _ _, c => by simp [PyData.canLay0] at c
  | _, _, .scr _, c => by simp [PyData.canLay0, scrD] at c
  | _, _, .fn _, c => by simp [PyData.canLay0, fnD] at c
theorem FzA.dp : ∀ {v : List V} {d : List D}, FzA mg K F v d → PyData.canLayAll0 d = true → DpAll K F v d
  | _, _, .nil, _ => .nil
  | _, _, .cons h r, c => by
    have c' := Bool.and_eq_true_iff.mp (by simpa only [PyData.canLayAll0] using c)
    exact .cons (Fz.dp h c'.1) (FzA.dp r c'.2)
end
end
end FL

set_option maxHeartbeats 2000000
/-! FL2: what is owned, the state. -/
namespace FL
open PySem L2

/-- a shape: something frozen; a list, a dict of its own, with items of a shape -/
inductive Sh where
  | fz
  | L (s : Sh)
  | M (s : Sh)
  deriving DecidableEq

/-- item by item, their own addresses apart -/
inductive OwnsL (P : V → D → List Addr → Prop) : List V → List D → List Addr → Prop
  | nil : OwnsL P [] [] []
  | cons {v : V} {vs : List V} {d : D} {ds : List D} {f g : List Addr} : P v d f → OwnsL P vs ds g → (∀ b ∈ f, b ∉ g) → OwnsL P (v :: vs) (d :: ds) (f ++ g)
inductive OwnsK (P : V → D → List Addr → Prop) {κ : Type} (kd : κ → D) : List (κ × V) → List (D × D) → List Addr → Prop
  | nil : OwnsK P kd [] [] []
  | cons {k : κ} {v : V} {vs : List (κ × V)} {d : D} {ds : List (D × D)} {f g : List Addr} : P v d f → OwnsK P kd vs ds g → (∀ b ∈ f, b ∉ g) → OwnsK P kd ((k, v) :: vs) ((kd k, d) :: ds) (f ++ g)
def kT (k : List Key) : D := .tuple (k.map kD)

section
variable (mg : Str → Option Value) (K : PySem.W.Frag)
def Own (F H : Hp) : Sh → V → D → List Addr → Prop
  | .fz, v, d, fp => Fz mg K F v d ∧ fp = []
  | .L s, v, d, fp => ∃ (a : Addr) (vs : List V) (ds : List D) (g : List Addr), v = .ref a ∧ d = .list ds ∧ fp = a :: g ∧ F a = none ∧ H a = some (.lst vs) ∧ a ∉ g ∧ OwnsL (Own F H s) vs ds g
  | .M s, v, d, fp => ∃ (a : Addr) (l : List (D × D)) (g : List Addr), v = .ref a ∧ d = .dict l ∧ fp = a :: g ∧ F a = none ∧ a ∉ g ∧
      ((∃ kvs, H a = some (.dK kvs) ∧ OwnsK (Own F H s) kD kvs l g) ∨ ∃ kvs l', l = mkT :: l' ∧ H a = some (.dT kvs) ∧ OwnsK (Own F H s) kT kvs l' g)
end
section
variable {mg : Str → Option Value} {K : PySem.W.Frag} {F F' H H' : Hp}
theorem OwnsL.mono {P Q : V → D → List Addr → Prop} : ∀ {vs : List V} {ds : List D} {fp : List Addr}, OwnsL P vs ds fp → (∀ v d f, (∀ b ∈ f, b ∈ fp) → P v d f → Q v d f) → OwnsL Q vs ds fp
  | _, _, _, .nil, _ => .nil
  | _, _, _, .cons h r n, k => .cons (k _ _ _ (fun _ z => List.mem_append_left _ z) h) (OwnsL.mono r fun v d f z => k v d f fun b hb => List.mem_append_right _ (z b hb)) n
theorem OwnsK.mono {P Q : V → D → List Addr → Prop} {κ : Type} {kd : κ → D} : ∀ {vs : List (κ × V)} {ds : List (D × D)} {fp : List Addr}, OwnsK P kd vs ds fp → (∀ v d f, (∀ b ∈ f, b ∈ fp) → P v d f → Q v d f) → OwnsK Q kd vs ds fp
  | _, _, _, .nil, _ => .nil
  | _, _, _, .cons h r n, k => .cons (k _ _ _ (fun _ z => List.mem_append_left _ z) h) (OwnsK.mono r fun v d f z => k v d f fun b hb => List.mem_append_right _ (z b hb)) n
theorem OwnsL.fz : ∀ {vs : List V} {ds : List D}, FzA mg K F vs ds → OwnsL (Own mg K F H .fz) vs ds []
  | _, _, .nil => .nil
  | _, _, .cons h r => by
    have q := OwnsL.cons (P := Own mg K F H .fz) (f := []) (g := []) ⟨h, rfl⟩ (OwnsL.fz r) (fun b z => nomatch z)
    exact q
theorem OwnsL.toFz : ∀ {vs : List V} {ds : List D} {fp : List Addr}, OwnsL (Own mg K F H .fz) vs ds fp → FzA mg K F vs ds ∧ fp = []
  | _, _, _, .nil => ⟨.nil, rfl⟩
  | _, _, _, .cons h r _ => ⟨.cons h.1 (OwnsL.toFz r).1, by rw [h.2, (OwnsL.toFz r).2]; rfl⟩
theorem OwnsK.fz : ∀ {vs : List (Key × V)} {ds : List (D × D)}, FzK mg K F vs ds → OwnsK (Own mg K F H .fz) kD vs ds []
  | _, _, .nil => .nil
  | _, _, .cons h r => OwnsK.cons (P := Own mg K F H .fz) (f := []) (g := []) ⟨h, rfl⟩ (OwnsK.fz r) (fun b z => nomatch z)
theorem OwnsK.fzT : ∀ {vs : List (List Key × V)} {ds : List (D × D)}, FzT mg K F vs ds → OwnsK (Own mg K F H .fz) kT vs ds []
  | _, _, .nil => .nil
  | _, _, .cons h r => OwnsK.cons (P := Own mg K F H .fz) (f := []) (g := []) ⟨h, rfl⟩ (OwnsK.fzT r) (fun b z => nomatch z)
theorem OwnsK.toFz : ∀ {vs : List (Key × V)} {ds : List (D × D)} {fp : List Addr}, OwnsK (Own mg K F H .fz) kD vs ds fp → FzK mg K F vs ds ∧ fp = []
  | _, _, _, .nil => ⟨.nil, rfl⟩
  | _, _, _, .cons h r _ => ⟨.cons h.1 (OwnsK.toFz r).1, by rw [h.2, (OwnsK.toFz r).2]; rfl⟩
theorem OwnsK.toFzT : ∀ {vs : List (List Key × V)} {ds : List (D × D)} {fp : List Addr}, OwnsK (Own mg K F H .fz) kT vs ds fp → FzT mg K F vs ds ∧ fp = []
  | _, _, _, .nil => ⟨.nil, rfl⟩
  | _, _, _, .cons h r _ => ⟨.cons h.1 (OwnsK.toFzT r).1, by rw [h.2, (OwnsK.toFzT r).2]; rfl⟩

theorem Own.keep : ∀ (s : Sh) {v : V} {d : D} {fp : List Addr}, Own mg K F H s v d fp → Le F F' → (∀ b ∈ fp, F' b = none) → (∀ b ∈ fp, H' b = H b) → Own mg K F' H' s v d fp
  | .fz, _, _, _, ⟨h, e⟩, l, _, _ => ⟨h.mono l, e⟩
  | .L s, _, _, _, ⟨a, vs, ds, g, e1, e2, e3, e4, e5, e6, e7⟩, l, n, k => by
    subst e3
    exact ⟨a, vs, ds, g, e1, e2, rfl, n a List.mem_cons_self, by rw [k a List.mem_cons_self]; exact e5, e6,
      e7.mono fun v d f z q => Own.keep s q l (fun b hb => n b (List.mem_cons_of_mem _ (z b hb))) fun b hb => k b (List.mem_cons_of_mem _ (z b hb))⟩
  | .M s, _, _, _, ⟨a, ll, g, e1, e2, e3, e4, e6, e7⟩, l, n, k => by
    subst e3
    refine ⟨a, ll, g, e1, e2, rfl, n a List.mem_cons_self, e6, ?_⟩
    rcases e7 with ⟨kvs, e5, e7⟩ | ⟨kvs, l', e0, e5, e7⟩
    · exact .inl ⟨kvs, by rw [k a List.mem_cons_self]; exact e5, e7.mono fun v d f z q => Own.keep s q l (fun b hb => n b (List.mem_cons_of_mem _ (z b hb))) fun b hb => k b (List.mem_cons_of_mem _ (z b hb))⟩
    · exact .inr ⟨kvs, l', e0, by rw [k a List.mem_cons_self]; exact e5, e7.mono fun v d f z q => Own.keep s q l (fun b hb => n b (List.mem_cons_of_mem _ (z b hb))) fun b hb => k b (List.mem_cons_of_mem _ (z b hb))⟩
/-- its own addresses stand in H, not in F -/
theorem Own.at_ : ∀ (s : Sh) {v : V} {d : D} {fp : List Addr}, Own mg K F H s v d fp → ∀ b ∈ fp, F b = none ∧ ∃ o, H b = some o
  | .fz, _, _, _, ⟨_, e⟩, b, hb => by rw [e] at hb; cases hb
  | .L s, _, _, _, ⟨a, vs, ds, g, e1, e2, e3, e4, e5, e6, e7⟩, b, hb => by
    have all : ∀ {vs : List V} {ds : List D} {g : List Addr}, OwnsL (Own mg K F H s) vs ds g → ∀ b ∈ g, F b = none ∧ ∃ o, H b = some o := by
      intro vs ds g q
      induction q with
      | nil => intro b hb; cases hb
      | cons h r n ih =>
        intro b hb
        rcases List.mem_append.mp hb with hb | hb
        · exact Own.at_ s h b hb
        · exact ih b hb
    subst e3
    rcases List.mem_cons.mp hb with rfl | hb
    · exact ⟨e4, _, e5⟩
    · exact all e7 b hb
  | .M s, _, _, _, ⟨a, ll, g, e1, e2, e3, e4, e6, e7⟩, b, hb => by
    have all : ∀ {κ : Type} {kd : κ → D} {vs : List (κ × V)} {ds : List (D × D)} {g : List Addr}, OwnsK (Own mg K F H s) kd vs ds g → ∀ b ∈ g, F b = none ∧ ∃ o, H b = some o := by
      intro κ kd vs ds g q
      induction q with
      | nil => intro b hb; cases hb
      | cons h r n ih =>
        intro b hb
        rcases List.mem_append.mp hb with hb | hb
        · exact Own.at_ s h b hb
        · exact ih b hb
    subst e3
    rcases List.mem_cons.mp hb with rfl | hb
    · rcases e7 with ⟨kvs, e5, e7⟩ | ⟨kvs, l', e0, e5, e7⟩
      · exact ⟨e4, _, e5⟩
      · exact ⟨e4, _, e5⟩
    · rcases e7 with ⟨kvs, e5, e7⟩ | ⟨kvs, l', e0, e5, e7⟩
      · exact all e7 b hb
      · exact all e7 b hb
/-- frozen -/
theorem Own.freeze : ∀ (s : Sh) {v : V} {d : D} {fp : List Addr}, Own mg K F H s v d fp → Le F F' → (∀ b ∈ fp, F' b = H b) → Fz mg K F' v d
  | .fz, _, _, _, ⟨h, e⟩, l, _ => h.mono l
  | .L s, _, _, _, ⟨a, vs, ds, g, e1, e2, e3, e4, e5, e6, e7⟩, l, k => by
    have all : ∀ {vs : List V} {ds : List D} {g : List Addr}, OwnsL (Own mg K F H s) vs ds g → (∀ b ∈ g, F' b = H b) → FzA mg K F' vs ds := by
      intro vs ds g q
      induction q with
      | nil => intro _; exact .nil
      | cons h r n ih => intro hb; exact .cons (Own.freeze s h l fun b z => hb b (List.mem_append_left _ z)) (ih fun b z => hb b (List.mem_append_right _ z))
    subst e1 e2 e3
    exact .lst (by rw [k a List.mem_cons_self]; exact e5) (all e7 fun b hb => k b (List.mem_cons_of_mem _ hb))
  | .M s, _, _, _, ⟨a, ll, g, e1, e2, e3, e4, e6, e7⟩, l, k => by
    have all : ∀ {vs : List (Key × V)} {ds : List (D × D)} {g : List Addr}, OwnsK (Own mg K F H s) kD vs ds g → (∀ b ∈ g, F' b = H b) → FzK mg K F' vs ds := by
      intro vs ds g q
      induction q with
      | nil => intro _; exact .nil
      | cons h r n ih => intro hb; exact .cons (Own.freeze s h l fun b z => hb b (List.mem_append_left _ z)) (ih fun b z => hb b (List.mem_append_right _ z))
    have allT : ∀ {vs : List (List Key × V)} {ds : List (D × D)} {g : List Addr}, OwnsK (Own mg K F H s) kT vs ds g → (∀ b ∈ g, F' b = H b) → FzT mg K F' vs ds := by
      intro vs ds g q
      induction q with
      | nil => intro _; exact .nil
      | cons h r n ih => intro hb; exact .cons (Own.freeze s h l fun b z => hb b (List.mem_append_left _ z)) (ih fun b z => hb b (List.mem_append_right _ z))
    subst e1 e2 e3
    rcases e7 with ⟨kvs, e5, e7⟩ | ⟨kvs, l', e0, e5, e7⟩
    · exact .dK (by rw [k a List.mem_cons_self]; exact e5) (all e7 fun b hb => k b (List.mem_cons_of_mem _ hb))
    · subst e0; exact .dT (by rw [k a List.mem_cons_self]; exact e5) (allT e7 fun b hb => k b (List.mem_cons_of_mem _ hb))

/-! ### the state -/
/-- what a slot holds: frozen; its own; the caller's, handed in to be changed -/
inductive Sl where
  | fz (d : D)
  | own (s : Sh) (d : D)
  | io (s : Sh) (d : D)
def Sl.sh : Sl → Sh
  | .fz _ => .fz
  | .own s _ => s
  | .io s _ => s
def Sl.d : Sl → D
  | .fz d => d
  | .own _ d => d
  | .io _ d => d
def Sl.isIo : Sl → Bool
  | .io _ _ => true
  | _ => false
abbrev Ev := List (Option Sl)
def ioAt (env : Ev) (i : Nat) : Bool := match env[i]? with
  | some (some (.io _ _)) => true
  | _ => false
/-- the entry: the frozen part, the heap, the slots, the addresses that the caller lets be changed -/
structure Ent where
  F : Hp
  H : Hp
  σ : L2.St
  io : List Addr
/-- the state between two steps: the slots σ hold what env says; F: what is frozen -/
structure R (mg : Str → Option Value) (K : PySem.W.Frag) (E : Ent) (F : Hp) (env : Ev) (σ : L2.St) (H : Hp) : Prop where
  sub : Le F H
  base : Le E.F F
  len : σ.length = env.length
  fr1 : ∀ b o, E.H b = some o → b ∉ E.io → H b = some o
  fr2 : ∀ b, F b ≠ none → E.F b ≠ none ∨ E.H b = none
  fr3 : ∀ b, E.H b ≠ none → H b ≠ none
  ios : ∀ (i : Nat) (s : Sh) (d : D), env[i]? = some (some (.io s d)) → σ[i]? = E.σ[i]?
  slots : ∃ fps : Nat → List Addr, (∀ (i : Nat) (x : Sl), env[i]? = some (some x) → ∃ v, σ[i]? = some (some v) ∧ Own mg K F H x.sh v x.d (fps i)) ∧
    (∀ i b, b ∈ fps i → (F b = none ∧ H b ≠ none) ∧ ((b ∈ E.io ∧ ioAt env i = true) ∨ E.H b = none)) ∧ ∀ i j b, i ≠ j → b ∈ fps i → b ∉ fps j

/-- the heap has grown: new frozen things, nothing else changed -/
structure Grow (F H F' H' : Hp) : Prop where
  f : Le F F'
  h : Le H H'
  sub : Le F' H'
  new : ∀ b, F' b ≠ none → F b ≠ none ∨ H b = none
theorem Grow.refl (s : Le F H) : Grow F H F H := ⟨.refl _, .refl _, s, fun _ h => .inl h⟩
theorem Grow.trans {F1 F2 F3 H1 H2 H3 : Hp} (a : Grow F1 H1 F2 H2) (b : Grow F2 H2 F3 H3) : Grow F1 H1 F3 H3 :=
  ⟨a.f.trans b.f, a.h.trans b.h, b.sub, fun c h => by
    rcases b.new c h with h | h
    · exact a.new c h
    · exact .inr (a.h.back h)⟩
/-- a new frozen object -/
theorem Grow.one (s : Le F H) {p : Addr} (o : HO) (h : H p = none) : Grow F H (upd F p o) (upd H p o) where
  f := .new (s.back h)
  h := .new h
  sub := fun a u e => by
    by_cases q : a = p
    · subst q; rw [upd_same] at e ⊢; exact e
    · rw [upd_ne q] at e ⊢; exact s _ _ e
  new := fun b hb => by
    by_cases q : b = p
    · subst q; exact .inr h
    · rw [upd_ne q] at hb; exact .inl hb
/-- a new object that stays unfrozen -/
theorem Grow.loose (s : Le F H) {p : Addr} (o : HO) (h : H p = none) : Grow F H F (upd H p o) :=
  ⟨.refl _, .new h, fun a u e => Le.new h _ _ (s _ _ e), fun _ h => .inl h⟩
theorem Grow.not {F H F' H' : Hp} (g : Grow F H F' H') {b : Addr} (h1 : F b = none) (h2 : H b ≠ none) : F' b = none := by
  cases q : F' b with
  | none => rfl
  | some o =>
    rcases g.new b (by rw [q]; exact fun z => nomatch z) with z | z
    · exact absurd h1 z
    · exact absurd z h2
theorem Le.same {H H' : Hp} (l : Le H H') {b : Addr} (h : H b ≠ none) : H' b = H b := by
  cases q : H b with
  | none => exact absurd q h
  | some o => exact l b o q

variable {E : Ent} {env : Ev} {σ : L2.St}
theorem R.grow (r : R mg K E F env σ H) (g : Grow F H F' H') : R mg K E F' env σ H' := by
  obtain ⟨fps, h1, h2, h3⟩ := r.slots
  have nF : ∀ i b, b ∈ fps i → F' b = none := fun i b hb => g.not (h2 i b hb).1.1 (h2 i b hb).1.2
  have nH : ∀ i b, b ∈ fps i → H' b = H b := fun i b hb => g.h.same (h2 i b hb).1.2
  refine ⟨g.sub, r.base.trans g.f, r.len, fun b o e n => g.h b o (r.fr1 b o e n), fun b hb => ?_, fun b hb => ?_, r.ios, fps, fun i x e1 => ?_, fun i b hb => ⟨⟨nF i b hb, ?_⟩, (h2 i b hb).2⟩, h3⟩
  · rcases g.new b hb with z | z
    · exact r.fr2 b z
    · refine .inr ?_
      cases q : E.H b with
      | none => rfl
      | some o => exact absurd z (r.fr3 b (by rw [q]; exact fun z => nomatch z))
  · rw [g.h.same (r.fr3 b hb)]; exact r.fr3 b hb
  · obtain ⟨v, e3, e4⟩ := h1 i x e1
    exact ⟨v, e3, e4.keep _ g.f (nF i) (nH i)⟩
  · rw [nH i b hb]; exact (h2 i b hb).1.2
theorem R.val (r : R mg K E F env σ H) {i : Nat} {d : D} (e : env[i]? = some (some (.fz d))) : ∃ v, σ[i]? = some (some v) ∧ Fz mg K F v d := by
  obtain ⟨fps, h1, _, _⟩ := r.slots
  obtain ⟨v, e1, e2⟩ := h1 i _ e
  exact ⟨v, e1, e2.1⟩

/-- the slot may be stored anew (it isn't the caller's) -/
def freeAt (env : Ev) (i : Nat) : Bool := match env[i]? with
  | some (some (.io _ _)) => false
  | some _ => true
  | none => false
theorem freeAt_lt {i : Nat} (h : freeAt env i = true) : i < env.length := by
  cases e : env[i]? with
  | none => unfold freeAt at h; rw [e] at h; cases h
  | some x => exact (List.getElem?_eq_some_iff.mp e).1
theorem freeAt_io {i : Nat} (h : freeAt env i = true) : ioAt env i = false := by
  unfold freeAt at h
  unfold ioAt
  split at h
  · cases h
  · rename_i x q q2
    split
    · rename_i s d e
      rw [e] at q2
      injection q2 with q2
      exact absurd q2.symm (q s d)
    · rfl
  · cases h
/-- the general change of a slot: the heap H' as it was but for the slot's own addresses and new ones -/
theorem R.change (r : R mg K E F env σ H) {i : Nat} {x : Sl} {v : V} {F' H' : Hp} (hi : i < env.length) (hx : x.isIo = ioAt env i) (hxv : ioAt env i = true → σ[i]? = some (some v))
    (old : ∀ g : List Addr, (∀ y : Sl, env[i]? = some (some y) → ∃ w, σ[i]? = some (some w) ∧ Own mg K F H y.sh w y.d g) → (∀ b ∈ g, F b = none ∧ H b ≠ none) → ∃ fp : List Addr,
      (∀ b o, H b = some o → b ∉ g → H' b = some o) ∧ (∀ b, H b ≠ none → H' b ≠ none) ∧ (∀ b ∈ fp, F' b = none ∧ H' b ≠ none ∧ (b ∈ g ∨ H b = none)) ∧ Own mg K F' H' x.sh v x.d fp)
    (hF : Le F F') (hs : Le F' H') (hn : ∀ b, F' b ≠ none → F b ≠ none ∨ H b = none) : R mg K E F' (env.set i (some x)) (σ.set i (some v)) H' := by
  obtain ⟨fps, h1, h2, h3⟩ := r.slots
  obtain ⟨fp, g3, g4, g5, hO⟩ := old (fps i) (fun y e => h1 i y e) (fun b hb => (h2 i b hb).1)
  have nF : ∀ j b, j ≠ i → b ∈ fps j → F' b = none := fun j b _ hb => by
    cases q : F' b with
    | none => rfl
    | some o =>
      rcases hn b (by rw [q]; exact fun z => nomatch z) with z | z
      · exact absurd (h2 j b hb).1.1 z
      · exact absurd z (h2 j b hb).1.2
  have nH : ∀ j b, j ≠ i → b ∈ fps j → H' b = H b := fun j b hj hb => by
    cases q : H b with
    | none => exact absurd q (h2 j b hb).1.2
    | some o => exact g3 b o q fun z => h3 j i b hj hb z
  have ioS : ∀ j, ioAt (env.set i (some x)) j = ioAt env j := fun j => by
    by_cases hj : j = i
    · subst hj
      rw [← hx]
      unfold ioAt
      rw [List.getElem?_set_self hi]
      cases x <;> rfl
    · unfold ioAt
      rw [List.getElem?_set_ne (fun z => hj z.symm)]
  have fpo : ∀ b ∈ fp, (b ∈ E.io ∧ ioAt env i = true) ∨ E.H b = none := fun b hb => by
    rcases (g5 b hb).2.2 with z | z
    · exact (h2 i b z).2
    · refine .inr ?_
      cases q : E.H b with
      | none => rfl
      | some o => exact absurd z (r.fr3 b (by rw [q]; exact fun z => nomatch z))
  obtain ⟨fq, q1, q2⟩ : ∃ fq : Nat → List Addr, fq i = fp ∧ ∀ j, j ≠ i → fq j = fps j := ⟨fun j => if j = i then fp else fps j, if_pos rfl, fun j hj => if_neg hj⟩
  refine ⟨hs, r.base.trans hF, by rw [List.length_set, List.length_set]; exact r.len, fun b o e n => ?_, fun b hb => ?_, fun b hb => g4 b (r.fr3 b hb), fun j s d e => ?_, fq, fun j y e => ?_, fun j b hb => ?_, fun j k b hjk hb hb' => ?_⟩
  · refine g3 b o (r.fr1 b o e n) fun z => ?_
    rcases (h2 i b z).2 with q | q
    · exact n q.1
    · rw [q] at e; cases e
  · rcases hn b hb with z | z
    · exact r.fr2 b z
    · refine .inr ?_
      cases q : E.H b with
      | none => rfl
      | some o => exact absurd z (r.fr3 b (by rw [q]; exact fun z => nomatch z))
  · by_cases hj : j = i
    · subst hj
      rw [List.getElem?_set_self hi] at e
      have ex : x = .io s d := Option.some.inj (Option.some.inj e)
      have hio : ioAt env j = true := by rw [← hx, ex]; rfl
      rw [List.getElem?_set_self (by rw [r.len]; exact hi), ← hxv hio]
      unfold ioAt at hio
      split at hio
      · rename_i s' d' q2
        exact r.ios j s' d' q2
      · cases hio
    · rw [List.getElem?_set_ne (fun z => hj z.symm)] at e ⊢
      exact r.ios j s d e
  · by_cases hj : j = i
    · subst hj
      rw [List.getElem?_set_self hi] at e
      obtain rfl : x = y := Option.some.inj (Option.some.inj e)
      exact ⟨v, List.getElem?_set_self (by rw [r.len]; exact hi), by rw [q1]; exact hO⟩
    · rw [List.getElem?_set_ne (fun z => hj z.symm)] at e ⊢
      obtain ⟨w, e1, e2⟩ := h1 j y e
      exact ⟨w, e1, by rw [q2 j hj]; exact e2.keep _ hF (fun b => nF j b hj) (fun b => nH j b hj)⟩
  · by_cases hj : j = i
    · rw [hj, q1] at hb
      rw [ioS, hj]
      exact ⟨⟨(g5 b hb).1, (g5 b hb).2.1⟩, fpo b hb⟩
    · rw [q2 j hj] at hb
      rw [ioS]
      exact ⟨⟨nF j b hj hb, by rw [nH j b hj hb]; exact (h2 j b hb).1.2⟩, (h2 j b hb).2⟩
  · by_cases hj : j = i
    · have hk : k ≠ i := fun z => hjk (hj.trans z.symm)
      rw [hj, q1] at hb
      rw [q2 k hk] at hb'
      rcases (g5 b hb).2.2 with z | z
      · exact h3 k i b hk hb' z
      · exact (h2 k b hb').1.2 z
    · rw [q2 j hj] at hb
      by_cases hk : k = i
      · rw [hk, q1] at hb'
        rcases (g5 b hb').2.2 with z | z
        · exact h3 j i b hj hb z
        · exact (h2 j b hb).1.2 z
      · rw [q2 k hk] at hb'
        exact h3 j k b hjk hb hb'
/-- something frozen is stored -/
theorem R.setFz (r : R mg K E F env σ H) {i : Nat} {d : D} {v : V} (hi : freeAt env i = true) (h : Fz mg K F v d) : R mg K E F (env.set i (some (.fz d))) (σ.set i (some v)) H :=
  r.change (freeAt_lt hi) (freeAt_io hi).symm (fun z => by rw [freeAt_io hi] at z; cases z) (fun g _ _ => ⟨[], (fun _ _ e _ => e), (fun _ h => h), (fun _ z => nomatch z), h, rfl⟩) (.refl _) r.sub (fun _ h => .inl h)
/-- an own slot is frozen as it stands -/
theorem R.freeze (r : R mg K E F env σ H) {i : Nat} {s : Sh} {d : D} (e : env[i]? = some (some (.own s d))) : ∃ (F' : Hp) (v : V), Le F F' ∧ σ[i]? = some (some v) ∧ R mg K E F' (env.set i (some (.fz d))) σ H ∧ Fz mg K F' v d := by
  obtain ⟨fps, h1, h2, h3⟩ := r.slots
  obtain ⟨v, e1, e2⟩ := h1 i _ e
  obtain ⟨F', f1, f2⟩ : ∃ F' : Hp, (∀ b ∈ fps i, F' b = H b) ∧ ∀ b, b ∉ fps i → F' b = F b := ⟨fun b => if b ∈ fps i then H b else F b, fun b hb => if_pos hb, fun b hb => if_neg hb⟩
  have l : Le F F' := fun b o q => by
    by_cases hb : b ∈ fps i
    · rw [(h2 i b hb).1.1] at q; cases q
    · rw [f2 b hb]; exact q
  have ls : Le F' H := fun b o q => by
    by_cases hb : b ∈ fps i
    · rw [f1 b hb] at q; exact q
    · rw [f2 b hb] at q; exact r.sub b o q
  have z : Fz mg K F' v d := e2.freeze _ l f1
  have hi : i < env.length := (List.getElem?_eq_some_iff.mp e).1
  obtain ⟨fq, q1, q2⟩ : ∃ fq : Nat → List Addr, fq i = [] ∧ ∀ j, j ≠ i → fq j = fps j := ⟨fun j => if j = i then [] else fps j, if_pos rfl, fun j hj => if_neg hj⟩
  have nF : ∀ j b, j ≠ i → b ∈ fps j → F' b = none := fun j b hj hb => by rw [f2 b (h3 j i b hj hb)]; exact (h2 j b hb).1.1
  have io0 : ioAt env i = false := by unfold ioAt; rw [e]
  have ioS : ∀ j, ioAt (env.set i (some (.fz d))) j = ioAt env j := fun j => by
    by_cases hj : j = i
    · subst hj
      rw [io0]
      unfold ioAt
      rw [List.getElem?_set_self hi]
    · unfold ioAt
      rw [List.getElem?_set_ne (fun z => hj z.symm)]
  refine ⟨F', v, l, e1, ⟨ls, r.base.trans l, by rw [List.length_set]; exact r.len, r.fr1, fun b hb => ?_, r.fr3, fun j s d e => ?_, fq, fun j y e => ?_, fun j b hb => ?_, fun j k b hjk hb hb' => ?_⟩, z⟩
  · by_cases hi : b ∈ fps i
    · rcases (h2 i b hi).2 with q | q
      · rw [io0] at q; exact nomatch q.2
      · exact .inr q
    · rw [f2 b hi] at hb; exact r.fr2 b hb
  · by_cases hj : j = i
    · subst hj; rw [List.getElem?_set_self hi] at e; cases e
    · rw [List.getElem?_set_ne (fun z => hj z.symm)] at e; exact r.ios j s d e
  · by_cases hj : j = i
    · subst hj
      rw [List.getElem?_set_self hi] at e
      obtain rfl : Sl.fz d = y := Option.some.inj (Option.some.inj e)
      exact ⟨v, e1, by rw [q1]; exact ⟨z, rfl⟩⟩
    · rw [List.getElem?_set_ne (fun z => hj z.symm)] at e
      obtain ⟨w, e3, e4⟩ := h1 j y e
      exact ⟨w, e3, by rw [q2 j hj]; exact e4.keep _ l (fun b => nF j b hj) (fun _ _ => rfl)⟩
  · by_cases hj : j = i
    · rw [hj, q1] at hb; cases hb
    · rw [q2 j hj] at hb
      rw [ioS]
      exact ⟨⟨nF j b hj hb, (h2 j b hb).1.2⟩, (h2 j b hb).2⟩
  · by_cases hj : j = i
    · rw [hj, q1] at hb; cases hb
    · rw [q2 j hj] at hb
      by_cases hk : k = i
      · rw [hk, q1] at hb'; cases hb'
      · rw [q2 k hk] at hb'; exact h3 j k b hjk hb hb'
end
end FL

set_option maxHeartbeats 2000000
/-! FL3: operands, what is seen of them, operations on data. -/
namespace FL
open PySem L2

/-- an operand: a datum; a slot, read when it is wanted -/
inductive Lz where
  | c (d : D)
  | s (i : Nat)
def flatSh : Sh → Bool
  | .fz => true
  | .L .fz => true
  | .M .fz => true
  | _ => false
def Lz.read (env : Ev) : Lz → Option D
  | .c d => some d
  | .s i => match env[i]? with
    | some (some x) => if flatSh x.sh = true then some x.d else none
    | _ => none
/-- taken for good: an own slot is frozen as it stands -/
def Lz.take (env : Ev) : Lz → Option (D × Ev)
  | .c d => some (d, env)
  | .s i => match env[i]? with
    | some (some (.fz d)) => some (d, env)
    | some (some (.own _ d)) => some (d, env.set i (some (.fz d)))
    | _ => none
def rdA (env : Ev) : List Lz → Option (List D)
  | [] => some []
  | x :: xs => (x.read env).bind fun d => (rdA env xs).map fun ds => d :: ds
def tkA (env : Ev) : List Lz → Option (List D × Ev)
  | [] => some ([], env)
  | x :: xs => (x.take env).bind fun r => (tkA r.2 xs).map fun q => (r.1 :: q.1, q.2)

section
variable (mg : Str → Option Value) (K : PySem.W.Frag)
/-- the items of an object -/
def ItO (F : Hp) (o : HO) (d : D) : Prop :=
  (∃ vs ds, o = .lst vs ∧ d = .list ds ∧ FzA mg K F vs ds) ∨ (∃ kvs l, o = .dK kvs ∧ d = .dict l ∧ FzK mg K F kvs l) ∨ ∃ kvs l, o = .dT kvs ∧ d = .dict (mkT :: l) ∧ FzT mg K F kvs l
/-- what may be read now -/
def Vw (F H : Hp) (v : V) (d : D) : Prop := Fz mg K F v d ∨ ∃ a o, v = .ref a ∧ H a = some o ∧ ItO mg K F o d
inductive VwA (F H : Hp) : List V → List D → Prop
  | nil : VwA F H [] []
  | cons {v : V} {vs : List V} {d : D} {ds : List D} : Vw mg K F H v d → VwA F H vs ds → VwA F H (v :: vs) (d :: ds)
/-- the value of an operand -/
def LV (F : Hp) (σ : L2.St) : Lz → V → Prop
  | .c d, v => Fz mg K F v d
  | .s i, v => σ[i]? = some (some v)
inductive LVA (F : Hp) (σ : L2.St) : List Lz → List V → Prop
  | nil : LVA F σ [] []
  | cons {x : Lz} {xs : List Lz} {v : V} {vs : List V} : LV mg K F σ x v → LVA F σ xs vs → LVA F σ (x :: xs) (v :: vs)
end
section
variable {mg : Str → Option Value} {K : PySem.W.Frag} {F F' H H' : Hp} {E : Ent} {env : Ev} {σ : L2.St} {v : V} {d : D}
theorem LV.mono (l : Le F F') {x : Lz} (h : LV mg K F σ x v) : LV mg K F' σ x v := by
  cases x with
  | c d => exact Fz.mono l h
  | s i => exact h
theorem LVA.mono (l : Le F F') {xs : List Lz} {vs : List V} (h : LVA mg K F σ xs vs) : LVA mg K F' σ xs vs := by
  induction h with
  | nil => exact .nil
  | cons h _ ih => exact .cons (h.mono l) ih
theorem R.view (r : R mg K E F env σ H) {x : Lz} (h : LV mg K F σ x v) (e : x.read env = some d) : Vw mg K F H v d := by
  cases x with
  | c d' => cases e; exact .inl h
  | s i =>
    dsimp only [Lz.read] at e
    split at e
    · rename_i x q
      split at e
      · rename_i hf
        cases e
        obtain ⟨fps, h1, _, _⟩ := r.slots
        obtain ⟨w, e1, e2⟩ := h1 i x q
        have hv : some (some w) = some (some v) := e1.symm.trans h
        cases hv
        unfold flatSh at hf
        split at hf
        · rename_i q2; rw [q2] at e2; exact .inl e2.1
        · rename_i q2
          rw [q2] at e2
          obtain ⟨a, vs, ds, g, e1, e2, e3, e4, e5, e6, e7⟩ := e2
          exact .inr ⟨a, _, e1, e5, .inl ⟨vs, ds, rfl, e2, e7.toFz.1⟩⟩
        · rename_i q2
          rw [q2] at e2
          obtain ⟨a, l, g, e1, e2, e3, e4, e6, e7⟩ := e2
          rcases e7 with ⟨kvs, e5, e7⟩ | ⟨kvs, l', e0, e5, e7⟩
          · exact .inr ⟨a, _, e1, e5, .inr (.inl ⟨kvs, l, rfl, e2, e7.toFz.1⟩)⟩
          · subst e0; exact .inr ⟨a, _, e1, e5, .inr (.inr ⟨kvs, l', rfl, e2, e7.toFzT.1⟩)⟩
        · cases hf
      · cases e
    · cases e
theorem R.views (r : R mg K E F env σ H) : ∀ {xs : List Lz} {vs : List V} {ds : List D}, LVA mg K F σ xs vs → rdA env xs = some ds → VwA mg K F H vs ds
  | _, _, _, .nil, e => by cases e; exact .nil
  | x :: xs, _, _, .cons h t, e => by
    unfold rdA at e
    obtain ⟨d, e1, e2⟩ := Option.bind_eq_some_iff.mp e
    obtain ⟨ds, e3, e4⟩ := Option.map_eq_some_iff.mp e2
    cases e4
    exact .cons (r.view h e1) (R.views r t e3)
theorem R.take (r : R mg K E F env σ H) {x : Lz} {env' : Ev} (h : LV mg K F σ x v) (e : x.take env = some (d, env')) : ∃ F', Le F F' ∧ R mg K E F' env' σ H ∧ Fz mg K F' v d := by
  cases x with
  | c d' => cases e; exact ⟨F, .refl _, r, h⟩
  | s i =>
    dsimp only [Lz.take] at e
    split at e
    · rename_i d' q
      cases e
      obtain ⟨w, e1, e2⟩ := r.val q
      have hv : some (some w) = some (some v) := e1.symm.trans h
      cases hv
      exact ⟨F, .refl _, r, e2⟩
    · rename_i s d' q
      cases e
      obtain ⟨F', w, l, e1, r', z⟩ := r.freeze q
      have hv : some (some w) = some (some v) := e1.symm.trans h
      cases hv
      exact ⟨F', l, r', z⟩
    · cases e
theorem R.takes : ∀ {xs : List Lz} {vs : List V} {ds : List D} {F : Hp} {env env' : Ev}, R mg K E F env σ H → LVA mg K F σ xs vs → tkA env xs = some (ds, env') → ∃ F', Le F F' ∧ R mg K E F' env' σ H ∧ FzA mg K F' vs ds
  | _, _, _, F, _, _, r, .nil, e => by cases e; exact ⟨F, .refl _, r, .nil⟩
  | x :: xs, _, _, F, _, _, r, .cons h t, e => by
    unfold tkA at e
    obtain ⟨⟨d, env1⟩, e1, e2⟩ := Option.bind_eq_some_iff.mp e
    obtain ⟨⟨ds, env2⟩, e3, e4⟩ := Option.map_eq_some_iff.mp e2
    cases e4
    obtain ⟨F1, l1, r1, z1⟩ := r.take h e1
    obtain ⟨F2, l2, r2, z2⟩ := R.takes r1 (t.mono l1) e3
    exact ⟨F2, l1.trans l2, r2, .cons (z1.mono l2) z2⟩

/-! ### seeing -/
theorem ItO.mono (l : Le F F') {o : HO} (h : ItO mg K F o d) : ItO mg K F' o d := by
  rcases h with ⟨vs, ds, e1, e2, h⟩ | ⟨vs, ds, e1, e2, h⟩ | ⟨vs, ds, e1, e2, h⟩
  · exact .inl ⟨vs, ds, e1, e2, h.mono l⟩
  · exact .inr (.inl ⟨vs, ds, e1, e2, h.mono l⟩)
  · exact .inr (.inr ⟨vs, ds, e1, e2, h.mono l⟩)
theorem ItO.fz {a : Addr} {o : HO} (e : F a = some o) (h : ItO mg K F o d) : Fz mg K F (.ref a) d := by
  rcases h with ⟨vs, ds, e1, e2, h⟩ | ⟨vs, ds, e1, e2, h⟩ | ⟨vs, ds, e1, e2, h⟩
  · subst e1 e2; exact .lst e h
  · subst e1 e2; exact .dK e h
  · subst e1 e2; exact .dT e h
theorem Vw.fz (h : Fz mg K F v d) : Vw mg K F H v d := .inl h
/-- as it stands in the heap -/
theorem Vw.now (l : Le F H) (h : Vw mg K F H v d) : Fz mg K H v d := by
  rcases h with h | ⟨a, o, rfl, e, h⟩
  · exact h.mono l
  · exact ItO.fz e (h.mono l)
theorem Vw.int {i : Int} (h : Vw mg K F H v (.int i)) : v = .int i := by
  rcases h with h | ⟨a, o, _, _, h⟩
  · cases h; rfl
  · rcases h with ⟨_, _, _, e, _⟩ | ⟨_, _, _, e, _⟩ | ⟨_, _, _, e, _⟩ <;> cases e
theorem Vw.bl {i : Bool} (h : Vw mg K F H v (.bool i)) : v = .bl i := by
  rcases h with h | ⟨a, o, _, _, h⟩
  · cases h; rfl
  · rcases h with ⟨_, _, _, e, _⟩ | ⟨_, _, _, e, _⟩ | ⟨_, _, _, e, _⟩ <;> cases e
theorem Vw.str {i : Str} (h : Vw mg K F H v (.str i)) : v = .str i := by
  rcases h with h | ⟨a, o, _, _, h⟩
  · cases h; rfl
  · rcases h with ⟨_, _, _, e, _⟩ | ⟨_, _, _, e, _⟩ | ⟨_, _, _, e, _⟩ <;> cases e
theorem Vw.non (h : Vw mg K F H v .none) : v = .non := by
  rcases h with h | ⟨a, o, _, _, h⟩
  · cases h; rfl
  · rcases h with ⟨_, _, _, e, _⟩ | ⟨_, _, _, e, _⟩ | ⟨_, _, _, e, _⟩ <;> cases e
theorem Vw.tup {ds : List D} (l : Le F H) (h : Vw mg K F H v (.tuple ds)) : ∃ a vs, v = .ref a ∧ H a = some (.tup vs) ∧ FzA mg K F vs ds := by
  rcases h with h | ⟨a, o, _, _, h⟩
  · cases h with
    | tup h r => exact ⟨_, _, rfl, l _ _ h, r⟩
  · rcases h with ⟨_, _, _, e, _⟩ | ⟨_, _, _, e, _⟩ | ⟨_, _, _, e, _⟩ <;> cases e
theorem Vw.lst {ds : List D} (l : Le F H) (h : Vw mg K F H v (.list ds)) : ∃ a vs, v = .ref a ∧ H a = some (.lst vs) ∧ FzA mg K F vs ds := by
  rcases h with h | ⟨a, o, e0, e1, h⟩
  · cases h with
    | lst h r => exact ⟨_, _, rfl, l _ _ h, r⟩
  · rcases h with ⟨vs, ds', e2, e, r⟩ | ⟨_, _, _, e, _⟩ | ⟨_, _, _, e, _⟩
    · cases e; subst e2; exact ⟨a, vs, e0, e1, r⟩
    · cases e
    · cases e
theorem Vw.dct {l : List (D × D)} (le : Le F H) (h : Vw mg K F H v (.dict l)) : (∃ a kvs, v = .ref a ∧ H a = some (.dK kvs) ∧ FzK mg K F kvs l) ∨ (∃ a kvs l', l = mkT :: l' ∧ v = .ref a ∧ H a = some (.dT kvs) ∧ FzT mg K F kvs l') ∨ (∃ x f, l = [(.none, .str x)] ∧ v = .ref f ∧ mg x = some (.ref f)) ∨ (∃ (a : Addr) (ns : List Int), l = [(.none, .list (ns.map PyData.int))] ∧ v = .ref a ∧ SqL K H a (ns.map V.int)) ∨ ∃ a vs ds, l = [(.none, .tuple ds)] ∧ v = .ref a ∧ SqT K H a vs ∧ FzA mg K F vs ds := by
  rcases h with h | ⟨a, o, e0, e1, h⟩
  · cases h with
    | dK h r => exact .inl ⟨_, _, rfl, le _ _ h, r⟩
    | dT h r => exact .inr (.inl ⟨_, _, _, rfl, rfl, le _ _ h, r⟩)
    | fn h => exact .inr (.inr (.inl ⟨_, _, rfl, rfl, h⟩))
    | scr h => exact .inr (.inr (.inr (.inl ⟨_, _, rfl, rfl, le.lst h⟩)))
    | wt h r => exact .inr (.inr (.inr (.inr ⟨_, _, _, rfl, rfl, le.tup h, r⟩)))
  · rcases h with ⟨_, _, _, e, _⟩ | ⟨kvs, l', e2, e, r⟩ | ⟨kvs, l', e2, e, r⟩
    · cases e
    · cases e; subst e2; exact .inl ⟨a, kvs, e0, e1, r⟩
    · cases e; subst e2; exact .inr (.inl ⟨a, kvs, _, rfl, e0, e1, r⟩)
theorem Vw.grow {F1 H1 : Hp} (g : Grow F H F1 H1) (h : Vw mg K F H v d) : Vw mg K F1 H1 v d := by
  rcases h with h | ⟨a, o, e0, e1, h⟩
  · exact .inl (h.mono g.f)
  · exact .inr ⟨a, o, e0, g.h _ _ e1, h.mono g.f⟩
end
end FL

set_option maxHeartbeats 2000000
/-! FL4: operations on data. -/
namespace FL
open PySem PySem.Spec L2

section
variable (mg : Str → Option Value) (K : PySem.W.Frag)
/-- what follows an operation that gives the datum z -/
def Kz (F H : Hp) (z : D) (Q : VK) : Prop := ∀ F' H' v, Grow F H F' H' → Fz mg K F' v z → Q v H'
/-- .. that gives a new object -/
def Kn (F H : Hp) (z : D) (Q : VK) : Prop := ∀ F' H' p o, Grow F H F' H' → H' p = none → ItO mg K F' o z → Q (.ref p) (upd H' p o)
/-- a two-place operation on values does f on data -/
def SemB (r : R2) (f : List D → Option D) : Prop := ∀ (F H : Hp) (x y : V) (dx dy z : D) (Q : VK), Le F H → Vw mg K F H x dx → Vw mg K F H y dy → f [dx, dy] = some z → Kz mg K F H z Q → r x y H Q
def SemBN (r : R2) (f : List D → Option D) : Prop := ∀ (F H : Hp) (x y : V) (dx dy z : D) (Q : VK), Le F H → Vw mg K F H x dx → Vw mg K F H y dy → f [dx, dy] = some z → Kn mg K F H z Q → r x y H Q
def SemU (r : V → Hp → VK → Prop) (f : List D → Option D) : Prop := ∀ (F H : Hp) (x : V) (dx z : D) (Q : VK), Le F H → Vw mg K F H x dx → f [dx] = some z → Kz mg K F H z Q → r x H Q
/-- a call by values -/
def SemC (r : List V → Hp → VK → Prop) (f : List D → Option D) : Prop := ∀ (F H : Hp) (xs : List V) (ds : List D) (z : D) (Q : VK), Le F H → VwA mg K F H xs ds → f ds = some z → Kz mg K F H z Q → r xs H Q
def SemCN (r : List V → Hp → VK → Prop) (f : List D → Option D) : Prop := ∀ (F H : Hp) (xs : List V) (ds : List D) (z : D) (Q : VK), Le F H → VwA mg K F H xs ds → f ds = some z → Kn mg K F H z Q → r xs H Q
end
section
variable {mg : Str → Option Value} {K : PySem.W.Frag} {F F' H H' : Hp} {z : D} {Q : VK}
theorem Kz.here (l : Le F H) (k : Kz mg K F H z Q) {v : V} (h : Fz mg K F v z) : Q v H := k F H v (.refl l) h
/-- a new frozen object -/
theorem Kz.new (l : Le F H) (k : Kz mg K F H z Q) {p : Addr} (h : H p = none) {o : HO} (i : ItO mg K (upd F p o) o z) : Q (.ref p) (upd H p o) :=
  k _ _ _ (.one l o h) (ItO.fz upd_same i)
theorem Kz.tup (l : Le F H) {ds : List D} (k : Kz mg K F H (.tuple ds) Q) {p : Addr} (h : H p = none) {vs : List V} (i : FzA mg K F vs ds) : Q (.ref p) (upd H p (.tup vs)) :=
  k _ _ _ (.one l _ h) (.tup upd_same (i.mono (.new (l.back h))))
theorem Kn.lst (l : Le F H) {ds : List D} (k : Kn mg K F H (.list ds) Q) {p : Addr} (h : H p = none) {vs : List V} (i : FzA mg K F vs ds) : Q (.ref p) (upd H p (.lst vs)) :=
  k _ _ _ _ (.refl l) h (.inl ⟨vs, ds, rfl, rfl, i⟩)
theorem SemB.or {r r' : R2} {f : List D → Option D} (h : ∀ (F H : Hp) (x y : V) (dx dy z : D) (Q : VK), Le F H → Vw mg K F H x dx → Vw mg K F H y dy → f [dx, dy] = some z → Kz mg K F H z Q → r x y H Q ∨ r' x y H Q) :
    SemB mg K (fun x y H Q => r x y H Q ∨ r' x y H Q) f := h
theorem VwA.one {vs : List V} {d : D} (h : VwA mg K F H vs [d]) : ∃ v, vs = [v] ∧ Vw mg K F H v d := by
  cases h with
  | cons h r => cases r; exact ⟨_, rfl, h⟩
theorem VwA.two {vs : List V} {d e : D} (h : VwA mg K F H vs [d, e]) : ∃ v w, vs = [v, w] ∧ Vw mg K F H v d ∧ Vw mg K F H w e := by
  cases h with
  | cons h r => obtain ⟨w, rfl, h2⟩ := r.one; exact ⟨_, _, rfl, h, h2⟩
theorem VwA.three {vs : List V} {d e f : D} (h : VwA mg K F H vs [d, e, f]) : ∃ u v w, vs = [u, v, w] ∧ Vw mg K F H u d ∧ Vw mg K F H v e ∧ Vw mg K F H w f := by
  cases h with
  | cons h r => obtain ⟨v, w, rfl, h2, h3⟩ := r.two; exact ⟨_, _, _, rfl, h, h2, h3⟩
end

/-! ### ints -/
def big : Nat := 1000000
def dI (g : Int → Int → Option D) : List D → Option D
  | [.int i, .int j] => g i j
  | _ => none
/-- * of two factors of together less than a hundred million bits -/
def mulOk (i j : Int) : Bool := decide (i.natAbs.log2 + j.natAbs.log2 < 100000000)
theorem mulOk_ok {i j : Int} (h : mulOk i j = true) : IntMulOk i j := by
  have b : ∀ x : Int, Builtin.Int.intBits x ≤ x.natAbs.log2 + 1 := fun x => by
    unfold Builtin.Int.intBits
    split <;> omega
  have h1 := b i
  have h2 := b j
  have h3 : i.natAbs.log2 + j.natAbs.log2 < 100000000 := of_decide_eq_true h
  have e : bitsLine = 134217728 := by decide
  unfold IntMulOk
  intro z
  rw [Bool.and_eq_true] at z
  have z2 := z.2
  unfold Builtin.Int.intTooBig at z2
  have z3 := of_decide_eq_true z2
  rw [e] at z3
  omega
def CMulB (i j : Int) : Prop := mulOk i j = true
section
variable {X : Cx}
theorem op_mulB : OpR X (binaryOp .Mult) (rI CMulB fun i j => .int (i * j)) := opI fun _ _ _ _ _ _ _ hc q => PyProof.Rows.mul_int q (mulOk_ok hc)
end
section
variable {mg : Str → Option Value} {K : PySem.W.Frag}
theorem semI {C : Int → Int → Prop} {g : Int → Int → V} {f : Int → Int → Option D} (h : ∀ (F : Hp) i j z, f i j = some z → C i j ∧ Fz mg K F (g i j) z) : SemB mg K (rI C g) (dI f) := by
  intro F H x y dx dy z Q l vx vy e k
  unfold dI at e
  split at e
  · rename_i i j q
    cases q
    obtain ⟨h1, h2⟩ := h F i j z e
    exact ⟨i, j, vx.int, vy.int, h1, k.here l h2⟩
  · cases e
theorem semI0 {g : Int → Int → V} {f : Int → Int → Option D} (h : ∀ (F : Hp) i j z, f i j = some z → Fz mg K F (g i j) z) : SemB mg K (rI0 g) (dI f) := by
  intro F H x y dx dy z Q l vx vy e k
  unfold dI at e
  split at e
  · rename_i i j q
    cases q
    exact ⟨i, j, vx.int, vy.int, k.here l (h F i j z e)⟩
  · cases e
def dSub : List D → Option D := dI fun i j => some (.int (i - j))
theorem sem_sub : SemB mg K (rI0 fun i j => .int (i - j)) dSub := semI0 fun F i j z e => by cases e; exact .int _
def dFdiv : List D → Option D := dI fun i j => if 0 < j ∧ j < 1073741824 then some (.int (i / j)) else none
theorem sem_fdiv : SemB mg K (rI CDiv fun i j => .int (i / j)) dFdiv := semI fun F i j z e => by
  split at e
  · rename_i h; cases e; exact ⟨h, .int _⟩
  · cases e
def dMod : List D → Option D := dI fun i j => if 0 < j then some (.int (i % j)) else none
theorem sem_mod : SemB mg K (rI (fun _ j => 0 < j) fun i j => .int (i % j)) dMod := semI fun F i j z e => by
  split at e
  · rename_i h; cases e; exact ⟨h, .int _⟩
  · cases e
def dPow : List D → Option D := dI fun i j => if 0 ≤ j ∧ j ≤ 1000000 ∧ i.natAbs < 2 ^ 64 then some (.int (i ^ j.toNat)) else none
theorem sem_pow : SemB mg K (rI CPow fun i j => .int (i ^ j.toNat)) dPow := semI fun F i j z e => by
  split at e
  · rename_i h; cases e; exact ⟨h, .int _⟩
  · cases e
def dShl : List D → Option D := dI fun i j => if 0 ≤ j ∧ j ≤ 1000000 ∧ i.natAbs < 2 ^ 64 then some (.int (i * 2 ^ j.toNat)) else none
theorem sem_shl : SemB mg K (rI CPow fun i j => .int (i * 2 ^ j.toNat)) dShl := semI fun F i j z e => by
  split at e
  · rename_i h; cases e; exact ⟨h, .int _⟩
  · cases e
def dShr : List D → Option D := dI fun i j => if 0 ≤ j then some (.int (i / 2 ^ j.toNat)) else none
theorem sem_shr : SemB mg K (rI (fun _ j => 0 ≤ j) fun i j => .int (i / 2 ^ j.toNat)) dShr := semI fun F i j z e => by
  split at e
  · rename_i h; cases e; exact ⟨h, .int _⟩
  · cases e
def dBand : List D → Option D := dI fun i j => some (.int (Builtin.bitAnd i j))
theorem sem_band : SemB mg K (rI0 fun i j => .int (Builtin.bitAnd i j)) dBand := semI0 fun F i j z e => by cases e; exact .int _
def dLt : List D → Option D := dI fun i j => some (.bool (decide (i < j)))
theorem sem_lt : SemB mg K (rI0 fun i j => .bl (decide (i < j))) dLt := semI0 fun F i j z e => by cases e; exact .bl _
def dLe : List D → Option D := dI fun i j => some (.bool (decide (i ≤ j)))
theorem sem_le : SemB mg K (rI0 fun i j => .bl (decide (i ≤ j))) dLe := semI0 fun F i j z e => by cases e; exact .bl _
def dGt : List D → Option D := dI fun i j => some (.bool (decide (j < i)))
theorem sem_gt : SemB mg K (rI0 fun i j => .bl (decide (j < i))) dGt := semI0 fun F i j z e => by cases e; exact .bl _
def dGe : List D → Option D := dI fun i j => some (.bool (decide (j ≤ i)))
theorem sem_ge : SemB mg K (rI0 fun i j => .bl (decide (j ≤ i))) dGe := semI0 fun F i j z e => by cases e; exact .bl _
def dNeg : List D → Option D
  | [.int i] => some (.int (-i))
  | _ => none
theorem sem_neg : SemU mg K (rU fun i => .int (-i)) dNeg := by
  intro F H x dx z Q l vx e k
  unfold dNeg at e
  split at e
  · rename_i i q
    cases q; cases e
    exact ⟨i, vx.int, k.here l (.int _)⟩
  · cases e

/-! ### +, * of anything -/
def rStrAdd : R2 := fun x y H Q => ∃ i j, x = .str i ∧ y = .str j ∧ i.length + j.length ≤ sizeLine ∧ Q (.str (i ++ j)) H
def rAddA (K : PySem.W.Frag) : R2 := fun x y H Q => rI0 (fun i j => .int (i + j)) x y H Q ∨ rStrAdd x y H Q ∨ rCatA K x y H Q
theorem OpR.or {X : Cx} {f : Value → Value → Sem Value} {r r' : R2} (h : OpR X f r) (h' : OpR X f r') : OpR X f (fun x y H Q => r x y H Q ∨ r' x y H Q) := by
  intro pins s σ H x y v u Q I rx ry q
  rcases q with q | q
  · exact h pins s σ H x y v u Q I rx ry q
  · exact h' pins s σ H x y v u Q I rx ry q
theorem op_addA {X : Cx} : OpR X (binaryOp .Add) (rAddA X.K) := OpR.or op_add (OpR.or op_add_str op_catA)
theorem le_size {n : Nat} (h : n ≤ big) : n ≤ sizeLine := Nat.le_trans h (by decide)
theorem lt_size {n : Nat} (h : n < big) : n < sizeLine := Nat.lt_of_lt_of_le h (by decide)
def dAdd : List D → Option D
  | [.int i, .int j] => some (.int (i + j))
  | [.str i, .str j] => if i.length + j.length ≤ big then some (.str (i ++ j)) else none
  | [.tuple a, .tuple b] => if a.length + b.length ≤ big then some (.tuple (a ++ b)) else none
  | _ => none
theorem sem_add : SemB mg K (rAddA K) dAdd := by
  intro F H x y dx dy z Q l vx vy e k
  unfold dAdd at e
  split at e
  · rename_i i j q
    cases q; cases e
    exact .inl ⟨i, j, vx.int, vy.int, k.here l (.int _)⟩
  · rename_i i j q
    cases q
    split at e
    · rename_i h
      cases e
      exact .inr (.inl ⟨i, j, vx.str, vy.str, le_size h, k.here l (.str _)⟩)
    · cases e
  · rename_i i j q
    cases q
    split at e
    · rename_i h
      cases e
      obtain ⟨a, vs, rfl, h1, h2⟩ := vx.tup l
      obtain ⟨b, ws, rfl, h3, h4⟩ := vy.tup l
      refine .inr (.inr ⟨a, b, vs, ws, rfl, rfl, SqT.of h1, SqT.of h3, le_size (by rw [h2.len, h4.len]; exact h), fun e => ?_, fun _ e => ?_, fun _ _ p hp => k.tup l hp (h2.append h4)⟩)
      · subst e
        cases h2
        rcases vy with vy | ⟨_, _, _, _, ⟨_, _, _, e, _⟩ | ⟨_, _, _, e, _⟩ | ⟨_, _, _, e, _⟩⟩
        · exact k.here l vy
        all_goals cases e
      · subst e
        cases h4
        rw [List.append_nil] at k
        rcases vx with vx | ⟨_, _, _, _, ⟨_, _, _, e, _⟩ | ⟨_, _, _, e, _⟩ | ⟨_, _, _, e, _⟩⟩
        · exact k.here l vx
        all_goals cases e
    · cases e
  · cases e
def dMul : List D → Option D
  | [.int i, .int j] => if mulOk i j = true then some (.int (i * j)) else none
  | [.tuple a, .int k] => if a ≠ [] ∧ 2 ≤ k ∧ k ≤ 1000 ∧ a.length ≤ 1000 then some (.tuple (List.replicate k.toNat a).flatten) else none
  | _ => none
def rMulA (K : PySem.W.Frag) : R2 := fun x y H Q => rI CMulB (fun i j => .int (i * j)) x y H Q ∨ rRepT K x y H Q
theorem op_mulA {X : Cx} : OpR X (binaryOp .Mult) (rMulA X.K) := OpR.or op_mulB op_repT
theorem FzA.rep {F : Hp} {vs : List V} {ds : List D} (h : FzA mg K F vs ds) : ∀ n : Nat, FzA mg K F (List.replicate n vs).flatten (List.replicate n ds).flatten
  | 0 => .nil
  | n + 1 => by
    rw [List.replicate_succ, List.replicate_succ, List.flatten_cons, List.flatten_cons]
    exact h.append (FzA.rep h n)
theorem sem_mul : SemB mg K (rMulA K) dMul := by
  intro F H x y dx dy z Q l vx vy e k
  unfold dMul at e
  split at e
  · rename_i i j q
    cases q
    split at e
    · rename_i h
      cases e
      exact .inl ⟨i, j, vx.int, vy.int, h, k.here l (.int _)⟩
    · cases e
  · rename_i a n q
    cases q
    split at e
    · rename_i h
      cases e
      obtain ⟨p, vs, rfl, h1, h2⟩ := vx.tup l
      refine .inr ⟨p, n, vs, rfl, vy.int, SqT.of h1, ?_, h.2.1, h.2.2.1, by rw [h2.len]; exact h.2.2.2, fun p hp => k.tup l hp (h2.rep _)⟩
      intro e
      subst e
      cases h2
      exact h.1 rfl
    · cases e
  · cases e
/-! ### list + list: a new list -/
def rCatS (K : PySem.W.Frag) : R2 := fun x y H Q => ∃ l b xs zs, x = .ref l ∧ y = .ref b ∧ SqL K H l xs ∧ SqL K H b zs ∧ xs.length + zs.length ≤ sizeLine ∧ ∀ p, H p = none → Q (.ref p) (upd H p (.lst (xs ++ zs)))
end
end FL

set_option maxHeartbeats 2000000
/-! FL5: ==, in, subscripts, slices, len, list(), tuple(). -/
namespace FL
open PySem PySem.Spec L2

/-! ### == -/
def sc2 : D → D → Bool
  | .none, .none => true | .none, .int _ => true | .int _, .none => true | .none, .bool _ => true | .bool _, .none => true | .none, .str _ => true | .str _, .none => true
  | .int _, .int _ => true | .bool _, .bool _ => true | .str _, .str _ => true
  | .int _, .str _ => true | .str _, .int _ => true | .bool _, .str _ => true | .str _, .bool _ => true
  | _, _ => false
/-- what stands written (the script, a tuple of the top) as plain data -/
def norm : D → D
  | .dict [(.none, .list ns)] => .list ns
  | .dict [(.none, .tuple ns)] => .tuple ns
  | d => d
def eqD (d e : D) : Option Bool :=
  if sc2 d e = true then some (PyData.eqv d e) else if SeqAt.shaped (norm d) = true ∧ SeqAt.shaped (norm e) = true then some (PyData.eqv (norm d) (norm e)) else none
def dEq : List D → Option D
  | [d, e] => (eqD d e).map fun b => .bool b
  | _ => none
def dNe : List D → Option D
  | [d, e] => (eqD d e).map fun b => .bool (!b)
  | _ => none
section
variable {mg : Str → Option Value} {K : PySem.W.Frag} {F F' H H' : Hp} {z : D} {Q : VK} {x y : V} {dx dy : D}
theorem sc2_ok (h : sc2 dx dy = true) (vx : Vw mg K F H x dx) (vy : Vw mg K F H y dy) : scal x y = true ∧ decide (x = y) = PyData.eqv dx dy := by
  unfold sc2 at h
  split at h
  · rw [vx.non, vy.non]; exact ⟨rfl, by simp [PyData.eqv]⟩
  · rw [vx.non, vy.int]; exact ⟨rfl, by simp [PyData.eqv]⟩
  · rw [vx.int, vy.non]; exact ⟨rfl, by simp [PyData.eqv]⟩
  · rw [vx.non, vy.bl]; exact ⟨rfl, by simp [PyData.eqv]⟩
  · rw [vx.bl, vy.non]; exact ⟨rfl, by simp [PyData.eqv]⟩
  · rw [vx.non, vy.str]; exact ⟨rfl, by simp [PyData.eqv]⟩
  · rw [vx.str, vy.non]; exact ⟨rfl, by simp [PyData.eqv]⟩
  · rw [vx.int, vy.int]; exact ⟨rfl, by rw [dec_int]; simp [PyData.eqv]⟩
  · rw [vx.bl, vy.bl]; exact ⟨rfl, by rw [dec_bl]; simp [PyData.eqv]⟩
  · rw [vx.str, vy.str]; exact ⟨rfl, by rw [dec_str]; simp [PyData.eqv]⟩
  · rw [vx.int, vy.str]; exact ⟨rfl, by simp [PyData.eqv]⟩
  · rw [vx.str, vy.int]; exact ⟨rfl, by simp [PyData.eqv]⟩
  · rw [vx.bl, vy.str]; exact ⟨rfl, by simp [PyData.eqv]⟩
  · rw [vx.str, vy.bl]; exact ⟨rfl, by simp [PyData.eqv]⟩
  · cases h
theorem fzK_scr {kvs : List (Key × V)} {l : List (D × D)} {d : D} (h : FzK mg K F kvs l) (e : l = [(.none, d)]) : False := by
  cases h with
  | nil => cases e
  | cons h r =>
    injection e with e1 e2
    injection e1 with e3 e4
    rename_i k _ _ _ _
    cases k <;> cases e3
theorem Vw.scr {ns : List D} (l : Le F H) (h : Vw mg K F H x (.dict [(.none, .list ns)])) : ∃ (a : Addr) (ms : List Int), x = .ref a ∧ ns = ms.map PyData.int ∧ SqL K H a (ms.map V.int) := by
  rcases h.dct l with ⟨a, kvs, e1, e2, e3⟩ | ⟨a, kvs, l', e0, e1, e2, e3⟩ | ⟨z, f, e1, e2, e3⟩ | ⟨a, ms, e1, e2, e3⟩ | ⟨a, vs, es, e1, e2, e3, e4⟩
  · exact (fzK_scr e3 rfl).elim
  · exact nomatch e0
  · cases e1
  · cases e1; exact ⟨a, ms, e2, rfl, e3⟩
  · cases e1
theorem Vw.wt {ns : List D} (l : Le F H) (h : Vw mg K F H x (.dict [(.none, .tuple ns)])) : ∃ (a : Addr) (vs : List V), x = .ref a ∧ SqT K H a vs ∧ FzA mg K F vs ns := by
  rcases h.dct l with ⟨a, kvs, e1, e2, e3⟩ | ⟨a, kvs, l', e0, e1, e2, e3⟩ | ⟨z, f, e1, e2, e3⟩ | ⟨a, ms, e1, e2, e3⟩ | ⟨a, vs, es, e1, e2, e3, e4⟩
  · exact (fzK_scr e3 rfl).elim
  · exact nomatch e0
  · cases e1
  · cases e1
  · cases e1; exact ⟨a, vs, e2, e3, e4⟩
theorem dpAll_ints {H : Hp} (ns : List Int) : DpAll K H (ns.map V.int) (ns.map PyData.int) := by
  induction ns with
  | nil => exact .nil
  | cons n r ih => exact .cons (.int n) ih
theorem norm_cases (d : D) : (∃ ns, d = .dict [(.none, .list ns)] ∧ norm d = .list ns) ∨ (∃ ns, d = .dict [(.none, .tuple ns)] ∧ norm d = .tuple ns) ∨ norm d = d := by
  unfold norm
  split
  · exact .inl ⟨_, rfl, rfl⟩
  · exact .inr (.inl ⟨_, rfl, rfl⟩)
  · exact .inr (.inr rfl)
theorem Vw.dp (l : Le F H) (h : Vw mg K F H x dx) (c : SeqAt.shaped (norm dx) = true) : Dp K H x (norm dx) := by
  rcases norm_cases dx with ⟨ns, rfl, e⟩ | ⟨ns, rfl, e⟩ | e
  · obtain ⟨a, ms, rfl, rfl, q⟩ := h.scr l
    rw [e]
    exact .lst q (dpAll_ints ms)
  · obtain ⟨a, vs, rfl, q, r⟩ := h.wt l
    rw [e] at c ⊢
    exact .tup q ((r.mono l).dp (by have := SeqAt.canLay_of_shaped c; simpa only [PyData.canLay0] using this))
  · rw [e] at c ⊢
    exact (h.now l).dp (SeqAt.canLay_of_shaped c)
theorem canLay_ints (ns : List Int) : PyData.canLayAll0 (ns.map PyData.int) = true := by
  induction ns with
  | nil => rfl
  | cons n r ih => rw [List.map_cons, PyData.canLayAll0, ih]; rfl
theorem depth_ints (ns : List Int) : PyData.depthAll (ns.map PyData.int) = 0 := by
  induction ns with
  | nil => rfl
  | cons n r ih => rw [List.map_cons, PyData.depthAll, ih]; rfl
theorem shaped_ints (ns : List Int) : SeqAt.shaped (.list (ns.map PyData.int)) = true := by
  unfold SeqAt.shaped
  rw [PyData.canLay0, canLay_ints, PyData.depth, depth_ints]
  rfl
def rEqA (K : PySem.W.Frag) : R2 := fun x y H Q => rEq x y H Q ∨ rEqD K x y H Q
def rNeA (K : PySem.W.Frag) : R2 := fun x y H Q => rNe x y H Q ∨ rNeD K x y H Q
theorem op_eqA {X : Cx} (hu : X.A.units + 64 < cLine) : OpR X (compareOp .Eq) (rEqA X.K) := OpR.or op_eq (op_eqD hu)
theorem op_neA {X : Cx} (hu : X.A.units + 64 < cLine) : OpR X (compareOp .NotEq) (rNeA X.K) := OpR.or op_ne (op_neD hu)
theorem sem_eq : SemB mg K (rEqA K) dEq := by
  intro F H x y dx dy z Q l vx vy e k
  obtain ⟨b, e1, e2⟩ := Option.map_eq_some_iff.mp (show (eqD dx dy).map (fun b => PyData.bool b) = some z from e)
  subst e2
  unfold eqD at e1
  split at e1
  · rename_i h
    cases e1
    obtain ⟨h1, h2⟩ := sc2_ok h vx vy
    exact .inl ⟨h1, by rw [h2]; exact k.here l (.bl _)⟩
  · split at e1
    · rename_i h
      cases e1
      exact .inr ⟨_, _, vx.dp l h.1, vy.dp l h.2, h.1, h.2, k.here l (.bl _)⟩
    · cases e1
theorem sem_ne : SemB mg K (rNeA K) dNe := by
  intro F H x y dx dy z Q l vx vy e k
  obtain ⟨b, e1, e2⟩ := Option.map_eq_some_iff.mp (show (eqD dx dy).map (fun b => PyData.bool (!b)) = some z from e)
  subst e2
  unfold eqD at e1
  split at e1
  · rename_i h
    cases e1
    obtain ⟨h1, h2⟩ := sc2_ok h vx vy
    exact .inl ⟨h1, by rw [h2]; exact k.here l (.bl _)⟩
  · split at e1
    · rename_i h
      cases e1
      exact .inr ⟨_, _, vx.dp l h.1, vy.dp l h.2, h.1, h.2, k.here l (.bl _)⟩
    · cases e1

/-! ### is -/
def rIsA : R2 := fun x y H Q => (y = .non ∧ Q (.bl (decide (x = .non))) H) ∨ ∃ a b, x = .bl a ∧ y = .bl b ∧ Q (.bl (decide (a = b))) H
def rIsNA : R2 := fun x y H Q => (y = .non ∧ Q (.bl (!decide (x = .non))) H) ∨ ∃ a b, x = .bl a ∧ y = .bl b ∧ Q (.bl (!decide (a = b))) H
theorem op_isA {X : Cx} : OpR X (compareOp .Is) rIsA := OpR.or op_isN op_is_bl
theorem op_isNA {X : Cx} : OpR X (compareOp .IsNot) rIsNA := OpR.or op_notN op_isnot_bl
def isNone : D → Bool
  | .none => true
  | _ => false
def isD : D → D → Option Bool
  | d, .none => some (isNone d)
  | .bool a, .bool b => some (decide (a = b))
  | _, _ => none
def dIs : List D → Option D
  | [d, e] => (isD d e).map fun b => .bool b
  | _ => none
def dIsN : List D → Option D
  | [d, e] => (isD d e).map fun b => .bool (!b)
  | _ => none
theorem isNone_ok (h : Vw mg K F H x dx) : decide (x = .non) = isNone dx := by
  rcases h with h | ⟨a, o, e, _, h⟩
  · cases h <;> rfl
  · subst e
    rcases h with ⟨_, _, _, e, _⟩ | ⟨_, _, _, e, _⟩ | ⟨_, _, _, e, _⟩ <;> subst e <;> rfl
theorem sem_is : SemB mg K rIsA dIs := by
  intro F H x y dx dy z Q l vx vy e k
  obtain ⟨b, e1, e2⟩ := Option.map_eq_some_iff.mp (show (isD dx dy).map (fun b => PyData.bool b) = some z from e)
  subst e2
  unfold isD at e1
  split at e1
  · cases e1
    exact .inl ⟨vy.non, by rw [isNone_ok vx]; exact k.here l (.bl _)⟩
  · cases e1
    exact .inr ⟨_, _, vx.bl, vy.bl, k.here l (.bl _)⟩
  · cases e1
theorem sem_isN : SemB mg K rIsNA dIsN := by
  intro F H x y dx dy z Q l vx vy e k
  obtain ⟨b, e1, e2⟩ := Option.map_eq_some_iff.mp (show (isD dx dy).map (fun b => PyData.bool (!b)) = some z from e)
  subst e2
  unfold isD at e1
  split at e1
  · cases e1
    exact .inl ⟨vy.non, by rw [isNone_ok vx]; exact k.here l (.bl _)⟩
  · cases e1
    exact .inr ⟨_, _, vx.bl, vy.bl, k.here l (.bl _)⟩
  · cases e1
end
end FL

set_option maxHeartbeats 2000000
/-! FL6: in, subscripts, len, list(), tuple(), list + list. -/
namespace FL
open PySem PySem.Spec L2

/-! ### keys -/
def keyD : D → Option Key
  | .int i => some (.inl i)
  | .str x => some (.inr x)
  | _ => none
def keysD : List D → Option (List Key)
  | [] => some []
  | d :: ds => (keyD d).bind fun k => (keysD ds).map fun ks => k :: ks
/-- may be a key -/
def isKey : D → Bool
  | .tuple ds => (keysD ds).isSome
  | d => (keyD d).isSome
/-- what a dict holds -/
def dlook (l : List (D × D)) (k : D) : Option D := (l.find? fun p => PyData.eqv p.1 k).map (·.2)
def dput (l : List (D × D)) (k v : D) : List (D × D) := if l.any (fun p => PyData.eqv p.1 k) then l.map fun p => if PyData.eqv p.1 k then (p.1, v) else p else l ++ [(k, v)]
def ddrop (l : List (D × D)) (k : D) : List (D × D) := l.filter fun p => !PyData.eqv p.1 k
theorem keyD_ok {d : D} {k : Key} (h : keyD d = some k) : d = kD k := by
  unfold keyD at h
  split at h <;> cases h <;> rfl
theorem keyD_kD (k : Key) : keyD (kD k) = some k := by cases k <;> rfl
theorem keysD_ok : ∀ {ds : List D} {ks : List Key}, keysD ds = some ks → ds = ks.map kD
  | [], _, h => by cases h; rfl
  | d :: ds, _, h => by
    unfold keysD at h
    obtain ⟨k, h1, h2⟩ := Option.bind_eq_some_iff.mp h
    obtain ⟨ks, h3, h4⟩ := Option.map_eq_some_iff.mp h2
    cases h4
    rw [List.map_cons, ← keyD_ok h1, ← keysD_ok h3]
theorem eqv_kD (k j : Key) : PyData.eqv (kD k) (kD j) = decide (k = j) := by
  cases k <;> cases j
  · rw [key_ll]; simp [kD, PyData.eqv]
  · rw [key_lr]; simp [kD, PyData.eqv]
  · rw [key_rl]; simp [kD, PyData.eqv]
  · rw [key_rr]; simp [kD, PyData.eqv]; exact Bool.eq_iff_iff.mpr (by simp)
theorem eqvAll_kD : ∀ (k j : List Key), PyData.eqvAll (k.map kD) (j.map kD) = decide (k = j)
  | [], [] => by simp [PyData.eqvAll]
  | [], _ :: _ => by simp [PyData.eqvAll]
  | _ :: _, [] => by simp [PyData.eqvAll]
  | a :: k, b :: j => by
    rw [List.map_cons, List.map_cons, PyData.eqvAll, eqv_kD, eqvAll_kD k j, ← Bool.decide_and]
    exact decide_eq_decide.mpr (by rw [List.cons.injEq])
theorem eqv_kT (k j : List Key) : PyData.eqv (kT k) (kT j) = decide (k = j) := by
  unfold kT
  rw [PyData.eqv, eqvAll_kD]
section
variable {mg : Str → Option Value} {K : PySem.W.Frag} {F F' H H' : Hp} {z : D} {Q : VK} {x y : V} {dx dy : D}
theorem Vw.key {k : Key} (h : Vw mg K F H x (kD k)) : x = kV k := by
  cases k with
  | inl i => exact h.int
  | inr x => exact h.str
theorem FzA.keys : ∀ {ks : List Key} {vs : List V}, FzA mg K F vs (ks.map kD) → vs = ks.map kV
  | [], _, h => by cases h; rfl
  | k :: ks, _, h => by
    cases h with
    | cons h r =>
      rw [List.map_cons, ← FzA.keys r, ← (Vw.fz (H := F) h : Vw mg K F F _ _).key]
theorem FzK.look {kvs : List (Key × V)} {l : List (D × D)} (h : FzK mg K F kvs l) (k : Key) : (∃ v d, valV kvs k = some v ∧ dlook l (kD k) = some d ∧ Fz mg K F v d) ∨ (valV kvs k = none ∧ dlook l (kD k) = none) := by
  have all : ∀ {kvs : List (Key × V)} {l : List (D × D)}, FzK mg K F kvs l → (∃ v d, valV kvs k = some v ∧ dlook l (kD k) = some d ∧ Fz mg K F v d) ∨ (valV kvs k = none ∧ dlook l (kD k) = none) := by
    intro kvs
    induction kvs with
    | nil => intro l h; cases h; exact .inr ⟨rfl, rfl⟩
    | cons p r ih =>
      intro l h
      cases h with
      | cons h t =>
        rename_i j v d ds
        unfold dlook
        rw [List.find?_cons, eqv_kD]
        by_cases e : j = k
        · rw [valV_pos (p := (j, v)) e, decide_eq_true e]; exact .inl ⟨v, d, rfl, rfl, h⟩
        · rw [valV_neg (p := (j, v)) e, decide_eq_false e]; exact ih t
  exact all h
theorem FzT.look {kvs : List (List Key × V)} {l : List (D × D)} (h : FzT mg K F kvs l) (k : List Key) : (∃ v d, valV kvs k = some v ∧ dlook l (kT k) = some d ∧ Fz mg K F v d) ∨ (valV kvs k = none ∧ dlook l (kT k) = none) := by
  have all : ∀ {kvs : List (List Key × V)} {l : List (D × D)}, FzT mg K F kvs l → (∃ v d, valV kvs k = some v ∧ dlook l (kT k) = some d ∧ Fz mg K F v d) ∨ (valV kvs k = none ∧ dlook l (kT k) = none) := by
    intro kvs
    induction kvs with
    | nil => intro l h; cases h; exact .inr ⟨rfl, rfl⟩
    | cons p r ih =>
      intro l h
      cases h with
      | cons h t =>
        rename_i j v d ds
        have q : PyData.eqv (.tuple (j.map kD)) (kT k) = decide (j = k) := eqv_kT j k
        unfold dlook
        rw [List.find?_cons, q]
        by_cases e : j = k
        · rw [valV_pos (p := (j, v)) e, decide_eq_true e]; exact .inl ⟨v, d, rfl, rfl, h⟩
        · rw [valV_neg (p := (j, v)) e, decide_eq_false e]; exact ih t
  exact all h
theorem fzK_mk {kvs : List (Key × V)} {l : List (D × D)} {d : D} (h : FzK mg K F kvs ((.none, d) :: l)) : False := by
  generalize e : ((PyData.none, d) :: l : List (D × D)) = m at h
  cases h with
  | nil => cases e
  | cons h r =>
    injection e with e1 e2
    injection e1 with e3 e4
    rename_i k _ _ _ _
    cases k <;> cases e3
/-- the dict's keys are tuples -/
def isT : List (D × D) → Bool
  | (.none, .none) :: _ => true
  | _ => false
/-- the dict's keys are ints and texts -/
def isK : List (D × D) → Bool
  | (.none, _) :: _ => false
  | _ => true
/-- a key that goes with a dict -/
def fits (l : List (D × D)) : D → Bool
  | .tuple ds => isT l && (keysD ds).isSome
  | d => isK l && (keyD d).isSome
theorem isT_ok {l : List (D × D)} (h : isT l = true) : ∃ r, l = mkT :: r := by
  unfold isT at h
  split at h
  · exact ⟨_, rfl⟩
  · cases h
theorem isT_mk (l : List (D × D)) : isT (mkT :: l) = true := rfl
/-- which dict's kind goes with which key -/
inductive KDict (mg : Str → Option Value) (K : PySem.W.Frag) (F H : Hp) (a : Addr) (l : List (D × D)) (y : V) (d : D) : Prop
  | k (kvs : List (Key × V)) (k : Key) : H a = some (.dK kvs) → FzK mg K F kvs l → y = kV k → d = kD k → KDict mg K F H a l y d
  | t (kvs : List (List Key × V)) (l' : List (D × D)) (k : List Key) (b : Addr) : l = mkT :: l' → H a = some (.dT kvs) → FzT mg K F kvs l' → y = .ref b → H b = some (.tup (k.map kV)) → d = kT k → KDict mg K F H a l y d
theorem Vw.kdict {l : List (D × D)} (le : Le F H) (vx : Vw mg K F H x (.dict l)) (vy : Vw mg K F H y dy) (h : fits l dy = true) : ∃ a, x = .ref a ∧ KDict mg K F H a l y dy := by
  unfold fits at h
  split at h
  · rename_i ds
    rw [Bool.and_eq_true] at h
    obtain ⟨r, e⟩ := isT_ok h.1
    obtain ⟨ks, e2⟩ := Option.isSome_iff_exists.mp h.2
    have e3 := keysD_ok e2
    subst e e3
    obtain ⟨b, vs, e4, e5, e6⟩ := vy.tup le
    rw [e6.keys] at e5
    rcases vx.dct le with ⟨a, kvs, e1, e2, e3⟩ | ⟨a, kvs, l', e0, e1, e2, e3⟩ | ⟨z, f, e1, _⟩ | ⟨a, ms, e1, _⟩ | ⟨a, vs, es, e1, _⟩
    · exact (fzK_mk e3).elim
    · exact ⟨a, e1, .t kvs l' ks b e0 e2 e3 e4 e5 rfl⟩
    · cases e1
    · cases e1
    · cases e1
  · rename_i hn
    rw [Bool.and_eq_true] at h
    obtain ⟨k, e⟩ := Option.isSome_iff_exists.mp h.2
    have e2 := keyD_ok e
    subst e2
    rcases vx.dct le with ⟨a, kvs, e1, e2, e3⟩ | ⟨a, kvs, l', e0, e1, e2, e3⟩ | ⟨z, f, e1, _⟩ | ⟨a, ms, e1, _⟩ | ⟨a, vs, es, e1, _⟩
    · exact ⟨a, e1, .k kvs k e2 e3 vy.key rfl⟩
    · subst e0; exact nomatch h.1
    · subst e1; exact nomatch h.1
    · subst e1; exact nomatch h.1
    · subst e1; exact nomatch h.1
theorem KDict.dget {a : Addr} {l : List (D × D)} (h : KDict mg K F H a l y dy) : (∃ v d, DGet H a y (some v) ∧ dlook l dy = some d ∧ Fz mg K F v d) ∨ (DGet H a y none ∧ dlook l dy = none) := by
  cases h with
  | k kvs k e1 e2 e3 e4 =>
    subst e3 e4
    rcases e2.look k with ⟨v, d, h1, h2, h3⟩ | ⟨h1, h2⟩
    · exact .inl ⟨v, d, by rw [← h1]; exact DGet.k e1, h2, h3⟩
    · exact .inr ⟨by rw [← h1]; exact DGet.k e1, h2⟩
  | t kvs l' k b e0 e1 e2 e3 e4 e5 =>
    subst e0 e3 e5
    have q : dlook (mkT :: l') (kT k) = dlook l' (kT k) := by
      unfold dlook mkT kT
      rw [List.find?_cons]
      simp [PyData.eqv]
    rcases e2.look k with ⟨v, d, h1, h2, h3⟩ | ⟨h1, h2⟩
    · exact .inl ⟨v, d, by rw [← h1]; exact DGet.t e1 e4, by rw [q]; exact h2, h3⟩
    · exact .inr ⟨by rw [← h1]; exact DGet.t e1 e4, by rw [q]; exact h2⟩
theorem KDict.isD {a : Addr} {l : List (D × D)} (h : KDict mg K F H a l y dy) : IsD H a := by
  cases h with
  | k kvs k e1 e2 e3 e4 => exact .inl ⟨kvs, .inl e1⟩
  | t kvs l' k b e0 e1 e2 e3 e4 e5 => exact .inr ⟨kvs, .inl e1⟩

/-! ### in -/
/-- y in d -/
def rInK (neg : Bool) : R2 := fun y x H Q => ∃ a o, x = .ref a ∧ DGet H a y o ∧ Q (.bl (neg != o.isSome)) H
theorem op_inK {X : Cx} (hu : X.A.units + 1 < cLine) : OpR X (compareOp .In) (rInK false) := by
  intro pins s σ H x y v u Q I rx ry h
  obtain ⟨a, o, rfl, g, q⟩ := h
  cases ry
  refine d_in hu I g rx fun s' I' => ⟨.bl o.isSome, H, I', rfl, ?_⟩
  cases o <;> exact q
theorem op_niK {X : Cx} (hu : X.A.units + 1 < cLine) : OpR X (compareOp .NotIn) (rInK true) := by
  intro pins s σ H x y v u Q I rx ry h
  obtain ⟨a, o, rfl, g, q⟩ := h
  cases ry
  refine d_notIn hu I g rx fun s' I' => ⟨.bl (!o.isSome), H, I', rfl, ?_⟩
  cases o <;> exact q
def rInT (K : PySem.W.Frag) (neg : Bool) : R2 := fun x y H Q => ∃ d ds, Dp K H x d ∧ Dp K H y (.tuple ds) ∧ SeqAt.shaped d = true ∧ SeqAt.shaped (.tuple ds) = true ∧ Q (.bl (neg != ds.any fun z => PyData.eqv z d)) H
theorem room_inT {A : Around} {d : D} (hu : A.units + 65 < cLine) (h : SeqAt.shaped d = true) (n : Nat) : A.units + 1 + min n d.depth < cLine := by
  have h1 := SeqAt.depth_of_shaped h
  have h2 : min n d.depth ≤ d.depth := Nat.min_le_right _ _
  omega
theorem op_inT {X : Cx} (hu : X.A.units + 65 < cLine) : OpR X (compareOp .In) (rInT X.K false) := by
  intro pins s σ H x y v u Q I rx ry h
  obtain ⟨d, ds, hd, he, sd, se, q⟩ := h
  obtain ⟨as, r1⟩ := Dp.reads I d x v hd rx
  obtain ⟨bs, r2⟩ := Dp.reads I (.tuple ds) y u he ry
  refine SeqAt.in_tuple_reads r2 r1 (by have := SeqAt.canLay_of_shaped se; simpa only [PyData.canLay0] using this) (SeqAt.canLay_of_shaped sd) (room_inT hu sd _) ⟨.bl _, H, I, rfl, ?_⟩
  cases hb : ds.any (fun z => PyData.eqv z d) <;> rw [hb] at q <;> exact q
theorem op_niT {X : Cx} (hu : X.A.units + 65 < cLine) : OpR X (compareOp .NotIn) (rInT X.K true) := by
  intro pins s σ H x y v u Q I rx ry h
  obtain ⟨d, ds, hd, he, sd, se, q⟩ := h
  obtain ⟨as, r1⟩ := Dp.reads I d x v hd rx
  obtain ⟨bs, r2⟩ := Dp.reads I (.tuple ds) y u he ry
  refine SeqAt.notIn_tuple_reads r2 r1 (by have := SeqAt.canLay_of_shaped se; simpa only [PyData.canLay0] using this) (SeqAt.canLay_of_shaped sd) (room_inT hu sd _) ⟨.bl _, H, I, rfl, ?_⟩
  cases hb : ds.any (fun z => PyData.eqv z d) <;> rw [hb] at q <;> exact q
/-- a sign (or a text) in a text -/
def rInS (neg : Bool) : R2 := fun x y H Q => ∃ i j, x = .str i ∧ y = .str j ∧ Q (.bl (neg != !(Builtin.Str.occurrences j i 0 j.length 1).isEmpty)) H
theorem op_inS {X : Cx} : OpR X (compareOp .In) (rInS false) := by
  intro pins s σ H x y v u Q I rx ry h
  obtain ⟨i, j, e1, e2, q⟩ := h
  refine op_in_str pins s σ H x y v u Q I rx ry ⟨i, j, e1, e2, ?_⟩
  cases hb : (Builtin.Str.occurrences j i 0 j.length 1).isEmpty <;> rw [hb] at q <;> exact q
theorem op_niS {X : Cx} : OpR X (compareOp .NotIn) (rInS true) := by
  intro pins s σ H x y v u Q I rx ry h
  obtain ⟨i, j, e1, e2, q⟩ := h
  refine op_notin_str pins s σ H x y v u Q I rx ry ⟨i, j, e1, e2, ?_⟩
  cases hb : (Builtin.Str.occurrences j i 0 j.length 1).isEmpty <;> rw [hb] at q <;> exact q
def rInA (K : PySem.W.Frag) : R2 := fun x y H Q => rInD K x y H Q ∨ rInT K false x y H Q ∨ rInK false x y H Q ∨ rInS false x y H Q
def rNiA (K : PySem.W.Frag) : R2 := fun x y H Q => rNotInD K x y H Q ∨ rInT K true x y H Q ∨ rInK true x y H Q ∨ rInS true x y H Q
theorem op_inA {X : Cx} (hu : X.A.units + 65 < cLine) : OpR X (compareOp .In) (rInA X.K) := OpR.or (op_inD hu) (OpR.or (op_inT hu) (OpR.or (op_inK (by omega)) op_inS))
theorem op_niA {X : Cx} (hu : X.A.units + 65 < cLine) : OpR X (compareOp .NotIn) (rNiA X.K) := OpR.or (op_notInD hu) (OpR.or (op_niT hu) (OpR.or (op_niK (by omega)) op_niS))
def inD (d c : D) : Option Bool := match norm c with
  | .list ds => if SeqAt.shaped (norm d) = true ∧ SeqAt.shaped (.list ds) = true then some (ds.any fun z => PyData.eqv z (norm d)) else none
  | .tuple ds => if SeqAt.shaped (norm d) = true ∧ SeqAt.shaped (.tuple ds) = true then some (ds.any fun z => PyData.eqv z (norm d)) else none
  | .dict l => if fits l d = true then some (dlook l d).isSome else none
  | .str j => match d with
    | .str i => some (!(Builtin.Str.occurrences j i 0 j.length 1).isEmpty)
    | _ => none
  | _ => none
def dIn : List D → Option D
  | [d, c] => (inD d c).map fun b => .bool b
  | _ => none
def dNi : List D → Option D
  | [d, c] => (inD d c).map fun b => .bool (!b)
  | _ => none
theorem norm_dict {c : D} {l : List (D × D)} (h : norm c = .dict l) : c = .dict l := by
  rcases norm_cases c with ⟨ns, rfl, e⟩ | ⟨ns, rfl, e⟩ | e
  · rw [e] at h; cases h
  · rw [e] at h; cases h
  · rw [e] at h; exact h
theorem norm_str {c : D} {l : Str} (h : norm c = .str l) : c = .str l := by
  rcases norm_cases c with ⟨ns, rfl, e⟩ | ⟨ns, rfl, e⟩ | e
  · rw [e] at h; cases h
  · rw [e] at h; cases h
  · rw [e] at h; exact h
theorem in_cases {b : Bool} (l : Le F H) (vx : Vw mg K F H x dx) (vy : Vw mg K F H y dy) (e : inD dx dy = some b) :
    (∃ d ds, Dp K H x d ∧ Dp K H y (.list ds) ∧ SeqAt.shaped d = true ∧ SeqAt.shaped (.list ds) = true ∧ b = ds.any fun z => PyData.eqv z d) ∨
    (∃ d ds, Dp K H x d ∧ Dp K H y (.tuple ds) ∧ SeqAt.shaped d = true ∧ SeqAt.shaped (.tuple ds) = true ∧ b = ds.any fun z => PyData.eqv z d) ∨
    (∃ a o, y = .ref a ∧ DGet H a x o ∧ b = o.isSome) ∨ ∃ i j, x = .str i ∧ y = .str j ∧ b = !(Builtin.Str.occurrences j i 0 j.length 1).isEmpty := by
  unfold inD at e
  split at e
  · rename_i ds q
    split at e
    · rename_i h
      cases e
      have hy := vy.dp l (by rw [q]; exact h.2)
      rw [q] at hy
      exact .inl ⟨_, ds, vx.dp l h.1, hy, h.1, h.2, rfl⟩
    · cases e
  · rename_i ds q
    split at e
    · rename_i h
      cases e
      have hy := vy.dp l (by rw [q]; exact h.2)
      rw [q] at hy
      exact .inr (.inl ⟨_, ds, vx.dp l h.1, hy, h.1, h.2, rfl⟩)
    · cases e
  · rename_i m q
    split at e
    · rename_i h
      cases e
      rw [norm_dict q] at vy
      obtain ⟨a, e1, kd⟩ := vy.kdict l vx h
      rcases kd.dget with ⟨v, d, h1, h2, h3⟩ | ⟨h1, h2⟩
      · exact .inr (.inr (.inl ⟨a, _, e1, h1, by rw [h2]; rfl⟩))
      · exact .inr (.inr (.inl ⟨a, _, e1, h1, by rw [h2]; rfl⟩))
    · cases e
  · rename_i j q
    split at e
    · rename_i i _
      cases e
      rw [norm_str q] at vy
      exact .inr (.inr (.inr ⟨_, j, vx.str, vy.str, rfl⟩))
    · cases e
  · cases e
theorem sem_in : SemB mg K (rInA K) dIn := by
  intro F H x y dx dy z Q l vx vy e k
  obtain ⟨b, e1, e2⟩ := Option.map_eq_some_iff.mp (show (inD dx dy).map (fun b => PyData.bool b) = some z from e)
  subst e2
  have q := k.here l (.bl b)
  rcases in_cases l vx vy e1 with ⟨d, ds, h1, h2, h3, h4, h5⟩ | ⟨d, ds, h1, h2, h3, h4, h5⟩ | ⟨a, o, h1, h2, h3⟩ | ⟨i, j, h1, h2, h3⟩
  · exact .inl ⟨d, ds, h1, h2, h3, h4, by rw [← h5]; exact q⟩
  · exact .inr (.inl ⟨d, ds, h1, h2, h3, h4, by rw [← h5]; cases b <;> exact q⟩)
  · exact .inr (.inr (.inl ⟨a, o, h1, h2, by rw [← h3]; cases b <;> exact q⟩))
  · exact .inr (.inr (.inr ⟨i, j, h1, h2, by rw [← h3]; cases b <;> exact q⟩))
theorem sem_ni : SemB mg K (rNiA K) dNi := by
  intro F H x y dx dy z Q l vx vy e k
  obtain ⟨b, e1, e2⟩ := Option.map_eq_some_iff.mp (show (inD dx dy).map (fun b => PyData.bool (!b)) = some z from e)
  subst e2
  have q := k.here l (.bl (!b))
  rcases in_cases l vx vy e1 with ⟨d, ds, h1, h2, h3, h4, h5⟩ | ⟨d, ds, h1, h2, h3, h4, h5⟩ | ⟨a, o, h1, h2, h3⟩ | ⟨i, j, h1, h2, h3⟩
  · exact .inl ⟨d, ds, h1, h2, h3, h4, by rw [← h5]; exact q⟩
  · exact .inr (.inl ⟨d, ds, h1, h2, h3, h4, by rw [← h5]; cases b <;> exact q⟩)
  · exact .inr (.inr (.inl ⟨a, o, h1, h2, by rw [← h3]; cases b <;> exact q⟩))
  · exact .inr (.inr (.inr ⟨i, j, h1, h2, by rw [← h3]; cases b <;> exact q⟩))
end
end FL

set_option maxHeartbeats 2000000
/-! FL7: subscripts, slices, len, list(), tuple(), isinstance, min, max, int(), all, any, sum. -/
namespace FL
open PySem PySem.Spec L2

/-! ### a[b] -/
/-- d[y] by values -/
def rIxK : R2 := fun x y H Q => ∃ a v, x = .ref a ∧ DGet H a y (some v) ∧ Q v H
theorem ix_dict {X : Cx} (hu : X.A.units + 1 < cLine) : IxR X rIxK := by
  intro value slice pins s σ H x y v u Q I rx ry h hs
  obtain ⟨a, z, rfl, g, q⟩ := h
  cases rx
  have hT := dict_typeIs I g
  have hl := PySem.F.slot_dict_getitem.lookup
  unfold PyProof.Rows.subscriptTail
  refine wpAny_bind ?_
  rw [getitemInPython_of_ne hT.not_modules]
  refine wpAny_bind (wpAny_specialOf hT hl ?_)
  have fin : wpAny (model X.prog X.w) X.A (subscripted slice false (.ref a) u) (fun r s₃ => wpAny (model X.prog X.w) X.A (letTemporaryGo value (.ref a) r >>= fun _ => pure r) (EP X pins σ Q) X.xe s₃) X.xe s := by
    rw [hs]
    exact wpAny_operating (d_getItem hu I g ry fun w' s3 I3 rw' => wpAny_bind (wpAny_letTemporaryGo (wpAny_pure ⟨z, H, I3, rw', q⟩)))
  first
    | exact wpAny_pure (wpAny_bind fin)
    | exact wpAny_bind (wpAny_pure (wpAny_bind fin))
    | exact wpAny_bind fin
def rIxA (K : PySem.W.Frag) : R2 := fun x y H Q => rIx K x y H Q ∨ rIxK x y H Q
theorem ix_any {X : Cx} (hu : X.A.units + 1 < cLine) : IxR X (rIxA X.K) := ix_seq.or (ix_dict hu)
def ixD (c i : D) : Option D := match norm c, i with
  | .list ds, .int i => atI ds i
  | .tuple ds, .int i => atI ds i
  | .str z, .int i => if z.length ≤ big then (atI z.cps.toList i).map fun c => .str ⟨#[c]⟩ else none
  | .dict l, k => if fits l k = true then dlook l k else none
  | _, _ => none
def dIx : List D → Option D
  | [c, i] => ixD c i
  | _ => none
section
variable {mg : Str → Option Value} {K : PySem.W.Frag} {F F' H H' : Hp} {z : D} {Q : VK} {x y : V} {dx dy : D}
theorem FzA.atI {vs : List V} {ds : List D} {i : Int} {d : D} (h : FzA mg K F vs ds) (e : atI ds i = some d) : ∃ v, atI vs i = some v ∧ Fz mg K F v d := by
  unfold L2.atI at e ⊢
  rw [h.len]
  obtain ⟨j, h1, h2⟩ := Option.bind_eq_some_iff.mp e
  obtain ⟨v, h3, h4⟩ := h.get h2
  exact ⟨v, by rw [h1]; exact h3, h4⟩
theorem sem_ix : SemB mg K (rIxA K) dIx := by
  intro F H x y dx dy z Q l vx vy e k
  have e' : ixD dx dy = some z := e
  unfold ixD at e'
  split at e'
  · rename_i ds i q
    rcases norm_cases dx with ⟨ns, rfl, e2⟩ | ⟨ns, rfl, e2⟩ | e2
    · obtain ⟨a, ms, rfl, rfl, h⟩ := vx.scr l
      rw [q] at e2; cases e2
      obtain ⟨v, h1, h2⟩ := (FzA.ints (mg := mg) (K := K) (F := F) ms).atI e'
      exact .inl (.inl ⟨a, _, i, v, rfl, vy.int, h, h1, k.here l h2⟩)
    · rw [q] at e2; cases e2
    · rw [← e2, q] at vx
      obtain ⟨a, vs, rfl, h, r⟩ := vx.lst l
      obtain ⟨v, h1, h2⟩ := r.atI e'
      exact .inl (.inl ⟨a, vs, i, v, rfl, vy.int, SqL.of h, h1, k.here l h2⟩)
  · rename_i ds i q
    rcases norm_cases dx with ⟨ns, rfl, e2⟩ | ⟨ns, rfl, e2⟩ | e2
    · rw [q] at e2; cases e2
    · obtain ⟨a, vs, rfl, h, r⟩ := vx.wt l
      rw [q] at e2; cases e2
      obtain ⟨v, h1, h2⟩ := r.atI e'
      exact .inl (.inr (.inl ⟨a, _, i, v, rfl, vy.int, h, h1, k.here l h2⟩))
    · rw [← e2, q] at vx
      obtain ⟨a, vs, rfl, h, r⟩ := vx.tup l
      obtain ⟨v, h1, h2⟩ := r.atI e'
      exact .inl (.inr (.inl ⟨a, vs, i, v, rfl, vy.int, SqT.of h, h1, k.here l h2⟩))
  · rename_i w i q
    split at e'
    · rename_i hz
      obtain ⟨c, h1, h2⟩ := Option.map_eq_some_iff.mp e'
      subst h2
      rw [norm_str q] at vx
      exact .inl (.inr (.inr ⟨w, i, c, vx.str, vy.int, le_size hz, h1, k.here l (.str _)⟩))
    · cases e'
  · rename_i m q
    split at e'
    · rename_i hf
      rw [norm_dict q] at vx
      obtain ⟨a, e1, kd⟩ := vx.kdict l vy hf
      rcases kd.dget with ⟨v, d, h1, h2, h3⟩ | ⟨h1, h2⟩
      · rw [h2] at e'; cases e'
        exact .inr ⟨a, v, e1, h1, k.here l h3⟩
      · rw [h2] at e'; cases e'
    · cases e'
  · cases e'

/-! ### len -/
def lenD : D → Option Int
  | .list ds => some ds.length
  | .tuple ds => some ds.length
  | .str z => if z.length ≤ big then some z.length else none
  | .dict l => if isK l = true then some l.length else none
  | _ => none
def dLen : List D → Option D
  | [c] => (lenD (norm c)).map fun n => .int n
  | _ => none
def rLenK : List V → Hp → VK → Prop := fun xs H Q => ∃ a kvs, xs = [.ref a] ∧ H a = some (.dK kvs) ∧ Q (.int kvs.length) H
theorem CallR.or {X : Cx} {f : Value} {r r' : List V → Hp → VK → Prop} (h : CallR X f r) (h' : CallR X f r') : CallR X f (fun xs H Q => r xs H Q ∨ r' xs H Q) := by
  intro pins s σ H xs us Q I rv q
  rcases q with q | q
  · exact h pins s σ H xs us Q I rv q
  · exact h' pins s σ H xs us Q I rv q
theorem call_lenK {X : Cx} : CallR X (.builtin "len") rLenK := by
  intro pins s σ H xs us Q I r h
  obtain ⟨a, kvs, rfl, e, q⟩ := h
  cases r with
  | cons r1 r2 =>
    cases r2
    cases r1
    exact d_len I (.inl e) fun t s' I' => ⟨.int kvs.length, H, I', ⟨t, rfl⟩, q⟩
def rLenA (K : PySem.W.Frag) : List V → Hp → VK → Prop := fun xs H Q => (∃ x n, xs = [x] ∧ LenV K x H n ∧ Q (.int n) H) ∨ rLenK xs H Q
theorem call_lenA {X : Cx} : CallR X (.builtin "len") (rLenA X.K) := CallR.or call_len call_lenK
theorem FzK.len : ∀ {kvs : List (Key × V)} {l : List (D × D)}, FzK mg K F kvs l → kvs.length = l.length
  | _, _, .nil => rfl
  | _, _, .cons _ r => by rw [List.length_cons, List.length_cons, FzK.len r]
theorem sem_len : SemC mg K (rLenA K) dLen := by
  intro F H xs ds z Q l vx e k
  unfold dLen at e
  split at e
  · rename_i c
    obtain ⟨v, rfl, vv⟩ := vx.one
    have vx := vv
    obtain ⟨n, e1, e2⟩ := Option.map_eq_some_iff.mp e
    subst e2
    unfold lenD at e1
    split at e1
    · rename_i ds q
      cases e1
      rcases norm_cases c with ⟨ns, rfl, e2⟩ | ⟨ns, rfl, e2⟩ | e2
      · obtain ⟨a, ms, rfl, rfl, h⟩ := vx.scr l
        rw [q] at e2; cases e2
        refine .inl ⟨_, _, rfl, .inl ⟨_, h, rfl⟩, ?_⟩
        simp only [List.length_map] at k ⊢
        exact k.here l (.int _)
      · rw [q] at e2; cases e2
      · rw [← e2, q] at vx
        obtain ⟨a, vs, rfl, h, r⟩ := vx.lst l
        exact .inl ⟨_, _, rfl, .inl ⟨_, SqL.of h, rfl⟩, by rw [r.len]; exact k.here l (.int _)⟩
    · rename_i ds q
      cases e1
      rcases norm_cases c with ⟨ns, rfl, e2⟩ | ⟨ns, rfl, e2⟩ | e2
      · rw [q] at e2; cases e2
      · obtain ⟨a, vs, rfl, h, r⟩ := vx.wt l
        rw [q] at e2; cases e2
        exact .inl ⟨_, _, rfl, .inr ⟨_, h, rfl⟩, by rw [r.len]; exact k.here l (.int _)⟩
      · rw [← e2, q] at vx
        obtain ⟨a, vs, rfl, h, r⟩ := vx.tup l
        exact .inl ⟨_, _, rfl, .inr ⟨_, SqT.of h, rfl⟩, by rw [r.len]; exact k.here l (.int _)⟩
    · rename_i w q
      split at e1
      · rename_i hz
        cases e1
        rw [norm_str q] at vx
        exact .inl ⟨_, w.length, rfl, by rw [vx.str]; exact ⟨le_size hz, rfl⟩, k.here l (.int _)⟩
      · cases e1
    · rename_i m q
      rw [norm_dict q] at vx
      split at e1
      · rename_i hk
        cases e1
        rcases vx.dct l with ⟨a, kvs, e1, e2, e3⟩ | ⟨a, kvs, l', e0, e1, e2, e3⟩ | ⟨z, f, e1, _⟩ | ⟨a, ms, e1, _⟩ | ⟨a, vs, es, e1, _⟩
        · subst e1
          exact .inr ⟨a, kvs, rfl, e2, by rw [e3.len]; exact k.here l (.int _)⟩
        · subst e0; exact nomatch hk
        · subst e1; exact nomatch hk
        · subst e1; exact nomatch hk
        · subst e1; exact nomatch hk
      · cases e1
    · cases e1
  · cases e

/-! ### slices -/
def cutD (xs : List D) (lo hi : Option Int) : List D := (xs.drop (HT.sIx xs.length 0 lo)).take (HT.sIx xs.length xs.length hi - HT.sIx xs.length 0 lo)
theorem FzA.cut {vs : List V} {ds : List D} (h : FzA mg K F vs ds) (lo hi : Option Int) : FzA mg K F (cutV vs lo hi) (cutD ds lo hi) := by
  unfold cutV cutD
  rw [h.len]
  exact (h.drop _).take _

/-! ### list(), tuple() -/
def rListA (K : PySem.W.Frag) : List V → Hp → VK → Prop := fun xs H Q => (∃ p ys, xs = [.ref p] ∧ (SqL K H p ys ∨ SqT K H p ys) ∧ ∀ l, H l = none → Q (.ref l) (upd H l (.lst ys)))
def dList : List D → Option D
  | [c] => match norm c with
    | .list ds => some (.list ds)
    | .tuple ds => some (.list ds)
    | _ => none
  | _ => none
theorem seq_cases {c : D} {ds : List D} {v : V} (l : Le F H) (vx : Vw mg K F H v c) (q : norm c = .list ds ∨ norm c = .tuple ds) : ∃ a vs, v = .ref a ∧ (SqL K H a vs ∨ SqT K H a vs) ∧ FzA mg K F vs ds := by
  rcases norm_cases c with ⟨ns, rfl, e2⟩ | ⟨ns, rfl, e2⟩ | e2
  · obtain ⟨a, ms, rfl, rfl, h⟩ := vx.scr l
    rcases q with q | q
    · rw [q] at e2; cases e2; exact ⟨a, _, rfl, .inl h, FzA.ints ms⟩
    · rw [q] at e2; cases e2
  · obtain ⟨a, vs, rfl, h, r⟩ := vx.wt l
    rcases q with q | q
    · rw [q] at e2; cases e2
    · rw [q] at e2; cases e2; exact ⟨a, _, rfl, .inr h, r⟩
  · rcases q with q | q
    · rw [← e2, q] at vx
      obtain ⟨a, vs, rfl, h, r⟩ := vx.lst l
      exact ⟨a, vs, rfl, .inl (SqL.of h), r⟩
    · rw [← e2, q] at vx
      obtain ⟨a, vs, rfl, h, r⟩ := vx.tup l
      exact ⟨a, vs, rfl, .inr (SqT.of h), r⟩
theorem sem_list : SemCN mg K (rListA K) dList := by
  intro F H xs ds z Q l vx e k
  unfold dList at e
  split at e
  · rename_i c
    obtain ⟨v, rfl, vv⟩ := vx.one
    split at e
    · rename_i es q
      cases e
      obtain ⟨a, vs, rfl, h, r⟩ := seq_cases l vv (.inl q)
      exact ⟨a, vs, rfl, h, fun p hp => k.lst l hp r⟩
    · rename_i es q
      cases e
      obtain ⟨a, vs, rfl, h, r⟩ := seq_cases l vv (.inr q)
      exact ⟨a, vs, rfl, h, fun p hp => k.lst l hp r⟩
    · cases e
  · cases e
def rTupA (K : PySem.W.Frag) : List V → Hp → VK → Prop := fun xs H Q => ∃ p ys, xs = [.ref p] ∧ ((SqL K H p ys ∧ ∀ l, H l = none → Q (.ref l) (upd H l (.tup ys))) ∨ (SqT K H p ys ∧ Q (.ref p) H))
def dTup : List D → Option D
  | [.list ds] => some (.tuple ds)
  | [.tuple ds] => some (.tuple ds)
  | _ => none
theorem sem_tup : SemC mg K (rTupA K) dTup := by
  intro F H xs ds z Q l vx e k
  unfold dTup at e
  split at e
  · cases e
    obtain ⟨v, rfl, vv⟩ := vx.one
    obtain ⟨a, vs, rfl, h, r⟩ := vv.lst l
    exact ⟨a, vs, rfl, .inl ⟨SqL.of h, fun p hp => k.tup l hp r⟩⟩
  · cases e
    obtain ⟨v, rfl, vv⟩ := vx.one
    obtain ⟨a, vs, rfl, h, r⟩ := vv.tup l
    refine ⟨a, vs, rfl, .inr ⟨SqT.of h, ?_⟩⟩
    rcases vv with vv | ⟨_, _, _, _, ⟨_, _, _, e, _⟩ | ⟨_, _, _, e, _⟩ | ⟨_, _, _, e, _⟩⟩
    · exact k.here l vv
    all_goals cases e
  · cases e
/-- list + list -/
def dCat : List D → Option D
  | [.list a, .list b] => if a.length + b.length ≤ big then some (.list (a ++ b)) else none
  | _ => none
theorem sem_cat : SemBN mg K rCat dCat := by
  intro F H x y dx dy z Q l vx vy e k
  unfold dCat at e
  split at e
  · rename_i i j q
    cases q
    split at e
    · rename_i h
      cases e
      obtain ⟨a, vs, rfl, h1, h2⟩ := vx.lst l
      obtain ⟨b, ws, rfl, h3, h4⟩ := vy.lst l
      exact ⟨a, b, vs, ws, rfl, rfl, h1, h3, le_size (by rw [h2.len, h4.len]; exact h), fun p hp => k.lst l hp (h2.append h4)⟩
    · cases e
  · cases e
/-- list * int -/
def dRep : List D → Option D
  | [.list a, .int k] => if 0 ≤ k ∧ k ≤ 1000 ∧ a.length * k.toNat ≤ big then some (.list (List.replicate k.toNat a).flatten) else none
  | _ => none
theorem sem_rep : SemBN mg K rRep dRep := by
  intro F H x y dx dy z Q l vx vy e k
  unfold dRep at e
  split at e
  · rename_i i n q
    cases q
    split at e
    · rename_i h
      cases e
      obtain ⟨a, vs, rfl, h1, h2⟩ := vx.lst l
      exact ⟨a, n, vs, rfl, vy.int, h1, by omega, by omega, le_size (by rw [h2.len]; exact h.2.2), fun p hp => k.lst l hp (h2.rep _)⟩
    · cases e
  · cases e

/-! ### isinstance with a built-in type -/
def tyN : D → Option String
  | .none => some "NoneType"
  | .bool _ => some "bool"
  | .int _ => some "int"
  | .str _ => some "str"
  | .list _ => some "list"
  | .tuple _ => some "tuple"
  | .dict l => if isK l = true || isT l = true then some "dict" else none
def subT : String → String → Option Bool
  | t, "int" => some (t == "int" || t == "bool")
  | t, "bool" => some (t == "bool")
  | t, "str" => some (t == "str")
  | t, "tuple" => some (t == "tuple")
  | t, "list" => some (t == "list")
  | t, "dict" => some (t == "dict")
  | _, _ => none
def isiD (n : String) (d : D) : Option D := (tyN d).bind fun t => (subT t n).map fun b => .bool b
def dIsi (n : String) : List D → Option D
  | [d] => isiD n d
  | _ => none
theorem isi_ok {n : String} {d : D} {z : D} {v : V} (l : Le F H) (vx : Vw mg K F H v d) (e : isiD n d = some z) : ∃ t b, TyX K H v (.type t) ∧ PySem.W.kitOne K (.type t) (.type n) = some b ∧ z = .bool b := by
  unfold isiD at e
  obtain ⟨t, e1, e2⟩ := Option.bind_eq_some_iff.mp e
  obtain ⟨b, e3, e4⟩ := Option.map_eq_some_iff.mp e2
  have ty : TyX K H v (.type t) ∧ (t = "NoneType" ∨ t = "bool" ∨ t = "int" ∨ t = "str" ∨ t = "list" ∨ t = "tuple" ∨ t = "dict") := by
    unfold tyN at e1
    split at e1
    · cases e1; rw [vx.non]; exact ⟨.base .non, by simp⟩
    · cases e1; rw [vx.bl]; exact ⟨.base (.bl _), by simp⟩
    · cases e1; rw [vx.int]; exact ⟨.base (.int _), by simp⟩
    · cases e1; rw [vx.str]; exact ⟨.base (.str _), by simp⟩
    · cases e1
      obtain ⟨a, vs, rfl, h, r⟩ := vx.lst l
      exact ⟨.base (.lst h), by simp⟩
    · cases e1
      obtain ⟨a, vs, rfl, h, r⟩ := vx.tup l
      exact ⟨.base (.tup h), by simp⟩
    · split at e1
      · rename_i hk
        cases e1
        rcases vx.dct l with ⟨a, kvs, e1, e2, e3⟩ | ⟨a, kvs, l', e0, e1, e2, e3⟩ | ⟨z, f, e1, _⟩ | ⟨a, ms, e1, _⟩ | ⟨a, vs, es, e1, _⟩
        · subst e1; exact ⟨.base (.dK e2), by simp⟩
        · subst e1; exact ⟨.base (.dT e2), by simp⟩
        · subst e1; exact nomatch hk
        · subst e1; exact nomatch hk
        · subst e1; exact nomatch hk
      · cases e1
  refine ⟨t, b, ty.1, ?_, e4.symm⟩
  have tt := ty.2
  unfold subT at e3
  split at e3
  all_goals first
    | (cases e3; rcases tt with rfl | rfl | rfl | rfl | rfl | rfl | rfl <;> rfl)
    | cases e3

/-! ### min, max, int, all, any, sum -/
def rMinA : List V → Hp → VK → Prop := fun xs H Q => ∃ i j, xs = [.int i, .int j] ∧ Q (.int (if j < i then j else i)) H
def rMaxA : List V → Hp → VK → Prop := fun xs H Q => ∃ i j, xs = [.int i, .int j] ∧ Q (.int (if j > i then j else i)) H
def dMin2 : List D → Option D
  | [.int i, .int j] => some (.int (if j < i then j else i))
  | _ => none
def dMax2 : List D → Option D
  | [.int i, .int j] => some (.int (if j > i then j else i))
  | _ => none
theorem sem_min2 : SemC mg K rMinA dMin2 := by
  intro F H xs ds z Q l vx e k
  unfold dMin2 at e
  split at e
  · cases e
    obtain ⟨v, w, rfl, h1, h2⟩ := vx.two
    exact ⟨_, _, by rw [h1.int, h2.int], k.here l (.int _)⟩
  · cases e
theorem sem_max2 : SemC mg K rMaxA dMax2 := by
  intro F H xs ds z Q l vx e k
  unfold dMax2 at e
  split at e
  · cases e
    obtain ⟨v, w, rfl, h1, h2⟩ := vx.two
    exact ⟨_, _, by rw [h1.int, h2.int], k.here l (.int _)⟩
  · cases e
def rInt1 : List V → Hp → VK → Prop := fun xs H Q => (∃ i, xs = [.int i] ∧ Q (.int i) H) ∨ ∃ k, xs = [.bl k] ∧ Q (.int (if k then 1 else 0)) H
def dInt1 : List D → Option D
  | [.int i] => some (.int i)
  | [.bool b] => some (.int (if b then 1 else 0))
  | _ => none
theorem sem_int1 : SemC mg K rInt1 dInt1 := by
  intro F H xs ds z Q l vx e k
  unfold dInt1 at e
  split at e
  · cases e
    obtain ⟨v, rfl, h1⟩ := vx.one
    exact .inl ⟨_, by rw [h1.int], k.here l (.int _)⟩
  · cases e
    obtain ⟨v, rfl, h1⟩ := vx.one
    exact .inr ⟨_, by rw [h1.bl], k.here l (.int _)⟩
  · cases e
def bools : List D → Option (List Bool)
  | [] => some []
  | .bool b :: r => (bools r).map fun bs => b :: bs
  | _ => none
def intsD : List D → Option (List Int)
  | [] => some []
  | .int b :: r => (intsD r).map fun bs => b :: bs
  | _ => none
theorem FzA.bools : ∀ {vs : List V} {ds : List D} {bs : List Bool}, FzA mg K F vs ds → FL.bools ds = some bs → vs = bs.map V.bl
  | _, _, _, .nil, e => by cases e; rfl
  | _, _, bs, .cons (d := d) h r, e => by
    unfold FL.bools at e
    split at e
    · rename_i q; cases q
    · rename_i b r' q
      cases q
      obtain ⟨bs, e1, e2⟩ := Option.map_eq_some_iff.mp e
      cases e2
      rw [List.map_cons, ← FzA.bools r e1, (Vw.fz (H := F) h : Vw mg K F F _ _).bl]
    · cases e
theorem FzA.intsOf : ∀ {vs : List V} {ds : List D} {bs : List Int}, FzA mg K F vs ds → intsD ds = some bs → vs = bs.map V.int
  | _, _, _, .nil, e => by cases e; rfl
  | _, _, bs, .cons (d := d) h r, e => by
    unfold intsD at e
    split at e
    · rename_i q; cases q
    · rename_i b r' q
      cases q
      obtain ⟨bs, e1, e2⟩ := Option.map_eq_some_iff.mp e
      cases e2
      rw [List.map_cons, ← FzA.intsOf r e1, (Vw.fz (H := F) h : Vw mg K F F _ _).int]
    · cases e
def dAll : List D → Option D
  | [.list ds] => (bools ds).map fun bs => .bool (bs.all id)
  | _ => none
def dAny : List D → Option D
  | [.list ds] => (bools ds).map fun bs => .bool (bs.any id)
  | _ => none
def dSum : List D → Option D
  | [.list ds] => (intsD ds).map fun bs => .int bs.sum
  | _ => none
theorem sem_all : SemC mg K (rAll K) dAll := by
  intro F H xs ds z Q l vx e k
  unfold dAll at e
  split at e
  · obtain ⟨bs, e1, e2⟩ := Option.map_eq_some_iff.mp e
    cases e2
    obtain ⟨v, rfl, h1⟩ := vx.one
    obtain ⟨a, vs, rfl, h, r⟩ := h1.lst l
    have := r.bools e1
    subst this
    exact ⟨a, bs, rfl, SqL.of h, k.here l (.bl _)⟩
  · cases e
theorem sem_any : SemC mg K (rAny K) dAny := by
  intro F H xs ds z Q l vx e k
  unfold dAny at e
  split at e
  · obtain ⟨bs, e1, e2⟩ := Option.map_eq_some_iff.mp e
    cases e2
    obtain ⟨v, rfl, h1⟩ := vx.one
    obtain ⟨a, vs, rfl, h, r⟩ := h1.lst l
    have := r.bools e1
    subst this
    exact ⟨a, bs, rfl, SqL.of h, k.here l (.bl _)⟩
  · cases e
theorem sem_sum : SemC mg K (rSum K) dSum := by
  intro F H xs ds z Q l vx e k
  unfold dSum at e
  split at e
  · obtain ⟨bs, e1, e2⟩ := Option.map_eq_some_iff.mp e
    cases e2
    obtain ⟨v, rfl, h1⟩ := vx.one
    obtain ⟨a, vs, rfl, h, r⟩ := h1.lst l
    have := r.intsOf e1
    subst this
    exact ⟨a, bs, rfl, SqL.of h, k.here l (.int _)⟩
  · cases e
end
end FL

set_option maxHeartbeats 2000000
/-! FL8: expressions by what they do with data. -/
namespace FL
open PySem PySem.Spec L2

section
variable (mg : Str → Option Value) (K : PySem.W.Frag)
/-- a reading t does what f says; q: it changes no slot and nothing that stood -/
def Sem {α β : Type} (rel : Hp → L2.St → α → β → Prop) (t : L2.St → Hp → (β → Hp → Prop) → Prop) (q : Bool) (f : Ev → Option (α × Ev)) : Prop :=
  ∀ (E : Ent) (F : Hp) (env : Ev) (σ : L2.St) (H : Hp) (x : α) (env' : Ev), R mg K E F env σ H → f env = some (x, env') → ∀ Q : β → Hp → Prop,
    (∀ F' H' v, Le F F' → R mg K E F' env' σ H' → rel F' σ x v → (q = true → env' = env ∧ Grow F H F' H') → Q v H') → t σ H Q
def SemN (t : TE) (q : Bool) (f : Ev → Option (D × Ev)) : Prop :=
  ∀ (E : Ent) (F : Hp) (env : Ev) (σ : L2.St) (H : Hp) (d : D) (env' : Ev), R mg K E F env σ H → f env = some (d, env') → ∀ Q : VK,
    (∀ F' H' p o, Le F F' → R mg K E F' env' σ H' → H' p = none → ItO mg K F' o d → (q = true → env' = env ∧ Grow F H F' H') → Q (.ref p) (upd H' p o)) → t σ H Q
end
abbrev FE := Ev → Option (Lz × Ev)
abbrev FA := Ev → Option (List Lz × Ev)
abbrev FT := Ev → Option (Bool × Ev)
abbrev FN := Ev → Option (D × Ev)
abbrev relT : Hp → L2.St → Bool → Bool → Prop := fun _ _ b c => c = b

structure OE (X : Cx) (e : Expr) (t : TE) (q : Bool) (f : FE) : Prop where
  pe : PE X e t
  sem : Sem X.mg X.K (LV X.mg X.K) t q f
structure OA (X : Cx) (es : List Expr) (t : TA) (q : Bool) (f : FA) : Prop where
  pa : PA X es t
  sem : Sem X.mg X.K (LVA X.mg X.K) t q f
structure OT (X : Cx) (e : Expr) (t : TT) (q : Bool) (f : FT) : Prop where
  pt : PT X e t
  sem : Sem X.mg X.K relT t q f
structure OW (X : Cx) (e : Expr) (t : TT) (q : Bool) (f : FT) : Prop where
  pw : PW X e t
  sem : Sem X.mg X.K relT t q f
structure NE (X : Cx) (e : Expr) (t : TE) (q : Bool) (f : FN) : Prop where
  pe : PE X e t
  sem : SemN X.mg X.K t q f

/-! ### what the parts do -/
def oV (i : Nat) : FE := fun env => match env[i]? with
  | some (some (.fz d)) => some (.c d, env)
  | some (some _) => some (.s i, env)
  | _ => none
def oC (d : D) : FE := fun env => some (.c d, env)
def aN : FA := fun env => some ([], env)
def aC (f : FE) (g : FA) : FA := fun env => (f env).bind fun r => (g r.2).bind fun s => some (r.1 :: s.1, s.2)
/-- an operation on operands, read behind the last -/
def oO (op : List D → Option D) (a : FA) : FE := fun env => (a env).bind fun r => (rdA r.2 r.1).bind fun ds => (op ds).bind fun z => some (.c z, r.2)
def nO (op : List D → Option D) (a : FA) : FN := fun env => (a env).bind fun r => (rdA r.2 r.1).bind fun ds => (op ds).bind fun z => some (z, r.2)
/-- a new thing, frozen -/
def oN (f : FN) : FE := fun env => (f env).bind fun r => some (.c r.1, r.2)
def tO (f : FE) : FT := fun env => (f env).bind fun r => (r.1.read r.2).bind fun d => match d with
  | .bool b => some (b, r.2)
  | _ => none
def tN (f : FT) : FT := fun env => (f env).bind fun r => some (!r.1, r.2)
def tA (f g : FT) : FT := fun env => (f env).bind fun r => if r.1 = true then g r.2 else some (false, r.2)
def tR (f g : FT) : FT := fun env => (f env).bind fun r => if r.1 = true then some (true, r.2) else g r.2
def oI (c : FT) (f g : FE) : FE := fun env => (c env).bind fun r => if r.1 = true then f r.2 else g r.2
def oAnd (f g : FE) : FE := fun env => (f env).bind fun r => (r.1.read r.2).bind fun d => match d with
  | .bool true => g r.2
  | .bool false => some (.c (.bool false), r.2)
  | _ => none
def oOr (f g : FE) : FE := fun env => (f env).bind fun r => (r.1.read r.2).bind fun d => match d with
  | .bool true => some (.c (.bool true), r.2)
  | .bool false => g r.2
  | _ => none
def dNot : List D → Option D
  | [.bool b] => some (.bool (!b))
  | _ => none
/-- taken for good -/
def kA (a : FA) : Ev → Option (List D × Ev) := fun env => (a env).bind fun r => tkA r.2 r.1
def oTup (a : FA) : FE := fun env => (kA a env).bind fun r => if r.1.length ≤ big then some (.c (.tuple r.1), r.2) else none
def csA : List Lz → Option (List D)
  | [] => some []
  | .c d :: xs => (csA xs).map fun ds => d :: ds
  | _ => none
def oTupQ (a : FA) : FE := fun env => (a env).bind fun r => (csA r.1).bind fun ds => if ds.length ≤ big then some (.c (.tuple ds), r.2) else none
def nLstQ (a : FA) : FN := fun env => (a env).bind fun r => (csA r.1).bind fun ds => if ds.length ≤ big then some (.list ds, r.2) else none
def nLst (a : FA) : FN := fun env => (kA a env).bind fun r => if r.1.length ≤ big then some (.list r.1, r.2) else none

section
variable {mg : Str → Option Value} {K : PySem.W.Frag}
theorem qAnd {q q' : Bool} {env env1 env2 : Ev} {F F1 F2 H H1 H2 : Hp} (h : q = true → env1 = env ∧ Grow F H F1 H1) (h' : q' = true → env2 = env1 ∧ Grow F1 H1 F2 H2) :
    (q && q') = true → env2 = env ∧ Grow F H F2 H2 := fun z => by
  rw [Bool.and_eq_true] at z
  obtain ⟨a, b⟩ := h z.1
  obtain ⟨c, d⟩ := h' z.2
  exact ⟨c.trans a, b.trans d⟩
theorem qGrow {q : Bool} {env env1 : Ev} {F F1 F2 H H1 H2 : Hp} (h : q = true → env1 = env ∧ Grow F H F1 H1) (g : Grow F1 H1 F2 H2) : q = true → env1 = env ∧ Grow F H F2 H2 := fun z => by
  obtain ⟨a, b⟩ := h z
  exact ⟨a, b.trans g⟩
theorem sem_var (i : Nat) : Sem mg K (LV mg K) (tVar i) true (oV i) := by
  intro E F env σ H x env' r e Q k
  unfold oV at e
  split at e
  · rename_i d q
    cases e
    obtain ⟨v, e1, e2⟩ := r.val q
    exact ⟨v, e1, k F H v (.refl _) r e2 fun _ => ⟨rfl, .refl r.sub⟩⟩
  · rename_i y q
    cases e
    obtain ⟨fps, h1, _, _⟩ := r.slots
    obtain ⟨v, e1, e2⟩ := h1 i _ q
    exact ⟨v, e1, k F H v (.refl _) r e1 fun _ => ⟨rfl, .refl r.sub⟩⟩
  · cases e
theorem sem_const {v : V} {d : D} (h : ∀ F : Hp, Fz mg K F v d) : Sem mg K (LV mg K) (tC v) true (oC d) := by
  intro E F env σ H x env' r e Q k
  cases e
  exact k F H v (.refl _) r (h F) fun _ => ⟨rfl, .refl r.sub⟩
theorem sem_nil : Sem mg K (LVA mg K) tNil true aN := by
  intro E F env σ H x env' r e Q k
  cases e
  exact k F H [] (.refl _) r .nil fun _ => ⟨rfl, .refl r.sub⟩
theorem sem_cons {ta : TE} {tr : TA} {q q' : Bool} {f : FE} {g : FA} (hf : Sem mg K (LV mg K) ta q f) (hg : Sem mg K (LVA mg K) tr q' g) : Sem mg K (LVA mg K) (tCons ta tr) (q && q') (aC f g) := by
  intro E F env σ H x env' r e Q k
  unfold aC at e
  obtain ⟨⟨y, e1⟩, h1, e⟩ := Option.bind_eq_some_iff.mp e
  obtain ⟨⟨ys, e2⟩, h2, e⟩ := Option.bind_eq_some_iff.mp e
  cases e
  refine hf E F env σ H y e1 r h1 _ fun F1 H1 v l1 r1 lv1 q1 => ?_
  exact hg E F1 e1 σ H1 ys e2 r1 h2 _ fun F2 H2 vs l2 r2 lv2 q2 => k F2 H2 (v :: vs) (l1.trans l2) r2 (.cons (lv1.mono l2) lv2) (qAnd q1 q2)
/-- an operation by values behind its operands -/
theorem sem_opA {ta : TA} {q : Bool} {f : FA} {r : List V → Hp → VK → Prop} {op : List D → Option D} (ha : Sem mg K (LVA mg K) ta q f) (hr : SemC mg K r op) : Sem mg K (LV mg K) (tCB r ta) q (oO op f) := by
  intro E F env σ H x env' rr e Q k
  unfold oO at e
  obtain ⟨⟨xs, e1⟩, h1, e⟩ := Option.bind_eq_some_iff.mp e
  obtain ⟨ds, h2, e⟩ := Option.bind_eq_some_iff.mp e
  obtain ⟨z, h3, e⟩ := Option.bind_eq_some_iff.mp e
  cases e
  refine ha E F env σ H xs e1 rr h1 _ fun F1 H1 vs l1 r1 lv1 q1 => ?_
  exact hr F1 H1 vs ds z Q r1.sub (r1.views lv1 h2) h3 fun F2 H2 v g hz => k F2 H2 v (l1.trans g.f) (r1.grow g) hz (qGrow q1 g)
theorem sem_newA {ta : TA} {q : Bool} {f : FA} {r : List V → Hp → VK → Prop} {op : List D → Option D} (ha : Sem mg K (LVA mg K) ta q f) (hr : SemCN mg K r op) : SemN mg K (tCB r ta) q (nO op f) := by
  intro E F env σ H x env' rr e Q k
  unfold nO at e
  obtain ⟨⟨xs, e1⟩, h1, e⟩ := Option.bind_eq_some_iff.mp e
  obtain ⟨ds, h2, e⟩ := Option.bind_eq_some_iff.mp e
  obtain ⟨z, h3, e⟩ := Option.bind_eq_some_iff.mp e
  cases e
  refine ha E F env σ H xs e1 rr h1 _ fun F1 H1 vs l1 r1 lv1 q1 => ?_
  exact hr F1 H1 vs ds _ Q r1.sub (r1.views lv1 h2) h3 fun F2 H2 p o g hp hz => k F2 H2 p o (l1.trans g.f) (r1.grow g) hp hz (qGrow q1 g)
theorem aC2 {f g : FE} {env e1 : Ev} {xs : List Lz} (h : aC f (aC g aN) env = some (xs, e1)) : ∃ a b, xs = [a, b] := by
  unfold aC aN at h
  obtain ⟨r, _, h⟩ := Option.bind_eq_some_iff.mp h
  obtain ⟨s, h2, h⟩ := Option.bind_eq_some_iff.mp h
  obtain ⟨u, _, h2⟩ := Option.bind_eq_some_iff.mp h2
  obtain ⟨w, h3, h2⟩ := Option.bind_eq_some_iff.mp h2
  cases h3
  cases h2
  cases h
  exact ⟨_, _, rfl⟩
theorem LVA.two {F : Hp} {σ : L2.St} {a b : Lz} {vs : List V} (h : LVA mg K F σ [a, b] vs) : ∃ x y, vs = [x, y] := by
  cases h with
  | cons h t => cases t with
    | cons h2 t => cases t; exact ⟨_, _, rfl⟩
theorem SemB.toC {r : R2} {op : List D → Option D} (h : SemB mg K r op) : ∀ (F H : Hp) (x y : V) (ds : List D) (z : D) (Q : VK), Le F H → VwA mg K F H [x, y] ds → op ds = some z → Kz mg K F H z Q → r x y H Q := by
  intro F H x y ds z Q l vx e k
  cases vx with
  | cons h1 t => cases t with
    | cons h2 t =>
      cases t
      exact h F H x y _ _ _ Q l h1 h2 e k
theorem SemBN.toB {r : R2} {op : List D → Option D} (h : SemBN mg K r op) : SemB mg K r op := fun F H x y dx dy z Q l vx vy e k =>
  h F H x y dx dy z Q l vx vy e fun F' H' p o g hp hi => k _ _ _ (g.trans (.one g.sub o hp)) (ItO.fz upd_same (hi.mono (.new (g.sub.back hp))))
theorem SemCN.toC {r : List V → Hp → VK → Prop} {op : List D → Option D} (h : SemCN mg K r op) : SemC mg K r op := fun F H xs ds z Q l vx e k =>
  h F H xs ds z Q l vx e fun F' H' p o g hp hi => k _ _ _ (g.trans (.one g.sub o hp)) (ItO.fz upd_same (hi.mono (.new (g.sub.back hp))))
/-- a two-place operation -/
theorem sem_op2 {ta tb : TE} {q q' : Bool} {f g : FE} {r : R2} {op : List D → Option D} (ha : Sem mg K (LV mg K) ta q f) (hb : Sem mg K (LV mg K) tb q' g) (hr : SemB mg K r op) :
    Sem mg K (LV mg K) (tOp r ta tb) (q && (q' && true)) (oO op (aC f (aC g aN))) := by
  have h := sem_cons ha (sem_cons hb sem_nil)
  intro E F env σ H x env' rr e Q k
  unfold oO at e
  obtain ⟨⟨xs, e1⟩, h1, e⟩ := Option.bind_eq_some_iff.mp e
  obtain ⟨ds, h2, e⟩ := Option.bind_eq_some_iff.mp e
  obtain ⟨z, h3, e⟩ := Option.bind_eq_some_iff.mp e
  cases e
  refine h E F env σ H xs e1 rr h1 (fun vs H2 => match vs with | [x, y] => r x y H2 Q | _ => False) fun F1 H1 vs l1 r1 lv1 q1 => ?_
  obtain ⟨a, b, rfl⟩ := aC2 h1
  obtain ⟨x, y, rfl⟩ := LVA.two lv1
  exact hr.toC F1 H1 x y ds z Q r1.sub (r1.views lv1 h2) h3 fun F2 H2 v g hz => k F2 H2 v (l1.trans g.f) (r1.grow g) hz (qGrow q1 g)
theorem sem_new2 {ta tb : TE} {q q' : Bool} {f g : FE} {r : R2} {op : List D → Option D} (ha : Sem mg K (LV mg K) ta q f) (hb : Sem mg K (LV mg K) tb q' g) (hr : SemBN mg K r op) :
    SemN mg K (tOp r ta tb) (q && (q' && true)) (nO op (aC f (aC g aN))) := by
  have h := sem_cons ha (sem_cons hb sem_nil)
  intro E F env σ H x env' rr e Q k
  unfold nO at e
  obtain ⟨⟨xs, e1⟩, h1, e⟩ := Option.bind_eq_some_iff.mp e
  obtain ⟨ds, h2, e⟩ := Option.bind_eq_some_iff.mp e
  obtain ⟨z, h3, e⟩ := Option.bind_eq_some_iff.mp e
  cases e
  refine h E F env σ H xs e1 rr h1 (fun vs H2 => match vs with | [x, y] => r x y H2 Q | _ => False) fun F1 H1 vs l1 r1 lv1 q1 => ?_
  obtain ⟨a, b, rfl⟩ := aC2 h1
  obtain ⟨x, y, rfl⟩ := LVA.two lv1
  have vw := r1.views lv1 h2
  cases vw with
  | cons v1 t => cases t with
    | cons v2 t =>
      cases t
      exact hr F1 H1 x y _ _ _ Q r1.sub v1 v2 h3 fun F2 H2 p o g hp hz => k F2 H2 p o (l1.trans g.f) (r1.grow g) hp hz (qGrow q1 g)
theorem aC1 {f : FE} {env e1 : Ev} {xs : List Lz} (h : aC f aN env = some (xs, e1)) : ∃ a, xs = [a] := by
  unfold aC aN at h
  obtain ⟨r, _, h⟩ := Option.bind_eq_some_iff.mp h
  obtain ⟨s, h2, h⟩ := Option.bind_eq_some_iff.mp h
  cases h2
  cases h
  exact ⟨_, rfl⟩
theorem LVA.one {F : Hp} {σ : L2.St} {a : Lz} {vs : List V} (h : LVA mg K F σ [a] vs) : ∃ x, vs = [x] := by
  cases h with
  | cons h t => cases t; exact ⟨_, rfl⟩
theorem sem_un {ta : TE} {q : Bool} {f : FE} {r : V → Hp → VK → Prop} {op : List D → Option D} (ha : Sem mg K (LV mg K) ta q f) (hr : SemU mg K r op) :
    Sem mg K (LV mg K) (tUn r ta) (q && true) (oO op (aC f aN)) := by
  have h := sem_cons ha sem_nil
  intro E F env σ H x env' rr e Q k
  unfold oO at e
  obtain ⟨⟨xs, e1⟩, h1, e⟩ := Option.bind_eq_some_iff.mp e
  obtain ⟨ds, h2, e⟩ := Option.bind_eq_some_iff.mp e
  obtain ⟨z, h3, e⟩ := Option.bind_eq_some_iff.mp e
  cases e
  refine h E F env σ H xs e1 rr h1 (fun vs H2 => match vs with | [x] => r x H2 Q | _ => False) fun F1 H1 vs l1 r1 lv1 q1 => ?_
  obtain ⟨a, rfl⟩ := aC1 h1
  obtain ⟨x, rfl⟩ := LVA.one lv1
  have vw := r1.views lv1 h2
  cases vw with
  | cons v1 t =>
    cases t
    exact hr F1 H1 x _ z Q r1.sub v1 h3 fun F2 H2 v g hz => k F2 H2 v (l1.trans g.f) (r1.grow g) hz (qGrow q1 g)
/-- a new thing is frozen -/
theorem sem_ofNew {t : TE} {q : Bool} {f : FN} (h : SemN mg K t q f) : Sem mg K (LV mg K) t q (oN f) := by
  intro E F env σ H x env' rr e Q k
  unfold oN at e
  obtain ⟨⟨d, e1⟩, h1, e⟩ := Option.bind_eq_some_iff.mp e
  cases e
  refine h E F env σ H d e1 rr h1 Q fun F1 H1 p o l1 r1 hp hi q1 => ?_
  have g := Grow.one r1.sub o hp
  exact k _ _ _ (l1.trans g.f) (r1.grow g) (ItO.fz upd_same (hi.mono g.f)) (qGrow q1 g)
/-- a value as a test -/
theorem sem_test {t : TE} {q : Bool} {f : FE} (h : Sem mg K (LV mg K) t q f) : Sem mg K relT (tB t) q (tO f) := by
  intro E F env σ H x env' rr e Q k
  unfold tO at e
  obtain ⟨⟨y, e1⟩, h1, e⟩ := Option.bind_eq_some_iff.mp e
  obtain ⟨d, h2, e⟩ := Option.bind_eq_some_iff.mp e
  refine h E F env σ H y e1 rr h1 _ fun F1 H1 v l1 r1 lv q1 => ?_
  split at e
  · cases e
    exact ⟨_, (r1.view lv h2).bl, k F1 H1 _ l1 r1 rfl q1⟩
  · cases e
theorem sem_tNot {t : TT} {q : Bool} {f : FT} (h : Sem mg K relT t q f) : Sem mg K relT (tNot t) q (tN f) := by
  intro E F env σ H x env' rr e Q k
  unfold tN at e
  obtain ⟨⟨y, e1⟩, h1, e⟩ := Option.bind_eq_some_iff.mp e
  cases e
  exact h E F env σ H y e1 rr h1 _ fun F1 H1 v l1 r1 lv q1 => k F1 H1 _ l1 r1 (by rw [show v = y from lv]) q1
theorem qIte {q q' : Bool} {env env1 : Ev} {F F1 H H1 : Hp} (h : q = true → env1 = env ∧ Grow F H F1 H1) : (q && q') = true → env1 = env ∧ Grow F H F1 H1 := fun z => h (Bool.and_eq_true_iff.mp z).1
theorem sem_tAnd {t u : TT} {q q' : Bool} {f g : FT} (h : Sem mg K relT t q f) (h' : Sem mg K relT u q' g) : Sem mg K relT (tAnd t u) (q && q') (tA f g) := by
  intro E F env σ H x env' rr e Q k
  unfold tA at e
  obtain ⟨⟨y, e1⟩, h1, e⟩ := Option.bind_eq_some_iff.mp e
  refine h E F env σ H y e1 rr h1 _ fun F1 H1 v l1 r1 lv q1 => ?_
  rw [show v = y from lv]
  cases y with
  | false => cases e; exact iteF (k F1 H1 _ l1 r1 rfl (qIte q1))
  | true =>
    refine iteT (h' E F1 e1 σ H1 x env' r1 e Q fun F2 H2 w l2 r2 lw q2 => k F2 H2 w (l1.trans l2) r2 lw (qAnd q1 q2))
theorem sem_tOr {t u : TT} {q q' : Bool} {f g : FT} (h : Sem mg K relT t q f) (h' : Sem mg K relT u q' g) : Sem mg K relT (tOr t u) (q && q') (tR f g) := by
  intro E F env σ H x env' rr e Q k
  unfold tR at e
  obtain ⟨⟨y, e1⟩, h1, e⟩ := Option.bind_eq_some_iff.mp e
  refine h E F env σ H y e1 rr h1 _ fun F1 H1 v l1 r1 lv q1 => ?_
  rw [show v = y from lv]
  cases y with
  | true => cases e; exact iteT (k F1 H1 _ l1 r1 rfl (qIte q1))
  | false =>
    refine iteF (h' E F1 e1 σ H1 x env' r1 e Q fun F2 H2 w l2 r2 lw q2 => k F2 H2 w (l1.trans l2) r2 lw (qAnd q1 q2))
theorem sem_if {c : TT} {t u : TE} {q q' q'' : Bool} {b : FT} {f g : FE} (hc : Sem mg K relT c q b) (h : Sem mg K (LV mg K) t q' f) (h' : Sem mg K (LV mg K) u q'' g) : Sem mg K (LV mg K) (tIf c t u) (q && (q' && q'')) (oI b f g) := by
  intro E F env σ H x env' rr e Q k
  unfold oI at e
  obtain ⟨⟨y, e1⟩, h1, e⟩ := Option.bind_eq_some_iff.mp e
  refine hc E F env σ H y e1 rr h1 _ fun F1 H1 v l1 r1 lv q1 => ?_
  rw [show v = y from lv]
  cases y with
  | true =>
    refine iteT (h E F1 e1 σ H1 x env' r1 e Q fun F2 H2 w l2 r2 lw q2 => k F2 H2 w (l1.trans l2) r2 lw (fun z => ?_))
    rw [Bool.and_eq_true, Bool.and_eq_true] at z
    exact qAnd q1 q2 (by rw [z.1, z.2.1]; rfl)
  | false =>
    refine iteF (h' E F1 e1 σ H1 x env' r1 e Q fun F2 H2 w l2 r2 lw q2 => k F2 H2 w (l1.trans l2) r2 lw (fun z => ?_))
    rw [Bool.and_eq_true, Bool.and_eq_true] at z
    exact qAnd q1 q2 (by rw [z.1, z.2.2]; rfl)
theorem sem_andV {t u : TE} {q q' : Bool} {f g : FE} (h : Sem mg K (LV mg K) t q f) (h' : Sem mg K (LV mg K) u q' g) : Sem mg K (LV mg K) (tAndV t u) (q && q') (oAnd f g) := by
  intro E F env σ H x env' rr e Q k
  unfold oAnd at e
  obtain ⟨⟨y, e1⟩, h1, e⟩ := Option.bind_eq_some_iff.mp e
  obtain ⟨d, h2, e⟩ := Option.bind_eq_some_iff.mp e
  refine h E F env σ H y e1 rr h1 _ fun F1 H1 v l1 r1 lv q1 => ?_
  split at e
  · exact ⟨_, (r1.view lv h2).bl, iteT (h' E F1 e1 σ H1 x env' r1 e Q fun F2 H2 w l2 r2 lw q2 => k F2 H2 w (l1.trans l2) r2 lw (qAnd q1 q2))⟩
  · cases e
    exact ⟨_, (r1.view lv h2).bl, iteF (k F1 H1 _ l1 r1 (.bl false) (qIte q1))⟩
  · cases e
theorem sem_orV {t u : TE} {q q' : Bool} {f g : FE} (h : Sem mg K (LV mg K) t q f) (h' : Sem mg K (LV mg K) u q' g) : Sem mg K (LV mg K) (tOrV t u) (q && q') (oOr f g) := by
  intro E F env σ H x env' rr e Q k
  unfold oOr at e
  obtain ⟨⟨y, e1⟩, h1, e⟩ := Option.bind_eq_some_iff.mp e
  obtain ⟨d, h2, e⟩ := Option.bind_eq_some_iff.mp e
  refine h E F env σ H y e1 rr h1 _ fun F1 H1 v l1 r1 lv q1 => ?_
  split at e
  · cases e
    exact ⟨_, (r1.view lv h2).bl, iteT (k F1 H1 _ l1 r1 (.bl true) (qIte q1))⟩
  · exact ⟨_, (r1.view lv h2).bl, iteF (h' E F1 e1 σ H1 x env' r1 e Q fun F2 H2 w l2 r2 lw q2 => k F2 H2 w (l1.trans l2) r2 lw (qAnd q1 q2))⟩
  · cases e
theorem sem_notV {t : TE} {q : Bool} {f : FE} (h : Sem mg K (LV mg K) t q f) : Sem mg K (LV mg K) (tNotV t) (q && true) (oO dNot (aC f aN)) := by
  have h0 := sem_cons h sem_nil
  intro E F env σ H x env' rr e Q k
  unfold oO at e
  obtain ⟨⟨xs, e1⟩, h1, e⟩ := Option.bind_eq_some_iff.mp e
  obtain ⟨ds, h2, e⟩ := Option.bind_eq_some_iff.mp e
  obtain ⟨z, h3, e⟩ := Option.bind_eq_some_iff.mp e
  cases e
  refine h0 E F env σ H xs e1 rr h1 (fun vs H2 => match vs with | [x] => ∃ c, x = .bl c ∧ Q (.bl (!c)) H2 | _ => False) fun F1 H1 vs l1 r1 lv1 q1 => ?_
  obtain ⟨a, rfl⟩ := aC1 h1
  obtain ⟨x, rfl⟩ := LVA.one lv1
  have vw := r1.views lv1 h2
  unfold dNot at h3
  split at h3
  · cases h3
    cases vw with
    | cons v1 t => exact ⟨_, v1.bl, k F1 H1 _ l1 r1 (.bl _) q1⟩
  · cases h3
/-- taken for good -/
theorem sem_take {ta : TA} {f : FA} {q : Bool} (ha : Sem mg K (LVA mg K) ta q f) : Sem mg K (fun F _ => fun ds vs => FzA mg K F vs ds) ta false (kA f) := by
  intro E F env σ H ds env' rr e Q k
  unfold kA at e
  obtain ⟨⟨xs, e1⟩, h1, e⟩ := Option.bind_eq_some_iff.mp e
  refine ha E F env σ H xs e1 rr h1 Q fun F1 H1 vs l1 r1 lv1 q1 => ?_
  obtain ⟨F2, l2, r2, z⟩ := R.takes r1 lv1 e
  exact k F2 H1 vs (l1.trans l2) r2 z fun z => nomatch z
theorem sem_tuple {ta : TA} {f : FA} {q : Bool} (ha : Sem mg K (LVA mg K) ta q f) : Sem mg K (LV mg K) (tTup ta) false (oTup f) := by
  intro E F env σ H x env' rr e Q k
  unfold oTup at e
  obtain ⟨⟨ds, e1⟩, h1, e⟩ := Option.bind_eq_some_iff.mp e
  split at e
  · rename_i hz
    cases e
    refine sem_take ha E F env σ H ds e1 rr h1 _ fun F1 H1 vs l1 r1 z _ => ⟨le_size (by rw [FzA.len z]; exact hz), fun p hp => ?_⟩
    have g := Grow.one r1.sub (.tup vs) hp
    exact k _ _ _ (l1.trans g.f) (r1.grow g) (.tup upd_same (FzA.mono g.f z)) fun z => nomatch z
  · cases e
theorem sem_const_take {F : Hp} {σ : L2.St} : ∀ {xs : List Lz} {vs : List V} {ds : List D}, LVA mg K F σ xs vs → csA xs = some ds → FzA mg K F vs ds
  | _, _, _, .nil, e => by cases e; exact .nil
  | x :: xs, _, _, .cons h t, e => by
    cases x with
    | s i => cases e
    | c d =>
      obtain ⟨ds, e1, e2⟩ := Option.map_eq_some_iff.mp (show (csA xs).map (fun ds => d :: ds) = _ from e)
      cases e2
      exact .cons h (sem_const_take t e1)
/-- .. of things that are no slots -/
theorem sem_tupleQ {ta : TA} {f : FA} {q : Bool} (ha : Sem mg K (LVA mg K) ta q f) : Sem mg K (LV mg K) (tTup ta) q (oTupQ f) := by
  intro E F env σ H x env' rr e Q k
  unfold oTupQ at e
  obtain ⟨⟨xs, e1⟩, h1, e⟩ := Option.bind_eq_some_iff.mp e
  obtain ⟨ds, h2, e⟩ := Option.bind_eq_some_iff.mp e
  split at e
  · rename_i hz
    cases e
    refine ha E F env σ H xs e1 rr h1 _ fun F1 H1 vs l1 r1 lv q1 => ?_
    have z := sem_const_take lv h2
    refine ⟨le_size (by rw [FzA.len z]; exact hz), fun p hp => ?_⟩
    have g := Grow.one r1.sub (.tup vs) hp
    exact k _ _ _ (l1.trans g.f) (r1.grow g) (.tup upd_same (FzA.mono g.f z)) (qGrow q1 g)
  · cases e
theorem sem_lstQ {ta : TA} {f : FA} {q : Bool} (ha : Sem mg K (LVA mg K) ta q f) : SemN mg K (tLst ta) q (nLstQ f) := by
  intro E F env σ H x env' rr e Q k
  unfold nLstQ at e
  obtain ⟨⟨xs, e1⟩, h1, e⟩ := Option.bind_eq_some_iff.mp e
  obtain ⟨ds, h2, e⟩ := Option.bind_eq_some_iff.mp e
  split at e
  · rename_i hz
    cases e
    refine ha E F env σ H xs e1 rr h1 _ fun F1 H1 vs l1 r1 lv q1 => ?_
    have z := sem_const_take lv h2
    exact ⟨le_size (by rw [FzA.len z]; exact hz), fun p hp => k F1 H1 p _ l1 r1 hp (.inl ⟨vs, ds, rfl, rfl, z⟩) q1⟩
  · cases e
theorem sem_lst {ta : TA} {f : FA} {q : Bool} (ha : Sem mg K (LVA mg K) ta q f) : SemN mg K (tLst ta) false (nLst f) := by
  intro E F env σ H x env' rr e Q k
  unfold nLst at e
  obtain ⟨⟨ds, e1⟩, h1, e⟩ := Option.bind_eq_some_iff.mp e
  split at e
  · rename_i hz
    cases e
    refine sem_take ha E F env σ H ds e1 rr h1 _ fun F1 H1 vs l1 r1 z _ => ⟨le_size (by rw [FzA.len z]; exact hz), fun p hp => ?_⟩
    exact k F1 H1 p _ l1 r1 hp (.inl ⟨vs, ds, rfl, rfl, z⟩) fun z => nomatch z
  · cases e
end
end FL

set_option maxHeartbeats 2000000
/-! FL9: own slots changed; statements. -/
namespace FL
open PySem PySem.Spec L2

def Sl.wd : Sl → D → Sl
  | .fz _, d => .fz d
  | .own s _, d => .own s d
  | .io s _, d => .io s d
/-- the shape of a new thing -/
def shD : D → Sh
  | .list _ => .L .fz
  | _ => .M .fz
section
variable {mg : Str → Option Value} {K : PySem.W.Frag} {F F' H H' : Hp} {E : Ent} {env : Ev} {σ : L2.St}
theorem OwnsL.nil_of {vs : List V} {ds : List D} (h : FzA mg K F vs ds) : OwnsL (Own mg K F H .fz) vs ds [] := OwnsL.fz h
/-- an object of frozen items is an own thing -/
theorem ItO.own {a : Addr} {o : HO} {d : D} (h : ItO mg K F o d) (hF : F a = none) (hH : H a = some o) : Own mg K F H (shD d) (.ref a) d [a] := by
  rcases h with ⟨vs, ds, e1, e2, h⟩ | ⟨vs, ds, e1, e2, h⟩ | ⟨vs, ds, e1, e2, h⟩
  · subst e1 e2; exact ⟨a, vs, ds, [], rfl, rfl, rfl, hF, hH, (fun z => nomatch z), .fz h⟩
  · subst e1 e2; exact ⟨a, _, [], rfl, rfl, rfl, hF, (fun z => nomatch z), .inl ⟨vs, hH, .fz h⟩⟩
  · subst e1 e2; exact ⟨a, _, [], rfl, rfl, rfl, hF, (fun z => nomatch z), .inr ⟨vs, _, rfl, hH, .fzT h⟩⟩
theorem setSame {σ : L2.St} {i : Nat} {v : V} (h : σ[i]? = some (some v)) : σ.set i (some v) = σ := by
  apply List.ext_getElem?
  intro j
  by_cases hj : i = j
  · subst hj
    rw [List.getElem?_set_self (List.getElem?_eq_some_iff.mp h).1, h]
  · rw [List.getElem?_set_ne hj]
/-- the object of an own slot of frozen items, and what may be put in its stead -/
theorem R.mut (r : R mg K E F env σ H) {i : Nat} {x : Sl} (e : env[i]? = some (some x)) (hs : x.sh = .L .fz ∨ x.sh = .M .fz) :
    ∃ a o, σ[i]? = some (some (.ref a)) ∧ H a = some o ∧ F a = none ∧ ItO mg K F o x.d ∧ ∀ o' d', ItO mg K F o' d' → shD d' = x.sh → R mg K E F (env.set i (some (x.wd d'))) σ (upd H a o') := by
  have hx : ∃ a o, σ[i]? = some (some (.ref a)) ∧ H a = some o ∧ F a = none ∧ ItO mg K F o x.d ∧ ∀ g : List Addr, (∃ w, σ[i]? = some (some w) ∧ Own mg K F H x.sh w x.d g) → g = [a] := by
    obtain ⟨fps, h1, _, _⟩ := r.slots
    obtain ⟨v, e1, e2⟩ := h1 i x e
    rcases hs with hs | hs
    · rw [hs] at e2
      obtain ⟨a, vs, ds, g, q1, q2, q3, q4, q5, q6, q7⟩ := e2
      subst q1
      refine ⟨a, _, e1, q5, q4, .inl ⟨vs, ds, rfl, q2, q7.toFz.1⟩, fun g' ⟨w, w1, w2⟩ => ?_⟩
      rw [e1] at w1
      cases w1
      rw [hs] at w2
      obtain ⟨a', vs', ds', g'', p1, p2, p3, p4, p5, p6, p7⟩ := w2
      cases p1
      rw [p3, p7.toFz.2]
    · rw [hs] at e2
      obtain ⟨a, l, g, q1, q2, q3, q4, q6, q7⟩ := e2
      subst q1
      have fin : ∀ g' : List Addr, (∃ w, σ[i]? = some (some w) ∧ Own mg K F H x.sh w x.d g') → g' = [a] := fun g' ⟨w, w1, w2⟩ => by
        rw [e1] at w1
        cases w1
        rw [hs] at w2
        obtain ⟨a', l', g'', p1, p2, p3, p4, p6, p7⟩ := w2
        cases p1
        rcases p7 with ⟨kvs, _, p7⟩ | ⟨kvs, _, _, _, p7⟩
        · rw [p3, p7.toFz.2]
        · rw [p3, p7.toFzT.2]
      rcases q7 with ⟨kvs, q5, q7⟩ | ⟨kvs, l', q0, q5, q7⟩
      · exact ⟨a, _, e1, q5, q4, .inr (.inl ⟨kvs, l, rfl, q2, q7.toFz.1⟩), fin⟩
      · subst q0; exact ⟨a, _, e1, q5, q4, .inr (.inr ⟨kvs, l', rfl, q2, q7.toFzT.1⟩), fin⟩
  obtain ⟨a, o, e1, e2, e3, e4, e5⟩ := hx
  refine ⟨a, o, e1, e2, e3, e4, fun o' d' hi hsh => ?_⟩
  have l : Le F (upd H a o') := fun b u q => by
    rw [upd_ne (fun z => by subst z; rw [e3] at q; cases q)]; exact r.sub b u q
  have q := r.change (i := i) (x := x.wd d') (v := .ref a) (F' := F) (H' := upd H a o') (List.getElem?_eq_some_iff.mp e).1
    (by unfold ioAt; rw [e]; cases x <;> rfl) (fun _ => e1) (fun g h1 h2 => by
      have eg := e5 g (h1 x e)
      subst eg
      refine ⟨[a], fun b u q n => ?_, fun b hb => ?_, fun b hb => ?_, ?_⟩
      · rw [upd_ne (fun z => n (by rw [z]; exact List.mem_cons_self))]; exact q
      · by_cases z : b = a
        · subst z; rw [upd_same]; exact fun z => nomatch z
        · rw [upd_ne z]; exact hb
      · rw [List.mem_singleton] at hb
        subst hb
        exact ⟨e3, by (rw [upd_same]; exact Option.some_ne_none _), .inl List.mem_cons_self⟩
      · have s1 : (x.wd d').sh = x.sh := by cases x <;> rfl
        have s2 : (x.wd d').d = d' := by cases x <;> rfl
        rw [s1, s2, ← hsh]
        exact hi.own e3 upd_same) (.refl _) l (fun _ h => .inl h)
  rw [setSame e1] at q
  exact q
/-- a new thing is stored -/
theorem R.setNew (r : R mg K E F env σ H) {i : Nat} {p : Addr} {o : HO} {d : D} (hi : freeAt env i = true) (hp : H p = none) (h : ItO mg K F o d) :
    R mg K E F (env.set i (some (.own (shD d) d))) (σ.set i (some (.ref p))) (upd H p o) := by
  have hF : F p = none := r.sub.back hp
  refine r.change (freeAt_lt hi) (freeAt_io hi).symm (fun z => by rw [freeAt_io hi] at z; cases z) (fun g _ h2 => ⟨[p], fun b u q _ => Le.new hp b u q, fun b hb => ?_, fun b hb => ?_, h.own hF upd_same⟩) (.refl _) (r.sub.trans (.new hp)) (fun _ h => .inl h)
  · rw [(Le.new (o := o) hp).same hb]; exact hb
  · rw [List.mem_singleton] at hb
    subst hb
    exact ⟨hF, by (rw [upd_same]; exact Option.some_ne_none _), .inr hp⟩
end

/-! ### statements -/
inductive Ctl where
  | nx
  | rt (d : D)
  | bk
  | ct
abbrev FS := Ev → Option (Ctl × Ev)
section
variable (mg : Str → Option Value) (K : PySem.W.Frag)
def KS (E : Ent) (F : Hp) (c : Ctl) (env' : Ev) (Dn : Ends) : Prop := match c with
  | .nx => ∀ F' σ' H', Le F F' → R mg K E F' env' σ' H' → Dn.nx σ' H'
  | .rt d => ∀ F' σ' H' v, Le F F' → R mg K E F' env' σ' H' → Fz mg K F' v d → Dn.rt v H'
  | .bk => ∀ F' σ' H', Le F F' → R mg K E F' env' σ' H' → Dn.bk σ' H'
  | .ct => ∀ F' σ' H', Le F F' → R mg K E F' env' σ' H' → Dn.ct σ' H'
def SemS (t : TS) (f : FS) : Prop := ∀ (E : Ent) (F : Hp) (env : Ev) (σ : L2.St) (H : Hp) (c : Ctl) (env' : Ev), R mg K E F env σ H → f env = some (c, env') → ∀ Dn : Ends, KS mg K E F c env' Dn → t Dn σ H
end
structure SS (X : Cx) (st : Stmt) (t : TS) (f : FS) : Prop where
  ps : PS X st t
  sem : SemS X.mg X.K t f
structure SB (X : Cx) (st : List Stmt) (t : TS) (f : FS) : Prop where
  ps : PSs X st t
  sem : SemS X.mg X.K t f
def sPass : FS := fun env => some (.nx, env)
def sSeq (f g : FS) : FS := fun env => (f env).bind fun r => match r.1 with
  | .nx => g r.2
  | c => some (c, r.2)
def sBrk : FS := fun env => some (.bk, env)
def sCnt : FS := fun env => some (.ct, env)
def sDrop (f : FE) : FS := fun env => (f env).bind fun r => some (.nx, r.2)
def sRet (f : FE) : FS := fun env => (f env).bind fun r => (r.1.take r.2).bind fun s => some (.rt s.1, s.2)
def sRetN : FS := fun env => some (.rt .none, env)
def sIf (c : FT) (f g : FS) : FS := fun env => (c env).bind fun r => if r.1 = true then f r.2 else g r.2
def sNever : FS := fun _ => none
def sSet (i : Nat) (f : FE) : FS := fun env => (f env).bind fun r => (r.1.take r.2).bind fun s => if freeAt s.2 i = true then some (.nx, s.2.set i (some (.fz s.1))) else none
def sSetN (i : Nat) (f : FN) : FS := fun env => (f env).bind fun r => if freeAt r.2 i = true then some (.nx, r.2.set i (some (.own (shD r.1) r.1))) else none
/-- a slot's own thing, changed by f -/
def chg (i : Nat) (g : D → Option D) (env : Ev) : Option Ev := match env[i]? with
  | some (some x) => if x.sh = .L .fz ∨ x.sh = .M .fz then (g x.d).bind fun d => if shD d = x.sh then some (env.set i (some (x.wd d))) else none else none
  | _ => none
section
variable {mg : Str → Option Value} {K : PySem.W.Frag}
theorem KS.mono {E : Ent} {F F' : Hp} {c : Ctl} {env' : Ev} {Dn : Ends} (l : Le F F') (k : KS mg K E F c env' Dn) : KS mg K E F' c env' Dn := by
  cases c with
  | nx => exact fun F2 σ' H' l2 => k F2 σ' H' (l.trans l2)
  | rt d => exact fun F2 σ' H' v l2 => k F2 σ' H' v (l.trans l2)
  | bk => exact fun F2 σ' H' l2 => k F2 σ' H' (l.trans l2)
  | ct => exact fun F2 σ' H' l2 => k F2 σ' H' (l.trans l2)
theorem sem_pass : SemS mg K tNext sPass := by
  intro E F env σ H c env' r e Dn k
  cases e
  exact k F σ H (.refl _) r
theorem sem_seq {t u : TS} {f g : FS} (hf : SemS mg K t f) (hg : SemS mg K u g) : SemS mg K (tSeq t u) (sSeq f g) := by
  intro E F env σ H c env' r e Dn k
  unfold sSeq at e
  obtain ⟨⟨c1, e1⟩, h1, e⟩ := Option.bind_eq_some_iff.mp e
  refine hf E F env σ H c1 e1 r h1 _ ?_
  cases c1 with
  | nx => exact fun F' σ' H' l r' => hg E F' e1 σ' H' c env' r' e Dn (k.mono l)
  | rt d => cases e; exact k
  | bk => cases e; exact k
  | ct => cases e; exact k
theorem sem_brk : SemS mg K tBreak sBrk := by
  intro E F env σ H c env' r e Dn k
  cases e
  exact k F σ H (.refl _) r
theorem sem_cnt : SemS mg K tCont sCnt := by
  intro E F env σ H c env' r e Dn k
  cases e
  exact k F σ H (.refl _) r
theorem sem_drop {t : TE} {q : Bool} {f : FE} (h : Sem mg K (LV mg K) t q f) : SemS mg K (tDrop t) (sDrop f) := by
  intro E F env σ H c env' r e Dn k
  unfold sDrop at e
  obtain ⟨⟨x, e1⟩, h1, e⟩ := Option.bind_eq_some_iff.mp e
  cases e
  exact h E F env σ H x e1 r h1 _ fun F1 H1 v l1 r1 lv q1 => k F1 σ H1 l1 r1
theorem sem_ret {t : TE} {q : Bool} {f : FE} (h : Sem mg K (LV mg K) t q f) : SemS mg K (tRet t) (sRet f) := by
  intro E F env σ H c env' r e Dn k
  unfold sRet at e
  obtain ⟨⟨x, e1⟩, h1, e⟩ := Option.bind_eq_some_iff.mp e
  obtain ⟨⟨d, e2⟩, h2, e⟩ := Option.bind_eq_some_iff.mp e
  cases e
  refine h E F env σ H x e1 r h1 _ fun F1 H1 v l1 r1 lv q1 => ?_
  obtain ⟨F2, l2, r2, z⟩ := r1.take lv h2
  exact k F2 σ H1 v (l1.trans l2) r2 z
theorem sem_retN : SemS mg K tRetN sRetN := by
  intro E F env σ H c env' r e Dn k
  cases e
  exact k F σ H .non (.refl _) r .non
theorem sem_ifS {c : TT} {t u : TS} {q : Bool} {b : FT} {f g : FS} (hc : Sem mg K relT c q b) (h : SemS mg K t f) (h' : SemS mg K u g) : SemS mg K (tIfS c t u) (sIf b f g) := by
  intro E F env σ H x env' r e Dn k
  unfold sIf at e
  obtain ⟨⟨y, e1⟩, h1, e⟩ := Option.bind_eq_some_iff.mp e
  refine hc E F env σ H y e1 r h1 _ fun F1 H1 v l1 r1 lv q1 => ?_
  rw [show v = y from lv]
  cases y with
  | true => exact iteT (h E F1 e1 σ H1 x env' r1 e Dn (k.mono l1))
  | false => exact iteF (h' E F1 e1 σ H1 x env' r1 e Dn (k.mono l1))
theorem sem_never : SemS mg K tNever sNever := by
  intro E F env σ H x env' r e Dn k
  cases e
theorem sem_set {i : Nat} {t : TE} {q : Bool} {f : FE} (h : Sem mg K (LV mg K) t q f) : SemS mg K (tAsg t (gName i)) (sSet i f) := by
  intro E F env σ H c env' r e Dn k
  unfold sSet at e
  obtain ⟨⟨x, e1⟩, h1, e⟩ := Option.bind_eq_some_iff.mp e
  obtain ⟨⟨d, e2⟩, h2, e⟩ := Option.bind_eq_some_iff.mp e
  split at e
  · rename_i hi
    cases e
    refine h E F env σ H x e1 r h1 _ fun F1 H1 v l1 r1 lv q1 => ?_
    obtain ⟨F2, l2, r2, z⟩ := r1.take lv h2
    exact k F2 _ H1 (l1.trans l2) (r2.setFz hi z)
  · cases e
theorem sem_setN {i : Nat} {t : TE} {q : Bool} {f : FN} (h : SemN mg K t q f) : SemS mg K (tAsg t (gName i)) (sSetN i f) := by
  intro E F env σ H c env' r e Dn k
  unfold sSetN at e
  obtain ⟨⟨d, e1⟩, h1, e⟩ := Option.bind_eq_some_iff.mp e
  split at e
  · rename_i hi
    cases e
    exact h E F env σ H d e1 r h1 _ fun F1 H1 p o l1 r1 hp hz q1 => k F1 _ _ l1 (r1.setNew hi hp hz)
  · cases e
theorem chg_ok {E : Ent} {F H : Hp} {env env' : Ev} {σ : L2.St} {i : Nat} {g : D → Option D} (r : R mg K E F env σ H) (e : chg i g env = some env') :
    ∃ a o d d', σ[i]? = some (some (.ref a)) ∧ H a = some o ∧ ItO mg K F o d ∧ g d = some d' ∧ ∀ o', ItO mg K F o' d' → R mg K E F env' σ (upd H a o') := by
  unfold chg at e
  split at e
  · rename_i x q
    split at e
    · rename_i hs
      obtain ⟨d', h1, e⟩ := Option.bind_eq_some_iff.mp e
      split at e
      · rename_i hd
        cases e
        obtain ⟨a, o, e1, e2, e3, e4, e5⟩ := r.mut q hs
        exact ⟨a, o, _, d', e1, e2, e4, h1, fun o' h => e5 o' d' h hd⟩
      · cases e
    · cases e
  · cases e
end
end FL

set_option maxHeartbeats 2000000
/-! FL10: targets, stores, append. -/
namespace FL
open PySem PySem.Spec L2

/-! ### targets -/
section
variable (mg : Str → Option Value) (K : PySem.W.Frag)
/-- a target: the slots is are set -/
structure SemG (t : TG) (is : List Nat) (g : D → Ev → Option Ev) : Prop where
  env : ∀ d env env', g d env = some env' → (∀ j, j ∉ is → env'[j]? = env[j]?) ∧ env'.length = env.length
  run : ∀ (E : Ent) (F : Hp) (env : Ev) (σ : L2.St) (H : Hp) (v : V) (d : D) (env' : Ev), R mg K E F env σ H → Fz mg K F v d → g d env = some env' → ∀ Q : L2.St → Hp → Prop,
    (∀ F' σ' H', Le F F' → R mg K E F' env' σ' H' → (∀ j, j ∉ is → σ'[j]? = σ[j]?) → Grow F H F' H' → Q σ' H') → t v σ H Q
structure SemGs (t : TGs) (is : List Nat) (g : List D → Ev → Option Ev) : Prop where
  env : ∀ d env env', g d env = some env' → (∀ j, j ∉ is → env'[j]? = env[j]?) ∧ env'.length = env.length
  run : ∀ (E : Ent) (F : Hp) (env : Ev) (σ : L2.St) (H : Hp) (vs : List V) (ds : List D) (env' : Ev), R mg K E F env σ H → FzA mg K F vs ds → g ds env = some env' → ∀ Q : L2.St → Hp → Prop,
    (∀ F' σ' H', Le F F' → R mg K E F' env' σ' H' → (∀ j, j ∉ is → σ'[j]? = σ[j]?) → Grow F H F' H' → Q σ' H') → t vs σ H Q
end
structure SG (X : Cx) (e : Expr) (t : TG) (is : List Nat) (g : D → Ev → Option Ev) : Prop where
  pg : PG X e t
  sem : SemG X.mg X.K t is g
structure SGs (X : Cx) (e : List Expr) (t : TGs) (is : List Nat) (g : List D → Ev → Option Ev) : Prop where
  pg : PGs X e t
  sem : SemGs X.mg X.K t is g
def gN (i : Nat) : D → Ev → Option Ev := fun d env => if freeAt env i = true then some (env.set i (some (.fz d))) else none
def gZ : List D → Ev → Option Ev
  | [], env => some env
  | _, _ => none
def gC (g : D → Ev → Option Ev) (h : List D → Ev → Option Ev) : List D → Ev → Option Ev
  | d :: ds, env => (g d env).bind fun e => h ds e
  | _, _ => none
def gT (n : Nat) (h : List D → Ev → Option Ev) : D → Ev → Option Ev
  | .tuple ds, env => if ds.length = n then h ds env else none
  | .list ds, env => if ds.length = n then h ds env else none
  | _, _ => none
def gTupA (K : PySem.W.Frag) (n : Nat) (t : TGs) : TG := fun v σ H Q => gTup K n t v σ H Q ∨ gUnl K n t v σ H Q
theorem pg_tupA {X : Cx} {es : List Expr} {k : Nat} {t : TGs} {n : Nat} {pos : Pos} (h1 : PG X (.Tuple es k pos) (gTup X.K n t)) (h2 : PG X (.Tuple es k pos) (gUnl X.K n t)) : PG X (.Tuple es k pos) (gTupA X.K n t) :=
  ⟨fun pins s σ H v u Q I r q => by
    rcases q with q | q
    · exact h1.run pins s σ H v u Q I r q
    · exact h2.run pins s σ H v u Q I r q⟩
section
variable {mg : Str → Option Value} {K : PySem.W.Frag}
theorem semg_name (i : Nat) : SemG mg K (gName i) [i] (gN i) where
  env := fun d env env' e => by
    unfold gN at e
    split at e
    · cases e
      refine ⟨fun j hj => List.getElem?_set_ne fun z => hj (by rw [z]; exact List.mem_cons_self), by rw [List.length_set]⟩
    · cases e
  run := by
    intro E F env σ H v d env' r z e Q k
    unfold gN at e
    split at e
    · rename_i hi
      cases e
      exact k F _ H (.refl _) (r.setFz hi z) (fun j hj => List.getElem?_set_ne fun z => hj (by rw [z]; exact List.mem_cons_self)) (.refl r.sub)
    · cases e
theorem semg_nil : SemGs mg K gNil [] gZ where
  env := fun d env env' e => by
    unfold gZ at e
    split at e <;> cases e
    exact ⟨fun _ _ => rfl, rfl⟩
  run := by
    intro E F env σ H vs ds env' r z e Q k
    unfold gZ at e
    split at e
    · cases e
      cases z
      exact ⟨rfl, k F σ H (.refl _) r (fun _ _ => rfl) (.refl r.sub)⟩
    · cases e
theorem semg_cons {t : TG} {u : TGs} {is js : List Nat} {g : D → Ev → Option Ev} {h : List D → Ev → Option Ev} (h1 : SemG mg K t is g) (h2 : SemGs mg K u js h) : SemGs mg K (gCons t u) (is ++ js) (gC g h) where
  env := fun d env env' e => by
    unfold gC at e
    split at e
    · obtain ⟨e1, q1, e⟩ := Option.bind_eq_some_iff.mp e
      obtain ⟨a1, a2⟩ := h1.env _ _ _ q1
      obtain ⟨b1, b2⟩ := h2.env _ _ _ e
      exact ⟨fun j hj => (b1 j fun z => hj (List.mem_append_right _ z)).trans (a1 j fun z => hj (List.mem_append_left _ z)), b2.trans a2⟩
    · cases e
  run := by
    intro E F env σ H vs ds env' r z e Q k
    unfold gC at e
    split at e
    · rename_i d ds
      obtain ⟨e1, q1, e⟩ := Option.bind_eq_some_iff.mp e
      cases z with
      | cons z zs =>
        exact ⟨_, _, rfl, h1.run E F env σ H _ d e1 r z q1 _ fun F1 σ1 H1 l1 r1 s1 g1 => h2.run E F1 e1 σ1 H1 _ ds env' r1 (zs.mono l1) e Q fun F2 σ2 H2 l2 r2 s2 g2 => k F2 σ2 H2 (l1.trans l2) r2
          (fun j hj => (s2 j fun z => hj (List.mem_append_right _ z)).trans (s1 j fun z => hj (List.mem_append_left _ z))) (g1.trans g2)⟩
    · cases e
theorem semg_tup {n : Nat} {t : TGs} {is : List Nat} {h : List D → Ev → Option Ev} (h1 : SemGs mg K t is h) : SemG mg K (gTupA K n t) is (gT n h) where
  env := fun d env env' e => by
    unfold gT at e
    split at e
    · split at e
      · exact h1.env _ _ _ e
      · cases e
    · split at e
      · exact h1.env _ _ _ e
      · cases e
    · cases e
  run := by
    intro E F env σ H v d env' r z e Q k
    unfold gT at e
    split at e
    · split at e
      · rename_i hn
        cases z with
        | tup q zs => exact .inl ⟨_, _, rfl, SqT.of (r.sub _ _ q), by rw [zs.len]; exact hn, h1.run E F env σ H _ _ env' r zs e Q k⟩
      · cases e
    · split at e
      · rename_i hn
        cases z with
        | lst q zs => exact .inr ⟨_, _, rfl, SqL.of (r.sub _ _ q), by rw [zs.len]; exact hn, h1.run E F env σ H _ _ env' r zs e Q k⟩
      · cases e
    · cases e
/-- target = value -/
def sAsg (f : FE) (g : D → Ev → Option Ev) : FS := fun env => (f env).bind fun r => (r.1.take r.2).bind fun s => (g s.1 s.2).bind fun e => some (.nx, e)
theorem sem_asg {t : TE} {q : Bool} {f : FE} {u : TG} {is : List Nat} {g : D → Ev → Option Ev} (h : Sem mg K (LV mg K) t q f) (hg : SemG mg K u is g) : SemS mg K (tAsg t u) (sAsg f g) := by
  intro E F env σ H c env' r e Dn k
  unfold sAsg at e
  obtain ⟨⟨x, e1⟩, h1, e⟩ := Option.bind_eq_some_iff.mp e
  obtain ⟨⟨d, e2⟩, h2, e⟩ := Option.bind_eq_some_iff.mp e
  obtain ⟨e3, h3, e⟩ := Option.bind_eq_some_iff.mp e
  cases e
  refine h E F env σ H x e1 r h1 _ fun F1 H1 v l1 r1 lv q1 => ?_
  obtain ⟨F2, l2, r2, z⟩ := r1.take lv h2
  exact hg.run E F2 e2 σ H1 v d env' r2 z h3 _ fun F3 σ3 H3 l3 r3 _ _ => k F3 σ3 H3 ((l1.trans l2).trans l3) r3

/-! ### a, b = e, f -/
def sPar2 (i j : Nat) (a : FA) : FS := fun env => (kA a env).bind fun r => match r.1 with
  | [d, e] => (gN i d r.2).bind fun e1 => (gN j e e1).bind fun e2 => some (.nx, e2)
  | _ => none
def sPar3 (i j l : Nat) (a : FA) : FS := fun env => (kA a env).bind fun r => match r.1 with
  | [d, e, f] => (gN i d r.2).bind fun e1 => (gN j e e1).bind fun e2 => (gN l f e2).bind fun e3 => some (.nx, e3)
  | _ => none
theorem gN_ok {E : Ent} {F H : Hp} {env env' : Ev} {σ : L2.St} {i : Nat} {v : V} {d : D} (r : R mg K E F env σ H) (z : Fz mg K F v d) (e : gN i d env = some env') : R mg K E F env' (σ.set i (some v)) H := by
  unfold gN at e
  split at e
  · rename_i hi
    cases e
    exact r.setFz hi z
  · cases e
theorem sem_par2 {i j : Nat} {ta : TA} {q : Bool} {f : FA} (h : Sem mg K (LVA mg K) ta q f) : SemS mg K (tPar i j ta) (sPar2 i j f) := by
  intro E F env σ H c env' r e Dn k
  unfold sPar2 at e
  obtain ⟨⟨ds, e1⟩, h1, e⟩ := Option.bind_eq_some_iff.mp e
  refine sem_take h E F env σ H ds e1 r h1 _ fun F1 H1 vs l1 r1 z _ => ?_
  dsimp only at e z
  split at e
  · obtain ⟨e2, h2, e⟩ := Option.bind_eq_some_iff.mp e
    obtain ⟨e3, h3, e⟩ := Option.bind_eq_some_iff.mp e
    cases e
    cases z with
    | cons z1 t => cases t with
      | cons z2 t =>
        cases t
        exact ⟨_, _, rfl, k F1 _ H1 l1 (gN_ok (gN_ok r1 z1 h2) z2 h3)⟩
  · cases e
theorem sem_par3 {i j l : Nat} {ta : TA} {q : Bool} {f : FA} (h : Sem mg K (LVA mg K) ta q f) : SemS mg K (tPar3 i j l ta) (sPar3 i j l f) := by
  intro E F env σ H c env' r e Dn k
  unfold sPar3 at e
  obtain ⟨⟨ds, e1⟩, h1, e⟩ := Option.bind_eq_some_iff.mp e
  refine sem_take h E F env σ H ds e1 r h1 _ fun F1 H1 vs l1 r1 z _ => ?_
  dsimp only at e z
  split at e
  · obtain ⟨e2, h2, e⟩ := Option.bind_eq_some_iff.mp e
    obtain ⟨e3, h3, e⟩ := Option.bind_eq_some_iff.mp e
    obtain ⟨e4, h4, e⟩ := Option.bind_eq_some_iff.mp e
    cases e
    cases z with
    | cons z1 t => cases t with
      | cons z2 t => cases t with
        | cons z3 t =>
          cases t
          exact ⟨_, _, _, rfl, k F1 _ H1 l1 (gN_ok (gN_ok (gN_ok r1 z1 h2) z2 h3) z3 h4)⟩
  · cases e

/-! ### xs.append(e), xs.extend(e) -/
def isLst (env : Ev) (i : Nat) : Bool := match env[i]? with
  | some (some (.own (.L _) _)) => true
  | some (some (.io (.L _) _)) => true
  | _ => false
theorem isLst_ok {E : Ent} {F H : Hp} {env : Ev} {σ : L2.St} {i : Nat} (r : R mg K E F env σ H) (h : isLst env i = true) : ∃ a vs, σ[i]? = some (some (.ref a)) ∧ H a = some (.lst vs) := by
  have fin : ∀ (s : Sh) (x : Sl), x.sh = .L s → env[i]? = some (some x) → ∃ a vs, σ[i]? = some (some (.ref a)) ∧ H a = some (.lst vs) := fun s x hs e => by
    obtain ⟨fps, h1, _, _⟩ := r.slots
    obtain ⟨v, e1, e2⟩ := h1 i x e
    rw [hs] at e2
    obtain ⟨a, vs, ds, g, q1, q2, q3, q4, q5, q6, q7⟩ := e2
    subst q1
    exact ⟨a, vs, e1, q5⟩
  unfold isLst at h
  split at h
  · exact fin _ _ rfl (by assumption)
  · exact fin _ _ rfl (by assumption)
  · cases h
def appD (d : D) : D → Option D
  | .list ds => if ds.length < big then some (.list (ds ++ [d])) else none
  | _ => none
def extD (d : D) : D → Option D
  | .list ds => match d with
    | .list es => if ds.length + es.length ≤ big then some (.list (ds ++ es)) else none
    | _ => none
  | _ => none
def sMeth (i : Nat) (m : D → D → Option D) (f : FE) : FS := fun env => if isLst env i = true then (f env).bind fun r => (r.1.take r.2).bind fun s => (chg i (m s.1) s.2).bind fun e => some (.nx, e) else none
theorem sem_app {i : Nat} {t : TE} {q : Bool} {f : FE} (h : Sem mg K (LV mg K) t q f) : SemS mg K (tDrop (tBM K "list" rAppend (tVar i) (tCons t tNil))) (sMeth i appD f) := by
  intro E F env σ H c env' r e Dn k
  unfold sMeth at e
  split at e
  · rename_i hi
    obtain ⟨⟨x, e1⟩, h1, e⟩ := Option.bind_eq_some_iff.mp e
    obtain ⟨⟨d, e2⟩, h2, e⟩ := Option.bind_eq_some_iff.mp e
    obtain ⟨e3, h3, e⟩ := Option.bind_eq_some_iff.mp e
    cases e
    obtain ⟨a, vs, p1, p2⟩ := isLst_ok r hi
    refine ⟨_, p1, .inl ⟨rfl, vs, SqL.of p2⟩, ?_⟩
    refine h E F env σ H x e1 r h1 _ fun F1 H1 v l1 r1 lv q1 => ?_
    obtain ⟨F2, l2, r2, z⟩ := r1.take lv h2
    obtain ⟨b, o, dd, d', w1, w2, w3, w4, w5⟩ := chg_ok r2 h3
    rw [p1] at w1
    cases w1
    unfold appD at w4
    split at w4
    · rename_i ds
      split at w4
      · rename_i hz
        cases w4
        rcases w3 with ⟨us, es, q1, q2, q3⟩ | ⟨us, es, q1, q2, q3⟩ | ⟨us, es, q1, q2, q3⟩
        · cases q2
          subst q1
          exact ⟨a, us, v, rfl, rfl, w2, lt_size (by rw [q3.len]; exact hz), k F2 σ _ (l1.trans l2) (w5 _ (.inl ⟨_, _, rfl, rfl, q3.append (.one z)⟩))⟩
        · cases q2
        · cases q2
      · cases w4
    · cases w4
  · cases e
theorem sem_ext {i : Nat} {t : TE} {q : Bool} {f : FE} (h : Sem mg K (LV mg K) t q f) : SemS mg K (tDrop (tBM K "list" rExtend (tVar i) (tCons t tNil))) (sMeth i extD f) := by
  intro E F env σ H c env' r e Dn k
  unfold sMeth at e
  split at e
  · rename_i hi
    obtain ⟨⟨x, e1⟩, h1, e⟩ := Option.bind_eq_some_iff.mp e
    obtain ⟨⟨d, e2⟩, h2, e⟩ := Option.bind_eq_some_iff.mp e
    obtain ⟨e3, h3, e⟩ := Option.bind_eq_some_iff.mp e
    cases e
    obtain ⟨a, vs, p1, p2⟩ := isLst_ok r hi
    refine ⟨_, p1, .inl ⟨rfl, vs, SqL.of p2⟩, ?_⟩
    refine h E F env σ H x e1 r h1 _ fun F1 H1 v l1 r1 lv q1 => ?_
    obtain ⟨F2, l2, r2, z⟩ := r1.take lv h2
    obtain ⟨b, o, dd, d', w1, w2, w3, w4, w5⟩ := chg_ok r2 h3
    rw [p1] at w1
    cases w1
    cases dd with
    | list ds =>
      cases d with
      | list es =>
        have w6 : (if ds.length + es.length ≤ big then some (.list (ds ++ es)) else none) = some d' := w4
        split at w6
        · rename_i hz
          cases w6
          obtain ⟨b, ws, rfl, z1, z2⟩ := (Vw.fz (H := H1) z).lst r2.sub
          rcases w3 with ⟨us, es', q1, q2, q3⟩ | ⟨us, es', q1, q2, q3⟩ | ⟨us, es', q1, q2, q3⟩
          · cases q2
            subst q1
            exact ⟨a, b, us, ws, rfl, rfl, w2, z1, le_size (by rw [q3.len, z2.len]; exact hz), k F2 σ _ (l1.trans l2) (w5 _ (.inl ⟨_, _, rfl, rfl, q3.append z2⟩))⟩
          · cases q2
          · cases q2
        · cases w6
      | _ => cases w4
    | _ => cases w4
  · cases e

/-! ### o[i] = v -/
/-- d[k] = v by values -/
def rSetK : TSet := fun o i v H Q => ∃ a H', o = .ref a ∧ DPut H a i v H' ∧ Q H'
theorem set_dict {X : Cx} (hu : X.A.units + 1 < cLine) : PSet X rSetK := by
  intro pins s σ H o i v ov iv u Q I ro ri rv h
  obtain ⟨a, H', rfl, g, q⟩ := h
  cases ro
  exact d_setItem hu I g ri rv fun s' I' => ⟨H', I', q⟩
def rSetA : TSet := fun o i v H Q => rSetL o i v H Q ∨ rSetK o i v H Q
theorem set_any {X : Cx} (hu : X.A.units + 1 < cLine) : PSet X rSetA := by
  intro pins s σ H o i v ov iv u Q I ro ri rv h
  rcases h with h | h
  · exact set_list pins s σ H o i v ov iv u Q I ro ri rv h
  · exact set_dict hu pins s σ H o i v ov iv u Q I ro ri rv h
def putD (k d : D) : D → Option D
  | .list ds => match k with
    | .int n => (ixN ds.length n).map fun j => .list (ds.set j d)
    | _ => none
  | .dict l => if fits l k = true ∧ l.length < big then some (.dict (dput l k d)) else none
  | _ => none
theorem FzK.any {F : Hp} {kvs : List (Key × V)} {l : List (D × D)} (h : FzK mg K F kvs l) (k : Key) : (l.any fun p => PyData.eqv p.1 (kD k)) = kvs.any fun p => decide (p.1 = k) := by
  have all : ∀ {kvs : List (Key × V)} {l : List (D × D)}, FzK mg K F kvs l → (l.any fun p => PyData.eqv p.1 (kD k)) = kvs.any fun p => decide (p.1 = k) := by
    intro kvs
    induction kvs with
    | nil => intro l h; cases h; rfl
    | cons p r ih =>
      intro l h
      cases h with
      | cons h t => rw [List.any_cons, List.any_cons, ih t, eqv_kD]
  exact all h
theorem FzK.put {F : Hp} {v : V} {d : D} (hz : Fz mg K F v d) {kvs : List (Key × V)} {l : List (D × D)} (h : FzK mg K F kvs l) (k : Key) : FzK mg K F (putK kvs k v) (dput l (kD k) d) := by
  have mp : ∀ {kvs : List (Key × V)} {l : List (D × D)}, FzK mg K F kvs l → FzK mg K F (kvs.map fun kv => if kv.1 = k then (kv.1, v) else kv) (l.map fun p => if PyData.eqv p.1 (kD k) then (p.1, d) else p) := by
    intro kvs
    induction kvs with
    | nil => intro l h; cases h; exact .nil
    | cons p r ih =>
      intro l h
      cases h with
      | cons h t =>
        rename_i j w dd ds
        rw [List.map_cons, List.map_cons]
        rw [eqv_kD]
        by_cases e : j = k
        · rw [if_pos (show (j, w).1 = k from e), if_pos (decide_eq_true e)]; exact .cons hz (ih t)
        · rw [if_neg (show ¬ (j, w).1 = k from e), if_neg (by rw [decide_eq_false e]; exact Bool.false_ne_true)]; exact .cons h (ih t)
  have ap : ∀ {kvs : List (Key × V)} {l : List (D × D)}, FzK mg K F kvs l → FzK mg K F (kvs ++ [(k, v)]) (l ++ [(kD k, d)]) := by
    intro kvs
    induction kvs with
    | nil => intro l h; cases h; exact .cons hz .nil
    | cons p r ih =>
      intro l h
      cases h with
      | cons h t => exact .cons h (ih t)
  unfold putK dput
  rw [h.any k]
  split
  · exact mp h
  · exact ap h
theorem FzT.any {F : Hp} {kvs : List (List Key × V)} {l : List (D × D)} (h : FzT mg K F kvs l) (k : List Key) : (l.any fun p => PyData.eqv p.1 (kT k)) = kvs.any fun p => decide (p.1 = k) := by
  have all : ∀ {kvs : List (List Key × V)} {l : List (D × D)}, FzT mg K F kvs l → (l.any fun p => PyData.eqv p.1 (kT k)) = kvs.any fun p => decide (p.1 = k) := by
    intro kvs
    induction kvs with
    | nil => intro l h; cases h; rfl
    | cons p r ih =>
      intro l h
      cases h with
      | cons h t =>
        rw [List.any_cons, List.any_cons, ih t]
        exact congrArg (· || _) (eqv_kT _ k)
  exact all h
theorem FzT.put {F : Hp} {v : V} {d : D} (hz : Fz mg K F v d) {kvs : List (List Key × V)} {l : List (D × D)} (h : FzT mg K F kvs l) (k : List Key) : FzT mg K F (putK kvs k v) (dput l (kT k) d) := by
  have mp : ∀ {kvs : List (List Key × V)} {l : List (D × D)}, FzT mg K F kvs l → FzT mg K F (kvs.map fun kv => if kv.1 = k then (kv.1, v) else kv) (l.map fun p => if PyData.eqv p.1 (kT k) then (p.1, d) else p) := by
    intro kvs
    induction kvs with
    | nil => intro l h; cases h; exact .nil
    | cons p r ih =>
      intro l h
      cases h with
      | cons h t =>
        rename_i j w dd ds
        rw [List.map_cons, List.map_cons]
        have q : PyData.eqv (.tuple (j.map kD)) (kT k) = decide (j = k) := eqv_kT j k
        rw [q]
        by_cases e : j = k
        · rw [if_pos (show (j, w).1 = k from e), if_pos (decide_eq_true e)]; exact .cons hz (ih t)
        · rw [if_neg (show ¬ (j, w).1 = k from e), if_neg (by rw [decide_eq_false e]; exact Bool.false_ne_true)]; exact .cons h (ih t)
  have ap : ∀ {kvs : List (List Key × V)} {l : List (D × D)}, FzT mg K F kvs l → FzT mg K F (kvs ++ [(k, v)]) (l ++ [(kT k, d)]) := by
    intro kvs
    induction kvs with
    | nil => intro l h; cases h; exact .cons hz .nil
    | cons p r ih =>
      intro l h
      cases h with
      | cons h t => exact .cons h (ih t)
  unfold putK dput
  rw [h.any k]
  split
  · exact mp h
  · exact ap h
theorem dput_mk (l : List (D × D)) (k : List Key) (d : D) : dput (mkT :: l) (kT k) d = mkT :: dput l (kT k) d := by
  unfold dput
  have q : PyData.eqv mkT.1 (kT k) = false := by simp [mkT, kT, PyData.eqv]
  rw [List.any_cons, q, Bool.false_or]
  split
  · rw [List.map_cons, q]; rfl
  · rfl
/-- the slot holds an object of its own -/
def hasR (env : Ev) (i : Nat) : Bool := match env[i]? with
  | some (some x) => match x.sh with
    | .fz => false
    | _ => true
  | _ => false
theorem hasR_ok {E : Ent} {F H : Hp} {env : Ev} {σ : L2.St} {i : Nat} (r : R mg K E F env σ H) (h : hasR env i = true) : ∃ a, σ[i]? = some (some (.ref a)) := by
  unfold hasR at h
  split at h
  · rename_i x e
    obtain ⟨fps, h1, _, _⟩ := r.slots
    obtain ⟨v, e1, e2⟩ := h1 i x e
    split at h
    · cases h
    · rename_i hn
      cases hs : x.sh with
      | fz => exact absurd hs hn
      | L s =>
        rw [hs] at e2
        obtain ⟨a, vs, ds, g, q1, _⟩ := e2
        subst q1
        exact ⟨a, e1⟩
      | M s =>
        rw [hs] at e2
        obtain ⟨a, vs, ds, q1, _⟩ := e2
        subst q1
        exact ⟨a, e1⟩
  · cases h
/-- value, then the slot, then the index -/
def sPut (i : Nat) (fi fv : FE) : FS := fun env => (fv env).bind fun r => (r.1.take r.2).bind fun s => if hasR s.2 i = true then (fi s.2).bind fun y => (y.1.read y.2).bind fun k => (chg i (putD k s.1) y.2).bind fun e => some (.nx, e) else none
theorem sem_put {i : Nat} {ti tv : TE} {q q' : Bool} {fi fv : FE} (hi : Sem mg K (LV mg K) ti q fi) (hv : Sem mg K (LV mg K) tv q' fv) : SemS mg K (tAsg tv (gSub (tVar i) ti rSetA)) (sPut i fi fv) := by
  intro E F env σ H c env' r e Dn k
  unfold sPut at e
  obtain ⟨⟨x, e1⟩, h1, e⟩ := Option.bind_eq_some_iff.mp e
  obtain ⟨⟨d, e2⟩, h2, e⟩ := Option.bind_eq_some_iff.mp e
  split at e
  case isFalse => cases e
  rename_i hR
  obtain ⟨⟨y, e3⟩, h3, e⟩ := Option.bind_eq_some_iff.mp e
  obtain ⟨kk, h4, e⟩ := Option.bind_eq_some_iff.mp e
  obtain ⟨e4, h5, e⟩ := Option.bind_eq_some_iff.mp e
  cases e
  refine hv E F env σ H x e1 r h1 _ fun F1 H1 v l1 r1 lv q1 => ?_
  obtain ⟨F2, l2, r2, z⟩ := r1.take lv h2
  obtain ⟨a, p1⟩ := hasR_ok r2 hR
  refine ⟨_, p1, ?_⟩
  refine hi E F2 e2 σ H1 y e3 r2 h3 _ fun F3 H3 w l3 r3 lw q3 => ?_
  have vk := r3.view lw h4
  obtain ⟨b, o, dd, d', w1, w2, w3, w4, w5⟩ := chg_ok r3 h5
  rw [p1] at w1
  cases w1
  have z3 := z.mono l3
  have fin : ∀ {o'}, ItO mg K F3 o' d' → Dn.nx σ (upd H3 a o') := fun h => k F3 σ _ ((l1.trans l2).trans l3) (w5 _ h)
  unfold putD at w4
  split at w4
  · rename_i ds
    split at w4
    · rename_i n
      obtain ⟨j, j1, j2⟩ := Option.map_eq_some_iff.mp w4
      subst j2
      rcases w3 with ⟨us, es, q1, q2, q3⟩ | ⟨us, es, q1, q2, q3⟩ | ⟨us, es, q1, q2, q3⟩
      · cases q2
        subst q1
        exact .inl ⟨a, us, n, j, rfl, vk.int, w2, by rw [q3.len]; exact j1, fin (.inl ⟨_, _, rfl, rfl, q3.set z3 j⟩)⟩
      · cases q2
      · cases q2
    · cases w4
  · rename_i l
    split at w4
    · rename_i hf
      cases w4
      have vw : Vw mg K F3 H3 (.ref a) (.dict l) := .inr ⟨a, o, rfl, w2, w3⟩
      obtain ⟨a', ea, kd⟩ := vw.kdict r3.sub vk hf.1
      cases ea
      cases kd with
      | k kvs ky c1 c2 c3 c4 =>
        subst c3 c4
        rw [w2] at c1
        cases c1
        exact .inr ⟨a, _, rfl, DPut.k w2 (lt_size (by rw [c2.len]; exact hf.2)), fin (.inr (.inl ⟨_, _, rfl, rfl, c2.put z3 ky⟩))⟩
      | t kvs l' ky bb c0 c1 c2 c3 c4 c5 =>
        subst c0 c3 c5
        rw [w2] at c1
        cases c1
        refine .inr ⟨a, _, rfl, DPut.t w2 c4 (lt_size ?_), fin (.inr (.inr ⟨_, _, rfl, ?_, c2.put z3 ky⟩))⟩
        · have : kvs.length = l'.length := by
            have all : ∀ {kvs : List (List Key × V)} {l : List (D × D)}, FzT mg K F3 kvs l → kvs.length = l.length := by
              intro kvs
              induction kvs with
              | nil => intro l h; cases h; rfl
              | cons p r ih =>
                intro l h
                cases h with
                | cons h t => rw [List.length_cons, List.length_cons, ih t]
            exact all c2
          have h2 := hf.2
          rw [List.length_cons] at h2
          omega
        · rw [dput_mk]
    · cases w4
  · cases w4
end
end FL

set_option maxHeartbeats 2000000
/-! FL11: what is walked; for, while. -/
namespace FL
open PySem PySem.Spec L2

section
variable (mg : Str → Option Value) (K : PySem.W.Frag)
/-- an iterator that gives these, while the frozen part stands -/
structure Wk (F : Hp) (J : It) (ds : List D) : Prop where
  go : ∀ i H, i < ds.length → Le F H → J.go i H
  stop : ∀ H, Le F H → J.stop ds.length H
  yld : ∀ i F1 H x H', i < ds.length → Le F F1 → Le F1 H → J.yld i H x H' → ∃ d F2, ds[i]? = some d ∧ Grow F1 H F2 H' ∧ Fz mg K F2 x d
def SemI (wi : TI) (q : Bool) (f : Ev → Option (List D × Ev)) : Prop := ∀ (E : Ent) (F : Hp) (env : Ev) (σ : L2.St) (H : Hp) (ds : List D) (env' : Ev), R mg K E F env σ H → f env = some (ds, env') → ∀ Rr : It → Hp → Prop,
  (∀ F' H' J, Le F F' → R mg K E F' env' σ H' → Wk mg K F' J ds → (q = true → env' = env ∧ Grow F H F' H') → Rr J H') → wi σ H Rr
end
structure SI (X : Cx) (tg iter : Expr) (wi : TI) (q : Bool) (f : Ev → Option (List D × Ev)) : Prop where
  pi : PI X tg iter wi
  sem : SemI X.mg X.K wi q f

def iSeqA (K : PySem.W.Frag) (tl : TE) : TI := fun σ H R => iList K tl σ H R ∨ iTup K tl σ H R
theorem PI.or {X : Cx} {tg iter : Expr} {w1 w2 : TI} (h1 : PI X tg iter w1) (h2 : PI X tg iter w2) : PI X tg iter (fun σ H R => w1 σ H R ∨ w2 σ H R) :=
  ⟨fun pins s σ H R I q => by
    rcases q with q | q
    · exact h1.run pins s σ H R I q
    · exact h2.run pins s σ H R I q⟩
/-- the items of a list or tuple, frozen -/
def iSq (f : FE) : Ev → Option (List D × Ev) := fun env => (f env).bind fun r => (r.1.take r.2).bind fun s => match norm s.1 with
  | .list ds => some (ds, s.2)
  | .tuple ds => some (ds, s.2)
  | _ => none
/-- .. where it is no slot -/
def iSqQ (f : FE) : Ev → Option (List D × Ev) := fun env => (f env).bind fun r => match r.1 with
  | .c d => match norm d with
    | .list ds => some (ds, r.2)
    | .tuple ds => some (ds, r.2)
    | _ => none
  | _ => none
def intRange (lo : Int) (n : Nat) : List D := (List.range n).map fun i : Nat => PyData.int (lo + i)
def rgOk (i : Int) : Bool := decide (-(2 ^ 62) ≤ i) && decide (i < 2 ^ 62)
def iR1 (a : FA) : Ev → Option (List D × Ev) := fun env => (a env).bind fun r => (rdA r.2 r.1).bind fun ds => match ds with
  | [.int j] => if rgOk j = true then some (intRange 0 j.toNat, r.2) else none
  | _ => none
def iR2 (a : FA) : Ev → Option (List D × Ev) := fun env => (a env).bind fun r => (rdA r.2 r.1).bind fun ds => match ds with
  | [.int i, .int j] => if rgOk i = true ∧ rgOk j = true then some (intRange i (j - i).toNat, r.2) else none
  | _ => none
section
variable {mg : Str → Option Value} {K : PySem.W.Frag} {F H : Hp}
theorem wk_list {a : Addr} {vs : List V} {ds : List D} (h : SqL K F a vs) (z : FzA mg K F vs ds) : Wk mg K F (Itl K a) ds where
  go := fun i H hi l => by
    rw [← z.len] at hi
    exact ⟨vs, vs[i], l.lst h, by simp [hi]⟩
  stop := fun H l => ⟨vs, l.lst h, by rw [z.len]; exact Nat.le_refl _⟩
  yld := fun i F1 H x H' hi l l1 y => by
    obtain ⟨d, e1, e2⟩ := z.of_get (y.2 vs ((l.trans l1).lst h))
    exact ⟨d, F1, e1, by rw [y.1]; exact .refl l1, e2.mono l⟩
theorem wk_tup {a : Addr} {vs : List V} {ds : List D} (h : SqT K F a vs) (z : FzA mg K F vs ds) : Wk mg K F (Itt K a) ds where
  go := fun i H hi l => by
    rw [← z.len] at hi
    exact ⟨vs, vs[i], l.tup h, by simp [hi]⟩
  stop := fun H l => ⟨vs, l.tup h, by rw [z.len]; exact Nat.le_refl _⟩
  yld := fun i F1 H x H' hi l l1 y => by
    obtain ⟨d, e1, e2⟩ := z.of_get (y.2 vs ((l.trans l1).tup h))
    exact ⟨d, F1, e1, by rw [y.1]; exact .refl l1, e2.mono l⟩
theorem wk_range {lo : Int} {n : Nat} : Wk mg K F (Itr lo n) (intRange lo n) where
  go := fun i H hi _ => by
    unfold intRange at hi
    rw [List.length_map, List.length_range] at hi
    exact hi
  stop := fun H _ => by
    unfold intRange
    rw [List.length_map, List.length_range]
    exact Nat.le_refl _
  yld := fun i F1 H x H' hi l l1 y => by
    unfold intRange at hi
    rw [List.length_map, List.length_range] at hi
    refine ⟨.int (lo + i), F1, ?_, by rw [y.1]; exact .refl l1, by rw [y.2]; exact .int _⟩
    unfold intRange
    rw [List.getElem?_map, List.getElem?_range hi]
    rfl
theorem fz_seq {v : V} {d : D} {ds : List D} (z : Fz mg K F v d) (h : norm d = .list ds ∨ norm d = .tuple ds) : ∃ a vs, v = .ref a ∧ (SqL K F a vs ∨ SqT K F a vs) ∧ FzA mg K F vs ds := seq_cases (.refl F) (Vw.fz z) h
theorem semi_seq {t : TE} {q : Bool} {f : FE} (h : Sem mg K (LV mg K) t q f) : SemI mg K (iSeqA K t) false (iSq f) := by
  intro E F env σ H ds env' r e Rr k
  unfold iSq at e
  obtain ⟨⟨x, e1⟩, h1, e⟩ := Option.bind_eq_some_iff.mp e
  obtain ⟨⟨d, e2⟩, h2, e⟩ := Option.bind_eq_some_iff.mp e
  have key : norm d = .list ds ∨ norm d = .tuple ds := by
    dsimp only at e
    split at e
    · rename_i ds' q; cases e; exact .inl q
    · rename_i ds' q; cases e; exact .inr q
    · cases e
  have env2 : e2 = env' := by
    dsimp only at e
    split at e <;> cases e <;> rfl
  subst env2
  have fin : ∀ (P : V → Hp → Prop), (∀ F1 F2 H1 v, Le F F1 → R mg K E F1 e1 σ H1 → Le F1 F2 → R mg K E F2 e2 σ H1 → Fz mg K F2 v d → P v H1) → t σ H P := fun P kk =>
    h E F env σ H x e1 r h1 _ fun F1 H1 v l1 r1 lv q1 => by
      obtain ⟨F2, l2, r2, z⟩ := r1.take lv h2
      exact kk F1 F2 H1 v l1 r1 l2 r2 z
  rcases norm_cases d with ⟨ns, rfl, e3⟩ | ⟨ns, rfl, e3⟩ | e3
  · refine .inl (fin _ fun F1 F2 H1 v l1 r1 l2 r2 z => ?_)
    obtain ⟨a, vs, rfl, hh, zz⟩ := fz_seq z key
    rcases key with key | key
    · obtain ⟨a', ms, ea, rfl, sq⟩ := (Vw.fz (H := F2) z).scr (.refl _)
      cases ea
      rw [key] at e3; cases e3
      exact ⟨a, rfl, ⟨_, r2.sub.lst sq⟩, k F2 H1 _ (l1.trans l2) r2 (wk_list sq (FzA.ints ms)) fun z => nomatch z⟩
    · rw [key] at e3; cases e3
  · refine .inr (fin _ fun F1 F2 H1 v l1 r1 l2 r2 z => ?_)
    rcases key with key | key
    · rw [key] at e3; cases e3
    · obtain ⟨a, vs, ea, sq, zz⟩ := (Vw.fz (H := F2) z).wt (.refl _)
      rw [key] at e3; cases e3
      exact ⟨a, ea, ⟨_, r2.sub.tup sq⟩, k F2 H1 _ (l1.trans l2) r2 (wk_tup sq zz) fun z => nomatch z⟩
  · rw [e3] at key
    rcases key with rfl | rfl
    · refine .inl (fin _ fun F1 F2 H1 v l1 r1 l2 r2 z => ?_)
      cases z with
      | lst q zz => exact ⟨_, rfl, ⟨_, SqL.of (r2.sub _ _ q)⟩, k F2 H1 _ (l1.trans l2) r2 (wk_list (SqL.of q) zz) fun z => nomatch z⟩
    · refine .inr (fin _ fun F1 F2 H1 v l1 r1 l2 r2 z => ?_)
      cases z with
      | tup q zz => exact ⟨_, rfl, ⟨_, SqT.of (r2.sub _ _ q)⟩, k F2 H1 _ (l1.trans l2) r2 (wk_tup (SqT.of q) zz) fun z => nomatch z⟩
theorem semi_seqQ {t : TE} {q : Bool} {f : FE} (h : Sem mg K (LV mg K) t q f) : SemI mg K (iSeqA K t) q (iSqQ f) := by
  intro E F env σ H ds env' r e Rr k
  unfold iSqQ at e
  obtain ⟨⟨x, e1⟩, h1, e⟩ := Option.bind_eq_some_iff.mp e
  dsimp only at e
  cases x with
  | s i => cases e
  | c d =>
  dsimp only at e
  have key : norm d = .list ds ∨ norm d = .tuple ds := by
    split at e
    · rename_i ds' q; cases e; exact .inl q
    · rename_i ds' q; cases e; exact .inr q
    · cases e
  have env2 : e1 = env' := by
    split at e <;> cases e <;> rfl
  subst env2
  rcases norm_cases d with ⟨ns, rfl, e3⟩ | ⟨ns, rfl, e3⟩ | e3
  · refine .inl (h E F env σ H _ e1 r h1 _ fun F1 H1 v l1 r1 z q1 => ?_)
    rcases key with key | key
    · obtain ⟨a', ms, ea, rfl, sq⟩ := (Vw.fz (H := F1) z).scr (.refl _)
      rw [key] at e3; cases e3
      exact ⟨a', ea, ⟨_, r1.sub.lst sq⟩, k F1 H1 _ l1 r1 (wk_list sq (FzA.ints ms)) q1⟩
    · rw [key] at e3; cases e3
  · refine .inr (h E F env σ H _ e1 r h1 _ fun F1 H1 v l1 r1 z q1 => ?_)
    rcases key with key | key
    · rw [key] at e3; cases e3
    · obtain ⟨a, vs, ea, sq, zz⟩ := (Vw.fz (H := F1) z).wt (.refl _)
      rw [key] at e3; cases e3
      exact ⟨a, ea, ⟨_, r1.sub.tup sq⟩, k F1 H1 _ l1 r1 (wk_tup sq zz) q1⟩
  · rw [e3] at key
    rcases key with rfl | rfl
    · refine .inl (h E F env σ H _ e1 r h1 _ fun F1 H1 v l1 r1 z q1 => ?_)
      cases (show Fz mg K F1 v _ from z) with
      | lst q zz => exact ⟨_, rfl, ⟨_, SqL.of (r1.sub _ _ q)⟩, k F1 H1 _ l1 r1 (wk_list (SqL.of q) zz) q1⟩
    · refine .inr (h E F env σ H _ e1 r h1 _ fun F1 H1 v l1 r1 z q1 => ?_)
      cases (show Fz mg K F1 v _ from z) with
      | tup q zz => exact ⟨_, rfl, ⟨_, SqT.of (r1.sub _ _ q)⟩, k F1 H1 _ l1 r1 (wk_tup (SqT.of q) zz) q1⟩
theorem rgOk_ok {i : Int} (h : rgOk i = true) : -(2 ^ 62) ≤ i ∧ i < 2 ^ 62 := by
  unfold rgOk at h
  rw [Bool.and_eq_true] at h
  exact ⟨of_decide_eq_true h.1, of_decide_eq_true h.2⟩
theorem semi_range1 {ta : TA} {q : Bool} {f : FA} (h : Sem mg K (LVA mg K) ta q f) : SemI mg K (iRng1 ta) q (iR1 f) := by
  intro E F env σ H ds env' r e Rr k
  unfold iR1 at e
  obtain ⟨⟨x, e1⟩, h1, e⟩ := Option.bind_eq_some_iff.mp e
  obtain ⟨es, h2, e⟩ := Option.bind_eq_some_iff.mp e
  dsimp only at e
  split at e
  · split at e
    · rename_i j hj
      cases e
      refine h E F env σ H x _ r h1 _ fun F1 H1 vs l1 r1 lv q1 => ?_
      obtain ⟨v, rfl, vv⟩ := (r1.views lv h2).one
      obtain ⟨b1, b2⟩ := rgOk_ok hj
      exact ⟨j, by rw [vv.int], b1, b2, k F1 H1 _ l1 r1 wk_range q1⟩
    · cases e
  · cases e
theorem semi_range2 {ta : TA} {q : Bool} {f : FA} (h : Sem mg K (LVA mg K) ta q f) : SemI mg K (iRng2 ta) q (iR2 f) := by
  intro E F env σ H ds env' r e Rr k
  unfold iR2 at e
  obtain ⟨⟨x, e1⟩, h1, e⟩ := Option.bind_eq_some_iff.mp e
  obtain ⟨es, h2, e⟩ := Option.bind_eq_some_iff.mp e
  dsimp only at e
  split at e
  · split at e
    · rename_i i j hj
      cases e
      refine h E F env σ H x _ r h1 _ fun F1 H1 vs l1 r1 lv q1 => ?_
      obtain ⟨v, w, rfl, vv, vw⟩ := (r1.views lv h2).two
      obtain ⟨b1, b2⟩ := rgOk_ok hj.1
      obtain ⟨b3, b4⟩ := rgOk_ok hj.2
      exact ⟨i, j, by rw [vv.int, vw.int], ⟨b1, b2, b3, b4⟩, k F1 H1 _ l1 r1 wk_range q1⟩
    · cases e
  · cases e

/-! ### for -/
def forD (g : D → Ev → Option Ev) (b : FS) : List D → FS
  | [], env => some (.nx, env)
  | d :: ds, env => (g d env).bind fun e1 => (b e1).bind fun r => match r.1 with
    | .nx => forD g b ds r.2
    | .ct => forD g b ds r.2
    | .bk => some (.nx, r.2)
    | .rt d => some (.rt d, r.2)
def sFor (it : Ev → Option (List D × Ev)) (g : D → Ev → Option Ev) (b : FS) : FS := fun env => (it env).bind fun r => forD g b r.1 r.2
theorem KS.nxOf {E : Ent} {F : Hp} {env' : Ev} {Dn : Ends} (k : KS mg K E F .nx env' Dn) {F' : Hp} {σ' : L2.St} {H' : Hp} (l : Le F F') (r : R mg K E F' env' σ' H') : Dn.nx σ' H' := k F' σ' H' l r
theorem sem_for {wi : TI} {q : Bool} {it : Ev → Option (List D × Ev)} {tg : TG} {is : List Nat} {g : D → Ev → Option Ev} {tb : TS} {b : FS} (hi : SemI mg K wi q it) (hg : SemG mg K tg is g) (hb : SemS mg K tb b) : SemS mg K (tFor wi tg tb) (sFor it g b) := by
  intro E F env σ H c env' r e Dn k
  unfold sFor at e
  obtain ⟨⟨ds, e1⟩, h1, e⟩ := Option.bind_eq_some_iff.mp e
  refine hi E F env σ H ds e1 r h1 _ fun F1 H1 J l1 r1 wk _ => ?_
  refine ⟨fun i m σ2 H2 => m = ds.length - i ∧ i ≤ ds.length ∧ ∃ F2 e2, Le F1 F2 ∧ R mg K E F2 e2 σ2 H2 ∧ forD g b (ds.drop i) e2 = some (c, env'), ⟨ds.length, by simp, Nat.zero_le _, F1, e1, .refl _, r1, by simpa using e⟩, ?_⟩
  rintro i m σ2 H2 ⟨rfl, hile, F2, e2, l2, r2, ef⟩
  by_cases hlt : i < ds.length
  · refine .inr ⟨wk.go i H2 hlt (l2.trans r2.sub), fun σ3 H3 => ∃ F3 e3, Le F1 F3 ∧ R mg K E F3 e3 σ3 H3 ∧ forD g b (ds.drop (i + 1)) e3 = some (c, env'), fun σ3 H3 ⟨F3, e3, l3, r3, ef3⟩ => ⟨ds.length - (i + 1), by omega, rfl, hlt, F3, e3, l3, r3, ef3⟩, ?_⟩
    intro x H3 y
    obtain ⟨d, F3, ed, gr, z⟩ := wk.yld i F2 H2 x H3 hlt l2 r2.sub y
    have hd : ds.drop i = d :: ds.drop (i + 1) := by
      rw [List.drop_eq_getElem_cons hlt]
      rw [List.getElem?_eq_getElem hlt] at ed
      cases ed
      rfl
    rw [hd] at ef
    unfold forD at ef
    obtain ⟨e4, h4, ef⟩ := Option.bind_eq_some_iff.mp ef
    obtain ⟨⟨c5, e5⟩, h5, ef⟩ := Option.bind_eq_some_iff.mp ef
    refine hg.run E F3 e2 σ2 H3 x d e4 (r2.grow gr) z h4 _ fun F4 σ4 H4 l4 r4 _ _ => ?_
    have lt : Le F1 F4 := (l2.trans gr.f).trans l4
    refine hb E F4 e4 σ4 H4 c5 e5 r4 h5 _ ?_
    cases c5 with
    | nx => exact fun F5 σ5 H5 l5 r5 => ⟨F5, e5, lt.trans l5, r5, ef⟩
    | ct => exact fun F5 σ5 H5 l5 r5 => ⟨F5, e5, lt.trans l5, r5, ef⟩
    | bk => cases ef; exact fun F5 σ5 H5 l5 r5 => k.nxOf ((l1.trans lt).trans l5) r5
    | rt d => cases ef; exact fun F5 σ5 H5 v l5 r5 z5 => k F5 σ5 H5 v ((l1.trans lt).trans l5) r5 z5
  · have hi2 : i = ds.length := by omega
    subst hi2
    rw [List.drop_length] at ef
    cases ef
    exact .inl ⟨wk.stop H2 (l2.trans r2.sub), k.nxOf (l1.trans l2) r2⟩

/-! ### while -/
def whD (c : FT) (b : FS) : Nat → FS
  | 0, _ => none
  | n + 1, env => (c env).bind fun r => if r.1 = true then (b r.2).bind fun s => match s.1 with
    | .nx => whD c b n s.2
    | .ct => whD c b n s.2
    | .bk => some (.nx, s.2)
    | .rt d => some (.rt d, s.2) else some (.nx, r.2)
theorem sem_while {tc : TT} {q : Bool} {c : FT} {tb : TS} {b : FS} (n : Nat) (hc : Sem mg K relT tc q c) (hb : SemS mg K tb b) : SemS mg K (tWhile tc tb) (whD c b n) := by
  intro E F env σ H cc env' r e Dn k
  refine ⟨fun m σ2 H2 => ∃ F2 e2, Le F F2 ∧ R mg K E F2 e2 σ2 H2 ∧ whD c b m e2 = some (cc, env'), ⟨n, F, env, .refl _, r, e⟩, ?_⟩
  rintro m σ2 H2 ⟨F2, e2, l2, r2, ew⟩
  cases m with
  | zero => cases ew
  | succ m =>
    unfold whD at ew
    obtain ⟨⟨y, e3⟩, h3, ew⟩ := Option.bind_eq_some_iff.mp ew
    refine hc E F2 e2 σ2 H2 y e3 r2 h3 _ fun F3 H3 v l3 r3 lv q3 => ?_
    rw [show v = y from lv]
    cases y with
    | false => cases ew; exact iteF (k.nxOf (l2.trans l3) r3)
    | true =>
      refine iteT ?_
      obtain ⟨⟨c5, e5⟩, h5, ew⟩ := Option.bind_eq_some_iff.mp (show (b e3).bind _ = _ from ew)
      refine ⟨fun σ5 H5 => ∃ F5 e5, Le F F5 ∧ R mg K E F5 e5 σ5 H5 ∧ whD c b m e5 = some (cc, env'), fun σ5 H5 h => ⟨m, Nat.lt_succ_self m, h⟩, ?_⟩
      have lt := l2.trans l3
      refine hb E F3 e3 σ2 H3 c5 e5 r3 h5 _ ?_
      cases c5 with
      | nx => exact fun F5 σ5 H5 l5 r5 => ⟨F5, e5, lt.trans l5, r5, ew⟩
      | ct => exact fun F5 σ5 H5 l5 r5 => ⟨F5, e5, lt.trans l5, r5, ew⟩
      | bk => cases ew; exact fun F5 σ5 H5 l5 r5 => k.nxOf (lt.trans l5) r5
      | rt d => cases ew; exact fun F5 σ5 H5 v l5 r5 z5 => k F5 σ5 H5 v (lt.trans l5) r5 z5
end
end FL

set_option maxHeartbeats 2000000
/-! FL12: list comprehensions. -/
namespace FL
open PySem PySem.Spec L2

/-- an object that is nobody's, as if it had stood at the entry -/
def Ent.pin (E : Ent) (D : Addr) (o : HO) : Ent := { E with H := upd E.H D o, io := E.io.filter fun b => decide (b ≠ D) }
def unp (H : Hp) (D : Addr) : Hp := fun b => if b = D then none else H b
section
variable {mg : Str → Option Value} {K : PySem.W.Frag} {F F' H H' : Hp} {E : Ent} {env : Ev} {σ : L2.St} {D : Addr} {o : HO}
theorem unp_same : unp H D D = none := by unfold unp; rw [if_pos rfl]
theorem unp_ne {b : Addr} (h : b ≠ D) : unp H D b = H b := by unfold unp; rw [if_neg h]
theorem upd_unp (h : H D = some o) : upd (unp H D) D o = H := by
  funext b
  by_cases q : b = D
  · subst q; rw [upd_same, h]
  · rw [upd_ne q, unp_ne q]
theorem unp_upd (h : H D = none) : unp (upd H D o) D = H := by
  funext b
  by_cases q : b = D
  · subst q; rw [unp_same, h]
  · rw [unp_ne q, upd_ne q]
theorem R.pin (r : R mg K E F env σ H) (h : H D = none) : R mg K (E.pin D o) F env σ (upd H D o) := by
  have r2 := r.grow (Grow.loose r.sub o h)
  have hF : F D = none := r.sub.back h
  obtain ⟨fps, h1, h2, h3⟩ := r.slots
  obtain ⟨n1, n2, n3⟩ : True ∧ True ∧ True := ⟨trivial, trivial, trivial⟩
  have nD : ∀ i b, b ∈ fps i → b ≠ D := fun i b hb z => by subst z; exact (h2 i b hb).1.2 h
  refine ⟨r2.sub, r.base, r.len, fun b u e n => ?_, fun b hb => ?_, fun b hb => ?_, r.ios, fps, fun i x e => ?_, fun i b hb => ⟨⟨(h2 i b hb).1.1, ?_⟩, ?_⟩, h3⟩
  · by_cases q : b = D
    · subst q; exact (show upd E.H b o b = some u from e) ▸ (by rw [upd_same, upd_same])
    · have e' : E.H b = some u := by rw [← upd_ne (H := E.H) (o := o) q]; exact e
      rw [upd_ne q]
      exact r.fr1 b u e' fun z => n (List.mem_filter.mpr ⟨z, decide_eq_true q⟩)
  · by_cases q : b = D
    · subst q; exact absurd hF hb
    · rcases r.fr2 b hb with z | z
      · exact .inl z
      · exact .inr (by show upd E.H D o b = none; rw [upd_ne q]; exact z)
  · by_cases q : b = D
    · subst q; rw [upd_same]; exact Option.some_ne_none _
    · rw [upd_ne q]
      refine r.fr3 b ?_
      have e' : upd E.H D o b = E.H b := upd_ne q
      rw [← e']; exact hb
  · obtain ⟨v, e1, e2⟩ := h1 i x e
    exact ⟨v, e1, e2.keep _ (.refl _) (fun b hb => (h2 i b hb).1.1) fun b hb => upd_ne (nD i b hb)⟩
  · rw [upd_ne (nD i b hb)]; exact (h2 i b hb).1.2
  · rcases (h2 i b hb).2 with z | z
    · exact .inl ⟨List.mem_filter.mpr ⟨z.1, decide_eq_true (nD i b hb)⟩, z.2⟩
    · exact .inr (by show upd E.H D o b = none; rw [upd_ne (nD i b hb)]; exact z)
theorem pin_facts (r : R mg K (E.pin D o) F env σ H) : H D = some o ∧ F D = none ∨ E.F D ≠ none := by
  by_cases hE : E.F D = none
  · refine .inl ⟨r.fr1 D o (by show upd E.H D o D = some o; exact upd_same) (fun z => by have := (List.mem_filter.mp z).2; simp at this), ?_⟩
    cases q : F D with
    | none => rfl
    | some u =>
      rcases r.fr2 D (by rw [q]; exact Option.some_ne_none _) with z | z
      · exact absurd hE z
      · have : upd E.H D o D = none := z
        rw [upd_same] at this; cases this
  · exact .inr hE
/-- it is taken away again -/
theorem R.unpin (r : R mg K (E.pin D o) F env σ H) (hE : E.F D = none) (hH : E.H D = none) : H D = some o ∧ F D = none ∧ R mg K E F env σ (unp H D) := by
  have f : H D = some o ∧ F D = none := by
    rcases pin_facts r with f | f
    · exact f
    · exact absurd hE f
  obtain ⟨fps, h1, h2, h3⟩ := r.slots
  have nD : ∀ i b, b ∈ fps i → b ≠ D := fun i b hb z => by
    subst z
    rcases (h2 i b hb).2 with q | q
    · have := (List.mem_filter.mp q.1).2
      simp at this
    · have q' : upd E.H b o b = none := q
      rw [upd_same] at q'; cases q'
  refine ⟨f.1, f.2, fun b u e => ?_, r.base, r.len, fun b u e n => ?_, fun b hb => ?_, fun b hb => ?_, r.ios, fps, fun i x e => ?_, fun i b hb => ⟨⟨(h2 i b hb).1.1, ?_⟩, ?_⟩, h3⟩
  · have q : b ≠ D := fun z => by subst z; rw [f.2] at e; cases e
    rw [unp_ne q]; exact r.sub b u e
  · have q : b ≠ D := fun z => by subst z; rw [hH] at e; cases e
    rw [unp_ne q]
    exact r.fr1 b u (by show upd E.H D o b = some u; rw [upd_ne q]; exact e) fun z => n (List.mem_filter.mp z).1
  · rcases r.fr2 b hb with z | z
    · exact .inl z
    · refine .inr ?_
      have q : b ≠ D := fun q => by
        subst q
        have z' : upd E.H b o b = none := z
        rw [upd_same] at z'; cases z'
      have z' : upd E.H D o b = none := z
      rw [upd_ne q] at z'; exact z'
  · have q : b ≠ D := fun z => by subst z; exact hb hH
    rw [unp_ne q]
    exact r.fr3 b (by show upd E.H D o b ≠ none; rw [upd_ne q]; exact hb)
  · obtain ⟨v, e1, e2⟩ := h1 i x e
    exact ⟨v, e1, e2.keep _ (.refl _) (fun b hb => (h2 i b hb).1.1) fun b hb => unp_ne (nD i b hb)⟩
  · rw [unp_ne (nD i b hb)]; exact (h2 i b hb).1.2
  · rcases (h2 i b hb).2 with z | z
    · exact .inl ⟨(List.mem_filter.mp z.1).1, z.2⟩
    · have z' : upd E.H D o b = none := z
      rw [upd_ne (nD i b hb)] at z'; exact .inr z'
theorem R.repin (r : R mg K (E.pin D o) F env σ H) (hE : E.F D = none) (hH : E.H D = none) (o' : HO) : R mg K (E.pin D o') F env σ (upd H D o') := by
  obtain ⟨e1, e2, r2⟩ := r.unpin hE hH
  have q := r2.pin (o := o') unp_same
  have e : upd (unp H D) D o' = upd H D o' := by
    funext b
    by_cases q : b = D
    · subst q; rw [upd_same, upd_same]
    · rw [upd_ne q, upd_ne q, unp_ne q]
  rw [e] at q
  exact q
theorem Grow.unpin {H H' : Hp} (g : Grow F H F' H') (e : F D = Option.none) (h : H D ≠ Option.none) : Grow F (unp H D) F' (unp H' D) where
  f := g.f
  h := fun b u q => by
    by_cases z : b = D
    · subst z; rw [unp_same] at q; cases q
    · rw [unp_ne z] at q ⊢; exact g.h b u q
  sub := fun b u q => by
    have z : b ≠ D := fun z => by
      subst z
      rcases g.new b (by rw [q]; exact Option.some_ne_none _) with w | w
      · exact w e
      · exact h w
    rw [unp_ne z]; exact g.sub b u q
  new := fun b hb => by
    rcases g.new b hb with w | w
    · exact .inl w
    · refine .inr ?_
      by_cases z : b = D
      · subst z; exact unp_same
      · rw [unp_ne z]; exact w

/-! ### slots forgotten -/
def wipeE (env : Ev) : List Nat → Ev
  | [] => env
  | v :: vs => (wipeE env vs).set v none
/-- what the forgotten slots held, again -/
def backE (e1 e2 : Ev) : List Nat → Ev
  | [] => e2
  | v :: vs => (backE e1 e2 vs).set v (e1[v]?.join)
def plainAt (env : Ev) (i : Nat) : Bool := match env[i]? with
  | some (some (.fz _)) => true
  | some none => true
  | _ => false
theorem R.clr (r : R mg K E F env σ H) (i : Nat) (w : Option V) : R mg K E F (env.set i Option.none) (σ.set i w) H := by
  obtain ⟨fps, h1, h2, h3⟩ := r.slots
  obtain ⟨fq, q1, q2⟩ : ∃ fq : Nat → List Addr, fq i = [] ∧ ∀ j, j ≠ i → fq j = fps j := ⟨fun j => if j = i then [] else fps j, if_pos rfl, fun j hj => if_neg hj⟩
  have hne : ∀ j x, (env.set i Option.none)[j]? = some (some x) → j ≠ i ∧ env[j]? = some (some x) := fun j x e => by
    have hj : j ≠ i := fun z => by
      subst z
      by_cases hl : j < env.length
      · rw [List.getElem?_set_self hl] at e; cases e
      · rw [List.getElem?_eq_none (by rw [List.length_set]; omega)] at e; cases e
    rw [List.getElem?_set_ne (fun z => hj z.symm)] at e
    exact ⟨hj, e⟩
  refine ⟨r.sub, r.base, by rw [List.length_set, List.length_set]; exact r.len, r.fr1, r.fr2, r.fr3, fun j s d e => ?_, fq, fun j x e => ?_, fun j b hb => ?_, fun j k b hjk hb hb' => ?_⟩
  · obtain ⟨hj, e'⟩ := hne j _ e
    rw [List.getElem?_set_ne (fun z => hj z.symm)]
    exact r.ios j s d e'
  · obtain ⟨hj, e'⟩ := hne j _ e
    rw [List.getElem?_set_ne (fun z => hj z.symm), q2 j hj]
    exact h1 j x e'
  · have hj : j ≠ i := fun z => by rw [z, q1] at hb; cases hb
    rw [q2 j hj] at hb
    refine ⟨(h2 j b hb).1, ?_⟩
    have : ioAt (env.set i Option.none) j = ioAt env j := by
      unfold ioAt
      rw [List.getElem?_set_ne (fun z => hj z.symm)]
    rw [this]
    exact (h2 j b hb).2
  · have hj : j ≠ i := fun z => by rw [z, q1] at hb; cases hb
    have hk : k ≠ i := fun z => by rw [z, q1] at hb'; cases hb'
    rw [q2 j hj] at hb
    rw [q2 k hk] at hb'
    exact h3 j k b hjk hb hb'
theorem R.wipe (r : R mg K E F env σ H) : ∀ vs : List Nat, R mg K E F (wipeE env vs) (L2.wipe σ vs) H
  | [] => r
  | v :: vs => (R.wipe r vs).clr v Option.none
theorem wipe_get {σ : L2.St} {i : Nat} : ∀ {vs : List Nat}, i ∉ vs → (L2.wipe σ vs)[i]? = σ[i]?
  | [], _ => rfl
  | v :: vs, h => by
    unfold L2.wipe
    rw [List.getElem?_set_ne (fun z => h (by rw [z]; exact List.mem_cons_self)), wipe_get fun z => h (List.mem_cons_of_mem _ z)]
/-- a slot is something frozen, or nothing, again -/
theorem R.backAt (r : R mg K E F env σ H) {i : Nat} {x : Option Sl} {w : Option V} (hi : i < env.length) (h0 : env[i]? = some Option.none) (hx : x = Option.none ∨ ∃ d v, x = some (.fz d) ∧ w = some v ∧ Fz mg K F v d) :
    R mg K E F (env.set i x) (σ.set i w) H := by
  rcases hx with rfl | ⟨d, v, rfl, rfl, z⟩
  · exact r.clr i w
  · exact r.setFz (by unfold freeAt; rw [h0]) z
theorem wipeE_len (env : Ev) : ∀ vs : List Nat, (wipeE env vs).length = env.length
  | [] => rfl
  | v :: vs => by unfold wipeE; rw [List.length_set, wipeE_len env vs]
theorem backE_len (e1 e2 : Ev) : ∀ vs : List Nat, (backE e1 e2 vs).length = e2.length
  | [] => rfl
  | v :: vs => by unfold backE; rw [List.length_set, backE_len e1 e2 vs]
theorem backE_get {e1 e2 : Ev} {i : Nat} : ∀ {vs : List Nat}, i ∉ vs → (backE e1 e2 vs)[i]? = e2[i]?
  | [], _ => rfl
  | v :: vs, h => by
    unfold backE
    rw [List.getElem?_set_ne (fun z => h (by rw [z]; exact List.mem_cons_self)), backE_get fun z => h (List.mem_cons_of_mem _ z)]
theorem R.unwipe {F1 H1 : Hp} {e1 e2 : Ev} (r1 : R mg K E F1 e1 σ H1) (l : Le F1 F) : ∀ {vs : List Nat}, vs.Nodup → (∀ i ∈ vs, plainAt e1 i = true) → (∀ i ∈ vs, e2[i]? = some Option.none) → R mg K E F e2 (L2.wipe σ vs) H → R mg K E F (backE e1 e2 vs) σ H := by
  -- from the outside in: the heads of vs are put back last
  have gen : ∀ (vs : List Nat) (σ' : L2.St), vs.Nodup → (∀ i ∈ vs, plainAt e1 i = true) → (∀ i ∈ vs, e2[i]? = some Option.none) → R mg K E F e2 σ' H → σ'.length = σ.length → (∀ i, i ∉ vs → σ'[i]? = σ[i]?) → R mg K E F (backE e1 e2 vs) σ H := by
    intro vs
    induction vs with
    | nil =>
      intro σ' _ _ _ r _ hs
      have : σ' = σ := List.ext_getElem? fun i => hs i (fun z => nomatch z)
      rw [this] at r
      exact r
    | cons v vs ih =>
      intro σ' nd hp hn r hl hs
      have nv := (List.nodup_cons.mp nd).1
      -- the slots vs put back over σ with v still as in σ'
      have hv1 : v < σ.length := by
        have := (List.getElem?_eq_some_iff.mp (hn v List.mem_cons_self)).1
        rw [← hl, r.len]; exact this
      have q : R mg K E F (backE e1 e2 vs) (σ.set v ((σ'[v]?).join)) H := by
        have gen2 : ∀ (vs : List Nat) (σ0 : L2.St), vs.Nodup → (∀ i ∈ vs, plainAt e1 i = true) → (∀ i ∈ vs, e2[i]? = some Option.none) → (∀ i ∈ vs, σ0[i]? = σ[i]?) → σ0.length = σ.length → (∀ σ' : L2.St, R mg K E F e2 σ' H → σ'.length = σ.length → (∀ i, i ∉ vs → σ'[i]? = σ0[i]?) → R mg K E F (backE e1 e2 vs) σ0 H) := by
          intro vs
          induction vs with
          | nil =>
            intro σ0 _ _ _ _ hl0 σ' r hl hs
            have : σ' = σ0 := List.ext_getElem? fun i => hs i (fun z => nomatch z)
            rw [this] at r
            exact r
          | cons v vs ih =>
            intro σ0 nd hp hn h0 hl0 σ' r hl hs
            have nv := (List.nodup_cons.mp nd).1
            have hv1 : v < σ0.length := by
              have := (List.getElem?_eq_some_iff.mp (hn v List.mem_cons_self)).1
              rw [hl0, ← hl, r.len]; exact this
            have q := ih (σ0.set v ((σ'[v]?).join)) (List.nodup_cons.mp nd).2 (fun i hi => hp i (List.mem_cons_of_mem _ hi)) (fun i hi => hn i (List.mem_cons_of_mem _ hi))
              (fun i hi => by
                rw [List.getElem?_set_ne (fun z => nv (by rw [z]; exact hi))]
                exact h0 i (List.mem_cons_of_mem _ hi)) (by rw [List.length_set]; exact hl0) σ' r hl (fun i hi => by
                by_cases z : i = v
                · subst z
                  rw [List.getElem?_set_self hv1]
                  have : i < σ'.length := by rw [hl, ← hl0]; exact hv1
                  rw [List.getElem?_eq_getElem this]
                  rfl
                · rw [List.getElem?_set_ne (fun y => z y.symm)]
                  exact hs i fun y => by
                    rcases List.mem_cons.mp y with y | y
                    · exact z y
                    · exact hi y)
            have hb : (backE e1 e2 vs)[v]? = some Option.none := by rw [backE_get nv]; exact hn v List.mem_cons_self
            have back := q.backAt (i := v) (x := e1[v]?.join) (w := (σ0[v]?).join) (List.getElem?_eq_some_iff.mp hb).1 hb (by
              have hpv := hp v List.mem_cons_self
              unfold plainAt at hpv
              split at hpv
              · rename_i d e
                obtain ⟨w, w1, w2⟩ := r1.val e
                refine .inr ⟨d, w, by rw [e]; rfl, ?_, w2.mono l⟩
                rw [h0 v List.mem_cons_self, w1]; rfl
              · rename_i e
                exact .inl (by rw [e]; rfl)
              · cases hpv)
            have hfin : (σ0.set v ((σ'[v]?).join)).set v ((σ0[v]?).join) = σ0 := by
              rw [List.set_set]
              apply List.ext_getElem?
              intro j
              by_cases hj : v = j
              · subst hj
                rw [List.getElem?_set_self hv1, List.getElem?_eq_getElem hv1]
                rfl
              · rw [List.getElem?_set_ne hj]
            rw [hfin] at back
            exact back
        refine gen2 vs (σ.set v ((σ'[v]?).join)) (List.nodup_cons.mp nd).2 (fun i hi => hp i (List.mem_cons_of_mem _ hi)) (fun i hi => hn i (List.mem_cons_of_mem _ hi)) (fun i hi => List.getElem?_set_ne (fun z => nv (by rw [z]; exact hi))) (by rw [List.length_set]) σ' r hl fun i hi => ?_
        by_cases z : i = v
        · subst z
          rw [List.getElem?_set_self hv1]
          have : i < σ'.length := by rw [hl]; exact hv1
          rw [List.getElem?_eq_getElem this]
          rfl
        · rw [List.getElem?_set_ne (fun y => z y.symm)]
          exact hs i fun y => by
            rcases List.mem_cons.mp y with y | y
            · exact z y
            · exact hi y
      have hb : (backE e1 e2 vs)[v]? = some Option.none := by rw [backE_get nv]; exact hn v List.mem_cons_self
      have back := q.backAt (i := v) (x := e1[v]?.join) (w := (σ[v]?).join) (List.getElem?_eq_some_iff.mp hb).1 hb (by
        have hpv := hp v List.mem_cons_self
        unfold plainAt at hpv
        split at hpv
        · rename_i d e
          obtain ⟨w, w1, w2⟩ := r1.val e
          refine .inr ⟨d, w, by rw [e]; rfl, ?_, w2.mono l⟩
          rw [w1]; rfl
        · rename_i e
          exact .inl (by rw [e]; rfl)
        · cases hpv)
      have hfin : (σ.set v ((σ'[v]?).join)).set v ((σ[v]?).join) = σ := by
        rw [List.set_set]
        apply List.ext_getElem?
        intro j
        by_cases hj : v = j
        · subst hj
          rw [List.getElem?_set_self hv1, List.getElem?_eq_getElem hv1]
          rfl
        · rw [List.getElem?_set_ne hj]
      rw [hfin] at back
      exact back
  intro vs nd hp hn r
  exact gen vs _ nd hp hn r (wipe_length σ vs) fun i hi => wipe_get hi
end
end FL

set_option maxHeartbeats 2000000
/-! FL13: what a list comprehension does. -/
namespace FL
open PySem PySem.Spec L2

def tY : FT := fun env => some (true, env)
def lcD (vs : List Nat) (g : D → Ev → Option Ev) (c : FT) (f : FE) : List D → Ev → Option (List D × Ev)
  | [], env => some ([], wipeE env vs)
  | d :: ds, env => (g d (wipeE env vs)).bind fun e1 => (c e1).bind fun r => if r.1 = true then (f r.2).bind fun x => match x.1 with
      | .c z => (lcD vs g c f ds x.2).bind fun s => some (z :: s.1, s.2)
      | .s _ => none
    else lcD vs g c f ds r.2
def nLc (vs : List Nat) (it : Ev → Option (List D × Ev)) (g : D → Ev → Option Ev) (c : FT) (f : FE) : FN := fun env => (it env).bind fun r =>
  if r.1.length ≤ big ∧ vs.all (plainAt r.2) = true then (lcD vs g c f r.1 r.2).bind fun s => some (.list s.1, backE r.2 s.2 vs) else none
section
variable {mg : Str → Option Value} {K : PySem.W.Frag} {F H : Hp} {E : Ent} {env : Ev} {σ : L2.St}
theorem sem_yes : Sem mg K relT tYes true tY := by
  intro E F env σ H x env' r e Q k
  cases e
  exact k F H true (.refl _) r rfl fun _ => ⟨rfl, .refl r.sub⟩
theorem wipeE_none {env : Ev} : ∀ {vs : List Nat} {i : Nat}, i ∈ vs → i < env.length → (wipeE env vs)[i]? = some none
  | v :: vs, i, h, hl => by
    unfold wipeE
    by_cases z : v = i
    · subst z; rw [List.getElem?_set_self (by rw [wipeE_len]; exact hl)]
    · rw [List.getElem?_set_ne z]
      rcases List.mem_cons.mp h with q | q
      · exact absurd q.symm z
      · exact wipeE_none q hl
theorem wipeE_get {env : Ev} {i : Nat} : ∀ {vs : List Nat}, i ∉ vs → (wipeE env vs)[i]? = env[i]?
  | [], _ => rfl
  | v :: vs, h => by
    unfold wipeE
    rw [List.getElem?_set_ne (fun z => h (by rw [z]; exact List.mem_cons_self)), wipeE_get fun z => h (List.mem_cons_of_mem _ z)]
theorem wipeE_congr {e1 e2 : Ev} {vs : List Nat} (hl : e1.length = e2.length) (h : ∀ i, i ∉ vs → e1[i]? = e2[i]?) : wipeE e1 vs = wipeE e2 vs := by
  apply List.ext_getElem?
  intro i
  by_cases z : i ∈ vs
  · by_cases hi : i < e1.length
    · rw [wipeE_none z hi, wipeE_none z (by omega)]
    · rw [List.getElem?_eq_none (by rw [wipeE_len]; omega), List.getElem?_eq_none (by rw [wipeE_len]; omega)]
  · rw [wipeE_get z, wipeE_get z]; exact h i z
theorem wipe_len (σ : L2.St) : ∀ vs : List Nat, (L2.wipe σ vs).length = σ.length := wipe_length σ
theorem wipe_none {σ : L2.St} : ∀ {vs : List Nat} {i : Nat}, i ∈ vs → i < σ.length → (L2.wipe σ vs)[i]? = some none
  | v :: vs, i, h, hl => by
    unfold L2.wipe
    by_cases z : v = i
    · subst z; rw [List.getElem?_set_self (by rw [wipe_len]; exact hl)]
    · rw [List.getElem?_set_ne z]
      rcases List.mem_cons.mp h with q | q
      · exact absurd q.symm z
      · exact wipe_none q hl
theorem wipe_congr {e1 e2 : L2.St} {vs : List Nat} (hl : e1.length = e2.length) (h : ∀ i, i ∉ vs → e1[i]? = e2[i]?) : L2.wipe e1 vs = L2.wipe e2 vs := by
  apply List.ext_getElem?
  intro i
  by_cases z : i ∈ vs
  · by_cases hi : i < e1.length
    · rw [wipe_none z hi, wipe_none z (by omega)]
    · rw [List.getElem?_eq_none (by rw [wipe_len]; omega), List.getElem?_eq_none (by rw [wipe_len]; omega)]
  · rw [wipe_get z, wipe_get z]; exact h i z
theorem backE_self {e : Ev} : ∀ {vs : List Nat}, (∀ i ∈ vs, plainAt e i = true) → backE e (wipeE e vs) vs = e := by
  intro vs h
  apply List.ext_getElem?
  intro i
  have gen : ∀ {vs : List Nat} {e2 : Ev}, e2.length = e.length → i ∈ vs → i < e.length → (backE e e2 vs)[i]? = some (e[i]?.join) := by
    intro vs
    induction vs with
    | nil => intro e2 _ h; cases h
    | cons v vs ih =>
      intro e2 hl h hi
      unfold backE
      by_cases z : v = i
      · subst z; rw [List.getElem?_set_self (by rw [backE_len]; omega)]
      · rw [List.getElem?_set_ne z]
        rcases List.mem_cons.mp h with q | q
        · exact absurd q.symm z
        · exact ih hl q hi
  by_cases z : i ∈ vs
  · have hp := h i z
    unfold plainAt at hp
    have hi : i < e.length := by
      cases q : e[i]? with
      | none => rw [q] at hp; cases hp
      | some x => exact (List.getElem?_eq_some_iff.mp q).1
    rw [gen (wipeE_len e vs) z hi, List.getElem?_eq_getElem hi]
    rfl
  · rw [backE_get z, wipeE_get z]
theorem getD_none_wipe {env : Ev} {vs : List Nat} (h : ∀ i ∈ vs, plainAt env i = true) {e2 : Ev} (hl : e2.length = env.length) : ∀ i ∈ vs, (wipeE e2 vs)[i]? = some none := fun i hi => by
  have hp := h i hi
  unfold plainAt at hp
  have hi2 : i < env.length := by
    cases q : env[i]? with
    | none => rw [q] at hp; cases hp
    | some x => exact (List.getElem?_eq_some_iff.mp q).1
  exact wipeE_none hi (by omega)
/-- the state within: the comprehension's list at Da is nobody's -/
structure LcS (mg : Str → Option Value) (K : PySem.W.Frag) (E : Ent) (F1 H1 : Hp) (Da : Addr) (vs : List Nat) (σ : L2.St) (e1 : Ev) (q : Bool) (F : Hp) (e : Ev) (H : Hp) (acc : List V) (zs : List D) : Prop where
  r : R mg K (E.pin Da (.lst acc)) F (wipeE e vs) (L2.wipe σ vs) H
  le : Le F1 F
  z : FzA mg K F acc zs
  len : e.length = e1.length
  qu : q = true → wipeE e vs = wipeE e1 vs ∧ Grow F1 H1 F (unp H Da)
theorem sem_lc {wi : TI} {qi qc qf : Bool} {it : Ev → Option (List D × Ev)} {tg : TG} {vs is : List Nat} {g : D → Ev → Option Ev} {tt : TT} {c : FT} {te : TE} {f : FE} (nd : vs.Nodup) (hiv : ∀ i ∈ is, i ∈ vs)
    (hi : SemI mg K wi qi it) (hg : SemG mg K tg is g) (hc : Sem mg K relT tt qc c) (hf : Sem mg K (LV mg K) te qf f) : SemN mg K (tLc wi tg tt te vs) (qi && (qc && qf)) (nLc vs it g c f) := by
  intro E F env σ H d env' r e Q k
  unfold nLc at e
  obtain ⟨⟨ds, e1⟩, h1, e⟩ := Option.bind_eq_some_iff.mp e
  dsimp only at e
  split at e
  case isFalse => cases e
  rename_i hz
  obtain ⟨⟨zs, e2⟩, h2, e⟩ := Option.bind_eq_some_iff.mp e
  cases e
  have hpl : ∀ i ∈ vs, plainAt e1 i = true := List.all_eq_true.mp hz.2
  refine hi E F env σ H ds e1 r h1 _ fun F1 H1 J l1 r1 wk q1 => ?_
  intro Da hDa
  have hFD : F1 Da = none := r1.sub.back hDa
  have hED : E.H Da = none := by
    cases q : E.H Da with
    | none => rfl
    | some o => exact absurd hDa (r1.fr3 Da (by rw [q]; exact Option.some_ne_none _))
  have hEF : E.F Da = none := r1.base.back hFD
  let S := LcS mg K E F1 H1 Da vs σ e1 (qc && qf)
  refine ⟨fun i m H => m = ds.length - i ∧ i ≤ ds.length ∧ ∃ Fi ei acc zi rest ef, S Fi ei H acc zi ∧ acc.length ≤ i ∧ lcD vs g c f (ds.drop i) ei = some (rest, ef) ∧ zs = zi ++ rest ∧ e2 = ef,
    ⟨ds.length, by simp, Nat.zero_le _, F1, e1, [], [], zs, e2, ⟨(r1.pin hDa).wipe vs, .refl _, .nil, rfl, fun _ => ⟨rfl, by rw [unp_upd hDa]; exact .refl r1.sub⟩⟩, Nat.zero_le _, by simpa using h2, rfl, rfl⟩, ?_⟩
  rintro i m H2 ⟨rfl, hile, Fi, ei, acc, zi, rest, ef, st, hacc, ed, rfl, rfl⟩
  obtain ⟨sr, sl, sz, sn, sq⟩ := st
  by_cases hlt : i < ds.length
  · refine .inr ⟨wk.go i H2 hlt (sl.trans sr.sub), fun H3 => ∃ Fi ei acc zj rest', S Fi ei H3 acc zj ∧ acc.length ≤ i + 1 ∧ lcD vs g c f (ds.drop (i + 1)) ei = some (rest', e2) ∧ zi ++ rest = zj ++ rest', fun H3 ⟨Fi, ei, acc, zj, rest', a1, a2, a3, a4⟩ => ⟨ds.length - (i + 1), by omega, rfl, hlt, Fi, ei, acc, zj, rest', e2, a1, a2, a3, a4, rfl⟩, ?_⟩
    intro x H3 y
    obtain ⟨dd, F3, edd, gr, z⟩ := wk.yld i Fi H2 x H3 hlt sl sr.sub y
    have hd : ds.drop i = dd :: ds.drop (i + 1) := by
      rw [List.drop_eq_getElem_cons hlt]
      rw [List.getElem?_eq_getElem hlt] at edd
      cases edd
      rfl
    rw [hd] at ed
    unfold lcD at ed
    obtain ⟨e4, h4, ed⟩ := Option.bind_eq_some_iff.mp ed
    obtain ⟨⟨b, e5⟩, h5, ed⟩ := Option.bind_eq_some_iff.mp ed
    obtain ⟨ge1, ge2⟩ := hg.env _ _ _ h4
    have cg : ∀ {H : Hp} {F : Hp} {e' : Ev} {o : HO}, R mg K (E.pin Da o) F e' (L2.wipe σ vs) H → H Da = some o ∧ F Da = none := fun rr => by
      obtain ⟨a, b, _⟩ := rr.unpin hEF hED
      exact ⟨a, b⟩
    refine hg.run (E.pin Da (.lst acc)) F3 (wipeE ei vs) (L2.wipe σ vs) H3 x dd e4 (sr.grow gr) z h4 _ fun F4 σ4 H4 l4 r4 s4 g4 => ?_
    have hσ4 : L2.wipe σ4 vs = L2.wipe σ vs := by
      refine (wipe_congr (e2 := L2.wipe σ vs) ?_ fun j hj => ?_).trans ?_
      · rw [r4.len, ge2, wipeE_len, sr.len, wipeE_len]
      · exact s4 j fun z => hj (hiv j z)
      · exact wipe_congr (by rw [wipe_len]) fun j hj => wipe_get hj
    have he4 : wipeE e4 vs = wipeE ei vs := by
      refine (wipeE_congr ge2 fun j hj => ge1 j fun z => hj (hiv j z)).trans ?_
      exact wipeE_congr (by rw [wipeE_len]) fun j hj => wipeE_get hj
    refine ⟨hσ4, ?_⟩
    have lt : Le F1 F4 := (sl.trans gr.f).trans l4
    refine hc (E.pin Da (.lst acc)) F4 e4 σ4 H4 b e5 r4 h5 _ fun F5 H5 bb l5 r5 lb q5 => ?_
    rw [show bb = b from lb]
    have un : ∀ {F : Hp} {e' : Ev} {σ' : L2.St} {H : Hp} {o : HO}, R mg K (E.pin Da o) F e' σ' H → H Da = some o ∧ F Da = none := fun rr => by
      obtain ⟨a, b, _⟩ := rr.unpin hEF hED
      exact ⟨a, b⟩
    have nd0 : H2 Da ≠ none := by rw [(un sr).1]; exact Option.some_ne_none _
    have nd4 : H4 Da ≠ none := by rw [(un r4).1]; exact Option.some_ne_none _
    have g24 : Grow Fi (unp H2 Da) F4 (unp H4 Da) := (gr.trans g4).unpin (un sr).2 nd0
    cases b with
    | false =>
      refine iteF ⟨F5, e5, acc, zi, rest, ⟨?_, lt.trans l5, sz.mono ((gr.f.trans l4).trans l5), ?_, fun q => ?_⟩, by omega, ed, rfl⟩
      · rw [← hσ4]; exact r5.wipe vs
      · have a := r5.len
        have b := r4.len
        rw [← a, b, ge2, wipeE_len]; exact sn
      · rw [Bool.and_eq_true] at q
        obtain ⟨p1, p2⟩ := q5 q.1
        obtain ⟨p3, p4⟩ := sq (by rw [q.1, q.2]; rfl)
        subst p1
        exact ⟨he4.trans p3, (p4.trans g24).trans (p2.unpin (un r4).2 nd4)⟩
    | true =>
      refine iteT ?_
      obtain ⟨⟨x6, e6⟩, h6, ed⟩ := Option.bind_eq_some_iff.mp (show (f e5).bind _ = _ from ed)
      dsimp only at ed
      cases x6 with
      | s _ => cases ed
      | c w =>
        obtain ⟨⟨s, es⟩, h7, ed⟩ := Option.bind_eq_some_iff.mp (show (lcD vs g c f (ds.drop (i + 1)) e6).bind _ = _ from ed)
        cases ed
        refine hf (E.pin Da (.lst acc)) F5 e5 σ4 H5 (.c w) e6 r5 h6 _ fun F6 H6 y6 l6 r6 lv6 q6 => ?_
        have hD6 := (un r6).1
        refine ⟨acc, hD6, lt_size (by omega), F6, e6, acc ++ [y6], zi ++ [w], s, ⟨?_, (lt.trans l5).trans l6, (sz.mono (((gr.f.trans l4).trans l5).trans l6)).append (.one lv6), ?_, fun q => ?_⟩, by rw [List.length_append, List.length_singleton]; omega, h7, by rw [List.append_assoc]; rfl⟩
        · have := (r6.repin hEF hED (.lst (acc ++ [y6]))).wipe vs
          rw [hσ4] at this
          exact this
        · have a := r6.len
          have b := r4.len
          rw [← a, b, ge2, wipeE_len]; exact sn
        · rw [Bool.and_eq_true] at q
          obtain ⟨p1, p2⟩ := q5 q.1
          obtain ⟨p5, p6⟩ := q6 q.2
          obtain ⟨p3, p4⟩ := sq (by rw [q.1, q.2]; rfl)
          subst p1
          subst p5
          have nd5 : H5 Da ≠ none := by rw [(un r5).1]; exact Option.some_ne_none _
          have eu : unp (upd H6 Da (.lst (acc ++ [y6]))) Da = unp H6 Da := by
            funext b
            by_cases z : b = Da
            · subst z; rw [unp_same, unp_same]
            · rw [unp_ne z, unp_ne z, upd_ne z]
          refine ⟨he4.trans p3, ?_⟩
          rw [eu]
          exact ((p4.trans g24).trans (p2.unpin (un r4).2 nd4)).trans (p6.unpin (un r5).2 nd5)
  · have hi2 : i = ds.length := by omega
    subst hi2
    rw [List.drop_length] at ed
    cases ed
    refine .inl ⟨wk.stop H2 (sl.trans sr.sub), ?_⟩
    obtain ⟨hD, hF, ru⟩ := sr.unpin hEF hED
    have ru2 : R mg K E Fi (backE e1 (wipeE ei vs) vs) σ (unp H2 Da) := r1.unwipe sl nd hpl (getD_none_wipe hpl sn) ru
    have eH : H2 = upd (unp H2 Da) Da (.lst acc) := (upd_unp hD).symm
    rw [eH]
    refine k Fi (unp H2 Da) Da (.lst acc) (l1.trans sl) ru2 unp_same (.inl ⟨acc, _, rfl, rfl, by rw [List.append_nil]; exact sz⟩) fun q => ?_
    rw [Bool.and_eq_true] at q
    obtain ⟨p1, p2⟩ := q1 q.1
    obtain ⟨p3, p4⟩ := sq q.2
    rw [p3, backE_self hpl]
    exact ⟨p1, p2.trans p4⟩
end
end FL

set_option maxHeartbeats 2000000
/-! FL14: calls of defs; a def's promise. -/
namespace FL
open PySem PySem.Spec L2

/-- a parameter as the callee has it -/
def inSl : Bool → D → Sl
  | false, d => .fz d
  | true, d => .io (shD d) d
def inE : List Bool → List D → Ev
  | b :: bs, d :: ds => some (inSl b d) :: inE bs ds
  | _, _ => []
/-- what is left of the parameters: those that are the caller's -/
def outE : List Bool → List D → Ev
  | false :: bs, ds => none :: outE bs ds
  | true :: bs, d :: ds => some (.io (shD d) d) :: outE bs ds
  | true :: bs, [] => none :: outE bs []
  | [], _ => []
abbrev FF := List D → Option (D × List D)
section
variable (mg : Str → Option Value) (K : PySem.W.Frag)
def spF (io : List Bool) (f : FF) : Sp := fun vs H Q _ => ∃ (E : Ent) (F : Hp) (ds : List D) (d : D) (ds' : List D), vs.length = io.length ∧ ds.length = io.length ∧ E.F = F ∧ E.H = H ∧ E.σ = vs.map some ∧ R mg K E F (inE io ds) (vs.map some) H ∧ f ds = some (d, ds') ∧
  ∀ F' H' v, Le F F' → R mg K E F' (outE io ds') (vs.map some) H' → Fz mg K F' v d → Q v H'
end
/-- the caller's values behind the body -/
def outs (env : Ev) : List Bool → Nat → Option (List D)
  | [], _ => some []
  | false :: bs, i => outs env bs (i + 1)
  | true :: bs, i => match env[i]? with
    | some (some (.io s d)) => if s = shD d then (outs env bs (i + 1)).map fun ds => d :: ds else none
    | _ => none
/-- a def by its body: n slots in all -/
def mkF (n : Nat) (io : List Bool) (b : FS) : FF := fun ds => if ds.length = io.length then (b (inE io ds ++ List.replicate (n - io.length) none)).bind fun r => match r.1 with
  | .nx => (outs r.2 io 0).map fun os => (.none, os)
  | .rt d => (outs r.2 io 0).map fun os => (d, os)
  | _ => none else none
section
variable {mg : Str → Option Value} {K : PySem.W.Frag} {F H : Hp} {E : Ent} {env : Ev} {σ : L2.St}
theorem inE_len : ∀ {io : List Bool} {ds : List D}, ds.length = io.length → (inE io ds).length = io.length
  | [], [], _ => rfl
  | _ :: bs, _ :: ds, h => by
    unfold inE
    rw [List.length_cons, List.length_cons, inE_len (by simpa using h)]
/-- more slots, empty ones -/
theorem R.more (r : R mg K E F env σ H) (n : Nat) (σ' : L2.St) (h1 : ∀ i, i < σ.length → σ'[i]? = σ[i]?) (h2 : σ'.length = σ.length + n) (E' : Ent) (hE : E'.F = E.F ∧ E'.H = E.H ∧ E'.io = E.io) (hs : ∀ i, i < σ.length → E'.σ[i]? = E.σ[i]?) :
    R mg K E' F (env ++ List.replicate n none) σ' H := by
  obtain ⟨EF, EH, Eσ, Eio⟩ := E
  obtain ⟨EF', EH', Eσ', Eio'⟩ := E'
  obtain ⟨rfl, rfl, rfl⟩ := hE
  obtain ⟨fps, a1, a2, a3⟩ := r.slots
  have up : ∀ i x, (env ++ List.replicate n none)[i]? = some (some x) → env[i]? = some (some x) ∧ i < env.length := fun i x e => by
    by_cases hi : i < env.length
    · rw [List.getElem?_append_left hi] at e
      exact ⟨e, hi⟩
    · rw [List.getElem?_append_right (by omega), List.getElem?_replicate] at e
      split at e <;> cases e
  obtain ⟨fq, q1, q2⟩ : ∃ fq : Nat → List Addr, (∀ i, i < env.length → fq i = fps i) ∧ ∀ i, ¬ i < env.length → fq i = [] := ⟨fun i => if i < env.length then fps i else [], fun i h => if_pos h, fun i h => if_neg h⟩
  refine ⟨r.sub, r.base, by rw [h2, List.length_append, List.length_replicate, r.len], r.fr1, r.fr2, r.fr3, fun i s d e => ?_, fq, fun i x e => ?_, fun i b hb => ?_, fun i j b hij hb hb' => ?_⟩
  · obtain ⟨e', hi⟩ := up i _ e
    have hi' : i < σ.length := by rw [r.len]; exact hi
    rw [h1 i hi', hs i hi']
    exact r.ios i s d e'
  · obtain ⟨e', hi⟩ := up i _ e
    rw [h1 i (by rw [r.len]; exact hi), q1 i hi]
    exact a1 i x e'
  · by_cases hi : i < env.length
    · rw [q1 i hi] at hb
      have hio : ioAt (env ++ List.replicate n none) i = ioAt env i := by
        unfold ioAt
        rw [List.getElem?_append_left hi]
      rw [hio]
      exact a2 i b hb
    · rw [q2 i hi] at hb; cases hb
  · by_cases hi : i < env.length
    · rw [q1 i hi] at hb
      by_cases hj : j < env.length
      · rw [q1 j hj] at hb'; exact a3 i j b hij hb hb'
      · rw [q2 j hj] at hb'; cases hb'
    · rw [q2 i hi] at hb; cases hb
/-- a state of which less is known -/
theorem R.less (r : R mg K E F env σ H) {env' : Ev} {σ' : L2.St} {E' : Ent} (hE : E'.F = E.F ∧ E'.H = E.H ∧ E'.io = E.io) (hl : σ'.length = env'.length)
    (h : ∀ (i : Nat) (x : Sl), env'[i]? = some (some x) → env[i]? = some (some x) ∧ σ'[i]? = σ[i]?) (hio : ∀ (i : Nat) (s : Sh) (d : D), env'[i]? = some (some (.io s d)) → E'.σ[i]? = E.σ[i]?) : R mg K E' F env' σ' H := by
  obtain ⟨EF, EH, Eσ, Eio⟩ := E
  obtain ⟨EF', EH', Eσ', Eio'⟩ := E'
  obtain ⟨rfl, rfl, rfl⟩ := hE
  obtain ⟨fps, a1, a2, a3⟩ := r.slots
  have ex : ∃ fq : Nat → List Addr, ∀ i, ((∃ x, env'[i]? = some (some x)) → fq i = fps i) ∧ ((¬ ∃ x, env'[i]? = some (some x)) → fq i = []) := by
    refine ⟨fun i => open Classical in if ∃ x, env'[i]? = some (some x) then fps i else [], fun i => ⟨fun h => if_pos h, fun n => if_neg n⟩⟩
  obtain ⟨fq, hq⟩ := ex
  refine ⟨r.sub, r.base, hl, r.fr1, r.fr2, r.fr3, fun i s d e => ?_, fq, fun i x e => ?_, fun i b hb => ?_, fun i j b hij hb hb' => ?_⟩
  · obtain ⟨e', es⟩ := h i _ e
    rw [es, hio i s d e]
    exact r.ios i s d e'
  · obtain ⟨e', es⟩ := h i x e
    rw [es, (hq i).1 ⟨x, e⟩]
    exact a1 i x e'
  · by_cases hi : ∃ x, env'[i]? = some (some x)
    · rw [(hq i).1 hi] at hb
      obtain ⟨x, e⟩ := hi
      refine ⟨(a2 i b hb).1, ?_⟩
      have : ioAt env' i = ioAt env i := by
        unfold ioAt
        rw [e, (h i x e).1]
      rw [this]
      exact (a2 i b hb).2
    · rw [(hq i).2 hi] at hb; cases hb
  · by_cases hi : ∃ x, env'[i]? = some (some x)
    · rw [(hq i).1 hi] at hb
      by_cases hj : ∃ x, env'[j]? = some (some x)
      · rw [(hq j).1 hj] at hb'; exact a3 i j b hij hb hb'
      · rw [(hq j).2 hj] at hb'; cases hb'
    · rw [(hq i).2 hi] at hb; cases hb
theorem outs_get {env : Ev} : ∀ {io : List Bool} {k : Nat} {os : List D}, outs env io k = some os → ∀ i x, (outE io os)[i]? = some (some x) → env[k + i]? = some (some x)
  | [], _, _, _, i, x, e => by unfold outE at e; simp at e
  | false :: bs, k, os, h, i, x, e => by
    unfold outs at h
    unfold outE at e
    cases i with
    | zero => simp at e
    | succ i =>
      rw [List.getElem?_cons_succ] at e
      have := outs_get h i x e
      rw [show k + (i + 1) = k + 1 + i by omega]
      exact this
  | true :: bs, k, os, h, i, x, e => by
    unfold outs at h
    split at h
    · rename_i s d q
      split at h
      · rename_i hs
        obtain ⟨os', h1, h2⟩ := Option.map_eq_some_iff.mp h
        cases h2
        unfold outE at e
        cases i with
        | zero =>
          rw [List.getElem?_cons_zero] at e
          cases e
          rw [Nat.add_zero, q, hs]
        | succ i =>
          rw [List.getElem?_cons_succ] at e
          have := outs_get h1 i x e
          rw [show k + (i + 1) = k + 1 + i by omega]
          exact this
      · cases h
    · cases h
theorem outE_len : ∀ {io : List Bool} {os : List D}, (outE io os).length = io.length
  | [], _ => by unfold outE; rfl
  | false :: bs, os => by unfold outE; rw [List.length_cons, List.length_cons, outE_len]
  | true :: bs, [] => by unfold outE; rw [List.length_cons, List.length_cons, outE_len]
  | true :: bs, o :: os => by unfold outE; rw [List.length_cons, List.length_cons, outE_len]
theorem start_get {N : List Str} {vs : List V} {i : Nat} (h : i < vs.length) : (L2.start N vs)[i]? = (vs.map some)[i]? := by
  unfold L2.start
  rw [List.getElem?_append_left (by rw [List.length_map]; exact h)]
theorem start_len {N : List Str} {vs : List V} (h : vs.length ≤ N.length) : (L2.start N vs).length = N.length := by
  unfold L2.start
  rw [List.length_append, List.length_map, List.length_replicate]
  omega
/-- from a body's doing to the def's promise: the reading of the body, at the entry -/
theorem body_spF {N : List Str} {io : List Bool} {t : TS} {b : FS} (hb : SemS mg K t b) (hn : io.length ≤ N.length) {vs : List V} {H : Hp} {Q : VK} {EX : XK} (h : spF mg K io (mkF N.length io b) vs H Q EX) :
    t { nx := fun _ H' => Q .non H', rt := Q } (L2.start N vs) H := by
  obtain ⟨E, F, ds, d, ds', hv, hd, hF, hH, hσ, r, hf, k⟩ := h
  unfold mkF at hf
  rw [if_pos hd] at hf
  obtain ⟨⟨c, e1⟩, h1, hf⟩ := Option.bind_eq_some_iff.mp hf
  let E' : Ent := ⟨E.F, E.H, L2.start N vs, E.io⟩
  have hvl : vs.length ≤ N.length := by rw [hv]; exact hn
  have r0 : R mg K E' F (inE io ds ++ List.replicate (N.length - io.length) none) (L2.start N vs) H := r.more (N.length - io.length) (L2.start N vs) (fun i hi => start_get (by rw [List.length_map] at hi; exact hi))
    (by rw [start_len hvl, List.length_map]; omega) E' ⟨rfl, rfl, rfl⟩ (fun i hi => by rw [hσ]; exact start_get (by rw [List.length_map] at hi; exact hi))
  have fin : ∀ {F' : Hp} {σ' : L2.St} {H' : Hp} {v : V} {os : List D}, Le F F' → R mg K E' F' e1 σ' H' → outs e1 io 0 = some os → Fz mg K F' v d → os = ds' → Q v H' := fun {F' σ' H' v os} l r' ho z eo => by
    subst eo
    refine k F' H' v l ?_ z
    refine r'.less ⟨rfl, rfl, rfl⟩ (by rw [outE_len, List.length_map]; exact hv) (fun i x e => ?_) (fun i s dd e => ?_)
    · have q := outs_get ho i x e
      rw [Nat.zero_add] at q
      refine ⟨q, ?_⟩
      have hi : i < vs.length := by
        rw [hv, ← outE_len (io := io) (os := os)]
        exact (List.getElem?_eq_some_iff.mp e).1
      -- the slot is the caller's, so it holds what it held
      have hio : ∃ s d', x = .io s d' := by
        have : ∀ {io : List Bool} {os : List D} {i : Nat} {x : Sl}, (outE io os)[i]? = some (some x) → ∃ s d', x = .io s d' := by
          intro io
          induction io with
          | nil => intro os i x e; unfold outE at e; simp at e
          | cons b bs ih =>
            intro os i x e
            cases b with
            | false =>
              unfold outE at e
              cases i with
              | zero => simp at e
              | succ i => rw [List.getElem?_cons_succ] at e; exact ih e
            | true =>
              cases os with
              | nil =>
                unfold outE at e
                cases i with
                | zero => simp at e
                | succ i => rw [List.getElem?_cons_succ] at e; exact ih e
              | cons o os =>
                unfold outE at e
                cases i with
                | zero => rw [List.getElem?_cons_zero] at e; cases e; exact ⟨_, _, rfl⟩
                | succ i => rw [List.getElem?_cons_succ] at e; exact ih e
        exact this e
      obtain ⟨s, d', rfl⟩ := hio
      rw [r'.ios i s d' q]
      exact (start_get hi).symm
    · have hi : i < vs.length := by
        rw [hv, ← outE_len (io := io) (os := os)]
        exact (List.getElem?_eq_some_iff.mp e).1
      rw [hσ]
      exact (start_get hi).symm
  refine hb E' F _ (L2.start N vs) H c e1 r0 h1 _ ?_
  cases c with
  | nx =>
    obtain ⟨os, o1, o2⟩ := Option.map_eq_some_iff.mp hf
    cases o2
    exact fun F' σ' H' l r' => fin l r' o1 .non rfl
  | rt dd =>
    obtain ⟨os, o1, o2⟩ := Option.map_eq_some_iff.mp hf
    cases o2
    exact fun F' σ' H' v l r' z => fin l r' o1 z rfl
  | bk => cases hf
  | ct => cases hf
theorem spF_len {io : List Bool} {f : FF} {n : Nat} (hn : io.length = n) : ∀ vs H Q EX, spF mg K io f vs H Q EX → vs.length = n := fun vs H Q EX h => by
  obtain ⟨E, F, ds, d, ds', hv, _⟩ := h
  rw [hv, hn]
end
end FL

set_option maxHeartbeats 2000000
/-! FL15: a def is called. -/
namespace FL
open PySem PySem.Spec L2

/-- the arguments' data: those that are handed in for good are taken, the others are read behind the last -/
def argsE : List Bool → List Lz → Ev → Option (List D × Ev)
  | [], xs, env => match xs with
    | [] => some ([], env)
    | _ => none
  | b :: bs, xs, env => match xs with
    | [] => none
    | x :: xs => match b with
      | false => (x.take env).bind fun r => (argsE bs xs r.2).bind fun s => some (r.1 :: s.1, s.2)
      | true => match x with
        | .c _ => none
        | .s j => (argsE bs xs env).bind fun s => match s.2[j]? with
          | some (some y) => if y.sh = shD y.d then some (y.d :: s.1, s.2) else none
          | _ => none
def ioS : List Bool → List Lz → List Nat
  | true :: bs, .s j :: xs => j :: ioS bs xs
  | _ :: bs, _ :: xs => ioS bs xs
  | _, _ => []
def putB : List Bool → List Lz → List D → Ev → Option Ev
  | [], _, _, env => some env
  | b :: bs, xs, ds, env => match xs with
    | [] => none
    | x :: xs => match b with
      | false => putB bs xs ds env
      | true => match x, ds with
        | .s j, d :: ds => match env[j]? with
          | some (some y) => if y.sh = shD d then putB bs xs ds (env.set j (some (y.wd d))) else none
          | _ => none
        | _, _ => none
def oCall (io : List Bool) (f : FF) (a : FA) : FE := fun env => (a env).bind fun r => (argsE io r.1 r.2).bind fun s =>
  if (ioS io r.1).Nodup then (f s.1).bind fun z => (putB io r.1 z.2 s.2).bind fun e => some (.c z.1, e) else none
section
variable {mg : Str → Option Value} {K : PySem.W.Frag} {F H : Hp} {E : Ent} {env : Ev} {σ : L2.St}
/-- how the arguments stand -/
inductive Arg (mg : Str → Option Value) (K : PySem.W.Frag) (F : Hp) (σ : L2.St) (env : Ev) : List Bool → List Lz → List V → List D → Prop
  | nil : Arg mg K F σ env [] [] [] []
  | fz {bs : List Bool} {x : Lz} {xs : List Lz} {v : V} {vs : List V} {d : D} {ds : List D} : Fz mg K F v d → Arg mg K F σ env bs xs vs ds → Arg mg K F σ env (false :: bs) (x :: xs) (v :: vs) (d :: ds)
  | io {bs : List Bool} {j : Nat} {xs : List Lz} {v : V} {vs : List V} {d : D} {ds : List D} {y : Sl} : env[j]? = some (some y) → y.sh = shD d → y.d = d → σ[j]? = some (some v) → Arg mg K F σ env bs xs vs ds → Arg mg K F σ env (true :: bs) (.s j :: xs) (v :: vs) (d :: ds)
theorem R.args : ∀ {io : List Bool} {xs : List Lz} {vs : List V} {ds : List D} {F : Hp} {env env' : Ev}, R mg K E F env σ H → LVA mg K F σ xs vs → argsE io xs env = some (ds, env') →
    ∃ F', Le F F' ∧ R mg K E F' env' σ H ∧ Arg mg K F' σ env' io xs vs ds := by
  intro io
  induction io with
  | nil =>
    intro xs vs ds F env env' r h e
    cases h with
    | nil => cases e; exact ⟨F, .refl _, r, .nil⟩
    | cons _ _ => cases e
  | cons b bs ih =>
    intro xs vs ds F env env' r h e
    cases h with
    | nil => cases e
    | cons h t =>
      rename_i x xs v vs
      cases b with
      | false =>
        obtain ⟨⟨d, e1⟩, h1, e⟩ := Option.bind_eq_some_iff.mp (show (x.take env).bind _ = _ from e)
        obtain ⟨⟨ds, e2⟩, h2, e⟩ := Option.bind_eq_some_iff.mp e
        cases e
        obtain ⟨F1, l1, r1, z1⟩ := r.take h h1
        obtain ⟨F2, l2, r2, a2⟩ := ih r1 (t.mono l1) h2
        exact ⟨F2, l1.trans l2, r2, .fz (z1.mono l2) a2⟩
      | true =>
        cases x with
        | c d => cases e
        | s j =>
          obtain ⟨⟨ds, e2⟩, h2, e⟩ := Option.bind_eq_some_iff.mp (show (argsE bs xs env).bind _ = _ from e)
          obtain ⟨F2, l2, r2, a2⟩ := ih r t h2
          dsimp only at e
          split at e
          · rename_i y q
            split at e
            · rename_i hs
              cases e
              exact ⟨F2, l2, r2, .io q hs rfl h a2⟩
            · cases e
          · cases e
theorem Arg.lens {io : List Bool} {xs : List Lz} {vs : List V} {ds : List D} (h : Arg mg K F σ env io xs vs ds) : vs.length = io.length ∧ ds.length = io.length ∧ xs.length = io.length := by
  induction h with
  | nil => exact ⟨rfl, rfl, rfl⟩
  | fz _ _ ih => simp only [List.length_cons]; omega
  | io _ _ _ _ _ ih => simp only [List.length_cons]; omega
/-- the caller's own addresses that go with the i-th parameter -/
def fpP (fps : Nat → List Addr) : List Bool → List Lz → Nat → List Addr
  | true :: _, .s j :: _, 0 => fps j
  | _ :: bs, _ :: xs, i + 1 => fpP fps bs xs i
  | _, _, _ => []
def fpAll (fps : Nat → List Addr) : List Bool → List Lz → List Addr
  | true :: bs, .s j :: xs => fps j ++ fpAll fps bs xs
  | _ :: bs, _ :: xs => fpAll fps bs xs
  | _, _ => []
theorem fpP_all {fps : Nat → List Addr} : ∀ {io : List Bool} {xs : List Lz} {i : Nat} {b : Addr}, b ∈ fpP fps io xs i → b ∈ fpAll fps io xs ∧ ∃ j ∈ ioS io xs, b ∈ fps j
  | [], _, i, b, h => by unfold fpP at h; cases h
  | c :: bs, [], i, b, h => by
    cases c <;> cases i <;> (unfold fpP at h; cases h)
  | false :: bs, x :: xs, i, b, h => by
    cases i with
    | zero => cases x <;> (unfold fpP at h; cases h)
    | succ i =>
      have h' : b ∈ fpP fps bs xs i := by cases x <;> exact h
      have q := fpP_all h'
      cases x <;> exact q
  | true :: bs, .c d :: xs, i, b, h => by
    cases i with
    | zero => unfold fpP at h; cases h
    | succ i => exact fpP_all (io := bs) (xs := xs) (i := i) h
  | true :: bs, .s j :: xs, i, b, h => by
    cases i with
    | zero => exact ⟨List.mem_append_left _ h, j, List.mem_cons_self, h⟩
    | succ i =>
      obtain ⟨q1, k, q2, q3⟩ := fpP_all (show b ∈ fpP fps bs xs i from h)
      exact ⟨List.mem_append_right _ q1, k, List.mem_cons_of_mem _ q2, q3⟩
theorem fpAll_mem {fps : Nat → List Addr} : ∀ {io : List Bool} {xs : List Lz} {b : Addr}, b ∈ fpAll fps io xs → ∃ j ∈ ioS io xs, b ∈ fps j
  | [], _, b, h => by unfold fpAll at h; cases h
  | c :: bs, [], b, h => by
    cases c <;> (unfold fpAll at h; cases h)
  | false :: bs, x :: xs, b, h => by
    have h' : b ∈ fpAll fps bs xs := by cases x <;> exact h
    have q := fpAll_mem (io := bs) (xs := xs) h'
    cases x <;> exact q
  | true :: bs, .c d :: xs, b, h => fpAll_mem (io := bs) (xs := xs) h
  | true :: bs, .s j :: xs, b, h => by
    rcases List.mem_append.mp (show b ∈ fps j ++ fpAll fps bs xs from h) with h | h
    · exact ⟨j, List.mem_cons_self, h⟩
    · obtain ⟨k, q1, q2⟩ := fpAll_mem (io := bs) (xs := xs) h
      exact ⟨k, List.mem_cons_of_mem _ q1, q2⟩
theorem Own.shD_of {a b : Hp} {s : Sh} {v : V} {d : D} {fp fp' : List Addr} (h : Own mg K F H s v d fp) (e : s = shD d) : s = shD d := e
/-- the callee's state at its entry -/
theorem R.enter (r : R mg K E F env σ H) {io : List Bool} {xs : List Lz} {vs : List V} {ds : List D} (h : Arg mg K F σ env io xs vs ds) (nd : (ioS io xs).Nodup) :
    ∃ fps : Nat → List Addr, ((∀ (i : Nat) (x : Sl), env[i]? = some (some x) → ∃ v, σ[i]? = some (some v) ∧ Own mg K F H x.sh v x.d (fps i)) ∧
    (∀ i b, b ∈ fps i → (F b = none ∧ H b ≠ none) ∧ ((b ∈ E.io ∧ ioAt env i = true) ∨ E.H b = none)) ∧ ∀ i j b, i ≠ j → b ∈ fps i → b ∉ fps j) ∧
    R mg K ⟨F, H, vs.map some, fpAll fps io xs⟩ F (inE io ds) (vs.map some) H := by
  obtain ⟨fps, h1, h2, h3⟩ := r.slots
  refine ⟨fps, ⟨h1, h2, h3⟩, r.sub, .refl _, ?_, fun b o e _ => e, fun b hb => .inl hb, fun b hb => hb, fun i s d _ => rfl, fpP fps io xs, ?_, ?_, ?_⟩
  · rw [List.length_map, inE_len h.lens.2.1, h.lens.1]
  · have all : ∀ {io : List Bool} {xs : List Lz} {vs : List V} {ds : List D}, Arg mg K F σ env io xs vs ds → ∀ (i : Nat) (x : Sl), (inE io ds)[i]? = some (some x) → ∃ v, (vs.map some)[i]? = some (some v) ∧ Own mg K F H x.sh v x.d (fpP fps io xs i) := by
      intro io xs vs ds h
      induction h with
      | nil => intro i x e; unfold inE at e; simp at e
      | @fz bs x0 xs v vs d ds z t ih =>
        intro i x e
        unfold inE at e
        cases i with
        | zero =>
          rw [List.getElem?_cons_zero] at e
          cases e
          refine ⟨v, rfl, z, ?_⟩
          cases x0 <;> rfl
        | succ i =>
          rw [List.getElem?_cons_succ] at e
          obtain ⟨w, w1, w2⟩ := ih i x e
          refine ⟨w, w1, ?_⟩
          cases x0 <;> exact w2
      | @io bs j xs v vs d ds y e1 e2 e3 e4 t ih =>
        intro i x e
        unfold inE at e
        cases i with
        | zero =>
          rw [List.getElem?_cons_zero] at e
          cases e
          refine ⟨v, rfl, ?_⟩
          obtain ⟨w, w1, w2⟩ := h1 j y e1
          rw [e4] at w1
          cases w1
          rw [e3, e2] at w2
          exact w2
        | succ i =>
          rw [List.getElem?_cons_succ] at e
          exact ih i x e
    exact all h
  · intro i b hb
    obtain ⟨q1, j, q2, q3⟩ := fpP_all hb
    refine ⟨(h2 j b q3).1, .inl ⟨q1, ?_⟩⟩
    have all : ∀ {io : List Bool} {xs : List Lz} {vs : List V} {ds : List D}, Arg mg K F σ env io xs vs ds → ∀ i, b ∈ fpP fps io xs i → ioAt (inE io ds) i = true := by
      intro io xs vs ds h
      induction h with
      | nil => intro i e; unfold fpP at e; cases e
      | @fz bs x0 xs v vs d ds z t ih =>
        intro i e
        cases i with
        | zero => cases x0 <;> (unfold fpP at e; cases e)
        | succ i =>
          have e' : b ∈ fpP fps bs xs i := by cases x0 <;> exact e
          exact ih i e'
      | @io bs j xs v vs d ds y e1 e2 e3 e4 t ih =>
        intro i e
        cases i with
        | zero => rfl
        | succ i => exact ih i e
    exact all h i hb
  · intro i k b hik hb hb'
    have all : ∀ {io : List Bool} {xs : List Lz} {i k : Nat}, (ioS io xs).Nodup → i ≠ k → b ∈ fpP fps io xs i → b ∈ fpP fps io xs k → False := by
      intro io
      induction io with
      | nil => intro xs i k _ _ hb; unfold fpP at hb; cases hb
      | cons c bs ih =>
        intro xs i k nd hik hb hb'
        cases xs with
        | nil => cases c <;> cases i <;> (unfold fpP at hb; cases hb)
        | cons x xs =>
          cases c with
          | false =>
            cases i with
            | zero => cases x <;> (unfold fpP at hb; cases hb)
            | succ i =>
              cases k with
              | zero => cases x <;> (unfold fpP at hb'; cases hb')
              | succ k =>
                refine ih (xs := xs) (i := i) (k := k) ?_ (fun z => hik (by rw [z])) ?_ ?_
                · cases x <;> exact nd
                · cases x <;> exact hb
                · cases x <;> exact hb'
          | true =>
            cases x with
            | c d =>
              cases i with
              | zero => unfold fpP at hb; cases hb
              | succ i =>
                cases k with
                | zero => unfold fpP at hb'; cases hb'
                | succ k => exact ih (xs := xs) (i := i) (k := k) nd (fun z => hik (by rw [z])) hb hb'
            | s j =>
              have nj := List.nodup_cons.mp (show (j :: ioS bs xs).Nodup from nd)
              have out : ∀ {i : Nat}, b ∈ fpP fps bs xs i → b ∈ fps j → False := fun {i} q p => by
                obtain ⟨_, j', q2, q3⟩ := fpP_all q
                exact h3 j j' b (fun z => nj.1 (by rw [z]; exact q2)) p q3
              cases i with
              | zero =>
                cases k with
                | zero => exact hik rfl
                | succ k => exact out (i := k) hb' hb
              | succ i =>
                cases k with
                | zero => exact out (i := i) hb hb'
                | succ k => exact ih (xs := xs) (i := i) (k := k) nj.2 (fun z => hik (by rw [z])) hb hb'
    exact all nd hik hb hb'
theorem Own.root {v : V} {d e : D} {fp : List Addr} (h : Own mg K F H (shD e) v d fp) : ∃ a, v = .ref a ∧ fp = [a] := by
  have hs : shD e = .L .fz ∨ shD e = .M .fz := by
    unfold shD
    split
    · exact .inl rfl
    · exact .inr rfl
  rcases hs with hs | hs
  · rw [hs] at h
    obtain ⟨a, vs, ds, g, q1, q2, q3, q4, q5, q6, q7⟩ := h
    exact ⟨a, q1, by rw [q3, q7.toFz.2]⟩
  · rw [hs] at h
    obtain ⟨a, l, g, q1, q2, q3, q4, q6, q7⟩ := h
    rcases q7 with ⟨kvs, _, p7⟩ | ⟨kvs, _, _, _, p7⟩
    · exact ⟨a, q1, by rw [q3, p7.toFz.2]⟩
    · exact ⟨a, q1, by rw [q3, p7.toFzT.2]⟩
/-- behind putB: a slot that was handed in -/
theorem putB_get {vs : List V} : ∀ {io : List Bool} {xs : List Lz} {vs : List V} {ds : List D} {env0 env env' : Ev} {os : List D}, Arg mg K F σ env0 io xs vs ds → (ioS io xs).Nodup → putB io xs os env = some env' →
    env'.length = env.length ∧ ∀ j, (j ∉ ioS io xs → env'[j]? = env[j]?) ∧ (j ∈ ioS io xs → ∃ (y : Sl) (d : D) (i : Nat) (v : V), env[j]? = some (some y) ∧ env'[j]? = some (some (y.wd d)) ∧ y.sh = shD d ∧ (outE io os)[i]? = some (some (.io (shD d) d)) ∧ vs[i]? = some v ∧ σ[j]? = some (some v)) := by
  intro io xs vs ds env0 env env' os h
  induction h generalizing env env' os with
  | nil =>
    intro _ e
    cases e
    exact ⟨rfl, fun j => ⟨fun _ => rfl, fun z => nomatch z⟩⟩
  | @fz bs x xs v vs d ds z t ih =>
    intro nd e
    have e1 : ioS (false :: bs) (x :: xs) = ioS bs xs := by cases x <;> rfl
    rw [e1] at nd ⊢
    have e' : putB bs xs os env = some env' := by cases x <;> exact e
    obtain ⟨q1, q2⟩ := ih nd e'
    refine ⟨q1, fun j => ⟨(q2 j).1, fun hj => ?_⟩⟩
    obtain ⟨y, d, i, w, a1, a2, a3, a4, a5, a6⟩ := (q2 j).2 hj
    exact ⟨y, d, i + 1, w, a1, a2, a3, by unfold outE; rw [List.getElem?_cons_succ]; exact a4, by rw [List.getElem?_cons_succ]; exact a5, a6⟩
  | @io bs k xs v vs d ds y0 e1 e2 e3 e4 t ih =>
    intro nd e
    have nk := List.nodup_cons.mp (show (k :: ioS bs xs).Nodup from nd)
    cases os with
    | nil => cases e
    | cons o os =>
      have e' : (match env[k]? with
        | some (some y) => if y.sh = shD o then putB bs xs os (env.set k (some (y.wd o))) else none
        | _ => none) = some env' := e
      split at e'
      · rename_i y q
        split at e'
        · rename_i hs
          obtain ⟨q1, q2⟩ := ih nk.2 e'
          have hk : k < env.length := (List.getElem?_eq_some_iff.mp q).1
          refine ⟨by rw [q1, List.length_set], fun j => ⟨fun hj => ?_, fun hj => ?_⟩⟩
          · rw [(q2 j).1 fun z => hj (List.mem_cons_of_mem _ z)]
            exact List.getElem?_set_ne fun z => hj (by rw [z]; exact List.mem_cons_self)
          · rcases List.mem_cons.mp (show j ∈ k :: ioS bs xs from hj) with z | z
            · subst z
              refine ⟨y, o, 0, v, q, ?_, hs, rfl, rfl, e4⟩
              rw [(q2 j).1 nk.1, List.getElem?_set_self hk]
            · obtain ⟨y', d', i, w, a1, a2, a3, a4, a5, a6⟩ := (q2 j).2 z
              have hjk : k ≠ j := fun y => nk.1 (by rw [y]; exact z)
              rw [List.getElem?_set_ne hjk] at a1
              exact ⟨y', d', i + 1, w, a1, a2, a3, by unfold outE; rw [List.getElem?_cons_succ]; exact a4, by rw [List.getElem?_cons_succ]; exact a5, a6⟩
        · cases e'
      · cases e'
theorem Sl.wd_sh (y : Sl) (d : D) : (y.wd d).sh = y.sh := by cases y <;> rfl
theorem Sl.wd_d (y : Sl) (d : D) : (y.wd d).d = d := by cases y <;> rfl
/-- behind the call -/
theorem R.leave (r : R mg K E F env σ H) {io : List Bool} {xs : List Lz} {vs : List V} {ds os : List D} {env' : Ev} (h : Arg mg K F σ env io xs vs ds) (nd : (ioS io xs).Nodup) (hp : putB io xs os env = some env')
    {fps : Nat → List Addr} (h1 : ∀ (i : Nat) (x : Sl), env[i]? = some (some x) → ∃ v, σ[i]? = some (some v) ∧ Own mg K F H x.sh v x.d (fps i))
    (h2 : ∀ i b, b ∈ fps i → (F b = none ∧ H b ≠ none) ∧ ((b ∈ E.io ∧ ioAt env i = true) ∨ E.H b = none)) (h3 : ∀ i j b, i ≠ j → b ∈ fps i → b ∉ fps j)
    {F' H' : Hp} (r' : R mg K ⟨F, H, vs.map some, fpAll fps io xs⟩ F' (outE io os) (vs.map some) H') : R mg K E F' env' σ H' := by
  obtain ⟨hl, get⟩ := putB_get (vs := vs) h nd hp
  obtain ⟨fq, a1, a2, a3⟩ := r'.slots
  have lF : Le F F' := r'.base
  have nF : ∀ {j b}, b ∈ fps j → F' b = none := fun {j b} hb => by
    cases q : F' b with
    | none => rfl
    | some o =>
      rcases r'.fr2 b (by rw [q]; exact Option.some_ne_none _) with z | z
      · exact absurd (h2 j b hb).1.1 z
      · exact absurd z (h2 j b hb).1.2
  have nH : ∀ {j b}, j ∉ ioS io xs → b ∈ fps j → H' b = H b := fun {j b} hj hb => by
    cases q : H b with
    | none => exact absurd q (h2 j b hb).1.2
    | some o =>
      refine r'.fr1 b o q fun z => ?_
      obtain ⟨k, k1, k2⟩ := fpAll_mem z
      exact h3 j k b (fun y => hj (by rw [y]; exact k1)) hb k2
  have io' : ∀ j, ioAt env' j = ioAt env j := fun j => by
    by_cases hj : j ∈ ioS io xs
    · obtain ⟨y, d, i, w, b1, b2, b3, b4, b5, b6⟩ := (get j).2 hj
      unfold ioAt
      rw [b1, b2]
      cases y <;> rfl
    · unfold ioAt
      rw [(get j).1 hj]
  refine ⟨r'.sub, r.base.trans lF, by rw [hl]; exact r.len, fun b o e n => ?_, fun b hb => ?_, fun b hb => r'.fr3 b (r.fr3 b hb), fun j s d e => ?_, fps, fun j x e => ?_, fun j b hb => ⟨⟨nF hb, r'.fr3 b (h2 j b hb).1.2⟩, by rw [io']; exact (h2 j b hb).2⟩, h3⟩
  · refine r'.fr1 b o (r.fr1 b o e n) fun z => ?_
    obtain ⟨k, k1, k2⟩ := fpAll_mem z
    rcases (h2 k b k2).2 with q | q
    · exact n q.1
    · rw [q] at e; cases e
  · rcases r'.fr2 b hb with z | z
    · exact r.fr2 b z
    · refine .inr ?_
      cases q : E.H b with
      | none => rfl
      | some o => exact absurd z (r.fr3 b (by rw [q]; exact Option.some_ne_none _))
  · by_cases hj : j ∈ ioS io xs
    · obtain ⟨y, d', i, w, b1, b2, b3, b4, b5, b6⟩ := (get j).2 hj
      rw [b2] at e
      have ey : y.wd d' = .io s d := Option.some.inj (Option.some.inj e)
      cases y with
      | fz _ => cases ey
      | own _ _ => cases ey
      | io s0 d0 => exact r.ios j s0 d0 b1
    · rw [(get j).1 hj] at e
      exact r.ios j s d e
  · by_cases hj : j ∈ ioS io xs
    · obtain ⟨y, d, i, w, b1, b2, b3, b4, b5, b6⟩ := (get j).2 hj
      rw [b2] at e
      cases e
      obtain ⟨w', c1, c2⟩ := h1 j y b1
      rw [b6] at c1
      cases c1
      rw [b3] at c2
      obtain ⟨a, ea, ef⟩ := c2.root
      obtain ⟨w2, d1, d2⟩ := a1 i _ b4
      have hw : (vs.map some)[i]? = some (some w) := by rw [List.getElem?_map, b5]; rfl
      rw [hw] at d1
      cases d1
      have d2' : Own mg K F' H' (shD d) w d (fq i) := d2
      obtain ⟨a', ea', ef'⟩ := d2'.root
      rw [ea] at ea'
      cases ea'
      refine ⟨w, b6, ?_⟩
      rw [Sl.wd_sh, Sl.wd_d, b3, ef, ← ef']
      exact d2'
    · rw [(get j).1 hj] at e
      obtain ⟨w, c1, c2⟩ := h1 j x e
      exact ⟨w, c1, c2.keep _ lF (fun b hb => nF hb) (fun b hb => nH hj hb)⟩
/-- the call of a def that keeps its promise -/
theorem sem_call {io : List Bool} {f : FF} {ta : TA} {q : Bool} {a : FA} (ha : Sem mg K (LVA mg K) ta q a) : Sem mg K (LV mg K) (tCall (spF mg K io f) [] E0 ta) false (oCall io f a) := by
  intro E F env σ H x env' r e Q k
  unfold oCall at e
  obtain ⟨⟨xs, e1⟩, h1, e⟩ := Option.bind_eq_some_iff.mp e
  obtain ⟨⟨ds, e2⟩, h2, e⟩ := Option.bind_eq_some_iff.mp e
  dsimp only at e h2
  split at e
  case isFalse => cases e
  rename_i nd
  obtain ⟨⟨d, os⟩, h3, e⟩ := Option.bind_eq_some_iff.mp e
  obtain ⟨e3, h4, e⟩ := Option.bind_eq_some_iff.mp e
  cases e
  refine ha E F env σ H xs e1 r h1 _ fun F1 H1 vs l1 r1 lv q1 => ?_
  obtain ⟨F2, l2, r2, ar⟩ := R.args r1 lv h2
  obtain ⟨fps, ⟨p1, p2, p3⟩, r3⟩ := r2.enter ar nd
  rw [List.append_nil]
  refine ⟨_, F2, ds, d, os, ar.lens.1, ar.lens.2.1, rfl, rfl, rfl, r3, h3, fun F' H' v l r' z => ?_⟩
  exact k F' H' v ((l1.trans l2).trans l) (r2.leave ar nd h4 p1 p2 p3 r') z fun z => nomatch z
/-- .. that changes nothing of the caller's -/
def oCallQ (n : Nat) (f : FF) (a : FA) : FE := fun env => (a env).bind fun r => (csA r.1).bind fun ds => if ds.length = n then (f ds).bind fun z => some (.c z.1, r.2) else none
theorem argC {F : Hp} {env : Ev} : ∀ {xs : List Lz} {vs : List V} {ds : List D}, LVA mg K F σ xs vs → csA xs = some ds → Arg mg K F σ env (List.replicate ds.length false) xs vs ds
  | _, _, _, .nil, e => by cases e; exact .nil
  | x :: xs, _, _, .cons h t, e => by
    cases x with
    | s i => cases e
    | c d =>
      obtain ⟨ds, e1, e2⟩ := Option.map_eq_some_iff.mp (show (csA xs).map (fun ds => d :: ds) = _ from e)
      cases e2
      exact .fz h (argC t e1)
theorem ioS_rep : ∀ (n : Nat) (xs : List Lz), ioS (List.replicate n false) xs = []
  | 0, xs => by cases xs <;> rfl
  | n + 1, [] => rfl
  | n + 1, x :: xs => by
    have : ioS (List.replicate (n + 1) false) (x :: xs) = ioS (List.replicate n false) xs := by cases x <;> rfl
    rw [this, ioS_rep n xs]
theorem putB_rep : ∀ (n : Nat) (xs : List Lz) (os : List D) (env : Ev), xs.length = n → putB (List.replicate n false) xs os env = some env
  | 0, xs, os, env, _ => by cases xs <;> rfl
  | n + 1, [], os, env, h => by cases h
  | n + 1, x :: xs, os, env, h => by
    have : putB (List.replicate (n + 1) false) (x :: xs) os env = putB (List.replicate n false) xs os env := by cases x <;> rfl
    rw [this]
    exact putB_rep n xs os env (by simpa using h)
theorem sem_callQ {n : Nat} {f : FF} {ta : TA} {q : Bool} {a : FA} (ha : Sem mg K (LVA mg K) ta q a) : Sem mg K (LV mg K) (tCall (spF mg K (List.replicate n false) f) [] E0 ta) q (oCallQ n f a) := by
  intro E F env σ H x env' r e Q k
  unfold oCallQ at e
  obtain ⟨⟨xs, e1⟩, h1, e⟩ := Option.bind_eq_some_iff.mp e
  obtain ⟨ds, h2, e⟩ := Option.bind_eq_some_iff.mp e
  dsimp only at e h2
  split at e
  case isFalse => cases e
  rename_i hn
  obtain ⟨⟨d, os⟩, h3, e⟩ := Option.bind_eq_some_iff.mp e
  cases e
  subst hn
  refine ha E F env σ H xs _ r h1 _ fun F1 H1 vs l1 r1 lv q1 => ?_
  have ar := argC (env := env') lv h2
  have nd : (ioS (List.replicate ds.length false) xs).Nodup := by rw [ioS_rep]; exact List.nodup_nil
  obtain ⟨fps, ⟨p1, p2, p3⟩, r3⟩ := r1.enter ar nd
  rw [List.append_nil]
  refine ⟨_, F1, ds, d, os, ar.lens.1, ar.lens.2.1, rfl, rfl, rfl, r3, h3, fun F' H' v l r' z => ?_⟩
  have hall : fpAll fps (List.replicate ds.length false) xs = [] := by
    cases q : fpAll fps (List.replicate ds.length false) xs with
    | nil => rfl
    | cons b bs =>
      obtain ⟨j, j1, _⟩ := fpAll_mem (fps := fps) (io := List.replicate ds.length false) (xs := xs) (b := b) (by rw [q]; exact List.mem_cons_self)
      rw [ioS_rep] at j1
      cases j1
  have g : Grow F1 H1 F' H' := ⟨l, fun b o e => r'.fr1 b o e (by show b ∉ fpAll fps (List.replicate ds.length false) xs; rw [hall]; exact fun z => nomatch z), r'.sub, fun b hb => r'.fr2 b hb⟩
  exact k F' H' v (l1.trans l) (r1.leave ar nd (putB_rep _ _ _ _ (by have := ar.lens.2.2; rw [List.length_replicate] at this; exact this)) p1 p2 p3 r') z (qGrow q1 g)
end
end FL

set_option maxHeartbeats 2000000
/-! FL16: rules by the syntax. -/
namespace FL
open PySem PySem.Spec L2

section
variable {X : Cx} {e a b c : Expr} {es : List Expr} {t ta tb tc : TE} {tt tA tB' : TT} {tas : TA} {q q' q'' : Bool} {f g h : FE} {ft gt : FT} {fa : FA} {fn : FN} {pos p : Pos} {i : Nat} {x : Str}
theorem oe_v (h : PE X e (tVar i)) : OE X e (tVar i) true (oV i) := ⟨h, sem_var i⟩
theorem oe_int {n : Int} {j : Nat} : OE X (.Constant (.int n) j pos) (tC (.int n)) true (oC (.int n)) := ⟨pe_int, sem_const fun _ => .int n⟩
theorem oe_str {n : Str} {j : Nat} : OE X (.Constant (.str n) j pos) (tC (.str n)) true (oC (.str n)) := ⟨pe_str, sem_const fun _ => .str n⟩
theorem oe_bl {n : Bool} {j : Nat} : OE X (.Constant (.bool n) j pos) (tC (.bl n)) true (oC (.bool n)) := ⟨pe_bl, sem_const fun _ => .bl n⟩
theorem oe_non {j : Nat} : OE X (.Constant .none j pos) (tC .non) true (oC .none) := ⟨pe_non, sem_const fun _ => .non⟩
/-- a constant of the module -/
theorem oe_gint {n : Int} (hg : Gl X x) (hm : ∃ tk, X.mg x = some (.int n tk)) (hd : (x == ("__debug__" : Str)) = false := by decide) : OE X (.Name x pos) (tC (.int n)) true (oC (.int n)) := by
  obtain ⟨tk, hm⟩ := hm
  exact ⟨pe_glob hg hm ⟨tk, rfl⟩ hd, sem_const fun _ => .int n⟩
theorem oe_gstr {n : Str} (hg : Gl X x) (hm : ∃ tk, X.mg x = some (.str n tk)) (hd : (x == ("__debug__" : Str)) = false := by decide) : OE X (.Name x pos) (tC (.str n)) true (oC (.str n)) := by
  obtain ⟨tk, hm⟩ := hm
  exact ⟨pe_glob hg hm ⟨tk, rfl⟩ hd, sem_const fun _ => .str n⟩
/-- a tuple of the module's top -/
theorem oe_gtup {u : Addr} {vs : List V} {ds : List D} (hg : Gl X x) (hm : X.mg x = some (.ref u)) (hs : ∀ F, SqT X.K F u vs) (hz : ∀ F, FzA X.mg X.K F vs ds) (hd : (x == ("__debug__" : Str)) = false := by decide) :
    OE X (.Name x pos) (tC (.ref u)) true (oC (wtD ds)) := ⟨pe_glob hg hm rfl hd, sem_const fun F => .wt (hs F) (hz F)⟩
/-- a def of the module, as a value -/
theorem oe_gfn {u : Addr} (hg : Gl X x) (hm : X.mg x = some (.ref u)) (hd : (x == ("__debug__" : Str)) = false := by decide) : OE X (.Name x pos) (tC (.ref u)) true (oC (fnD x)) := ⟨pe_glob hg hm rfl hd, sem_const fun F => .fn hm⟩

theorem oa_nil : OA X [] tNil true aN := ⟨pa_nil, sem_nil⟩
theorem oa_cons (ha : OE X e t q f) (hr : OA X es tas q' fa) (hs : starEach (e :: es) X.env = (false, eval e X.env) :: starEach es X.env := by rfl) : OA X (e :: es) (tCons t tas) (q && q') (aC f fa) := ⟨pa_cons ha.pe hr.pa hs, sem_cons ha.sem hr.sem⟩

theorem oe_bin {op : Operator} {r : R2} {d : List D → Option D} (ho : OpR X (binaryOp op) r) (hd : SemB X.mg X.K r d) (ha : OE X a ta q f) (hb : OE X b tb q' g) : OE X (.BinOp a op b pos) (tOp r ta tb) (q && (q' && true)) (oO d (aC f (aC g aN))) := ⟨pe_op ho ha.pe hb.pe, sem_op2 ha.sem hb.sem hd⟩
theorem ne_bin {op : Operator} {r : R2} {d : List D → Option D} (ho : OpR X (binaryOp op) r) (hd : SemBN X.mg X.K r d) (ha : OE X a ta q f) (hb : OE X b tb q' g) : NE X (.BinOp a op b pos) (tOp r ta tb) (q && (q' && true)) (nO d (aC f (aC g aN))) := ⟨pe_op ho ha.pe hb.pe, sem_new2 ha.sem hb.sem hd⟩
/-- + of anything -/
def rAddL (K : PySem.W.Frag) : R2 := fun x y H Q => rAddA K x y H Q ∨ rCat x y H Q
theorem op_addL {X : Cx} {K0 : PySem.W.Frag} (hK0 : X.K = K0 := by rfl) : OpR X (binaryOp .Add) (rAddL K0) := by
  subst hK0; exact (OpR.or op_addA op_cat)
def dAddL (ds : List D) : Option D := match dAdd ds with
  | some d => some d
  | none => dCat ds
theorem sem_addL {mg : Str → Option Value} {K : PySem.W.Frag} : SemB mg K (rAddL K) dAddL := by
  intro F H x y dx dy z Q l vx vy e k
  unfold dAddL at e
  split at e
  · rename_i q
    cases e
    exact .inl (sem_add F H x y dx dy z Q l vx vy q k)
  · exact .inr ((SemBN.toB sem_cat) F H x y dx dy z Q l vx vy e k)
def rMulL (K : PySem.W.Frag) : R2 := fun x y H Q => rMulA K x y H Q ∨ rRep x y H Q
theorem op_mulL {X : Cx} {K0 : PySem.W.Frag} (hK0 : X.K = K0 := by rfl) : OpR X (binaryOp .Mult) (rMulL K0) := by
  subst hK0; exact (OpR.or op_mulA op_rep)
def dMulL (ds : List D) : Option D := match dMul ds with
  | some d => some d
  | none => dRep ds
theorem sem_mulL {mg : Str → Option Value} {K : PySem.W.Frag} : SemB mg K (rMulL K) dMulL := by
  intro F H x y dx dy z Q l vx vy e k
  unfold dMulL at e
  split at e
  · rename_i q
    cases e
    exact .inl (sem_mul F H x y dx dy z Q l vx vy q k)
  · exact .inr ((SemBN.toB sem_rep) F H x y dx dy z Q l vx vy e k)
theorem oe_add (ha : OE X a ta q f) (hb : OE X b tb q' g) {K0 : PySem.W.Frag} (hK0 : X.K = K0 := by rfl) : OE X (.BinOp a .Add b pos) (tOp (rAddL K0) ta tb) (q && (q' && true)) (oO dAddL (aC f (aC g aN))) := by
  subst hK0; exact (oe_bin op_addL sem_addL ha hb)
theorem oe_sub (ha : OE X a ta q f) (hb : OE X b tb q' g) : OE X (.BinOp a .Sub b pos) (tOp (rI0 fun i j => .int (i - j)) ta tb) (q && (q' && true)) (oO dSub (aC f (aC g aN))) := oe_bin op_sub sem_sub ha hb
theorem oe_mul (ha : OE X a ta q f) (hb : OE X b tb q' g) {K0 : PySem.W.Frag} (hK0 : X.K = K0 := by rfl) : OE X (.BinOp a .Mult b pos) (tOp (rMulL K0) ta tb) (q && (q' && true)) (oO dMulL (aC f (aC g aN))) := by
  subst hK0; exact (oe_bin op_mulL sem_mulL ha hb)
theorem oe_fdiv (ha : OE X a ta q f) (hb : OE X b tb q' g) : OE X (.BinOp a .FloorDiv b pos) (tOp (rI CDiv fun i j => .int (i / j)) ta tb) (q && (q' && true)) (oO dFdiv (aC f (aC g aN))) := oe_bin op_fdiv sem_fdiv ha hb
theorem oe_mod (ha : OE X a ta q f) (hb : OE X b tb q' g) : OE X (.BinOp a .Mod b pos) (tOp (rI (fun _ j => 0 < j) fun i j => .int (i % j)) ta tb) (q && (q' && true)) (oO dMod (aC f (aC g aN))) := oe_bin op_mod sem_mod ha hb
theorem oe_pow (ha : OE X a ta q f) (hb : OE X b tb q' g) : OE X (.BinOp a .Pow b pos) (tOp (rI CPow fun i j => .int (i ^ j.toNat)) ta tb) (q && (q' && true)) (oO dPow (aC f (aC g aN))) := oe_bin op_pow sem_pow ha hb
theorem oe_shl (ha : OE X a ta q f) (hb : OE X b tb q' g) : OE X (.BinOp a .LShift b pos) (tOp (rI CPow fun i j => .int (i * 2 ^ j.toNat)) ta tb) (q && (q' && true)) (oO dShl (aC f (aC g aN))) := oe_bin op_shl sem_shl ha hb
theorem oe_shr (ha : OE X a ta q f) (hb : OE X b tb q' g) : OE X (.BinOp a .RShift b pos) (tOp (rI (fun _ j => 0 ≤ j) fun i j => .int (i / 2 ^ j.toNat)) ta tb) (q && (q' && true)) (oO dShr (aC f (aC g aN))) := oe_bin op_shr sem_shr ha hb
theorem oe_band (ha : OE X a ta q f) (hb : OE X b tb q' g) : OE X (.BinOp a .BitAnd b pos) (tOp (rI0 fun i j => .int (Builtin.bitAnd i j)) ta tb) (q && (q' && true)) (oO dBand (aC f (aC g aN))) := oe_bin op_and sem_band ha hb
theorem ne_cat (ha : OE X a ta q f) (hb : OE X b tb q' g) : NE X (.BinOp a .Add b pos) (tOp rCat ta tb) (q && (q' && true)) (nO dCat (aC f (aC g aN))) := ne_bin op_cat sem_cat ha hb
theorem ne_rep (ha : OE X a ta q f) (hb : OE X b tb q' g) : NE X (.BinOp a .Mult b pos) (tOp rRep ta tb) (q && (q' && true)) (nO dRep (aC f (aC g aN))) := ne_bin op_rep sem_rep ha hb
theorem oe_neg (ha : OE X a ta q f) : OE X (.UnaryOp .USub a pos) (tUn (rU fun i => .int (-i)) ta) (q && true) (oO dNeg (aC f aN)) := ⟨pe_un un_neg ha.pe, sem_un ha.sem sem_neg⟩

/-! comparisons -/
theorem oe_cmp {op : CmpOp} {r : R2} {d : List D → Option D} (ho : OpR X (compareOp op) r) (hd : SemB X.mg X.K r d) (ha : OE X a ta q f) (hb : OE X b tb q' g) (hm : behindInMarks op b = false) : OE X (.Compare a [op] [b] pos) (tOp r ta tb) (q && (q' && true)) (oO d (aC f (aC g aN))) := ⟨pe_cmpR ho ha.pe hb.pe hm, sem_op2 ha.sem hb.sem hd⟩
theorem ot_cmp {op : CmpOp} {r : R2} {d : List D → Option D} (ho : OpR X (compareOp op) r) (hd : SemB X.mg X.K r d) (ha : OE X a ta q f) (hb : OE X b tb q' g) (hm : behindInMarks op b = false) : OT X (.Compare a [op] [b] pos) (tTest (tOp r ta tb)) (q && (q' && true)) (tO (oO d (aC f (aC g aN)))) :=
  ⟨pt_cmpR ho ha.pe hb.pe hm, sem_test (sem_op2 ha.sem hb.sem hd)⟩
/-! tests -/
theorem ot_val (ha : OE X a ta q f) (he : ∀ whole, isTrue a X.env whole = (do let v ← whole; standAt a.pos; holding [v] (truthy v)) := by intro _; rfl) : OT X a (tB ta) q (tO f) := ⟨pt_val ha.pe he, sem_test ha.sem⟩
theorem ot_not (ha : OT X a tA q ft) : OT X (.UnaryOp .Not a pos) (tNot tA) q (tN ft) := ⟨pt_not ha.pt, sem_tNot ha.sem⟩
theorem ow_and1 (ha : OT X a tA q ft) : OW X (.BoolOp .And [a] pos) tA q ft := ⟨pw_and1 ha.pt, ha.sem⟩
theorem ow_or1 (ha : OT X a tA q ft) : OW X (.BoolOp .Or [a] pos) tA q ft := ⟨pw_or1 ha.pt, ha.sem⟩
theorem ow_and {rest : List Expr} (ha : OT X a tA q ft) (hb : OW X (.BoolOp .And (b :: rest) pos) tB' q' gt) : OW X (.BoolOp .And (a :: b :: rest) pos) (tAnd tA tB') (q && q') (FL.tA ft gt) := ⟨pw_and ha.pt hb.pw, sem_tAnd ha.sem hb.sem⟩
theorem ow_or {rest : List Expr} (ha : OT X a tA q ft) (hb : OW X (.BoolOp .Or (b :: rest) pos) tB' q' gt) : OW X (.BoolOp .Or (a :: b :: rest) pos) (tOr tA tB') (q && q') (FL.tR ft gt) := ⟨pw_or ha.pt hb.pw, sem_tOr ha.sem hb.sem⟩
theorem ot_w (h : OW X a tA q ft) : OT X a tA q ft := ⟨h.pw.pt, h.sem⟩
theorem oe_one {op : BoolOp} (ha : OE X a ta q f) : OE X (.BoolOp op [a] pos) ta q f := ⟨pe_one ha.pe, ha.sem⟩
theorem oe_and {rest : List Expr} (ha : OE X a ta q f) (hb : OE X (.BoolOp .And (b :: rest) pos) tb q' g) : OE X (.BoolOp .And (a :: b :: rest) pos) (tAndV ta tb) (q && q') (oAnd f g) := ⟨pe_and ha.pe hb.pe, sem_andV ha.sem hb.sem⟩
theorem oe_or {rest : List Expr} (ha : OE X a ta q f) (hb : OE X (.BoolOp .Or (b :: rest) pos) tb q' g) : OE X (.BoolOp .Or (a :: b :: rest) pos) (tOrV ta tb) (q && q') (oOr f g) := ⟨pe_or ha.pe hb.pe, sem_orV ha.sem hb.sem⟩
theorem oe_not (ha : OE X a ta q f) : OE X (.UnaryOp .Not a pos) (tNotV ta) (q && true) (oO dNot (aC f aN)) := ⟨pe_not ha.pe, sem_notV ha.sem⟩
theorem oe_if (hc : OT X c tA q ft) (ha : OE X a ta q' f) (hb : OE X b tb q'' g) : OE X (.IfExp c a b pos) (tIf tA ta tb) (q && (q' && q'')) (oI ft f g) := ⟨pe_ifExp hc.pt ha.pe hb.pe, sem_if hc.sem ha.sem hb.sem⟩
/-- a new thing, frozen -/
theorem oe_n (h : NE X e t q fn) : OE X e t q (oN fn) := ⟨h.pe, sem_ofNew h.sem⟩
/-! displays -/
theorem oe_tup {k : Nat} (h : OA X es tas q fa) : OE X (.Tuple es k pos) (tTup tas) q (oTupQ fa) := ⟨pe_tup h.pa, sem_tupleQ h.sem⟩
theorem oe_tupT {k : Nat} (h : OA X es tas q fa) : OE X (.Tuple es k pos) (tTup tas) false (oTup fa) := ⟨pe_tup h.pa, sem_tuple h.sem⟩
theorem ne_lst (h : OA X es tas q fa) : NE X (.List es pos) (tLst tas) q (nLstQ fa) := ⟨pe_lst h.pa, sem_lstQ h.sem⟩
theorem ne_lstT (h : OA X es tas q fa) : NE X (.List es pos) (tLst tas) false (nLst fa) := ⟨pe_lst h.pa, sem_lst h.sem⟩
/-! a[b] -/
theorem oe_ix (hu : X.A.units + 64 < cLine) (ha : OE X a ta q f) (hb : OE X b tb q' g) (hs : PlainIx b := by intro _ _; rfl) {K0 : PySem.W.Frag} (hK0 : X.K = K0 := by rfl) : OE X (.Subscript a b pos) (tOp (rIxA K0) ta tb) (q && (q' && true)) (oO dIx (aC f (aC g aN))) := by
  subst hK0; exact (⟨pe_ix (ix_any (by omega)) ha.pe hb.pe hs, sem_op2 ha.sem hb.sem sem_ix⟩)
/-! built-ins -/
theorem oe_blt {id : String} {r : List V → Hp → VK → Prop} {d : List D → Option D} (hc : CallR X (.builtin id) r) (hd : SemC X.mg X.K r d) (hm : X.mg x = none) (hv : bootBuiltins x = some (.builtin id)) (ha : OA X (e :: es) tas q fa) (hg : Gl X x := by rfl) (hn : x ≠ "__name__" := by decide) (hdb : (x == ("__debug__" : Str)) = false := by decide)
    (he : starEach (e :: es) X.env = (false, eval e X.env) :: starEach es X.env := by rfl) (hpl : (backTo pos (starEach es X.env)).any (·.1) = false := by rfl) : OE X (.Call (.Name x p) (e :: es) [] pos) (tCB r tas) q (oO d fa) := ⟨pe_callB hc hg hm hv ha.pa hn hdb he hpl, sem_opA ha.sem hd⟩
theorem oe_ty {T : String} {r : List V → Hp → VK → Prop} {d : List D → Option D} (hc : CallR X (.type T) r) (hd : SemC X.mg X.K r d) (hm : X.mg x = none) (hv : bootBuiltins x = some (.type T)) (ha : OA X (e :: es) tas q fa) (hg : Gl X x := by rfl) (hn : x ≠ "__name__" := by decide) (hdb : (x == ("__debug__" : Str)) = false := by decide)
    (he : starEach (e :: es) X.env = (false, eval e X.env) :: starEach es X.env := by rfl) (hpl : (backTo pos (starEach es X.env)).any (·.1) = false := by rfl) : OE X (.Call (.Name x p) (e :: es) [] pos) (tCB r tas) q (oO d fa) := ⟨pe_callTy hc hg hm hv ha.pa hn hdb he hpl, sem_opA ha.sem hd⟩
theorem ne_ty {T : String} {r : List V → Hp → VK → Prop} {d : List D → Option D} (hc : CallR X (.type T) r) (hd : SemCN X.mg X.K r d) (hm : X.mg x = none) (hv : bootBuiltins x = some (.type T)) (ha : OA X (e :: es) tas q fa) (hg : Gl X x := by rfl) (hn : x ≠ "__name__" := by decide) (hdb : (x == ("__debug__" : Str)) = false := by decide)
    (he : starEach (e :: es) X.env = (false, eval e X.env) :: starEach es X.env := by rfl) (hpl : (backTo pos (starEach es X.env)).any (·.1) = false := by rfl) : NE X (.Call (.Name x p) (e :: es) [] pos) (tCB r tas) q (nO d fa) := ⟨pe_callTy hc hg hm hv ha.pa hn hdb he hpl, sem_newA ha.sem hd⟩
theorem ne_blt {id : String} {r : List V → Hp → VK → Prop} {d : List D → Option D} (hc : CallR X (.builtin id) r) (hd : SemCN X.mg X.K r d) (hm : X.mg x = none) (hv : bootBuiltins x = some (.builtin id)) (ha : OA X (e :: es) tas q fa) (hg : Gl X x := by rfl) (hn : x ≠ "__name__" := by decide) (hdb : (x == ("__debug__" : Str)) = false := by decide)
    (he : starEach (e :: es) X.env = (false, eval e X.env) :: starEach es X.env := by rfl) (hpl : (backTo pos (starEach es X.env)).any (·.1) = false := by rfl) : NE X (.Call (.Name x p) (e :: es) [] pos) (tCB r tas) q (nO d fa) := ⟨pe_callB hc hg hm hv ha.pa hn hdb he hpl, sem_newA ha.sem hd⟩
/-- isinstance(e, T), T a built-in type -/
def rIsiV (K : PySem.W.Frag) (n : String) : List V → Hp → VK → Prop := fun xs H Q => rIsi K xs H Q
theorem sem_isi {mg : Str → Option Value} {K : PySem.W.Frag} {n : String} {ta : TE} {q : Bool} {f : FE} (ha : Sem mg K (LV mg K) ta q f) : Sem mg K (LV mg K) (tCB (rIsi K) (tCons ta (tCons (tC (.ty n)) tNil))) (q && true) (oO (dIsi n) (aC f aN)) := by
  have h0 := sem_cons ha sem_nil
  intro E F env σ H x env' rr e Q k
  unfold oO at e
  obtain ⟨⟨xs, e1⟩, h1, e⟩ := Option.bind_eq_some_iff.mp e
  obtain ⟨ds, h2, e⟩ := Option.bind_eq_some_iff.mp e
  obtain ⟨z, h3, e⟩ := Option.bind_eq_some_iff.mp e
  cases e
  refine h0 E F env σ H xs e1 rr h1 (fun vs H2 => match vs with | [x] => rIsi K [x, .ty n] H2 Q | _ => False) fun F1 H1 vs l1 r1 lv1 q1 => ?_
  obtain ⟨a, rfl⟩ := aC1 h1
  obtain ⟨x, rfl⟩ := LVA.one lv1
  have vw := r1.views lv1 h2
  cases vw with
  | cons v1 t =>
    cases t
    obtain ⟨t, b, i1, i2, i3⟩ := isi_ok r1.sub v1 h3
    subst i3
    exact ⟨x, .ty n, .type t, .type n, b, rfl, .ty n, i1, i2, k F1 H1 _ l1 r1 (.bl b) q1⟩
theorem oe_isi {n : String} {y : Str} {p2 : Pos} (hm : X.mg "isinstance" = none) (hmy : X.mg y = none) (hv : bootBuiltins y = some (.type n)) (ha : OE X a ta q f) (hb : bootBuiltins "isinstance" = some (.builtin "isinstance") := by decide +kernel) (hg : Gl X "isinstance" := by rfl) (hgy : Gl X y := by rfl) (hn : y ≠ "__name__" := by decide) (hdb : (y == ("__debug__" : Str)) = false := by decide)
    (he : starEach [a, .Name y p2] X.env = [(false, eval a X.env), (false, eval (.Name y p2) X.env)] := by rfl) (he2 : starEach [.Name y p2] X.env = [(false, eval (.Name y p2) X.env)] := by rfl) {K0 : PySem.W.Frag} (hK0 : X.K = K0 := by rfl) : OE X (.Call (.Name "isinstance" p) [a, .Name y p2] [] pos) (tCB (rIsi K0) (tCons ta (tCons (tC (.ty n)) tNil))) (q && true) (oO (dIsi n) (aC f aN)) := by
  subst hK0; exact (⟨pe_callB call_isi hg hm hb (pa_cons ha.pe (pa_cons (pe_bltn hgy hmy hv rfl hn hdb) pa_nil (by rw [he2]; rfl)) (by rw [he, he2])) (by decide) (by decide) (by rw [he, he2]) (by rw [he2]; rfl), sem_isi ha.sem⟩)
/-! a def -/
theorem oe_call {K0 : PySem.W.Frag} {mg0 : Str → Option Value} {k : Nat} {u : Addr} {fd : FuncData} {ps : List Str} {io : List Bool} {ff : FF} (G : FnOk X.prog X.w X.K X.mg X.base CX0 k u fd ps (spF mg0 K0 io ff)) (hr : Room k X.A) (hm : X.mg x = some (.ref u)) (hk : PySem.W.keepIn X.K (.ref u) = true) (hb : Binds X.K fd ps []) (ha : OA X (e :: es) tas q fa)
    (hx : Passes CX0 X E0 := by exact pass0) (hg : Gl X x := by rfl) (hdb : (x == ("__debug__" : Str)) = false := by decide) (he : starEach (e :: es) X.env = (false, eval e X.env) :: starEach es X.env := by rfl) (hpl : (backTo pos (starEach es X.env)).any (·.1) = false := by rfl) (hK0 : X.K = K0 := by rfl) (hmg0 : X.mg = mg0 := by rfl) :
    OE X (.Call (.Name x p) (e :: es) [] pos) (tCall (spF mg0 K0 io ff) [] E0 tas) false (oCall io ff fa) := by
  subst hK0; subst hmg0; exact (⟨pe_call G hr hg hm hk hb .nil hx ha.pa hdb he hpl, sem_call ha.sem⟩)
theorem oe_callQ {K0 : PySem.W.Frag} {mg0 : Str → Option Value} {k n : Nat} {u : Addr} {fd : FuncData} {ps : List Str} {ff : FF} (G : FnOk X.prog X.w X.K X.mg X.base CX0 k u fd ps (spF mg0 K0 (List.replicate n false) ff)) (hr : Room k X.A) (hm : X.mg x = some (.ref u)) (hk : PySem.W.keepIn X.K (.ref u) = true) (hb : Binds X.K fd ps []) (ha : OA X (e :: es) tas q fa)
    (hx : Passes CX0 X E0 := by exact pass0) (hg : Gl X x := by rfl) (hdb : (x == ("__debug__" : Str)) = false := by decide) (he : starEach (e :: es) X.env = (false, eval e X.env) :: starEach es X.env := by rfl) (hpl : (backTo pos (starEach es X.env)).any (·.1) = false := by rfl) (hK0 : X.K = K0 := by rfl) (hmg0 : X.mg = mg0 := by rfl) :
    OE X (.Call (.Name x p) (e :: es) [] pos) (tCall (spF mg0 K0 (List.replicate n false) ff) [] E0 tas) q (oCallQ n ff fa) := by
  subst hK0; subst hmg0; exact (⟨pe_call G hr hg hm hk hb .nil hx ha.pa hdb he hpl, sem_callQ ha.sem⟩)
end
end FL

set_option maxHeartbeats 2000000
/-! FL17: statements, comprehensions, defs by the syntax. -/
namespace FL
open PySem PySem.Spec L2

section
variable {X : Cx} {e a b c : Expr} {es : List Expr} {t ta tb tc : TE} {tt : TT} {tas : TA} {ts us : TS} {q q' q'' : Bool} {f g h : FE} {ft gt : FT} {fa : FA} {fn : FN} {fs gs : FS} {pos p pos' : Pos} {i j l : Nat} {x y z : Str} {st : Stmt} {sts body : List Stmt}
theorem sb_nil : SB X [] tNext sPass := ⟨pss_nil, sem_pass⟩
theorem sb_one (h : SS X st ts fs) : SB X [st] ts fs := ⟨pss_one h.ps, h.sem⟩
theorem sb_cons (h : SS X st ts fs) (r : SB X sts us gs) : SB X (st :: sts) (tSeq ts us) (sSeq fs gs) := ⟨pss_cons h.ps r.ps, sem_seq h.sem r.sem⟩
theorem ss_pass : SS X (.Pass pos) tNext sPass := ⟨ps_pass, sem_pass⟩
theorem ss_brk : SS X (.Break pos) tBreak sBrk := ⟨ps_break, sem_brk⟩
theorem ss_cnt : SS X (.Continue pos) tCont sCnt := ⟨ps_continue, sem_cnt⟩
theorem ss_never : SS X st tNever sNever := ⟨ps_never, sem_never⟩
theorem ss_expr (he : OE X e t q f) (hs : swapsWith e none pos.line X.env = pure false := by rfl) : SS X (.Expr e pos) (tDrop t) (sDrop f) := ⟨ps_expr he.pe hs, sem_drop he.sem⟩
theorem ss_ret (he : OE X e t q f) : SS X (.Return (some e) pos) (tRet t) (sRet f) := ⟨ps_ret he.pe, sem_ret he.sem⟩
theorem ss_retN : SS X (.Return none pos) tRetN sRetN := ⟨ps_retN, sem_retN⟩
theorem ss_if {sb : List Stmt} (hc : OT X c tt q ft) (ha : SB X body ts fs) (hb : SB X sb us gs) : SS X (.If c body sb pos) (tIfS tt ts us) (sIf ft fs gs) := ⟨ps_if hc.pt ha.ps hb.ps, sem_ifS hc.sem ha.sem hb.sem⟩
theorem ss_set (hN : X.N.Nodup) (he : OE X e t q f) (hi : X.N[i]? = some x := by rfl) (hx : Loc X.env.scope x := by first | exact .inl rfl | exact .inr rfl) (hs : swapsWith e (some (.Name x pos')) pos.line X.env = pure false := by rfl) (hf : X.fn x = true ∨ X.env.scope.names.lookup x = some .local := by first | exact .inl rfl | exact .inr rfl) :
    SS X (.Assign [.Name x pos'] e pos) (tAsg t (gName i)) (sSet i f) := ⟨ps_set hN hi hx he.pe hs hf, sem_set he.sem⟩
theorem ss_setN (hN : X.N.Nodup) (he : NE X e t q fn) (hi : X.N[i]? = some x := by rfl) (hx : Loc X.env.scope x := by first | exact .inl rfl | exact .inr rfl) (hs : swapsWith e (some (.Name x pos')) pos.line X.env = pure false := by rfl) (hf : X.fn x = true ∨ X.env.scope.names.lookup x = some .local := by first | exact .inl rfl | exact .inr rfl) :
    SS X (.Assign [.Name x pos'] e pos) (tAsg t (gName i)) (sSetN i fn) := ⟨ps_set hN hi hx he.pe hs hf, sem_setN he.sem⟩
/-! targets -/
theorem sg_name (hN : X.N.Nodup) (hi : X.N[i]? = some x := by rfl) (hx : Loc X.env.scope x := by first | exact .inl rfl | exact .inr rfl) (hf : X.fn x = true ∨ X.env.scope.names.lookup x = some .local := by first | exact .inl rfl | exact .inr rfl) : SG X (.Name x pos) (gName i) [i] (gN i) := ⟨pg_name hN hi hx hf, semg_name i⟩
theorem sgs_nil : SGs X [] gNil [] gZ := ⟨pgs_nil, semg_nil⟩
theorem sgs_cons {is js : List Nat} {tg : TG} {tgs : TGs} {dg : D → Ev → Option Ev} {dgs : List D → Ev → Option Ev} (h1 : SG X e tg is dg) (h2 : SGs X es tgs js dgs) (hs : (assignEach (e :: es) X.env).map (·.2) = assign e X.env :: (assignEach es X.env).map (·.2) := by rfl) : SGs X (e :: es) (gCons tg tgs) (is ++ js) (gC dg dgs) := ⟨pgs_cons h1.pg h2.pg hs, semg_cons h1.sem h2.sem⟩
theorem sg_tup {is : List Nat} {k : Nat} (n : Nat) {tgs : TGs} {dgs : List D → Ev → Option Ev} (hc : X.calm = true) (h : SGs X es tgs is dgs) (hn : (assignEach es X.env).length = n := by rfl) (hst : (assignEach es X.env).findIdx? (·.1) = none := by rfl) {K0 : PySem.W.Frag} (hK0 : X.K = K0 := by rfl) : SG X (.Tuple es k pos) (gTupA K0 n tgs) is (gT n dgs) := by
  subst hK0; exact (⟨pg_tupA (pg_tup hc h.pg hn hst) (pg_unl hc h.pg hn hst), semg_tup h.sem⟩)
theorem ss_asg {tg : Expr} {u : TG} {is : List Nat} {dg : D → Ev → Option Ev} (he : OE X e t q f) (hg : SG X tg u is dg) (hs : swapsWithSole [tg] e pos.line X.env = pure false := by rfl) (hw : swappedStores [tg] e X.env = pure none := by rfl)
    (h1 : (assignEach [tg] X.env).map (·.2) = [assign tg X.env] := by rfl) : SS X (.Assign [tg] e pos) (tAsg t u) (sAsg f dg) := ⟨ps_asg he.pe hg.pg hs hw h1, sem_asg he.sem hg.sem⟩
/-! own things changed -/
theorem ss_app {ap : Pos} (ho : PE X a (tVar i)) (he : OE X e t q f) (hbase : attributeBase a "append" X.env (eval a X.env) = eval a X.env := by rfl)
    (hfew : ((backTo p (starEach (e :: []) X.env)).all (fun x => !x.1) && (backToKw p (keywordEach [] X.env)).all (fun x => x.1.isSome) && decide ((e :: []).length + ([] : List Keyword).length + (if ([] : List Keyword).isEmpty then 0 else 1) < 30)) = true := by rfl)
    (hline : (ap.endLine == p.line) = true := by rfl) (hst : starEach (e :: []) X.env = (false, eval e X.env) :: starEach [] X.env := by rfl) (hplain : (backTo p (starEach [] X.env)).any (·.1) = false := by rfl)
    (hs : swapsWith (.Call (.Attribute a "append" ap) [e] [] p) none pos.line X.env = pure false := by rfl) :
    SS X (.Expr (.Call (.Attribute a "append" ap) [e] [] p) pos) (tDrop (tBM X.K "list" rAppend (tVar i) (tCons t tNil))) (sMeth i appD f) :=
  ⟨ps_expr (pe_bm PySem.F.plainAttrs_list PySem.F.slot_list_append PySem.F.type_list_append mt_append ho (pa_cons he.pe pa_nil hst) hbase hfew hline hst hplain) hs, sem_app he.sem⟩
theorem ss_ext {ap : Pos} (ho : PE X a (tVar i)) (he : OE X e t q f) (hbase : attributeBase a "extend" X.env (eval a X.env) = eval a X.env := by rfl)
    (hfew : ((backTo p (starEach (e :: []) X.env)).all (fun x => !x.1) && (backToKw p (keywordEach [] X.env)).all (fun x => x.1.isSome) && decide ((e :: []).length + ([] : List Keyword).length + (if ([] : List Keyword).isEmpty then 0 else 1) < 30)) = true := by rfl)
    (hline : (ap.endLine == p.line) = true := by rfl) (hst : starEach (e :: []) X.env = (false, eval e X.env) :: starEach [] X.env := by rfl) (hplain : (backTo p (starEach [] X.env)).any (·.1) = false := by rfl)
    (hs : swapsWith (.Call (.Attribute a "extend" ap) [e] [] p) none pos.line X.env = pure false := by rfl) :
    SS X (.Expr (.Call (.Attribute a "extend" ap) [e] [] p) pos) (tDrop (tBM X.K "list" rExtend (tVar i) (tCons t tNil))) (sMeth i extD f) :=
  ⟨ps_expr (pe_bm PySem.F.plainAttrs_list PySem.F.slot_list_extend PySem.F.type_list_extend mt_extend ho (pa_cons he.pe pa_nil hst) hbase hfew hline hst hplain) hs, sem_ext he.sem⟩
theorem ss_par2 {px py pt : Pos} {kt k2 : Nat} {pt2 : Pos} (hc : X.calm = true) (hN : X.N.Nodup) (ha : OA X [a, b] tas q fa) (hi : X.N[i]? = some x := by rfl) (hj : X.N[j]? = some y := by rfl) (hij : i ≠ j := by decide) (hx : X.env.scope.names.lookup x = some .local := by rfl) (hy : X.env.scope.names.lookup y = some .local := by rfl)
    (hw : swappedStores [.Tuple [.Name x px, .Name y py] kt pt] (.Tuple [a, b] k2 pt2) X.env = pure (some [x, y]) := by rfl) (hs : swapsWithSole [.Tuple [.Name x px, .Name y py] kt pt] (.Tuple [a, b] k2 pt2) pos.line X.env = pure false := by rfl) :
    SS X (.Assign [.Tuple [.Name x px, .Name y py] kt pt] (.Tuple [a, b] k2 pt2) pos) (tPar i j tas) (sPar2 i j fa) := ⟨ps_par hc hN hi hj hij hx hy ha.pa hw hs, sem_par2 ha.sem⟩
theorem ss_par3 {px py pz pt : Pos} {kt k2 : Nat} {pt2 : Pos} (hc : X.calm = true) (hN : X.N.Nodup) (ha : OA X [a, b, c] tas q fa) (hi : X.N[i]? = some x := by rfl) (hj : X.N[j]? = some y := by rfl) (hl : X.N[l]? = some z := by rfl) (hij : i ≠ j := by decide) (hil : i ≠ l := by decide) (hjl : j ≠ l := by decide)
    (hx : X.env.scope.names.lookup x = some .local := by rfl) (hy : X.env.scope.names.lookup y = some .local := by rfl) (hz : X.env.scope.names.lookup z = some .local := by rfl)
    (hw : swappedStores [.Tuple [.Name x px, .Name y py, .Name z pz] kt pt] (.Tuple [a, b, c] k2 pt2) X.env = pure (some [x, y, z]) := by rfl) (hs : swapsWithSole [.Tuple [.Name x px, .Name y py, .Name z pz] kt pt] (.Tuple [a, b, c] k2 pt2) pos.line X.env = pure false := by rfl) :
    SS X (.Assign [.Tuple [.Name x px, .Name y py, .Name z pz] kt pt] (.Tuple [a, b, c] k2 pt2) pos) (tPar3 i j l tas) (sPar3 i j l fa) := ⟨ps_par3 hc hN hi hj hl hij hil hjl hx hy hz ha.pa hw hs, sem_par3 ha.sem⟩
theorem ss_put (hu : X.A.units + 64 < cLine) (ho : PE X a (tVar i)) (hi : OE X b tb q g) (hv : OE X e t q' f) {sp : Pos} (ha : ∀ v, assign (.Subscript a b sp) X.env v = (do
      let ov ← holding [v] (eval a X.env)
      let iv ← holding [v, ov] (eval b X.env)
      standAt sp
      holding [v, ov, iv] (setItem ov iv v)
      release [v, ov, iv] []) := by intro _; rfl) (hs : swapsWithSole [.Subscript a b sp] e pos.line X.env = pure false := by rfl) (hw : swappedStores [.Subscript a b sp] e X.env = pure none := by rfl)
    (h1 : (assignEach [.Subscript a b sp] X.env).map (·.2) = [assign (.Subscript a b sp) X.env] := by rfl) : SS X (.Assign [.Subscript a b sp] e pos) (tAsg t (gSub (tVar i) tb rSetA)) (sPut i g f) :=
  ⟨ps_asg hv.pe (pg_sub ho hi.pe (set_any (by omega)) ha) hs hw h1, sem_put hi.sem hv.sem⟩
/-! loops -/
theorem si_seq {tg : Expr} (h : OE X e t q f) {K0 : PySem.W.Frag} (hK0 : X.K = K0 := by rfl) : SI X tg e (iSeqA K0 t) false (iSq f) := by
  subst hK0; exact (⟨PI.or (pi_list h.pe) (pi_tup h.pe), semi_seq h.sem⟩)
theorem si_seqQ {tg : Expr} (h : OE X e t q f) {K0 : PySem.W.Frag} (hK0 : X.K = K0 := by rfl) : SI X tg e (iSeqA K0 t) q (iSqQ f) := by
  subst hK0; exact (⟨PI.or (pi_list h.pe) (pi_tup h.pe), semi_seqQ h.sem⟩)
theorem si_range1 {tg : Expr} (hm : X.mg "range" = none) (ha : OA X [a] tas q fa) (hg : Gl X "range" := by rfl) (hs : starEach [a] X.env = [(false, eval a X.env)] := by rfl) : SI X tg (.Call (.Name "range" p) [a] [] pos) (iRng1 tas) q (iR1 fa) := ⟨pi_range1 hg hm ha.pa hs, semi_range1 ha.sem⟩
theorem si_range2 {tg : Expr} (hm : X.mg "range" = none) (ha : OA X [a, b] tas q fa) (hg : Gl X "range" := by rfl) (hs : starEach [a, b] X.env = [(false, eval a X.env), (false, eval b X.env)] := by rfl) (hs2 : starEach [b] X.env = [(false, eval b X.env)] := by rfl) : SI X tg (.Call (.Name "range" p) [a, b] [] pos) (iRng2 tas) q (iR2 fa) := ⟨pi_range2 hg hm ha.pa hs hs2, semi_range2 ha.sem⟩
theorem ss_for {tg iter : Expr} {wi : TI} {it : Ev → Option (List D × Ev)} {u : TG} {is : List Nat} {dg : D → Ev → Option Ev} (hc : X.calm = true) (hp : PassesOwn (model X.prog X.w) X.A X.env X.xe) (hi : SI X tg iter wi q it) (hg : SG X tg u is dg) (hb : SB X body ts fs) (hs : ∀ x, foldedSetIterable iter X.env x = pure x := by intro _; rfl) :
    SS X (.For tg iter body [] pos) (tFor wi u ts) (sFor it dg fs) := ⟨ps_for hp hc hi.pi hg.pg hb.ps hs, sem_for hi.sem hg.sem hb.sem⟩
theorem ss_while (n : Nat) (hp : PassesOwn (model X.prog X.w) X.A X.env X.xe) (hc : OT X c tt q ft) (hb : SB X body ts fs) : SS X (.While c body [] pos) (tWhile tt ts) (whD ft fs n) := ⟨ps_while hp hc.pt hb.ps, sem_while n hc.sem hb.sem⟩
/-! comprehensions -/
structure OTs (X : Cx) (ifs : List Expr) (t : TT) (q : Bool) (f : FT) : Prop where
  pt : PTs X ifs t
  sem : Sem X.mg X.K relT t q f
theorem ots_nil : OTs X [] tYes true tY := ⟨pts_nil, sem_yes⟩
theorem ots_one (h : OT X c tt q ft) : OTs X [c] tt q ft := ⟨pts_one h.pt, h.sem⟩
theorem ne_lc {tg iter elt : Expr} {ifs : List Expr} {scope : Scope} {own : List (Str × Nat)} {N0 : List Str} {sc0 : Scope} {wi : TI} {it : Ev → Option (List D × Ev)} {u : TG} {is : List Nat} {dg : D → Ev → Option Ev} (hc : X.calm = true) (hN : X.N.Nodup) (hi : SI X tg iter wi q it) (hN0 : X.N = N0) (hsc0 : X.env.scope = sc0) (ok : blkC N0 sc0 scope own = true)
    (nd : (own.map (·.2)).Nodup) (hiv : ∀ i ∈ is, i ∈ own.map (·.2))
    (hg : ∀ (s : Shared) (H : Hp) (C : Addr) (cl : List (Str × Addr)) (fp : List Addr), SG (X.blk s H scope (compEnvC scope cl C X.env) fp) tg u is dg)
    (ht : ∀ (s : Shared) (H : Hp) (C : Addr) (cl : List (Str × Addr)) (fp : List Addr), OTs (X.blk s H scope (compEnvC scope cl C X.env) fp) ifs tt q' ft)
    (he : ∀ (s : Shared) (H : Hp) (C : Addr) (cl : List (Str × Addr)) (fp : List Addr), OE (X.blk s H scope (compEnvC scope cl C X.env) fp) elt t q'' f) (hs : ∀ x, foldedSetIterable iter X.env x = pure x := by intro _; rfl) :
    NE X (.ListComp elt [⟨tg, iter, ifs, 0⟩] scope pos) (tLc wi u tt t (own.map (·.2))) (q && (q' && q'')) (nLc (own.map (·.2)) it dg ft f) :=
  ⟨pe_lc hc hN hi.pi (blkOk_by (by rw [hN0, hsc0]; exact ok)) (fun s H C cl fp => (hg s H C cl fp).pg) (fun s H C cl fp => (ht s H C cl fp).pt) (fun s H C cl fp => (he s H C cl fp).pe) hs,
   sem_lc nd hiv hi.sem (hg X.s_0 X.H_0 0 [] []).sem (ht X.s_0 X.H_0 0 [] []).sem (he X.s_0 X.H_0 0 [] []).sem⟩
theorem ss_setLc {tg iter elt : Expr} {ifs : List Expr} {scope : Scope} {own : List (Str × Nat)} {N0 : List Str} {sc0 : Scope} {wi : TI} {it : Ev → Option (List D × Ev)} {u : TG} {is : List Nat} {dg : D → Ev → Option Ev} {py spos : Pos} (hc : X.calm = true) (hN : X.N.Nodup) (hy : X.N[i]? = some y) (hyl : X.env.scope.names.lookup y = some .local)
    (hsw : swapsWith (.ListComp elt [⟨tg, iter, ifs, 0⟩] scope pos) (some (.Name y py)) spos.line X.env = pure true) (hi : SI X tg iter wi q it) (hN0 : X.N = N0) (hsc0 : X.env.scope = sc0) (ok : blkC N0 sc0 scope own = true)
    (nd : (own.map (·.2)).Nodup) (hiv : ∀ i ∈ is, i ∈ own.map (·.2))
    (hg : ∀ (s : Shared) (H : Hp) (C : Addr) (cl : List (Str × Addr)) (fp : List Addr), SG (X.blk s H scope (compEnvC scope cl C X.env) fp) tg u is dg)
    (ht : ∀ (s : Shared) (H : Hp) (C : Addr) (cl : List (Str × Addr)) (fp : List Addr), OTs (X.blk s H scope (compEnvC scope cl C X.env) fp) ifs tt q' ft)
    (he : ∀ (s : Shared) (H : Hp) (C : Addr) (cl : List (Str × Addr)) (fp : List Addr), OE (X.blk s H scope (compEnvC scope cl C X.env) fp) elt t q'' f) (hs : ∀ x, foldedSetIterable iter X.env x = pure x := by intro _; rfl) :
    SS X (.Assign [.Name y py] (.ListComp elt [⟨tg, iter, ifs, 0⟩] scope pos) spos) (tAsg (tLc wi u tt t (own.map (·.2))) (gName i)) (sSet i (oN (nLc (own.map (·.2)) it dg ft f))) :=
  ⟨ps_setLc hc hN hy hyl hsw hi.pi (blkOk_by (by rw [hN0, hsc0]; exact ok)) (fun s H C cl fp => (hg s H C cl fp).pg) (fun s H C cl fp => (ht s H C cl fp).pt) (fun s H C cl fp => (he s H C cl fp).pe) hs,
   sem_set (sem_ofNew (sem_lc nd hiv hi.sem (hg X.s_0 X.H_0 0 [] []).sem (ht X.s_0 X.H_0 0 [] []).sem (he X.s_0 X.H_0 0 [] []).sem))⟩
theorem ss_setLcN {tg iter elt : Expr} {ifs : List Expr} {scope : Scope} {own : List (Str × Nat)} {N0 : List Str} {sc0 : Scope} {wi : TI} {it : Ev → Option (List D × Ev)} {u : TG} {is : List Nat} {dg : D → Ev → Option Ev} {py spos : Pos} (hc : X.calm = true) (hN : X.N.Nodup) (hy : X.N[i]? = some y) (hyl : X.env.scope.names.lookup y = some .local)
    (hsw : swapsWith (.ListComp elt [⟨tg, iter, ifs, 0⟩] scope pos) (some (.Name y py)) spos.line X.env = pure true) (hi : SI X tg iter wi q it) (hN0 : X.N = N0) (hsc0 : X.env.scope = sc0) (ok : blkC N0 sc0 scope own = true)
    (nd : (own.map (·.2)).Nodup) (hiv : ∀ i ∈ is, i ∈ own.map (·.2))
    (hg : ∀ (s : Shared) (H : Hp) (C : Addr) (cl : List (Str × Addr)) (fp : List Addr), SG (X.blk s H scope (compEnvC scope cl C X.env) fp) tg u is dg)
    (ht : ∀ (s : Shared) (H : Hp) (C : Addr) (cl : List (Str × Addr)) (fp : List Addr), OTs (X.blk s H scope (compEnvC scope cl C X.env) fp) ifs tt q' ft)
    (he : ∀ (s : Shared) (H : Hp) (C : Addr) (cl : List (Str × Addr)) (fp : List Addr), OE (X.blk s H scope (compEnvC scope cl C X.env) fp) elt t q'' f) (hs : ∀ x, foldedSetIterable iter X.env x = pure x := by intro _; rfl) :
    SS X (.Assign [.Name y py] (.ListComp elt [⟨tg, iter, ifs, 0⟩] scope pos) spos) (tAsg (tLc wi u tt t (own.map (·.2))) (gName i)) (sSetN i (nLc (own.map (·.2)) it dg ft f)) :=
  ⟨ps_setLc hc hN hy hyl hsw hi.pi (blkOk_by (by rw [hN0, hsc0]; exact ok)) (fun s H C cl fp => (hg s H C cl fp).pg) (fun s H C cl fp => (ht s H C cl fp).pt) (fun s H C cl fp => (he s H C cl fp).pe) hs,
   sem_setN (sem_lc nd hiv hi.sem (hg X.s_0 X.H_0 0 [] []).sem (ht X.s_0 X.H_0 0 [] []).sem (he X.s_0 X.H_0 0 [] []).sem)⟩
end
open PyProof.Rows in
/-- a def by its body -/
theorem okF {P : Program} {w : World} {K : PySem.W.Frag} {mg : Str → Option Value} {base : Heap} {n qual : Str} {params : Arguments} {body : List Stmt} {scope : Scope} {dvs : List V} {kws : List (Str × V)} {f : Addr} {fd : FuncData} {N ps : List Str} {k : Nat} {io : List Bool} {b : FS}
    (F : FunD K n qual params body scope dvs kws f fd) (S : FnScope N ps scope) (hio : io.length = ps.length) (hps : ps.length ≤ N.length)
    (hbody : ∀ (cdv : Value) (A : Around) (outer : List Env) (s : Shared) (H : Hp) (EX : XK), Room k (A.deeper (envOfC qual scope s.heap.objs.size f cdv)) → ∃ t, SB (cxOf CX0 P w K mg base N qual scope f cdv A outer s H EX).nox body t b) :
    FnOk P w K mg base CX0 (k + 1) f fd ps (spF mg K io (mkF N.length io b)) := by
  refine F.ok S (spF_len hio) (fun cdv A outer s H vs Q EX hr h => ?_)
  obtain ⟨t, ht⟩ := hbody cdv A outer s H EX hr
  exact ⟨t, ht.ps.nox, body_spF ht.sem (by rw [hio]; exact hps) h⟩
end FL

set_option maxHeartbeats 2000000
/-! FL18: sorted, chains, len(range(..)), written dicts. -/
namespace FL
open PySem PySem.Spec L2

/-! ### a < b < c -/
def oChain (d1 d2 : List D → Option D) (f g h : FE) : FE := fun env => (f env).bind fun r => (g r.2).bind fun s => (r.1.read s.2).bind fun x => (s.1.read s.2).bind fun y => (d1 [x, y]).bind fun z => match z with
  | .bool true => (h s.2).bind fun u => (s.1.read u.2).bind fun y2 => (u.1.read u.2).bind fun w => (d2 [y2, w]).bind fun v => some (.c v, u.2)
  | .bool false => some (.c (.bool false), s.2)
  | _ => none
section
variable {mg : Str → Option Value} {K : PySem.W.Frag}
theorem sem_chain {ta tb tc : TE} {q q' q'' : Bool} {f g h : FE} {r r' : R2} {d1 d2 : List D → Option D} (ha : Sem mg K (LV mg K) ta q f) (hb : Sem mg K (LV mg K) tb q' g) (hc : Sem mg K (LV mg K) tc q'' h) (h1 : SemB mg K r d1) (h2 : SemB mg K r' d2) :
    Sem mg K (LV mg K) (tChain r r' ta tb tc) ((q && q') && q'') (oChain d1 d2 f g h) := by
  intro E F env σ H x env' rr e Q k
  unfold oChain at e
  obtain ⟨⟨x1, e1⟩, a1, e⟩ := Option.bind_eq_some_iff.mp e
  obtain ⟨⟨x2, e2⟩, a2, e⟩ := Option.bind_eq_some_iff.mp e
  obtain ⟨dx, a3, e⟩ := Option.bind_eq_some_iff.mp e
  obtain ⟨dy, a4, e⟩ := Option.bind_eq_some_iff.mp e
  obtain ⟨z, a5, e⟩ := Option.bind_eq_some_iff.mp e
  refine ha E F env σ H x1 e1 rr a1 _ fun F1 H1 v1 l1 r1 lv1 q1 => ?_
  refine hb E F1 e1 σ H1 x2 e2 r1 a2 _ fun F2 H2 v2 l2 r2 lv2 q2 => ?_
  have q12 := qAnd q1 q2
  refine h1 F2 H2 v1 v2 dx dy z _ r2.sub (r2.view (lv1.mono l2) a3) (r2.view lv2 a4) a5 fun F3 H3 w gr zz => ?_
  have r3 := r2.grow gr
  cases z with
  | bool b =>
    have ew : w = .bl b := (Vw.fz (H := H3) zz).bl
    refine ⟨b, ew, ?_⟩
    cases b with
    | false =>
      cases e
      exact iteF (k F3 H3 _ ((l1.trans l2).trans gr.f) r3 (.bl false) (qIte (qGrow q12 gr)))
    | true =>
      obtain ⟨⟨x3, e3⟩, b1, e⟩ := Option.bind_eq_some_iff.mp e
      obtain ⟨y2, b2, e⟩ := Option.bind_eq_some_iff.mp e
      obtain ⟨w3, b3, e⟩ := Option.bind_eq_some_iff.mp e
      obtain ⟨v, b4, e⟩ := Option.bind_eq_some_iff.mp e
      cases e
      refine iteT (hc E F3 e2 σ H3 x3 _ r3 b1 _ fun F4 H4 v4 l4 r4 lv4 q4 => ?_)
      exact h2 F4 H4 v2 v4 y2 w3 v Q r4.sub (r4.view ((lv2.mono gr.f).mono l4) b2) (r4.view lv4 b3) b4 fun F5 H5 v5 g5 z5 => k F5 H5 v5 ((((l1.trans l2).trans gr.f).trans l4).trans g5.f) (r4.grow g5) z5 (qGrow (qAnd (qGrow q12 gr) q4) g5)
  | _ => cases e
end
section
variable {X : Cx} {a b c : Expr} {ta tb tc : TE} {q q' q'' : Bool} {f g h : FE} {pos : Pos}
theorem oe_chain {op op' : CmpOp} {r r' : R2} {d1 d2 : List D → Option D} (ho : OpR X (compareOp op) r) (h1 : SemB X.mg X.K r d1) (ho' : OpR X (compareOp op') r') (h2 : SemB X.mg X.K r' d2) (ha : OE X a ta q f) (hb : OE X b tb q' g) (hc : OE X c tc q'' h)
    (hm : lastMarks [op, op'] [b, c] = false := by with_unfolding_all rfl) : OE X (.Compare a [op, op'] [b, c] pos) (tChain r r' ta tb tc) ((q && q') && q'') (oChain d1 d2 f g h) := ⟨pe_chain ho ho' ha.pe hb.pe hc.pe hm, sem_chain ha.sem hb.sem hc.sem h1 h2⟩
theorem ot_chain {op op' : CmpOp} {r r' : R2} {d1 d2 : List D → Option D} (ho : OpR X (compareOp op) r) (h1 : SemB X.mg X.K r d1) (ho' : OpR X (compareOp op') r') (h2 : SemB X.mg X.K r' d2) (ha : OE X a ta q f) (hb : OE X b tb q' g) (hc : OE X c tc q'' h)
    (hm : lastMarks [op, op'] [b, c] = false := by with_unfolding_all rfl) : OT X (.Compare a [op, op'] [b, c] pos) (tTest (tChain r r' ta tb tc)) ((q && q') && q'') (tO (oChain d1 d2 f g h)) := ⟨pt_chain ho ho' ha.pe hb.pe hc.pe hm, sem_test (sem_chain ha.sem hb.sem hc.sem h1 h2)⟩
end

/-! ### sorted of data -/
open PySem.W in
def rSortedD (K : PySem.W.Frag) : List V → Hp → VK → Prop := fun vs H Q => ∃ (a : Addr) (bs : List (V × D)), vs = [.ref a] ∧ SqL K H a (bs.map (·.1)) ∧ (∀ b ∈ bs, Dp K H b.1 b.2) ∧ AllAlike (bs.map (·.2)) ∧ Sortable (bs.map (·.2)) ∧ bs.length ≤ sizeLine ∧ (∀ b ∈ bs, b.2.depth ≤ 64) ∧
  ∀ p, H p = none → Q (.ref p) (upd H p (.lst ((bs.mergeSort (dataLe false (·.2))).map (·.1))))
open PySem.W in
theorem cr_sortedD {X : Cx} (hu : X.A.units + 70 < cLine) : CallR X (.builtin "sorted") (rSortedD X.K) := by
  intro pins s σ H vs us Q I r h
  obtain ⟨a, bs, rfl, hs, hd, hal, hso, hz, hdp, q⟩ := h
  obtain ⟨its, rv, hl, _⟩ := I.list hs
  rw [Vals.ref1 r]
  have each : ∀ {bs : List (V × D)} {its : List Value}, Vals (bs.map (·.1)) its → (∀ b ∈ bs, Dp X.K H b.1 b.2) → EachIs (fun v b => RelV b.1 v ∧ ∃ as, Reads s.heap v b.2 as) its bs := by
    intro bs
    induction bs with
    | nil => intro its rv _; cases rv; exact .nil
    | cons b r ih =>
      intro its rv hd
      cases rv with
      | cons r1 r2 => exact .cons ⟨r1, Dp.reads I b.2 b.1 _ (hd b List.mem_cons_self) r1⟩ (ih r2 fun c hc => hd c (List.mem_cons_of_mem _ hc))
  have e0 := each rv hd
  refine sorted_data (R := fun v b => RelV b.1 v) (enc := fun b : V × D => b.2) hl.isList (e0.mono fun _ _ h => h.1) (e0.mono fun _ _ h => h.2) hal hso hz (fun b hb => by have := hdp b hb; show X.A.units + 2 + b.2.depth < cLine; omega) fun out hlen eo => ?_
  obtain ⟨ep, he'⟩ := PyProof.Rows.sortedAll_at s.heap its out.toArray
  have back : ∀ {bs : List (V × D)} {out : List Value}, EachIs (fun v b => RelV b.1 v) out bs → Vals (bs.map (·.1)) out := by
    intro bs out h
    induction h with
    | nil => exact .nil
    | cons h _ ih => exact .cons h ih
  have hv := back eo
  refine ⟨.ref _, upd H (s.heap.objs.size + 1) (.lst ((bs.mergeSort (dataLe false (·.2))).map (·.1))), I.laid (t' := s.toks) (fun _ _ => PyProof.Rows.sortedAll_old) (Nat.le_succ _) ⟨?_, out, ep, hv, he'⟩, rfl, q _ (I.hok.fresh (Nat.le_succ _))⟩
  rw [List.length_map, List.length_mergeSort]
  exact hz
/-- may be sorted -/
def sortOk (ds : List D) : Bool := ds.all (fun d => ds.all fun e => PySem.W.alike d e) && (ds.all (fun d => match d with | .tuple (_ :: _) => true | _ => false) || ds.all fun d => match d with | .int _ => true | .str _ => true | .bool _ => true | _ => false) &&
  ds.all (fun d => SeqAt.shaped d) && decide (ds.length ≤ big)
def sortD (ds : List D) : List D := ds.mergeSort (PySem.W.dataLe false id)
def dSort : List D → Option D
  | [c] => match c with
    | .list ds => if sortOk ds = true then some (.list (sortD ds)) else none
    | _ => none
  | _ => none
section
variable {mg : Str → Option Value} {K : PySem.W.Frag}
open PySem.W in
theorem sem_sort : SemCN mg K (rSortedD K) dSort := by
  intro F H xs ds z Q l vx e k
  unfold dSort at e
  split at e
  · rename_i c
    obtain ⟨v, rfl, vv⟩ := vx.one
    split at e
    · rename_i es
      split at e
      · rename_i ok
        cases e
        obtain ⟨a, vs, rfl, h, r⟩ := vv.lst l
        unfold sortOk at ok
        rw [Bool.and_eq_true, Bool.and_eq_true, Bool.and_eq_true] at ok
        obtain ⟨⟨⟨o1, o2⟩, o3⟩, o4⟩ := ok
        have zl := r.len
        have m1 : (vs.zip es).map (·.1) = vs := List.map_fst_zip (by omega)
        have m2 : (vs.zip es).map (·.2) = es := List.map_snd_zip (by omega)
        have zz : ∀ {vs : List V} {es : List D}, FzA mg K F vs es → ∀ b ∈ vs.zip es, Fz mg K F b.1 b.2 := by
          intro vs
          induction vs with
          | nil => intro es _ b hb; cases hb
          | cons w ws ih =>
            intro es r b hb
            cases r with
            | cons h t =>
              rcases List.mem_cons.mp hb with rfl | hb
              · exact h
              · exact ih t b hb
        have shp : ∀ d ∈ es, SeqAt.shaped d = true := List.all_eq_true.mp o3
        refine ⟨a, vs.zip es, rfl, by rw [m1]; exact SqL.of h, fun b hb => ?_, by rw [m2]; exact fun d hd d' hd' => List.all_eq_true.mp (List.all_eq_true.mp o1 d hd) d' hd', ?_, ?_, fun b hb => ?_, fun p hp => ?_⟩
        · have := List.of_mem_zip hb
          exact ((zz r b hb).mono l).dp (SeqAt.canLay_of_shaped (shp _ this.2))
        · rw [m2]
          rw [Bool.or_eq_true] at o2
          rcases o2 with o2 | o2
          · refine .inl fun d hd => ?_
            have := List.all_eq_true.mp o2 d hd
            split at this
            · exact ⟨_, _, rfl⟩
            · cases this
          · refine .inr fun d hd => ?_
            have := List.all_eq_true.mp o2 d hd
            split at this
            · exact ⟨(fun z => nomatch z), (fun _ z => nomatch z)⟩
            · exact ⟨(fun z => nomatch z), (fun _ z => nomatch z)⟩
            · exact ⟨(fun z => nomatch z), (fun _ z => nomatch z)⟩
            · cases this
        · have := of_decide_eq_true o4
          rw [List.length_zip]
          exact le_size (by omega)
        · have := List.of_mem_zip hb
          exact SeqAt.depth_of_shaped (shp _ this.2)
        · have fin : FzA mg K F (((vs.zip es).mergeSort (dataLe false (·.2))).map (·.1)) (sortD es) := by
            have e1 : sortD es = ((vs.zip es).mergeSort (dataLe false (·.2))).map (·.2) := by
              have q := List.map_mergeSort (f := fun b : V × D => b.2) (r := dataLe false (fun b : V × D => b.2)) (s := dataLe false id) (l := vs.zip es) (fun _ _ _ _ => rfl)
              rw [q, m2]
              rfl
            rw [e1]
            have all : ∀ l : List (V × D), (∀ b ∈ l, Fz mg K F b.1 b.2) → FzA mg K F (l.map (·.1)) (l.map (·.2)) := by
              intro l
              induction l with
              | nil => intro _; exact .nil
              | cons b r ih => intro h; exact .cons (h b List.mem_cons_self) (ih fun c hc => h c (List.mem_cons_of_mem _ hc))
            exact all _ fun b hb => zz r b (List.mem_mergeSort.mp hb)
          exact k.lst l hp fin
      · cases e
    · cases e
  · cases e

/-! ### len(range(a, b, c)) -/
def rgLen (a b c : Int) : Int := Builtin.Range.rangeSize a b c
/-- a range object, as it stands -/
def rgO (r : Addr) (i j k : Int) : HO := .ext fun h => ∃ t u v, IsRange h r i j k t u v
def rRg3 : List V → Hp → VK → Prop := fun vs H Q => ∃ i j k : Int, vs = [.int i, .int j, .int k] ∧ k ≠ 0 ∧ k.natAbs < 1073741824 ∧ ∀ p, H p = none → Q (.ref p) (upd H p (rgO p i j k))
def rRgLen : List V → Hp → VK → Prop := fun vs H Q => ∃ (p : Addr) (i j k : Int) (n : Nat), vs = [.ref p] ∧ H p = some (rgO p i j k) ∧ rgLen i j k = n ∧ n < 1000000 ∧ Q (.int n) H
def dLenR3 : List D → Option D
  | [.int a, .int b, .int c] => if c ≠ 0 ∧ c.natAbs < 1073741824 ∧ 0 ≤ rgLen a b c ∧ rgLen a b c < 1000000 then some (.int (rgLen a b c)) else none
  | _ => none
theorem sem_lenR3 {ta : TA} {q : Bool} {f : FA} (ha : Sem mg K (LVA mg K) ta q f) : Sem mg K (LV mg K) (tCB rRgLen (tCons (tCB rRg3 ta) tNil)) q (oO dLenR3 f) := by
  intro E F env σ H x env' rr e Q k
  unfold oO at e
  obtain ⟨⟨xs, e1⟩, h1, e⟩ := Option.bind_eq_some_iff.mp e
  obtain ⟨ds, h2, e⟩ := Option.bind_eq_some_iff.mp e
  obtain ⟨z, h3, e⟩ := Option.bind_eq_some_iff.mp e
  cases e
  refine ha E F env σ H xs e1 rr h1 _ fun F1 H1 vs l1 r1 lv1 q1 => ?_
  unfold dLenR3 at h3
  split at h3
  · rename_i a b c
    split at h3
    · rename_i hc
      cases h3
      obtain ⟨u, v, w, rfl, h4, h5, h6⟩ := (r1.views lv1 h2).three
      refine ⟨a, b, c, by rw [h4.int, h5.int, h6.int], hc.1, hc.2.1, fun p hp => ?_⟩
      have g := Grow.loose r1.sub (rgO p a b c) hp
      refine ⟨p, a, b, c, (rgLen a b c).toNat, rfl, upd_same, ?_, ?_, ?_⟩
      · rw [Int.toNat_of_nonneg hc.2.2.1]
      · have := hc.2.2.2; omega
      · rw [Int.toNat_of_nonneg hc.2.2.1]
        exact k F1 _ _ (l1.trans g.f) (r1.grow g) (.int _) (qGrow q1 g)
    · cases h3
  · cases h3
end
section
variable {X : Cx}
open PyProof.Rows in
theorem cr_rg3 : CallR X (.type "range") rRg3 := by
  intro pins s σ H vs us Q I r h
  obtain ⟨i, j, k, rfl, hk, hk2, q⟩ := h
  cases r with
  | cons r1 r => cases r with
    | cons r2 r => cases r with
      | cons r3 r =>
        cases r
        obtain ⟨t, rfl⟩ := r1
        obtain ⟨u, rfl⟩ := r2
        obtain ⟨v, rfl⟩ := r3
        refine call_range_3 hk ⟨.ref s.heap.objs.size, upd H s.heap.objs.size (rgO s.heap.objs.size i j k), I.laid (t' := s.toks) (fun b o e => Heap.get?_push_of_some _ e) (Nat.le_refl _) ?_, rfl, q _ (I.hok.fresh (Nat.le_refl _))⟩ (.inl (PyProof.noPylong_small hk2))
        exact ⟨⟨t, u, v, IsRange.new ..⟩, ⟨_, Heap.get?_push_size _ rfl⟩, fun h1 h2 ⟨t, u, v, q⟩ kk => ⟨t, u, v, kk _ q⟩⟩
theorem cr_rgLen : CallR X (.builtin "len") rRgLen := by
  intro pins s σ H vs us Q I r h
  obtain ⟨p, i, j, k, n, rfl, hp, hn, hn2, q⟩ := h
  cases r with
  | cons r1 r =>
    cases r
    cases r1
    obtain ⟨⟨t, u, v, hr⟩, _⟩ := I.hok p _ hp
    exact call_len_range hr hn (by omega) ⟨.int n, H, (I.tok _).tok _, ⟨_, rfl⟩, q⟩
theorem oe_lenR3 {a b c : Expr} {tas : TA} {q : Bool} {fa : FA} {p1 p2 pos pos2 : Pos} (hl : X.mg "len" = none) (hr : X.mg "range" = none) (ha : OA X [a, b, c] tas q fa) (hgl : Gl X "len" := by rfl) (hgr : Gl X "range" := by rfl)
    (he : starEach [Expr.Call (.Name "range" p2) [a, b, c] [] pos2] X.env = (false, eval (.Call (.Name "range" p2) [a, b, c] [] pos2) X.env) :: starEach [] X.env := by rfl) (hpl0 : (backTo pos (starEach [] X.env)).any (·.1) = false := by rfl)
    (he3 : starEach [a, b, c] X.env = (false, eval a X.env) :: starEach [b, c] X.env := by rfl) (hpl : (backTo pos2 (starEach [b, c] X.env)).any (·.1) = false := by rfl) :
    OE X (.Call (.Name "len" p1) [.Call (.Name "range" p2) [a, b, c] [] pos2] [] pos) (tCB rRgLen (tCons (tCB rRg3 tas) tNil)) q (oO dLenR3 fa) :=
  ⟨pe_callB cr_rgLen hgl hl PySem.boot_len (pa_cons (pe_callTy cr_rg3 hgr hr (by decide +kernel) ha.pa (by decide) (by decide) he3 hpl) pa_nil he) (by decide) (by decide) he hpl0, sem_lenR3 ha.sem⟩
end

/-! ### written dicts -/
def pN : Ev → Option (List (D × D) × Ev) := fun env => some ([], env)
def pC (f g : FE) (r : Ev → Option (List (D × D) × Ev)) : Ev → Option (List (D × D) × Ev) := fun env => (f env).bind fun x => (g x.2).bind fun y => (r y.2).bind fun z => match x.1, y.1 with
  | .c k, .c v => some ((k, v) :: z.1, z.2)
  | _, _ => none
def allKeys (ps : List (D × D)) : Bool := ps.all fun p => (keyD p.1).isSome
def nDict (r : Ev → Option (List (D × D) × Ev)) : FN := fun env => (r env).bind fun x => if allKeys x.1 = true ∧ x.1.length ≤ 15 then some (.dict (x.1.foldl (fun acc p => dput acc p.1 p.2) []), x.2) else none
inductive FzP (mg : Str → Option Value) (K : PySem.W.Frag) (F : Hp) : List (V × V) → List (D × D) → Prop
  | nil : FzP mg K F [] []
  | cons {x y : V} {vs : List (V × V)} {k d : D} {ds : List (D × D)} : Fz mg K F x k → Fz mg K F y d → FzP mg K F vs ds → FzP mg K F ((x, y) :: vs) ((k, d) :: ds)
section
variable {mg : Str → Option Value} {K : PySem.W.Frag}
def SemP (mg : Str → Option Value) (K : PySem.W.Frag) (trs : List (TE × TE)) (q : Bool) (f : Ev → Option (List (D × D) × Ev)) : Prop := Sem mg K (fun F _ ds vs => FzP mg K F vs ds) (tPairs trs) q f
theorem FzP.mono {F F' : Hp} (l : Le F F') {vs : List (V × V)} {ds : List (D × D)} (h : FzP mg K F vs ds) : FzP mg K F' vs ds := by
  induction h with
  | nil => exact .nil
  | cons h1 h2 _ ih => exact .cons (h1.mono l) (h2.mono l) ih
theorem semp_nil : SemP mg K [] true pN := by
  intro E F env σ H x env' r e Q k
  cases e
  exact k F H [] (.refl _) r .nil fun _ => ⟨rfl, .refl r.sub⟩
theorem semp_cons {tk tv : TE} {trs : List (TE × TE)} {q q' q'' : Bool} {f g : FE} {h : Ev → Option (List (D × D) × Ev)} (h1 : Sem mg K (LV mg K) tk q f) (h2 : Sem mg K (LV mg K) tv q' g) (h3 : SemP mg K trs q'' h) : SemP mg K ((tk, tv) :: trs) ((q && q') && q'') (pC f g h) := by
  intro E F env σ H x env' r e Q k
  unfold pC at e
  obtain ⟨⟨x1, e1⟩, a1, e⟩ := Option.bind_eq_some_iff.mp e
  obtain ⟨⟨x2, e2⟩, a2, e⟩ := Option.bind_eq_some_iff.mp e
  obtain ⟨⟨x3, e3⟩, a3, e⟩ := Option.bind_eq_some_iff.mp e
  dsimp only at e
  cases x1 with
  | s _ => cases e
  | c k1 =>
    cases x2 with
    | s _ => cases e
    | c d1 =>
      cases e
      refine h1 E F env σ H _ e1 r a1 _ fun F1 H1 v1 l1 r1 z1 q1 => ?_
      refine h2 E F1 e1 σ H1 _ e2 r1 a2 _ fun F2 H2 v2 l2 r2 z2 q2 => ?_
      exact h3 E F2 e2 σ H2 x3 _ r2 a3 _ fun F3 H3 vs l3 r3 z3 q3 => k F3 H3 _ ((l1.trans l2).trans l3) r3 (.cons (Fz.mono (l2.trans l3) z1) (Fz.mono l3 z2) z3) (qAnd (qAnd q1 q2) q3)
theorem fzP_keys {F : Hp} : ∀ {vs : List (V × V)} {ds : List (D × D)}, FzP mg K F vs ds → allKeys ds = true → ∃ kvs : List (Key × V), vs = kvs.map (fun kv => (kV kv.1, kv.2)) ∧ kvs.length = ds.length ∧
    ∀ {acc : List (Key × V)} {l : List (D × D)}, FzK mg K F acc l → FzK mg K F (mergeK acc kvs) (ds.foldl (fun acc p => dput acc p.1 p.2) l)
  | _, _, .nil, _ => ⟨[], rfl, rfl, fun h => h⟩
  | _, _, .cons (k := k) (d := d) h1 h2 t, e => by
    unfold allKeys at e
    rw [List.all_cons, Bool.and_eq_true] at e
    obtain ⟨ky, ek⟩ := Option.isSome_iff_exists.mp e.1
    have ek2 : k = kD ky := keyD_ok ek
    subst ek2
    obtain ⟨kvs, q1, q2, q3⟩ := fzP_keys t e.2
    have hx := (Vw.fz (H := F) h1 : Vw mg K F F _ _).key
    refine ⟨(ky, _) :: kvs, by rw [List.map_cons, ← q1, hx], by rw [List.length_cons, List.length_cons, q2], fun {acc l} h => ?_⟩
    exact q3 (h.put h2 ky)
theorem sem_dict {trs : List (TE × TE)} {q : Bool} {f : Ev → Option (List (D × D) × Ev)} (h : SemP mg K trs q f) : SemN mg K (tDisp trs) q (nDict f) := by
  intro E F env σ H d env' r e Q k
  unfold nDict at e
  obtain ⟨⟨ds, e1⟩, h1, e⟩ := Option.bind_eq_some_iff.mp e
  split at e
  case isFalse => cases e
  rename_i hk
  cases e
  intro p hp
  have hFD : F p = none := r.sub.back hp
  have hED : E.H p = none := by
    cases q : E.H p with
    | none => rfl
    | some o => exact absurd hp (r.fr3 p (by rw [q]; exact Option.some_ne_none _))
  have hEF : E.F p = none := r.base.back hFD
  refine h (E.pin p (.dK [])) F env σ (upd H p (.dK [])) ds e1 (r.pin hp) h1 _ fun F1 H1 vs l1 r1 z q1 => ?_
  obtain ⟨u1, u2, u3⟩ := r1.unpin hEF hED
  obtain ⟨kvs, k1, k2, k3⟩ := fzP_keys z hk.1
  refine ⟨u1, kvs, k1, by rw [k2]; exact hk.2, ?_⟩
  have e2 : upd H1 p (.dK (mergeK [] kvs)) = upd (unp H1 p) p (.dK (mergeK [] kvs)) := by
    funext b
    by_cases w : b = p
    · subst w; rw [upd_same, upd_same]
    · rw [upd_ne w, upd_ne w, unp_ne w]
  rw [e2]
  refine k F1 (unp H1 p) p _ l1 u3 unp_same (.inr (.inl ⟨_, _, rfl, rfl, k3 .nil⟩)) fun hq => ?_
  obtain ⟨a1, a2⟩ := q1 hq
  refine ⟨a1, ?_⟩
  have g := a2.unpin (D := p) hFD (by rw [upd_same]; exact Option.some_ne_none _)
  rw [unp_upd hp] at g
  exact g
end
structure OP (X : Cx) (pos : Pos) (ks : List (Option Expr)) (vs : List Expr) (trs : List (TE × TE)) (q : Bool) (f : Ev → Option (List (D × D) × Ev)) : Prop where
  pp : PPs X pos ks vs trs
  sem : SemP X.mg X.K trs q f
section
variable {X : Cx} {pos : Pos}
theorem op_nil : OP X pos [] [] [] true pN := ⟨pps_nil, semp_nil⟩
theorem op_cons {k v : Expr} {ks : List (Option Expr)} {vs : List Expr} {tk tv : TE} {trs : List (TE × TE)} {q q' q'' : Bool} {f g : FE} {h : Ev → Option (List (D × D) × Ev)} (h1 : OE X k tk q f) (h2 : OE X v tv q' g) (h3 : OP X pos ks vs trs q'' h) : OP X pos (some k :: ks) (v :: vs) ((tk, tv) :: trs) ((q && q') && q'') (pC f g h) :=
  ⟨pps_cons h1.pe h2.pe h3.pp, semp_cons h1.sem h2.sem h3.sem⟩
theorem ne_dict {ks : List (Option Expr)} {vs : List Expr} {trs : List (TE × TE)} {q : Bool} {f : Ev → Option (List (D × D) × Ev)} (h : OP X pos ks vs trs q f) (hall : ks.all (·.isSome) = true := by rfl) (hl : ks.length = vs.length := by rfl) (h0 : ks ≠ [] := by exact List.cons_ne_nil _ _) (h15 : ks.length ≤ 15 := by decide) : NE X (.Dict ks vs pos) (tDisp trs) q (nDict f) :=
  ⟨pe_disp h.pp hall hl h0 h15, sem_dict h.sem⟩
end
theorem hu5_of {k : Nat} {A : Around} (hr : Room k A) : A.units + 65 < cLine := by have := hr.un; omega
theorem hu7_of {k : Nat} {A : Around} (hr : Room k A) : A.units + 70 < cLine := by have := hr.un; omega
/-! rules whose readings name the written part, said for a part of one's own -/
section
variable {X : Cx} (K0 : PySem.W.Frag)
theorem k_eq (hu : X.A.units + 64 < cLine) (hK0 : X.K = K0 := by rfl) : OpR X (compareOp .Eq) (rEqA K0) := by subst hK0; exact op_eqA hu
theorem k_ne (hu : X.A.units + 64 < cLine) (hK0 : X.K = K0 := by rfl) : OpR X (compareOp .NotEq) (rNeA K0) := by subst hK0; exact op_neA hu
theorem k_in (hu : X.A.units + 65 < cLine) (hK0 : X.K = K0 := by rfl) : OpR X (compareOp .In) (rInA K0) := by subst hK0; exact op_inA hu
theorem k_ni (hu : X.A.units + 65 < cLine) (hK0 : X.K = K0 := by rfl) : OpR X (compareOp .NotIn) (rNiA K0) := by subst hK0; exact op_niA hu
theorem k_all (hc : X.calm = true) (hK0 : X.K = K0 := by rfl) : CallR X (.builtin "all") (rAll K0) := by subst hK0; exact cr_all hc
theorem k_any (hc : X.calm = true) (hK0 : X.K = K0 := by rfl) : CallR X (.builtin "any") (rAny K0) := by subst hK0; exact cr_any hc
theorem k_sum (hc : X.calm = true) (hK0 : X.K = K0 := by rfl) : CallR X (.builtin "sum") (rSum K0) := by subst hK0; exact cr_sum hc
theorem k_sorted (hu : X.A.units + 70 < cLine) (hK0 : X.K = K0 := by rfl) : CallR X (.builtin "sorted") (rSortedD K0) := by subst hK0; exact cr_sortedD hu
theorem k_len (hK0 : X.K = K0 := by rfl) : CallR X (.builtin "len") (rLenA K0) := by subst hK0; exact call_lenA
theorem k_list (hK0 : X.K = K0 := by rfl) : CallR X (.type "list") (fun xs H Q => ∃ p ys, xs = [.ref p] ∧ (SqL K0 H p ys ∨ SqT K0 H p ys) ∧ ∀ l, H l = none → Q (.ref l) (upd H l (.lst ys))) := by subst hK0; exact call_list_of
theorem k_tuple (hK0 : X.K = K0 := by rfl) : CallR X (.type "tuple") (fun xs H Q => ∃ p ys, xs = [.ref p] ∧ ((SqL K0 H p ys ∧ ∀ l, H l = none → Q (.ref l) (upd H l (.tup ys))) ∨ (SqT K0 H p ys ∧ Q (.ref p) H))) := by subst hK0; exact call_tuple_of
end
end FL

set_option maxHeartbeats 2000000
/-! FL19: the head: facts by names and one more test; the law's def by its mirror. -/
namespace FL
open PySem PySem.Spec L2
/-- the head's reading: facts, defs, and one more test -/
def obsF (fa : List He.Fa) (fn : List He.DefD) (ex : PySem.W.Frag → Bool) (K : PySem.W.Frag) : Bool × He.AlD := (ex K, He.obsD fa fn K)
def obsFG (n : Nat) (fa : List He.Fa) (fn : List He.DefD) (ex : PySem.W.Frag → Bool) (g : Addr → Option Obj) : Bool × He.AlD := obsF fa fn ex (He.frG g (He.asD g n))
def hookF (n : Nat) (fa : List He.Fa) (fn : List He.DefD) (ex : PySem.W.Frag → Bool) : PySem.W.Hook where
  α := Bool × He.AlD
  obs := fun s => obsFG n fa fn ex s.heap.get?
  val := fun _ => (true, He.valD fn)
  says := fun _ h => ∃ K : PySem.W.Frag, K.In h ∧ ex K = true ∧ He.SaysD fa fn K
  of := fun _ _ e => ⟨_, He.frG_in, congrArg (fun z : Bool × He.AlD => z.1) e, congrArg (fun z : Bool × He.AlD => z.2) e⟩
  keeps := fun _ _ _ ⟨K, hK, c⟩ k => ⟨K, PySem.W.Frag.In.keeps hK k, c⟩
theorem obsFG_eq {n : Nat} {fa : List He.Fa} {fn : List He.DefD} {ex : PySem.W.Frag → Bool} {g : Addr → Option Obj} {s : Shared} (h : ∀ a, g a = s.heap.get? a) : obsFG n fa fn ex g = (hookF n fa fn ex).obs s := by
  have e : g = s.heap.get? := funext h
  rw [e] <;> rfl
/-- strings of a tuple that the top wrote -/
def dvD : He.Dv → D
  | .str x => .str x
  | .int i => .int i
  | .bl b => .bool b
  | _ => .none
def dvOk : He.Dv → Bool
  | .str _ | .int _ | .bl _ | .non => true
  | _ => false
theorem fz_dvs {mg : Str → Option Value} {K : PySem.W.Frag} {F : Hp} : ∀ vs : List He.Dv, vs.all dvOk = true → FzA mg K F (vs.map (He.Dv.v K)) (vs.map dvD)
  | [], _ => .nil
  | v :: r, h => by
    have h2 : dvOk v = true ∧ r.all dvOk = true := by simpa using h
    refine .cons ?_ (fz_dvs r h2.2)
    cases v with
    | non => exact .non
    | bl b => exact .bl b
    | int i => exact .int i
    | str x => exact .str x
    | _ => cases h2.1
section
variable {mg : Str → Option Value} {K : PySem.W.Frag}
/-- the law's promise, at the heap behind the top -/
theorem entry {m : FF} {H : Hp} {a : Addr} {ns : List Int} {o : List D} (hm : m [scrD ns] = some (.bool true, o)) (hS : SqL K H a (ns.map V.int)) (EX : XK) :
    spF mg K [false] m [.ref a] H (fun v _ => v = .bl true) EX := by
  refine ⟨⟨H, H, [some (.ref a)], []⟩, H, [scrD ns], .bool true, o, rfl, rfl, rfl, rfl, rfl, ⟨Le.refl _, Le.refl _, rfl, fun b o e _ => e, fun b e => .inl e, fun b e => e, fun i s d e => ?_, fun _ => [], fun i x e => ?_, fun i b hb => ?_, fun i j b _ hb => ?_⟩, hm, fun F' H' v _ _ h => ?_⟩
  · rcases i with _ | i <;> simp [inE, inSl] at e
  · rcases i with _ | i
    · simp [inE, inSl] at e
      subst e
      exact ⟨_, rfl, .scr hS, rfl⟩
    · simp [inE, inSl] at e
  · cases hb
  · cases hb
  · cases h; rfl
end
theorem walk_F {l : PySem.W.OpenLaw} {n k : Nat} {q : Program} {loose : List Str} {XP : (Str → Option Value) → Heap → Prop} {YP : World → Heap → Prop} {d : DefRec} {x : Str}
    (hn : l.most = some n) (hn2 : n ≤ sizeLine) (hdf : d.params.defaults = []) (hr : Room k callerA) (m : FF)
    (F : ∀ (w : World) (mg : Str → Option Value) (fa : Addr) (h : Heap), YP w h → h.Ns mainGlobals mg → mg d.name = some (.ref fa) →
      ∃ (K : PySem.W.Frag) (fd : FuncData), K.In h ∧ (∀ (s : Shared) (u : Value), BindsTo s fd ⟨[u], []⟩ [(x, u)]) ∧
        ∀ base : Heap, K.In base → base.Ns mainGlobals mg → FnOk l.prog w K mg base CX0 k fa fd [x] (spF mg K [false] m))
    (hm : ∀ ns : List Int, ns.length ≤ n → (∀ z ∈ ns, Builtin.Int.intBits z ≤ 1048576) → ∃ o, m [scrD ns] = some (.bool true, o)) :
    PySem.W.WalkO q loose XP YP l.row.toRowW d [] (fun f vs => PySem.call f vs) := by
  refine Att.attach_callB hn hdf fun w s₀ s₁ mg mb fa o pm cd doc a vs ns G Y ho hd hcd hmg hobj hints hlen hbits hg => ?_
  obtain ⟨K, fd, KX, hb, hF⟩ := F w mg fa _ Y G.T.g hmg
  obtain ⟨os, ho⟩ := hm ns hlen hbits
  exact law_call KX G.T.g G.T.b G.T.builtins G.T.nolimit hg hobj hints (Nat.le_trans hlen hn2) hr hF hb (fun H hO hS => entry ho hS _) fun H e s' z => z
end FL

set_option maxHeartbeats 2000000
/-! M1: the draws of the laws, from their mirrors. -/
namespace FL
open PySem PySem.Spec L2
def g_cell_at : FF := mkF 4 (List.replicate 2 false) ((sSeq (sIf (tO (oO dLt (aC (oV 1) (aC (oO dLen (aC (oV 0) aN)) aN)))) (sRet (oO dIx (aC (oV 0) (aC (oV 1) aN)))) sPass)
  (sSeq (sIf (tO (oO dEq (aC (oV 0) (aC (oN (nLstQ aN)) aN)))) (sRet (oC (.int 0))) sPass)
  (sSeq (sSet 2 (oO dIx (aC (oV 0) (aC (oO dMod (aC (oV 1) (aC (oO dLen (aC (oV 0) aN)) aN))) aN))))
  (sSeq (sFor (iR1 (aC (oO dMin2 (aC (oO dFdiv (aC (oV 1) (aC (oO dLen (aC (oV 0) aN)) aN))) (aC (oC (.int 60)) aN))) aN)) (gN 3) (sSet 2 (oO dFdiv (aC (oV 2) (aC (oC (.int 1000003)) aN)))))
  (sRet (oO dAddL (aC (oO dAddL (aC (oO dMulL (aC (oO dIx (aC (oV 0) (aC (oO dMod (aC (oV 1) (aC (oO dLen (aC (oV 0) aN)) aN))) aN))) (aC (oC (.int 31)) aN))) (aC (oV 1) aN))) (aC (oO dMulL (aC (oV 2) (aC (oC (.int 101)) aN))) aN)))))))))
def g_mixed : FF := mkF 4 (List.replicate 3 false) ((sSeq (sSet 3 (oO dMod (aC (oO dAddL (aC (oO dAddL (aC (oO dMulL (aC (oCallQ 2 g_cell_at (aC (oV 0) (aC (oV 1) aN))) (aC (oC (.int 1103515245)) aN))) (aC (oO dMulL (aC (oC (.int 7919)) (aC (oV 1) aN))) aN))) (aC (oC (.int 12345)) aN))) (aC (oC (.int 2147483647)) aN))))
  (sRet (oO dMod (aC (oO dMod (aC (oO dMod (aC (oO dPow (aC (oV 3) (aC (oC (.int 5)) aN))) (aC (oC (.int 2147483647)) aN))) (aC (oC (.int 999983)) aN))) (aC (oV 2) aN))))))
def g_draw : FF := mkF 3 [false, true, false] ((sSeq (sMeth 1 appD (oC (.int 0)))
  (sRet (oCallQ 3 g_mixed (aC (oV 0) (aC (oO dLen (aC (oV 1) aN)) (aC (oV 2) aN)))))))
def g_pick : FF := mkF 3 [false, true, false] ((sRet (oO dIx (aC (oV 2) (aC (oCall [false, true, false] g_draw (aC (oV 0) (aC (oV 1) (aC (oO dLen (aC (oV 2) aN)) aN)))) aN)))))
/-! bits -/
def bt (n : Nat) (v : Int) : Prop := v.natAbs < 2 ^ n
theorem bt.mono {n m : Nat} {v : Int} (h : bt n v) (l : n ≤ m) : bt m v := Nat.lt_of_lt_of_le h (Nat.pow_le_pow_right (by omega) l)
theorem bt.add {n : Nat} {a b : Int} (h : bt n a) (k : bt n b) : bt (n + 1) (a + b) := by
  unfold bt at *
  have := Int.natAbs_add_le a b
  rw [Nat.pow_succ]
  omega
theorem bt.mul {n m : Nat} {a b : Int} (h : bt n a) (k : bt m b) : bt (n + m) (a * b) := by
  unfold bt at *
  rw [Int.natAbs_mul, Nat.pow_add]
  exact Nat.mul_lt_mul'' h k
theorem bt.div {n : Nat} {a : Int} (h : bt n a) (b : Int) : bt n (a / b) := by
  unfold bt at *
  have h2 : (a / b).natAbs ≤ a.natAbs := Int.natAbs_ediv_le_natAbs a b
  omega
theorem bt.log {n : Nat} {v : Int} (h : bt n v) : v.natAbs.log2 ≤ n := by
  by_cases z : v.natAbs = 0
  · rw [z]; simp
  · have := (Nat.log2_lt z).2 h
    omega
theorem bt.of {n : Nat} {v : Int} (h : Builtin.Int.intBits v ≤ n) : bt n v := by
  unfold Builtin.Int.intBits at h
  unfold bt
  by_cases z : v = 0
  · subst z; simp; exact Nat.pow_pos (by omega)
  · rw [if_neg (by simpa using z)] at h
    exact (Nat.log2_lt (by omega)).1 (by omega)
theorem bt.mulOk {n m : Nat} {a b : Int} (h : bt n a) (k : bt m b) (l : n + m < 100000000) : mulOk a b = true := by
  have := h.log; have := k.log
  exact decide_eq_true (by omega)
/-! the script -/
def town (n : Nat) : D := .list (List.replicate n (.int 0))
structure Scr (ns : List Int) : Prop where
  len : ns.length ≤ 63
  bits : ∀ z ∈ ns, bt 1048576 z
theorem Scr.of {ns : List Int} (h : ns.length ≤ 63) (k : ∀ z ∈ ns, Builtin.Int.intBits z ≤ 1048576) : Scr ns := ⟨h, fun z m => .of (k z m)⟩
theorem dLen_scr (ns : List Int) : dLen [scrD ns] = some (.int ns.length) := by simp [dLen, scrD, norm, lenD]
theorem dIx_scr {ns : List Int} {k : Nat} (h : k < ns.length) : dIx [scrD ns, .int k] = some (.int ns[k]) := by
  simp [dIx, scrD, ixD, norm, L2.atI, L2.ixN, h]
theorem dEq_scr0 (ns : List Int) : dEq [scrD ns, .list []] = some (.bool (ns.isEmpty)) := by
  have h : SeqAt.shaped (.list []) = true := PySem.W.ke_shaped_ints []
  simp only [dEq, eqD, scrD, norm, sc2, PySem.W.ke_shaped_ints, h]
  cases ns <;> simp [PyData.eqv, PyData.eqvAll]


theorem cell_run (a b : Sl) (hx : ∀ s d, b ≠ .io s d) (N : Nat) : ∀ (ds : List D) (v : Int) (x : Option Sl), (∀ s d, x ≠ some (.io s d)) → bt N v → ∃ (v' : Int) (x' : Option Sl), bt N v' ∧
      forD (gN 3) (sSet 2 (oO dFdiv (aC (oV 2) (aC (oC (.int 1000003)) aN)))) ds [some a, some b, some (.fz (.int v)), x] = some (.nx, [some a, some b, some (.fz (.int v')), x'])
  | [], v, x, _, h => ⟨v, x, h, rfl⟩
  | d :: ds, v, x, hx', h => by
    obtain ⟨v', x', h', e⟩ := cell_run a b hx N ds (v / 1000003) (some (.fz d)) (by intro s d h; cases h) (h.div _)
    refine ⟨v', x', h', ?_⟩
    rw [← e]
    have hf : freeAt [some a, some b, some (.fz (.int v)), x] 3 = true := by
      rcases x with _ | _ | _ | ⟨s, d⟩ <;> first | rfl | exact absurd rfl (hx' s d)
    simp [forD, gN, hf, sSet, oO, aC, oV, oC, aN, rdA, Lz.read, dFdiv, dI, Lz.take, freeAt]
theorem g_cell {ns : List Int} (S : Scr ns) (k : Nat) (hk : k < 1000000) : ∃ v : Int, g_cell_at [scrD ns, .int k] = some (.int v, []) ∧ bt 1048700 v := by
  by_cases h : k < ns.length
  · refine ⟨ns[k], ?_, (S.bits _ (List.getElem_mem h)).mono (by omega)⟩
    simp [g_cell_at, mkF, inE, inSl, List.replicate, sSeq, sIf, tO, oO, aC, aN, oV, oC, rdA, Lz.read, dLen_scr, dLt, dI, h, sRet, dIx_scr, Lz.take, outs, sPass]
  · by_cases h0 : ns = []
    · subst h0
      have hz : ¬ ((k : Int) < 0) := by omega
      refine ⟨0, ?_, by unfold bt; exact Nat.pow_pos (by omega)⟩
      simp [hz, g_cell_at, mkF, inE, inSl, List.replicate, sSeq, sIf, tO, oO, aC, aN, oV, oC, rdA, Lz.read, dLen_scr, dLt, dI, sRet, dIx_scr, Lz.take, outs, sPass, oN, nLstQ, csA, dEq_scr0]
    · have hp : 0 < ns.length := List.length_pos_iff.mpr h0
      have hlt : ¬ ((k : Int) < ns.length) := by omega
      obtain ⟨m, hm, e1⟩ : ∃ m : Nat, m < ns.length ∧ dMod [.int k, .int ns.length] = some (.int m) := ⟨k % ns.length, Nat.mod_lt _ hp, by simp [dMod, dI, hp]⟩
      have hb := S.bits _ (List.getElem_mem hm)
      obtain ⟨u, hu, e2⟩ : ∃ u : Nat, u ≤ k ∧ dFdiv [.int k, .int ns.length] = some (.int u) := by
        have := S.len
        have e : (0 : Int) < ns.length ∧ (ns.length : Int) < 1073741824 := ⟨by omega, by omega⟩
        refine ⟨k / ns.length, Nat.div_le_self _ _, ?_⟩
        simp only [dFdiv, dI, if_pos e]
        rfl
      obtain ⟨q, hq, e3⟩ : ∃ q : Int, rgOk q = true ∧ dMin2 [.int (u : Int), .int 60] = some (.int q) := by
        refine ⟨_, ?_, rfl⟩
        unfold rgOk
        rw [Bool.and_eq_true, decide_eq_true_eq, decide_eq_true_eq]
        split <;> constructor <;> omega
      obtain ⟨v, x, hv, e4⟩ := cell_run (.fz (scrD ns)) (.fz (.int k)) (by intro s d h; cases h) 1048576 (intRange 0 q.toNat) (ns[m]) none (by intro s d h; cases h) hb
      refine ⟨ns[m] * 31 + k + v * 101, ?_, ?_⟩
      · have m1 : mulOk ns[m] 31 = true := hb.mulOk (m := 10) (by unfold bt; decide) (by omega)
        have m2 : mulOk v 101 = true := hv.mulOk (m := 10) (by unfold bt; decide) (by omega)
        have e5 : ns.isEmpty = false := by cases ns <;> simp_all
        simp [g_cell_at, mkF, inE, inSl, List.replicate, sSeq, sIf, tO, oO, aC, aN, oV, oC, rdA, Lz.read, dLen_scr, dLt, dI, hlt, sRet, sPass, oN, nLstQ, csA, dEq_scr0, e5, e1, dIx_scr hm, sSet, freeAt, Lz.take, sFor, iR1, e2, e3, hq, e4, dMulL, dMul, m1, m2, dAddL, dAdd, outs]
      · have h1 : bt 24 (k : Int) := by unfold bt; have : (2 : Nat) ^ 24 = 16777216 := rfl; omega
        have h2 := ((hb.mul (m := 10) (b := 31) (by unfold bt; decide)).add (h1.mono (m := 1048586) (by omega))).add ((hv.mul (m := 10) (b := 101) (by unfold bt; decide)).mono (m := 1048587) (by omega))
        exact h2.mono (by omega)
theorem g_mix {ns : List Int} (S : Scr ns) (k : Nat) (hk : k < 1000000) (b : Int) (hb : 0 < b) : ∃ v : Int, 0 ≤ v ∧ v < b ∧ g_mixed [scrD ns, .int k, .int b] = some (.int v, []) := by
  obtain ⟨c, hc, hv⟩ := g_cell S k hk
  have h1 : bt 24 (k : Int) := by unfold bt; have : (2 : Nat) ^ 24 = 16777216 := rfl; omega
  have m1 : mulOk c 1103515245 = true := hv.mulOk (m := 40) (by unfold bt; decide) (by omega)
  have m2 : mulOk 7919 (k : Int) = true := bt.mulOk (n := 24) (by unfold bt; decide) h1 (by omega)
  have hd : (0 : Int) ≤ (c * 1103515245 + 7919 * k + 12345) % 2147483647 ∧ (c * 1103515245 + 7919 * k + 12345) % 2147483647 < 2147483647 := ⟨Int.emod_nonneg _ (by omega), Int.emod_lt_of_pos _ (by omega)⟩
  generalize e : (c * 1103515245 + 7919 * k + 12345) % 2147483647 = z at hd
  have hz : z.natAbs < 18446744073709551616 := by omega
  refine ⟨z ^ 5 % 2147483647 % 999983 % b, Int.emod_nonneg _ (by omega), Int.emod_lt_of_pos _ hb, ?_⟩
  simp [g_mixed, mkF, inE, inSl, List.replicate, sSeq, sSet, oO, aC, oCallQ, oV, oC, aN, csA, hc, rdA, Lz.read, dMulL, dMul, m1, m2, dAddL, dAdd, dMod, dI, e, Lz.take, freeAt, sRet, dPow, hz, hb, outs]
theorem dLen_town (n : Nat) : dLen [town n] = some (.int n) := by simp [dLen, town, norm, lenD]
theorem appD_town {n : Nat} (h : n < 1000000) : appD (.int 0) (town n) = some (town (n + 1)) := by
  simp [appD, town, big, h, List.replicate_succ']
theorem shD_town (n : Nat) : shD (town n) = .L .fz := rfl
/-- a draw: a number under the bound; the town one longer -/
theorem g_dr {ns : List Int} (S : Scr ns) (n : Nat) (hk : n + 1 < 1000000) (b : Int) (hb : 0 < b) : ∃ v : Int, 0 ≤ v ∧ v < b ∧ g_draw [scrD ns, town n, .int b] = some (.int v, [town (n + 1)]) := by
  obtain ⟨v, h0, h1, e⟩ := g_mix S (n + 1) hk b hb
  refine ⟨v, h0, h1, ?_⟩
  have e' : g_mixed [scrD ns, .int ((n : Int) + 1), .int b] = some (.int v, []) := e
  have ha := appD_town (n := n) (by omega)
  simp [g_draw, mkF, inE, inSl, List.replicate, sSeq, sMeth, isLst, shD_town, oC, Lz.take, chg, Sl.sh, Sl.d, Sl.wd, ha, sRet, oCallQ, oO, aC, oV, aN, rdA, Lz.read, flatSh, dLen_town, csA, e', outs]
theorem g_pk {ns : List Int} (S : Scr ns) (n : Nat) (hk : n + 1 < 1000000) (ds : List D) (h : ds ≠ []) : ∃ d ∈ ds, g_pick [scrD ns, town n, .list ds] = some (d, [town (n + 1)]) := by
  have hp : 0 < ds.length := List.length_pos_iff.mpr h
  obtain ⟨v, h0, h1, e⟩ := g_dr S n hk ds.length (by omega)
  obtain ⟨i, rfl⟩ := Int.eq_ofNat_of_zero_le h0
  have hi : i < ds.length := by omega
  have el : dLen [.list ds] = some (.int ds.length) := by simp [dLen, norm, lenD]
  have ei : dIx [.list ds, .int i] = some ds[i] := by simp [dIx, ixD, norm, L2.atI, L2.ixN, hi]
  refine ⟨ds[i], List.getElem_mem hi, ?_⟩
  simp [g_pick, mkF, inE, inSl, List.replicate, sRet, oO, aC, oV, oCall, aN, rdA, Lz.read, el, argsE, ioS, putB, Lz.take, e, flatSh, Sl.sh, Sl.d, shD_town, Sl.wd, ei, outs]
end FL

set_option maxHeartbeats 2000000
/-! M2: loops over mirrors, by invariants. -/
namespace FL
open PySem PySem.Spec L2
/-- not the caller's -/
def nio (x : Option Sl) : Prop := ∀ s d, x ≠ some (.io s d)
theorem nio_none : nio none := by intro s d h; cases h
theorem nio_fz (d : D) : nio (some (.fz d)) := by intro s d h; cases h
theorem nio_own (s : Sh) (d : D) : nio (some (.own s d)) := by intro s d h; cases h
theorem free_of {env : Ev} {i : Nat} {x : Option Sl} (e : env[i]? = some x) (h : nio x) : freeAt env i = true := by
  unfold freeAt
  rw [e]
  rcases x with _ | _ | _ | ⟨s, d⟩
  · rfl
  · rfl
  · rfl
  · exact absurd rfl (h s d)
theorem forD_inv {g : D → Ev → Option Ev} {b : FS} (P : Nat → Ev → Prop) : ∀ (ds : List D) (k : Nat), (∀ i d, ds[i]? = some d → ∀ env, P (k + i) env → ∃ e1, g d env = some e1 ∧ ∃ e2, (b e1 = some (.nx, e2) ∨ b e1 = some (.ct, e2)) ∧ P (k + i + 1) e2) →
    ∀ env, P k env → ∃ e2, forD g b ds env = some (.nx, e2) ∧ P (k + ds.length) e2
  | [], k, _, env, h => ⟨env, rfl, h⟩
  | d :: ds, k, st, env, h => by
    obtain ⟨e1, h1, e2, h2, h3⟩ := st 0 d rfl env h
    obtain ⟨e3, h4, h5⟩ := forD_inv P ds (k + 1) (fun i d hi env h => by
      have := st (i + 1) d (by simpa using hi) env (by rw [show k + (i + 1) = k + 1 + i by omega]; exact h)
      simpa [show k + (i + 1) = k + 1 + i by omega] using this) e2 (by simpa using h3)
    refine ⟨e3, ?_, by rw [List.length_cons, show k + (ds.length + 1) = k + 1 + ds.length by omega]; exact h5⟩
    rcases h2 with h2 | h2 <;> simp [forD, h1, h2, h4]
/-- the same where no step counts -/
theorem forD_all {g : D → Ev → Option Ev} {b : FS} (P : Ev → Prop) (ds : List D) (st : ∀ d ∈ ds, ∀ env, P env → ∃ e1, g d env = some e1 ∧ ∃ e2, (b e1 = some (.nx, e2) ∨ b e1 = some (.ct, e2)) ∧ P e2) (env : Ev) (h : P env) : ∃ e2, forD g b ds env = some (.nx, e2) ∧ P e2 :=
  forD_inv (fun _ => P) ds 0 (fun i d hi env h => st _ (List.mem_of_getElem? hi) env h) env h
/-- a comprehension of one variable, without test: the state Q i before the i-th item, the items z with V i z -/
theorem lcD_inv {v : Nat} {f : FE} (Q : Nat → Ev → Prop) (V : Nat → D → Prop) (hw : ∀ i env, Q i env → v < env.length) : ∀ (ds : List D) (k : Nat),
    (∀ i d, ds[i]? = some d → ∀ env, Q (k + i) env → ∃ z e2, f (env.set v (some (.fz d))) = some (.c z, e2) ∧ V (k + i) z ∧ Q (k + i + 1) (wipeE e2 [v])) →
    ∀ env, (Q k (wipeE env [v])) → ∃ zs e2, lcD [v] (gN v) tY f ds env = some (zs, e2) ∧ Q (k + ds.length) e2 ∧ zs.length = ds.length ∧ ∀ i z, zs[i]? = some z → V (k + i) z
  | [], k, _, env, h => ⟨[], _, rfl, h, rfl, fun i z h => by simp at h⟩
  | d :: ds, k, st, env, h => by
    obtain ⟨z, e2, h1, h2, h3⟩ := st 0 d rfl _ h
    obtain ⟨zs, e3, h4, h5, h6, h7⟩ := lcD_inv Q V hw ds (k + 1) (fun i d hi env h => by
      have := st (i + 1) d (by simpa using hi) env (by rw [show k + (i + 1) = k + 1 + i by omega]; exact h)
      simpa [show k + (i + 1) = k + 1 + i by omega] using this) e2 (by simpa using h3)
    refine ⟨z :: zs, e3, ?_, by rw [List.length_cons, show k + (ds.length + 1) = k + 1 + ds.length by omega]; exact h5, by simp [h6], fun i y hi => ?_⟩
    · have hl := hw _ _ h
      have hf : freeAt (wipeE env [v]) v = true := by
        have : (wipeE env [v])[v]? = some none := by
          simp only [wipeE] at hl ⊢
          rw [List.getElem?_set]
          simp at hl ⊢
          exact hl
        exact free_of this nio_none
      simp [lcD, gN, hf, tY, h1, h4]
    · rcases i with _ | i
      · simp at hi; subst hi; exact h2
      · have := h7 i y (by simpa using hi)
        simpa [show k + (i + 1) = k + 1 + i by omega] using this
/-! what a mirror does, applied -/
theorem aC_ap (f : FE) (g : FA) (env : Ev) : aC f g env = (f env).bind fun r => (g r.2).bind fun s => some (r.1 :: s.1, s.2) := rfl
theorem aN_ap  (env : Ev) : aN  env = some ([], env) := rfl
theorem oV_ap (i : Nat) (env : Ev) : oV i env = match env[i]? with
  | some (some (.fz d)) => some (.c d, env)
  | some (some _) => some (.s i, env)
  | _ => none := rfl
theorem oC_ap (d : D) (env : Ev) : oC d env = some (.c d, env) := rfl
theorem oO_ap (op : List D → Option D) (a : FA) (env : Ev) : oO op a env = (a env).bind fun r => (rdA r.2 r.1).bind fun ds => (op ds).bind fun z => some (.c z, r.2) := rfl
theorem nO_ap (op : List D → Option D) (a : FA) (env : Ev) : nO op a env = (a env).bind fun r => (rdA r.2 r.1).bind fun ds => (op ds).bind fun z => some (z, r.2) := rfl
theorem oN_ap (f : FN) (env : Ev) : oN f env = (f env).bind fun r => some (.c r.1, r.2) := rfl
theorem tO_ap (f : FE) (env : Ev) : tO f env = (f env).bind fun r => (r.1.read r.2).bind fun d => match d with
  | .bool b => some (b, r.2)
  | _ => none := rfl
theorem tN_ap (f : FT) (env : Ev) : tN f env = (f env).bind fun r => some (!r.1, r.2) := rfl
theorem tA_ap (f g : FT) (env : Ev) : tA f g env = (f env).bind fun r => if r.1 = true then g r.2 else some (false, r.2) := rfl
theorem tR_ap (f g : FT) (env : Ev) : tR f g env = (f env).bind fun r => if r.1 = true then some (true, r.2) else g r.2 := rfl
theorem oI_ap (c : FT) (f g : FE) (env : Ev) : oI c f g env = (c env).bind fun r => if r.1 = true then f r.2 else g r.2 := rfl
theorem oAnd_ap (f g : FE) (env : Ev) : oAnd f g env = (f env).bind fun r => (r.1.read r.2).bind fun d => match d with
  | .bool true => g r.2
  | .bool false => some (.c (.bool false), r.2)
  | _ => none := rfl
theorem oOr_ap (f g : FE) (env : Ev) : oOr f g env = (f env).bind fun r => (r.1.read r.2).bind fun d => match d with
  | .bool true => some (.c (.bool true), r.2)
  | .bool false => g r.2
  | _ => none := rfl
theorem kA_ap (a : FA) (env : Ev) : kA a env = (a env).bind fun r => tkA r.2 r.1 := rfl
theorem oTup_ap (a : FA) (env : Ev) : oTup a env = (kA a env).bind fun r => if r.1.length ≤ big then some (.c (.tuple r.1), r.2) else none := rfl
theorem oTupQ_ap (a : FA) (env : Ev) : oTupQ a env = (a env).bind fun r => (csA r.1).bind fun ds => if ds.length ≤ big then some (.c (.tuple ds), r.2) else none := rfl
theorem nLstQ_ap (a : FA) (env : Ev) : nLstQ a env = (a env).bind fun r => (csA r.1).bind fun ds => if ds.length ≤ big then some (.list ds, r.2) else none := rfl
theorem nLst_ap (a : FA) (env : Ev) : nLst a env = (kA a env).bind fun r => if r.1.length ≤ big then some (.list r.1, r.2) else none := rfl
theorem sPass_ap  (env : Ev) : sPass  env = some (.nx, env) := rfl
theorem sSeq_ap (f g : FS) (env : Ev) : sSeq f g env = (f env).bind fun r => match r.1 with
  | .nx => g r.2
  | c => some (c, r.2) := rfl
theorem sBrk_ap  (env : Ev) : sBrk  env = some (.bk, env) := rfl
theorem sCnt_ap  (env : Ev) : sCnt  env = some (.ct, env) := rfl
theorem sDrop_ap (f : FE) (env : Ev) : sDrop f env = (f env).bind fun r => some (.nx, r.2) := rfl
theorem sRet_ap (f : FE) (env : Ev) : sRet f env = (f env).bind fun r => (r.1.take r.2).bind fun s => some (.rt s.1, s.2) := rfl
theorem sRetN_ap  (env : Ev) : sRetN  env = some (.rt .none, env) := rfl
theorem sIf_ap (c : FT) (f g : FS) (env : Ev) : sIf c f g env = (c env).bind fun r => if r.1 = true then f r.2 else g r.2 := rfl
theorem sSet_ap (i : Nat) (f : FE) (env : Ev) : sSet i f env = (f env).bind fun r => (r.1.take r.2).bind fun s => if freeAt s.2 i = true then some (.nx, s.2.set i (some (.fz s.1))) else none := rfl
theorem sSetN_ap (i : Nat) (f : FN) (env : Ev) : sSetN i f env = (f env).bind fun r => if freeAt r.2 i = true then some (.nx, r.2.set i (some (.own (shD r.1) r.1))) else none := rfl
theorem gN_ap (i : Nat) (d : D) (env : Ev) : gN i d env = if freeAt env i = true then some (env.set i (some (.fz d))) else none := rfl
theorem sAsg_ap (f : FE) (g : D → Ev → Option Ev) (env : Ev) : sAsg f g env = (f env).bind fun r => (r.1.take r.2).bind fun s => (g s.1 s.2).bind fun e => some (.nx, e) := rfl
theorem sPar2_ap (i j : Nat) (a : FA) (env : Ev) : sPar2 i j a env = (kA a env).bind fun r => match r.1 with
  | [d, e] => (gN i d r.2).bind fun e1 => (gN j e e1).bind fun e2 => some (.nx, e2)
  | _ => none := rfl
theorem sPar3_ap (i j l : Nat) (a : FA) (env : Ev) : sPar3 i j l a env = (kA a env).bind fun r => match r.1 with
  | [d, e, f] => (gN i d r.2).bind fun e1 => (gN j e e1).bind fun e2 => (gN l f e2).bind fun e3 => some (.nx, e3)
  | _ => none := rfl
theorem sMeth_ap (i : Nat) (m : D → D → Option D) (f : FE) (env : Ev) : sMeth i m f env = if isLst env i = true then (f env).bind fun r => (r.1.take r.2).bind fun s => (chg i (m s.1) s.2).bind fun e => some (.nx, e) else none := rfl
theorem sPut_ap (i : Nat) (fi fv : FE) (env : Ev) : sPut i fi fv env = (fv env).bind fun r => (r.1.take r.2).bind fun s => if hasR s.2 i = true then (fi s.2).bind fun y => (y.1.read y.2).bind fun k => (chg i (putD k s.1) y.2).bind fun e => some (.nx, e) else none := rfl
theorem iSq_ap (f : FE) (env : Ev) : iSq f env = (f env).bind fun r => (r.1.take r.2).bind fun s => match norm s.1 with
  | .list ds => some (ds, s.2)
  | .tuple ds => some (ds, s.2)
  | _ => none := rfl
theorem iSqQ_ap (f : FE) (env : Ev) : iSqQ f env = (f env).bind fun r => match r.1 with
  | .c d => match norm d with
    | .list ds => some (ds, r.2)
    | .tuple ds => some (ds, r.2)
    | _ => none
  | _ => none := rfl
theorem iR1_ap (a : FA) (env : Ev) : iR1 a env = (a env).bind fun r => (rdA r.2 r.1).bind fun ds => match ds with
  | [.int j] => if rgOk j = true then some (intRange 0 j.toNat, r.2) else none
  | _ => none := rfl
theorem iR2_ap (a : FA) (env : Ev) : iR2 a env = (a env).bind fun r => (rdA r.2 r.1).bind fun ds => match ds with
  | [.int i, .int j] => if rgOk i = true ∧ rgOk j = true then some (intRange i (j - i).toNat, r.2) else none
  | _ => none := rfl
theorem sFor_ap (it : Ev → Option (List D × Ev)) (g : D → Ev → Option Ev) (b : FS) (env : Ev) : sFor it g b env = (it env).bind fun r => forD g b r.1 r.2 := rfl
theorem nLc_ap (vs : List Nat) (it : Ev → Option (List D × Ev)) (g : D → Ev → Option Ev) (c : FT) (f : FE) (env : Ev) : nLc vs it g c f env = (it env).bind fun r =>
  if r.1.length ≤ big ∧ vs.all (plainAt r.2) = true then (lcD vs g c f r.1 r.2).bind fun s => some (.list s.1, backE r.2 s.2 vs) else none := rfl
theorem oCall_ap (io : List Bool) (f : FF) (a : FA) (env : Ev) : oCall io f a env = (a env).bind fun r => (argsE io r.1 r.2).bind fun s =>
  if (ioS io r.1).Nodup then (f s.1).bind fun z => (putB io r.1 z.2 s.2).bind fun e => some (.c z.1, e) else none := rfl
theorem oCallQ_ap (n : Nat) (f : FF) (a : FA) (env : Ev) : oCallQ n f a env = (a env).bind fun r => (csA r.1).bind fun ds => if ds.length = n then (f ds).bind fun z => some (.c z.1, r.2) else none := rfl
theorem oChain_ap (d1 d2 : List D → Option D) (f g h : FE) (env : Ev) : oChain d1 d2 f g h env = (f env).bind fun r => (g r.2).bind fun s => (r.1.read s.2).bind fun x => (s.1.read s.2).bind fun y => (d1 [x, y]).bind fun z => match z with
  | .bool true => (h s.2).bind fun u => (s.1.read u.2).bind fun y2 => (u.1.read u.2).bind fun w => (d2 [y2, w]).bind fun v => some (.c v, u.2)
  | .bool false => some (.c (.bool false), s.2)
  | _ => none := rfl
theorem nDict_ap (r : Ev → Option (List (D × D) × Ev)) (env : Ev) : nDict r env = (r env).bind fun x => if allKeys x.1 = true ∧ x.1.length ≤ 15 then some (.dict (x.1.foldl (fun acc p => dput acc p.1 p.2) []), x.2) else none := rfl
theorem pC_ap (f g : FE) (r : Ev → Option (List (D × D) × Ev)) (env : Ev) : pC f g r env = (f env).bind fun x => (g x.2).bind fun y => (r y.2).bind fun z => match x.1, y.1 with
  | .c k, .c v => some ((k, v) :: z.1, z.2)
  | _, _ => none := rfl
theorem pN_ap  (env : Ev) : pN  env = some ([], env) := rfl
theorem mkF_ap (n : Nat) (io : List Bool) (b : FS) (ds : List D) : mkF n io b ds = if ds.length = io.length then (b (inE io ds ++ List.replicate (n - io.length) none)).bind fun r => match r.1 with
  | .nx => (outs r.2 io 0).map fun os => (.none, os)
  | .rt d => (outs r.2 io 0).map fun os => (d, os)
  | _ => none else none := rfl
theorem tY_ap  (env : Ev) : tY  env = some (true, env) := rfl
/-! texts, equality, items -/
theorem ofS_inj (a b : String) : Str.ofString a = Str.ofString b ↔ a = b := by
  constructor
  · intro h
    rw [Str.ofString_eq_toList, Str.ofString_eq_toList] at h
    injection h with h
    have h2 : a.toList.map Char.toNat = b.toList.map Char.toNat := by
      have := congrArg Array.toList h
      simpa using this
    have h3 : a.toList = b.toList := by
      refine List.map_inj_right (f := Char.toNat) (fun x y e => ?_) |>.mp h2
      exact Char.ext (UInt32.toNat_inj.mp e)
    exact String.toList_inj.mp h3
  · rintro rfl; rfl
theorem dEq_str (x y : Str) : dEq [.str x, .str y] = some (.bool (x == y)) := by simp [dEq, eqD, sc2, PyData.eqv]
theorem dEq_int (x y : Int) : dEq [.int x, .int y] = some (.bool (x == y)) := by simp [dEq, eqD, sc2, PyData.eqv]
theorem dNe_int (x y : Int) : dNe [.int x, .int y] = some (.bool (!(x == y))) := by simp [dNe, eqD, sc2, PyData.eqv]
theorem dNe_str (x y : Str) : dNe [.str x, .str y] = some (.bool (!(x == y))) := by simp [dNe, eqD, sc2, PyData.eqv]
theorem dNe_bool (x y : Bool) : dNe [.bool x, .bool y] = some (.bool (!(x == y))) := by simp [dNe, eqD, sc2, PyData.eqv]
theorem dEq_bool (x y : Bool) : dEq [.bool x, .bool y] = some (.bool (x == y)) := by simp [dEq, eqD, sc2, PyData.eqv]
theorem ixAt (l : List D) (i : Nat) (h : i < l.length) : dIx [.list l, .int i] = some l[i] := by simp [dIx, ixD, norm, L2.atI, L2.ixN, h]
theorem ix0 (x : D) (l : List D) : dIx [.list (x :: l), .int 0] = some x := ixAt (x :: l) 0 (by simp)
theorem ix1 (x y : D) (l : List D) : dIx [.list (x :: y :: l), .int 1] = some y := ixAt (x :: y :: l) 1 (by simp)
theorem ix2 (x y z : D) (l : List D) : dIx [.list (x :: y :: z :: l), .int 2] = some z := ixAt (x :: y :: z :: l) 2 (by simp)
/-! sorting -/
theorem le_int (a b : Int) : PySem.W.dataLe false id (.int a) (.int b) = decide (a ≤ b) := by
  have e : PySem.W.dataLe false id (PyData.int a) (PyData.int b) = !PyProof.Rows.lexLt PyProof.Rows.itemOrd [.inl b] [.inl a] := rfl
  rw [e]
  by_cases h : b < a
  · have : ¬ a ≤ b := by omega
    simp [PyProof.Rows.lexLt, PyProof.Rows.itemLt, h, this]
  · have : a ≤ b := by omega
    simp [PyProof.Rows.lexLt, PyProof.Rows.itemLt, h, this]
theorem sort_two (d e : D) : sortD [d, e] = if PySem.W.dataLe false id d e = true then [d, e] else [e, d] := by
  simp [sortD, List.mergeSort, List.MergeSort.Internal.splitInTwo, List.merge]
theorem shaped_int (a : Int) : SeqAt.shaped (.int a) = true := rfl
theorem sort_ints2 (a b : Int) : dSort [.list [.int a, .int b]] = some (.list (if b < a then [.int b, .int a] else [.int a, .int b])) := by
  have h : sortOk [.int a, .int b] = true := by simp [sortOk, PySem.W.alike, shaped_int, big]
  simp only [dSort, h, if_true, sort_two, le_int]
  by_cases q : b < a
  · have : ¬ a ≤ b := by omega
    simp [q, this]
  · have : a ≤ b := by omega
    simp [q, this]
/-! the parts of a slot -/
theorem sh_fz (d : D) : (Sl.fz d).sh = .fz := rfl
theorem sh_own (s : Sh) (d : D) : (Sl.own s d).sh = s := rfl
theorem sh_io (s : Sh) (d : D) : (Sl.io s d).sh = s := rfl
theorem d_fz (d : D) : (Sl.fz d).d = d := rfl
theorem d_own (s : Sh) (d : D) : (Sl.own s d).d = d := rfl
theorem d_io (s : Sh) (d : D) : (Sl.io s d).d = d := rfl
theorem wd_own (s : Sh) (d e : D) : (Sl.own s d).wd e = .own s e := rfl
theorem wd_io (s : Sh) (d e : D) : (Sl.io s d).wd e = .io s e := rfl
theorem shD_list (l : List D) : shD (.list l) = .L .fz := rfl
theorem shD_dict (l : List (D × D)) : shD (.dict l) = .M .fz := rfl
/-! draws where they stand -/
/-- the town at slot j, n draws old -/
def TownAt (env : Ev) (j n : Nat) : Prop := env[j]? = some (some (.own (.L .fz) (town n))) ∨ env[j]? = some (some (.io (.L .fz) (town n)))
/-- .. of n draws, then -/
def later (env : Ev) (j n : Nat) : Ev := match env[j]? with
  | some (some y) => env.set j (some (y.wd (town n)))
  | _ => env
theorem dr_at {ns : List Int} (S : Scr ns) {env : Ev} {i j n : Nat} (hn : n < 900000) (h0 : env[i]? = some (some (.fz (scrD ns)))) (h1 : TownAt env j n) (f : FE) (b : Int) (hb : 0 < b) (hf : f env = some (.c (.int b), env)) :
    ∃ v : Int, 0 ≤ v ∧ v < b ∧ oCall [false, true, false] g_draw (aC (oV i) (aC (oV j) (aC f aN))) env = some (.c (.int v), later env j (n + 1)) := by
  obtain ⟨v, k0, k1, e⟩ := g_dr S n (by omega) b hb
  refine ⟨v, k0, k1, ?_⟩
  rcases h1 with h1 | h1 <;> simp [later, oCall, aC, oV, aN, h0, h1, hf, argsE, Lz.take, sh_own, sh_io, d_own, d_io, ioS, e, putB, wd_own, wd_io, shD_town]
theorem pk_at {ns : List Int} (S : Scr ns) {env : Ev} {i j n : Nat} (hn : n < 900000) (h0 : env[i]? = some (some (.fz (scrD ns)))) (h1 : TownAt env j n) (f : FE) (ds : List D) (hd : ds ≠ []) (hf : f env = some (.c (.list ds), env)) :
    ∃ d ∈ ds, oCall [false, true, false] g_pick (aC (oV i) (aC (oV j) (aC f aN))) env = some (.c d, later env j (n + 1)) := by
  obtain ⟨v, k1, e⟩ := g_pk S n (by omega) ds hd
  refine ⟨v, k1, ?_⟩
  rcases h1 with h1 | h1 <;> simp [later, oCall, aC, oV, aN, h0, h1, hf, argsE, Lz.take, sh_own, sh_io, d_own, d_io, ioS, e, putB, wd_own, wd_io, shD_town]
/-- items that are ints -/
theorem ints_of {P : Int → Prop} : ∀ (zs : List D), (∀ z ∈ zs, ∃ w : Int, z = .int w ∧ P w) → ∃ ws : List Int, zs = ws.map PyData.int ∧ ∀ w ∈ ws, P w
  | [], _ => ⟨[], rfl, by simp⟩
  | z :: r, h => by
    obtain ⟨w, e, hw⟩ := h z (by simp)
    obtain ⟨ws, e', h'⟩ := ints_of r fun i hi => h i (by simp [hi])
    refine ⟨w :: ws, by simp [e, e'], fun z hz => ?_⟩
    rcases List.mem_cons.mp hz with rfl | hz
    · exact hw
    · exact h' _ hz
theorem lt_of_get {α : Type} {l : List α} {i : Nat} {x : α} (h : l[i]? = some x) : i < l.length := (List.getElem?_eq_some_iff.mp h).1
theorem intRange_len (lo : Int) (n : Nat) : (intRange lo n).length = n := by simp [intRange]
/-- the law's own def -/
theorem mk_law {n : Nat} {b : FS} {e : Ev} {x d : D} (h : b (some (.fz x) :: List.replicate n none) = some (.rt d, e)) : mkF (n + 1) (List.replicate 1 false) b [x] = some (d, []) := by
  have e1 : (inE (List.replicate 1 false) [x] ++ List.replicate (n + 1 - (List.replicate 1 false).length) none) = some (.fz x) :: List.replicate n none := rfl
  rw [mkF_ap, if_pos (by rfl), e1, h]
  rfl
end FL

set_option maxHeartbeats 4000000
namespace K02
open PySem PySem.Spec L2 FL
def top (i : Nat) : Stmt := PySem.Challenge.pw_lanepacks_k02_whole_words.main.body.getD i (.Pass ⟨0, 0, 0, 0⟩)
def tuv_DEEDS : List He.Dv := [(.str "plus"), (.str "minus"), (.str "times"), (.str "least"), (.str "most"), (.str "less"), (.str "over")]
abbrev tup_DEEDS : List D := tuv_DEEDS.map dvD
structure Top (K : PySem.W.Frag) (mg : Str → Option Value) : Prop where
  n_bool : mg "bool" = none
  n_int : mg "int" = none
  n_isinstance : mg "isinstance" = none
  n_len : mg "len" = none
  n_list : mg "list" = none
  n_max : mg "max" = none
  n_min : mg "min" = none
  n_range : mg "range" = none
  n_sorted : mg "sorted" = none
  c_DEEDS : mg "DEEDS" = some (.ref (He.ga K "DEEDS")) ∧ (∀ F, SqT K F (He.ga K "DEEDS") (tuv_DEEDS.map (He.Dv.v K))) ∧ ∀ F, FzA mg K F (tuv_DEEDS.map (He.Dv.v K)) tup_DEEDS
  c_MANY : ∃ tk, mg "MANY" = some (.int 1000 tk)
  g__law_cell_at : mg "_law_cell_at" = some (.ref (He.ga K "_law_cell_at"))
  k__law_cell_at : PySem.W.keepIn K (.ref (He.ga K "_law_cell_at")) = true
  d__law_cell_at : ∃ fd, FunD K "_law_cell_at" "_law_cell_at" (defArgs (top 6)) (defBody (top 6)) (defScope (top 6)) [] [] (He.ga K "_law_cell_at") fd
  g__law_deed : mg "_law_deed" = some (.ref (He.ga K "_law_deed"))
  k__law_deed : PySem.W.keepIn K (.ref (He.ga K "_law_deed")) = true
  d__law_deed : ∃ fd, FunD K "_law_deed" "_law_deed" (defArgs (top 10)) (defBody (top 10)) (defScope (top 10)) [] [] (He.ga K "_law_deed") fd
  g__law_draw : mg "_law_draw" = some (.ref (He.ga K "_law_draw"))
  k__law_draw : PySem.W.keepIn K (.ref (He.ga K "_law_draw")) = true
  d__law_draw : ∃ fd, FunD K "_law_draw" "_law_draw" (defArgs (top 8)) (defBody (top 8)) (defScope (top 8)) [] [] (He.ga K "_law_draw") fd
  g__law_mixed : mg "_law_mixed" = some (.ref (He.ga K "_law_mixed"))
  k__law_mixed : PySem.W.keepIn K (.ref (He.ga K "_law_mixed")) = true
  d__law_mixed : ∃ fd, FunD K "_law_mixed" "_law_mixed" (defArgs (top 7)) (defBody (top 7)) (defScope (top 7)) [] [] (He.ga K "_law_mixed") fd
  g__law_pick : mg "_law_pick" = some (.ref (He.ga K "_law_pick"))
  k__law_pick : PySem.W.keepIn K (.ref (He.ga K "_law_pick")) = true
  d__law_pick : ∃ fd, FunD K "_law_pick" "_law_pick" (defArgs (top 9)) (defBody (top 9)) (defScope (top 9)) [] [] (He.ga K "_law_pick") fd
  g_done : mg "done" = some (.ref (He.ga K "done"))
  k_done : PySem.W.keepIn K (.ref (He.ga K "done")) = true
  d_done : ∃ fd, FunD K "done" "done" (defArgs (top 4)) (defBody (top 4)) (defScope (top 4)) [] [] (He.ga K "done") fd
  g_law : mg "law" = some (.ref (He.ga K "law"))
  k_law : PySem.W.keepIn K (.ref (He.ga K "law")) = true
  d_law : ∃ fd, FunD K "law" "law" (defArgs (top 11)) (defBody (top 11)) (defScope (top 11)) [] [] (He.ga K "law") fd
  g_of_two : mg "of_two" = some (.ref (He.ga K "of_two"))
  k_of_two : PySem.W.keepIn K (.ref (He.ga K "of_two")) = true
  d_of_two : ∃ fd, FunD K "of_two" "of_two" (defArgs (top 3)) (defBody (top 3)) (defScope (top 3)) [] [] (He.ga K "of_two") fd
section
variable {P : Program} {w : World} {K : PySem.W.Frag} {mg : Str → Option Value} {base : Heap}
def m_of_two : FF := mkF 3 (List.replicate 3 false) ((sSeq (sIf (tO (oO dEq (aC (oV 0) (aC (oC (.str "plus")) aN)))) (sRet (oO dMod (aC (oO dAddL (aC (oV 1) (aC (oV 2) aN))) (aC (oC (.int 1000)) aN)))) sPass)
  (sSeq (sIf (tO (oO dEq (aC (oV 0) (aC (oC (.str "minus")) aN)))) (sRet (oO dMod (aC (oO dSub (aC (oV 1) (aC (oV 2) aN))) (aC (oC (.int 1000)) aN)))) sPass)
  (sSeq (sIf (tO (oO dEq (aC (oV 0) (aC (oC (.str "times")) aN)))) (sRet (oO dMod (aC (oO dMulL (aC (oV 1) (aC (oV 2) aN))) (aC (oC (.int 1000)) aN)))) sPass)
  (sSeq (sIf (tO (oO dEq (aC (oV 0) (aC (oC (.str "least")) aN)))) (sRet (oO dMin2 (aC (oV 1) (aC (oV 2) aN)))) sPass)
  (sSeq (sIf (tO (oO dEq (aC (oV 0) (aC (oC (.str "most")) aN)))) (sRet (oO dMax2 (aC (oV 1) (aC (oV 2) aN)))) sPass)
  (sSeq (sIf (tO (oO dEq (aC (oV 0) (aC (oC (.str "less")) aN)))) (sRet (oO dInt1 (aC (oO dLt (aC (oV 1) (aC (oV 2) aN))) aN))) sPass)
  (sRet (oI (tO (oO dNe (aC (oV 2) (aC (oC (.int 0)) aN)))) (oO dFdiv (aC (oV 1) (aC (oV 2) aN))) (oC .none))))))))))
theorem sc_of_two : FnScope ["deed", "one", "other"] ["deed", "one", "other"] (defScope (top 3)) := ⟨rfl, rfl, rfl, by decide +kernel, rfl, by decide +kernel, by decide +kernel⟩
theorem ok_of_two (T : Top K mg) : ∃ fd, Binds K fd ["deed", "one", "other"] [] ∧ FnOk P w K mg base CX0 1 (He.ga K "of_two") fd ["deed", "one", "other"] (spF mg K (List.replicate 3 false) m_of_two) := by
  obtain ⟨fd, F⟩ := T.d_of_two
  refine ⟨fd, F.bindsN (fun _ _ _ _ _ _ us hl => match us, hl with | [_, _, _], _ => rfl), okF F sc_of_two rfl (by decide) fun cdv A outer s H EX hr => ?_⟩
  have hu := hr.units
  have hu5 := hu5_of hr
  have hu7 := hu7_of hr
  have nd := sc_of_two.nd
  exact ⟨_, (sb_cons (ss_if (ot_cmp (k_eq K hu) sem_eq (oe_v (pv 0)) oe_str (nomark _)) (sb_one (ss_ret (oe_mod (oe_add (K0 := K) (oe_v (pv 1)) (oe_v (pv 2))) (oe_gint (by rfl) T.c_MANY)))) sb_nil)
  (sb_cons (ss_if (ot_cmp (k_eq K hu) sem_eq (oe_v (pv 0)) oe_str (nomark _)) (sb_one (ss_ret (oe_mod (oe_sub (oe_v (pv 1)) (oe_v (pv 2))) (oe_gint (by rfl) T.c_MANY)))) sb_nil)
  (sb_cons (ss_if (ot_cmp (k_eq K hu) sem_eq (oe_v (pv 0)) oe_str (nomark _)) (sb_one (ss_ret (oe_mod (oe_mul (K0 := K) (oe_v (pv 1)) (oe_v (pv 2))) (oe_gint (by rfl) T.c_MANY)))) sb_nil)
  (sb_cons (ss_if (ot_cmp (k_eq K hu) sem_eq (oe_v (pv 0)) oe_str (nomark _)) (sb_one (ss_ret (oe_blt (call_min2 rfl) sem_min2 T.n_min (by decide +kernel) (oa_cons (oe_v (pv 1)) (oa_cons (oe_v (pv 2)) oa_nil))))) sb_nil)
  (sb_cons (ss_if (ot_cmp (k_eq K hu) sem_eq (oe_v (pv 0)) oe_str (nomark _)) (sb_one (ss_ret (oe_blt (call_max2 rfl) sem_max2 T.n_max (by decide +kernel) (oa_cons (oe_v (pv 1)) (oa_cons (oe_v (pv 2)) oa_nil))))) sb_nil)
  (sb_cons (ss_if (ot_cmp (k_eq K hu) sem_eq (oe_v (pv 0)) oe_str (nomark _)) (sb_one (ss_ret (oe_ty call_int1 sem_int1 T.n_int (by decide +kernel) (oa_cons (oe_cmp op_lt sem_lt (oe_v (pv 1)) (oe_v (pv 2)) (nomark _)) oa_nil)))) sb_nil)
  (sb_one (ss_ret (oe_if (ot_cmp (k_ne K hu) sem_ne (oe_v (pv 2)) oe_int (nomark _)) (oe_fdiv (oe_v (pv 1)) (oe_v (pv 2))) oe_non)))))))))⟩
def m_done : FF := mkF 2 (List.replicate 2 false) ((sSeq (sIf (tO (oO dEq (aC (oV 0) (aC (oC (.str "pick")) aN)))) (sRet (oI (tO (oO dNe (aC (oO dIx (aC (oV 1) (aC (oC (.int 0)) aN))) (aC (oC (.int 0)) aN)))) (oO dIx (aC (oV 1) (aC (oC (.int 1)) aN))) (oO dIx (aC (oV 1) (aC (oC (.int 2)) aN))))) sPass)
  (sRet (oCallQ 3 m_of_two (aC (oV 0) (aC (oO dIx (aC (oV 1) (aC (oC (.int 0)) aN))) (aC (oO dIx (aC (oV 1) (aC (oC (.int 1)) aN))) aN)))))))
theorem sc_done : FnScope ["deed", "words"] ["deed", "words"] (defScope (top 4)) := ⟨rfl, rfl, rfl, by decide +kernel, rfl, by decide +kernel, by decide +kernel⟩
theorem ok_done (T : Top K mg) : ∃ fd, Binds K fd ["deed", "words"] [] ∧ FnOk P w K mg base CX0 2 (He.ga K "done") fd ["deed", "words"] (spF mg K (List.replicate 2 false) m_done) := by
  obtain ⟨_, B_of_two, G_of_two⟩ := ok_of_two (P := P) (w := w) (base := base) T
  obtain ⟨fd, F⟩ := T.d_done
  refine ⟨fd, F.bindsN (fun _ _ _ _ _ _ us hl => match us, hl with | [_, _], _ => rfl), okF F sc_done rfl (by decide) fun cdv A outer s H EX hr => ?_⟩
  have hu := hr.units
  have hu5 := hu5_of hr
  have hu7 := hu7_of hr
  have nd := sc_done.nd
  exact ⟨_, (sb_cons (ss_if (ot_cmp (k_eq K hu) sem_eq (oe_v (pv 0)) oe_str (nomark _)) (sb_one (ss_ret (oe_if (ot_cmp (k_ne K hu) sem_ne (oe_ix (K0 := K) hu (oe_v (pv 1)) oe_int) oe_int (nomark _)) (oe_ix (K0 := K) hu (oe_v (pv 1)) oe_int) (oe_ix (K0 := K) hu (oe_v (pv 1)) oe_int)))) sb_nil)
  (sb_one (ss_ret (oe_callQ (n := 3) (G := G_of_two) (hr.mono (by decide)) T.g_of_two T.k_of_two B_of_two (oa_cons (oe_v (pv 0)) (oa_cons (oe_ix (K0 := K) hu (oe_v (pv 1)) oe_int) (oa_cons (oe_ix (K0 := K) hu (oe_v (pv 1)) oe_int) oa_nil)))))))⟩
def m_l_deed : FF := mkF 5 (List.replicate 2 false) ((sSeq (sIf (tO (oO dEq (aC (oV 0) (aC (oC (.str "pick")) aN)))) (sRet (oI (tO (oO dEq (aC (oO dIx (aC (oV 1) (aC (oC (.int 0)) aN))) (aC (oC (.int 0)) aN)))) (oO dIx (aC (oV 1) (aC (oC (.int 2)) aN))) (oO dIx (aC (oV 1) (aC (oC (.int 1)) aN))))) sPass)
  (sSeq (sAsg (oV 1) (gT 2 (gC (gN 2) (gC (gN 3) gZ))))
  (sSeq (sIf (tO (oO dIn (aC (oV 0) (aC (oTupQ (aC (oC (.str "least")) (aC (oC (.str "most")) aN))) aN)))) (sRet (oO dIx (aC (oN (nO dSort (aC (oV 1) aN))) (aC (oI (tO (oO dEq (aC (oV 0) (aC (oC (.str "least")) aN)))) (oC (.int 0)) (oC (.int 1))) aN)))) sPass)
  (sSeq (sIf (tO (oO dEq (aC (oV 0) (aC (oC (.str "less")) aN)))) (sRet (oI (tO (oO dGt (aC (oV 3) (aC (oV 2) aN)))) (oC (.int 1)) (oC (.int 0)))) sPass)
  (sSeq (sIf (tO (oO dEq (aC (oV 0) (aC (oC (.str "over")) aN)))) (sRet (oI (tO (oO dEq (aC (oV 3) (aC (oC (.int 0)) aN)))) (oC .none) (oO dLenR3 (aC (oV 3) (aC (oO dAddL (aC (oV 2) (aC (oC (.int 1)) aN))) (aC (oV 3) aN)))))) sPass)
  (sSeq (sSet 4 (oO dIx (aC (oN (nDict (pC (oC (.str "plus")) (oO dAddL (aC (oV 2) (aC (oV 3) aN))) (pC (oC (.str "minus")) (oO dSub (aC (oO dAddL (aC (oV 2) (aC (oC (.int 1000)) aN))) (aC (oV 3) aN))) (pC (oC (.str "times")) (oO dMulL (aC (oV 2) (aC (oV 3) aN))) pN))))) (aC (oV 0) aN))))
  (sRet (oO dSub (aC (oV 4) (aC (oO dMulL (aC (oO dFdiv (aC (oV 4) (aC (oC (.int 1000)) aN))) (aC (oC (.int 1000)) aN))) aN)))))))))))
theorem sc_l_deed : FnScope ["_law_deed_here", "_law_words", "_law_one", "_law_two", "_law_whole"] ["_law_deed_here", "_law_words"] (defScope (top 10)) := ⟨rfl, rfl, rfl, by decide +kernel, rfl, by decide +kernel, by decide +kernel⟩
theorem ok_l_deed (T : Top K mg) : ∃ fd, Binds K fd ["_law_deed_here", "_law_words"] [] ∧ FnOk P w K mg base CX0 1 (He.ga K "_law_deed") fd ["_law_deed_here", "_law_words"] (spF mg K (List.replicate 2 false) m_l_deed) := by
  obtain ⟨fd, F⟩ := T.d__law_deed
  refine ⟨fd, F.bindsN (fun _ _ _ _ _ _ us hl => match us, hl with | [_, _], _ => rfl), okF F sc_l_deed rfl (by decide) fun cdv A outer s H EX hr => ?_⟩
  have hu := hr.units
  have hu5 := hu5_of hr
  have hu7 := hu7_of hr
  have nd := sc_l_deed.nd
  exact ⟨_, (sb_cons (ss_if (ot_cmp (k_eq K hu) sem_eq (oe_v (pv 0)) oe_str (nomark _)) (sb_one (ss_ret (oe_if (ot_cmp (k_eq K hu) sem_eq (oe_ix (K0 := K) hu (oe_v (pv 1)) oe_int) oe_int (nomark _)) (oe_ix (K0 := K) hu (oe_v (pv 1)) oe_int) (oe_ix (K0 := K) hu (oe_v (pv 1)) oe_int)))) sb_nil)
  (sb_cons (ss_asg (oe_v (pv 1)) (sg_tup (K0 := K) 2 rfl (sgs_cons (sg_name nd (i := 2)) (sgs_cons (sg_name nd (i := 3)) sgs_nil))))
  (sb_cons (ss_if (ot_cmp (k_in K hu5) sem_in (oe_v (pv 0)) (oe_tup (oa_cons oe_str (oa_cons oe_str oa_nil))) (by rfl)) (sb_one (ss_ret (oe_ix (K0 := K) hu (oe_n (ne_blt (k_sorted K hu7) sem_sort T.n_sorted (by decide +kernel) (oa_cons (oe_v (pv 1)) oa_nil))) (oe_if (ot_cmp (k_eq K hu) sem_eq (oe_v (pv 0)) oe_str (nomark _)) oe_int oe_int)))) sb_nil)
  (sb_cons (ss_if (ot_cmp (k_eq K hu) sem_eq (oe_v (pv 0)) oe_str (nomark _)) (sb_one (ss_ret (oe_if (ot_cmp op_gt sem_gt (oe_v (pv 3)) (oe_v (pv 2)) (nomark _)) oe_int oe_int))) sb_nil)
  (sb_cons (ss_if (ot_cmp (k_eq K hu) sem_eq (oe_v (pv 0)) oe_str (nomark _)) (sb_one (ss_ret (oe_if (ot_cmp (k_eq K hu) sem_eq (oe_v (pv 3)) oe_int (nomark _)) oe_non (oe_lenR3 T.n_len T.n_range (oa_cons (oe_v (pv 3)) (oa_cons (oe_add (K0 := K) (oe_v (pv 2)) oe_int) (oa_cons (oe_v (pv 3)) oa_nil))))))) sb_nil)
  (sb_cons (ss_set (i := 4) nd (oe_ix (K0 := K) hu (oe_n (ne_dict (op_cons oe_str (oe_add (K0 := K) (oe_v (pv 2)) (oe_v (pv 3))) (op_cons oe_str (oe_sub (oe_add (K0 := K) (oe_v (pv 2)) oe_int) (oe_v (pv 3))) (op_cons oe_str (oe_mul (K0 := K) (oe_v (pv 2)) (oe_v (pv 3))) op_nil))))) (oe_v (pv 0))))
  (sb_one (ss_ret (oe_sub (oe_v (pv 4)) (oe_mul (K0 := K) (oe_fdiv (oe_v (pv 4)) oe_int) oe_int))))))))))⟩
def m_l_cell_at : FF := mkF 4 (List.replicate 2 false) ((sSeq (sIf (tO (oO dLt (aC (oV 1) (aC (oO dLen (aC (oV 0) aN)) aN)))) (sRet (oO dIx (aC (oV 0) (aC (oV 1) aN)))) sPass)
  (sSeq (sIf (tO (oO dEq (aC (oV 0) (aC (oN (nLstQ aN)) aN)))) (sRet (oC (.int 0))) sPass)
  (sSeq (sSet 2 (oO dIx (aC (oV 0) (aC (oO dMod (aC (oV 1) (aC (oO dLen (aC (oV 0) aN)) aN))) aN))))
  (sSeq (sFor (iR1 (aC (oO dMin2 (aC (oO dFdiv (aC (oV 1) (aC (oO dLen (aC (oV 0) aN)) aN))) (aC (oC (.int 60)) aN))) aN)) (gN 3) (sSet 2 (oO dFdiv (aC (oV 2) (aC (oC (.int 1000003)) aN)))))
  (sRet (oO dAddL (aC (oO dAddL (aC (oO dMulL (aC (oO dIx (aC (oV 0) (aC (oO dMod (aC (oV 1) (aC (oO dLen (aC (oV 0) aN)) aN))) aN))) (aC (oC (.int 31)) aN))) (aC (oV 1) aN))) (aC (oO dMulL (aC (oV 2) (aC (oC (.int 101)) aN))) aN)))))))))
theorem sc_l_cell_at : FnScope ["_law_script", "_law_k", "_law_rest", "_law_again"] ["_law_script", "_law_k"] (defScope (top 6)) := ⟨rfl, rfl, rfl, by decide +kernel, rfl, by decide +kernel, by decide +kernel⟩
theorem ok_l_cell_at (T : Top K mg) : ∃ fd, Binds K fd ["_law_script", "_law_k"] [] ∧ FnOk P w K mg base CX0 1 (He.ga K "_law_cell_at") fd ["_law_script", "_law_k"] (spF mg K (List.replicate 2 false) m_l_cell_at) := by
  obtain ⟨fd, F⟩ := T.d__law_cell_at
  refine ⟨fd, F.bindsN (fun _ _ _ _ _ _ us hl => match us, hl with | [_, _], _ => rfl), okF F sc_l_cell_at rfl (by decide) fun cdv A outer s H EX hr => ?_⟩
  have hu := hr.units
  have hu5 := hu5_of hr
  have hu7 := hu7_of hr
  have nd := sc_l_cell_at.nd
  exact ⟨_, (sb_cons (ss_if (ot_cmp op_lt sem_lt (oe_v (pv 1)) (oe_blt (k_len K) sem_len T.n_len (by decide +kernel) (oa_cons (oe_v (pv 0)) oa_nil)) (nomark _)) (sb_one (ss_ret (oe_ix (K0 := K) hu (oe_v (pv 0)) (oe_v (pv 1))))) sb_nil)
  (sb_cons (ss_if (ot_cmp (k_eq K hu) sem_eq (oe_v (pv 0)) (oe_n (ne_lst oa_nil)) (nomark _)) (sb_one (ss_ret oe_int)) sb_nil)
  (sb_cons (ss_set (i := 2) nd (oe_ix (K0 := K) hu (oe_v (pv 0)) (oe_mod (oe_v (pv 1)) (oe_blt (k_len K) sem_len T.n_len (by decide +kernel) (oa_cons (oe_v (pv 0)) oa_nil)))))
  (sb_cons (ss_for rfl PassesOwn.never (si_range1 T.n_range (oa_cons (oe_blt (call_min2 rfl) sem_min2 T.n_min (by decide +kernel) (oa_cons (oe_fdiv (oe_v (pv 1)) (oe_blt (k_len K) sem_len T.n_len (by decide +kernel) (oa_cons (oe_v (pv 0)) oa_nil))) (oa_cons oe_int oa_nil))) oa_nil)) (sg_name nd (i := 3)) (sb_one (ss_set (i := 2) nd (oe_fdiv (oe_v (pv 2)) oe_int))))
  (sb_one (ss_ret (oe_add (K0 := K) (oe_add (K0 := K) (oe_mul (K0 := K) (oe_ix (K0 := K) hu (oe_v (pv 0)) (oe_mod (oe_v (pv 1)) (oe_blt (k_len K) sem_len T.n_len (by decide +kernel) (oa_cons (oe_v (pv 0)) oa_nil)))) oe_int) (oe_v (pv 1))) (oe_mul (K0 := K) (oe_v (pv 2)) oe_int))))))))⟩
def m_l_mixed : FF := mkF 4 (List.replicate 3 false) ((sSeq (sSet 3 (oO dMod (aC (oO dAddL (aC (oO dAddL (aC (oO dMulL (aC (oCallQ 2 m_l_cell_at (aC (oV 0) (aC (oV 1) aN))) (aC (oC (.int 1103515245)) aN))) (aC (oO dMulL (aC (oC (.int 7919)) (aC (oV 1) aN))) aN))) (aC (oC (.int 12345)) aN))) (aC (oC (.int 2147483647)) aN))))
  (sRet (oO dMod (aC (oO dMod (aC (oO dMod (aC (oO dPow (aC (oV 3) (aC (oC (.int 5)) aN))) (aC (oC (.int 2147483647)) aN))) (aC (oC (.int 999983)) aN))) (aC (oV 2) aN))))))
theorem sc_l_mixed : FnScope ["_law_script", "_law_k", "_law_bound", "_law_drawn"] ["_law_script", "_law_k", "_law_bound"] (defScope (top 7)) := ⟨rfl, rfl, rfl, by decide +kernel, rfl, by decide +kernel, by decide +kernel⟩
theorem ok_l_mixed (T : Top K mg) : ∃ fd, Binds K fd ["_law_script", "_law_k", "_law_bound"] [] ∧ FnOk P w K mg base CX0 2 (He.ga K "_law_mixed") fd ["_law_script", "_law_k", "_law_bound"] (spF mg K (List.replicate 3 false) m_l_mixed) := by
  obtain ⟨_, B_l_cell_at, G_l_cell_at⟩ := ok_l_cell_at (P := P) (w := w) (base := base) T
  obtain ⟨fd, F⟩ := T.d__law_mixed
  refine ⟨fd, F.bindsN (fun _ _ _ _ _ _ us hl => match us, hl with | [_, _, _], _ => rfl), okF F sc_l_mixed rfl (by decide) fun cdv A outer s H EX hr => ?_⟩
  have hu := hr.units
  have hu5 := hu5_of hr
  have hu7 := hu7_of hr
  have nd := sc_l_mixed.nd
  exact ⟨_, (sb_cons (ss_set (i := 3) nd (oe_mod (oe_add (K0 := K) (oe_add (K0 := K) (oe_mul (K0 := K) (oe_callQ (n := 2) (G := G_l_cell_at) (hr.mono (by decide)) T.g__law_cell_at T.k__law_cell_at B_l_cell_at (oa_cons (oe_v (pv 0)) (oa_cons (oe_v (pv 1)) oa_nil))) oe_int) (oe_mul (K0 := K) oe_int (oe_v (pv 1)))) oe_int) oe_int))
  (sb_one (ss_ret (oe_mod (oe_mod (oe_mod (oe_pow (oe_v (pv 3)) oe_int) oe_int) oe_int) (oe_v (pv 2))))))⟩
def m_l_draw : FF := mkF 3 [false, true, false] ((sSeq (sMeth 1 appD (oC (.int 0)))
  (sRet (oCallQ 3 m_l_mixed (aC (oV 0) (aC (oO dLen (aC (oV 1) aN)) (aC (oV 2) aN)))))))
theorem sc_l_draw : FnScope ["_law_script", "_law_town", "_law_bound"] ["_law_script", "_law_town", "_law_bound"] (defScope (top 8)) := ⟨rfl, rfl, rfl, by decide +kernel, rfl, by decide +kernel, by decide +kernel⟩
theorem ok_l_draw (T : Top K mg) : ∃ fd, Binds K fd ["_law_script", "_law_town", "_law_bound"] [] ∧ FnOk P w K mg base CX0 3 (He.ga K "_law_draw") fd ["_law_script", "_law_town", "_law_bound"] (spF mg K [false, true, false] m_l_draw) := by
  obtain ⟨_, B_l_mixed, G_l_mixed⟩ := ok_l_mixed (P := P) (w := w) (base := base) T
  obtain ⟨fd, F⟩ := T.d__law_draw
  refine ⟨fd, F.bindsN (fun _ _ _ _ _ _ us hl => match us, hl with | [_, _, _], _ => rfl), okF F sc_l_draw rfl (by decide) fun cdv A outer s H EX hr => ?_⟩
  have hu := hr.units
  have hu5 := hu5_of hr
  have hu7 := hu7_of hr
  have nd := sc_l_draw.nd
  exact ⟨_, (sb_cons (ss_app (pv 1) oe_int)
  (sb_one (ss_ret (oe_callQ (n := 3) (G := G_l_mixed) (hr.mono (by decide)) T.g__law_mixed T.k__law_mixed B_l_mixed (oa_cons (oe_v (pv 0)) (oa_cons (oe_blt (k_len K) sem_len T.n_len (by decide +kernel) (oa_cons (oe_v (pv 1)) oa_nil)) (oa_cons (oe_v (pv 2)) oa_nil)))))))⟩
def m_l_pick : FF := mkF 3 [false, true, false] ((sRet (oO dIx (aC (oV 2) (aC (oCall [false, true, false] m_l_draw (aC (oV 0) (aC (oV 1) (aC (oO dLen (aC (oV 2) aN)) aN)))) aN)))))
theorem sc_l_pick : FnScope ["_law_script", "_law_town", "_law_some"] ["_law_script", "_law_town", "_law_some"] (defScope (top 9)) := ⟨rfl, rfl, rfl, by decide +kernel, rfl, by decide +kernel, by decide +kernel⟩
theorem ok_l_pick (T : Top K mg) : ∃ fd, Binds K fd ["_law_script", "_law_town", "_law_some"] [] ∧ FnOk P w K mg base CX0 4 (He.ga K "_law_pick") fd ["_law_script", "_law_town", "_law_some"] (spF mg K [false, true, false] m_l_pick) := by
  obtain ⟨_, B_l_draw, G_l_draw⟩ := ok_l_draw (P := P) (w := w) (base := base) T
  obtain ⟨fd, F⟩ := T.d__law_pick
  refine ⟨fd, F.bindsN (fun _ _ _ _ _ _ us hl => match us, hl with | [_, _, _], _ => rfl), okF F sc_l_pick rfl (by decide) fun cdv A outer s H EX hr => ?_⟩
  have hu := hr.units
  have hu5 := hu5_of hr
  have hu7 := hu7_of hr
  have nd := sc_l_pick.nd
  exact ⟨_, (sb_one (ss_ret (oe_ix (K0 := K) hu (oe_v (pv 2)) (oe_call (G := G_l_draw) (hr.mono (by decide)) T.g__law_draw T.k__law_draw B_l_draw (oa_cons (oe_v (pv 0)) (oa_cons (oe_v (pv 1)) (oa_cons (oe_blt (k_len K) sem_len T.n_len (by decide +kernel) (oa_cons (oe_v (pv 2)) oa_nil)) oa_nil)))))))⟩
def m_law : FF := mkF 10 (List.replicate 1 false) ((sSeq (sSetN 1 (nLstQ aN))
  (sSeq (sIf (tO (oO dNe (aC (oC (wtD tup_DEEDS)) (aC (oTupQ (aC (oC (.str "plus")) (aC (oC (.str "minus")) (aC (oC (.str "times")) (aC (oC (.str "least")) (aC (oC (.str "most")) (aC (oC (.str "less")) (aC (oC (.str "over")) aN)))))))) aN)))) (sRet (oC (.bool false))) sPass)
  (sSeq (sFor (iSqQ (oO dAddL (aC (oN (nO dList (aC (oC (wtD tup_DEEDS)) aN))) (aC (oN (nLstQ (aC (oC (.str "pick")) aN))) aN)))) (gN 2) (sFor (iR1 (aC (oC (.int 4)) aN)) (gN 3) (sSeq (sSet 4 (oCall [false, true, false] m_l_pick (aC (oV 0) (aC (oV 1) (aC (oN (nLstQ (aC (oC (.int 2)) (aC (oC (.int 5)) (aC (oC (.int 1000)) aN))))) aN)))))
  (sSeq (sSetN 5 (nLc [6] (iR1 (aC (oI (tO (oO dEq (aC (oV 2) (aC (oC (.str "pick")) aN)))) (oC (.int 3)) (oC (.int 2))) aN)) (gN 6) tY (oCall [false, true, false] m_l_draw (aC (oV 0) (aC (oV 1) (aC (oV 4) aN))))))
  (sSeq (sIf (tO (oO dEq (aC (oCall [false, true, false] m_l_draw (aC (oV 0) (aC (oV 1) (aC (oC (.int 4)) aN)))) (aC (oC (.int 0)) aN)))) (sPut 5 (oCall [false, true, false] m_l_draw (aC (oV 0) (aC (oV 1) (aC (oO dLen (aC (oV 5) aN)) aN)))) (oC (.int 999))) sPass)
  (sSeq (sPar2 7 8 (aC (oN (nO dList (aC (oV 5) aN))) (aC (oCall [false, false] m_l_deed (aC (oV 2) (aC (oV 5) aN))) aN)))
  (sSeq (sSet 9 (oCall [false, false] m_done (aC (oV 2) (aC (oV 5) aN))))
  (sSeq (sIf (tR (tO (oO dNe (aC (oV 5) (aC (oV 7) aN)))) (tR (tO (oO dNe (aC (oV 9) (aC (oV 8) aN)))) (tR (tO (oO (dIsi "bool") (aC (oV 9) aN))) (tO (oO dNe (aC (oO dIs (aC (oV 9) (aC (oC .none) aN))) (aC (oO dIs (aC (oV 8) (aC (oC .none) aN))) aN))))))) (sRet (oC (.bool false))) sPass)
  (sIf (tA (tO (oO dIsN (aC (oV 8) (aC (oC .none) aN)))) (tN (tO (oChain dLe dLe (oC (.int 0)) (oV 9) (oC (.int 999)))))) (sRet (oC (.bool false))) sPass)))))))))
  (sRet (oC (.bool true)))))))
theorem sc_law : FnScope ["_law_script", "_law_town", "_law_deed_here", "_law_again", "_law_small", "_law_words", "_law_k", "_law_kept", "_law_due", "_law_made"] ["_law_script"] (defScope (top 11)) := ⟨rfl, rfl, rfl, by decide +kernel, rfl, by decide +kernel, by decide +kernel⟩
theorem ok_law (T : Top K mg) {fd : FuncData} (F : FunD K "law" "law" (defArgs (top 11)) (defBody (top 11)) (defScope (top 11)) [] [] (He.ga K "law") fd) : FnOk P w K mg base CX0 5 (He.ga K "law") fd ["_law_script"] (spF mg K (List.replicate 1 false) m_law) := by
  obtain ⟨_, B_done, G_done⟩ := ok_done (P := P) (w := w) (base := base) T
  obtain ⟨_, B_l_deed, G_l_deed⟩ := ok_l_deed (P := P) (w := w) (base := base) T
  obtain ⟨_, B_l_draw, G_l_draw⟩ := ok_l_draw (P := P) (w := w) (base := base) T
  obtain ⟨_, B_l_pick, G_l_pick⟩ := ok_l_pick (P := P) (w := w) (base := base) T
  refine okF F sc_law rfl (by decide) fun cdv A outer s H EX hr => ?_
  have hu := hr.units
  have hu5 := hu5_of hr
  have hu7 := hu7_of hr
  have nd := sc_law.nd
  exact ⟨_, (sb_cons (ss_setN (i := 1) nd (ne_lst oa_nil))
  (sb_cons (ss_if (ot_cmp (k_ne K hu) sem_ne (oe_gtup (by rfl) T.c_DEEDS.1 T.c_DEEDS.2.1 T.c_DEEDS.2.2) (oe_tup (oa_cons oe_str (oa_cons oe_str (oa_cons oe_str (oa_cons oe_str (oa_cons oe_str (oa_cons oe_str (oa_cons oe_str oa_nil)))))))) (nomark _)) (sb_one (ss_ret oe_bl)) sb_nil)
  (sb_cons (ss_for rfl PassesOwn.never (si_seqQ (K0 := K) (oe_add (K0 := K) (oe_n (ne_ty (k_list K) sem_list T.n_list (by decide +kernel) (oa_cons (oe_gtup (by rfl) T.c_DEEDS.1 T.c_DEEDS.2.1 T.c_DEEDS.2.2) oa_nil))) (oe_n (ne_lst (oa_cons oe_str oa_nil))))) (sg_name nd (i := 2)) (sb_one (ss_for rfl PassesOwn.never (si_range1 T.n_range (oa_cons oe_int oa_nil)) (sg_name nd (i := 3)) (sb_cons (ss_set (i := 4) nd (oe_call (G := G_l_pick) (hr.mono (by decide)) T.g__law_pick T.k__law_pick B_l_pick (oa_cons (oe_v (pv 0)) (oa_cons (oe_v (pv 1)) (oa_cons (oe_n (ne_lst (oa_cons oe_int (oa_cons oe_int (oa_cons oe_int oa_nil))))) oa_nil)))))
  (sb_cons (ss_setLcN (i := 5) (own := [("_law_k", 6)]) (N0 := ["_law_script", "_law_town", "_law_deed_here", "_law_again", "_law_small", "_law_words", "_law_k", "_law_kept", "_law_due", "_law_made"]) (sc0 := defScope (top 11)) rfl nd rfl rfl (sw_true rfl rfl rfl (by decide +kernel)) (si_range1 T.n_range (oa_cons (oe_if (ot_cmp (k_eq K hu) sem_eq (oe_v (pv 2)) oe_str (nomark _)) oe_int oe_int) oa_nil)) rfl rfl (by decide +kernel) (by decide) (by decide) (fun _ _ _ _ _ => (sg_name nd (i := 6))) (fun _ _ _ _ _ => ots_nil) (fun _ _ _ _ _ => (oe_call (G := G_l_draw) (hr.mono (by decide)) T.g__law_draw T.k__law_draw B_l_draw (oa_cons (oe_v (pv 0)) (oa_cons (oe_v (pv 1)) (oa_cons (oe_v (pv 4)) oa_nil))))))
  (sb_cons (ss_if (ot_cmp (k_eq K hu) sem_eq (oe_call (G := G_l_draw) (hr.mono (by decide)) T.g__law_draw T.k__law_draw B_l_draw (oa_cons (oe_v (pv 0)) (oa_cons (oe_v (pv 1)) (oa_cons oe_int oa_nil)))) oe_int (nomark _)) (sb_one (ss_put hu (pv 5) (oe_call (G := G_l_draw) (hr.mono (by decide)) T.g__law_draw T.k__law_draw B_l_draw (oa_cons (oe_v (pv 0)) (oa_cons (oe_v (pv 1)) (oa_cons (oe_blt (k_len K) sem_len T.n_len (by decide +kernel) (oa_cons (oe_v (pv 5)) oa_nil)) oa_nil)))) oe_int)) sb_nil)
  (sb_cons (ss_par2 (i := 7) (j := 8) rfl nd (oa_cons (oe_n (ne_ty (k_list K) sem_list T.n_list (by decide +kernel) (oa_cons (oe_v (pv 5)) oa_nil))) (oa_cons (oe_call (G := G_l_deed) (hr.mono (by decide)) T.g__law_deed T.k__law_deed B_l_deed (oa_cons (oe_v (pv 2)) (oa_cons (oe_v (pv 5)) oa_nil))) oa_nil)))
  (sb_cons (ss_set (i := 9) nd (oe_call (G := G_done) (hr.mono (by decide)) T.g_done T.k_done B_done (oa_cons (oe_v (pv 2)) (oa_cons (oe_v (pv 5)) oa_nil))))
  (sb_cons (ss_if (ot_w (ow_or (ot_cmp (k_ne K hu) sem_ne (oe_v (pv 5)) (oe_v (pv 7)) (nomark _)) (ow_or (ot_cmp (k_ne K hu) sem_ne (oe_v (pv 9)) (oe_v (pv 8)) (nomark _)) (ow_or (ot_val (oe_isi (K0 := K) (n := "bool") T.n_isinstance T.n_bool (by decide +kernel) (oe_v (pv 9)))) (ow_or1 (ot_cmp (k_ne K hu) sem_ne (oe_cmp op_isA sem_is (oe_v (pv 9)) oe_non (nomark _)) (oe_cmp op_isA sem_is (oe_v (pv 8)) oe_non (nomark _)) (nomark _))))))) (sb_one (ss_ret oe_bl)) sb_nil)
  (sb_one (ss_if (ot_w (ow_and (ot_cmp op_isNA sem_isN (oe_v (pv 8)) oe_non (nomark _)) (ow_and1 (ot_not (ot_chain op_le sem_le op_le sem_le oe_int (oe_v (pv 9)) oe_int))))) (sb_one (ss_ret oe_bl)) sb_nil)))))))))))
  (sb_one (ss_ret oe_bl)))))⟩
end
end K02

set_option maxHeartbeats 4000000
namespace K02
open PySem PySem.Spec L2 FL
def D7 : List Str := ["plus", "minus", "times", "least", "most", "less", "over"]
def rg (z : Int) : Prop := 0 ≤ z ∧ z ≤ 999
def due3 (a b c : Int) : D := if a = 0 then .int c else .int b
theorem done3 (a b c : Int) : m_done [.str "pick", .list [.int a, .int b, .int c]] = some (due3 a b c, []) ∧ m_l_deed [.str "pick", .list [.int a, .int b, .int c]] = some (due3 a b c, []) := by
  constructor
  · by_cases h : a = 0 <;> simp [due3, h, m_done, mkF, inE, inSl, List.replicate, sSeq, sIf, tO, oO, aC, oV, oC, aN, rdA, Lz.read, dEq_str, ofS_inj, sRet, oI, ix0, ix1, ix2, dNe_int, Lz.take, outs]
  · by_cases h : a = 0 <;> simp [due3, h, m_l_deed, mkF, inE, inSl, List.replicate, sSeq, sIf, tO, oO, aC, oV, oC, aN, rdA, Lz.read, dEq_str, ofS_inj, sRet, oI, ix0, ix1, ix2, dEq_int, Lz.take, outs]

/-- what a deed makes of two words -/
def due2 (d : Str) (a b : Int) : D :=
  if d = "plus" then .int ((a + b) % 1000) else if d = "minus" then .int ((a - b) % 1000) else if d = "times" then .int (a * b % 1000) else
  if d = "least" then .int (if b < a then b else a) else if d = "most" then .int (if b > a then b else a) else if d = "less" then .int (if a < b then 1 else 0) else if b = 0 then .none else .int (a / b)
theorem mulOk_rg {a b : Int} (ha : rg a) (hb : rg b) : mulOk a b = true := by
  refine bt.mulOk (n := 10) (m := 10) ?_ ?_ (by omega) <;> unfold bt rg at * <;> simp <;> omega
theorem of_two2 (d : Str) (hd : d ∈ D7) (a b : Int) (ha : rg a) (hb : rg b) : m_of_two [.str d, .int a, .int b] = some (due2 d a b, []) := by
  have m := mulOk_rg ha hb
  have hb' : b < 1073741824 := by have := hb.2; omega
  simp only [D7, List.mem_cons, List.not_mem_nil, or_false] at hd
  rcases hd with rfl | rfl | rfl | rfl | rfl | rfl | rfl
  all_goals simp [due2, ofS_inj, m_of_two, mkF, inE, inSl, List.replicate, sSeq, sIf, tO, oO, aC, oV, oC, aN, rdA, Lz.read, dEq_str, ofS_inj, sRet, sPass, dAddL, dAdd, dSub, dMulL, dMul, m, dMod, dI, dMin2, dMax2, dLt, dInt1, oI, dNe_int, Lz.take, outs]
  by_cases z : b = 0
  · simp [z]
  · have hp : 0 < b := by have := hb.1; omega
    simp [z, dFdiv, dI, hp, hb']

theorem rgLen_div {a b : Int} (ha : rg a) (hb : 0 < b) : rgLen b (a + 1) b = a / b := by
  have h0 := ha.1
  unfold rgLen Builtin.Range.rangeSize
  rw [if_pos hb]
  by_cases h : b < a + 1
  · rw [if_pos h]
    have e : a + 1 - b - 1 = a + (-1) * b := by omega
    rw [e, Int.add_mul_ediv_right _ _ (by omega)]
    omega
  · rw [if_neg h, Int.ediv_eq_zero_of_lt h0 (by omega)]
theorem deed2 (d : Str) (hd : d ∈ D7) (a b : Int) (ha : rg a) (hb : rg b) : m_l_deed [.str d, .list [.int a, .int b]] = some (due2 d a b, []) := by
  have m := mulOk_rg ha hb
  have md : ∀ z : Int, bt 40 z → mulOk (z / 1000) 1000 = true := fun z h => (h.div _).mulOk (m := 10) (by unfold bt; decide) (by omega)
  have fix : ∀ z : Int, z - z / 1000 * 1000 = z % 1000 := fun z => by omega
  have m1 := md (a + b) (by unfold bt rg at *; simp; omega)
  have m2 := md (a + 1000 - b) (by unfold bt rg at *; simp; omega)
  have m3 := md (a * b) ((bt.mul (n := 20) (m := 20) (by unfold bt rg at *; simp; omega) (by unfold bt rg at *; simp; omega)))
  have e2 : (a + 1000 - b) % 1000 = (a - b) % 1000 := by omega
  have sT : SeqAt.shaped (.tuple [.str "least", .str "most"]) = true := by decide +kernel
  have s0 : SeqAt.shaped (.str "plus") = true := by decide +kernel
  have s1 : SeqAt.shaped (.str "minus") = true := by decide +kernel
  have s2 : SeqAt.shaped (.str "times") = true := by decide +kernel
  have s3 : SeqAt.shaped (.str "least") = true := by decide +kernel
  have s4 : SeqAt.shaped (.str "most") = true := by decide +kernel
  have s5 : SeqAt.shaped (.str "less") = true := by decide +kernel
  have s6 : SeqAt.shaped (.str "over") = true := by decide +kernel
  simp only [D7, List.mem_cons, List.not_mem_nil, or_false] at hd
  rcases hd with rfl | rfl | rfl | rfl | rfl | rfl | rfl
  all_goals simp [due2, m_l_deed, mkF, inE, inSl, List.replicate, sSeq, sIf, tO, oO, aC, oV, oC, aN, rdA, Lz.read, dEq_str, ofS_inj, sRet, sPass, oI, Lz.take, outs, sAsg, gT, gC, gN, gZ, freeAt, dIn, inD, norm, sT, s0, s1, s2, s3, s4, s5, s6, oTupQ, csA, big, PyData.eqv]
  · simp [sSet, oO, aC, oV, oC, aN, oN, nDict, pC, pN, rdA, Lz.read, dAddL, dAdd, dSub, dI, dMulL, dMul, m, allKeys, keyD, dput, PyData.eqv, ofS_inj, dIx, ixD, norm, fits, isK, dlook, Lz.take, freeAt, dFdiv, m1, fix]
  · simp [sSet, oO, aC, oV, oC, aN, oN, nDict, pC, pN, rdA, Lz.read, dAddL, dAdd, dSub, dI, dMulL, dMul, m, allKeys, keyD, dput, PyData.eqv, ofS_inj, dIx, ixD, norm, fits, isK, dlook, Lz.take, freeAt, dFdiv, m2, fix, e2]
  · simp [sSet, oO, aC, oV, oC, aN, oN, nDict, pC, pN, rdA, Lz.read, dAddL, dAdd, dSub, dI, dMulL, dMul, m, allKeys, keyD, dput, PyData.eqv, ofS_inj, dIx, ixD, norm, fits, isK, dlook, Lz.take, freeAt, dFdiv, m3, fix]
  · by_cases q : b < a <;> simp [oN, nO, aC, oV, aN, rdA, Lz.read, sort_ints2, q, ix0, tO, oO, oC, dEq_str, Lz.take, outs]
  · by_cases q : b < a <;> simp [oN, nO, aC, oV, aN, rdA, Lz.read, sort_ints2, q, ix1, tO, oO, oC, dEq_str, ofS_inj, Lz.take, outs] <;> omega
  · by_cases q : a < b <;> simp [oO, aC, oV, aN, rdA, Lz.read, dGt, dI, q, oC]
  · by_cases q : b = 0
    · subst q; simp [dEq_int]
    · have hb' : 0 < b := by have := hb.1; omega
      have hl := rgLen_div ha hb'
      have h1 : 0 ≤ a / b := Int.ediv_nonneg ha.1 (by omega)
      have h2 : a / b ≤ a := Int.ediv_le_self _ ha.1
      have h3 : a / b < 1000000 := by have := ha.2; omega
      have h4 : b.natAbs < 1073741824 := by have := hb.2; omega
      simp [dEq_int, q, dAddL, dAdd, dLenR3, hl, h1, h3, h4, oO, aC, oC, oV, aN, rdA, Lz.read, Lz.take, outs]
theorem due2_rg (d : Str) (hd : d ∈ D7) (a b : Int) (ha : rg a) (hb : rg b) : due2 d a b = .none ∨ ∃ z, due2 d a b = .int z ∧ rg z := by
  unfold due2
  have h1 := ha.1; have h2 := ha.2; have h3 := hb.1; have h4 := hb.2
  repeat' split
  · exact .inr ⟨_, rfl, by unfold rg; omega⟩
  · exact .inr ⟨_, rfl, by unfold rg; omega⟩
  · exact .inr ⟨_, rfl, ⟨Int.emod_nonneg _ (by omega), by have := Int.emod_lt_of_pos (a * b) (show (0 : Int) < 1000 by omega); omega⟩⟩
  · exact .inr ⟨_, rfl, by unfold rg; omega⟩
  · exact .inr ⟨_, rfl, by unfold rg; omega⟩
  · exact .inr ⟨_, rfl, by unfold rg; omega⟩
  · exact .inr ⟨_, rfl, by unfold rg; omega⟩
  · exact .inr ⟨_, rfl, by unfold rg; omega⟩
  · exact .inr ⟨_, rfl, by unfold rg; omega⟩
  · exact .inl rfl
  · exact .inr ⟨_, rfl, ⟨Int.ediv_nonneg h1 h3, by have := Int.ediv_le_self b h1; omega⟩⟩
theorem done2 (d : Str) (hd : d ∈ D7) (a b : Int) (ha : rg a) (hb : rg b) : m_done [.str d, .list [.int a, .int b]] = some (due2 d a b, []) := by
  have h := of_two2 d hd a b ha hb
  have n : (d == Str.ofString "pick") = false := by
    simp only [D7, List.mem_cons, List.not_mem_nil, or_false] at hd
    rcases hd with rfl | rfl | rfl | rfl | rfl | rfl | rfl <;> simp [ofS_inj]
  simp [m_done, mkF, inE, inSl, List.replicate, sSeq, sIf, tO, oO, aC, oV, oC, aN, rdA, Lz.read, dEq_str, n, sPass, sRet, oCallQ, ix0, ix1, csA, h, Lz.take, outs]
/-- the words, by the deed -/
def Ws (d : Str) (ws : List D) : Prop := (d ∈ D7 ∧ ∃ a b, ws = [.int a, .int b] ∧ rg a ∧ rg b) ∨ (d = "pick" ∧ ∃ a b c, ws = [.int a, .int b, .int c] ∧ rg a ∧ rg b ∧ rg c)
theorem both {d : Str} {ws : List D} (h : Ws d ws) : ∃ v : D, m_done [.str d, .list ws] = some (v, []) ∧ m_l_deed [.str d, .list ws] = some (v, []) ∧ (v = .none ∨ ∃ z, v = .int z ∧ rg z) := by
  rcases h with ⟨hd, a, b, rfl, ha, hb⟩ | ⟨rfl, a, b, c, rfl, ha, hb, hc⟩
  · exact ⟨_, done2 d hd a b ha hb, deed2 d hd a b ha hb, due2_rg d hd a b ha hb⟩
  · refine ⟨_, (done3 a b c).1, (done3 a b c).2, .inr ?_⟩
    unfold due3
    split
    · exact ⟨_, rfl, hc⟩
    · exact ⟨_, rfl, hb⟩
end K02

set_option maxHeartbeats 4000000
namespace K02
open PySem PySem.Spec L2 FL
theorem draw_eq : m_l_draw = g_draw := rfl
theorem pick_eq : m_l_pick = g_pick := rfl
def D8 : List Str := D7 ++ [("pick" : Str)]
def body : FS := (sSeq (sSet 4 (oCall [false, true, false] m_l_pick (aC (oV 0) (aC (oV 1) (aC (oN (nLstQ (aC (oC (.int 2)) (aC (oC (.int 5)) (aC (oC (.int 1000)) aN))))) aN)))))
  (sSeq (sSetN 5 (nLc [6] (iR1 (aC (oI (tO (oO dEq (aC (oV 2) (aC (oC (.str "pick")) aN)))) (oC (.int 3)) (oC (.int 2))) aN)) (gN 6) tY (oCall [false, true, false] m_l_draw (aC (oV 0) (aC (oV 1) (aC (oV 4) aN))))))
  (sSeq (sIf (tO (oO dEq (aC (oCall [false, true, false] m_l_draw (aC (oV 0) (aC (oV 1) (aC (oC (.int 4)) aN)))) (aC (oC (.int 0)) aN)))) (sPut 5 (oCall [false, true, false] m_l_draw (aC (oV 0) (aC (oV 1) (aC (oO dLen (aC (oV 5) aN)) aN)))) (oC (.int 999))) sPass)
  (sSeq (sPar2 7 8 (aC (oN (nO dList (aC (oV 5) aN))) (aC (oCall [false, false] m_l_deed (aC (oV 2) (aC (oV 5) aN))) aN)))
  (sSeq (sSet 9 (oCall [false, false] m_done (aC (oV 2) (aC (oV 5) aN))))
  (sSeq (sIf (tR (tO (oO dNe (aC (oV 5) (aC (oV 7) aN)))) (tR (tO (oO dNe (aC (oV 9) (aC (oV 8) aN)))) (tR (tO (oO (dIsi "bool") (aC (oV 9) aN))) (tO (oO dNe (aC (oO dIs (aC (oV 9) (aC (oC .none) aN))) (aC (oO dIs (aC (oV 8) (aC (oC .none) aN))) aN))))))) (sRet (oC (.bool false))) sPass)
  (sIf (tA (tO (oO dIsN (aC (oV 8) (aC (oC .none) aN)))) (tN (tO (oChain dLe dLe (oC (.int 0)) (oV 9) (oC (.int 999)))))) (sRet (oC (.bool false))) sPass)))))))
section
variable {ns : List Int} (S : Scr ns)
abbrev st (ns : List Int) (n : Nat) (x2 x3 x4 x5 x7 x8 x9 : Option Sl) : Ev := [some (.fz (scrD ns)), some (.own (.L .fz) (town n)), x2, x3, x4, x5, none, x7, x8, x9]
include S
theorem mem8 {d : Str} (hd : d ∈ D8) : d ∈ D7 ∨ d = "pick" := by simpa [D8] using hd
theorem ws_len {d : Str} {ws : List D} (h : Ws d ws) : ∃ zs : List Int, ws = zs.map PyData.int ∧ 0 < zs.length ∧ zs.length ≤ 3 ∧ ∀ z ∈ zs, rg z := by
  rcases h with ⟨hd, a, b, rfl, ha, hb⟩ | ⟨rfl, a, b, c, rfl, ha, hb, hc⟩
  · exact ⟨[a, b], rfl, by simp, by simp, by simp [ha, hb]⟩
  · exact ⟨[a, b, c], rfl, by simp, by simp, by simp [ha, hb, hc]⟩
theorem ws_of {d : Str} (hd : d ∈ D8) {zs : List Int} (hl : zs.length = if d = "pick" then 3 else 2) (h : ∀ z ∈ zs, rg z) : Ws d (zs.map PyData.int) := by
  by_cases p : d = "pick"
  · rw [if_pos p] at hl
    match zs, hl with
    | [a, b, c], _ => exact .inr ⟨p, a, b, c, rfl, h a (by simp), h b (by simp), h c (by simp)⟩
  · rw [if_neg p] at hl
    match zs, hl with
    | [a, b], _ => exact .inl ⟨(mem8 S hd).resolve_right p, a, b, rfl, h a (by simp), h b (by simp)⟩
theorem s1 {n : Nat} (hn : n < 900000) {x2 x3 x4 x5 x7 x8 x9 : Option Sl} (h4 : nio x4) : ∃ b : Int, 0 < b ∧ b ≤ 1000 ∧ sSet 4 (oCall [false, true, false] m_l_pick (aC (oV 0) (aC (oV 1) (aC (oN (nLstQ (aC (oC (.int 2)) (aC (oC (.int 5)) (aC (oC (.int 1000)) aN))))) aN)))) (st ns n x2 x3 x4 x5 x7 x8 x9) =
    some (.nx, st ns (n + 1) x2 x3 (some (.fz (.int b))) x5 x7 x8 x9) := by
  obtain ⟨v, k, e⟩ := pk_at S (env := st ns n x2 x3 x4 x5 x7 x8 x9) (i := 0) (j := 1) hn rfl (.inl rfl) (oN (nLstQ (aC (oC (.int 2)) (aC (oC (.int 5)) (aC (oC (.int 1000)) aN))))) [.int 2, .int 5, .int 1000] (by simp) rfl
  have hb : ∃ b : Int, 0 < b ∧ b ≤ 1000 ∧ v = .int b := by
    simp only [List.mem_cons, List.not_mem_nil, or_false] at k
    rcases k with rfl | rfl | rfl
    · exact ⟨2, by omega, by omega, rfl⟩
    · exact ⟨5, by omega, by omega, rfl⟩
    · exact ⟨1000, by omega, by omega, rfl⟩
  obtain ⟨b, b0, b1, rfl⟩ := hb
  refine ⟨b, b0, b1, ?_⟩
  have hf : freeAt (st ns (n + 1) x2 x3 x4 x5 x7 x8 x9) 4 = true := free_of rfl h4
  rw [pick_eq]
  simp only [sSet, e]
  simp [later, wd_own, Lz.take, hf]
theorem s2 {n : Nat} (hn : n < 800000) {d : Str} (hd : d ∈ D8) {b : Int} (b0 : 0 < b) (b1 : b ≤ 1000) {x3 x5 x7 x8 x9 : Option Sl} (h5 : nio x5) : ∃ (zs : List Int) (m : Nat), m ≤ n + 3 ∧ (zs.length = if d = "pick" then 3 else 2) ∧ (∀ z ∈ zs, rg z) ∧
    sSetN 5 (nLc [6] (iR1 (aC (oI (tO (oO dEq (aC (oV 2) (aC (oC (.str "pick")) aN)))) (oC (.int 3)) (oC (.int 2))) aN)) (gN 6) tY (oCall [false, true, false] m_l_draw (aC (oV 0) (aC (oV 1) (aC (oV 4) aN))))) (st ns n (some (.fz (.str d))) x3 (some (.fz (.int b))) x5 x7 x8 x9) =
      some (.nx, st ns m (some (.fz (.str d))) x3 (some (.fz (.int b))) (some (.own (.L .fz) (.list (zs.map PyData.int)))) x7 x8 x9) := by
  obtain ⟨c, hc3, hc, hi⟩ : ∃ c : Nat, c ≤ 3 ∧ (c = if d = "pick" then 3 else 2) ∧ iR1 (aC (oI (tO (oO dEq (aC (oV 2) (aC (oC (.str "pick")) aN)))) (oC (.int 3)) (oC (.int 2))) aN) (st ns n (some (.fz (.str d))) x3 (some (.fz (.int b))) x5 x7 x8 x9) = some (intRange 0 c, st ns n (some (.fz (.str d))) x3 (some (.fz (.int b))) x5 x7 x8 x9) := by
    by_cases p : d = "pick"
    · refine ⟨3, by omega, by simp [p], ?_⟩
      simp [iR1, aC, oI, tO, oO, oV, oC, aN, rdA, Lz.read, dEq_str, p, rgOk]
    · refine ⟨2, by omega, by simp [p], ?_⟩
      simp [iR1, aC, oI, tO, oO, oV, oC, aN, rdA, Lz.read, dEq_str, p, rgOk]
  obtain ⟨zs, e2, h1, h2, h3, h4⟩ := lcD_inv (v := 6) (f := oCall [false, true, false] m_l_draw (aC (oV 0) (aC (oV 1) (aC (oV 4) aN))))
    (Q := fun i env => env = st ns (n + i) (some (.fz (.str d))) x3 (some (.fz (.int b))) x5 x7 x8 x9) (V := fun _ z => ∃ w : Int, z = .int w ∧ 0 ≤ w ∧ w < b)
    (fun i env h => by subst h; simp) (intRange 0 c) 0 (fun i x hi env h => by
      subst h
      have hi := lt_of_get hi
      have hl : (intRange 0 c).length = c := by simp [intRange]
      obtain ⟨v, v0, v1, e⟩ := dr_at S (env := (st ns (n + (0 + i)) (some (.fz (.str d))) x3 (some (.fz (.int b))) x5 x7 x8 x9).set 6 (some (.fz x))) (i := 0) (j := 1) (n := n + (0 + i)) (by omega) rfl (.inl rfl) (oV 4) b b0 rfl
      exact ⟨_, _, by rw [draw_eq]; exact e, ⟨v, rfl, v0, v1⟩, rfl⟩) (st ns n (some (.fz (.str d))) x3 (some (.fz (.int b))) x5 x7 x8 x9) rfl
  have hl : (intRange 0 c).length = c := by simp [intRange]
  obtain ⟨ws, hw, hw2⟩ := ints_of (P := fun w => 0 ≤ w ∧ w < b) zs (fun z hz => by obtain ⟨i, hi⟩ := List.getElem?_of_mem hz; exact h4 i z hi)
  subst hw
  refine ⟨ws, n + (0 + c), by omega, by rw [← hc]; simpa [hl] using h3, fun z hz => ⟨(hw2 z hz).1, by have := (hw2 z hz).2; omega⟩, ?_⟩
  have hf : freeAt (st ns (n + (0 + c)) (some (.fz (.str d))) x3 (some (.fz (.int b))) x5 x7 x8 x9) 5 = true := free_of rfl h5
  have hp : ([6].all (plainAt (st ns n (some (.fz (.str d))) x3 (some (.fz (.int b))) x5 x7 x8 x9))) = true := rfl
  have hb : (intRange 0 c).length ≤ big := by rw [hl]; unfold big; omega
  rw [hl] at h2
  subst h2
  simp only [sSetN, nLc, hi, Option.bind_some, hp, hb, and_self, if_true, h1]
  simp only [backE, st, List.getElem?_cons_succ, List.getElem?_cons_zero, Option.join, List.set, hf]
  simp only [shD_list]
  exact if_pos (free_of rfl h5)
theorem s3 {n : Nat} (hn : n < 800000) {x2 x3 x4 x7 x8 x9 : Option Sl} {zs : List Int} (hz : 0 < zs.length) (hr : ∀ z ∈ zs, rg z) : ∃ (ws : List Int) (m : Nat), m ≤ n + 2 ∧ ws.length = zs.length ∧ (∀ z ∈ ws, rg z) ∧
    sIf (tO (oO dEq (aC (oCall [false, true, false] m_l_draw (aC (oV 0) (aC (oV 1) (aC (oC (.int 4)) aN)))) (aC (oC (.int 0)) aN)))) (sPut 5 (oCall [false, true, false] m_l_draw (aC (oV 0) (aC (oV 1) (aC (oO dLen (aC (oV 5) aN)) aN)))) (oC (.int 999))) sPass (st ns n x2 x3 x4 (some (.own (.L .fz) (.list (zs.map PyData.int)))) x7 x8 x9) =
      some (.nx, st ns m x2 x3 x4 (some (.own (.L .fz) (.list (ws.map PyData.int)))) x7 x8 x9) := by
  obtain ⟨v, v0, v1, e⟩ := dr_at S (env := st ns n x2 x3 x4 (some (.own (.L .fz) (.list (zs.map PyData.int)))) x7 x8 x9) (i := 0) (j := 1) (by omega) rfl (.inl rfl) (oC (.int 4)) 4 (by omega) rfl
  have el : oO dLen (aC (oV 5) aN) (st ns (n + 1) x2 x3 x4 (some (.own (.L .fz) (.list (zs.map PyData.int)))) x7 x8 x9) = some (.c (.int zs.length), st ns (n + 1) x2 x3 x4 (some (.own (.L .fz) (.list (zs.map PyData.int)))) x7 x8 x9) := by
    simp [oO, aC, oV, aN, rdA, Lz.read, sh_own, d_own, flatSh, dLen, norm, lenD]
  obtain ⟨u, u0, u1, e'⟩ := dr_at S (env := st ns (n + 1) x2 x3 x4 (some (.own (.L .fz) (.list (zs.map PyData.int)))) x7 x8 x9) (i := 0) (j := 1) (n := n + 1) (by omega) rfl (.inl rfl) (oO dLen (aC (oV 5) aN)) zs.length (by omega) el
  by_cases q : v = 0
  · subst q
    obtain ⟨j, rfl⟩ := Int.eq_ofNat_of_zero_le u0
    have hj : j < zs.length := by omega
    refine ⟨zs.set j 999, n + 2, by omega, by simp, fun z hz => ?_, ?_⟩
    · rcases List.mem_or_eq_of_mem_set hz with h | h
      · exact hr z h
      · subst h; unfold rg; omega
    · have ep : putD (.int (j : Int)) (.int 999) (.list (zs.map PyData.int)) = some (.list ((zs.set j 999).map PyData.int)) := by
        simp [putD, L2.ixN, hj, List.map_set]
      rw [draw_eq]
      have e'' : oCall [false, true, false] g_draw (aC (oV 0) (aC (oV 1) (aC (oO dLen (aC (oV 5) aN)) aN))) (st ns (n + 1) x2 x3 x4 (some (.own (.L .fz) (.list (zs.map PyData.int)))) x7 x8 x9) = some (.c (.int j), st ns (n + 2) x2 x3 x4 (some (.own (.L .fz) (.list (zs.map PyData.int)))) x7 x8 x9) := e'
      have e1 : oCall [false, true, false] g_draw (aC (oV 0) (aC (oV 1) (aC (oC (.int 4)) aN))) (st ns n x2 x3 x4 (some (.own (.L .fz) (.list (zs.map PyData.int)))) x7 x8 x9) = some (.c (.int 0), st ns (n + 1) x2 x3 x4 (some (.own (.L .fz) (.list (zs.map PyData.int)))) x7 x8 x9) := e
      simp only [sIf_ap, tO_ap, oO_ap, aC_ap, e1, e'', Option.bind_some, oC_ap, aN_ap, rdA, Lz.read, Option.map_some, dEq_int, sPut_ap, Lz.take]
      simp [hasR, sh_own, chg, d_own, wd_own, ep, shD_list]
  · refine ⟨zs, n + 1, by omega, rfl, hr, ?_⟩
    rw [draw_eq]
    simp [sIf, tO, oO, aC, e, oC, aN, rdA, Lz.read, dEq_int, q, sPass, later, wd_own]

theorem s4 {n : Nat} {d : Str} {x3 x4 x7 x8 x9 : Option Sl} {ws : List Int} (hw : Ws d (ws.map PyData.int)) (h7 : nio x7) (h8 : nio x8) (h9 : nio x9) : ∃ v7 v8 v9 : D,
    (sSeq (sPar2 7 8 (aC (oN (nO dList (aC (oV 5) aN))) (aC (oCall [false, false] m_l_deed (aC (oV 2) (aC (oV 5) aN))) aN)))
  (sSeq (sSet 9 (oCall [false, false] m_done (aC (oV 2) (aC (oV 5) aN))))
  (sSeq (sIf (tR (tO (oO dNe (aC (oV 5) (aC (oV 7) aN)))) (tR (tO (oO dNe (aC (oV 9) (aC (oV 8) aN)))) (tR (tO (oO (dIsi "bool") (aC (oV 9) aN))) (tO (oO dNe (aC (oO dIs (aC (oV 9) (aC (oC .none) aN))) (aC (oO dIs (aC (oV 8) (aC (oC .none) aN))) aN))))))) (sRet (oC (.bool false))) sPass)
  (sIf (tA (tO (oO dIsN (aC (oV 8) (aC (oC .none) aN)))) (tN (tO (oChain dLe dLe (oC (.int 0)) (oV 9) (oC (.int 999)))))) (sRet (oC (.bool false))) sPass))))
    (st ns n (some (.fz (.str d))) x3 x4 (some (.own (.L .fz) (.list (ws.map PyData.int)))) x7 x8 x9) =
      some (.nx, st ns n (some (.fz (.str d))) x3 x4 (some (.fz (.list (ws.map PyData.int)))) (some (.fz v7)) (some (.fz v8)) (some (.fz v9))) := by
  obtain ⟨v, h1, h2, h3⟩ := both hw
  refine ⟨.list (ws.map PyData.int), v, v, ?_⟩
  have dl : dList [.list (ws.map PyData.int)] = some (.list (ws.map PyData.int)) := by simp [dList, norm]
  have ne1 : dNe [.list (ws.map PyData.int), .list (ws.map PyData.int)] = some (.bool false) := by
    have : ∀ l : List Int, PyData.eqvAll (l.map PyData.int) (l.map PyData.int) = true := fun l => by induction l with
      | nil => rfl
      | cons a r ih => simp [PyData.eqvAll, PyData.eqv, ih]
    simp [dNe, eqD, sc2, norm, shaped_ints, PyData.eqv, this]
  have p2 : sPar2 7 8 (aC (oN (nO dList (aC (oV 5) aN))) (aC (oCall [false, false] m_l_deed (aC (oV 2) (aC (oV 5) aN))) aN)) (st ns n (some (.fz (.str d))) x3 x4 (some (.own (.L .fz) (.list (ws.map PyData.int)))) x7 x8 x9) =
      some (.nx, st ns n (some (.fz (.str d))) x3 x4 (some (.fz (.list (ws.map PyData.int)))) (some (.fz (.list (ws.map PyData.int)))) (some (.fz v)) x9) := by
    have f7 : freeAt (st ns n (some (.fz (.str d))) x3 x4 (some (.fz (.list (ws.map PyData.int)))) x7 x8 x9) 7 = true := free_of rfl h7
    have f8 : freeAt (st ns n (some (.fz (.str d))) x3 x4 (some (.fz (.list (ws.map PyData.int)))) (some (.fz (.list (ws.map PyData.int)))) x8 x9) 8 = true := free_of rfl h8
    simp [sPar2_ap, kA_ap, aC_ap, oN_ap, nO_ap, oV_ap, aN_ap, rdA, Lz.read, sh_own, d_own, flatSh, dl, oCall_ap, argsE, Lz.take, ioS, h2, putB, tkA, gN_ap, f7, f8]
  have p9 : sSet 9 (oCall [false, false] m_done (aC (oV 2) (aC (oV 5) aN))) (st ns n (some (.fz (.str d))) x3 x4 (some (.fz (.list (ws.map PyData.int)))) (some (.fz (.list (ws.map PyData.int)))) (some (.fz v)) x9) =
      some (.nx, st ns n (some (.fz (.str d))) x3 x4 (some (.fz (.list (ws.map PyData.int)))) (some (.fz (.list (ws.map PyData.int)))) (some (.fz v)) (some (.fz v))) := by
    have f9 : freeAt (st ns n (some (.fz (.str d))) x3 x4 (some (.fz (.list (ws.map PyData.int)))) (some (.fz (.list (ws.map PyData.int)))) (some (.fz v)) x9) 9 = true := free_of rfl h9
    simp [sSet_ap, oCall_ap, aC_ap, oV_ap, aN_ap, argsE, Lz.take, ioS, h1, putB, f9]
  simp only [sSeq_ap, p2, p9, Option.bind_some]
  rcases h3 with rfl | ⟨z, rfl, hz⟩
  · have ne2 : dNe [.none, .none] = some (.bool false) := by simp [dNe, eqD, sc2, PyData.eqv]
    simp [sIf_ap, tR_ap, tO_ap, oO_ap, aC_ap, oV_ap, aN_ap, rdA, Lz.read, ne1, ne2, dIsi, isiD, tyN, subT, dIs, oC_ap, dNe_bool, isD, isNone, sPass_ap, tA_ap, dIsN]
  · have z0 := hz.1
    have z1 := hz.2
    simp [sIf_ap, tR_ap, tO_ap, oO_ap, aC_ap, oV_ap, aN_ap, rdA, Lz.read, ne1, dNe_int, dIsi, isiD, tyN, subT, dIs, oC_ap, dNe_bool, isD, isNone, sPass_ap, tA_ap, dIsN, tN_ap, oChain_ap, dLe, dI, z0, z1]
theorem body_ok {n : Nat} (hn : n < 700000) {d : Str} (hd : d ∈ D8) {x3 x4 x5 x7 x8 x9 : Option Sl} (h4 : nio x4) (h5 : nio x5) (h7 : nio x7) (h8 : nio x8) (h9 : nio x9) : ∃ (m : Nat) (y4 y5 y7 y8 y9 : Option Sl), m ≤ n + 6 ∧ nio y4 ∧ nio y5 ∧ nio y7 ∧ nio y8 ∧ nio y9 ∧
    body (st ns n (some (.fz (.str d))) x3 x4 x5 x7 x8 x9) = some (.nx, st ns m (some (.fz (.str d))) x3 y4 y5 y7 y8 y9) := by
  obtain ⟨b, b0, b1, e1⟩ := s1 S (n := n) (by omega) (x2 := some (.fz (.str d))) (x3 := x3) (x5 := x5) (x7 := x7) (x8 := x8) (x9 := x9) h4
  obtain ⟨zs, m, hm, hl, hr, e2⟩ := s2 S (n := n + 1) (by omega) hd b0 b1 (x3 := x3) (x7 := x7) (x8 := x8) (x9 := x9) h5
  obtain ⟨ws, m', hm', hl', hr', e3⟩ := s3 S (n := m) (by omega) (x2 := some (.fz (.str d))) (x3 := x3) (x4 := some (.fz (.int b))) (x7 := x7) (x8 := x8) (x9 := x9) (zs := zs) (by rw [hl]; split <;> omega) hr
  obtain ⟨v7, v8, v9, e4⟩ := s4 S (n := m') (x3 := x3) (x4 := some (.fz (.int b))) (ws_of S hd (by rw [hl', hl]) hr') h7 h8 h9
  refine ⟨m', some (.fz (.int b)), some (.fz (.list (ws.map PyData.int))), some (.fz v7), some (.fz v8), some (.fz v9), by omega, nio_fz _, nio_fz _, nio_fz _, nio_fz _, nio_fz _, ?_⟩
  unfold body
  rw [sSeq_ap, e1]
  simp only [Option.bind_some]
  rw [sSeq_ap, e2]
  simp only [Option.bind_some]
  rw [sSeq_ap, e3]
  exact e4
theorem law_ok : ∃ o, m_law [scrD ns] = some (.bool true, o) := by
  have f1 : sSetN 1 (nLstQ aN) [some (.fz (scrD ns)), none, none, none, none, none, none, none, none, none] = some (.nx, st ns 0 none none none none none none none) := by
    simp [sSetN_ap, nLstQ_ap, aN_ap, csA, freeAt, town, shD_list]
  have f2 : ∀ env, sIf (tO (oO dNe (aC (oC (wtD tup_DEEDS)) (aC (oTupQ (aC (oC (.str "plus")) (aC (oC (.str "minus")) (aC (oC (.str "times")) (aC (oC (.str "least")) (aC (oC (.str "most")) (aC (oC (.str "less")) (aC (oC (.str "over")) aN)))))))) aN)))) (sRet (oC (.bool false))) sPass env = some (.nx, env) := fun env => by
    have e : dNe [wtD tup_DEEDS, .tuple [.str "plus", .str "minus", .str "times", .str "least", .str "most", .str "less", .str "over"]] = some (.bool false) := by kernel_rfl
    simp [sIf_ap, tO_ap, oO_ap, aC_ap, oC_ap, oTupQ_ap, aN_ap, csA, big, rdA, Lz.read, e, sPass_ap]
  have f3 : ∀ env, iSqQ (oO dAddL (aC (oN (nO dList (aC (oC (wtD tup_DEEDS)) aN))) (aC (oN (nLstQ (aC (oC (.str "pick")) aN))) aN))) env = some (D8.map PyData.str, env) := fun env => rfl
  obtain ⟨e2, h1, m, x2, x3, x4, x5, x7, x8, x9, hm, h2, h3, h4, h5, h7, h8, h9, rfl⟩ := forD_inv (g := gN 2) (b := sFor (iR1 (aC (oC (.int 4)) aN)) (gN 3) body)
    (fun i env => ∃ m x2 x3 x4 x5 x7 x8 x9, m ≤ 24 * i ∧ nio x2 ∧ nio x3 ∧ nio x4 ∧ nio x5 ∧ nio x7 ∧ nio x8 ∧ nio x9 ∧ env = st ns m x2 x3 x4 x5 x7 x8 x9)
    (D8.map PyData.str) 0 (fun i x hi env h => by
      obtain ⟨m, x2, x3, x4, x5, x7, x8, x9, hm, h2, h3, h4, h5, h7, h8, h9, rfl⟩ := h
      have hi' : i < 8 := by have := lt_of_get hi; rw [List.length_map] at this; exact this
      obtain ⟨d, hd, rfl⟩ := List.mem_map.mp (List.mem_of_getElem? hi)
      have f2 : freeAt (st ns m x2 x3 x4 x5 x7 x8 x9) 2 = true := free_of rfl h2
      refine ⟨st ns m (some (.fz (.str d))) x3 x4 x5 x7 x8 x9, by rw [gN_ap, if_pos f2]; rfl, ?_⟩
      obtain ⟨e2, g1, m', y3, y4, y5, y7, y8, y9, hm', k3, k4, k5, k7, k8, k9, rfl⟩ := forD_inv (g := gN 3) (b := body)
        (fun j env => ∃ m' y3 y4 y5 y7 y8 y9, m' ≤ m + 6 * j ∧ nio y3 ∧ nio y4 ∧ nio y5 ∧ nio y7 ∧ nio y8 ∧ nio y9 ∧ env = st ns m' (some (.fz (.str d))) y3 y4 y5 y7 y8 y9) (intRange 0 4) 0 (fun j y hj env h => by
          obtain ⟨m', y3, y4, y5, y7, y8, y9, hm', k3, k4, k5, k7, k8, k9, rfl⟩ := h
          have hj' : j < 4 := by have := lt_of_get hj; rwa [intRange_len] at this
          have f3 : freeAt (st ns m' (some (.fz (.str d))) y3 y4 y5 y7 y8 y9) 3 = true := free_of rfl k3
          obtain ⟨m2, z4, z5, z7, z8, z9, hm2, q4, q5, q7, q8, q9, e⟩ := body_ok S (n := m') (by omega) hd (x3 := some (.fz y)) k4 k5 k7 k8 k9
          exact ⟨_, by rw [gN_ap, if_pos f3]; rfl, _, .inl e, m2, _, z4, z5, z7, z8, z9, by omega, nio_fz _, q4, q5, q7, q8, q9, rfl⟩) (st ns m (some (.fz (.str d))) x3 x4 x5 x7 x8 x9) ⟨m, x3, x4, x5, x7, x8, x9, by omega, h3, h4, h5, h7, h8, h9, rfl⟩
      rw [intRange_len] at hm'
      refine ⟨_, .inl ?_, m', some (.fz (.str d)), y3, y4, y5, y7, y8, y9, by omega, nio_fz _, k3, k4, k5, k7, k8, k9, rfl⟩
      have ir : ∀ env, iR1 (aC (oC (.int 4)) aN) env = some (intRange 0 4, env) := fun env => rfl
      rw [sFor_ap, ir]
      exact g1) (st ns 0 none none none none none none none) ⟨0, none, none, none, none, none, none, none, by omega, nio_none, nio_none, nio_none, nio_none, nio_none, nio_none, nio_none, rfl⟩
  refine ⟨[], mk_law (e := st ns m x2 x3 x4 x5 x7 x8 x9) ?_⟩
  have e0 : (some (.fz (scrD ns)) :: List.replicate 9 none : Ev) = [some (.fz (scrD ns)), none, none, none, none, none, none, none, none, none] := rfl
  rw [e0, sSeq_ap, f1]
  simp only [Option.bind_some]
  rw [sSeq_ap, f2]
  simp only [Option.bind_some]
  rw [sSeq_ap, sFor_ap, f3]
  simp only [Option.bind_some]
  have h1' : forD (gN 2) (sFor (iR1 (aC (oC (.int 4)) aN)) (gN 3) body) (D8.map PyData.str) (st ns 0 none none none none none none none) = _ := h1
  unfold body at h1'
  rw [h1']
  rfl
end
theorem math : ∀ ns : List Int, ns.length ≤ 63 → (∀ z ∈ ns, PySem.Builtin.Int.intBits z ≤ 1048576) → ∃ o, m_law [scrD ns] = some (.bool true, o) := fun ns h k => law_ok (.of h k)
end K02

set_option maxHeartbeats 0
namespace K02
open PySem PySem.Spec L2 FL
def fn : List He.DefD := [⟨("_law_cell_at", none), "_law_cell_at", "_law_cell_at", defArgs (top 6), defBody (top 6), defScope (top 6), [], []⟩,
  ⟨("_law_deed", none), "_law_deed", "_law_deed", defArgs (top 10), defBody (top 10), defScope (top 10), [], []⟩,
  ⟨("_law_draw", none), "_law_draw", "_law_draw", defArgs (top 8), defBody (top 8), defScope (top 8), [], []⟩,
  ⟨("_law_mixed", none), "_law_mixed", "_law_mixed", defArgs (top 7), defBody (top 7), defScope (top 7), [], []⟩,
  ⟨("_law_pick", none), "_law_pick", "_law_pick", defArgs (top 9), defBody (top 9), defScope (top 9), [], []⟩,
  ⟨("done", none), "done", "done", defArgs (top 4), defBody (top 4), defScope (top 4), [], []⟩,
  ⟨("law", none), "law", "law", defArgs (top 11), defBody (top 11), defScope (top 11), [], []⟩,
  ⟨("of_two", none), "of_two", "of_two", defArgs (top 3), defBody (top 3), defScope (top 3), [], []⟩]
def fa : List He.Fa := [.free "bool", .free "int", .free "isinstance", .free "len", .free "list", .free "max", .free "min", .free "range", .free "sorted", .glo "DEEDS", .int "MANY" 1000, .glo "_law_cell_at", .keep "_law_cell_at", .glo "_law_deed", .keep "_law_deed", .glo "_law_draw", .keep "_law_draw", .glo "_law_mixed", .keep "_law_mixed", .glo "_law_pick", .keep "_law_pick", .glo "done", .keep "done", .glo "law", .keep "law", .glo "of_two", .keep "of_two"]
def ex (K : PySem.W.Frag) : Bool := true && He.tupB K "DEEDS" tuv_DEEDS
theorem ex_DEEDS {K : PySem.W.Frag} (x : ex K = true) : He.tupB K "DEEDS" tuv_DEEDS = true := by
  simp only [ex, Bool.and_eq_true, Bool.true_and] at x
  exact x
theorem top_of {K : PySem.W.Frag} {h : Heap} {mg : Str → Option Value} (X : K.In h) (G : h.Ns mainGlobals mg) (c : He.SaysD fa fn K) (x : ex K = true) : Top K mg where
  n_bool := He.free_ok X G (c.fact 0 (f := .free "bool") rfl)
  n_int := He.free_ok X G (c.fact 1 (f := .free "int") rfl)
  n_isinstance := He.free_ok X G (c.fact 2 (f := .free "isinstance") rfl)
  n_len := He.free_ok X G (c.fact 3 (f := .free "len") rfl)
  n_list := He.free_ok X G (c.fact 4 (f := .free "list") rfl)
  n_max := He.free_ok X G (c.fact 5 (f := .free "max") rfl)
  n_min := He.free_ok X G (c.fact 6 (f := .free "min") rfl)
  n_range := He.free_ok X G (c.fact 7 (f := .free "range") rfl)
  n_sorted := He.free_ok X G (c.fact 8 (f := .free "sorted") rfl)
  c_DEEDS := ⟨He.glo_ok X G (c.fact 9 (f := .glo "DEEDS") rfl), fun F => He.tupB_ok (ex_DEEDS x) F, fun F => fz_dvs _ rfl⟩
  c_MANY := He.int_ok X G (c.fact 10 (f := .int "MANY" 1000) rfl)
  g__law_cell_at := He.glo_ok X G (c.fact 11 (f := .glo "_law_cell_at") rfl)
  k__law_cell_at := He.keep_ok (c.fact 12 (f := .keep "_law_cell_at") rfl)
  g__law_deed := He.glo_ok X G (c.fact 13 (f := .glo "_law_deed") rfl)
  k__law_deed := He.keep_ok (c.fact 14 (f := .keep "_law_deed") rfl)
  g__law_draw := He.glo_ok X G (c.fact 15 (f := .glo "_law_draw") rfl)
  k__law_draw := He.keep_ok (c.fact 16 (f := .keep "_law_draw") rfl)
  g__law_mixed := He.glo_ok X G (c.fact 17 (f := .glo "_law_mixed") rfl)
  k__law_mixed := He.keep_ok (c.fact 18 (f := .keep "_law_mixed") rfl)
  g__law_pick := He.glo_ok X G (c.fact 19 (f := .glo "_law_pick") rfl)
  k__law_pick := He.keep_ok (c.fact 20 (f := .keep "_law_pick") rfl)
  g_done := He.glo_ok X G (c.fact 21 (f := .glo "done") rfl)
  k_done := He.keep_ok (c.fact 22 (f := .keep "done") rfl)
  g_law := He.glo_ok X G (c.fact 23 (f := .glo "law") rfl)
  k_law := He.keep_ok (c.fact 24 (f := .keep "law") rfl)
  g_of_two := He.glo_ok X G (c.fact 25 (f := .glo "of_two") rfl)
  k_of_two := He.keep_ok (c.fact 26 (f := .keep "of_two") rfl)
  d__law_cell_at := c.def_ 0 rfl
  d__law_deed := c.def_ 1 rfl
  d__law_draw := c.def_ 2 rfl
  d__law_mixed := c.def_ 3 rfl
  d__law_pick := c.def_ 4 rfl
  d_done := c.def_ 5 rfl
  d_law := c.def_ 6 rfl
  d_of_two := c.def_ 7 rfl
end K02
namespace K02
open PySem PySem.Spec L2 FL
abbrev R : PySem.W.OpenRow := PySem.W.OpenLaw.row PySem.Challenge.rw_lanepacks_k02_whole_words
abbrev hk : PySem.W.Hook := hookF 4 fa fn ex
def ob (s : PySem.W.SharedT) : Bool × He.AlD := obsFG 4 fa fn ex (HandSHeadRun.getT s)
theorem ob_eq (s : PySem.W.SharedT) : ob s = hk.obs s.abs := obsFG_eq (HandSHeadRun.getT_eq s)
theorem run (w : World) : HandSHeadRun.RunEq R (PySem.W.view R.prog [11]) hk ob 400 [("of_two" : Str), ("done" : Str), ("_law_cell_at" : Str), ("_law_mixed" : Str), ("_law_draw" : Str), ("_law_pick" : Str), ("_law_deed" : Str), ("DEEDS" : Str), ("MANY" : Str), ("__name__" : Str)] w := by
  intro os
  kernel_rfl
end K02
open PySem PySem.W PySem.Calls PyProof.Rows
theorem PySem.Challenge.cw_lanepacks_k02_whole_words_holds : PySem.Challenge.rw_lanepacks_k02_whole_words.Holds := by
  w_on; o_law
  refine HandSHeadRun.head_any (r := OpenLaw.row PySem.Challenge.rw_lanepacks_k02_whole_words) (q := view (OpenLaw.row PySem.Challenge.rw_lanepacks_k02_whole_words).prog [11]) (H := K02.hk) (ob := K02.ob) (M := 400) (loose := [("of_two" : Str), ("done" : Str), ("_law_cell_at" : Str), ("_law_mixed" : Str), ("_law_draw" : Str), ("_law_pick" : Str), ("_law_deed" : Str), ("DEEDS" : Str), ("MANY" : Str), ("__name__" : Str)]) (d := HandSHeadRun.topDef (OpenLaw.row PySem.Challenge.rw_lanepacks_k02_whole_words).prog 11) (kwd := []) K02.ob_eq
    (by kernel_rfl) (fun s => by kernel_rfl) K02.run (by kernel_rfl) (by kernel_rfl) (by kernel_rfl) (by rfl) (by first | assumption | decide +kernel) (by decide +kernel) ⟨rfl, rfl, rfl, rfl, rfl, by decide +kernel⟩ ?hw ?hc
  case hw => w_witness2
  case hc =>
    refine FL.walk_F (l := PySem.Challenge.rw_lanepacks_k02_whole_words) (n := 63) (k := 5) (x := PySem.Str.ofString "_law_script") rfl (by decide) (by kernel_rfl) ⟨rfl, by decide, by decide⟩ K02.m_law ?F K02.math
    intro w mg fa h Y G hmg0
    obtain ⟨K, KX, x, c⟩ := Y
    have hmg : mg ("law" : PySem.Str) = some (.ref fa) := by
      have e : (HandSHeadRun.topDef (OpenLaw.row PySem.Challenge.rw_lanepacks_k02_whole_words).prog 11).name = ("law" : PySem.Str) := by kernel_rfl
      rw [← e]
      exact hmg0
    have T := K02.top_of KX G c x
    obtain ⟨fd, F⟩ := T.d_law
    have e := hmg.symm.trans T.g_law
    cases e
    exact ⟨K, fd, KX, fun s v => L2.FunD.bindsA (ps := [PySem.Str.ofString "_law_script"]) F (fun _ _ _ _ _ _ us hl => match us, hl with | [_], _ => rfl) s [v] rfl, fun base _ _ => K02.ok_law T F⟩
