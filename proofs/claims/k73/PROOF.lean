import PyProof.Rows.All
import Wide.All
import OpenK.AllK
import Wide.FinOn
import HandS.ForMost
import HandS.ForExc
import HandS.CallSlots
import HandS.HeadHook2
import HandS.Lambda
import HandS.IsInst
import HandS.TupAny
import HandS.TupMul
import HandS.Replace
import HandS.Property
import HandS.FStr
import HandS.Zip
import HandS.Style
import HandS.HeadHook4
import HandS.Head2
import HandS.HeadEnd
import KE.GoesNew
import HandS.Star
import HandS.DictComp
import KE.GoesEnum
import HandS.ExcInit
import HandS.ExcField
import HandS.ExcIs
import HandS.TryMany
import KE.KExcIs
import HandS.Codes
import PySem.Challenge.RW_guessmarks_k73_pairs_judged
set_option Elab.async false
set_option linter.all false
set_option maxRecDepth 100000
set_option maxHeartbeats 4010000
/-! J0: values as trees, a small store, the monad, how they stand in the abstract heap -/
namespace J
open PySem PySem.Spec L2

inductive Ky where
  | i (n : Int) | s (x : List Nat)
  deriving DecidableEq
/-- a value: what never changes is a tree; ref n: the n-th object of the store -/
inductive D where
  | non | bl (b : Bool) | int (i : Int) | str (x : List Nat) | ty (n : String) | glo (c : Nat)
  | tup (xs : List D) | lst (xs : List D) | scr (xs : List D) | dct (ks : List Ky) (xs : List D) | ins (c : Nat) (xs : List D) | ref (n : Nat)
inductive MO where
  | lst (xs : List D) | dct (kvs : List (Ky × D)) | dcT (kvs : List (List Ky × D)) | ins (c : Nat) (fs : List (Nat × D))
structure Store where
  objs : List (Nat × MO)
  next : Nat
def getO (n : Nat) : List (Nat × MO) → Option MO
  | [] => none
  | (m, o) :: r => if m = n then some o else getO n r
def putO (n : Nat) (o : MO) : List (Nat × MO) → List (Nat × MO)
  | [] => [(n, o)]
  | (m, u) :: r => if m = n then (n, o) :: r else (m, u) :: putO n o r
def Store.get (S : Store) (n : Nat) : Option MO := getO n S.objs
def Store.set (S : Store) (n : Nat) (o : MO) : Store := ⟨putO n o S.objs, S.next⟩
def Store.alloc (S : Store) (o : MO) : Store := ⟨(S.next, o) :: S.objs, S.next + 1⟩
def dropO (n : Nat) : List (Nat × MO) → List (Nat × MO)
  | [] => []
  | (m, u) :: r => if m = n then dropO n r else (m, u) :: dropO n r
def trimO (N : Nat) : List (Nat × MO) → List (Nat × MO)
  | [] => []
  | (m, u) :: r => if m < N then (m, u) :: trimO N r else trimO N r
def Store.del (S : Store) (n : Nat) : Store := ⟨dropO n S.objs, S.next⟩
def Store.trim (S : Store) (N : Nat) : Store := ⟨trimO N S.objs, S.next⟩

theorem getO_put_self {n : Nat} {o : MO} : ∀ l, getO n (putO n o l) = some o
  | [] => by simp [putO, getO]
  | (m, u) :: r => by
    unfold putO
    split
    · simp [getO]
    · rename_i h
      simp only [getO, if_neg h]
      exact getO_put_self r
theorem getO_put_ne {n m : Nat} {o : MO} (h : m ≠ n) : ∀ l, getO m (putO n o l) = getO m l
  | [] => by simp [putO, getO, Ne.symm h]
  | (k, u) :: r => by
    unfold putO
    split
    · rename_i e
      subst e
      simp only [getO, if_neg (Ne.symm h)]
    · simp only [getO]
      rw [getO_put_ne h r]
theorem getO_drop {n m : Nat} : ∀ l, getO m (dropO n l) = if m = n then none else getO m l
  | [] => by simp [dropO, getO]
  | (k, u) :: r => by
    unfold dropO
    split
    · rename_i e
      subst e
      rw [getO_drop r]
      by_cases h : m = k
      · simp [h]
      · simp [h, getO, Ne.symm h]
    · rename_i e
      simp only [getO]
      rw [getO_drop r]
      by_cases h : m = n
      · subst h
        simp [e]
      · simp [h]
theorem getO_trim {N m : Nat} : ∀ l, getO m (trimO N l) = if m < N then getO m l else none
  | [] => by simp [trimO, getO]
  | (k, u) :: r => by
    unfold trimO
    split
    · rename_i e
      simp only [getO]
      rw [getO_trim r]
      by_cases h : k = m
      · subst h; simp [e]
      · simp [h]
    · rename_i e
      rw [getO_trim r]
      by_cases h : k = m
      · subst h; simp [e]
      · simp [getO, h]
@[simp] theorem Store.get_set_self (S : Store) (n : Nat) (o : MO) : (S.set n o).get n = some o := getO_put_self _
theorem Store.get_set_ne (S : Store) {n m : Nat} (o : MO) (h : m ≠ n) : (S.set n o).get m = S.get m := getO_put_ne h _
@[simp] theorem Store.next_set (S : Store) (n : Nat) (o : MO) : (S.set n o).next = S.next := rfl
@[simp] theorem Store.next_alloc (S : Store) (o : MO) : (S.alloc o).next = S.next + 1 := rfl
@[simp] theorem Store.next_del (S : Store) (n : Nat) : (S.del n).next = S.next := rfl
@[simp] theorem Store.next_trim (S : Store) (n : Nat) : (S.trim n).next = S.next := rfl
@[simp] theorem Store.get_alloc_self (S : Store) (o : MO) : (S.alloc o).get S.next = some o := by simp [Store.alloc, Store.get, getO]
theorem Store.get_alloc_ne (S : Store) (o : MO) {n : Nat} (h : n ≠ S.next) : (S.alloc o).get n = S.get n := by
  simp [Store.alloc, Store.get, getO, Ne.symm h]
theorem Store.get_del (S : Store) (n m : Nat) : (S.del n).get m = if m = n then none else S.get m := getO_drop _
theorem Store.get_trim (S : Store) (N m : Nat) : (S.trim N).get m = if m < N then S.get m else none := getO_trim _

/-! ### the monad -/
inductive R (α : Type) where
  | ok (a : α) (S : Store) | ex (c : Nat) (fs : List (Nat × D)) (S : Store) | no
abbrev M (α : Type) := Store → R α
def M.ret {α : Type} (a : α) : M α := fun S => .ok a S
def M.bind {α β : Type} (m : M α) (k : α → M β) : M β := fun S => match m S with
  | .ok a S' => k a S'
  | .ex c fs S' => .ex c fs S'
  | .no => .no
def M.no {α : Type} : M α := fun _ => .no
instance : Monad M where
  pure := M.ret
  bind := M.bind
abbrev Rho := List (Option D)
abbrev IE := Rho → M D
abbrev IT := Rho → M Bool
abbrev IA := Rho → M (List D)
/-- what a statement does -/
inductive Fl where
  | nx (ρ : Rho) | rt (d : D) | bk (ρ : Rho) | ct (ρ : Rho) | xx (c : Nat) (fs : List (Nat × D)) (ρ : Rho)
abbrev IS := Rho → M Fl

/-! ### how values stand -/
structure Tab where
  cn : Nat → Str
  fn : Nat → Str
  fs : Nat → List Nat
  inj : ∀ i j, fn i = fn j → i = j
  /-- the tables of code objects, and the name that their code objects bear -/
  tabs : PySem.W.Frag → List (Addr × Str) := fun _ => []
def kyK : Ky → Key
  | .i n => .inl n
  | .s x => .inr ⟨x.toArray⟩
def named (T : Tab) : List Nat → List V → List (Str × V)
  | f :: fs, v :: vs => (T.fn f, v) :: named T fs vs
  | _, _ => []
def keyed : List Ky → List V → List (Key × V)
  | k :: ks, v :: vs => (kyK k, v) :: keyed ks vs
  | _, _ => []
mutual
def DR (T : Tab) (K : PySem.W.Frag) (G : Hp) (ι : List Addr) : D → V → Prop
  | .non, v => v = .non
  | .bl b, v => v = .bl b
  | .int i, v => v = .int i
  | .str x, v => v = .str ⟨x.toArray⟩
  | .ty n, v => v = .ty n
  | .glo c, v => v = .ref (He.ga K (T.cn c))
  | .tup xs, v => ∃ a vs, v = .ref a ∧ G a = some (.tup vs) ∧ DRs T K G ι xs vs
  | .lst xs, v => ∃ a vs, v = .ref a ∧ G a = some (.lst vs) ∧ DRs T K G ι xs vs
  | .scr xs, v => ∃ a vs, v = .ref a ∧ SqL K G a vs ∧ DRs T K G ι xs vs
  | .dct ks xs, v => ∃ a vs, v = .ref a ∧ ks.length = vs.length ∧ G a = some (.dK (keyed ks vs)) ∧ DRs T K G ι xs vs
  | .ins c xs, v => ∃ a dx vs, v = .ref a ∧ (T.fs c).length = vs.length ∧ G a = some (.ins (He.ga K (T.cn c)) dx (named T (T.fs c) vs)) ∧ DRs T K G ι xs vs
  | .ref n, v => ∃ a, ι[n]? = some a ∧ v = .ref a
def DRs (T : Tab) (K : PySem.W.Frag) (G : Hp) (ι : List Addr) : List D → List V → Prop
  | [], vs => vs = []
  | x :: xs, vs => ∃ v r, vs = v :: r ∧ DR T K G ι x v ∧ DRs T K G ι xs r
end
def Same.sqT {K : PySem.W.Frag} {H H' : Hp} {a : Addr} {xs : List V} (e : Same H H') (h : SqT K H a xs) : SqT K H' a xs := by
  obtain (h | ⟨o, h⟩) | h := h
  · exact .inl (.inl (e _ _ h))
  · exact Or.inl (Or.inr ⟨o, e a _ h⟩)
  · exact .inr h
def Ipre (ι ι' : List Addr) : Prop := ∀ (n : Nat) (a : Addr), ι[n]? = some a → ι'[n]? = some a
theorem Ipre.refl (ι : List Addr) : Ipre ι ι := fun _ _ h => h
theorem Ipre.trans {a b c : List Addr} (h : Ipre a b) (k : Ipre b c) : Ipre a c := fun n x e => k n x (h n x e)
theorem Ipre.snoc (ι : List Addr) (p : Addr) : Ipre ι (ι ++ [p]) := fun n a e => by
  rw [List.getElem?_append_left (List.getElem?_eq_some_iff.mp e).1]
  exact e
mutual
theorem DR.mono {T : Tab} {K : PySem.W.Frag} {G G' : Hp} {ι ι' : List Addr} (hG : Same G G') (hι : Ipre ι ι') : ∀ {d : D} {v : V}, DR T K G ι d v → DR T K G' ι' d v
  | .non, _, h => by simpa only [DR] using h
  | .bl _, _, h => by simpa only [DR] using h
  | .int _, _, h => by simpa only [DR] using h
  | .str _, _, h => by simpa only [DR] using h
  | .ty _, _, h => by simpa only [DR] using h
  | .glo _, _, h => by simpa only [DR] using h
  | .tup xs, v, h => by
    simp only [DR] at h ⊢
    obtain ⟨a, vs, e, q, r⟩ := h
    exact ⟨a, vs, e, hG _ _ q, DRs.mono hG hι r⟩
  | .lst xs, v, h => by
    simp only [DR] at h ⊢
    obtain ⟨a, vs, e, q, r⟩ := h
    exact ⟨a, vs, e, hG _ _ q, DRs.mono hG hι r⟩
  | .scr xs, v, h => by
    simp only [DR] at h ⊢
    obtain ⟨a, vs, e, q, r⟩ := h
    exact ⟨a, vs, e, Same.seq hG q, DRs.mono hG hι r⟩
  | .dct ks xs, v, h => by
    simp only [DR] at h ⊢
    obtain ⟨a, vs, e, l, q, r⟩ := h
    exact ⟨a, vs, e, l, hG _ _ q, DRs.mono hG hι r⟩
  | .ins c xs, v, h => by
    simp only [DR] at h ⊢
    obtain ⟨a, dx, vs, e, l, q, r⟩ := h
    exact ⟨a, dx, vs, e, l, hG _ _ q, DRs.mono hG hι r⟩
  | .ref n, v, h => by
    simp only [DR] at h ⊢
    obtain ⟨a, e, q⟩ := h
    exact ⟨a, hι _ _ e, q⟩
theorem DRs.mono {T : Tab} {K : PySem.W.Frag} {G G' : Hp} {ι ι' : List Addr} (hG : Same G G') (hι : Ipre ι ι') : ∀ {d : List D} {v : List V}, DRs T K G ι d v → DRs T K G' ι' d v
  | [], _, h => by simpa only [DRs] using h
  | x :: xs, _, h => by
    simp only [DRs] at h ⊢
    obtain ⟨v, r, e, q, k⟩ := h
    exact ⟨v, r, e, DR.mono hG hι q, DRs.mono hG hι k⟩
end
theorem DRs.length {T : Tab} {K : PySem.W.Frag} {G : Hp} {ι : List Addr} : ∀ {d : List D} {v : List V}, DRs T K G ι d v → d.length = v.length
  | [], _, h => by simp only [DRs] at h; subst h; rfl
  | x :: xs, _, h => by
    simp only [DRs] at h
    obtain ⟨v, r, e, q, k⟩ := h
    subst e
    simp [k.length]
theorem DRs.get {T : Tab} {K : PySem.W.Frag} {G : Hp} {ι : List Addr} : ∀ {ds : List D} {vs : List V} {i : Nat} {d : D}, DRs T K G ι ds vs → ds[i]? = some d → ∃ v, vs[i]? = some v ∧ DR T K G ι d v
  | [], _, _, _, _, e => by simp at e
  | x :: xs, _, 0, d, h, e => by
    simp only [DRs] at h
    obtain ⟨v, r, e1, q, k⟩ := h
    subst e1
    simp at e
    subst e
    exact ⟨v, rfl, q⟩
  | x :: xs, _, i + 1, d, h, e => by
    simp only [DRs] at h
    obtain ⟨v, r, e1, q, k⟩ := h
    subst e1
    simpa using k.get (i := i) (by simpa using e)
theorem DRs.append {T : Tab} {K : PySem.W.Frag} {G : Hp} {ι : List Addr} : ∀ {ds : List D} {vs : List V} {es : List D} {ws : List V}, DRs T K G ι ds vs → DRs T K G ι es ws → DRs T K G ι (ds ++ es) (vs ++ ws)
  | [], _, _, _, h, k => by
    simp only [DRs] at h
    subst h
    exact k
  | x :: xs, _, _, _, h, k => by
    simp only [DRs] at h
    obtain ⟨v, r, e1, q, j⟩ := h
    subst e1
    simp only [List.cons_append, DRs]
    exact ⟨v, _, rfl, q, j.append k⟩
theorem DRs.nil {T : Tab} {K : PySem.W.Frag} {G : Hp} {ι : List Addr} : DRs T K G ι [] [] := by simp only [DRs]
theorem DRs.cons {T : Tab} {K : PySem.W.Frag} {G : Hp} {ι : List Addr} {d : D} {v : V} {ds : List D} {vs : List V} (h : DR T K G ι d v) (k : DRs T K G ι ds vs) : DRs T K G ι (d :: ds) (v :: vs) := by
  simp only [DRs]
  exact ⟨v, vs, rfl, h, k⟩
theorem DRs.take {T : Tab} {K : PySem.W.Frag} {G : Hp} {ι : List Addr} : ∀ {ds : List D} {vs : List V} (n : Nat), DRs T K G ι ds vs → DRs T K G ι (ds.take n) (vs.take n)
  | _, _, 0, _ => by simpa using DRs.nil
  | [], _, n + 1, h => by
    simp only [DRs] at h
    subst h
    simpa using DRs.nil
  | x :: xs, _, n + 1, h => by
    simp only [DRs] at h
    obtain ⟨v, r, e1, q, j⟩ := h
    subst e1
    simpa using DRs.cons q (j.take n)
theorem DRs.drop {T : Tab} {K : PySem.W.Frag} {G : Hp} {ι : List Addr} : ∀ {ds : List D} {vs : List V} (n : Nat), DRs T K G ι ds vs → DRs T K G ι (ds.drop n) (vs.drop n)
  | _, _, 0, h => by simpa using h
  | [], _, n + 1, h => by
    simp only [DRs] at h
    subst h
    simpa using DRs.nil
  | x :: xs, _, n + 1, h => by
    simp only [DRs] at h
    obtain ⟨v, r, e1, q, j⟩ := h
    subst e1
    simpa using j.drop n
theorem DRs.set {T : Tab} {K : PySem.W.Frag} {G : Hp} {ι : List Addr} {d : D} {v : V} (hd : DR T K G ι d v) : ∀ {ds : List D} {vs : List V} (n : Nat), DRs T K G ι ds vs → DRs T K G ι (ds.set n d) (vs.set n v)
  | [], _, n, h => by
    simp only [DRs] at h
    subst h
    simpa using DRs.nil
  | x :: xs, _, 0, h => by
    simp only [DRs] at h
    obtain ⟨w, r, e1, q, j⟩ := h
    subst e1
    simpa using DRs.cons hd j
  | x :: xs, _, n + 1, h => by
    simp only [DRs] at h
    obtain ⟨w, r, e1, q, j⟩ := h
    subst e1
    simpa using DRs.cons q (j.set hd n)

/-! ### an object of the store -/
def FRs (T : Tab) (K : PySem.W.Frag) (G : Hp) (ι : List Addr) : List (Nat × D) → List (Str × V) → Prop
  | [], vs => vs = []
  | (f, x) :: xs, vs => ∃ v r, vs = (T.fn f, v) :: r ∧ DR T K G ι x v ∧ FRs T K G ι xs r
def KRs (T : Tab) (K : PySem.W.Frag) (G : Hp) (ι : List Addr) : List (Ky × D) → List (Key × V) → Prop
  | [], vs => vs = []
  | (k, x) :: xs, vs => ∃ v r, vs = (kyK k, v) :: r ∧ DR T K G ι x v ∧ KRs T K G ι xs r
def TRs (T : Tab) (K : PySem.W.Frag) (G : Hp) (ι : List Addr) : List (List Ky × D) → List (List Key × V) → Prop
  | [], vs => vs = []
  | (k, x) :: xs, vs => ∃ v r, vs = (k.map kyK, v) :: r ∧ DR T K G ι x v ∧ TRs T K G ι xs r
def OR (T : Tab) (K : PySem.W.Frag) (G : Hp) (ι : List Addr) : MO → HO → Prop
  | .lst xs, h => ∃ vs, h = .lst vs ∧ DRs T K G ι xs vs
  | .dct kvs, h => ∃ vs, h = .dK vs ∧ KRs T K G ι kvs vs
  | .dcT kvs, h => ∃ vs, h = .dT vs ∧ TRs T K G ι kvs vs
  | .ins c fs, h => ∃ dx vs, h = .ins (He.ga K (T.cn c)) dx vs ∧ FRs T K G ι fs vs
theorem FRs.mono {T : Tab} {K : PySem.W.Frag} {G G' : Hp} {ι ι' : List Addr} (hG : Same G G') (hι : Ipre ι ι') : ∀ {d : List (Nat × D)} {v : List (Str × V)}, FRs T K G ι d v → FRs T K G' ι' d v
  | [], _, h => h
  | (f, x) :: xs, _, ⟨v, r, e, q, k⟩ => ⟨v, r, e, q.mono hG hι, k.mono hG hι⟩
theorem KRs.mono {T : Tab} {K : PySem.W.Frag} {G G' : Hp} {ι ι' : List Addr} (hG : Same G G') (hι : Ipre ι ι') : ∀ {d : List (Ky × D)} {v : List (Key × V)}, KRs T K G ι d v → KRs T K G' ι' d v
  | [], _, h => h
  | (f, x) :: xs, _, ⟨v, r, e, q, k⟩ => ⟨v, r, e, q.mono hG hι, k.mono hG hι⟩
theorem TRs.mono {T : Tab} {K : PySem.W.Frag} {G G' : Hp} {ι ι' : List Addr} (hG : Same G G') (hι : Ipre ι ι') : ∀ {d : List (List Ky × D)} {v : List (List Key × V)}, TRs T K G ι d v → TRs T K G' ι' d v
  | [], _, h => h
  | (f, x) :: xs, _, ⟨v, r, e, q, k⟩ => ⟨v, r, e, q.mono hG hι, k.mono hG hι⟩
theorem OR.mono {T : Tab} {K : PySem.W.Frag} {G G' : Hp} {ι ι' : List Addr} (hG : Same G G') (hι : Ipre ι ι') : ∀ {o : MO} {h : HO}, OR T K G ι o h → OR T K G' ι' o h
  | .lst _, _, ⟨vs, e, r⟩ => ⟨vs, e, r.mono hG hι⟩
  | .dct _, _, ⟨vs, e, r⟩ => ⟨vs, e, r.mono hG hι⟩
  | .dcT _, _, ⟨vs, e, r⟩ => ⟨vs, e, r.mono hG hι⟩
  | .ins _ _, _, ⟨dx, vs, e, r⟩ => ⟨dx, vs, e, r.mono hG hι⟩

/-- no table -/
def noTab : HO → Bool
  | .tbl _ => false
  | _ => true
/-- no table, nothing told by a property -/
def plainO : HO → Bool
  | .tbl _ => false
  | .ext _ => false
  | _ => true
theorem noTab_of {o : HO} (h : plainO o = true) : noTab o = true := by
  cases o <;> first | rfl | cases h
theorem OR.plain {T : Tab} {K : PySem.W.Frag} {G : Hp} {ι : List Addr} : ∀ {o : MO} {h : HO}, OR T K G ι o h → plainO h = true
  | .lst _, _, ⟨_, e, _⟩ => e ▸ rfl
  | .dct _, _, ⟨_, e, _⟩ => e ▸ rfl
  | .dcT _, _, ⟨_, e, _⟩ => e ▸ rfl
  | .ins _ _, _, ⟨_, _, e, _⟩ => e ▸ rfl
/-- tables do not see a change elsewhere -/
theorem tabs_upd {L : List (Addr × Str)} {H : Hp} {p : Addr} {o u : HO} (h : LamX.Tabs L H) (e : H p = some o) (pl : plainO o = true) : LamX.Tabs L (upd H p u) := by
  intro q hq
  obtain ⟨ps, h1, h2, h3⟩ := h q hq
  have ne : ∀ {b : Addr} {x : HO}, H b = some x → plainO x = false → b ≠ p := fun hb hx z => by
    subst z
    rw [e] at hb
    cases hb
    rw [pl] at hx
    cases hx
  refine ⟨ps, by rw [upd_ne (ne h1 rfl)]; exact h1, h2, fun pos cv hc => ?_⟩
  obtain ⟨c, isC, atC⟩ := h3 pos cv hc
  exact ⟨c, isC, by rw [upd_ne (ne atC rfl)]; exact atC⟩
theorem tabs_new {L : List (Addr × Str)} {H : Hp} {p : Addr} {u : HO} (h : LamX.Tabs L H) (e : H p = none) : LamX.Tabs L (upd H p u) := h.ext fun b o q => by
  rw [upd_ne (ne_of_none q e)]
  exact q
/-! ### the state: G what is frozen, F what is somebody else's, S the store at ι -/
structure Em (T : Tab) (K : PySem.W.Frag) (F : Hp) (S : Store) (ι : List Addr) (G H : Hp) : Prop where
  sub : Same G H
  fr : Same F H
  len : ι.length = S.next
  nd : ι.Nodup
  old : ∀ a ∈ ι, H a ≠ none
  oldP : ∀ a ∈ ι, ∀ o, H a = some o → noTab o = true
  obj : ∀ n o, S.get n = some o → ∃ a h, ι[n]? = some a ∧ G a = none ∧ F a = none ∧ H a = some h ∧ OR T K G ι o h
  dis : ∀ a o, F a = some o → G a = none
  tb : LamX.Tabs (T.tabs K) H
  noG : ∀ a o, G a = some o → noTab o = true
  noF : ∀ a o, F a = some o → plainO o = true
def Ext (G : Hp) (ι : List Addr) (G' : Hp) (ι' : List Addr) : Prop := Same G G' ∧ Ipre ι ι'
theorem Ext.refl (G : Hp) (ι : List Addr) : Ext G ι G ι := ⟨Same.refl G, Ipre.refl ι⟩
theorem Ext.trans {G G1 G2 : Hp} {ι ι1 ι2 : List Addr} (a : Ext G ι G1 ι1) (b : Ext G1 ι1 G2 ι2) : Ext G ι G2 ι2 := ⟨a.1.trans b.1, a.2.trans b.2⟩
theorem same_new {H : Hp} {p : Addr} {o : HO} (h : H p = none) : Same H (upd H p o) := fun b u e => by
  rw [upd_ne (ne_of_none e h)]
  exact e
theorem same_up {G H : Hp} {p : Addr} {o : HO} (e : Same G H) : Same (upd G p o) (upd H p o) := fun b u q => by
  by_cases hb : b = p
  · subst hb
    rw [upd_same] at q ⊢
    exact q
  · rw [upd_ne hb] at q ⊢
    exact e b u q
theorem same_out {G H : Hp} {p : Addr} {o : HO} (e : Same G H) (h : G p = none) : Same G (upd H p o) := fun b u q => by
  rw [upd_ne (ne_of_none q h)]
  exact e b u q
section
variable {T : Tab} {K : PySem.W.Frag} {F : Hp} {S : Store} {ι : List Addr} {G H : Hp}
/-- a new object that never changes -/
theorem old_new {ι : List Addr} {H : Hp} {p : Addr} {o : HO} (h : ∀ a ∈ ι, H a ≠ none) (hP : ∀ a ∈ ι, ∀ o, H a = some o → noTab o = true) (hp : H p = none) : ∀ a ∈ ι, ∀ u, upd H p o a = some u → noTab u = true := fun a ha u q => by
  have ne : a ≠ p := fun z => h a ha (by rw [z]; exact hp)
  rw [upd_ne ne] at q
  exact hP a ha u q
theorem old_put {ι : List Addr} {H : Hp} {p : Addr} {o : HO} (hP : ∀ a ∈ ι, ∀ o, H a = some o → noTab o = true) (ho : plainO o = true) : ∀ a ∈ ι, ∀ u, upd H p o a = some u → noTab u = true := fun a ha u q => by
  by_cases z : a = p
  · subst z
    rw [upd_same] at q
    cases q
    exact noTab_of ho
  · rw [upd_ne z] at q
    exact hP a ha u q
theorem put_all {G : Hp} {p : Addr} {o : HO} {f : HO → Bool} (h : ∀ a u, G a = some u → f u = true) (ho : f o = true) : ∀ a u, upd G p o a = some u → f u = true := fun a u q => by
  by_cases z : a = p
  · subst z
    rw [upd_same] at q
    cases q
    exact ho
  · rw [upd_ne z] at q
    exact h a u q
theorem Em.frz (E : Em T K F S ι G H) {p : Addr} {o : HO} (hp : H p = none) (no : noTab o = true := by rfl) : Em T K F S ι (upd G p o) (upd H p o) ∧ Ext G ι (upd G p o) ι := by
  have gp : G p = none := E.sub.free hp
  have hx : Same G (upd G p o) := same_new gp
  refine ⟨⟨same_up E.sub, same_out E.fr (E.fr.free hp), E.len, E.nd, fun a ha => ?_, old_new E.old E.oldP hp, fun n m e => ?_, fun a u q => ?_, tabs_new E.tb hp, put_all E.noG no, E.noF⟩, hx, Ipre.refl _⟩
  · by_cases h : a = p
    · subst h
      rw [upd_same]
      exact fun z => by cases z
    · rw [upd_ne h]
      exact E.old a ha
  · obtain ⟨a, h, h1, h2, h3, h4, h5⟩ := E.obj n m e
    have na : a ≠ p := ne_of_none h4 hp
    exact ⟨a, h, h1, by rw [upd_ne na]; exact h2, h3, by rw [upd_ne na]; exact h4, h5.mono hx (Ipre.refl _)⟩
  · rw [upd_ne (ne_of_none (E.fr a u q) hp)]
    exact E.dis a u q
/-- a new object that nobody tells of (garbage) -/
theorem Em.junk (E : Em T K F S ι G H) {p : Addr} {o : HO} (hp : H p = none) : Em T K F S ι G (upd H p o) := by
  refine ⟨same_out E.sub (E.sub.free hp), same_out E.fr (E.fr.free hp), E.len, E.nd, fun a ha => ?_, old_new E.old E.oldP hp, fun n m e => ?_, E.dis, tabs_new E.tb hp, E.noG, E.noF⟩
  · by_cases h : a = p
    · subst h
      rw [upd_same]
      exact fun z => by cases z
    · rw [upd_ne h]
      exact E.old a ha
  · obtain ⟨a, h, h1, h2, h3, h4, h5⟩ := E.obj n m e
    have na : a ≠ p := ne_of_none h4 hp
    exact ⟨a, h, h1, h2, h3, by rw [upd_ne na]; exact h4, h5⟩
/-- a new object of the store -/
theorem Em.alloc (E : Em T K F S ι G H) {p : Addr} {o : MO} {u : HO} (hp : H p = none) (ho : OR T K G ι o u) : Em T K F (S.alloc o) (ι ++ [p]) G (upd H p u) ∧ Ext G ι G (ι ++ [p]) ∧ (ι ++ [p])[S.next]? = some p := by
  have hx : Ipre ι (ι ++ [p]) := Ipre.snoc ι p
  have hn : (ι ++ [p])[S.next]? = some p := by rw [← E.len]; simp
  have np : p ∉ ι := fun h => E.old p h hp
  refine ⟨⟨same_out E.sub (E.sub.free hp), same_out E.fr (E.fr.free hp), by simp [E.len], ?_, fun a ha => ?_, fun a ha => ?_, fun n m e => ?_, E.dis, tabs_new E.tb hp, E.noG, E.noF⟩, ⟨Same.refl _, hx⟩, hn⟩
  · exact List.nodup_append.mpr ⟨E.nd, by simp, fun a h1 b h2 => by
      simp at h2
      subst h2
      exact fun e => np (e ▸ h1)⟩
  · by_cases h : a = p
    · subst h
      rw [upd_same]
      exact fun z => by cases z
    · rw [upd_ne h]
      rcases List.mem_append.mp ha with h1 | h1
      · exact E.old a h1
      · simp at h1
        exact absurd h1 h
  · rcases List.mem_append.mp ha with h1 | h1
    · exact old_new E.old E.oldP hp a h1
    · simp at h1
      subst h1
      intro x q
      rw [upd_same] at q
      cases q
      exact noTab_of ho.plain
  · by_cases hm : n = S.next
    · subst hm
      rw [Store.get_alloc_self] at e
      cases e
      exact ⟨p, u, hn, E.sub.free hp, E.fr.free hp, upd_same, ho.mono (Same.refl _) hx⟩
    · rw [Store.get_alloc_ne _ _ hm] at e
      obtain ⟨a, h, h1, h2, h3, h4, h5⟩ := E.obj n m e
      have na : a ≠ p := ne_of_none h4 hp
      exact ⟨a, h, hx _ _ h1, h2, h3, by rw [upd_ne na]; exact h4, h5.mono (Same.refl _) hx⟩
/-- an object of the store changes -/
theorem Em.set (E : Em T K F S ι G H) {n : Nat} {a : Addr} {o : MO} {u : HO} (hn : (S.get n).isSome) (ha : ι[n]? = some a) (ho : OR T K G ι o u) : Em T K F (S.set n o) ι G (upd H a u) := by
  obtain ⟨o0, e0⟩ := Option.isSome_iff_exists.mp hn
  obtain ⟨a', h', q1, q2, q3, q4, q5⟩ := E.obj n o0 e0
  rw [ha] at q1
  cases q1
  refine ⟨same_out E.sub q2, same_out E.fr q3, E.len, E.nd, fun b hb => ?_, old_put E.oldP ho.plain, fun m x e => ?_, E.dis, tabs_upd E.tb q4 q5.plain, E.noG, E.noF⟩
  · by_cases h : b = a
    · subst h
      rw [upd_same]
      exact fun z => by cases z
    · rw [upd_ne h]
      exact E.old b hb
  · by_cases hm : m = n
    · subst hm
      rw [Store.get_set_self] at e
      cases e
      exact ⟨a, u, ha, q2, q3, upd_same, ho⟩
    · rw [Store.get_set_ne _ _ hm] at e
      obtain ⟨b, h, h1, h2, h3, h4, h5⟩ := E.obj m x e
      have nb : b ≠ a := fun z => by
        subst z
        obtain ⟨l1, e1⟩ := List.getElem?_eq_some_iff.mp h1
        obtain ⟨l2, e2⟩ := List.getElem?_eq_some_iff.mp ha
        exact hm ((List.getElem_inj E.nd).mp (e1.trans e2.symm))
      exact ⟨b, h, h1, h2, h3, by rw [upd_ne nb]; exact h4, h5⟩
/-- objects of the store are forgotten -/
theorem Em.sub_store (E : Em T K F S ι G H) {S' : Store} (hn : S'.next = S.next) (hs : ∀ n o, S'.get n = some o → S.get n = some o) : Em T K F S' ι G H :=
  ⟨E.sub, E.fr, E.len.trans hn.symm, E.nd, E.old, E.oldP, fun n o e => E.obj n o (hs n o e), E.dis, E.tb, E.noG, E.noF⟩
theorem Em.trim (E : Em T K F S ι G H) (N : Nat) : Em T K F (S.trim N) ι G H := E.sub_store rfl fun n o e => by
  rw [Store.get_trim] at e
  split at e
  · exact e
  · cases e
/-- tables grow, code objects come -/
theorem Em.lam {H1 : Hp} (E : Em T K F S ι G H) (x : LamX.ExtN H H1) (tb : LamX.Tabs (T.tabs K) H1) : Em T K F S ι G H1 := by
  have go : ∀ {b : Addr} {o : HO}, H b = some o → noTab o = true → H1 b = some o := fun {b o} q n => x b o q fun ps z => by
    subst z
    cases n
  refine ⟨fun b o q => go (E.sub b o q) (E.noG b o q), fun b o q => go (E.fr b o q) (noTab_of (E.noF b o q)), E.len, E.nd, fun a ha => ?_, fun a ha o q => ?_, fun n o e => ?_, E.dis, tb, E.noG, E.noF⟩
  · rcases Option.eq_none_or_eq_some (H a) with q | ⟨o, q⟩
    · exact absurd q (E.old a ha)
    · rw [go q (E.oldP a ha o q)]
      exact fun z => by cases z
  · rcases Option.eq_none_or_eq_some (H a) with q0 | ⟨o0, q0⟩
    · exact absurd q0 (E.old a ha)
    · rw [go q0 (E.oldP a ha o0 q0)] at q
      cases q
      exact E.oldP a ha o q0
  · obtain ⟨a, h, h1, h2, h3, h4, h5⟩ := E.obj n o e
    exact ⟨a, h, h1, h2, h3, go h4 (noTab_of h5.plain), h5⟩
/-- an object of the store is frozen -/
theorem Em.freeze (E : Em T K F S ι G H) {n : Nat} {o : MO} (hn : S.get n = some o) : ∃ a h, ι[n]? = some a ∧ H a = some h ∧ OR T K G ι o h ∧ Em T K F (S.del n) ι (upd G a h) H ∧ Ext G ι (upd G a h) ι := by
  obtain ⟨a, h, q1, q2, q3, q4, q5⟩ := E.obj n o hn
  have hx : Same G (upd G a h) := same_new q2
  refine ⟨a, h, q1, q4, q5, ⟨fun b u q => ?_, E.fr, E.len, E.nd, E.old, E.oldP, fun m x e => ?_, fun b u q => ?_, E.tb, put_all E.noG (noTab_of q5.plain), E.noF⟩, hx, Ipre.refl _⟩
  · by_cases hb : b = a
    · subst hb
      rw [upd_same] at q
      rw [q4]
      exact q
    · rw [upd_ne hb] at q
      exact E.sub b u q
  · rw [Store.get_del] at e
    split at e
    · cases e
    · rename_i hm
      obtain ⟨b, k, h1, h2, h3, h4, h5⟩ := E.obj m x e
      have nb : b ≠ a := fun z => by
        subst z
        obtain ⟨l1, e1⟩ := List.getElem?_eq_some_iff.mp h1
        obtain ⟨l2, e2⟩ := List.getElem?_eq_some_iff.mp q1
        exact hm ((List.getElem_inj E.nd).mp (e1.trans e2.symm))
      exact ⟨b, k, h1, by rw [upd_ne nb]; exact h2, h3, h4, h5.mono hx (Ipre.refl _)⟩
  · rw [upd_ne (ne_of_none q q3)]
    exact E.dis b u q
/-- somebody's own object, put aside -/
theorem Em.aside (E : Em T K F S ι G H) {p : Addr} {o : HO} (hp : H p = none) (no : plainO o = true := by rfl) : Em T K (upd F p o) S ι G (upd H p o) := by
  refine ⟨same_out E.sub (E.sub.free hp), same_up E.fr, E.len, E.nd, fun a ha => ?_, old_new E.old E.oldP hp, fun n m e => ?_, fun a u q => ?_, tabs_new E.tb hp, E.noG, put_all E.noF no⟩
  · by_cases h : a = p
    · subst h
      rw [upd_same]
      exact fun z => by cases z
    · rw [upd_ne h]
      exact E.old a ha
  · obtain ⟨a, h, h1, h2, h3, h4, h5⟩ := E.obj n m e
    have na : a ≠ p := ne_of_none h4 hp
    exact ⟨a, h, h1, h2, by rw [upd_ne na]; exact h3, by rw [upd_ne na]; exact h4, h5⟩
  · by_cases h : a = p
    · subst h
      exact E.sub.free hp
    · rw [upd_ne h] at q
      exact E.dis a u q
/-- .. changed by its owner -/
theorem Em.reaside {p : Addr} {o o' : HO} (E : Em T K (upd F p o) S ι G H) (no : plainO o' = true := by rfl) : Em T K (upd F p o') S ι G (upd H p o') := by
  have gp : G p = none := E.dis p o upd_same
  refine ⟨same_out E.sub gp, fun b u q => ?_, E.len, E.nd, fun a ha => ?_, old_put E.oldP no, fun n m e => ?_, fun a u q => ?_, tabs_upd E.tb (E.fr p o upd_same) (E.noF p o upd_same), E.noG, fun a u q => ?_⟩
  · by_cases hb : b = p
    · subst hb
      rw [upd_same] at q ⊢
      exact q
    · rw [upd_ne hb] at q ⊢
      exact E.fr b u (by rw [upd_ne hb]; exact q)
  · by_cases h : a = p
    · subst h
      rw [upd_same]
      exact fun z => by cases z
    · rw [upd_ne h]
      exact E.old a ha
  · obtain ⟨a, h, h1, h2, h3, h4, h5⟩ := E.obj n m e
    have na : a ≠ p := fun z => by
      subst z
      rw [upd_same] at h3
      cases h3
    exact ⟨a, h, h1, h2, by rw [upd_ne na] at h3 ⊢; exact h3, by rw [upd_ne na]; exact h4, h5⟩
  · by_cases h : a = p
    · subst h
      exact gp
    · rw [upd_ne h] at q
      exact E.dis a u (by rw [upd_ne h]; exact q)
  · by_cases h : a = p
    · subst h
      rw [upd_same] at q
      cases q
      exact no
    · rw [upd_ne h] at q
      exact E.noF a u (by rw [upd_ne h]; exact q)
/-- .. given to all, never to change again -/
theorem Em.adopt {p : Addr} {o : HO} (E : Em T K (upd F p o) S ι G H) (hF : F p = none) : Em T K F S ι (upd G p o) H ∧ Ext G ι (upd G p o) ι := by
  have gp : G p = none := E.dis p o upd_same
  have hx : Same G (upd G p o) := same_new gp
  refine ⟨⟨fun b u q => ?_, fun b u q => E.fr b u (by rw [upd_ne (ne_of_none q hF)]; exact q), E.len, E.nd, E.old, E.oldP, fun n m e => ?_, fun a u q => ?_, E.tb, put_all E.noG (noTab_of (E.noF p o upd_same)), fun a u q => E.noF a u (by rw [upd_ne (ne_of_none q hF)]; exact q)⟩, hx, Ipre.refl _⟩
  · by_cases hb : b = p
    · subst hb
      rw [upd_same] at q
      exact E.fr b u (by rw [upd_same]; exact q)
    · rw [upd_ne hb] at q
      exact E.sub b u q
  · obtain ⟨a, h, h1, h2, h3, h4, h5⟩ := E.obj n m e
    have na : a ≠ p := fun z => by
      subst z
      rw [upd_same] at h3
      cases h3
    exact ⟨a, h, h1, by rw [upd_ne na]; exact h2, by rw [upd_ne na] at h3; exact h3, h4, h5.mono hx (Ipre.refl _)⟩
  · have na : a ≠ p := ne_of_none q hF
    rw [upd_ne na]
    exact E.dis a u (by rw [upd_ne na]; exact q)
end
/-- the slots -/
structure SR (T : Tab) (K : PySem.W.Frag) (G : Hp) (ι : List Addr) (ρ : Rho) (σ : St) : Prop where
  len : ρ.length = σ.length
  at_ : ∀ (i : Nat) (d : D), ρ[i]? = some (some d) → ∃ v, σ[i]? = some (some v) ∧ DR T K G ι d v
theorem SR.mono {T : Tab} {K : PySem.W.Frag} {G G' : Hp} {ι ι' : List Addr} {ρ : Rho} {σ : St} (r : SR T K G ι ρ σ) (x : Ext G ι G' ι') : SR T K G' ι' ρ σ :=
  ⟨r.len, fun i d e => let ⟨v, q, h⟩ := r.at_ i d e; ⟨v, q, h.mono x.1 x.2⟩⟩
theorem SR.set {T : Tab} {K : PySem.W.Frag} {G : Hp} {ι : List Addr} {ρ : Rho} {σ : St} (r : SR T K G ι ρ σ) {d : D} {v : V} (h : DR T K G ι d v) (j : Nat) : SR T K G ι (ρ.set j (some d)) (σ.set j (some v)) := by
  refine ⟨by simp [r.len], fun i e q => ?_⟩
  by_cases hj : j = i
  · subst hj
    rw [List.getElem?_set] at q ⊢
    by_cases hl : j < ρ.length
    · have hl' : j < σ.length := r.len ▸ hl
      simp [hl] at q
      subst q
      simp [hl', h]
    · simp [hl] at q
  · rw [List.getElem?_set_ne hj] at q ⊢
    exact r.at_ i e q
end J

set_option Elab.async false
set_option linter.all false
set_option maxRecDepth 100000
set_option maxHeartbeats 4010000
/-! J1: judgements -/
namespace J
open PySem PySem.Spec L2

def Runs {α : Type} (m : R α) (ok : α → Store → Prop) (ex : Nat → List (Nat × D) → Store → Prop) : Prop := match m with
  | .ok a S => ok a S
  | .ex c fs S => ex c fs S
  | .no => False
theorem Runs.imp {α : Type} {m : R α} {ok ok' : α → Store → Prop} {ex ex' : Nat → List (Nat × D) → Store → Prop} (h : Runs m ok ex) (h1 : ∀ a S, ok a S → ok' a S) (h2 : ∀ c fs S, ex c fs S → ex' c fs S) : Runs m ok' ex' := by
  cases m with
  | ok a S => exact h1 a S h
  | ex c fs S => exact h2 c fs S h
  | no => exact h
/-- an exception's own dict -/
def XR (T : Tab) (K : PySem.W.Frag) (G : Hp) (ι : List Addr) (fs : List (Nat × D)) (dd : Option Addr) : Prop :=
  (fs = [] ∧ dd = none) ∨ ∃ d vs, dd = some d ∧ G d = some (.xd vs) ∧ FRs T K G ι fs vs
/-- what is wanted of a run at (G, ι) -/
def Thn {α β : Type} (T : Tab) (K : PySem.W.Frag) (F : Hp) (W : WX) (σ : L2.St) (G : Hp) (ι : List Addr) (rel : Hp → List Addr → α → β → Prop) (m : R α) (Q : β → Hp → Prop) : Prop :=
  Runs m (fun d S' => ∀ v ι' G' H', Em T K F S' ι' G' H' → Ext G ι G' ι' → rel G' ι' d v → Q v H')
    (fun c fs S' => ∀ dd ι' G' H', Em T K F S' ι' G' H' → Ext G ι G' ι' → XR T K G' ι' fs dd → W (.ref (He.ga K (T.cn c))) dd σ H')
def tG {α β : Type} (T : Tab) (K : PySem.W.Frag) (W : WX) (rel : Hp → List Addr → α → β → Prop) (m : Rho → M α) : L2.St → Hp → (β → Hp → Prop) → Prop := fun σ H Q =>
  ∃ ρ F S ι G, Em T K F S ι G H ∧ SR T K G ι ρ σ ∧ Thn T K F W σ G ι rel (m ρ S) Q
abbrev tE (T : Tab) (K : PySem.W.Frag) (W : WX) (ie : IE) : TE := tG T K W (DR T K) ie
abbrev tT (T : Tab) (K : PySem.W.Frag) (W : WX) (it : IT) : TT := tG T K W (fun _ _ (a b : Bool) => a = b) it
abbrev tA (T : Tab) (K : PySem.W.Frag) (W : WX) (ia : IA) : TA := tG T K W (DRs T K) ia
abbrev JE (T : Tab) (X : Cx) (W : WX) (e : Expr) (ie : IE) : Prop := PE X e (tE T X.K W ie)
abbrev JT (T : Tab) (X : Cx) (W : WX) (e : Expr) (it : IT) : Prop := PT X e (tT T X.K W it)
abbrev JW (T : Tab) (X : Cx) (W : WX) (e : Expr) (it : IT) : Prop := PW X e (tT T X.K W it)
abbrev JA (T : Tab) (X : Cx) (W : WX) (es : List Expr) (ia : IA) : Prop := PA X es (tA T X.K W ia)
theorem PE.mono {X : Cx} {e : Expr} {t t' : TE} (h : PE X e t) (k : ∀ σ H Q, t' σ H Q → t σ H Q) : PE X e t' := ⟨fun pins s σ H Q I q => h.run pins s σ H Q I (k σ H Q q)⟩
theorem PT.mono {X : Cx} {e : Expr} {t t' : TT} (h : PT X e t) (k : ∀ σ H Q, t' σ H Q → t σ H Q) : PT X e t' := ⟨fun pins s σ H Q I q => h.run pins s σ H Q I (k σ H Q q)⟩
theorem PW.mono {X : Cx} {e : Expr} {t t' : TT} (h : PW X e t) (k : ∀ σ H Q, t' σ H Q → t σ H Q) : PW X e t' := ⟨fun wh pins s σ H Q I q => h.run wh pins s σ H Q I (k σ H Q q)⟩
theorem PA.mono {X : Cx} {e : List Expr} {t t' : TA} (h : PA X e t) (k : ∀ σ H Q, t' σ H Q → t σ H Q) : PA X e t' := ⟨fun pos pins s σ H Q I q => h.run pos pins s σ H Q I (k σ H Q q)⟩

section
variable {T : Tab} {K : PySem.W.Frag} {F : Hp} {W : WX} {σ : L2.St} {G G1 : Hp} {ι ι1 : List Addr} {α β γ δ : Type} {rel : Hp → List Addr → α → β → Prop} {rel2 : Hp → List Addr → γ → δ → Prop}
theorem Thn.ext {m : R α} {Q : β → Hp → Prop} (h : Thn T K F W σ G ι rel m Q) (x : Ext G ι G1 ι1) : Thn T K F W σ G1 ι1 rel m Q :=
  Runs.imp h (fun _ _ k v ι' G' H' em y r => k v ι' G' H' em (x.trans y) r) fun _ _ _ k dd ι' G' H' em y r => k dd ι' G' H' em (x.trans y) r
theorem Thn.imp {m : R α} {Q Q' : β → Hp → Prop} (h : Thn T K F W σ G ι rel m Q) (k : ∀ v H, Q v H → Q' v H) : Thn T K F W σ G ι rel m Q' :=
  Runs.imp h (fun _ _ q v ι' G' H' em y r => k v H' (q v ι' G' H' em y r)) fun _ _ _ q => q
/-- the first part of a run -/
theorem Thn.bind {m : M γ} {k : γ → M α} {S : Store} {Q : β → Hp → Prop} {Q2 : δ → Hp → Prop} (h : Thn T K F W σ G ι rel (M.bind m k S) Q)
    (go : ∀ a S1 v ι1 G1 H1, Em T K F S1 ι1 G1 H1 → Ext G ι G1 ι1 → rel2 G1 ι1 a v → Thn T K F W σ G1 ι1 rel (k a S1) Q → Q2 v H1) : Thn T K F W σ G ι rel2 (m S) Q2 := by
  unfold M.bind at h
  cases e : m S with
  | ok a S1 =>
    rw [e] at h
    exact fun v ι' G' H' em y r => go a S1 v ι' G' H' em y r (Thn.ext h y)
  | ex c fs S1 =>
    rw [e] at h
    exact h
  | no =>
    rw [e] at h
    exact h
theorem Thn.ok {a : α} {S : Store} {Q : β → Hp → Prop} (h : Thn T K F W σ G ι rel (.ok a S) Q) {H : Hp} (em : Em T K F S ι G H) {v : β} (r : rel G ι a v) : Q v H := h v ι G H em (Ext.refl _ _) r
end
/-- a partial value -/
def lift {α : Type} (o : Option α) : M α := fun S => match o with
  | some a => .ok a S
  | none => .no
theorem Thn.lift {T : Tab} {K : PySem.W.Frag} {F : Hp} {W : WX} {σ : L2.St} {G : Hp} {ι : List Addr} {α β : Type} {rel : Hp → List Addr → α → β → Prop} {o : Option α} {S : Store} {Q : β → Hp → Prop} (h : Thn T K F W σ G ι rel (J.lift o S) Q) :
    ∃ a, o = some a ∧ Thn T K F W σ G ι rel (.ok a S) Q := by
  cases o with
  | none => exact h.elim
  | some a => exact ⟨a, rfl, h⟩

theorem bind_lift {α β : Type} {o : Store → Option α} {k : α → M β} {S : Store} : M.bind (fun S => lift (o S) S) k S = (match o S with
    | some a => k a S
    | none => .no) := by
  unfold M.bind lift
  dsimp only
  cases o S <;> rfl
/-! ### names, constants -/
def iVar (i : Nat) : IE := fun ρ => lift (ρ.getD i none)
def iC (d : D) : IE := fun _ => M.ret d
section
variable {T : Tab} {X : Cx} {W : WX}
theorem je_var (i : Nat) {x : Str} {pos : Pos} (hN : X.N[i]? = some x := by rfl) (hv : Vis X.env.scope x := by first | exact Or.inl rfl | exact Or.inr (Or.inl rfl) | exact Or.inr (Or.inr rfl))
    (hd : (x == ("__debug__" : Str)) = false := by decide) (hcd : (x == ("__classdict__" : Str)) = false := by decide) : JE T X W (.Name x pos) (iVar i) := by
  refine PE.mono (pe_var hN hv hd hcd) fun σ H Q ⟨ρ, F, S, ι, G, em, sr, h⟩ => ?_
  obtain ⟨d, e, h⟩ := Thn.lift h
  have e2 : ρ[i]? = some (some d) := by
    rw [List.getD_eq_getElem?_getD] at e
    cases q : ρ[i]? with
    | none => (rw [q] at e); exact nomatch e
    | some o => rw [q] at e; rw [show o = some d from e]
  obtain ⟨v, q, r⟩ := sr.at_ i d e2
  exact ⟨v, q, h.ok em r⟩
theorem je_c {e : Expr} {d : D} {v : V} (h : PE X e (tC v)) (r : ∀ G ι, DR T X.K G ι d v) : JE T X W e (iC d) :=
  PE.mono h fun σ H Q ⟨ρ, F, S, ι, G, em, sr, h⟩ => Thn.ok h em (r G ι)
theorem je_int {i j pos} : JE T X W (.Constant (.int i) j pos) (iC (.int i)) := je_c pe_int fun _ _ => by simp only [DR]
theorem je_bl {b j pos} : JE T X W (.Constant (.bool b) j pos) (iC (.bl b)) := je_c pe_bl fun _ _ => by simp only [DR]
theorem je_non {j pos} : JE T X W (.Constant .none j pos) (iC .non) := je_c pe_non fun _ _ => by simp only [DR]
theorem je_str {x : Str} {l : List Nat} {j pos} (h : x = ⟨l.toArray⟩ := by rfl) : JE T X W (.Constant (.str x) j pos) (iC (.str l)) := je_c pe_str fun _ _ => by simp only [DR]; rw [h]
end
/-! ### operators: no change of the store -/
abbrev Op2 := D → D → Store → Option D
def iOp (f : Op2) (ia ib : IE) : IE := fun ρ => M.bind (ia ρ) fun x => M.bind (ib ρ) fun y => fun S => lift (f x y S) S
/-- r serves f -/
def OpS (T : Tab) (K : PySem.W.Frag) (r : R2) (f : Op2) : Prop := ∀ F S ι G H x y d vx vy (Q : VK), Em T K F S ι G H → DR T K G ι x vx → DR T K G ι y vy → f x y S = some d →
  (∀ v G' H', Em T K F S ι G' H' → Ext G ι G' ι → DR T K G' ι d v → Q v H') → r vx vy H Q
theorem OpS.or {T : Tab} {K : PySem.W.Frag} {r r' : R2} {f g k : Op2} (h : OpS T K r f) (h' : OpS T K r' g) (hk : ∀ x y S d, k x y S = some d → f x y S = some d ∨ g x y S = some d) : OpS T K (fun x y H Q => r x y H Q ∨ r' x y H Q) k :=
  fun F S ι G H x y d vx vy Q em dx dy e q => (hk x y S d e).elim (fun z => .inl (h F S ι G H x y d vx vy Q em dx dy z q)) fun z => .inr (h' F S ι G H x y d vx vy Q em dx dy z q)
section
variable {T : Tab} {X : Cx} {W : WX} {a b c : Expr} {ia ib ic : IE} {pos : Pos} {r r' : R2} {f g : Op2}
theorem op_go (hf : OpS T X.K r f) {σ : L2.St} {H : Hp} {Q : VK} (h : tE T X.K W (iOp f ia ib) σ H Q) : tOp r (tE T X.K W ia) (tE T X.K W ib) σ H Q := by
  obtain ⟨ρ, F, S, ι, G, em, sr, h⟩ := h
  refine ⟨ρ, F, S, ι, G, em, sr, Thn.bind (rel2 := DR T X.K) h fun x S1 vx ι1 G1 H1 em1 x1 dx h1 => ?_⟩
  refine ⟨ρ, F, S1, ι1, G1, em1, sr.mono x1, Thn.bind (rel2 := DR T X.K) h1 fun y S2 vy ι2 G2 H2 em2 x2 dy h2 => ?_⟩
  obtain ⟨d, e, h3⟩ := Thn.lift h2
  exact hf F S2 ι2 G2 H2 x y d vx vy Q em2 (dx.mono x2.1 x2.2) dy e fun v G' H' em' x' r' => h3 v ι2 G' H' em' x' r'
theorem je_op {op : Operator} (ho : OpR X (binaryOp op) r) (hf : OpS T X.K r f) (ha : JE T X W a ia) (hb : JE T X W b ib) : JE T X W (.BinOp a op b pos) (iOp f ia ib) :=
  PE.mono (pe_op ho ha hb) fun σ H Q h => op_go hf h
theorem je_cmp {op : CmpOp} (ho : OpR X (compareOp op) r) (hf : OpS T X.K r f) (ha : JE T X W a ia) (hb : JE T X W b ib) (hm : behindInMarks op b = false) : JE T X W (.Compare a [op] [b] pos) (iOp f ia ib) :=
  PE.mono (pe_cmpR ho ha hb hm) fun σ H Q h => op_go hf h
theorem je_ix (ho : IxR X r) (hf : OpS T X.K r f) (ha : JE T X W a ia) (hb : JE T X W b ib) (hs : PlainIx b) : JE T X W (.Subscript a b pos) (iOp f ia ib) :=
  PE.mono (pe_ix ho ha hb hs) fun σ H Q h => op_go hf h
/-! ### tests -/
def isB : D → Option Bool
  | .bl b => some b
  | _ => none
/-- a bool's value as a test -/
def iTst (ie : IE) : IT := fun ρ => M.bind (ie ρ) fun d => lift (isB d)
theorem tst_go {te : TE} (h : ∀ σ H Q, tE T X.K W ia σ H Q → te σ H Q) {σ : L2.St} {H : Hp} {Q : Bool → Hp → Prop} (k : tT T X.K W (iTst ia) σ H Q) : te σ H fun x H' => ∃ c, x = .bl c ∧ Q c H' := by
  obtain ⟨ρ, F, S, ι, G, em, sr, k⟩ := k
  refine h σ H _ ⟨ρ, F, S, ι, G, em, sr, Thn.bind (rel2 := DR T X.K) k fun x S1 vx ι1 G1 H1 em1 x1 dx h1 => ?_⟩
  obtain ⟨d, e, h3⟩ := Thn.lift h1
  cases x with
  | bl q =>
    have eq : q = d := Option.some.inj e
    subst eq
    simp only [DR] at dx
    exact ⟨q, dx, h3.ok em1 rfl⟩
  | _ => cases e
theorem jt_cmp {op : CmpOp} (ho : OpR X (compareOp op) r) (hf : OpS T X.K r f) (ha : JE T X W a ia) (hb : JE T X W b ib) (hm : behindInMarks op b = false) : JT T X W (.Compare a [op] [b] pos) (iTst (iOp f ia ib)) :=
  PT.mono (pt_cmpR ho ha hb hm) fun σ H Q h => tst_go (te := tOp r (tE T X.K W ia) (tE T X.K W ib)) (fun _ _ _ h => op_go hf h) h
theorem jt_val {e : Expr} (h : JE T X W e ia) (he : ∀ whole, isTrue e X.env whole = (do let v ← whole; standAt e.pos; holding [v] (truthy v)) := by intro _; rfl) : JT T X W e (iTst ia) :=
  PT.mono (pt_val h he) fun σ H Q h => tst_go (te := tE T X.K W ia) (fun _ _ _ h => h) h
/-- a chain of two comparisons -/
def iChain (f g : Op2) (ia ib ic : IE) : IE := fun ρ => M.bind (ia ρ) fun x => M.bind (ib ρ) fun y => M.bind (fun S => lift ((f x y S).bind isB) S) fun k => if k = true then M.bind (ic ρ) fun z => fun S => lift (g y z S) S else M.ret (.bl false)
theorem chain_go (hf : OpS T X.K r f) (hg : OpS T X.K r' g) {σ : L2.St} {H : Hp} {Q : VK} (h : tE T X.K W (iChain f g ia ib ic) σ H Q) : tChain r r' (tE T X.K W ia) (tE T X.K W ib) (tE T X.K W ic) σ H Q := by
  obtain ⟨ρ, F, S, ι, G, em, sr, h⟩ := h
  refine ⟨ρ, F, S, ι, G, em, sr, Thn.bind (rel2 := DR T X.K) h fun x S1 vx ι1 G1 H1 em1 x1 dx h1 => ?_⟩
  refine ⟨ρ, F, S1, ι1, G1, em1, sr.mono x1, Thn.bind (rel2 := DR T X.K) h1 fun y S2 vy ι2 G2 H2 em2 x2 dy h2 => ?_⟩
  rw [bind_lift] at h2
  cases e : f x y S2 with
  | none => rw [e] at h2; exact h2.elim
  | some d =>
    rw [e] at h2
    cases d with
    | bl k =>
      refine hf F S2 ι2 G2 H2 x y (.bl k) vx vy _ em2 (dx.mono x2.1 x2.2) dy e fun v G' H' em' x' r' => ?_
      simp only [DR] at r'
      refine ⟨k, r', ?_⟩
      have h3 := Thn.ext h2 x'
      cases k with
      | false => exact Thn.ok h3 em' (by simp only [DR])
      | true =>
        refine iteT ⟨ρ, F, S2, ι2, G', em', (sr.mono x1).mono (x2.trans x'), Thn.bind (rel2 := DR T X.K) (k := fun z => fun S => lift (g y z S) S) h3 fun z S3 vz ι3 G3 H3 em3 x3 dz h4 => ?_⟩
        obtain ⟨d, e2, h5⟩ := Thn.lift h4
        exact hg F S3 ι3 G3 H3 y z d vy vz Q em3 ((dy.mono x'.1 x'.2).mono x3.1 x3.2) dz e2 fun v G' H' em' x' r' => h5 v ι3 G' H' em' x' r'
    | _ => exact h2.elim
theorem je_chain {op op' : CmpOp} (ho : OpR X (compareOp op) r) (ho' : OpR X (compareOp op') r') (hf : OpS T X.K r f) (hg : OpS T X.K r' g) (ha : JE T X W a ia) (hb : JE T X W b ib) (hc : JE T X W c ic)
    (hm : lastMarks [op, op'] [b, c] = false := by with_unfolding_all rfl) : JE T X W (.Compare a [op, op'] [b, c] pos) (iChain f g ia ib ic) :=
  PE.mono (pe_chain ho ho' ha hb hc hm) fun σ H Q h => chain_go hf hg h
theorem jt_chain {op op' : CmpOp} (ho : OpR X (compareOp op) r) (ho' : OpR X (compareOp op') r') (hf : OpS T X.K r f) (hg : OpS T X.K r' g) (ha : JE T X W a ia) (hb : JE T X W b ib) (hc : JE T X W c ic)
    (hm : lastMarks [op, op'] [b, c] = false := by with_unfolding_all rfl) : JT T X W (.Compare a [op, op'] [b, c] pos) (iTst (iChain f g ia ib ic)) :=
  PT.mono (pt_chain ho ho' ha hb hc hm) fun σ H Q h => tst_go (te := tChain r r' (tE T X.K W ia) (tE T X.K W ib) (tE T X.K W ic)) (fun _ _ _ h => chain_go hf hg h) h
end
end J

set_option Elab.async false
set_option linter.all false
set_option maxRecDepth 100000
set_option maxHeartbeats 410000
/-! J2: and, or, not, conditional expressions, argument lists, displays, calls of built-ins, methods of built-ins -/
namespace J
open PySem PySem.Spec L2
section
variable {T : Tab} {X : Cx} {W : WX} {a b c e : Expr} {es rest : List Expr} {ia ib ic : IE} {ta tb : IT} {pos : Pos}
def iAnd (ta tb : IT) : IT := fun ρ => M.bind (ta ρ) fun c => if c = true then tb ρ else M.ret false
def iOr (ta tb : IT) : IT := fun ρ => M.bind (ta ρ) fun c => if c = true then M.ret true else tb ρ
def iNot (ta : IT) : IT := fun ρ => M.bind (ta ρ) fun c => M.ret (!c)
def iAndV (ia ib : IE) : IE := fun ρ => M.bind (ia ρ) fun x => M.bind (lift (isB x)) fun c => if c = true then ib ρ else M.ret (.bl false)
def iOrV (ia ib : IE) : IE := fun ρ => M.bind (ia ρ) fun x => M.bind (lift (isB x)) fun c => if c = true then M.ret (.bl true) else ib ρ
def iNotV (ta : IT) : IE := fun ρ => M.bind (ta ρ) fun c => M.ret (.bl (!c))
def iIf (t : IT) (ia ib : IE) : IE := fun ρ => M.bind (t ρ) fun c => if c = true then ia ρ else ib ρ
theorem jw_and1 (ha : JT T X W a ta) : JW T X W (.BoolOp .And [a] pos) ta := pw_and1 ha
theorem jw_or1 (ha : JT T X W a ta) : JW T X W (.BoolOp .Or [a] pos) ta := pw_or1 ha
theorem jw_and (ha : JT T X W a ta) (hb : JW T X W (.BoolOp .And (b :: rest) pos) tb) : JW T X W (.BoolOp .And (a :: b :: rest) pos) (iAnd ta tb) := by
  refine PW.mono (pw_and ha hb) fun σ H Q ⟨ρ, F, S, ι, G, em, sr, h⟩ => ?_
  refine ⟨ρ, F, S, ι, G, em, sr, Thn.bind (rel2 := fun _ _ (a b : Bool) => a = b) h fun x S1 vx ι1 G1 H1 em1 x1 dx h1 => ?_⟩
  subst dx
  cases x with
  | true => exact iteT ⟨ρ, F, S1, ι1, G1, em1, sr.mono x1, h1⟩
  | false => exact iteF (Thn.ok h1 em1 rfl)
theorem jw_or (ha : JT T X W a ta) (hb : JW T X W (.BoolOp .Or (b :: rest) pos) tb) : JW T X W (.BoolOp .Or (a :: b :: rest) pos) (iOr ta tb) := by
  refine PW.mono (pw_or ha hb) fun σ H Q ⟨ρ, F, S, ι, G, em, sr, h⟩ => ?_
  refine ⟨ρ, F, S, ι, G, em, sr, Thn.bind (rel2 := fun _ _ (a b : Bool) => a = b) h fun x S1 vx ι1 G1 H1 em1 x1 dx h1 => ?_⟩
  subst dx
  cases x with
  | false => exact iteF ⟨ρ, F, S1, ι1, G1, em1, sr.mono x1, h1⟩
  | true => exact iteT (Thn.ok h1 em1 rfl)
theorem jt_w (h : JW T X W e ta) : JT T X W e ta := PW.pt h
theorem jt_not (ha : JT T X W a ta) : JT T X W (.UnaryOp .Not a pos) (iNot ta) := by
  refine PT.mono (pt_not ha) fun σ H Q ⟨ρ, F, S, ι, G, em, sr, h⟩ => ?_
  refine ⟨ρ, F, S, ι, G, em, sr, Thn.bind (rel2 := fun _ _ (a b : Bool) => a = b) h fun x S1 vx ι1 G1 H1 em1 x1 dx h1 => ?_⟩
  subst dx
  exact Thn.ok h1 em1 rfl
theorem je_one {op} (h : JE T X W a ia) : JE T X W (.BoolOp op [a] pos) ia := pe_one h
theorem je_and (ha : JE T X W a ia) (hb : JE T X W (.BoolOp .And (b :: rest) pos) ib) : JE T X W (.BoolOp .And (a :: b :: rest) pos) (iAndV ia ib) := by
  refine PE.mono (pe_and ha hb) fun σ H Q ⟨ρ, F, S, ι, G, em, sr, h⟩ => ?_
  refine ⟨ρ, F, S, ι, G, em, sr, Thn.bind (rel2 := DR T X.K) h fun x S1 vx ι1 G1 H1 em1 x1 dx h1 => ?_⟩
  cases x with
  | bl q =>
    simp only [DR] at dx
    refine ⟨q, dx, ?_⟩
    cases q with
    | true => exact iteT ⟨ρ, F, S1, ι1, G1, em1, sr.mono x1, h1⟩
    | false => exact iteF (Thn.ok h1 em1 (by simp only [DR]))
  | _ => exact h1.elim
theorem je_or (ha : JE T X W a ia) (hb : JE T X W (.BoolOp .Or (b :: rest) pos) ib) : JE T X W (.BoolOp .Or (a :: b :: rest) pos) (iOrV ia ib) := by
  refine PE.mono (pe_or ha hb) fun σ H Q ⟨ρ, F, S, ι, G, em, sr, h⟩ => ?_
  refine ⟨ρ, F, S, ι, G, em, sr, Thn.bind (rel2 := DR T X.K) h fun x S1 vx ι1 G1 H1 em1 x1 dx h1 => ?_⟩
  cases x with
  | bl q =>
    simp only [DR] at dx
    refine ⟨q, dx, ?_⟩
    cases q with
    | false => exact iteF ⟨ρ, F, S1, ι1, G1, em1, sr.mono x1, h1⟩
    | true => exact iteT (Thn.ok h1 em1 (by simp only [DR]))
  | _ => exact h1.elim
theorem je_not (ha : JE T X W a ia) : JE T X W (.UnaryOp .Not a pos) (iNotV (iTst ia)) := by
  refine PE.mono (pe_not ha) fun σ H Q ⟨ρ, F, S, ι, G, em, sr, h⟩ => ?_
  have h' : Thn T X.K F W σ G ι (DR T X.K) (M.bind (ia ρ) (fun d => M.bind (lift (isB d)) fun c => M.ret (.bl (!c))) S) Q := by
    have e : M.bind (ia ρ) (fun d => M.bind (lift (isB d)) fun c => M.ret (.bl (!c))) S = iNotV (iTst ia) ρ S := by
      unfold iNotV iTst M.bind
      cases ia ρ S <;> rfl
    rw [e]
    exact h
  refine ⟨ρ, F, S, ι, G, em, sr, Thn.bind (rel2 := DR T X.K) h' fun x S1 vx ι1 G1 H1 em1 x1 dx h1 => ?_⟩
  cases x with
  | bl q =>
    simp only [DR] at dx
    exact ⟨q, dx, Thn.ok h1 em1 (by simp only [DR])⟩
  | _ => exact h1.elim
theorem je_if (hc : JT T X W c ta) (ha : JE T X W a ia) (hb : JE T X W b ib) : JE T X W (.IfExp c a b pos) (iIf ta ia ib) := by
  refine PE.mono (pe_ifExp hc ha hb) fun σ H Q ⟨ρ, F, S, ι, G, em, sr, h⟩ => ?_
  refine ⟨ρ, F, S, ι, G, em, sr, Thn.bind (rel2 := fun _ _ (a b : Bool) => a = b) h fun x S1 vx ι1 G1 H1 em1 x1 dx h1 => ?_⟩
  subst dx
  cases x with
  | true => exact iteT ⟨ρ, F, S1, ι1, G1, em1, sr.mono x1, h1⟩
  | false => exact iteF ⟨ρ, F, S1, ι1, G1, em1, sr.mono x1, h1⟩
/-! ### argument lists -/
def iNil : IA := fun _ => M.ret []
def iCons (ia : IE) (ir : IA) : IA := fun ρ => M.bind (ia ρ) fun x => M.bind (ir ρ) fun xs => M.ret (x :: xs)
theorem ja_nil : JA T X W [] iNil := PA.mono pa_nil fun σ H Q ⟨ρ, F, S, ι, G, em, sr, h⟩ => Thn.ok h em DRs.nil
theorem cons_go {ir : IA} {σ : L2.St} {H : Hp} {Q : List V → Hp → Prop} (h : tA T X.K W (iCons ia ir) σ H Q) : tCons (tE T X.K W ia) (tA T X.K W ir) σ H Q := by
  obtain ⟨ρ, F, S, ι, G, em, sr, h⟩ := h
  refine ⟨ρ, F, S, ι, G, em, sr, Thn.bind (rel2 := DR T X.K) h fun x S1 vx ι1 G1 H1 em1 x1 dx h1 => ?_⟩
  refine ⟨ρ, F, S1, ι1, G1, em1, sr.mono x1, Thn.bind (rel2 := DRs T X.K) h1 fun y S2 vy ι2 G2 H2 em2 x2 dy h2 => ?_⟩
  exact Thn.ok h2 em2 (DRs.cons (dx.mono x2.1 x2.2) dy)
theorem ja_cons {ir : IA} (ha : JE T X W e ia) (hr : JA T X W es ir) (hs : starEach (e :: es) X.env = (false, eval e X.env) :: starEach es X.env := by rfl) : JA T X W (e :: es) (iCons ia ir) :=
  PA.mono (pa_cons ha hr hs) fun σ H Q h => cons_go h
/-! ### displays -/
def iTup (ia : IA) : IE := fun ρ => M.bind (ia ρ) fun xs => if xs.length ≤ 100000 then M.ret (.tup xs) else M.no
def iLst (ia : IA) : IE := fun ρ => M.bind (ia ρ) fun xs => if xs.length ≤ 100000 then M.ret (.lst xs) else M.no
/-- a list that will change -/
def iLstM (ia : IA) : IE := fun ρ => M.bind (ia ρ) fun xs => if xs.length ≤ 100000 then fun S => .ok (.ref S.next) (S.alloc (.lst xs)) else M.no
theorem sz_of {n : Nat} (hn : n ≤ 100000) : n ≤ sizeLine := Nat.le_trans hn (show (100000 : Nat) ≤ sizeLine by decide)
theorem je_tup {x1} {ia : IA} (h : JA T X W es ia) : JE T X W (.Tuple es x1 pos) (iTup ia) := by
  refine PE.mono (pe_tup h) fun σ H Q ⟨ρ, F, S, ι, G, em, sr, h⟩ => ?_
  refine ⟨ρ, F, S, ι, G, em, sr, Thn.bind (rel2 := DRs T X.K) h fun xs S1 vx ι1 G1 H1 em1 x1 dx h1 => ?_⟩
  by_cases hl : xs.length ≤ 100000
  · rw [if_pos hl] at h1
    refine ⟨by rw [← dx.length]; exact sz_of hl, fun p hp => ?_⟩
    obtain ⟨em2, x2⟩ := em1.frz (o := .tup vx) hp
    exact h1 _ _ _ _ em2 x2 (by simp only [DR]; exact ⟨p, vx, rfl, upd_same, dx.mono x2.1 x2.2⟩)
  · rw [if_neg hl] at h1
    exact h1.elim
theorem je_lst {ia : IA} (h : JA T X W es ia) : JE T X W (.List es pos) (iLst ia) := by
  refine PE.mono (pe_lst h) fun σ H Q ⟨ρ, F, S, ι, G, em, sr, h⟩ => ?_
  refine ⟨ρ, F, S, ι, G, em, sr, Thn.bind (rel2 := DRs T X.K) h fun xs S1 vx ι1 G1 H1 em1 x1 dx h1 => ?_⟩
  by_cases hl : xs.length ≤ 100000
  · rw [if_pos hl] at h1
    refine ⟨by rw [← dx.length]; exact sz_of hl, fun p hp => ?_⟩
    obtain ⟨em2, x2⟩ := em1.frz (o := .lst vx) hp
    exact h1 _ _ _ _ em2 x2 (by simp only [DR]; exact ⟨p, vx, rfl, upd_same, dx.mono x2.1 x2.2⟩)
  · rw [if_neg hl] at h1
    exact h1.elim
theorem je_lstM {ia : IA} (h : JA T X W es ia) : JE T X W (.List es pos) (iLstM ia) := by
  refine PE.mono (pe_lst h) fun σ H Q ⟨ρ, F, S, ι, G, em, sr, h⟩ => ?_
  refine ⟨ρ, F, S, ι, G, em, sr, Thn.bind (rel2 := DRs T X.K) h fun xs S1 vx ι1 G1 H1 em1 x1 dx h1 => ?_⟩
  by_cases hl : xs.length ≤ 100000
  · rw [if_pos hl] at h1
    refine ⟨by rw [← dx.length]; exact sz_of hl, fun p hp => ?_⟩
    obtain ⟨em2, x2, hn⟩ := em1.alloc (o := .lst xs) (u := .lst vx) hp ⟨vx, rfl, dx⟩
    exact h1 _ _ _ _ em2 x2 (by simp only [DR]; exact ⟨p, hn, rfl⟩)
  · rw [if_neg hl] at h1
    exact h1.elim
end
/-! ### calls of built-ins -/
abbrev OpN := List D → Store → Option D
def iCB (f : OpN) (ia : IA) : IE := fun ρ => M.bind (ia ρ) fun xs => fun S => lift (f xs S) S
def CaS (T : Tab) (K : PySem.W.Frag) (r : List V → Hp → VK → Prop) (f : OpN) : Prop := ∀ F S ι G H xs d vs (Q : VK), Em T K F S ι G H → DRs T K G ι xs vs → f xs S = some d →
  (∀ v G' H', Em T K F S ι G' H' → Ext G ι G' ι → DR T K G' ι d v → Q v H') → r vs H Q
theorem CaS.or {T : Tab} {K : PySem.W.Frag} {r r' : List V → Hp → VK → Prop} {f g k : OpN} (h : CaS T K r f) (h' : CaS T K r' g) (hk : ∀ x S d, k x S = some d → f x S = some d ∨ g x S = some d) : CaS T K (fun x H Q => r x H Q ∨ r' x H Q) k :=
  fun F S ι G H x d vx Q em dx e q => (hk x S d e).elim (fun z => .inl (h F S ι G H x d vx Q em dx z q)) fun z => .inr (h' F S ι G H x d vx Q em dx z q)
section
variable {T : Tab} {X : Cx} {W : WX} {a b c e : Expr} {es rest : List Expr} {ia : IA} {pos p : Pos} {r : List V → Hp → VK → Prop} {f : OpN} {id Ty : String} {x : Str}
theorem cb_go (hf : CaS T X.K r f) {σ : L2.St} {H : Hp} {Q : VK} (h : tE T X.K W (iCB f ia) σ H Q) : tCB r (tA T X.K W ia) σ H Q := by
  obtain ⟨ρ, F, S, ι, G, em, sr, h⟩ := h
  refine ⟨ρ, F, S, ι, G, em, sr, Thn.bind (rel2 := DRs T X.K) h fun x S1 vx ι1 G1 H1 em1 x1 dx h1 => ?_⟩
  obtain ⟨d, e, h3⟩ := Thn.lift h1
  exact hf F S1 ι1 G1 H1 x d vx Q em1 dx e fun v G' H' em' x' r' => h3 v ι1 G' H' em' x' r'
theorem je_callB (hc : CallR X (.builtin id) r) (hf : CaS T X.K r f) (hg : Gl X x) (hm : X.mg x = none) (hv : bootBuiltins x = some (.builtin id)) (ha : JA T X W (e :: es) ia) (hn : x ≠ "__name__" := by decide) (hdb : (x == ("__debug__" : Str)) = false := by decide)
    (he : starEach (e :: es) X.env = (false, eval e X.env) :: starEach es X.env := by rfl) (hpl : (backTo pos (starEach es X.env)).any (·.1) = false := by rfl) : JE T X W (.Call (.Name x p) (e :: es) [] pos) (iCB f ia) :=
  PE.mono (pe_callB hc hg hm hv ha hn hdb he hpl) fun σ H Q h => cb_go hf h
theorem je_callTy (hc : CallR X (.type Ty) r) (hf : CaS T X.K r f) (hg : Gl X x) (hm : X.mg x = none) (hv : bootBuiltins x = some (.type Ty)) (ha : JA T X W (e :: es) ia) (hn : x ≠ "__name__" := by decide) (hdb : (x == ("__debug__" : Str)) = false := by decide)
    (he : starEach (e :: es) X.env = (false, eval e X.env) :: starEach es X.env := by rfl) (hpl : (backTo pos (starEach es X.env)).any (·.1) = false := by rfl) : JE T X W (.Call (.Name x p) (e :: es) [] pos) (iCB f ia) :=
  PE.mono (pe_callTy hc hg hm hv ha hn hdb he hpl) fun σ H Q h => cb_go hf h
end
/-! ### methods of built-ins -/
abbrev OpM := D → List D → M D
inductive Kd where
  | s | l | d
def Kd.nm : Kd → String
  | .s => "str"
  | .l => "list"
  | .d => "dict"
def kindIs : Kd → D → Store → Bool
  | .s, .str _, _ => true
  | .l, .lst _, _ => true
  | .l, .scr _, _ => true
  | .d, .dct _ _, _ => true
  | k, .ref n, S => match k, S.get n with
    | .l, some (.lst _) => true
    | .d, some (.dct _) => true
    | .d, some (.dcT _) => true
    | _, _ => false
  | _, _, _ => false
def iBM (Ty : Kd) (f : OpM) (io : IE) (ia : IA) : IE := fun ρ => M.bind (io ρ) fun x => fun S => if kindIs Ty x S = true then M.bind (ia ρ) (fun xs => f x xs) S else .no
def MtS (T : Tab) (K : PySem.W.Frag) (r : V → List V → Hp → VK → Prop) (f : OpM) : Prop := ∀ F S ι G H x xs vx vs W σ (Q : VK), Em T K F S ι G H → DR T K G ι x vx → DRs T K G ι xs vs → Thn T K F W σ G ι (DR T K) (f x xs S) Q → r vx vs H Q
theorem kind_ty {T : Tab} {K : PySem.W.Frag} {F : Hp} {S : Store} {ι : List Addr} {G H : Hp} {Ty : Kd} {x : D} {v : V} (em : Em T K F S ι G H) (h : DR T K G ι x v) (k : kindIs Ty x S = true) : tyV K Ty.nm v H := by
  cases x with
  | str l =>
    simp only [DR] at h
    subst h
    cases Ty with
    | s => exact rfl
    | _ => cases k
  | lst l =>
    simp only [DR] at h
    obtain ⟨a, vs, rfl, q, _⟩ := h
    cases Ty with
    | l => exact .inl ⟨rfl, vs, SqL.of (em.sub _ _ q)⟩
    | _ => cases k
  | scr l =>
    simp only [DR] at h
    obtain ⟨a, vs, rfl, q, _⟩ := h
    cases Ty with
    | l => exact .inl ⟨rfl, vs, Same.seq em.sub q⟩
    | _ => cases k
  | dct ks l =>
    simp only [DR] at h
    obtain ⟨a, vs, rfl, _, q, _⟩ := h
    cases Ty with
    | d => exact .inr (.inr (.inl ⟨rfl, .inl ⟨_, em.sub _ _ q⟩⟩))
    | _ => cases k
  | ref n =>
    simp only [DR] at h
    obtain ⟨a, ha, rfl⟩ := h
    cases e : S.get n with
    | none =>
      cases Ty <;> simp [kindIs, e] at k
    | some o =>
      obtain ⟨a', u, h1, _, _, h4, h5⟩ := em.obj n o e
      rw [ha] at h1
      cases h1
      cases o with
      | lst xs =>
        obtain ⟨vs, rfl, _⟩ := h5
        cases Ty with
        | l => exact .inl ⟨rfl, vs, SqL.of h4⟩
        | _ => simp [kindIs, e] at k
      | dct xs =>
        obtain ⟨vs, rfl, _⟩ := h5
        cases Ty with
        | d => exact .inr (.inr (.inl ⟨rfl, .inl ⟨_, h4⟩⟩))
        | _ => simp [kindIs, e] at k
      | dcT xs =>
        obtain ⟨vs, rfl, _⟩ := h5
        cases Ty with
        | d => exact .inr (.inr (.inl ⟨rfl, .inr ⟨_, h4⟩⟩))
        | _ => simp [kindIs, e] at k
      | ins c fs => cases Ty <;> simp [kindIs, e] at k
  | _ => cases Ty <;> cases k
section
variable {T : Tab} {X : Cx} {W : WX} {o e : Expr} {es : List Expr} {io : IE} {ia : IA} {name : Str} {apos cpos : Pos} {Ty : Kd} {id : String} {r : V → List V → Hp → VK → Prop} {f : OpM}
/-- few plain arguments, no keywords -/
abbrev fewA (X : Cx) (cpos : Pos) (e : Expr) (es : List Expr) : Bool := (backTo cpos (starEach (e :: es) X.env)).all (fun q => !q.1) && (backToKw cpos (keywordEach [] X.env)).all (fun q => q.1.isSome) && decide ((e :: es).length + ([] : List Keyword).length + (if ([] : List Keyword).isEmpty then 0 else 1) < 30)
theorem je_bm (pa : PlainAttrs Ty.nm) (slot : Slot Ty.nm name id) (hty : typeOf (.builtin id) = pure (.type "method_descriptor")) (hm : MtR X id r) (hf : MtS T X.K r f) (ho : JE T X W o io) (ha : JA T X W (e :: es) ia)
    (h0 : attributeBase o name X.env (eval o X.env) = eval o X.env := by rfl)
    (few : fewA X cpos e es = true := by rfl) (ln : (apos.endLine == cpos.line) = true := by rfl) (st : starEach (e :: es) X.env = (false, eval e X.env) :: starEach es X.env := by rfl) (hplain : (backTo cpos (starEach es X.env)).any (·.1) = false := by rfl) :
    JE T X W (.Call (.Attribute o name apos) (e :: es) [] cpos) (iBM Ty f io ia) := by
  refine PE.mono (pe_bm pa slot hty hm ho ha h0 few ln st hplain) fun σ H Q ⟨ρ, F, S, ι, G, em, sr, h⟩ => ?_
  refine ⟨ρ, F, S, ι, G, em, sr, Thn.bind (rel2 := DR T X.K) h fun x S1 vx ι1 G1 H1 em1 x1 dx h1 => ?_⟩
  by_cases hk : kindIs Ty x S1 = true
  · rw [if_pos hk] at h1
    refine ⟨kind_ty em1 dx hk, ρ, F, S1, ι1, G1, em1, sr.mono x1, Thn.bind (rel2 := DRs T X.K) h1 fun y S2 vy ι2 G2 H2 em2 x2 dy h2 => ?_⟩
    exact hf F S2 ι2 G2 H2 x y vx vy W σ Q em2 (dx.mono x2.1 x2.2) dy h2
  · rw [if_neg hk] at h1
    exact h1.elim
def iBM0 (Ty : Kd) (f : OpM) (io : IE) : IE := fun ρ => M.bind (io ρ) fun x => fun S => if kindIs Ty x S = true then f x [] S else .no
theorem je_bm0 (pa : PlainAttrs Ty.nm) (slot : Slot Ty.nm name id) (hty : typeOf (.builtin id) = pure (.type "method_descriptor")) (hm : MtR X id r) (hf : MtS T X.K r f) (ho : JE T X W o io)
    (hbase : attributeBase o name X.env (eval o X.env) = eval o X.env := by rfl) (hline : (apos.endLine == cpos.line) = true := by rfl) : JE T X W (.Call (.Attribute o name apos) [] [] cpos) (iBM0 Ty f io) := by
  refine PE.mono (pe_bm0 pa slot hty hm ho hbase hline) fun σ H Q ⟨ρ, F, S, ι, G, em, sr, h⟩ => ?_
  refine ⟨ρ, F, S, ι, G, em, sr, Thn.bind (rel2 := DR T X.K) h fun x S1 vx ι1 G1 H1 em1 x1 dx h1 => ?_⟩
  by_cases hk : kindIs Ty x S1 = true
  · rw [if_pos hk] at h1
    exact ⟨kind_ty em1 dx hk, hf F S1 ι1 G1 H1 x [] vx [] W σ Q em1 dx DRs.nil h1⟩
  · rw [if_neg hk] at h1
    exact h1.elim
end
/-! ### slices -/
def cutD {α : Type} (xs : List α) (lo hi : Option Int) : List α := (xs.drop (HT.sIx xs.length 0 lo)).take (HT.sIx xs.length xs.length hi - HT.sIx xs.length 0 lo)
abbrev OpC := D → Option Int → Option Int → Store → Option D
abbrev IO := Rho → M (Option Int)
def iPart (ie : IE) : IO := fun ρ => M.bind (ie ρ) fun d => match d with
  | .int i => M.ret (some i)
  | _ => M.no
def iNoPart : IO := fun _ => M.ret none
def iSl (f : OpC) (ie : IE) (il ih : IO) : IE := fun ρ => M.bind (ie ρ) fun x => M.bind (il ρ) fun l => M.bind (ih ρ) fun u => fun S => lift (f x l u S) S
abbrev tO (T : Tab) (K : PySem.W.Frag) (W : WX) (io : IO) : TO := tG T K W (fun _ _ (a b : Option Int) => a = b) io
def SlS (T : Tab) (K : PySem.W.Frag) (r : V → Option Int → Option Int → Hp → VK → Prop) (f : OpC) : Prop := ∀ F S ι G H x l u d vx (Q : VK), Em T K F S ι G H → DR T K G ι x vx → f x l u S = some d →
  (∀ v G' H', Em T K F S ι G' H' → Ext G ι G' ι → DR T K G' ι d v → Q v H') → r vx l u H Q
theorem SlS.or {T : Tab} {K : PySem.W.Frag} {r r' : V → Option Int → Option Int → Hp → VK → Prop} {f g k : OpC} (h : SlS T K r f) (h' : SlS T K r' g) (hk : ∀ x l u S d, k x l u S = some d → f x l u S = some d ∨ g x l u S = some d) : SlS T K (fun x l u H Q => r x l u H Q ∨ r' x l u H Q) k :=
  fun F S ι G H x l u d vx Q em dx e q => (hk x l u S d e).elim (fun z => .inl (h F S ι G H x l u d vx Q em dx z q)) fun z => .inr (h' F S ι G H x l u d vx Q em dx z q)
section
variable {T : Tab} {X : Cx} {W : WX} {e : Expr} {lo hi : Option Expr} {ie : IE} {il ih : IO} {pos p2 : Pos} {r : V → Option Int → Option Int → Hp → VK → Prop} {f : OpC}
theorem jo_none : PO X none (tO T X.K W iNoPart) := ⟨fun pins s σ H Q I h => by
  obtain ⟨ρ, F, S, ι, G, em, sr, h⟩ := h
  exact po_none.run pins s σ H Q I (Thn.ok h em rfl)⟩
theorem jo_some (h : JE T X W e ie) : PO X (some e) (tO T X.K W (iPart ie)) := ⟨fun pins s σ H Q I k => by
  refine (po_some h).run pins s σ H Q I ?_
  obtain ⟨ρ, F, S, ι, G, em, sr, k⟩ := k
  refine ⟨ρ, F, S, ι, G, em, sr, Thn.bind (rel2 := DR T X.K) k fun x S1 vx ι1 G1 H1 em1 x1 dx h1 => ?_⟩
  cases x with
  | int i =>
    simp only [DR] at dx
    exact ⟨i, dx, Thn.ok h1 em1 rfl⟩
  | _ => exact h1.elim⟩
theorem je_slice (hr : SlR X r) (hf : SlS T X.K r f) (he : JE T X W e ie) (hl : PO X lo (tO T X.K W il)) (hu : PO X hi (tO T X.K W ih)) : JE T X W (.Subscript e (.Slice lo hi none p2) pos) (iSl f ie il ih) := by
  refine PE.mono (pe_slice hr he hl hu) fun σ H Q ⟨ρ, F, S, ι, G, em, sr, h⟩ => ?_
  refine ⟨ρ, F, S, ι, G, em, sr, Thn.bind (rel2 := DR T X.K) h fun x S1 vx ι1 G1 H1 em1 x1 dx h1 => ?_⟩
  refine ⟨ρ, F, S1, ι1, G1, em1, sr.mono x1, Thn.bind (rel2 := fun _ _ (a b : Option Int) => a = b) h1 fun l S2 vl ι2 G2 H2 em2 x2 dl h2 => ?_⟩
  subst dl
  refine ⟨ρ, F, S2, ι2, G2, em2, (sr.mono x1).mono x2, Thn.bind (rel2 := fun _ _ (a b : Option Int) => a = b) h2 fun u S3 vu ι3 G3 H3 em3 x3 du h3 => ?_⟩
  subst du
  obtain ⟨d, e, h4⟩ := Thn.lift h3
  exact hf F S3 ι3 G3 H3 x l u d vx Q em3 ((dx.mono x2.1 x2.2).mono x3.1 x3.2) e fun v G' H' em' x' r' => h4 v ι3 G' H' em' x' r'
end
end J

set_option Elab.async false
set_option linter.all false
set_option maxRecDepth 100000
set_option maxHeartbeats 410000
/-! J3: statements, loops, comprehensions, defs -/
namespace J
open PySem PySem.Spec L2
def ThnS (T : Tab) (K : PySem.W.Frag) (F : Hp) (W : WX) (G : Hp) (ι : List Addr) (m : R Fl) (E : Ends) : Prop := Runs m (fun fl S' => match fl with
    | .nx ρ => ∀ σ' ι' G' H', Em T K F S' ι' G' H' → Ext G ι G' ι' → SR T K G' ι' ρ σ' → E.nx σ' H'
    | .rt d => ∀ v ι' G' H', Em T K F S' ι' G' H' → Ext G ι G' ι' → DR T K G' ι' d v → E.rt v H'
    | .bk ρ => ∀ σ' ι' G' H', Em T K F S' ι' G' H' → Ext G ι G' ι' → SR T K G' ι' ρ σ' → E.bk σ' H'
    | .ct ρ => ∀ σ' ι' G' H', Em T K F S' ι' G' H' → Ext G ι G' ι' → SR T K G' ι' ρ σ' → E.ct σ' H'
    | .xx c fs ρ => ∀ dd σ' ι' G' H', Em T K F S' ι' G' H' → Ext G ι G' ι' → SR T K G' ι' ρ σ' → XR T K G' ι' fs dd → W (.ref (He.ga K (T.cn c))) dd σ' H') (fun _ _ _ => False)
def tS (T : Tab) (K : PySem.W.Frag) (W : WX) (is : IS) : TS := fun E σ H => ∃ ρ F S ι G, Em T K F S ι G H ∧ SR T K G ι ρ σ ∧ ThnS T K F W G ι (is ρ S) E
abbrev JS (T : Tab) (X : Cx) (W : WX) (st : Stmt) (is : IS) : Prop := PS X st (tS T X.K W is)
abbrev JSs (T : Tab) (X : Cx) (W : WX) (st : List Stmt) (is : IS) : Prop := PSs X st (tS T X.K W is)
theorem PS.mono {X : Cx} {e : Stmt} {t t' : TS} (h : PS X e t) (k : ∀ D σ H, t' D σ H → t D σ H) : PS X e t' := ⟨fun pins s σ H D I q => h.run pins s σ H D I (k D σ H q)⟩
theorem PSs.mono {X : Cx} {e : List Stmt} {t t' : TS} (h : PSs X e t) (k : ∀ D σ H, t' D σ H → t D σ H) : PSs X e t' := ⟨fun pins s σ H D I q => h.run pins s σ H D I (k D σ H q)⟩
/-- an expression within a statement -/
def sBind {α : Type} (m : M α) (ρ : Rho) (k : α → M Fl) : M Fl := fun S => match m S with
  | .ok a S' => k a S'
  | .ex c fs S' => .ok (.xx c fs ρ) S'
  | .no => .no
section
variable {T : Tab} {K : PySem.W.Frag} {F : Hp} {W : WX} {σ : L2.St} {G G1 : Hp} {ι ι1 : List Addr}
theorem ThnS.ext {m : R Fl} {E : Ends} (h : ThnS T K F W G ι m E) (x : Ext G ι G1 ι1) : ThnS T K F W G1 ι1 m E := by
  refine Runs.imp h (fun fl S' q => ?_) fun _ _ _ q => q
  cases fl with
  | xx c fs ρ => exact fun dd σ' ι' G' H' em y r => q dd σ' ι' G' H' em (x.trans y) r
  | _ => exact fun v ι' G' H' em y r => q v ι' G' H' em (x.trans y) r
theorem ThnS.bind {α β : Type} {rel : Hp → List Addr → α → β → Prop} {m : M α} {k : α → M Fl} {ρ : Rho} {S : Store} {E : Ends} {Q : β → Hp → Prop} (h : ThnS T K F W G ι (sBind m ρ k S) E) (sr : SR T K G ι ρ σ)
    (go : ∀ a S1 v ι1 G1 H1, Em T K F S1 ι1 G1 H1 → Ext G ι G1 ι1 → rel G1 ι1 a v → ThnS T K F W G1 ι1 (k a S1) E → Q v H1) : Thn T K F W σ G ι rel (m S) Q := by
  unfold sBind at h
  cases e : m S with
  | ok a S1 =>
    rw [e] at h
    exact fun v ι' G' H' em y r => go a S1 v ι' G' H' em y r (ThnS.ext h y)
  | ex c fs S1 =>
    rw [e] at h
    exact fun dd ι' G' H' em y r => h dd σ ι' G' H' em y (sr.mono y) r
  | no =>
    rw [e] at h
    exact h.elim
theorem ThnS.nx {ρ : Rho} {S : Store} {E : Ends} (h : ThnS T K F W G ι (.ok (.nx ρ) S) E) {H : Hp} (em : Em T K F S ι G H) (r : SR T K G ι ρ σ) : E.nx σ H := h σ ι G H em (Ext.refl _ _) r
/-- an end that wants more -/
theorem ThnS.imp {m : R Fl} {E E' : Ends} (h : ThnS T K F W G ι m E) (h1 : ∀ σ H, E.nx σ H → E'.nx σ H) (h2 : ∀ v H, E.rt v H → E'.rt v H) (h3 : ∀ σ H, E.bk σ H → E'.bk σ H) (h4 : ∀ σ H, E.ct σ H → E'.ct σ H) : ThnS T K F W G ι m E' := by
  refine Runs.imp h (fun fl S' q => ?_) fun _ _ _ q => q
  cases fl with
  | nx ρ => exact fun v ι' G' H' em y r => h1 _ _ (q v ι' G' H' em y r)
  | rt ρ => exact fun v ι' G' H' em y r => h2 _ _ (q v ι' G' H' em y r)
  | bk ρ => exact fun v ι' G' H' em y r => h3 _ _ (q v ι' G' H' em y r)
  | ct ρ => exact fun v ι' G' H' em y r => h4 _ _ (q v ι' G' H' em y r)
  | xx c fs ρ => exact q
end
def sSeq (a b : IS) : IS := fun ρ S => match a ρ S with
  | .ok (.nx ρ') S' => b ρ' S'
  | r => r
def sNext : IS := fun ρ => M.ret (.nx ρ)
def sExpr (ie : IE) : IS := fun ρ => sBind (ie ρ) ρ fun _ => M.ret (.nx ρ)
def sAsg (i : Nat) (ie : IE) : IS := fun ρ => sBind (ie ρ) ρ fun d => M.ret (.nx (ρ.set i (some d)))
def sRet (ie : IE) : IS := fun ρ => sBind (ie ρ) ρ fun d => M.ret (.rt d)
def sRetN : IS := fun _ => M.ret (.rt .non)
def sIf (t : IT) (a b : IS) : IS := fun ρ => sBind (t ρ) ρ fun c => if c = true then a ρ else b ρ
section
variable {T : Tab} {X : Cx} {W : WX} {st : Stmt} {rest : List Stmt} {is ir : IS} {e c : Expr} {ie : IE} {t : IT} {pos : Pos}
theorem jss_nil : JSs T X W [] sNext := PSs.mono pss_nil fun D σ H ⟨ρ, F, S, ι, G, em, sr, h⟩ => h.nx em sr
theorem jss_cons (h1 : JS T X W st is) (h2 : JSs T X W rest ir) : JSs T X W (st :: rest) (sSeq is ir) := by
  refine PSs.mono (pss_cons h1 h2) fun D σ H ⟨ρ, F, S, ι, G, em, sr, h⟩ => ?_
  refine ⟨ρ, F, S, ι, G, em, sr, ?_⟩
  unfold sSeq at h
  cases q : is ρ S with
  | ok fl S1 =>
    rw [q] at h
    cases fl with
    | nx ρ' => exact fun σ' ι' G' H' em' y r => ⟨ρ', F, S1, ι', G', em', r, ThnS.ext h y⟩
    | _ => exact h
  | ex _ _ _ => rw [q] at h; exact h.elim
  | no => rw [q] at h; exact h.elim
theorem jss_one (h1 : JS T X W st is) : JSs T X W [st] is := pss_one h1
/-- a ghost step ahead of statements -/
theorem jss_ghost {g : IS} (hg : ∀ F S ι G H ρ σ E, Em T X.K F S ι G H → SR T X.K G ι ρ σ → ThnS T X.K F W G ι (sSeq g ir ρ S) E → ∃ ρ' S' G', Em T X.K F S' ι G' H ∧ SR T X.K G' ι ρ' σ ∧ ThnS T X.K F W G' ι (ir ρ' S') E)
    (h2 : JSs T X W rest ir) : JSs T X W rest (sSeq g ir) :=
  PSs.mono h2 fun D σ H ⟨ρ, F, S, ι, G, em, sr, h⟩ => let ⟨ρ', S', G', em', sr', h'⟩ := hg F S ι G H ρ σ D em sr h; ⟨ρ', F, S', ι, G', em', sr', h'⟩
theorem js_pass : JS T X W (.Pass pos) sNext := PS.mono ps_pass fun D σ H ⟨ρ, F, S, ι, G, em, sr, h⟩ => h.nx em sr
theorem js_expr (he : JE T X W e ie) (hs : swapsWith e none pos.line X.env = pure false := by rfl) : JS T X W (.Expr e pos) (sExpr ie) :=
  PS.mono (ps_expr he hs) fun D σ H ⟨ρ, F, S, ι, G, em, sr, h⟩ => ⟨ρ, F, S, ι, G, em, sr, ThnS.bind (rel := DR T X.K) h sr fun a S1 v ι1 G1 H1 em1 x1 r h1 => h1.nx em1 (sr.mono x1)⟩
theorem js_ret (he : JE T X W e ie) : JS T X W (.Return (some e) pos) (sRet ie) :=
  PS.mono (ps_ret he) fun D σ H ⟨ρ, F, S, ι, G, em, sr, h⟩ => ⟨ρ, F, S, ι, G, em, sr, ThnS.bind (rel := DR T X.K) h sr fun a S1 v ι1 G1 H1 em1 x1 r h1 => h1 v ι1 G1 H1 em1 (Ext.refl _ _) r⟩
theorem js_retN : JS T X W (.Return none pos) sRetN :=
  PS.mono ps_retN fun D σ H ⟨ρ, F, S, ι, G, em, sr, h⟩ => h .non ι G H em (Ext.refl _ _) (by simp only [DR])
theorem js_set {i : Nat} {x : Str} {pos' : Pos} (hN : X.N.Nodup) (hi : X.N[i]? = some x) (hx : Loc X.env.scope x) (he : JE T X W e ie) (hs : swapsWith e (some (.Name x pos')) pos.line X.env = pure false := by rfl)
    (hf : X.fn x = true ∨ X.env.scope.names.lookup x = some .local := by first | exact .inl rfl | exact .inr rfl | assumption) : JS T X W (.Assign [.Name x pos'] e pos) (sAsg i ie) :=
  PS.mono (ps_set hN hi hx he hs hf) fun D σ H ⟨ρ, F, S, ι, G, em, sr, h⟩ => ⟨ρ, F, S, ι, G, em, sr, ThnS.bind (rel := DR T X.K) h sr fun a S1 v ι1 G1 H1 em1 x1 r h1 => h1.nx em1 ((sr.mono x1).set r i)⟩
theorem js_if {a b : List Stmt} {ia ib : IS} (hc : JT T X W c t) (ha : JSs T X W a ia) (hb : JSs T X W b ib) : JS T X W (.If c a b pos) (sIf t ia ib) := by
  refine PS.mono (ps_if hc ha hb) fun D σ H ⟨ρ, F, S, ι, G, em, sr, h⟩ => ⟨ρ, F, S, ι, G, em, sr, ThnS.bind (rel := fun _ _ (a b : Bool) => a = b) h sr fun q S1 v ι1 G1 H1 em1 x1 r h1 => ?_⟩
  subst r
  cases q with
  | true => exact iteT ⟨ρ, F, S1, ι1, G1, em1, sr.mono x1, h1⟩
  | false => exact iteF ⟨ρ, F, S1, ι1, G1, em1, sr.mono x1, h1⟩
end
/-! ### targets that are names -/
inductive NG where
  | n (i : Nat) | t (is : List Nat)
def gNames : List Nat → TGs
  | [] => gNil
  | i :: is => gCons (gName i) (gNames is)
def ngV (K : PySem.W.Frag) : NG → TG
  | .n i => gName i
  | .t is => gTup K is.length (gNames is)
def nsD : List Nat → List D → Rho → Option Rho
  | [], [], ρ => some ρ
  | i :: is, d :: ds, ρ => nsD is ds (ρ.set i (some d))
  | _, _, _ => none
def ngD : NG → D → Rho → Option Rho
  | .n i, d, ρ => some (ρ.set i (some d))
  | .t is, .tup ds, ρ => nsD is ds ρ
  | .t _, _, _ => none
def NG.slots : NG → List Nat
  | .n i => [i]
  | .t is => is
theorem wipe_set {σ : L2.St} {i : Nat} {x : Option V} : ∀ {vs : List Nat}, i ∈ vs → wipe (σ.set i x) vs = wipe σ vs
  | v :: vs, h => by
    unfold wipe
    by_cases hi : i ∈ vs
    · rw [wipe_set hi]
    · have e : v = i := by
        rcases List.mem_cons.mp h with h | h
        · exact h.symm
        · exact absurd h hi
      subst e
      have key : ∀ (ws : List Nat) (τ : L2.St), v ∉ ws → wipe (τ.set v x) ws = (wipe τ ws).set v x := by
        intro ws
        induction ws with
        | nil => intro τ _; rfl
        | cons w ws ih =>
          intro τ hv
          unfold wipe
          rw [ih τ fun z => hv (List.mem_cons_of_mem _ z)]
          exact List.set_comm _ _ fun z => hv (z ▸ List.mem_cons_self)
      rw [key vs σ hi, List.set_set]
theorem ns_ok {T : Tab} {K : PySem.W.Frag} {G H : Hp} {ι : List Addr} {Q : L2.St → Hp → Prop} : ∀ {is : List Nat} {ds : List D} {vs : List V} {ρ ρ' : Rho} {σ : L2.St}, SR T K G ι ρ σ → DRs T K G ι ds vs → nsD is ds ρ = some ρ' →
    (∀ σ', SR T K G ι ρ' σ' → (∀ ws, (∀ i ∈ is, i ∈ ws) → wipe σ' ws = wipe σ ws) → Q σ' H) → gNames is vs σ H Q
  | [], [], vs, ρ, ρ', σ, sr, dr, e, k => by
    simp only [DRs] at dr
    cases e
    exact ⟨dr, k σ sr fun _ _ => rfl⟩
  | i :: is, d :: ds, vs, ρ, ρ', σ, sr, dr, e, k => by
    simp only [DRs] at dr
    obtain ⟨v, r, rfl, h1, h2⟩ := dr
    refine ⟨v, r, rfl, ns_ok (is := is) (ds := ds) (sr.set h1 i) h2 e fun σ' sr' hw => k σ' sr' fun ws hs => ?_⟩
    rw [hw ws fun j hj => hs j (List.mem_cons_of_mem _ hj)]
    exact wipe_set (hs i List.mem_cons_self)
  | [], _ :: _, _, _, _, _, _, _, e, _ => by cases e
  | _ :: _, [], _, _, _, _, _, _, e, _ => by cases e
theorem nsD_len : ∀ {is : List Nat} {ds : List D} {ρ ρ' : Rho}, nsD is ds ρ = some ρ' → is.length = ds.length
  | [], [], _, _, _ => rfl
  | i :: is, d :: ds, ρ, ρ', e => by simp [nsD_len (is := is) (ds := ds) e]
  | [], _ :: _, _, _, e => by cases e
  | _ :: _, [], _, _, e => by cases e
theorem ng_ok {T : Tab} {K : PySem.W.Frag} {F : Hp} {S : Store} {G H : Hp} {ι : List Addr} {Q : L2.St → Hp → Prop} {g : NG} {d : D} {v : V} {ρ ρ' : Rho} {σ : L2.St} (em : Em T K F S ι G H) (sr : SR T K G ι ρ σ) (dr : DR T K G ι d v) (e : ngD g d ρ = some ρ')
    (k : ∀ σ', SR T K G ι ρ' σ' → (∀ ws, (∀ i ∈ g.slots, i ∈ ws) → wipe σ' ws = wipe σ ws) → Q σ' H) : ngV K g v σ H Q := by
  cases g with
  | n i =>
    cases e
    exact k _ (sr.set dr i) fun ws hs => wipe_set (hs i (by simp [NG.slots]))
  | t is =>
    cases d with
    | tup ds =>
      simp only [DR] at dr
      obtain ⟨a, vs, rfl, h1, h2⟩ := dr
      exact ⟨a, vs, rfl, SqT.of (em.sub _ _ h1), by rw [← h2.length]; exact (nsD_len (show nsD is ds ρ = some ρ' from e)).symm, ns_ok sr h2 e k⟩
    | _ => cases e
theorem jg_name {X : Cx} {i : Nat} {x : Str} {pos : Pos} (hN : X.N.Nodup) (hi : X.N[i]? = some x) (hx : Loc X.env.scope x) (hf : X.fn x = true ∨ X.env.scope.names.lookup x = some .local := by first | exact .inl rfl | exact .inr rfl | assumption) : PG X (.Name x pos) (ngV X.K (.n i)) := pg_name hN hi hx hf
theorem jgs_nil {X : Cx} : PGs X [] (gNames []) := pgs_nil
theorem jgs_cons {X : Cx} {i : Nat} {is : List Nat} {x : Str} {pos : Pos} {es : List Expr} (hN : X.N.Nodup) (hi : X.N[i]? = some x) (hx : Loc X.env.scope x) (h2 : PGs X es (gNames is))
    (hf : X.fn x = true ∨ X.env.scope.names.lookup x = some .local := by first | exact .inl rfl | exact .inr rfl | assumption) (hs : (assignEach (.Name x pos :: es) X.env).map (·.2) = assign (.Name x pos) X.env :: (assignEach es X.env).map (·.2) := by rfl) : PGs X (.Name x pos :: es) (gNames (i :: is)) := pgs_cons (pg_name hN hi hx hf) h2 hs
theorem jg_tup {X : Cx} {es : List Expr} {k : Nat} {is : List Nat} {pos : Pos} (hc : X.calm = true) (h : PGs X es (gNames is)) (hn : (assignEach es X.env).length = is.length := by rfl) (hst : (assignEach es X.env).findIdx? (·.1) = none := by rfl) : PG X (.Tuple es k pos) (ngV X.K (.t is)) := pg_tup hc h hn hst

/-! ### what is walked -/
def Walk (T : Tab) (K : PySem.W.Frag) (ι : List Addr) (G : Hp) (J : It) (xs : List D) : Prop := ∀ (i : Nat) F S ι1 G1 H1, Em T K F S ι1 G1 H1 → Ext G ι G1 ι1 →
  (∀ x, xs[i]? = some x → J.go i H1 ∧ ∀ v H2, J.yld i H1 v H2 → ∃ G2, Em T K F S ι1 G2 H2 ∧ Ext G1 ι1 G2 ι1 ∧ DR T K G2 ι1 x v) ∧ (i = xs.length → J.stop i H1)
def tI (T : Tab) (K : PySem.W.Frag) (W : WX) (src : IA) : TI := fun σ H R => ∃ ρ F S ι G, Em T K F S ι G H ∧ SR T K G ι ρ σ ∧
  Runs (src ρ S) (fun xs S' => ∀ J ι' G' H', Em T K F S' ι' G' H' → Ext G ι G' ι' → Walk T K ι' G' J xs → R J H')
    (fun c fs S' => ∀ dd ι' G' H', Em T K F S' ι' G' H' → Ext G ι G' ι' → XR T K G' ι' fs dd → W (.ref (He.ga K (T.cn c))) dd σ H')
abbrev JI (T : Tab) (X : Cx) (W : WX) (tg iter : Expr) (src : IA) : Prop := PI X tg iter (tI T X.K W src)
theorem PI.mono {X : Cx} {tg e : Expr} {t t' : TI} (h : PI X tg e t) (k : ∀ σ H R, t' σ H R → t σ H R) : PI X tg e t' := ⟨fun pins s σ H R I q => h.run pins s σ H R I (k σ H R q)⟩
/-! ### for -/
def forL (g : NG) (body : IS) : List D → IS
  | [] => fun ρ => M.ret (.nx ρ)
  | x :: xs => fun ρ S => match ngD g x ρ with
    | some ρ1 => (match body ρ1 S with
      | .ok (.nx ρ2) S2 => forL g body xs ρ2 S2
      | .ok (.ct ρ2) S2 => forL g body xs ρ2 S2
      | .ok (.bk ρ2) S2 => .ok (.nx ρ2) S2
      | r => r)
    | none => .no
def sFor (src : IA) (g : NG) (body : IS) : IS := fun ρ => sBind (src ρ) ρ fun xs => forL g body xs ρ
section
variable {T : Tab} {X : Cx} {W : WX}
theorem js_for {tg iter : Expr} {body : List Stmt} {src : IA} {g : NG} {ib : IS} {pos : Pos} (hp : PassesOwn (model X.prog X.w) X.A X.env X.xe) (hc : X.calm = true) (hi : JI T X W tg iter src) (hg : PG X tg (ngV X.K g)) (hb : JSs T X W body ib)
    (hs : ∀ x, foldedSetIterable iter X.env x = pure x := by intro _; rfl) : JS T X W (.For tg iter body [] pos) (sFor src g ib) := by
  refine PS.mono (ps_for hp hc hi hg hb hs) fun D σ H ⟨ρ, F, S, ι, G, em, sr, h⟩ => ?_
  refine ⟨ρ, F, S, ι, G, em, sr, ?_⟩
  unfold sFor sBind at h
  cases q : src ρ S with
  | no => rw [q] at h; exact h.elim
  | ex c fs S1 =>
    rw [q] at h
    exact fun dd ι' G' H' em y r => h dd σ ι' G' H' em y (sr.mono y) r
  | ok xs S1 =>
    rw [q] at h
    intro J ι1 G1 H1 em1 x1 wk
    refine ⟨fun i m σ H => i + m = xs.length ∧ ∃ ρ S ι' G', Em T X.K F S ι' G' H ∧ Ext G1 ι1 G' ι' ∧ SR T X.K G' ι' ρ σ ∧ ThnS T X.K F W G' ι' (forL g ib (xs.drop i) ρ S) D,
      ⟨xs.length, by simp, ρ, S1, ι1, G1, em1, Ext.refl _ _, sr.mono x1, ThnS.ext h x1⟩, ?_⟩
    rintro i m σ H ⟨him, ρ, S, ι', G', em', x', sr', h'⟩
    obtain ⟨wg, ws⟩ := wk i F S ι' G' H em' x'
    by_cases hl : i = xs.length
    · left
      refine ⟨ws hl, ?_⟩
      rw [hl, List.drop_length] at h'
      exact h'.nx em' sr'
    · right
      have hlt : i < List.length xs := by omega
      obtain ⟨wgo, wy⟩ := wg xs[i] (List.getElem?_eq_getElem hlt)
      refine ⟨wgo, fun σ' H' => ∃ ρ S ι' G', Em T X.K F S ι' G' H' ∧ Ext G1 ι1 G' ι' ∧ SR T X.K G' ι' ρ σ' ∧ ThnS T X.K F W G' ι' (forL g ib (xs.drop (i + 1)) ρ S) D, fun σ' H' hN => ⟨m - 1, by omega, by omega, hN⟩, fun v H2 hy => ?_⟩
      obtain ⟨G2, em2, x2, dr⟩ := wy v H2 hy
      rw [List.drop_eq_getElem_cons hlt] at h'
      unfold forL at h'
      cases qg : ngD g xs[i] ρ with
      | none => rw [qg] at h'; exact h'.elim
      | some ρ1 =>
        rw [qg] at h'
        refine ng_ok em2 (sr'.mono x2) dr qg fun σ2 sr2 _ => ⟨ρ1, F, S, ι', G2, em2, sr2, ?_⟩
        have h2 := ThnS.ext h' x2
        dsimp only at h2
        cases qb : ib ρ1 S with
        | no => rw [qb] at h2; exact h2.elim
        | ex _ _ _ => rw [qb] at h2; exact h2.elim
        | ok fl S2 =>
          rw [qb] at h2
          cases fl with
          | nx ρ2 => exact fun σ3 ι3 G3 H3 em3 x3 sr3 => ⟨ρ2, S2, ι3, G3, em3, (x'.trans x2).trans x3, sr3, ThnS.ext h2 x3⟩
          | ct ρ2 => exact fun σ3 ι3 G3 H3 em3 x3 sr3 => ⟨ρ2, S2, ι3, G3, em3, (x'.trans x2).trans x3, sr3, ThnS.ext h2 x3⟩
          | bk ρ2 => exact fun σ3 ι3 G3 H3 em3 x3 sr3 => h2 σ3 ι3 G3 H3 em3 x3 sr3
          | rt d => exact h2
          | xx c fs ρ2 => exact h2
end
/-! ### list comprehensions -/
/-- nothing is raised here -/
def nox {α : Type} (m : M α) : M α := fun S => match m S with
  | .ex _ _ _ => .no
  | r => r
abbrev W0 : WX := fun _ _ _ _ => False
def wipeR (ρ : Rho) : List Nat → Rho
  | [] => ρ
  | v :: vs => (wipeR ρ vs).set v none
theorem SR.wipe {T : Tab} {K : PySem.W.Frag} {G : Hp} {ι : List Addr} {ρ : Rho} {σ : L2.St} (sr : SR T K G ι ρ σ) : ∀ vs : List Nat, SR T K G ι (wipeR ρ vs) (L2.wipe σ vs)
  | [] => sr
  | v :: vs => by
    have h := SR.wipe sr vs
    refine ⟨by simp [wipeR, L2.wipe, h.len], fun i d e => ?_⟩
    unfold wipeR at e
    unfold L2.wipe
    by_cases hi : v = i
    · subst hi
      rw [List.getElem?_set] at e
      split at e
      · split at e <;> cases e
      · rename_i hh; exact absurd rfl hh
    · rw [List.getElem?_set_ne hi] at e ⊢
      exact h.at_ i d e
def lcL (g : NG) (t : IT) (ie : IE) (ρ : Rho) : List D → M (List D)
  | [] => M.ret []
  | x :: xs => fun S => match ngD g x ρ with
    | some ρ1 => M.bind (nox (t ρ1)) (fun c => if c = true then M.bind (nox (ie ρ1)) fun d => M.bind (lcL g t ie ρ xs) fun r => M.ret (d :: r) else lcL g t ie ρ xs) S
    | none => .no
def iLc (src : IA) (g : NG) (t : IT) (ie : IE) (vs : List Nat) : IE := fun ρ => M.bind (src ρ) fun xs => if xs.length < 100000 then M.bind (lcL g t ie (wipeR ρ vs) xs) fun r => M.ret (.lst r) else M.no
theorem lcL_len {g : NG} {t : IT} {ie : IE} {ρ : Rho} : ∀ {xs : List D} {S S' : Store} {r : List D}, lcL g t ie ρ xs S = .ok r S' → r.length ≤ xs.length
  | [], S, S', r, e => by cases e; simp
  | x :: xs, S, S', r, e => by
    unfold lcL at e
    cases qg : ngD g x ρ with
    | none => rw [qg] at e; cases e
    | some ρ1 =>
      rw [qg] at e
      dsimp only at e
      unfold M.bind at e
      cases qt : nox (t ρ1) S with
      | no => rw [qt] at e; cases e
      | ex _ _ _ => rw [qt] at e; cases e
      | ok c S1 =>
        rw [qt] at e
        cases c with
        | false => exact Nat.le_succ_of_le (lcL_len (xs := xs) e)
        | true =>
          dsimp only at e
          rw [if_pos rfl] at e
          cases qe : nox (ie ρ1) S1 with
          | no => rw [qe] at e; cases e
          | ex _ _ _ => rw [qe] at e; cases e
          | ok d S2 =>
            rw [qe] at e
            dsimp only at e
            cases ql : lcL g t ie ρ xs S2 with
            | no => rw [ql] at e; cases e
            | ex _ _ _ => rw [ql] at e; cases e
            | ok r2 S3 =>
              rw [ql] at e
              cases e
              simp only [List.length_cons]
              exact Nat.succ_le_succ (lcL_len ql)
end J

set_option Elab.async false
set_option linter.all false
set_option maxRecDepth 100000
set_option maxHeartbeats 410000
/-! J4: list comprehensions, defs, calls -/
namespace J
open PySem PySem.Spec L2
open PyProof.Rows (envOfC)
theorem nox_ok {α : Type} {m : M α} {S S' : Store} {a : α} : nox m S = .ok a S' → m S = .ok a S' := by
  unfold nox
  cases m S <;> intro h <;> cases h <;> rfl
theorem Thn.nox {α β : Type} {T : Tab} {K : PySem.W.Frag} {F F' : Hp} {W : WX} {σ σ' : L2.St} {G : Hp} {ι : List Addr} {γ δ : Type} {rel : Hp → List Addr → α → β → Prop} {rel2 : Hp → List Addr → γ → δ → Prop} {m : M γ} {k : γ → M α} {S : Store} {Q : β → Hp → Prop} {Q2 : δ → Hp → Prop}
    (h : Thn T K F W σ G ι rel (M.bind (J.nox m) k S) Q)
    (go : ∀ a S1 v ι1 G1 H1, Em T K F' S1 ι1 G1 H1 → Ext G ι G1 ι1 → rel2 G1 ι1 a v → Thn T K F W σ G1 ι1 rel (k a S1) Q → Q2 v H1) : Thn T K F' W0 σ' G ι rel2 (m S) Q2 := by
  unfold M.bind J.nox at h
  cases e : m S with
  | ok a S1 =>
    rw [e] at h
    exact fun v ι' G' H' em y r => go a S1 v ι' G' H' em y r (Thn.ext h y)
  | ex c fs S1 =>
    rw [e] at h
    exact h.elim
  | no =>
    rw [e] at h
    exact h
section
variable {T : Tab} {X : Cx} {W : WX} {elt tg iter : Expr} {ifs : List Expr} {scope : Scope} {own : List (Str × Nat)} {pos spos : Pos} {src : IA} {g : NG} {t : IT} {ie : IE}
theorem M.bind_assoc {α β γ : Type} (m : M α) (k : α → M β) (l : β → M γ) : M.bind (M.bind m k) l = M.bind m fun a => M.bind (k a) l := by
  funext S
  unfold M.bind
  cases m S <;> rfl
theorem lcL_cons_some {x : D} {xs : List D} {ρ ρ1 : Rho} (q : ngD g x ρ = some ρ1) : lcL g t ie ρ (x :: xs) = M.bind (nox (t ρ1)) (fun c => if c = true then M.bind (nox (ie ρ1)) fun d => M.bind (lcL g t ie ρ xs) fun r => M.ret (d :: r) else lcL g t ie ρ xs) := by
  funext S
  conv => lhs; unfold lcL
  rw [q]
theorem lcL_cons_none {α : Type} {k : List D → M α} {x : D} {xs : List D} {ρ : Rho} {S : Store} (q : ngD g x ρ = none) : M.bind (lcL g t ie ρ (x :: xs)) k S = .no := by
  unfold M.bind lcL
  rw [q]
theorem wipe_get (σ : L2.St) (i : Nat) : ∀ vs : List Nat, (L2.wipe σ vs)[i]? = if i ∈ vs then (σ[i]?).map (fun _ => none) else σ[i]?
  | [] => by simp [L2.wipe]
  | v :: vs => by
    unfold L2.wipe
    rw [List.getElem?_set, L2.wipe_length, wipe_get σ i vs]
    by_cases hv : v = i
    · subst hv
      by_cases hl : v < σ.length
      · simp [hl]
      · simp [hl]
    · have h2 : ¬ i = v := fun z => hv z.symm
      simp [hv, h2]
theorem wipe_idem (σ : L2.St) (vs : List Nat) : L2.wipe (L2.wipe σ vs) vs = L2.wipe σ vs := by
  apply List.ext_getElem?
  intro i
  rw [wipe_get, wipe_get]
  by_cases h : i ∈ vs
  · simp only [h, if_true, Option.map_map]
    rfl
  · simp [h]
theorem lc_go {vs : List Nat} (hv : ∀ i ∈ g.slots, i ∈ vs) {σ : L2.St} {H : Hp} {Q : VK} (h : tE T X.K W (iLc src g t ie vs) σ H Q) : tLc (tI T X.K W src) (ngV X.K g) (tT T X.K W0 t) (tE T X.K W0 ie) vs σ H Q := by
  obtain ⟨ρ, F, S, ι, G, em, sr, h⟩ := h
  refine ⟨ρ, F, S, ι, G, em, sr, ?_⟩
  unfold iLc M.bind at h
  cases q : src ρ S with
  | no => rw [q] at h; exact h.elim
  | ex c fs S1 => rw [q] at h; exact h
  | ok xs S1 =>
    rw [q] at h
    dsimp only at h
    by_cases hlen : xs.length < 100000
    case neg => rw [if_neg hlen] at h; exact h.elim
    rw [if_pos hlen] at h
    intro J ι1 G1 H1 em1 x1 wk Dl hD
    have h1 : Thn T X.K F W σ G1 ι1 (DR T X.K) (M.bind (lcL g t ie (wipeR ρ vs) xs) (fun r => M.ret (.lst r)) S1) Q := Thn.ext h x1
    refine ⟨fun i m H => i + m = xs.length ∧ ∃ acc av S ι' G', Em T X.K (upd F Dl (.lst av)) S ι' G' H ∧ Ext G1 ι1 G' ι' ∧ DRs T X.K G' ι' acc av ∧ acc.length ≤ i ∧ Thn T X.K F W σ G' ι' (DR T X.K) (M.bind (lcL g t ie (wipeR ρ vs) (xs.drop i)) (fun r => M.ret (.lst (acc ++ r))) S) Q,
      ⟨xs.length, by simp, [], [], S1, ι1, G1, em1.aside hD, Ext.refl _ _, DRs.nil, Nat.le_refl _, h1⟩, ?_⟩
    rintro i m H ⟨him, acc, av, S, ι', G', em', x', da, hal, h'⟩
    obtain ⟨wg, ws⟩ := wk i _ S ι' G' H em' x'
    by_cases hl : i = xs.length
    · left
      refine ⟨ws hl, ?_⟩
      rw [hl, List.drop_length] at h'
      obtain ⟨em2, x2⟩ := em'.adopt (em1.fr.free hD)
      refine h' _ _ _ _ em2 x2 ?_
      simp only [DR]
      exact ⟨Dl, av, rfl, upd_same, by rw [List.append_nil]; exact da.mono x2.1 x2.2⟩
    · right
      have hlt : i < List.length xs := by omega
      obtain ⟨wgo, wy⟩ := wg xs[i] (List.getElem?_eq_getElem hlt)
      refine ⟨wgo, fun H => ∃ acc av S ι' G', Em T X.K (upd F Dl (.lst av)) S ι' G' H ∧ Ext G1 ι1 G' ι' ∧ DRs T X.K G' ι' acc av ∧ acc.length ≤ i + 1 ∧ Thn T X.K F W σ G' ι' (DR T X.K) (M.bind (lcL g t ie (wipeR ρ vs) (xs.drop (i + 1))) (fun r => M.ret (.lst (acc ++ r))) S) Q, fun H' hN => ⟨m - 1, by omega, by omega, hN⟩, fun v H2 hy => ?_⟩
      obtain ⟨G2, em2, x2, dr⟩ := wy v H2 hy
      rw [List.drop_eq_getElem_cons hlt] at h'
      have h2 := Thn.ext h' x2
      have sr2 : SR T X.K G2 ι' (wipeR ρ vs) (L2.wipe σ vs) := (((sr.mono x1).mono x').mono x2).wipe vs
      cases qg : ngD g xs[i] (wipeR ρ vs) with
      | none =>
        rw [lcL_cons_none qg] at h2
        exact h2.elim
      | some ρ1 =>
        have e : M.bind (lcL g t ie (wipeR ρ vs) (xs[i] :: xs.drop (i + 1))) (fun r => M.ret (D.lst (acc ++ r))) S =
            M.bind (nox (t ρ1)) (fun c => if c = true then M.bind (nox (ie ρ1)) (fun d => M.bind (lcL g t ie (wipeR ρ vs) (xs.drop (i + 1))) fun r => M.ret (D.lst ((acc ++ [d]) ++ r))) else M.bind (lcL g t ie (wipeR ρ vs) (xs.drop (i + 1))) fun r => M.ret (D.lst (acc ++ r))) S := by
          rw [lcL_cons_some qg, M.bind_assoc]
          congr 1
          funext c
          cases c with
          | false => rfl
          | true =>
            rw [if_pos rfl, if_pos rfl, M.bind_assoc]
            congr 1
            funext d
            rw [M.bind_assoc]
            congr 1
            funext r
            show M.ret (D.lst (acc ++ d :: r)) = M.ret (D.lst ((acc ++ [d]) ++ r))
            rw [List.append_assoc]
            rfl
        rw [e] at h2
        refine ng_ok em2 sr2 dr qg fun σ2 sr3 hw => ⟨(hw vs hv).trans (wipe_idem σ vs), ?_⟩
        refine ⟨ρ1, _, S, ι', G2, em2, sr3, Thn.nox (rel2 := fun _ _ (a b : Bool) => a = b) h2 fun c S3 cv ι3 G3 H3 em3 x3 dc h3 => ?_⟩
        subst dc
        cases c with
        | false =>
          refine iteF ⟨acc, av, S3, ι3, G3, em3, (x'.trans x2).trans x3, (da.mono x2.1 x2.2).mono x3.1 x3.2, Nat.le_succ_of_le hal, ?_⟩
          exact h3
        | true =>
          refine iteT ⟨ρ1, _, S3, ι3, G3, em3, sr3.mono x3, Thn.nox (rel2 := DR T X.K) h3 fun d S4 dv ι4 G4 H4 em4 x4 dd h4 => ?_⟩
          have dal : DRs T X.K G4 ι4 acc av := ((da.mono x2.1 x2.2).mono x3.1 x3.2).mono x4.1 x4.2
          refine ⟨av, em4.fr _ _ upd_same, ?_, acc ++ [d], av ++ [dv], S4, ι4, G4, em4.reaside, ((x'.trans x2).trans x3).trans x4, dal.append (DRs.cons dd DRs.nil), by simp; omega, h4⟩
          have hl2 := dal.length
          exact Nat.lt_of_lt_of_le (show av.length < 100000 by omega) (by decide)
theorem je_lc (hc : X.calm = true) (hN : X.N.Nodup) (hi : JI T X W tg iter src) (ok : BlkOk X.N X.env.scope scope own)
    (hg : ∀ (s : Shared) (H : Hp) (C : Addr) (cl : List (Str × Addr)) (fp : List Addr), PG (X.blk s H scope (compEnvC scope cl C X.env) fp) tg (ngV X.K g)) (ht : ∀ (s : Shared) (H : Hp) (C : Addr) (cl : List (Str × Addr)) (fp : List Addr), PTs (X.blk s H scope (compEnvC scope cl C X.env) fp) ifs (tT T X.K W0 t))
    (he : ∀ (s : Shared) (H : Hp) (C : Addr) (cl : List (Str × Addr)) (fp : List Addr), JE T (X.blk s H scope (compEnvC scope cl C X.env) fp) W0 elt ie) (hv : ∀ i ∈ g.slots, i ∈ own.map (·.2) := by decide) (hs : ∀ x, foldedSetIterable iter X.env x = pure x := by intro _; rfl) :
    JE T X W (.ListComp elt [⟨tg, iter, ifs, 0⟩] scope pos) (iLc src g t ie (own.map (·.2))) :=
  PE.mono (pe_lc hc hN hi ok hg ht he hs) fun σ H Q h => lc_go hv h
theorem js_setLc {i : Nat} {y : Str} {py : Pos} (hc : X.calm = true) (hN : X.N.Nodup) (hy : X.N[i]? = some y) (hyl : X.env.scope.names.lookup y = some .local)
    (hsw : swapsWith (.ListComp elt [⟨tg, iter, ifs, 0⟩] scope pos) (some (.Name y py)) spos.line X.env = pure true) (hi : JI T X W tg iter src) (ok : BlkOk X.N X.env.scope scope own)
    (hg : ∀ (s : Shared) (H : Hp) (C : Addr) (cl : List (Str × Addr)) (fp : List Addr), PG (X.blk s H scope (compEnvC scope cl C X.env) fp) tg (ngV X.K g)) (ht : ∀ (s : Shared) (H : Hp) (C : Addr) (cl : List (Str × Addr)) (fp : List Addr), PTs (X.blk s H scope (compEnvC scope cl C X.env) fp) ifs (tT T X.K W0 t))
    (he : ∀ (s : Shared) (H : Hp) (C : Addr) (cl : List (Str × Addr)) (fp : List Addr), JE T (X.blk s H scope (compEnvC scope cl C X.env) fp) W0 elt ie) (hv : ∀ i ∈ g.slots, i ∈ own.map (·.2) := by decide) (hs : ∀ x, foldedSetIterable iter X.env x = pure x := by intro _; rfl) :
    JS T X W (.Assign [.Name y py] (.ListComp elt [⟨tg, iter, ifs, 0⟩] scope pos) spos) (sAsg i (iLc src g t ie (own.map (·.2)))) :=
  PS.mono (ps_setLc hc hN hy hyl hsw hi ok hg ht he hs) fun D σ H ⟨ρ, F, S, ι, G, em, sr, h⟩ =>
    lc_go (T := T) (X := X) (W := W) hv ⟨ρ, F, S, ι, G, em, sr, ThnS.bind (rel := DR T X.K) h sr fun a S1 v ι1 G1 H1 em1 x1 r h1 => h1.nx em1 ((sr.mono x1).set r i)⟩
def iYes : IT := fun _ => M.ret true
theorem jts_nil : PTs X [] (tT T X.K W iYes) := ⟨fun pins s σ H Q I ⟨ρ, F, S, ι, G, em, sr, h⟩ => pts_nil.run pins s σ H Q I (Thn.ok h em rfl)⟩
theorem jts_one {c : Expr} (h : JT T X W c t) : PTs X [c] (tT T X.K W t) := pts_one h
end
/-! ### defs -/
def startR (n : Nat) (ds : List D) : Rho := ds.map some ++ List.replicate (n - ds.length) none
/-- a def: n slots; keep: what it made stays -/
def defJ (n : Nat) (keep : Bool) (body : IS) : List D → M D := fun ds S => match body (startR n ds) S with
  | .ok (.nx _) S' => .ok .non (if keep = true then S' else S'.trim S.next)
  | .ok (.rt d) S' => .ok d (if keep = true then S' else S'.trim S.next)
  | .ok (.xx c fs _) S' => .ex c fs (if keep = true then S' else S'.trim S.next)
  | _ => .no
def spJ (T : Tab) (K : PySem.W.Frag) (n : Nat) (f : List D → M D) : Sp := fun vs H Q E => vs.length = n ∧ ∃ ds F S ι G, Em T K F S ι G H ∧ DRs T K G ι ds vs ∧ Thn T K F (fun c d _ H => E c d H) [] G ι (DR T K) (f ds S) Q
theorem SR.start {T : Tab} {K : PySem.W.Frag} {G : Hp} {ι : List Addr} {ds : List D} {vs : List V} {N : List Str} (h : DRs T K G ι ds vs) : SR T K G ι (startR N.length ds) (L2.start N vs) := by
  have hl := h.length
  refine ⟨by simp [startR, L2.start, hl], fun i d e => ?_⟩
  unfold startR at e
  unfold L2.start
  by_cases hi : i < ds.length
  · rw [List.getElem?_append_left (by simpa using hi)] at e
    rw [List.getElem?_append_left (by simpa [← hl] using hi)]
    rw [List.getElem?_map] at e ⊢
    cases q : ds[i]? with
    | none => (rw [q] at e); exact nomatch e
    | some d' =>
      rw [q] at e
      cases e
      obtain ⟨v, e1, r⟩ := h.get q
      exact ⟨v, by rw [e1]; rfl, r⟩
  · rw [List.getElem?_append_right (by simpa using hi)] at e
    rw [List.getElem?_replicate] at e
    split at e <;> cases e
section
variable {P : Program} {w : World} {T : Tab} {K : PySem.W.Frag} {mg : Str → Option Value} {base : Heap} {x qual : Str} {params : Arguments} {body : List Stmt} {scope : Scope} {dvs : List V} {kws : List (Str × V)} {f : Addr} {fd : FuncData}
theorem fin_em {F : Hp} {S' : Store} {ι' : List Addr} {G' H' : Hp} {keep : Bool} {N : Nat} (em : Em T K F S' ι' G' H') : Em T K F (if keep = true then S' else S'.trim N) ι' G' H' := by
  cases keep with
  | true => exact em
  | false => exact em.trim N
/-- the promise of a def, called where no repr is going on -/
structure FnG (P : Program) (w : World) (K : PySem.W.Frag) (mg : Str → Option Value) (base : Heap) (k : Nat) (f : Addr) (fd : FuncData) (ps : List Str) (sp : Sp) : Prop where
  len : ∀ (vs : List V) H Q E, sp vs H Q E → vs.length = ps.length
  run : ∀ (A : Around) (fr : List Env) (s : Shared) (H : Hp) (ar : Args) (us : List Value) (vs : List V) (Q : VK) (E : XK), Room k A → A.guards = some [] →
    Env0 P w K mg base A fr s H → BindsTo s fd ar (ps.zip us) → Vals vs us → sp vs H Q E → codeAny (model P w) A (.call (.ref f) ar) (CR (L2.CX P w) fr P w H s Q E) s
theorem FnG.mono {k j : Nat} {ps : List Str} {sp : Sp} (F : FnG P w K mg base j f fd ps sp) (h : j ≤ k) : FnG P w K mg base k f fd ps sp :=
  ⟨F.len, fun A fr s H ar us vs Q E r => F.run A fr s H ar us vs Q E (r.mono h)⟩
theorem fng_of {N ps : List Str} {k : Nat} {sp : Sp} (F : FunD K x qual params body scope dvs kws f fd) (S : FnScope N ps scope) (len : ∀ vs H Q E, sp vs H Q E → vs.length = ps.length)
    (hb : ∀ (cdv : Value) (A : Around) (fr : List Env) (s : Shared) (H : Hp) (vs : List V) (Q : VK) (E : XK), Room k (A.deeper (envOfC qual scope s.heap.objs.size f cdv)) → A.guards = some [] → sp vs H Q E →
      ∃ t, PSs (cxOf (L2.CX P w) P w K mg base N qual scope f cdv A fr s H E) body t ∧ t { nx := fun _ H' => Q .non H', rt := Q } (L2.start N vs) H) : FnG P w K mg base (k + 1) f fd ps sp := by
  rcases F.ex with ⟨oc, od, dV, kV, doc, pm, an, cdv, ct, osl, rfl, lk, hcd, _, _⟩
  constructor
  · exact len
  intro A fr s H ar us vs Q E room gd en bd rel want
  have old : ∀ b o, base.get? b = some o → s.heap.get? b = some o := fun b o q => (en.bs b o q).1
  have KI := en.mod.kin.keeps old
  have NL := en.mod.nolimit.keeps old
  have kinds : ∀ y ∈ ps.zip us, scope.names.lookup y.1 = some .local ∨
      (scope.names.lookup y.1 = some .cell ∧ ((cellsFrom (s.heap.objs.size + 1) scope.names []).lookup y.1).isSome = true) := by
    rintro ⟨n, v⟩ hm
    rcases S.par n (List.of_mem_zip hm).1 with q | q
    · left; exact q
    · right; exact ⟨q, PySem.W.cellsFrom_some _ _ _ (.inl q)⟩
  refine codeAny_call_function room.depth (KI _ _ lk) rfl S.co S.gen rfl (PySem.W.codeRec_of KI hcd) (bd _ _ _ _ ?_)
  refine wpAny_newFunctionEnv_cells S.kind kinds ?_
  intro env henv s1 ic
  subst henv
  refine ⟨NL.keeps ic.toInCall.keep, codeAny_func ?_⟩
  obtain ⟨t, ht, hq⟩ := hb cdv A fr s H vs Q E (room.deeper _) gd want
  have I := inv_start (CX := L2.CX P w) (E := E) S room.hd en (len _ _ _ _ want) rel ic
  refine wpAny_mono (ht.run [] s1 _ H _ I hq) ?_ (fun e s' z => z)
  intro fl s' z
  cases fl with
  | ret u => exact let ⟨v, σ', H', J, rv, q⟩ := z; ⟨v, H', J.os, J.bare, J.base, J.hok, rv, q⟩
  | next => exact let ⟨σ', H', J, q⟩ := z; ⟨V.non, H', J.os, J.bare, J.base, J.hok, rfl, q⟩
  | brk => exact let ⟨_, _, _, q⟩ := z; q.elim
  | cont => exact let ⟨_, _, _, q⟩ := z; q.elim
theorem fn_j {N ps : List Str} {k : Nat} {is : IS} (keep : Bool) (F : FunD K x qual params body scope dvs kws f fd) (S : FnScope N ps scope)
    (hb : ∀ (cdv : Value) (A : Around) (fr : List Env) (s : Shared) (H : Hp) (E : XK), Room k (A.deeper (envOfC qual scope s.heap.objs.size f cdv)) → A.guards = some [] →
      JSs T (cxOf (L2.CX P w) P w K mg base N qual scope f cdv A fr s H E) (fun c d _ H => E c d H) body is) : FnG P w K mg base (k + 1) f fd ps (spJ T K ps.length (defJ N.length keep is)) := by
  refine fng_of F S (fun vs H Q E h => h.1) (fun cdv A fr s H vs Q E hr gd h => ⟨_, hb cdv A fr s H E hr gd, ?_⟩)
  obtain ⟨_, ds, Fr, S0, ι, G, em, dr, h⟩ := h
  refine ⟨startR N.length ds, Fr, S0, ι, G, em, SR.start dr, ?_⟩
  unfold defJ at h
  cases q : is (startR N.length ds) S0 with
  | no => rw [q] at h; exact h.elim
  | ex c fs S1 => rw [q] at h; exact h.elim
  | ok fl S1 =>
    rw [q] at h
    cases fl with
    | nx ρ => exact fun σ' ι' G' H' em' x' sr' => h .non ι' G' H' (fin_em em') x' (by simp only [DR])
    | rt d => exact fun v ι' G' H' em' x' r' => h v ι' G' H' (fin_em em') x' r'
    | xx c fs ρ => exact fun dd σ' ι' G' H' em' x' sr' xr => h dd ι' G' H' (fin_em em') x' xr
    | bk ρ => exact h.elim
    | ct ρ => exact h.elim
/-- a def of the module by its name -/
def Good (P : Program) (w : World) (T : Tab) (K : PySem.W.Frag) (mg : Str → Option Value) (base : Heap) (k : Nat) (x : Str) (ps : List Str) (sem : List D → M D) : Prop :=
  ∃ fd, FnG P w K mg base k (He.ga K x) fd ps (spJ T K ps.length sem) ∧ Binds K fd ps [] ∧ mg x = some (.ref (He.ga K x)) ∧ PySem.W.keepIn K (.ref (He.ga K x)) = true
end
/-- room and no repr going on -/
structure Rg (k : Nat) (A : Around) : Prop where
  r : Room k A
  g : A.guards = some []
theorem Rg.mono {j k : Nat} {A : Around} (r : Rg k A) (h : j ≤ k) : Rg j A := ⟨r.r.mono h, r.g⟩
section
variable {T : Tab} {X : Cx} {W : WX} {k : Nat} {f : Addr} {fd : FuncData} {ps : List Str} {sp : Sp}
/-- a def is called with values -/
theorem run_g {pins : List (Addr × Obj)} {σ : L2.St} {H : Hp} {s : Shared} {Q : VK} {ar : Args} {us : List Value} {vs : List V} (F : FnG X.prog X.w X.K X.mg X.base k f fd ps sp) (hr : Rg k X.A) (tk : Takes X W) (I : Inv X pins σ H s)
    (hb : BindsTo s fd ar (ps.zip us)) (r : Vals vs us) (h : sp vs H Q (fun c d H => W c d σ H)) : codeAny (model X.prog X.w) X.A (.call (.ref f) ar) (fun rs s' => match rs with
      | .ok (.ret u) => EP X pins σ Q u s'
      | .ok _ => False
      | .error e => X.xe e s') s := by
  refine codeAny_mono (F.run X.A X.stack s H ar us vs Q _ hr.r hr.g I.env0 hb r h) fun rs s' z => ?_
  cases rs with
  | error e => exact tk e s' (XE.of_call (W := W) I (fun _ _ _ h => h) z)
  | ok fl =>
    cases fl with
    | ret u => exact I.after z
    | _ => exact False.elim z
theorem call_g {pins : List (Addr × Obj)} {σ : L2.St} {H : Hp} {s : Shared} {Q : VK} {us : List Value} {vs : List V} (F : FnG X.prog X.w X.K X.mg X.base k f fd ps sp) (hr : Rg k X.A) (tk : Takes X W) (hb : Binds X.K fd ps []) (I : Inv X pins σ H s)
    (r : Vals vs us) (h : sp vs H Q (fun c d H => W c d σ H)) : wpAny (model X.prog X.w) X.A (call (.ref f) us) (EP X pins σ Q) X.xe s := by
  have hl : (us ++ []).length = ps.length := by rw [List.append_nil, ← r.length]; exact F.len _ _ _ _ h
  have bt := hb s us I.kIn hl
  rw [List.append_nil] at bt
  refine wpAny_call (codeAny_mono (run_g F hr tk I bt r h) fun rs s' z => ?_)
  cases rs with
  | error e => exact z
  | ok fl =>
    cases fl with
    | ret u => exact z
    | _ => exact z.elim
end
/-! ### calls of defs by name, positional -/
def iCall (n : Nat) (sem : List D → M D) (ia : IA) : IE := fun ρ => M.bind (ia ρ) fun xs => if xs.length = n then sem xs else M.no
section
variable {T : Tab} {X : Cx} {W : WX} {e : Expr} {es : List Expr} {ia : IA} {pos p : Pos} {sem : List D → M D} {x : Str} {ps : List Str} {k : Nat}
theorem Thn.slots {α β : Type} {T : Tab} {K : PySem.W.Frag} {F : Hp} {W W' : WX} {σ σ' : L2.St} {G : Hp} {ι : List Addr} {rel : Hp → List Addr → α → β → Prop} {m : R α} {Q : β → Hp → Prop} (h : Thn T K F W σ G ι rel m Q) (k : ∀ c d H, W c d σ H → W' c d σ' H) : Thn T K F W' σ' G ι rel m Q :=
  Runs.imp h (fun _ _ q => q) fun _ _ _ q dd ι' G' H' em y r => k _ _ _ (q dd ι' G' H' em y r)
/-- f(e, ..) -/
theorem je_call (g : Good X.prog X.w T X.K X.mg X.base k x ps sem) (hr : Rg k X.A) (hg : Gl X x) (tk : Takes X W) (ha : JA T X W (e :: es) ia) (hdb : (x == ("__debug__" : Str)) = false := by decide)
    (he : starEach (e :: es) X.env = (false, eval e X.env) :: starEach es X.env := by rfl) (hpl : (backTo pos (starEach es X.env)).any (·.1) = false := by rfl) : JE T X W (.Call (.Name x p) (e :: es) [] pos) (iCall ps.length sem ia) := by
  obtain ⟨fd, Fg, b, m, kp⟩ := g
  constructor; intro pins s σ H Q I hq
  have key : tA T X.K W ia σ H fun vs H1 => spJ T X.K ps.length sem vs H1 Q fun c d H => W c d σ H := by
    obtain ⟨ρ, F, S, ι, G, em, sr, h⟩ := hq
    refine ⟨ρ, F, S, ι, G, em, sr, Thn.bind (rel2 := DRs T X.K) h fun xs S1 vs ι1 G1 H1 em1 x1 dr h1 => ?_⟩
    by_cases hl : xs.length = ps.length
    · rw [if_pos hl] at h1
      exact ⟨dr.length.symm.trans hl, xs, F, S1, ι1, G1, em1, dr, h1.slots fun _ _ _ z => z⟩
    · rw [if_neg hl] at h1
      exact h1.elim
  refine wpAny_Call_Name_kw (ld_glob I hg m ?_ hdb)
  refine PySem.W.callWith_K (h₀ := X.base) I.ok.mod.kin kp (thn (ha.run pos pins s σ H _ I key) ?_) he hpl
  rintro us s1 ⟨vs, H1, I1, r, q⟩
  exact ⟨I1.kIn, call_g Fg hr tk b I1 r q⟩
end
end J

set_option Elab.async false
set_option linter.all false
set_option maxRecDepth 100000
set_option maxHeartbeats 410000
/-! J5: operators, comparisons, subscripts, slices -/
namespace J
open PySem PySem.Spec L2
/-- one or the other -/
def op2 (f g : Op2) : Op2 := fun x y S => (f x y S).or (g x y S)
theorem or_some {α : Type} {a b : Option α} {d : α} (h : a.or b = some d) : a = some d ∨ b = some d := by
  cases a with
  | none => right; simpa using h
  | some x => left; simpa using h
theorem OpS.or2 {T : Tab} {K : PySem.W.Frag} {r r' : R2} {f g : Op2} (h : OpS T K r f) (h' : OpS T K r' g) : OpS T K (fun x y H Q => r x y H Q ∨ r' x y H Q) (op2 f g) := h.or h' fun _ _ _ _ e => or_some e
/-- what stands in a list: a tree or an object of the store -/
def seqL : D → Store → Option (List D)
  | .lst xs, _ => some xs
  | .ref n, S => match S.get n with
    | some (.lst xs) => some xs
    | _ => none
  | _, _ => none
/-- .. or the script -/
def seqR : D → Store → Option (List D)
  | .scr xs, _ => some xs
  | x, S => seqL x S
def seqT : D → Option (List D)
  | .tup xs => some xs
  | _ => none
section
variable {T : Tab} {K : PySem.W.Frag} {F : Hp} {S : Store} {ι : List Addr} {G H : Hp} {x : D} {v : V} {xs : List D}
theorem seqL_ok (em : Em T K F S ι G H) (h : DR T K G ι x v) (e : seqL x S = some xs) : ∃ a vs, v = .ref a ∧ H a = some (.lst vs) ∧ DRs T K G ι xs vs := by
  cases x with
  | lst l =>
    cases e
    simp only [DR] at h
    obtain ⟨a, vs, rfl, q, r⟩ := h
    exact ⟨a, vs, rfl, em.sub _ _ q, r⟩
  | ref n =>
    simp only [DR] at h
    obtain ⟨a, ha, rfl⟩ := h
    simp only [seqL] at e
    cases q : S.get n with
    | none => (rw [q] at e); exact nomatch e
    | some o =>
      rw [q] at e
      cases o with
      | lst l =>
        cases e
        obtain ⟨a', u, h1, _, _, h4, vs, rfl, h5⟩ := em.obj n _ q
        rw [ha] at h1
        cases h1
        exact ⟨a, vs, rfl, h4, h5⟩
      | _ => cases e
  | _ => cases e
theorem seqR_ok (em : Em T K F S ι G H) (h : DR T K G ι x v) (e : seqR x S = some xs) : ∃ a vs, v = .ref a ∧ SqL K H a vs ∧ DRs T K G ι xs vs := by
  cases x with
  | scr l =>
    cases e
    simp only [DR] at h
    obtain ⟨a, vs, rfl, q, r⟩ := h
    exact ⟨a, vs, rfl, Same.seq em.sub q, r⟩
  | lst l =>
    obtain ⟨a, vs, e1, e2, e3⟩ := seqL_ok em h e
    exact ⟨a, vs, e1, SqL.of e2, e3⟩
  | ref n =>
    obtain ⟨a, vs, e1, e2, e3⟩ := seqL_ok em h e
    exact ⟨a, vs, e1, SqL.of e2, e3⟩
  | _ => cases e
theorem seqT_ok (em : Em T K F S ι G H) (h : DR T K G ι x v) (e : seqT x = some xs) : ∃ a vs, v = .ref a ∧ H a = some (.tup vs) ∧ DRs T K G ι xs vs := by
  cases x with
  | tup l =>
    cases e
    simp only [DR] at h
    obtain ⟨a, vs, rfl, q, r⟩ := h
    exact ⟨a, vs, rfl, em.sub _ _ q, r⟩
  | _ => cases e
end
/-! ### ints -/
def opI (C : Int → Int → Bool) (g : Int → Int → D) : Op2
  | .int i, .int j, _ => if C i j = true then some (g i j) else none
  | _, _, _ => none
theorem opI_ok {T : Tab} {K : PySem.W.Frag} {C : Int → Int → Bool} {C' : Int → Int → Prop} {g : Int → Int → D} {g' : Int → Int → V} (hC : ∀ i j, C i j = true → C' i j) (hg : ∀ G ι i j, DR T K G ι (g i j) (g' i j)) : OpS T K (rI C' g') (opI C g) := by
  intro F S ι G H x y d vx vy Q em dx dy e q
  unfold opI at e
  split at e
  · simp only [DR] at dx dy
    split at e
    · rename_i hc
      cases e
      exact ⟨_, _, dx, dy, hC _ _ hc, q _ G H em (Ext.refl _ _) (hg _ _ _ _)⟩
    · cases e
  · cases e
def opI0 (g : Int → Int → D) : Op2
  | .int i, .int j, _ => some (g i j)
  | _, _, _ => none
theorem opI0_ok {T : Tab} {K : PySem.W.Frag} {g : Int → Int → D} {g' : Int → Int → V} (hg : ∀ G ι i j, DR T K G ι (g i j) (g' i j)) : OpS T K (rI0 g') (opI0 g) := by
  intro F S ι G H x y d vx vy Q em dx dy e q
  unfold opI0 at e
  split at e
  · simp only [DR] at dx dy
    cases e
    exact ⟨_, _, dx, dy, q _ G H em (Ext.refl _ _) (hg _ _ _ _)⟩
  · cases e
abbrev dI : (Int → Int → Int) → Int → Int → D := fun g i j => .int (g i j)
abbrev dB : (Int → Int → Bool) → Int → Int → D := fun g i j => .bl (g i j)
def addI : Op2 := opI0 fun i j => .int (i + j)
def subI : Op2 := opI0 fun i j => .int (i - j)
def mulI : Op2 := opI (fun i j => decide (-(2 ^ 64) < i ∧ i < 2 ^ 64) || decide (-(2 ^ 64) < j ∧ j < 2 ^ 64)) fun i j => .int (i * j)
def fdivI : Op2 := opI (fun _ j => decide (0 < j ∧ j < 1073741824)) fun i j => .int (i / j)
def modI : Op2 := opI (fun _ j => decide (0 < j)) fun i j => .int (i % j)
def powI : Op2 := opI (fun i j => decide (0 ≤ j ∧ j ≤ 1000) && decide (-(2 ^ 32) < i ∧ i < 2 ^ 32)) fun i j => .int (i ^ j.toNat)
def ltI : Op2 := opI0 fun i j => .bl (decide (i < j))
def leI : Op2 := opI0 fun i j => .bl (decide (i ≤ j))
def gtI : Op2 := opI0 fun i j => .bl (decide (j < i))
def geI : Op2 := opI0 fun i j => .bl (decide (j ≤ i))
section
variable {T : Tab} {K : PySem.W.Frag}
theorem addI_ok : OpS T K (rI0 fun i j => .int (i + j)) addI := opI0_ok fun _ _ _ _ => by simp only [DR]
theorem subI_ok : OpS T K (rI0 fun i j => .int (i - j)) subI := opI0_ok fun _ _ _ _ => by simp only [DR]
theorem mulI_ok : OpS T K (rI CMul fun i j => .int (i * j)) mulI := opI_ok (fun i j h => by simpa [CMul] using h) fun _ _ _ _ => by simp only [DR]
theorem fdivI_ok : OpS T K (rI CDiv fun i j => .int (i / j)) fdivI := opI_ok (fun i j h => by simpa [CDiv] using h) fun _ _ _ _ => by simp only [DR]
theorem modI_ok : OpS T K (rI (fun _ j => 0 < j) fun i j => .int (i % j)) modI := opI_ok (fun i j h => by simpa using h) fun _ _ _ _ => by simp only [DR]
theorem powI_ok : OpS T K (rI CPow fun i j => .int (i ^ j.toNat)) powI := opI_ok (fun i j h => by
  simp only [decide_eq_true_eq, Bool.and_eq_true] at h
  exact ⟨h.1.1, by omega, by omega⟩) fun _ _ _ _ => by simp only [DR]
theorem ltI_ok : OpS T K (rI0 fun i j => .bl (decide (i < j))) ltI := opI0_ok fun _ _ _ _ => by simp only [DR]
theorem leI_ok : OpS T K (rI0 fun i j => .bl (decide (i ≤ j))) leI := opI0_ok fun _ _ _ _ => by simp only [DR]
theorem gtI_ok : OpS T K (rI0 fun i j => .bl (decide (j < i))) gtI := opI0_ok fun _ _ _ _ => by simp only [DR]
theorem geI_ok : OpS T K (rI0 fun i j => .bl (decide (j ≤ i))) geI := opI0_ok fun _ _ _ _ => by simp only [DR]
/-! ### texts, lists -/
theorem str_app (a b : List Nat) : (⟨a.toArray⟩ : Str) ++ ⟨b.toArray⟩ = ⟨(a ++ b).toArray⟩ := TL.ext_tl (by rw [TL.tl_append])
theorem str_len (a : List Nat) : (⟨a.toArray⟩ : Str).length = a.length := by simp [Str.length]
def addS : Op2
  | .str a, .str b, _ => if a.length + b.length ≤ 100000 then some (.str (a ++ b)) else none
  | _, _, _ => none
theorem addS_ok : OpS T K (fun x y H Q => ∃ i j, x = .str i ∧ y = .str j ∧ i.length + j.length ≤ sizeLine ∧ Q (.str (i ++ j)) H) addS := by
  intro F S ι G H x y d vx vy Q em dx dy e q
  unfold addS at e
  split at e
  · simp only [DR] at dx dy
    split at e
    · rename_i a b _ hc
      cases e
      refine ⟨_, _, dx, dy, by rw [str_len, str_len]; exact sz_of hc, q _ G H em (Ext.refl _ _) ?_⟩
      simp only [DR]
      rw [str_app]
    · cases e
  · cases e
def addL : Op2 := fun x y S => match seqL x S, seqL y S with
  | some xs, some ys => if xs.length + ys.length ≤ 100000 then some (.lst (xs ++ ys)) else none
  | _, _ => none
theorem addL_ok : OpS T K rCat addL := by
  intro F S ι G H x y d vx vy Q em dx dy e q
  unfold addL at e
  split at e
  · rename_i xs ys ex ey
    split at e
    · rename_i hc
      cases e
      obtain ⟨a, va, rfl, ha, ra⟩ := seqL_ok em dx ex
      obtain ⟨b, vb, rfl, hb, rb⟩ := seqL_ok em dy ey
      refine ⟨a, b, va, vb, rfl, rfl, ha, hb, by rw [← ra.length, ← rb.length]; exact sz_of hc, fun p hp => ?_⟩
      obtain ⟨em2, x2⟩ := em.frz (o := .lst (va ++ vb)) hp
      refine q _ _ _ em2 x2 ?_
      simp only [DR]
      exact ⟨p, _, rfl, upd_same, (ra.mono x2.1 x2.2).append (rb.mono x2.1 x2.2)⟩
    · cases e
  · cases e
/-! ### subscripts -/
def ixL : Op2 := fun x y S => match seqR x S, y with
  | some xs, .int i => atI xs i
  | _, _ => none
def ixT : Op2
  | .tup xs, .int i, _ => atI xs i
  | _, _, _ => none
def ixS : Op2
  | .str a, .int i, _ => if a.length ≤ 100000 then (atI a i).map fun c => .str [c] else none
  | _, _, _ => none
theorem atI_dr {G : Hp} {ι : List Addr} {ds : List D} {vs : List V} {i : Int} {d : D} (h : DRs T K G ι ds vs) (e : atI ds i = some d) : ∃ v, atI vs i = some v ∧ DR T K G ι d v := by
  unfold atI at e ⊢
  rw [← h.length]
  cases q : ixN ds.length i with
  | none => (rw [q] at e); exact nomatch e
  | some j =>
    rw [q] at e
    exact h.get e
theorem ixL_ok : OpS T K (rIxL K) ixL := by
  intro F S ι G H x y d vx vy Q em dx dy e q
  unfold ixL at e
  split at e
  · rename_i xs i ex
    simp only [DR] at dy
    obtain ⟨a, va, rfl, ha, ra⟩ := seqR_ok em dx ex
    obtain ⟨v, e2, r⟩ := atI_dr ra e
    exact ⟨a, va, i, v, rfl, dy, ha, e2, q _ G H em (Ext.refl _ _) r⟩
  · cases e
theorem ixT_ok : OpS T K (rIxT K) ixT := by
  intro F S ι G H x y d vx vy Q em dx dy e q
  unfold ixT at e
  split at e
  · simp only [DR] at dx dy
    obtain ⟨a, va, rfl, ha, ra⟩ := dx
    obtain ⟨v, e2, r⟩ := atI_dr ra e
    exact ⟨a, va, _, v, rfl, dy, SqT.of (em.sub _ _ ha), e2, q _ G H em (Ext.refl _ _) r⟩
  · cases e
theorem ixS_ok : OpS T K rIxS ixS := by
  intro F S ι G H x y d vx vy Q em dx dy e q
  unfold ixS at e
  split at e
  · simp only [DR] at dx dy
    split at e
    · rename_i _ a i hl
      cases e2 : atI a i with
      | none => rw [e2] at e; cases e
      | some c =>
        rw [e2] at e
        cases e
        refine ⟨_, i, c, dx, dy, by rw [str_len]; exact sz_of hl, e2, q _ G H em (Ext.refl _ _) ?_⟩
        simp only [DR]
    · cases e
  · cases e
def ixD : Op2 := op2 ixL (op2 ixT ixS)
theorem ixD_ok : OpS T K (rIx K) ixD := ixL_ok.or2 (ixT_ok.or2 ixS_ok)
/-! ### slices -/
def slL : OpC := fun x l u S => match seqR x S with
  | some xs => some (.lst (cutD xs l u))
  | none => none
def slS : OpC
  | .str a, l, u, _ => if a.length ≤ 100000 then some (.str (cutD a l u)) else none
  | _, _, _, _ => none
def slT : OpC
  | .tup xs, l, u, _ => some (.tup (cutD xs l u))
  | _, _, _, _ => none
theorem cutD_dr {G : Hp} {ι : List Addr} {ds : List D} {vs : List V} {l u : Option Int} (h : DRs T K G ι ds vs) : DRs T K G ι (cutD ds l u) (cutV vs l u) := by
  unfold cutD cutV
  rw [← h.length]
  exact (h.drop _).take _
theorem slL_ok : SlS T K (rSlL K) slL := by
  intro F S ι G H x l u d vx Q em dx e q
  unfold slL at e
  split at e
  · rename_i xs ex
    cases e
    obtain ⟨a, va, rfl, ha, ra⟩ := seqR_ok em dx ex
    refine ⟨a, va, rfl, ha, fun p hp => ?_⟩
    obtain ⟨em2, x2⟩ := em.frz (o := .lst (cutV va l u)) hp
    refine q _ _ _ em2 x2 ?_
    simp only [DR]
    exact ⟨p, _, rfl, upd_same, cutD_dr (ra.mono x2.1 x2.2)⟩
  · cases e
theorem slS_ok : SlS T K rSlS slS := by
  intro F S ι G H x l u d vx Q em dx e q
  unfold slS at e
  split at e
  · split at e
    · rename_i hl
      cases e
      simp only [DR] at dx
      refine ⟨_, dx, by rw [str_len]; exact sz_of hl, q _ G H em (Ext.refl _ _) ?_⟩
      simp only [DR, cutS, cutD, str_len]
    · cases e
  · cases e
theorem slT_ok : SlS T K (rSlA K) slT := by
  intro F S ι G H x l u d vx Q em dx e q
  unfold slT at e
  split at e
  · rename_i xs
    cases e
    simp only [DR] at dx
    obtain ⟨a, va, rfl, ha, ra⟩ := dx
    refine ⟨a, va, rfl, SqT.of (em.sub _ _ ha), fun hw => q _ G H em (Ext.refl _ _) ?_, fun hw p hp => ?_⟩
    · simp only [DR]
      refine ⟨a, va, rfl, ha, ?_⟩
      have e : cutD xs l u = xs := by
        unfold cutD
        rw [ra.length, hw.1, hw.2, List.drop_zero, Nat.sub_zero, ← ra.length, List.take_length]
      rw [e]
      exact ra
    · obtain ⟨em2, x2⟩ := em.frz (o := .tup (cutV va l u)) hp
      refine q _ _ _ em2 x2 ?_
      simp only [DR]
      exact ⟨p, _, rfl, upd_same, cutD_dr (ra.mono x2.1 x2.2)⟩
  · cases e
def opc2 (f g : OpC) : OpC := fun x l u S => (f x l u S).or (g x l u S)
theorem SlS.or2 {r r' : V → Option Int → Option Int → Hp → VK → Prop} {f g : OpC} (h : SlS T K r f) (h' : SlS T K r' g) : SlS T K (fun x l u H Q => r x l u H Q ∨ r' x l u H Q) (opc2 f g) := h.or h' fun _ _ _ _ _ e => or_some e
def slD : OpC := opc2 slL (opc2 slS slT)
theorem slD_ok : SlS T K (fun x l u H Q => rSlL K x l u H Q ∨ (rSlS x l u H Q ∨ rSlA K x l u H Q)) slD := slL_ok.or2 (slS_ok.or2 slT_ok)
def addT : Op2
  | .tup xs, .tup ys, _ => if xs.length + ys.length ≤ 100000 then some (.tup (xs ++ ys)) else none
  | _, _, _ => none
theorem addT_ok : OpS T K (rCatA K) addT := by
  intro F S ι G H x y d vx vy Q em dx dy e q
  unfold addT at e
  split at e
  · split at e
    · rename_i _ xs ys hc
      cases e
      simp only [DR] at dx dy
      obtain ⟨a, va, rfl, ha, ra⟩ := dx
      obtain ⟨b, vb, rfl, hb, rb⟩ := dy
      refine ⟨a, b, va, vb, rfl, rfl, SqT.of (em.sub _ _ ha), SqT.of (em.sub _ _ hb), by rw [← ra.length, ← rb.length]; exact sz_of hc, fun h0 => ?_, fun _ h0 => ?_, fun _ _ p hp => ?_⟩
      · subst h0
        have ex : xs = [] := List.eq_nil_of_length_eq_zero ra.length
        refine q _ G H em (Ext.refl _ _) ?_
        simp only [DR, ex, List.nil_append]
        exact ⟨b, vb, rfl, hb, rb⟩
      · subst h0
        have ex : ys = [] := List.eq_nil_of_length_eq_zero rb.length
        refine q _ G H em (Ext.refl _ _) ?_
        simp only [DR, ex, List.append_nil]
        exact ⟨a, va, rfl, ha, ra⟩
      · obtain ⟨em2, x2⟩ := em.frz (o := .tup (va ++ vb)) hp
        refine q _ _ _ em2 x2 ?_
        simp only [DR]
        exact ⟨p, _, rfl, upd_same, (ra.mono x2.1 x2.2).append (rb.mono x2.1 x2.2)⟩
    · cases e
  · cases e
def addD : Op2 := op2 addI (op2 addS (op2 addL addT))
theorem addD_ok : OpS T K (fun x y H Q => (rI0 fun i j => .int (i + j)) x y H Q ∨ ((∃ i j, x = .str i ∧ y = .str j ∧ i.length + j.length ≤ sizeLine ∧ Q (.str (i ++ j)) H) ∨ (rCat x y H Q ∨ rCatA K x y H Q))) addD := addI_ok.or2 (addS_ok.or2 (addL_ok.or2 addT_ok))
end
theorem op_addD {X : Cx} : OpR X (binaryOp .Add) (fun x y H Q => (rI0 fun i j => .int (i + j)) x y H Q ∨ ((∃ i j, x = .str i ∧ y = .str j ∧ i.length + j.length ≤ sizeLine ∧ Q (.str (i ++ j)) H) ∨ (rCat x y H Q ∨ rCatA X.K x y H Q))) := OpR.or op_add (OpR.or op_add_str (OpR.or op_cat op_catA))
theorem sl_D {X : Cx} : SlR X (fun x l u H Q => rSlL X.K x l u H Q ∨ (rSlS x l u H Q ∨ rSlA X.K x l u H Q)) := SlR.or sl_list (SlR.or sl_str sl_tupA)
/-! ### products of texts and lists -/
def repS (a : List Nat) (n : Nat) : List Nat := (List.replicate n a).flatten
theorem fold_rep (a : List Nat) : ∀ (n : Nat) (acc : Array Nat), ((List.replicate n a.toArray).foldl (· ++ ·) acc) = acc ++ (repS a n).toArray
  | 0, acc => by simp [repS]
  | n + 1, acc => by
    rw [List.replicate_succ, List.foldl_cons, fold_rep a n]
    simp [repS, List.replicate_succ]
def rMulS : R2 := fun x y H Q => ∃ (a : List Nat) (n : Int), x = .str ⟨a.toArray⟩ ∧ y = .int n ∧ 0 ≤ n ∧ n ≤ 1000 ∧ a.length ≤ 1000 ∧ Q (.str ⟨(repS a n.toNat).toArray⟩) H
theorem op_mulS {X : Cx} : OpR X (binaryOp .Mult) rMulS := by
  rintro pins s σ H x y v u Q I rx ry h
  obtain ⟨a, n, rfl, rfl, h0, h1, hl, q⟩ := h
  obtain ⟨t, rfl⟩ := rx
  obtain ⟨t', rfl⟩ := ry
  refine PySem.P.mul_str (by rw [decide_eq_false (by omega), decide_eq_false (by omega)]; rfl) (fun h2 _ => ?_) (fun h2 _ => ?_) ?_
  · rw [str_len]
    have : (2 ^ 63 - 1 : Int) / n ≥ (2 ^ 63 - 1) / 1000 := by
      apply Int.le_ediv_of_mul_le (by omega)
      have : (2 ^ 63 - 1 : Int) / 1000 * n ≤ (2 ^ 63 - 1) / 1000 * 1000 := Int.mul_le_mul_of_nonneg_left h1 (by decide)
      have e : ((2 ^ 63 - 1 : Int) / 1000 * 1000) ≤ 2 ^ 63 - 1 := by decide
      omega
    have e2 : ((2 ^ 63 - 1 : Int) / 1000) = 9223372036854775 := by decide
    omega
  · rw [str_len]
    unfold Builtin.Str.tooLong
    have : a.length * n.toNat ≤ 1000 * 1000 := Nat.mul_le_mul hl (by omega)
    rw [decide_eq_false_iff_not]
    have hz : (1000000 : Nat) ≤ sizeLine := by decide
    omega
  · have key : ∀ t'' k, EP X pins σ Q (.str ⟨(repS a n.toNat).toArray⟩ t'') { s with toks := k } := fun t'' k => ⟨.str _, H, I.tok k, ⟨_, rfl⟩, q⟩
    by_cases hn : n < 1
    · rw [if_pos hn]
      have e : Int.toNat n = 0 := by omega
      rw [e] at key
      exact ⟨by decide, key _ _⟩
    · rw [if_neg hn]
      by_cases h2 : (n == 1 || (⟨a.toArray⟩ : Str).length == 0) = true
      · rw [if_pos h2]
        have e : repS a n.toNat = a := by
          rcases Bool.or_eq_true_iff.mp h2 with z | z
          · have z' : n = 1 := eq_of_beq z
            subst z'
            simp [repS]
          · have z' : a.length = 0 := by
              rw [str_len] at z
              exact eq_of_beq z
            have z2 : a = [] := List.eq_nil_of_length_eq_zero z'
            subst z2
            simp [repS]
        rw [e] at key
        exact key _ _
      · rw [if_neg h2]
        have e : (⟨(List.replicate n.toNat (⟨a.toArray⟩ : Str).cps).foldl (· ++ ·) #[]⟩ : Str) = ⟨(repS a n.toNat).toArray⟩ := by
          show (⟨(List.replicate n.toNat a.toArray).foldl (· ++ ·) #[]⟩ : Str) = _
          rw [fold_rep]
          simp
        rw [e]
        refine ⟨?_, key _ _⟩
        show (⟨(repS a n.toNat).toArray⟩ : Str).length ≤ sizeLine
        rw [str_len]
        have hl2 : (repS a n.toNat).length = n.toNat * a.length := by simp [repS]
        have : n.toNat * a.length ≤ 1000 * 1000 := Nat.mul_le_mul (by omega) hl
        have hz : (1000000 : Nat) ≤ sizeLine := by decide
        omega
def mulS : Op2
  | .str a, .int n, _ => if 0 ≤ n ∧ n ≤ 1000 ∧ a.length ≤ 1000 then some (.str (repS a n.toNat)) else none
  | _, _, _ => none
def repD (xs : List D) (n : Nat) : List D := (List.replicate n xs).flatten
def mulL : Op2 := fun x y S => match seqL x S, y with
  | some xs, .int n => if 0 ≤ n ∧ n ≤ 1000 ∧ xs.length ≤ 1000 then some (.lst (repD xs n.toNat)) else none
  | _, _ => none
section
variable {T : Tab} {K : PySem.W.Frag}
theorem mulS_ok : OpS T K rMulS mulS := by
  intro F S ι G H x y d vx vy Q em dx dy e q
  unfold mulS at e
  split at e
  · split at e
    · rename_i hc
      cases e
      simp only [DR] at dx dy
      exact ⟨_, _, dx, dy, hc.1, hc.2.1, hc.2.2, q _ G H em (Ext.refl _ _) (by simp only [DR])⟩
    · cases e
  · cases e
theorem repD_dr {G : Hp} {ι : List Addr} {ds : List D} {vs : List V} (h : DRs T K G ι ds vs) : ∀ n, DRs T K G ι (repD ds n) (List.replicate n vs).flatten
  | 0 => by simpa [repD] using DRs.nil
  | n + 1 => by
    have := repD_dr h n
    unfold repD at this ⊢
    simp only [List.replicate_succ, List.flatten_cons]
    exact h.append this
theorem mulL_ok : OpS T K rRep mulL := by
  intro F S ι G H x y d vx vy Q em dx dy e q
  unfold mulL at e
  split at e
  · split at e
    · rename_i xs n ex hc
      cases e
      simp only [DR] at dy
      obtain ⟨a, va, rfl, ha, ra⟩ := seqL_ok em dx ex
      refine ⟨a, n, va, rfl, dy, ha, by omega, by omega, ?_, fun p hp => ?_⟩
      · rw [← ra.length]
        have : xs.length * n.toNat ≤ 1000 * 1000 := Nat.mul_le_mul hc.2.2 (by omega)
        have hz : (1000000 : Nat) ≤ sizeLine := by decide
        omega
      · obtain ⟨em2, x2⟩ := em.frz (o := .lst (List.replicate n.toNat va).flatten) hp
        refine q _ _ _ em2 x2 ?_
        simp only [DR]
        exact ⟨p, _, rfl, upd_same, repD_dr (ra.mono x2.1 x2.2) _⟩
    · cases e
  · cases e
def mulD : Op2 := op2 mulI (op2 mulS mulL)
theorem mulD_ok : OpS T K (fun x y H Q => (rI CMul fun i j => .int (i * j)) x y H Q ∨ (rMulS x y H Q ∨ rRep x y H Q)) mulD := mulI_ok.or2 (mulS_ok.or2 mulL_ok)
end
theorem op_mulD {X : Cx} : OpR X (binaryOp .Mult) (fun x y H Q => (rI CMul fun i j => .int (i * j)) x y H Q ∨ (rMulS x y H Q ∨ rRep x y H Q)) := OpR.or op_mul (OpR.or op_mulS op_rep)
/-! ### == -/
def eqS : Op2
  | .int i, .int j, _ => some (.bl (decide (i = j)))
  | .str a, .str b, _ => some (.bl (decide (a = b)))
  | .bl a, .bl b, _ => some (.bl (decide (a = b)))
  | .non, .non, _ => some (.bl true)
  | .non, .int _, _ => some (.bl false)
  | .int _, .non, _ => some (.bl false)
  | .non, .bl _, _ => some (.bl false)
  | .bl _, .non, _ => some (.bl false)
  | .non, .str _, _ => some (.bl false)
  | .str _, .non, _ => some (.bl false)
  | .int _, .str _, _ => some (.bl false)
  | .str _, .int _, _ => some (.bl false)
  | .bl _, .str _, _ => some (.bl false)
  | .str _, .bl _, _ => some (.bl false)
  | _, _, _ => none
mutual
def toPy : D → Option PyData
  | .non => some .none
  | .bl b => some (.bool b)
  | .int i => some (.int i)
  | .str x => some (.str ⟨x.toArray⟩)
  | .lst xs => (toPys xs).map .list
  | .tup xs => (toPys xs).map .tuple
  | _ => none
def toPys : List D → Option (List PyData)
  | [] => some []
  | x :: xs => match toPy x, toPys xs with
    | some a, some b => some (a :: b)
    | _, _ => none
end
def deref : D → Store → D
  | .ref n, S => match S.get n with
    | some (.lst xs) => .lst xs
    | _ => .ref n
  | x, _ => x
def eqP (x y : D) : Option Bool := match toPy x, toPy y with
  | some a, some b => if (SeqAt.shaped a && SeqAt.shaped b) = true then some (PyData.eqv a b) else none
  | _, _ => none
def eqG : Op2 := fun x y S => (eqP (deref x S) (deref y S)).map .bl
def neG : Op2 := fun x y S => (eqP (deref x S) (deref y S)).map fun b => .bl (!b)
def neS : Op2 := fun x y S => match eqS x y S with
  | some (.bl b) => some (.bl (!b))
  | _ => none
section
variable {T : Tab} {K : PySem.W.Frag}
theorem str_inj {a b : List Nat} : ((⟨a.toArray⟩ : Str) = ⟨b.toArray⟩) ↔ a = b := by
  constructor
  · intro h
    have := congrArg (fun z : Str => z.cps.toList) h
    simpa using this
  · intro h; rw [h]
theorem eqS_val {G : Hp} {ι : List Addr} {S : Store} {x y d : D} {vx vy : V} (dx : DR T K G ι x vx) (dy : DR T K G ι y vy) (e : eqS x y S = some d) : scal vx vy = true ∧ d = .bl (decide (vx = vy)) := by
  unfold eqS at e
  split at e <;> first
    | (simp only [DR] at dx dy; cases e; subst dx; subst dy; first
        | exact ⟨rfl, congrArg D.bl (by rw [decide_eq_decide]; simp only [V.str.injEq]; exact str_inj.symm)⟩
        | exact ⟨rfl, congrArg D.bl (by simp)⟩)
    | cases e
theorem eqS_ok : OpS T K rEq eqS := by
  intro F S ι G H x y d vx vy Q em dx dy e q
  obtain ⟨h1, h2⟩ := eqS_val dx dy e
  exact ⟨h1, q _ G H em (Ext.refl _ _) (by rw [h2]; simp only [DR])⟩
theorem neS_ok : OpS T K rNe neS := by
  intro F S ι G H x y d vx vy Q em dx dy e q
  unfold neS at e
  split at e
  · rename_i b eb
    cases e
    obtain ⟨h1, h2⟩ := eqS_val dx dy eb
    exact ⟨h1, q _ G H em (Ext.refl _ _) (by injection h2 with h2; rw [h2]; simp only [DR])⟩
  · cases e
mutual
theorem toPy_ok {F : Hp} {S : Store} {ι : List Addr} {G H : Hp} (em : Em T K F S ι G H) : ∀ {x : D} {v : V} {p : PyData}, DR T K G ι x v → toPy x = some p → Dp K H v p
  | .non, _, _, h, e => by simp only [DR] at h; simp only [toPy] at e; cases e; subst h; exact .non
  | .bl b, _, _, h, e => by simp only [DR] at h; simp only [toPy] at e; cases e; subst h; exact .bl b
  | .int b, _, _, h, e => by simp only [DR] at h; simp only [toPy] at e; cases e; subst h; exact .int b
  | .str b, _, _, h, e => by simp only [DR] at h; simp only [toPy] at e; cases e; subst h; exact .str _
  | .lst xs, _, _, h, e => by
    simp only [DR] at h
    simp only [toPy] at e
    obtain ⟨a, vs, rfl, q, r⟩ := h
    cases e1 : toPys xs with
    | none => rw [e1] at e; cases e
    | some ps =>
      rw [e1] at e
      cases e
      exact .lst (SqL.of (em.sub _ _ q)) (toPys_ok em r e1)
  | .tup xs, _, _, h, e => by
    simp only [DR] at h
    simp only [toPy] at e
    obtain ⟨a, vs, rfl, q, r⟩ := h
    cases e1 : toPys xs with
    | none => rw [e1] at e; cases e
    | some ps =>
      rw [e1] at e
      cases e
      exact .tup (SqT.of (em.sub _ _ q)) (toPys_ok em r e1)
  | .ty _, _, _, _, e => by simp only [toPy] at e; cases e
  | .glo _, _, _, _, e => by simp only [toPy] at e; cases e
  | .scr _, _, _, _, e => by simp only [toPy] at e; cases e
  | .dct _ _, _, _, _, e => by simp only [toPy] at e; cases e
  | .ins _ _, _, _, _, e => by simp only [toPy] at e; cases e
  | .ref _, _, _, _, e => by simp only [toPy] at e; cases e
theorem toPys_ok {F : Hp} {S : Store} {ι : List Addr} {G H : Hp} (em : Em T K F S ι G H) : ∀ {x : List D} {v : List V} {p : List PyData}, DRs T K G ι x v → toPys x = some p → DpAll K H v p
  | [], _, _, h, e => by simp only [DRs] at h; simp only [toPys] at e; cases e; subst h; exact .nil
  | x :: xs, _, _, h, e => by
    simp only [DRs] at h
    obtain ⟨v, r, rfl, h1, h2⟩ := h
    simp only [toPys] at e
    cases e1 : toPy x with
    | none => rw [e1] at e; cases e
    | some a =>
      cases e2 : toPys xs with
      | none => rw [e1, e2] at e; cases e
      | some b =>
        rw [e1, e2] at e
        cases e
        exact .cons (toPy_ok em h1 e1) (toPys_ok em h2 e2)
end
theorem deref_ok {F : Hp} {S : Store} {ι : List Addr} {G H : Hp} (em : Em T K F S ι G H) {x : D} {v : V} {p : PyData} (h : DR T K G ι x v) (e : toPy (deref x S) = some p) : Dp K H v p := by
  cases x with
  | ref n =>
    simp only [deref] at e
    cases q : S.get n with
    | none => rw [q] at e; simp only [toPy] at e; cases e
    | some o =>
      rw [q] at e
      cases o with
      | lst xs =>
        obtain ⟨a, vs, e1, h1, h2⟩ := seqL_ok (xs := xs) em h (by simp only [seqL, q])
        subst e1
        simp only [toPy] at e
        cases e1 : toPys xs with
        | none => rw [e1] at e; cases e
        | some ps =>
          rw [e1] at e
          cases e
          exact .lst (SqL.of h1) (toPys_ok em h2 e1)
      | _ => simp only [toPy] at e; cases e
  | _ => exact toPy_ok em h e
theorem eqP_ok {F : Hp} {S : Store} {ι : List Addr} {G H : Hp} (em : Em T K F S ι G H) {x y : D} {vx vy : V} {b : Bool} (dx : DR T K G ι x vx) (dy : DR T K G ι y vy) (e : eqP (deref x S) (deref y S) = some b) :
    ∃ d e, Dp K H vx d ∧ Dp K H vy e ∧ SeqAt.shaped d = true ∧ SeqAt.shaped e = true ∧ b = PyData.eqv d e := by
  unfold eqP at e
  split at e
  · rename_i p q ep eq
    split at e
    · rename_i hs
      obtain ⟨h1, h2⟩ := Bool.and_eq_true_iff.mp hs
      cases e
      exact ⟨p, q, deref_ok em dx ep, deref_ok em dy eq, h1, h2, rfl⟩
    · cases e
  · cases e
theorem eqG_ok : OpS T K (rEqD K) eqG := by
  intro F S ι G H x y d vx vy Q em dx dy e q
  unfold eqG at e
  cases eb : eqP (deref x S) (deref y S) with
  | none => rw [eb] at e; cases e
  | some b =>
    rw [eb] at e
    cases e
    obtain ⟨p, r, h1, h2, h3, h4, h5⟩ := eqP_ok em dx dy eb
    exact ⟨p, r, h1, h2, h3, h4, q _ G H em (Ext.refl _ _) (by simp only [DR]; rw [h5])⟩
theorem neG_ok : OpS T K (rNeD K) neG := by
  intro F S ι G H x y d vx vy Q em dx dy e q
  unfold neG at e
  cases eb : eqP (deref x S) (deref y S) with
  | none => rw [eb] at e; cases e
  | some b =>
    rw [eb] at e
    cases e
    obtain ⟨p, r, h1, h2, h3, h4, h5⟩ := eqP_ok em dx dy eb
    exact ⟨p, r, h1, h2, h3, h4, q _ G H em (Ext.refl _ _) (by simp only [DR]; rw [h5])⟩
def eqD : Op2 := op2 eqS eqG
def neD : Op2 := op2 neS neG
theorem eqD_ok : OpS T K (fun x y H Q => rEq x y H Q ∨ rEqD K x y H Q) eqD := eqS_ok.or2 eqG_ok
theorem neD_ok : OpS T K (fun x y H Q => rNe x y H Q ∨ rNeD K x y H Q) neD := neS_ok.or2 neG_ok
end
theorem op_eqJ {X : Cx} {k : Nat} (hr : Rg k X.A) : OpR X (compareOp .Eq) (fun x y H Q => rEq x y H Q ∨ rEqD X.K x y H Q) := OpR.or op_eq (op_eqD hr.r.units)
theorem op_neJ {X : Cx} {k : Nat} (hr : Rg k X.A) : OpR X (compareOp .NotEq) (fun x y H Q => rNe x y H Q ∨ rNeD X.K x y H Q) := OpR.or op_ne (op_neD hr.r.units)
end J

set_option Elab.async false
set_option linter.all false
set_option maxRecDepth 100000
set_option maxHeartbeats 410000
/-! J6: in, is, calls of built-ins, what is walked -/
namespace J
open PySem PySem.Spec L2
/-! ### in -/
def inS : Op2
  | .str [c], .str z, _ => some (.bl (decide (c ∈ z)))
  | _, _, _ => none
def notInS : Op2
  | .str [c], .str z, _ => some (.bl (!decide (c ∈ z)))
  | _, _, _ => none
def flatD : D → Bool
  | .non => true
  | .bl _ => true
  | .int _ => true
  | .str _ => true
  | _ => false
def eqF : D → D → Bool
  | .non, .non => true
  | .bl a, .bl b => a == b
  | .bl p, .int n => (if p then 1 else 0) == n
  | .int n, .bl p => n == (if p then 1 else 0)
  | .int a, .int b => a == b
  | .str a, .str b => decide (a = b)
  | _, _ => false
def seqA (x : D) (S : Store) : Option (List D) := (seqR x S).or (seqT x)
def inQ : Op2 := fun x y S => match seqA y S with
  | some ys => if (flatD x && ys.all flatD) = true then some (.bl (ys.any fun z => eqF z x)) else none
  | none => none
def notInQ : Op2 := fun x y S => match seqA y S with
  | some ys => if (flatD x && ys.all flatD) = true then some (.bl (!ys.any fun z => eqF z x)) else none
  | none => none
section
variable {T : Tab} {K : PySem.W.Frag}
theorem inS_ok : OpS T K (fun x y H Q => ∃ (c : Nat) (z : Str), x = .str ⟨#[c]⟩ ∧ y = .str z ∧ Q (.bl (decide (c ∈ z.cps.toList))) H) inS := by
  intro F S ι G H x y d vx vy Q em dx dy e q
  unfold inS at e
  split at e
  · cases e
    simp only [DR] at dx dy
    exact ⟨_, _, dx, dy, q _ G H em (Ext.refl _ _) (by simp only [DR])⟩
  · cases e
theorem notInS_ok : OpS T K (fun x y H Q => ∃ (c : Nat) (z : Str), x = .str ⟨#[c]⟩ ∧ y = .str z ∧ Q (.bl (!decide (c ∈ z.cps.toList))) H) notInS := by
  intro F S ι G H x y d vx vy Q em dx dy e q
  unfold notInS at e
  split at e
  · cases e
    simp only [DR] at dx dy
    exact ⟨_, _, dx, dy, q _ G H em (Ext.refl _ _) (by simp only [DR])⟩
  · cases e
theorem flat_ok {G : Hp} {ι : List Addr} {x : D} {v : V} (h : DR T K G ι x v) (f : flatD x = true) : flatV v = true := by
  cases x <;> simp only [flatD] at f <;> first | (simp only [DR] at h; subst h; rfl) | cases f
theorem eqF_ok {G : Hp} {ι : List Addr} {x y : D} {v u : V} (h : DR T K G ι x v) (k : DR T K G ι y u) (f : flatD x = true) (g : flatD y = true) : eqF x y = eqV v u := by
  cases x <;> simp only [flatD] at f <;> first | (cases f; done) | skip
  all_goals (cases y <;> simp only [flatD] at g <;> first | (cases g; done) | skip)
  all_goals (simp only [DR] at h k; subst h; subst k; first | rfl | skip)
  rename_i a b
  show decide (a = b) = ((⟨a.toArray⟩ : Str) == ⟨b.toArray⟩)
  by_cases e : a = b
  · subst e; simp
  · rw [decide_eq_false e]
    symm
    exact beq_eq_false_iff_ne.mpr fun z => e (str_inj.mp z)
theorem flats_ok {G : Hp} {ι : List Addr} {x : D} {v : V} (h : DR T K G ι x v) (f : flatD x = true) : ∀ {ds : List D} {vs : List V}, DRs T K G ι ds vs → ds.all flatD = true → vs.all flatV = true ∧ (ds.any fun z => eqF z x) = inV v vs
  | [], _, r, _ => by simp only [DRs] at r; subst r; exact ⟨rfl, rfl⟩
  | y :: ys, _, r, a => by
    simp only [DRs] at r
    obtain ⟨u, us, rfl, r1, r2⟩ := r
    rw [List.all_cons, Bool.and_eq_true_iff] at a
    obtain ⟨h1, h2⟩ := flats_ok h f r2 a.2
    refine ⟨by rw [List.all_cons, flat_ok r1 a.1, h1]; rfl, ?_⟩
    unfold inV at h2 ⊢
    rw [List.any_cons, List.any_cons, h2, eqF_ok r1 h a.1 f]
theorem seqA_ok {F : Hp} {S : Store} {ι : List Addr} {G H : Hp} (em : Em T K F S ι G H) {x : D} {v : V} {xs : List D} (h : DR T K G ι x v) (e : seqA x S = some xs) : ∃ a vs, v = .ref a ∧ (SqL K H a vs ∨ SqT K H a vs) ∧ DRs T K G ι xs vs := by
  rcases or_some e with e | e
  · obtain ⟨a, vs, h1, h2, h3⟩ := seqR_ok em h e
    exact ⟨a, vs, h1, .inl h2, h3⟩
  · obtain ⟨a, vs, h1, h2, h3⟩ := seqT_ok em h e
    exact ⟨a, vs, h1, .inr (SqT.of h2), h3⟩
theorem inQ_ok : OpS T K (rIn K false) inQ := by
  intro F S ι G H x y d vx vy Q em dx dy e q
  unfold inQ at e
  split at e
  · rename_i ys ey
    split at e
    · rename_i hf
      cases e
      obtain ⟨f1, f2⟩ := Bool.and_eq_true_iff.mp hf
      obtain ⟨a, vs, rfl, hs, r⟩ := seqA_ok em dy ey
      obtain ⟨h1, h2⟩ := flats_ok dx f1 r f2
      exact ⟨a, vs, rfl, hs, flat_ok dx f1, h1, q _ G H em (Ext.refl _ _) (by simp only [DR]; rw [h2]; rfl)⟩
    · cases e
  · cases e
theorem notInQ_ok : OpS T K (rIn K true) notInQ := by
  intro F S ι G H x y d vx vy Q em dx dy e q
  unfold notInQ at e
  split at e
  · rename_i ys ey
    split at e
    · rename_i hf
      cases e
      obtain ⟨f1, f2⟩ := Bool.and_eq_true_iff.mp hf
      obtain ⟨a, vs, rfl, hs, r⟩ := seqA_ok em dy ey
      obtain ⟨h1, h2⟩ := flats_ok dx f1 r f2
      exact ⟨a, vs, rfl, hs, flat_ok dx f1, h1, q _ G H em (Ext.refl _ _) (by simp only [DR]; rw [h2]; rfl)⟩
    · cases e
  · cases e
def inD : Op2 := op2 inS inQ
def notInD : Op2 := op2 notInS notInQ
theorem inD_ok : OpS T K (fun x y H Q => (∃ (c : Nat) (z : Str), x = .str ⟨#[c]⟩ ∧ y = .str z ∧ Q (.bl (decide (c ∈ z.cps.toList))) H) ∨ rIn K false x y H Q) inD := inS_ok.or2 inQ_ok
theorem notInD_ok : OpS T K (fun x y H Q => (∃ (c : Nat) (z : Str), x = .str ⟨#[c]⟩ ∧ y = .str z ∧ Q (.bl (!decide (c ∈ z.cps.toList))) H) ∨ rIn K true x y H Q) notInD := notInS_ok.or2 notInQ_ok
/-! ### is None -/
def isNon : D → Bool
  | .non => true
  | _ => false
def isN : Op2
  | x, .non, _ => some (.bl (isNon x))
  | _, _, _ => none
def notN : Op2
  | x, .non, _ => some (.bl (!isNon x))
  | _, _, _ => none
theorem isNon_ok {G : Hp} {ι : List Addr} {x : D} {v : V} (h : DR T K G ι x v) : isNon x = decide (v = .non) := by
  cases x <;> simp only [DR] at h
  case non => subst h; rfl
  case tup => obtain ⟨a, vs, rfl, _⟩ := h; rfl
  case lst => obtain ⟨a, vs, rfl, _⟩ := h; rfl
  case scr => obtain ⟨a, vs, rfl, _⟩ := h; rfl
  case dct => obtain ⟨a, vs, rfl, _⟩ := h; rfl
  case ins => obtain ⟨a, dx, vs, rfl, _⟩ := h; rfl
  case ref => obtain ⟨a, _, rfl⟩ := h; rfl
  all_goals (subst h; rfl)
theorem isN_ok : OpS T K (fun x y H Q => y = .non ∧ Q (.bl (decide (x = .non))) H) isN := by
  intro F S ι G H x y d vx vy Q em dx dy e q
  unfold isN at e
  split at e
  · cases e
    simp only [DR] at dy
    exact ⟨dy, q _ G H em (Ext.refl _ _) (by simp only [DR]; rw [isNon_ok dx])⟩
  · cases e
theorem notN_ok : OpS T K (fun x y H Q => y = .non ∧ Q (.bl (!decide (x = .non))) H) notN := by
  intro F S ι G H x y d vx vy Q em dx dy e q
  unfold notN at e
  split at e
  · cases e
    simp only [DR] at dy
    exact ⟨dy, q _ G H em (Ext.refl _ _) (by simp only [DR]; rw [isNon_ok dx])⟩
  · cases e
/-! ### calls -/
def lenD : OpN
  | [.str a], _ => if a.length ≤ 100000 then some (.int a.length) else none
  | [x], S => (seqA x S).map fun xs => .int xs.length
  | _, _ => none
theorem DRs.one {G : Hp} {ι : List Addr} {x : D} {vs : List V} (h : DRs T K G ι [x] vs) : ∃ v, vs = [v] ∧ DR T K G ι x v := by
  simp only [DRs] at h
  obtain ⟨v, r, rfl, h1, rfl⟩ := h
  exact ⟨v, rfl, h1⟩
theorem DRs.two {G : Hp} {ι : List Addr} {x y : D} {vs : List V} (h : DRs T K G ι [x, y] vs) : ∃ v w, vs = [v, w] ∧ DR T K G ι x v ∧ DR T K G ι y w := by
  simp only [DRs] at h
  obtain ⟨v, r, rfl, h1, w, r2, rfl, h2, rfl⟩ := h
  exact ⟨v, w, rfl, h1, h2⟩
theorem lenD_ok : CaS T K (fun xs H Q => ∃ x n, xs = [x] ∧ LenV K x H n ∧ Q (.int n) H) lenD := by
  intro F S ι G H xs d vs Q em dr e q
  unfold lenD at e
  split at e
  · split at e
    · rename_i hl
      cases e
      obtain ⟨v, rfl, r⟩ := dr.one
      simp only [DR] at r
      subst r
      exact ⟨_, _, rfl, ⟨by rw [str_len]; exact sz_of hl, rfl⟩, q _ G H em (Ext.refl _ _) (by simp only [DR, str_len])⟩
    · cases e
  · rename_i _ x _
    obtain ⟨v, rfl, r⟩ := dr.one
    cases e2 : seqA x S with
    | none => rw [e2] at e; cases e
    | some xs =>
      rw [e2] at e
      cases e
      obtain ⟨a, vs, rfl, hs, r2⟩ := seqA_ok em r e2
      refine ⟨_, vs.length, rfl, ?_, q _ G H em (Ext.refl _ _) (by simp only [DR]; rw [r2.length])⟩
      exact hs.elim (fun z => .inl ⟨vs, z, rfl⟩) fun z => .inr ⟨vs, z, rfl⟩
  · cases e
def intD : OpN
  | [.int i], _ => some (.int i)
  | [.bl b], _ => some (.int (if b then 1 else 0))
  | _, _ => none
theorem intD_ok : CaS T K (fun xs H Q => (∃ i, xs = [.int i] ∧ Q (.int i) H) ∨ ∃ k, xs = [.bl k] ∧ Q (.int (if k then 1 else 0)) H) intD := by
  intro F S ι G H xs d vs Q em dr e q
  unfold intD at e
  split at e
  · cases e
    obtain ⟨v, rfl, r⟩ := dr.one
    simp only [DR] at r
    subst r
    exact .inl ⟨_, rfl, q _ G H em (Ext.refl _ _) (by simp only [DR])⟩
  · cases e
    obtain ⟨v, rfl, r⟩ := dr.one
    simp only [DR] at r
    subst r
    exact .inr ⟨_, rfl, q _ G H em (Ext.refl _ _) (by simp only [DR])⟩
  · cases e
def absD : OpN
  | [.int i], _ => some (.int (if i < 0 then -i else i))
  | _, _ => none
theorem absD_ok : CaS T K (fun xs H Q => ∃ i, xs = [.int i] ∧ Q (.int (if i < 0 then -i else i)) H) absD := by
  intro F S ι G H xs d vs Q em dr e q
  unfold absD at e
  split at e
  · cases e
    obtain ⟨v, rfl, r⟩ := dr.one
    simp only [DR] at r
    subst r
    exact ⟨_, rfl, q _ G H em (Ext.refl _ _) (by simp only [DR])⟩
  · cases e
def max2 : OpN
  | [.int i, .int j], _ => some (.int (if j > i then j else i))
  | _, _ => none
def min2 : OpN
  | [.int i, .int j], _ => some (.int (if j < i then j else i))
  | _, _ => none
theorem max2_ok : CaS T K (fun xs H Q => ∃ i j, xs = [.int i, .int j] ∧ Q (.int (if j > i then j else i)) H) max2 := by
  intro F S ι G H xs d vs Q em dr e q
  unfold max2 at e
  split at e
  · cases e
    obtain ⟨v, w, rfl, r, r2⟩ := dr.two
    simp only [DR] at r r2
    subst r; subst r2
    exact ⟨_, _, rfl, q _ G H em (Ext.refl _ _) (by simp only [DR])⟩
  · cases e
theorem min2_ok : CaS T K (fun xs H Q => ∃ i j, xs = [.int i, .int j] ∧ Q (.int (if j < i then j else i)) H) min2 := by
  intro F S ι G H xs d vs Q em dr e q
  unfold min2 at e
  split at e
  · cases e
    obtain ⟨v, w, rfl, r, r2⟩ := dr.two
    simp only [DR] at r r2
    subst r; subst r2
    exact ⟨_, _, rfl, q _ G H em (Ext.refl _ _) (by simp only [DR])⟩
  · cases e
def divmodD : OpN
  | [.int i, .int j], _ => if 0 < j ∧ j < 1073741824 then some (.tup [.int (i / j), .int (i % j)]) else none
  | _, _ => none
theorem divmodD_ok : CaS T K (fun xs H Q => ∃ i j, xs = [.int i, .int j] ∧ CDiv i j ∧ ∀ p, H p = none → Q (.ref p) (upd H p (.tup [.int (i / j), .int (i % j)]))) divmodD := by
  intro F S ι G H xs d vs Q em dr e q
  unfold divmodD at e
  split at e
  · split at e
    · rename_i hc
      cases e
      obtain ⟨v, w, rfl, r, r2⟩ := dr.two
      simp only [DR] at r r2
      subst r; subst r2
      refine ⟨_, _, rfl, hc, fun p hp => ?_⟩
      obtain ⟨em2, x2⟩ := em.frz (o := .tup [.int (_ / _), .int (_ % _)]) hp
      refine q _ _ _ em2 x2 ?_
      simp only [DR]
      exact ⟨p, _, rfl, upd_same, DRs.cons (by simp only [DR]) (DRs.cons (by simp only [DR]) DRs.nil)⟩
    · cases e
  · cases e
def boolsOf : List D → Option (List Bool)
  | [] => some []
  | .bl b :: xs => (boolsOf xs).map (b :: ·)
  | _ :: _ => none
def intsOf : List D → Option (List Int)
  | [] => some []
  | .int b :: xs => (intsOf xs).map (b :: ·)
  | _ :: _ => none
def strsOf : List D → Option (List (List Nat))
  | [] => some []
  | .str b :: xs => (strsOf xs).map (b :: ·)
  | _ :: _ => none
theorem boolsOf_ok {G : Hp} {ι : List Addr} : ∀ {xs : List D} {vs : List V} {bs : List Bool}, DRs T K G ι xs vs → boolsOf xs = some bs → vs = bs.map V.bl
  | [], _, _, r, e => by simp only [DRs] at r; cases e; exact r
  | x :: xs, _, bs, r, e => by
    simp only [DRs] at r
    obtain ⟨v, u, rfl, r1, r2⟩ := r
    cases x with
    | bl b =>
      simp only [boolsOf] at e
      cases e1 : boolsOf xs with
      | none => rw [e1] at e; cases e
      | some cs =>
        rw [e1] at e
        cases e
        simp only [DR] at r1
        rw [r1, boolsOf_ok r2 e1]
        rfl
    | _ => cases e
theorem intsOf_ok {G : Hp} {ι : List Addr} : ∀ {xs : List D} {vs : List V} {bs : List Int}, DRs T K G ι xs vs → intsOf xs = some bs → vs = bs.map V.int
  | [], _, _, r, e => by simp only [DRs] at r; cases e; exact r
  | x :: xs, _, bs, r, e => by
    simp only [DRs] at r
    obtain ⟨v, u, rfl, r1, r2⟩ := r
    cases x with
    | int b =>
      simp only [intsOf] at e
      cases e1 : intsOf xs with
      | none => rw [e1] at e; cases e
      | some cs =>
        rw [e1] at e
        cases e
        simp only [DR] at r1
        rw [r1, intsOf_ok r2 e1]
        rfl
    | _ => cases e
theorem strsOf_ok {G : Hp} {ι : List Addr} : ∀ {xs : List D} {vs : List V} {bs : List (List Nat)}, DRs T K G ι xs vs → strsOf xs = some bs → vs = (bs.map fun l => (⟨l.toArray⟩ : Str)).map V.str
  | [], _, _, r, e => by simp only [DRs] at r; cases e; exact r
  | x :: xs, _, bs, r, e => by
    simp only [DRs] at r
    obtain ⟨v, u, rfl, r1, r2⟩ := r
    cases x with
    | str b =>
      simp only [strsOf] at e
      cases e1 : strsOf xs with
      | none => rw [e1] at e; cases e
      | some cs =>
        rw [e1] at e
        cases e
        simp only [DR] at r1
        rw [r1, strsOf_ok r2 e1]
        rfl
    | _ => cases e
def allD : OpN
  | [x], S => ((seqR x S).bind boolsOf).map fun bs => .bl (bs.all id)
  | _, _ => none
def anyD : OpN
  | [x], S => ((seqR x S).bind boolsOf).map fun bs => .bl (bs.any id)
  | _, _ => none
def sumD : OpN
  | [x], S => ((seqR x S).bind intsOf).map fun ns => .int ns.sum
  | _, _ => none
theorem one_list {F : Hp} {S : Store} {ι : List Addr} {G H : Hp} {α : Type} {f : List D → Option α} {g : α → D} {x d : D} {vs : List V} (em : Em T K F S ι G H) (dr : DRs T K G ι [x] vs) (e : ((seqR x S).bind f).map g = some d) :
    ∃ a us ds y, vs = [.ref a] ∧ SqL K H a us ∧ DRs T K G ι ds us ∧ f ds = some y ∧ d = g y := by
  obtain ⟨v, rfl, r⟩ := dr.one
  cases e1 : seqR x S with
  | none => rw [e1] at e; cases e
  | some ds =>
    rw [e1] at e
    obtain ⟨a, us, rfl, h1, h2⟩ := seqR_ok em r e1
    cases e2 : f ds with
    | none => simp only [Option.bind_some, e2] at e; cases e
    | some y =>
      simp only [Option.bind_some, e2, Option.map_some] at e
      cases e
      exact ⟨a, us, ds, y, rfl, h1, h2, e2, rfl⟩
theorem allD_ok : CaS T K (rAll K) allD := by
  intro F S ι G H xs d vs Q em dr e q
  unfold allD at e
  split at e
  · obtain ⟨a, us, ds, bs, rfl, h1, h2, h3, rfl⟩ := one_list em dr e
    rw [boolsOf_ok h2 h3] at h1
    exact ⟨a, bs, rfl, h1, q _ G H em (Ext.refl _ _) (by simp only [DR])⟩
  · cases e
theorem anyD_ok : CaS T K (rAny K) anyD := by
  intro F S ι G H xs d vs Q em dr e q
  unfold anyD at e
  split at e
  · obtain ⟨a, us, ds, bs, rfl, h1, h2, h3, rfl⟩ := one_list em dr e
    rw [boolsOf_ok h2 h3] at h1
    exact ⟨a, bs, rfl, h1, q _ G H em (Ext.refl _ _) (by simp only [DR])⟩
  · cases e
theorem sumD_ok : CaS T K (rSum K) sumD := by
  intro F S ι G H xs d vs Q em dr e q
  unfold sumD at e
  split at e
  · obtain ⟨a, us, ds, bs, rfl, h1, h2, h3, rfl⟩ := one_list em dr e
    rw [intsOf_ok h2 h3] at h1
    exact ⟨a, bs, rfl, h1, q _ G H em (Ext.refl _ _) (by simp only [DR])⟩
  · cases e
end
end J

set_option Elab.async false
set_option linter.all false
set_option maxRecDepth 100000
set_option maxHeartbeats 410000
/-! J7: methods of texts and lists, stores into lists, what is walked -/
namespace J
open PySem PySem.Spec L2
open PySem.StrLaws (occBody occ_eq subAt_one occ_head At)
/-! ### one sign in a text: count, find, index -/
theorem occ_count (a : List Nat) (c lim : Nat) : ∀ (m k : Nat) (st : Array Nat × Nat), k + m = a.length + 1 → st.2 ≤ k → st.1.size ≤ k → a.length < lim →
    (forIn (List.range' k m) st (occBody ⟨a.toArray⟩ ⟨#[c]⟩ (⟨a.toArray⟩ : Str).length lim)).run.fst.size = st.1.size + (a.drop k).count c
  | 0, k, st, hk, _, _, _ => by
    have : a.drop k = [] := List.drop_eq_nil_of_le (by omega)
    simp [this]
  | m + 1, k, st, hk, h1, h2, hl => by
    rw [List.range'_succ]; rw [List.forIn_cons]
    unfold occBody
    have hs := subAt_one ⟨a.toArray⟩ c k
    by_cases hc : a[k]? = some c
    · have hc' : (⟨a.toArray⟩ : Str).cps.toList[k]? = some c := by simpa using hc
      obtain ⟨h3, h4⟩ := hs.mpr hc'
      have cond : ((st.fst.size < lim ∧ st.snd ≤ k) ∧ k + (⟨#[c]⟩ : Str).length ≤ (⟨a.toArray⟩ : Str).length) ∧ Builtin.Str.subAt ⟨a.toArray⟩ ⟨#[c]⟩ k = true := ⟨⟨⟨by omega, h1⟩, h3⟩, h4⟩
      rw [if_pos cond]
      have ih := occ_count a c lim m (k + 1) (st.fst.push k, k + (⟨#[c]⟩ : Str).length) (by omega) (Nat.le_refl _) (by simp; omega) hl
      unfold occBody at ih
      obtain ⟨hlt, e⟩ := List.getElem?_eq_some_iff.mp hc
      rw [List.drop_eq_getElem_cons hlt, e, List.count_cons_self]
      refine Eq.trans ih ?_
      simp
      omega
    · have nc : ¬ (((st.fst.size < lim ∧ st.snd ≤ k) ∧ k + (⟨#[c]⟩ : Str).length ≤ (⟨a.toArray⟩ : Str).length) ∧ Builtin.Str.subAt ⟨a.toArray⟩ ⟨#[c]⟩ k = true) := fun z => hc (by simpa using hs.mp ⟨z.1.2, z.2⟩)
      rw [if_neg nc]
      have ih := occ_count a c lim m (k + 1) st (by omega) (by omega) (by omega) hl
      unfold occBody at ih
      refine Eq.trans ih ?_
      by_cases hlt : k < a.length
      · rw [List.drop_eq_getElem_cons hlt, List.count_cons_of_ne]
        intro z
        exact hc (by rw [List.getElem?_eq_getElem hlt, z])
      · rw [List.drop_eq_nil_of_le (by omega), List.drop_eq_nil_of_le (by omega)]
theorem count_one (a : List Nat) (c : Nat) : Txt.count ⟨a.toArray⟩ ⟨#[c]⟩ = ((a.count c : Nat) : Int) := by
  unfold Txt.count
  rw [occ_eq, Nat.sub_zero]
  have h := occ_count a c ((⟨a.toArray⟩ : Str).length + 1) (a.length + 1) 0 (#[], 0) (by omega) (Nat.le_refl _) (by simp) (by rw [str_len]; omega)
  have e : (⟨a.toArray⟩ : Str).length + 1 = a.length + 1 := by rw [str_len]
  rw [Array.length_toList]
  rw [← e] at h
  rw [h]
  simp
theorem at_one {a : List Nat} {c i : Nat} : At ⟨a.toArray⟩ ⟨#[c]⟩ (⟨a.toArray⟩ : Str).length i ↔ a[i]? = some c := by
  have := subAt_one ⟨a.toArray⟩ c i
  simpa [At] using this
/-- where a sign first stands -/
def fstAt (c : Nat) : List Nat → Option Nat
  | [] => none
  | x :: xs => if x = c then some 0 else (fstAt c xs).map (· + 1)
theorem fstAt_none {c : Nat} : ∀ {a : List Nat}, (∀ i : Nat, a[i]? ≠ some c) → fstAt c a = none
  | [], _ => rfl
  | x :: xs, h => by
    unfold fstAt
    rw [if_neg fun z => h 0 (by simp [z]), fstAt_none (a := xs) fun i => by simpa using h (i + 1)]
    rfl
theorem fstAt_some {c : Nat} : ∀ {a : List Nat} {i : Nat}, a[i]? = some c → (∀ k, k < i → a[k]? ≠ some c) → fstAt c a = some i
  | x :: xs, 0, h, _ => by
    unfold fstAt
    rw [if_pos (by simpa using h)]
  | x :: xs, i + 1, h, n => by
    unfold fstAt
    rw [if_neg fun z => n 0 (by omega) (by simp [z]), fstAt_some (a := xs) (i := i) (by simpa using h) fun k hk => by simpa using n (k + 1) (by omega)]
    rfl
theorem occ_one (a : List Nat) (c lim : Nat) (hl : 1 ≤ lim) : match Builtin.Str.occurrences ⟨a.toArray⟩ ⟨#[c]⟩ 0 (⟨a.toArray⟩ : Str).length lim with
    | i :: _ => fstAt c a = some i
    | [] => fstAt c a = none := by
  rcases occ_head ⟨a.toArray⟩ ⟨#[c]⟩ lim hl with ⟨e, h⟩ | ⟨i, r, e, h1, h2⟩
  · rw [e]
    exact fstAt_none fun i z => h i (at_one.mpr z)
  · rw [e]
    exact fstAt_some (at_one.mp h1) fun k hk z => h2 k hk (at_one.mpr z)
theorem find_one (a : List Nat) (c : Nat) : Txt.find ⟨a.toArray⟩ ⟨#[c]⟩ = (match fstAt c a with | some i => (i : Int) | none => -1) := by
  unfold Txt.find
  have h := occ_one a c 1 (Nat.le_refl _)
  split at h
  · rename_i i _ e
    rw [e, h]
  · rename_i e
    rw [e, h]
def strCount : OpM
  | .str a, [.str [c]] => M.ret (.int (a.count c))
  | _, _ => M.no
def strFind : OpM
  | .str a, [.str [c]] => M.ret (.int (match fstAt c a with | some i => (i : Int) | none => -1))
  | _, _ => M.no
def strIndex : OpM
  | .str a, [.str [c]] => match fstAt c a with
    | some i => M.ret (.int (i : Int))
    | none => M.no
  | _, _ => M.no
def joinL : List Nat → List (List Nat) → List Nat := TL.joinL
def strJoin : OpM
  | .str a, [x] => fun S => match (seqA x S).bind strsOf with
    | some ys => if ys.length ≤ 1000 ∧ a.length ≤ 1000 ∧ (ys.all fun y => decide (y.length ≤ 1000)) = true then .ok (.str (TL.joinL a ys)) S else .no
    | none => .no
  | _, _ => M.no
section
variable {T : Tab} {K : PySem.W.Frag}
theorem strCount_ok : MtS T K (fun x xs H Q => ∃ a b, x = .str a ∧ xs = [.str b] ∧ Q (.int (Txt.count a b)) H) strCount := by
  intro F S ι G H x xs vx vs W σ Q em dx dr h
  unfold strCount at h
  split at h
  · obtain ⟨v, rfl, r⟩ := dr.one
    simp only [DR] at dx r
    refine ⟨_, _, dx, by rw [r], ?_⟩
    exact Thn.ok h em (by simp only [DR]; rw [count_one])
  · exact h.elim
theorem strFind_ok : MtS T K (fun x xs H Q => ∃ a b, x = .str a ∧ xs = [.str b] ∧ Q (.int (Txt.find a b)) H) strFind := by
  intro F S ι G H x xs vx vs W σ Q em dx dr h
  unfold strFind at h
  split at h
  · obtain ⟨v, rfl, r⟩ := dr.one
    simp only [DR] at dx r
    refine ⟨_, _, dx, by rw [r], ?_⟩
    exact Thn.ok h em (by simp only [DR]; rw [find_one])
  · exact h.elim
theorem strIndex_ok : MtS T K (fun x xs H Q => ∃ a b i rest, x = .str a ∧ xs = [.str b] ∧ Builtin.Str.occurrences a b 0 a.length 1 = i :: rest ∧ Q (.int (i : Nat)) H) strIndex := by
  intro F S ι G H x xs vx vs W σ Q em dx dr h
  unfold strIndex at h
  split at h
  · rename_i a c
    obtain ⟨v, rfl, r⟩ := dr.one
    simp only [DR] at dx r
    have ho := occ_one a c 1 (Nat.le_refl _)
    cases e : fstAt c a with
    | some i =>
      rw [e] at h ho
      split at ho
      · rename_i j rest e2
        cases ho
        exact ⟨_, _, i, rest, dx, by rw [r], e2, Thn.ok h em (by simp only [DR])⟩
      · cases ho
    | none => rw [e] at h; exact h.elim
  · exact h.elim
theorem join_mk (a : List Nat) (ys : List (List Nat)) : Txt.join ⟨a.toArray⟩ (ys.map fun l => (⟨l.toArray⟩ : Str)) = ⟨(TL.joinL a ys).toArray⟩ := by
  rw [TL.join_eq]
  apply TL.ext_tl
  rw [TL.tl_join]
  show TL.joinL a ((ys.map fun l => (⟨l.toArray⟩ : Str)).map TL.tl) = TL.joinL a ys
  congr 1
  rw [List.map_map]
  conv => rhs; rw [← List.map_id ys]
  apply List.map_congr_left
  intro l _
  simp [TL.tl]
theorem join_fits {a : List Nat} {ys : List (List Nat)} (h1 : ys.length ≤ 1000) (h2 : a.length ≤ 1000) (h3 : (ys.all fun y => decide (y.length ≤ 1000)) = true) : (((ys.map fun l => (⟨l.toArray⟩ : Str)).map (·.length)).sum + (ys.map fun l => (⟨l.toArray⟩ : Str)).length * (⟨a.toArray⟩ : Str).length) ≤ 16777216 := by
  have key : ∀ zs : List (List Nat), (zs.all fun y => decide (y.length ≤ 1000)) = true → ((zs.map fun l => (⟨l.toArray⟩ : Str)).map (·.length)).sum ≤ zs.length * 1000 := by
    intro zs
    induction zs with
    | nil => intro _; simp
    | cons z zs ih =>
      intro h
      rw [List.all_cons, Bool.and_eq_true_iff] at h
      have := ih h.2
      have hz : z.length ≤ 1000 := of_decide_eq_true h.1
      simp only [List.sum_cons, List.length_cons, List.map_cons]
      rw [str_len]
      omega
  have h4 := key ys h3
  rw [List.length_map, str_len]
  have h5 : ys.length * 1000 ≤ 1000 * 1000 := Nat.mul_le_mul h1 (Nat.le_refl _)
  have h6 : ys.length * a.length ≤ 1000 * 1000 := Nat.mul_le_mul h1 h2
  omega
theorem strJoin_ok : MtS T K (fun x xs H Q => ∃ a p, ∃ ys : List Str, x = .str a ∧ xs = [.ref p] ∧ (SqL K H p (ys.map V.str) ∨ SqT K H p (ys.map V.str)) ∧
    (ys.map (·.length)).sum + ys.length * a.length ≤ 16777216 ∧ Q (.str (Txt.join a ys)) H) strJoin := by
  intro F S ι G H x xs vx vs W σ Q em dx dr h
  unfold strJoin at h
  split at h
  · rename_i a y
    obtain ⟨v, rfl, r⟩ := dr.one
    simp only [DR] at dx
    cases e1 : seqA y S with
    | none => rw [e1] at h; exact h.elim
    | some ds =>
      rw [e1] at h
      dsimp only [Option.bind_some] at h
      cases e2 : strsOf ds with
      | none => rw [e2] at h; exact h.elim
      | some ys =>
        rw [e2] at h
        dsimp only at h
        split at h
        · rename_i hc
          obtain ⟨p, us, rfl, hs, r2⟩ := seqA_ok em r e1
          rw [strsOf_ok r2 e2] at hs
          refine ⟨_, p, ys.map fun l => (⟨l.toArray⟩ : Str), dx, rfl, hs, join_fits hc.1 hc.2.1 hc.2.2, ?_⟩
          rw [join_mk]
          exact Thn.ok h em (by simp only [DR])
        · exact h.elim
  · exact h.elim
/-! ### xs.append(e) -/
def lstApp : OpM
  | .ref n, [y] => fun S => match S.get n with
    | some (.lst xs) => if xs.length < 100000 then .ok .non (S.set n (.lst (xs ++ [y]))) else .no
    | _ => .no
  | _, _ => M.no
theorem obj_at {F : Hp} {S : Store} {ι : List Addr} {G H : Hp} {n : Nat} {v : V} {o : MO} (em : Em T K F S ι G H) (h : DR T K G ι (.ref n) v) (e : S.get n = some o) : ∃ a u, v = .ref a ∧ ι[n]? = some a ∧ H a = some u ∧ OR T K G ι o u := by
  simp only [DR] at h
  obtain ⟨a, ha, rfl⟩ := h
  obtain ⟨a', u, h1, _, _, h4, h5⟩ := em.obj n o e
  rw [ha] at h1
  cases h1
  exact ⟨a, u, rfl, ha, h4, h5⟩
theorem lstApp_ok : MtS T K rAppend lstApp := by
  intro F S ι G H x xs vx vs W σ Q em dx dr h
  unfold lstApp at h
  split at h
  · rename_i n y
    obtain ⟨v, rfl, r⟩ := dr.one
    cases e : S.get n with
    | none => rw [e] at h; exact h.elim
    | some o =>
      rw [e] at h
      cases o with
      | lst ds =>
        dsimp only at h
        split at h
        · rename_i hl
          obtain ⟨a, u, rfl, ha, hu, us, rfl, hr⟩ := obj_at em dx e
          refine ⟨a, us, v, rfl, rfl, hu, by rw [← hr.length]; exact Nat.lt_of_lt_of_le hl (by decide), ?_⟩
          exact h _ _ _ _ (em.set (by rw [e]; rfl) ha ⟨_, rfl, hr.append (DRs.cons r DRs.nil)⟩) (Ext.refl _ _) (by simp only [DR])
        · exact h.elim
      | _ => exact h.elim
  · exact h.elim
end
end J

set_option Elab.async false
set_option linter.all false
set_option maxRecDepth 100000
set_option maxHeartbeats 410000
/-! J8: assignments, what is walked -/
namespace J
open PySem PySem.Spec L2
/-! ### target = value, the target names -/
def sAsgG (g : NG) (ie : IE) : IS := fun ρ => sBind (ie ρ) ρ fun d => match ngD g d ρ with
  | some ρ' => M.ret (.nx ρ')
  | none => M.no
section
variable {T : Tab} {X : Cx} {W : WX} {e tg : Expr} {ie : IE} {g : NG} {pos : Pos}
theorem js_asg (he : JE T X W e ie) (hg : PG X tg (ngV X.K g)) (hs : swapsWithSole [tg] e pos.line X.env = pure false := by rfl) (hw : swappedStores [tg] e X.env = pure none := by rfl)
    (h1 : (assignEach [tg] X.env).map (·.2) = [assign tg X.env] := by rfl) : JS T X W (.Assign [tg] e pos) (sAsgG g ie) := by
  refine PS.mono (ps_asg he hg hs hw h1) fun D σ H ⟨ρ, F, S, ι, G, em, sr, h⟩ => ⟨ρ, F, S, ι, G, em, sr, ThnS.bind (rel := DR T X.K) h sr fun a S1 v ι1 G1 H1 em1 x1 r h1 => ?_⟩
  cases q : ngD g a ρ with
  | none => rw [q] at h1; exact h1.elim
  | some ρ' =>
    rw [q] at h1
    exact ng_ok em1 (sr.mono x1) r q fun σ' sr' _ => h1.nx em1 sr'
/-- a, b = x, y -/
def sPar (i j : Nat) (ia : IA) : IS := fun ρ => sBind (ia ρ) ρ fun xs => match xs with
  | [x, y] => M.ret (.nx ((ρ.set i (some x)).set j (some y)))
  | _ => M.no
theorem js_par {i j : Nat} {x y : Str} {a b : Expr} {ia : IA} {px py pt : Pos} {kt k2 pt2} (hc : X.calm = true) (hN : X.N.Nodup) (hi : X.N[i]? = some x) (hj : X.N[j]? = some y) (hij : i ≠ j)
    (hx : X.env.scope.names.lookup x = some .local) (hy : X.env.scope.names.lookup y = some .local) (ha : JA T X W [a, b] ia)
    (hw : swappedStores [.Tuple [.Name x px, .Name y py] kt pt] (.Tuple [a, b] k2 pt2) X.env = pure (some [x, y]) := by rfl)
    (sole : swapsWithSole [.Tuple [.Name x px, .Name y py] kt pt] (.Tuple [a, b] k2 pt2) pos.line X.env = pure false := by rfl) :
    JS T X W (.Assign [.Tuple [.Name x px, .Name y py] kt pt] (.Tuple [a, b] k2 pt2) pos) (sPar i j ia) := by
  refine PS.mono (ps_par hc hN hi hj hij hx hy ha hw sole) fun D σ H ⟨ρ, F, S, ι, G, em, sr, h⟩ => ⟨ρ, F, S, ι, G, em, sr, ThnS.bind (rel := DRs T X.K) h sr fun xs S1 vs ι1 G1 H1 em1 x1 r h1 => ?_⟩
  match xs, r, h1 with
  | [d1, d2], r, h1 =>
    obtain ⟨v, w, rfl, r1, r2⟩ := r.two
    exact ⟨v, w, rfl, h1.nx em1 (((sr.mono x1).set r1 i).set r2 j)⟩
  | [], _, h1 => exact h1.elim
  | [_], _, h1 => exact h1.elim
  | _ :: _ :: _ :: _, _, h1 => exact h1.elim
end
/-! ### o[i] = v -/
abbrev OpSet := D → D → D → Store → Option Store
def setL : OpSet
  | .ref n, .int k, v, S => match S.get n with
    | some (.lst xs) => (ixN xs.length k).map fun j => S.set n (.lst (xs.set j v))
    | _ => none
  | _, _, _, _ => none
def SetS (T : Tab) (K : PySem.W.Frag) (r : TSet) (f : OpSet) : Prop := ∀ F S S' ι G H o i v vo vi vv (Q : Hp → Prop), Em T K F S ι G H → DR T K G ι o vo → DR T K G ι i vi → DR T K G ι v vv → f o i v S = some S' →
  (∀ G' H', Em T K F S' ι G' H' → Ext G ι G' ι → Q H') → r vo vi vv H Q
theorem setL_ok {T : Tab} {K : PySem.W.Frag} : SetS T K rSetL setL := by
  intro F S S' ι G H o i v vo vi vv Q em d1 d2 d3 e q
  cases o with
  | ref n =>
    cases i with
    | int k =>
      simp only [setL] at e
      cases e1 : S.get n with
      | none => rw [e1] at e; cases e
      | some ob =>
        rw [e1] at e
        cases ob with
        | lst xs =>
          dsimp only at e
          cases e2 : ixN xs.length k with
          | none => rw [e2] at e; cases e
          | some j =>
            rw [e2] at e
            cases e
            obtain ⟨a, u, rfl, ha, hu, us, rfl, hr⟩ := obj_at em d1 e1
            simp only [DR] at d2
            exact ⟨a, us, k, j, rfl, d2, hu, by rw [← hr.length]; exact e2, q G _ (em.set (by rw [e1]; rfl) ha ⟨_, rfl, hr.set d3 j⟩) (Ext.refl _ _)⟩
        | _ => cases e
    | _ => cases e
  | _ => cases e
def sSetI (f : OpSet) (ie io ii : IE) : IS := fun ρ => sBind (ie ρ) ρ fun v => sBind (io ρ) ρ fun o => sBind (ii ρ) ρ fun i => fun S => match f o i v S with
  | some S' => .ok (.nx ρ) S'
  | none => .no
section
variable {T : Tab} {X : Cx} {W : WX} {e o i : Expr} {ie io ii : IE} {pos p1 : Pos} {r : TSet} {f : OpSet}
theorem js_setI (hp : PSet X r) (hf : SetS T X.K r f) (he : JE T X W e ie) (ho : JE T X W o io) (hi : JE T X W i ii)
    (ha : ∀ v, assign (.Subscript o i p1) X.env v = (do
      let obv ← holding [v] (eval o X.env)
      let idx ← holding [v, obv] (eval i X.env)
      standAt p1
      holding [v, obv, idx] (setItem obv idx v)
      release [v, obv, idx] []) := by intro _; rfl)
    (hs : swapsWithSole [.Subscript o i p1] e pos.line X.env = pure false := by rfl) (hw : swappedStores [.Subscript o i p1] e X.env = pure none := by rfl)
    (h1 : (assignEach [.Subscript o i p1] X.env).map (·.2) = [assign (.Subscript o i p1) X.env] := by rfl) : JS T X W (.Assign [.Subscript o i p1] e pos) (sSetI f ie io ii) := by
  refine PS.mono (ps_asg he (pg_sub ho hi hp ha) hs hw h1) fun D σ H ⟨ρ, F, S, ι, G, em, sr, h⟩ => ⟨ρ, F, S, ι, G, em, sr, ThnS.bind (rel := DR T X.K) h sr fun v S1 vv ι1 G1 H1 em1 x1 d1 h1 => ?_⟩
  refine ⟨ρ, F, S1, ι1, G1, em1, sr.mono x1, ThnS.bind (rel := DR T X.K) h1 (sr.mono x1) fun ob S2 vo ι2 G2 H2 em2 x2 d2 h2 => ?_⟩
  refine ⟨ρ, F, S2, ι2, G2, em2, (sr.mono x1).mono x2, ThnS.bind (rel := DR T X.K) h2 ((sr.mono x1).mono x2) fun iv S3 vi ι3 G3 H3 em3 x3 d3 h3 => ?_⟩
  cases q : f ob iv v S3 with
  | none => rw [q] at h3; exact h3.elim
  | some S4 =>
    rw [q] at h3
    exact hf F S3 S4 ι3 G3 H3 ob iv v vo vi vv _ em3 (d2.mono x3.1 x3.2) d3 ((d1.mono x2.1 x2.2).mono x3.1 x3.2) q fun G' H' em' x' => h3 _ _ _ _ em' x' (((sr.mono x1).mono x2).mono (x3.trans x'))
/-- o[i], name = a tuple -/
def sSetIN (f : OpSet) (ie io ii : IE) (j : Nat) : IS := fun ρ => sBind (ie ρ) ρ fun d => match d with
  | .tup [v, w] => sBind (io ρ) ρ fun o => sBind (ii ρ) ρ fun i => fun S => match f o i v S with
    | some S' => .ok (.nx (ρ.set j (some w))) S'
    | none => .no
  | _ => M.no
theorem js_setIN {j : Nat} {x : Str} {pt p2 : Pos} {kt : Nat} (hc : X.calm = true) (hp : PSet X r) (hf : SetS T X.K r f) (hN : X.N.Nodup) (hj : X.N[j]? = some x) (hx : Loc X.env.scope x) (he : JE T X W e ie) (ho : JE T X W o io) (hi : JE T X W i ii)
    (ha : ∀ v, assign (.Subscript o i p1) X.env v = (do
      let obv ← holding [v] (eval o X.env)
      let idx ← holding [v, obv] (eval i X.env)
      standAt p1
      holding [v, obv, idx] (setItem obv idx v)
      release [v, obv, idx] []) := by intro _; rfl)
    (hfn : X.fn x = true ∨ X.env.scope.names.lookup x = some .local := by first | exact .inl rfl | exact .inr rfl | assumption)
    (hs : swapsWithSole [.Tuple [.Subscript o i p1, .Name x p2] kt pt] e pos.line X.env = pure false := by rfl) (hw : swappedStores [.Tuple [.Subscript o i p1, .Name x p2] kt pt] e X.env = pure none := by rfl)
    (h1 : (assignEach [.Tuple [.Subscript o i p1, .Name x p2] kt pt] X.env).map (·.2) = [assign (.Tuple [.Subscript o i p1, .Name x p2] kt pt) X.env] := by rfl)
    (ht : (assignEach [.Subscript o i p1, .Name x p2] X.env).map (·.2) = assign (.Subscript o i p1) X.env :: (assignEach [.Name x p2] X.env).map (·.2) := by rfl)
    (hn : (assignEach [.Subscript o i p1, .Name x p2] X.env).length = 2 := by rfl) (hst : (assignEach [.Subscript o i p1, .Name x p2] X.env).findIdx? (·.1) = none := by rfl) :
    JS T X W (.Assign [.Tuple [.Subscript o i p1, .Name x p2] kt pt] e pos) (sSetIN f ie io ii j) := by
  refine PS.mono (ps_asg he (pg_tup (n := 2) hc (pgs_cons (pg_sub ho hi hp ha) (pgs_cons (pg_name (i := j) hN hj hx hfn) pgs_nil) ht) hn hst) hs hw h1) fun D σ H ⟨ρ, F, S, ι, G, em, sr, h⟩ => ⟨ρ, F, S, ι, G, em, sr, ThnS.bind (rel := DR T X.K) h sr fun d S1 vd ι1 G1 H1 em1 x1 d1 h1 => ?_⟩
  match d, d1, h1 with
  | .tup [v, w], d1, h1 =>
    simp only [DR] at d1
    obtain ⟨a, vs, rfl, hG, rs⟩ := d1
    obtain ⟨vv, vw, rfl, r1, r2⟩ := rs.two
    refine ⟨a, _, rfl, SqT.of (em1.sub _ _ hG), rfl, vv, [vw], rfl, ?_⟩
    refine ⟨ρ, F, S1, ι1, G1, em1, sr.mono x1, ThnS.bind (rel := DR T X.K) h1 (sr.mono x1) fun ob S2 vo ι2 G2 H2 em2 x2 d2 h2 => ?_⟩
    refine ⟨ρ, F, S2, ι2, G2, em2, (sr.mono x1).mono x2, ThnS.bind (rel := DR T X.K) h2 ((sr.mono x1).mono x2) fun iv S3 vi ι3 G3 H3 em3 x3 d3 h3 => ?_⟩
    cases q : f ob iv v S3 with
    | none => rw [q] at h3; exact h3.elim
    | some S4 =>
      rw [q] at h3
      refine hf F S3 S4 ι3 G3 H3 ob iv v vo vi vv _ em3 (d2.mono x3.1 x3.2) d3 ((r1.mono x2.1 x2.2).mono x3.1 x3.2) q fun G' H' em' x' => ?_
      refine ⟨vw, [], rfl, rfl, ?_⟩
      exact h3 _ _ _ _ em' x' ((((sr.mono x1).mono x2).mono (x3.trans x')).set (r2.mono (x2.trans (x3.trans x')).1 (x2.trans (x3.trans x')).2) j)
  | .tup [], _, h1 => exact h1.elim
  | .tup [_], _, h1 => exact h1.elim
  | .tup (_ :: _ :: _ :: _), _, h1 => exact h1.elim
  | .non, _, h1 => exact h1.elim
  | .bl _, _, h1 => exact h1.elim
  | .int _, _, h1 => exact h1.elim
  | .str _, _, h1 => exact h1.elim
  | .ty _, _, h1 => exact h1.elim
  | .glo _, _, h1 => exact h1.elim
  | .lst _, _, h1 => exact h1.elim
  | .scr _, _, h1 => exact h1.elim
  | .dct _ _, _, h1 => exact h1.elim
  | .ins _ _, _, h1 => exact h1.elim
  | .ref _, _, h1 => exact h1.elim
end
/-! ### name op= e -/
def sAug (i : Nat) (f : Op2) (ie : IE) : IS := fun ρ => match ρ.getD i none with
  | some x => sBind (ie ρ) ρ fun y => fun S => match f x y S with
    | some d => .ok (.nx (ρ.set i (some d))) S
    | none => .no
  | none => M.no
theorem js_aug {T : Tab} {X : Cx} {W : WX} {i : Nat} {x : Str} {e : Expr} {ie : IE} {op : Operator} {r : TIp} {f : Op2} {pos pos' : Pos} (hN : X.N.Nodup) (hi : X.N[i]? = some x) (hx : Loc X.env.scope x) (he : JE T X W e ie) (ho : PIp X op r) (hf : OpS T X.K r f)
    (hfn : X.fn x = true ∨ X.env.scope.names.lookup x = some .local := by first | exact .inl rfl | exact .inr rfl | assumption) : JS T X W (.AugAssign (.Name x pos') op e pos) (sAug i f ie) := by
  refine PS.mono (ps_aug hN hi hx he ho hfn) fun D σ H ⟨ρ, F, S, ι, G, em, sr, h⟩ => ?_
  unfold sAug at h
  rw [List.getD_eq_getElem?_getD] at h
  cases q : ρ[i]? with
  | none => rw [q] at h; exact h.elim
  | some ox =>
    rw [q] at h
    cases ox with
    | none => exact h.elim
    | some d =>
      obtain ⟨v, hv, dr⟩ := sr.at_ i d q
      refine ⟨v, hv, ρ, F, S, ι, G, em, sr, ThnS.bind (rel := DR T X.K) h sr fun y S1 vy ι1 G1 H1 em1 x1 dy h1 => ?_⟩
      cases qf : f d y S1 with
      | none => rw [qf] at h1; exact h1.elim
      | some z =>
        rw [qf] at h1
        exact hf F S1 ι1 G1 H1 d y z v vy _ em1 (dr.mono x1.1 x1.2) dy qf fun w G' H' em' x' r' => h1 _ _ _ _ em' x' ((sr.mono (x1.trans x')).set r' i)
/-! ### what is walked: lists, tuples, texts -/
def items : D → Option (List D)
  | .lst xs => some xs
  | .scr xs => some xs
  | .tup xs => some xs
  | .str a => some (a.map fun c => .str [c])
  | _ => none
def iItems (ie : IE) : IA := fun ρ => M.bind (ie ρ) fun d => lift (items d)
theorem PI.or {X : Cx} {tg e : Expr} {t u : TI} (h : PI X tg e t) (k : PI X tg e u) : PI X tg e (fun σ H R => t σ H R ∨ u σ H R) := ⟨fun pins s σ H R I q => q.elim (h.run pins s σ H R I) (k.run pins s σ H R I)⟩
section
variable {T : Tab} {K : PySem.W.Frag} {ι : List Addr} {G : Hp}
theorem walk_list {a : Addr} {xs : List D} {vs : List V} (h : SqL K G a vs) (r : DRs T K G ι xs vs) : Walk T K ι G (Itl K a) xs := by
  intro i F S ι1 G1 H1 em x
  have hs := Same.seq em.sub (Same.seq x.1 h)
  refine ⟨fun d e => ?_, fun e => ⟨vs, hs, by rw [e, r.length]; exact Nat.le_refl _⟩⟩
  obtain ⟨v, hv, dv⟩ := r.get e
  refine ⟨⟨vs, v, hs, hv⟩, fun w H2 hy => ?_⟩
  obtain ⟨rfl, hw⟩ := hy
  have e2 := hw vs hs
  rw [hv] at e2
  cases e2
  exact ⟨G1, em, Ext.refl _ _, dv.mono x.1 x.2⟩
theorem walk_tup {a : Addr} {xs : List D} {vs : List V} (h : G a = some (.tup vs)) (r : DRs T K G ι xs vs) : Walk T K ι G (Itt K a) xs := by
  intro i F S ι1 G1 H1 em x
  have hs : SqT K H1 a vs := SqT.of (em.sub _ _ (x.1 _ _ h))
  refine ⟨fun d e => ?_, fun e => ⟨vs, hs, by rw [e, r.length]; exact Nat.le_refl _⟩⟩
  obtain ⟨v, hv, dv⟩ := r.get e
  refine ⟨⟨vs, v, hs, hv⟩, fun w H2 hy => ?_⟩
  obtain ⟨rfl, hw⟩ := hy
  have e2 := hw vs hs
  rw [hv] at e2
  cases e2
  exact ⟨G1, em, Ext.refl _ _, dv.mono x.1 x.2⟩
theorem walk_str {l : List Nat} : Walk T K ι G (Its ⟨l.toArray⟩) (l.map fun c => .str [c]) := by
  intro i F S ι1 G1 H1 em x
  refine ⟨fun d e => ?_, fun e => ?_⟩
  · rw [List.getElem?_map] at e
    cases q : l[i]? with
    | none => (rw [q] at e); exact nomatch e
    | some c =>
      rw [q] at e
      cases e
      have hl := (List.getElem?_eq_some_iff.mp q).1
      refine ⟨by show i < l.toArray.size; simpa using hl, fun w H2 hy => ?_⟩
      obtain ⟨rfl, c', hc, rfl⟩ := hy
      have hc2 : l[i]? = some c' := by simpa using hc
      rw [q] at hc2
      cases hc2
      exact ⟨G1, em, Ext.refl _ _, by simp only [DR]⟩
  · show l.toArray.size ≤ i
    rw [e]
    simp
theorem walk_range {lo : Int} {n : Nat} : Walk T K ι G (Itr lo n) ((List.range n).map fun i : Nat => .int (lo + (i : Int))) := by
  intro i F S ι1 G1 H1 em x
  refine ⟨fun d e => ?_, fun e => ?_⟩
  · rw [List.getElem?_map] at e
    cases q : (List.range n)[i]? with
    | none => (rw [q] at e); exact nomatch e
    | some c =>
      rw [q] at e
      cases e
      obtain ⟨hl, e2⟩ := List.getElem?_eq_some_iff.mp q
      rw [List.getElem_range] at e2
      subst e2
      refine ⟨by show i < n; simpa using hl, fun w H2 hy => ?_⟩
      obtain ⟨rfl, rfl⟩ := hy
      exact ⟨G1, em, Ext.refl _ _, by simp only [DR]⟩
  · show n ≤ i
    rw [e]
    simp
end
section
variable {T : Tab} {X : Cx} {W : WX} {e tg : Expr} {ie : IE} {ia : IA} {p pos : Pos}
theorem bind_lift1 {α β : Type} {o : Option α} {k : α → M β} {S : Store} : M.bind (lift o) k S = (match o with
    | some a => k a S
    | none => .no) := by
  unfold M.bind lift
  cases o <;> rfl
theorem ji_items (he : JE T X W e ie) : JI T X W tg e (iItems ie) := by
  refine PI.mono (PI.or (pi_list he) (PI.or (pi_tup he) (pi_str he))) fun σ H R ⟨ρ, F, S, ι, G, em, sr, h⟩ => ?_
  unfold iItems M.bind at h
  cases q : ie ρ S with
  | no => rw [q] at h; exact h.elim
  | ex c fs S1 =>
    rw [q] at h
    exact .inl ⟨ρ, F, S, ι, G, em, sr, by rw [q]; exact h⟩
  | ok d S1 =>
    rw [q] at h
    dsimp only at h
    cases d with
    | lst xs =>
      refine .inl ⟨ρ, F, S, ι, G, em, sr, ?_⟩
      rw [q]
      intro v ι1 G1 H1 em1 x1 dr
      simp only [DR] at dr
      obtain ⟨a, vs, rfl, hG, r⟩ := dr
      exact ⟨a, rfl, ⟨vs, SqL.of (em1.sub _ _ hG)⟩, h _ _ _ _ em1 x1 (walk_list (SqL.of hG) r)⟩
    | scr xs =>
      refine .inl ⟨ρ, F, S, ι, G, em, sr, ?_⟩
      rw [q]
      intro v ι1 G1 H1 em1 x1 dr
      simp only [DR] at dr
      obtain ⟨a, vs, rfl, hG, r⟩ := dr
      exact ⟨a, rfl, ⟨vs, Same.seq em1.sub hG⟩, h _ _ _ _ em1 x1 (walk_list hG r)⟩
    | tup xs =>
      refine .inr (.inl ⟨ρ, F, S, ι, G, em, sr, ?_⟩)
      rw [q]
      intro v ι1 G1 H1 em1 x1 dr
      simp only [DR] at dr
      obtain ⟨a, vs, rfl, hG, r⟩ := dr
      exact ⟨a, rfl, ⟨vs, SqT.of (em1.sub _ _ hG)⟩, h _ _ _ _ em1 x1 (walk_tup hG r)⟩
    | str l =>
      refine .inr (.inr ⟨ρ, F, S, ι, G, em, sr, ?_⟩)
      rw [q]
      intro v ι1 G1 H1 em1 x1 dr
      simp only [DR] at dr
      exact ⟨_, dr, h _ _ _ _ em1 x1 walk_str⟩
    | _ => exact h.elim
/-- range(n) -/
def rng (lo : Int) (n : Nat) : List D := (List.range n).map fun i : Nat => .int (lo + (i : Int))
def range1 : List D → Option (List D)
  | [.int n] => if -100000 ≤ n ∧ n ≤ 100000 then some (rng 0 n.toNat) else none
  | _ => none
def range2 : List D → Option (List D)
  | [.int a, .int b] => if (-100000 ≤ a ∧ a ≤ 100000) ∧ -100000 ≤ b ∧ b ≤ 100000 then some (rng a (b - a).toNat) else none
  | _ => none
theorem range1_some {xs ys : List D} (h : range1 xs = some ys) : ∃ n : Int, xs = [.int n] ∧ -100000 ≤ n ∧ n ≤ 100000 ∧ ys = rng 0 n.toNat := by
  unfold range1 at h
  split at h
  · split at h
    · rename_i hn
      cases h
      exact ⟨_, rfl, hn.1, hn.2, rfl⟩
    · cases h
  · cases h
theorem range2_some {xs ys : List D} (h : range2 xs = some ys) : ∃ a b : Int, xs = [.int a, .int b] ∧ ((-100000 ≤ a ∧ a ≤ 100000) ∧ -100000 ≤ b ∧ b ≤ 100000) ∧ ys = rng a (b - a).toNat := by
  unfold range2 at h
  split at h
  · split at h
    · rename_i hn
      cases h
      exact ⟨_, _, rfl, hn, rfl⟩
    · cases h
  · cases h
def iRange (f : List D → Option (List D)) (ia : IA) : IA := fun ρ => M.bind (ia ρ) fun xs => lift (f xs)
theorem src_go {f : List D → Option (List D)} {σ : L2.St} {H : Hp} {R : It → Hp → Prop} {Q : List V → Hp → Prop} (h : tI T X.K W (iRange f ia) σ H R)
    (k : ∀ xs ys F S vs ι1 G1 H1, Em T X.K F S ι1 G1 H1 → DRs T X.K G1 ι1 xs vs → f xs = some ys → (∀ J, Walk T X.K ι1 G1 J ys → R J H1) → Q vs H1) : tA T X.K W ia σ H Q := by
  obtain ⟨ρ, F, S, ι, G, em, sr, h⟩ := h
  refine ⟨ρ, F, S, ι, G, em, sr, ?_⟩
  unfold iRange M.bind at h
  cases q : ia ρ S with
  | no => rw [q] at h; exact h.elim
  | ex c fs S1 => rw [q] at h; exact h
  | ok xs S1 =>
    rw [q] at h
    intro vs ι1 G1 H1 em1 x1 dr
    cases e : f xs with
    | none => simp only [e] at h; exact h.elim
    | some ys =>
      simp only [e] at h
      exact k xs ys F S1 vs ι1 G1 H1 em1 dr e fun J wk => h J ι1 G1 H1 em1 x1 wk
theorem ji_range1 {a : Expr} (hg : Gl X "range") (hm : X.mg "range" = none) (ha : JA T X W [a] ia) (hs : starEach [a] X.env = [(false, eval a X.env)] := by rfl) : JI T X W tg (.Call (.Name "range" p) [a] [] pos) (iRange range1 ia) := by
  refine PI.mono (pi_range1 hg hm ha hs) fun σ H R h => src_go h fun xs ys F S vs ι1 G1 H1 em dr e k => ?_
  obtain ⟨n, rfl, h1, h2, rfl⟩ := range1_some e
  obtain ⟨v, rfl, r⟩ := dr.one
  simp only [DR] at r
  subst r
  exact ⟨n, rfl, by omega, by omega, k _ walk_range⟩
theorem ji_range2 {a b : Expr} (hg : Gl X "range") (hm : X.mg "range" = none) (ha : JA T X W [a, b] ia) (hs : starEach [a, b] X.env = [(false, eval a X.env), (false, eval b X.env)] := by rfl) (hs2 : starEach [b] X.env = [(false, eval b X.env)] := by rfl) :
    JI T X W tg (.Call (.Name "range" p) [a, b] [] pos) (iRange range2 ia) := by
  refine PI.mono (pi_range2 hg hm ha hs hs2) fun σ H R h => src_go h fun xs ys F S vs ι1 G1 H1 em dr e k => ?_
  obtain ⟨a, b, rfl, h1, rfl⟩ := range2_some e
  obtain ⟨v, w, rfl, r, r2⟩ := dr.two
  simp only [DR] at r r2
  subst r; subst r2
  exact ⟨a, b, rfl, ⟨by omega, by omega, by omega, by omega⟩, k _ walk_range⟩
end
end J

set_option Elab.async false
set_option linter.all false
set_option maxRecDepth 100000
set_option maxHeartbeats 410000
/-! J9: instances of own classes -/
namespace J
open PySem PySem.Spec L2
def pick (f : Nat) : List Nat → List D → Option D
  | g :: gs, x :: xs => if g = f then some x else pick f gs xs
  | _, _ => none
def getF (f : Nat) : List (Nat × D) → Option D
  | [] => none
  | (g, x) :: r => if g = f then some x else getF f r
def putD (f : Nat) (d : D) : List (Nat × D) → List (Nat × D)
  | [] => [(f, d)]
  | (g, x) :: r => if g = f then (g, d) :: r else (g, x) :: putD f d r
section
variable {T : Tab} {K : PySem.W.Frag} {ι : List Addr} {G : Hp}
theorem lk_hit {f : Str} {v : V} {r : List (Str × V)} : List.lookup f ((f, v) :: r) = some v := by simp [List.lookup]
theorem lk_miss {f g : Str} {v : V} {r : List (Str × V)} (h : g ≠ f) : List.lookup f ((g, v) :: r) = List.lookup f r := by
  have : (f == g) = false := by simpa using fun z => h z.symm
  simp [List.lookup, this]
theorem pick_ok {f : Nat} {d : D} : ∀ {fs : List Nat} {xs : List D} {vs : List V}, DRs T K G ι xs vs → pick f fs xs = some d → ∃ v, (named T fs vs).lookup (T.fn f) = some v ∧ DR T K G ι d v
  | [], _, _, _, e => by cases e
  | g :: gs, [], _, _, e => by cases e
  | g :: gs, x :: xs, _, r, e => by
    simp only [DRs] at r
    obtain ⟨v, us, rfl, r1, r2⟩ := r
    unfold pick at e
    unfold named
    by_cases h : g = f
    · subst h
      rw [if_pos rfl] at e
      cases e
      exact ⟨v, lk_hit, r1⟩
    · rw [if_neg h] at e
      rw [lk_miss fun z => h (T.inj _ _ z)]
      exact pick_ok r2 e
theorem named_none {m : Str} : ∀ {fs : List Nat} {vs : List V}, (∀ g ∈ fs, T.fn g ≠ m) → (named T fs vs).lookup m = none
  | [], _, _ => rfl
  | g :: gs, [], _ => rfl
  | g :: gs, v :: vs, h => by
    unfold named
    rw [lk_miss (h g List.mem_cons_self)]
    exact named_none fun g' h' => h g' (List.mem_cons_of_mem _ h')
theorem getF_ok {f : Nat} {d : D} : ∀ {fs : List (Nat × D)} {vs : List (Str × V)}, FRs T K G ι fs vs → getF f fs = some d → ∃ v, vs.lookup (T.fn f) = some v ∧ DR T K G ι d v
  | [], _, _, e => by cases e
  | (g, x) :: r, _, ⟨v, us, h, r1, r2⟩, e => by
    subst h
    unfold getF at e
    by_cases h : g = f
    · subst h
      rw [if_pos rfl] at e
      cases e
      exact ⟨v, lk_hit, r1⟩
    · rw [if_neg h] at e
      rw [lk_miss fun z => h (T.inj _ _ z)]
      exact getF_ok r2 e
theorem FRs.none {m : Str} : ∀ {fs : List (Nat × D)} {vs : List (Str × V)}, FRs T K G ι fs vs → (∀ p ∈ fs, T.fn p.1 ≠ m) → vs.lookup m = none
  | [], _, h, _ => by
    have h' : _ = [] := h
    subst h'
    rfl
  | (g, x) :: r, _, ⟨v, us, h, r1, r2⟩, n => by
    subst h
    rw [lk_miss (n (g, x) List.mem_cons_self)]
    exact FRs.none r2 fun p hp => n p (List.mem_cons_of_mem _ hp)
theorem putD_ok {f : Nat} {d : D} {v : V} (hd : DR T K G ι d v) : ∀ {fs : List (Nat × D)} {vs : List (Str × V)}, FRs T K G ι fs vs → FRs T K G ι (putD f d fs) (putF (T.fn f) v vs)
  | [], _, h => by
    have h' : _ = [] := h
    subst h'
    exact ⟨v, [], rfl, hd, rfl⟩
  | (g, x) :: r, _, ⟨u, us, h, r1, r2⟩ => by
    subst h
    unfold putD putF
    by_cases hg : g = f
    · subst hg
      rw [if_pos rfl, if_pos rfl]
      exact ⟨v, us, rfl, hd, r2⟩
    · rw [if_neg hg, if_neg fun z => hg (T.inj _ _ z)]
      exact ⟨u, _, rfl, r1, putD_ok hd r2⟩
theorem FRs.length : ∀ {fs : List (Nat × D)} {vs : List (Str × V)}, FRs T K G ι fs vs → fs.length = vs.length
  | [], _, h => by
    have h' : _ = [] := h
    subst h'
    rfl
  | (g, x) :: r, _, ⟨u, us, h, r1, r2⟩ => by
    subst h
    simp [FRs.length r2]
/-- an object's fields become a tree -/
theorem FRs.named : ∀ {fs : List (Nat × D)} {vs : List (Str × V)}, FRs T K G ι fs vs → ∃ us, vs = J.named T (fs.map (·.1)) us ∧ us.length = fs.length ∧ DRs T K G ι (fs.map (·.2)) us
  | [], _, h => by
    have h' : _ = [] := h
    subst h'
    exact ⟨[], rfl, rfl, DRs.nil⟩
  | (g, x) :: r, _, ⟨u, us, h, r1, r2⟩ => by
    subst h
    obtain ⟨ws, e, l, dr⟩ := FRs.named r2
    subst e
    exact ⟨u :: ws, rfl, by simp [l], DRs.cons r1 dr⟩
end
/-- what the text says of a class -/
structure ClsJ (T : Tab) (K : PySem.W.Frag) (c : Nat) : Prop where
  cl : Cls K (He.ga K (T.cn c))
  no : ∀ f ∈ T.fs c, NoAttr K (He.ga K (T.cn c)) (T.fn f)
/-- the class and the fields of an instance -/
def insOf (T : Tab) : D → Store → Option (Nat × List (Nat × D))
  | .ins c xs, _ => if xs.length = (T.fs c).length then some (c, (T.fs c).zip xs) else none
  | .ref n, S => match S.get n with
    | some (.ins c fs) => some (c, fs)
    | _ => none
  | _, _ => none
section
variable {T : Tab} {K : PySem.W.Frag} {ι : List Addr} {G : Hp}
theorem FRs.zip : ∀ {fs : List Nat} {xs : List D} {vs : List V}, DRs T K G ι xs vs → fs.length = xs.length → FRs T K G ι (fs.zip xs) (J.named T fs vs)
  | [], [], _, r, _ => by simp only [DRs] at r; subst r; rfl
  | f :: fs, x :: xs, _, r, h => by
    simp only [DRs] at r
    obtain ⟨v, us, rfl, r1, r2⟩ := r
    exact ⟨v, _, rfl, r1, FRs.zip r2 (by simpa using h)⟩
  | [], _ :: _, _, _, h => by simp at h
  | _ :: _, [], _, _, h => by simp at h
theorem insOf_ok {F : Hp} {S : Store} {H : Hp} {x : D} {v : V} {c : Nat} {fs : List (Nat × D)} (em : Em T K F S ι G H) (h : DR T K G ι x v) (e : insOf T x S = some (c, fs)) : ∃ a dx vs, v = .ref a ∧ H a = some (.ins (He.ga K (T.cn c)) dx vs) ∧ FRs T K G ι fs vs := by
  cases x with
  | ins c' xs =>
    simp only [insOf] at e
    split at e
    · rename_i hl
      cases e
      simp only [DR] at h
      obtain ⟨a, dx, vs, rfl, l, q, r⟩ := h
      exact ⟨a, dx, _, rfl, em.sub _ _ q, FRs.zip r hl.symm⟩
    · cases e
  | ref n =>
    simp only [insOf] at e
    cases q : S.get n with
    | none => (rw [q] at e); exact nomatch e
    | some o =>
      rw [q] at e
      cases o with
      | ins c' fs' =>
        cases e
        obtain ⟨a, u, rfl, ha, hu, dx, vs, rfl, r⟩ := obj_at em h q
        exact ⟨a, dx, vs, rfl, hu, r⟩
      | _ => cases e
  | _ => cases e
end
/-! ### e.f -/
def iFld (T : Tab) (cs : List Nat) (f : Nat) (ie : IE) : IE := fun ρ => M.bind (ie ρ) fun d => fun S => match insOf T d S with
  | some (c, fs) => if cs.contains c = true then lift (getF f fs) S else .no
  | none => .no
section
variable {T : Tab} {X : Cx} {W : WX} {e : Expr} {ie : IE} {cs : List Nat} {f : Nat} {x : Str} {pos : Pos}
theorem je_fld (he : JE T X W e ie) (hc : ∀ c ∈ cs, ClsJ T X.K c ∧ f ∈ T.fs c) (hx : x = T.fn f) (hb : attributeBase e x X.env (eval e X.env) = eval e X.env := by rfl) : JE T X W (.Attribute e x pos) (iFld T cs f ie) := by
  refine PE.mono (pe_fld he hb) fun σ H Q ⟨ρ, F, S, ι, G, em, sr, h⟩ => ?_
  refine ⟨ρ, F, S, ι, G, em, sr, Thn.bind (rel2 := DR T X.K) h fun d S1 v ι1 G1 H1 em1 x1 dr h1 => ?_⟩
  cases q : insOf T d S1 with
  | none => simp only [q] at h1; exact h1.elim
  | some p =>
    obtain ⟨c, fs⟩ := p
    simp only [q] at h1
    split at h1
    · rename_i hm
      obtain ⟨y, e2, h2⟩ := Thn.lift h1
      obtain ⟨a, dx, vs, rfl, ha, r⟩ := insOf_ok em1 dr q
      obtain ⟨u, hu, ru⟩ := getF_ok r e2
      obtain ⟨C, hf⟩ := hc c (by simpa using hm)
      subst hx
      exact ⟨a, _, dx, vs, u, rfl, ha, C.cl, C.no f hf, hu, Thn.ok h2 em1 ru⟩
    · exact h1.elim
end
/-! ### e.f = v -/
def sSetA (T : Tab) (cs : List Nat) (f : Nat) (ie io : IE) : IS := fun ρ => sBind (ie ρ) ρ fun v => sBind (io ρ) ρ fun o => fun S => match o with
  | .ref n => (match S.get n with
    | some (.ins c fs) => if (cs.contains c && decide (fs.length < 100)) = true then .ok (.nx ρ) (S.set n (.ins c (putD f v fs))) else .no
    | _ => .no)
  | _ => .no
section
variable {T : Tab} {X : Cx} {W : WX} {o value : Expr} {io ie : IE} {cs : List Nat} {f : Nat} {x : Str} {pos pos' : Pos}
theorem js_setA (ho : JE T X W o io) (hv : JE T X W value ie) (hc : ∀ c ∈ cs, ClsJ T X.K c ∧ f ∈ T.fs c) (hx : x = T.fn f) (hs : swapsWith value (some (.Attribute o x pos')) pos.line X.env = pure false := by rfl) : JS T X W (.Assign [.Attribute o x pos'] value pos) (sSetA T cs f ie io) := by
  refine PS.mono (ps_fld ho hv hs) fun D σ H ⟨ρ, F, S, ι, G, em, sr, h⟩ => ⟨ρ, F, S, ι, G, em, sr, ThnS.bind (rel := DR T X.K) h sr fun d S1 v ι1 G1 H1 em1 x1 dr h1 => ?_⟩
  refine ⟨ρ, F, S1, ι1, G1, em1, sr.mono x1, ThnS.bind (rel := DR T X.K) h1 (sr.mono x1) fun ob S2 vo ι2 G2 H2 em2 x2 d2 h2 => ?_⟩
  cases ob with
  | ref n =>
    cases q : S2.get n with
    | none => simp only [q] at h2; exact h2.elim
    | some u =>
      cases u with
      | ins c fs =>
        simp only [q] at h2
        split at h2
        · rename_i hm
          rw [Bool.and_eq_true_iff] at hm
          obtain ⟨a, u, rfl, ha, hu, dx, vs, rfl, r⟩ := obj_at em2 d2 q
          obtain ⟨C, hf⟩ := hc c (by simpa using hm.1)
          have hl : fs.length < 100 := of_decide_eq_true hm.2
          subst hx
          refine ⟨a, _, dx, vs, rfl, hu, C.cl, C.no f hf, by rw [← r.length]; omega, ?_⟩
          exact h2 _ _ _ _ (em2.set (by rw [q]; rfl) ha ⟨dx, _, rfl, putD_ok (dr.mono x2.1 x2.2) r⟩) (Ext.refl _ _) ((sr.mono x1).mono x2)
        · exact h2.elim
      | _ => simp only [q] at h2; exact h2.elim
  | _ => exact h2.elim
end
/-! ### C(..) -/
/-- __init__ of a class -/
def GoodI (P : Program) (w : World) (T : Tab) (K : PySem.W.Frag) (mg : Str → Option Value) (base : Heap) (k : Nat) (c : Nat) (ps : List Str) (sem : List D → M D) : Prop :=
  ∃ f fd, FnG P w K mg base k f fd ps (spJ T K ps.length sem) ∧ Binds K fd ps [] ∧ Mk K (He.ga K (T.cn c)) f ∧ mg (T.cn c) = some (.ref (He.ga K (T.cn c)))
/-- what is made: a tree (frz) or an object of the store -/
def madeD (T : Tab) (frz : Bool) (c n : Nat) : M D := fun S => if frz = true then (match S.get n with
    | some (.ins c' fs) => if c' = c ∧ fs.map (·.1) = T.fs c then .ok (.ins c (fs.map (·.2))) (S.del n) else .no
    | _ => .no) else .ok (.ref n) S
def makeD (T : Tab) (frz : Bool) (c k : Nat) (sem : List D → M D) (xs : List D) : M D := fun S => if xs.length + 1 = k then (match sem (.ref S.next :: xs) (S.alloc (.ins c [])) with
    | .ok .non S' => madeD T frz c S.next S'
    | .ex c fs S' => .ex c fs S'
    | _ => .no) else .no
def iMake (T : Tab) (frz : Bool) (c k : Nat) (sem : List D → M D) (ia : IA) : IE := fun ρ => M.bind (ia ρ) (makeD T frz c k sem)
theorem made_ok {T : Tab} {K : PySem.W.Frag} {F : Hp} {S : Store} {ι : List Addr} {G H : Hp} {W : WX} {σ : L2.St} {Q : VK} {frz : Bool} {c n : Nat} {a : Addr} (em : Em T K F S ι G H) (ha : ι[n]? = some a) (h : Thn T K F W σ G ι (DR T K) (madeD T frz c n S) Q) : Q (.ref a) H := by
  unfold madeD at h
  cases frz with
  | false => exact Thn.ok h em (by simp only [DR]; exact ⟨a, ha, rfl⟩)
  | true =>
    rw [if_pos rfl] at h
    cases q : S.get n with
    | none => rw [q] at h; exact h.elim
    | some o =>
      rw [q] at h
      cases o with
      | ins c' fs =>
        dsimp only at h
        split at h
        · rename_i hc
          obtain ⟨a', u, h1, h2, ⟨dx, vs, rfl, r⟩, em2, x2⟩ := em.freeze q
          rw [ha] at h1
          cases h1
          obtain ⟨us, e1, e2, dr⟩ := (r.mono x2.1 x2.2).named
          refine h _ _ _ _ em2 x2 ?_
          simp only [DR]
          refine ⟨a, dx, us, rfl, ?_, ?_, dr⟩
          · rw [← hc.2, List.length_map]
            exact e2.symm
          · rw [upd_same, ← hc.2, ← e1, hc.1]
        · exact h.elim
      | _ => exact h.elim
section
variable {T : Tab} {X : Cx} {W : WX} {e : Expr} {es : List Expr} {ia : IA} {pos p : Pos} {sem : List D → M D} {x : Str} {ps : List Str} {k c : Nat} {frz : Bool}
theorem make_g {pins : List (Addr × Obj)} {σ : L2.St} {H : Hp} {s : Shared} {Q : VK} {us : List Value} {vs : List V} {f : Addr} {fd : FuncData} {F : Hp} {S : Store} {ι : List Addr} {G : Hp} {xs : List D}
    (Fg : FnG X.prog X.w X.K X.mg X.base k f fd ps (spJ T X.K ps.length sem)) (hb : Binds X.K fd ps []) (mk : Mk X.K (He.ga X.K (T.cn c)) f) (hr : Rg (k + 1) X.A) (tk : Takes X W) (I : Inv X pins σ H s) (r : Vals vs us)
    (em : Em T X.K F S ι G H) (dr : DRs T X.K G ι xs vs) (h : Thn T X.K F W σ G ι (DR T X.K) (makeD T frz c ps.length sem xs S) Q) : wpAny (model X.prog X.w) X.A (call (.ref (He.ga X.K (T.cn c))) us) (EP X pins σ Q) X.xe s := by
  unfold makeD at h
  by_cases hl : xs.length + 1 = ps.length
  case neg => rw [if_neg hl] at h; exact h.elim
  rw [if_pos hl] at h
  have I2 := Inv.made (C := He.ga X.K (T.cn c)) I
  have n0 : H s.heap.objs.size = none := I.hok.fresh (Nat.le_refl _)
  have n1 : (upd H s.heap.objs.size (.own (s.heap.objs.size + 1))) (s.heap.objs.size + 1) = none := by
    rw [upd_ne (Nat.succ_ne_self _)]
    exact I.hok.fresh (Nat.le_succ _)
  obtain ⟨em2, x2, hn⟩ := (em.junk (o := .own (s.heap.objs.size + 1)) n0).alloc (o := .ins c []) (u := .ins (He.ga X.K (T.cn c)) s.heap.objs.size []) n1 ⟨_, _, rfl, rfl⟩
  have want : spJ T X.K ps.length sem (.ref (s.heap.objs.size + 1) :: vs) (upd (upd H s.heap.objs.size (.own (s.heap.objs.size + 1))) (s.heap.objs.size + 1) (.ins (He.ga X.K (T.cn c)) s.heap.objs.size []))
      (fun v H2 => v = .non ∧ Q (.ref (s.heap.objs.size + 1)) H2) (fun cl d H => W cl d σ H) := by
    refine ⟨by rw [List.length_cons, ← dr.length]; exact hl, .ref S.next :: xs, F, _, _, G, em2, DRs.cons (by simp only [DR]; exact ⟨_, hn, rfl⟩) (dr.mono x2.1 x2.2), ?_⟩
    cases q : sem (.ref S.next :: xs) (S.alloc (.ins c [])) with
    | no => rw [q] at h; exact h.elim
    | ex c' fs S' =>
      rw [q] at h
      exact fun dd ι' G' H' em' y xr => h dd ι' G' H' em' (x2.trans y) xr
    | ok d S' =>
      rw [q] at h
      cases d with
      | non =>
        intro v ι' G' H' em' y dv
        simp only [DR] at dv
        exact ⟨dv, made_ok em' (y.2 _ _ hn) (Thn.ext h (x2.trans y))⟩
      | _ => exact h.elim
  have r2 : Vals (V.ref (s.heap.objs.size + 1) :: vs) (Value.ref (s.heap.objs.size + 1) :: us) := by exact .cons rfl r
  have ll : (Value.ref (s.heap.objs.size + 1) :: us ++ []).length = ps.length := by
    have e := r2.length
    rw [Fg.len _ _ _ _ want] at e
    rw [List.append_nil]
    exact e.symm
  have bt := hb _ (Value.ref (s.heap.objs.size + 1) :: us) I2.kIn ll
  rw [List.append_nil] at bt
  have gd : (X.A.under (.builtin "type.__call__" ⟨.ref (He.ga X.K (T.cn c)) :: us, []⟩)).guards = some [] := by
    first | exact hr.g | (simpa [Around.under, Code.guards, Code.isGuard, guardIds, pushGuards] using hr.g)
  refine wpAny_call (make_map (f := f) I.kIn mk.makes mk.init (beq_iff_eq.mp mk.fn) (codeAny_mono (Fg.run _ X.stack _ _ _ _ _ _ _ (hr.r.make _ us []) gd (I2.env0.make _ us []) bt r2 want) fun rs s' z => ?_))
  cases rs with
  | error e => exact tk e s' (XE.of_call (W := W) I2 (fun _ _ _ h => h) z)
  | ok fl =>
    cases fl with
    | ret u =>
      obtain ⟨v, H', I3, rv, ev, q3⟩ := I2.after z
      subst ev
      exact ⟨rv, V.ref (s.heap.objs.size + 1), H', I3, rfl, q3⟩
    | _ => exact False.elim z
/-- C(e, ..) -/
theorem je_make (g : GoodI X.prog X.w T X.K X.mg X.base k c ps sem) (frz : Bool) (hr : Rg (k + 1) X.A) (hx : x = T.cn c) (hg : Gl X x) (tk : Takes X W) (ha : JA T X W (e :: es) ia) (hdb : (x == ("__debug__" : Str)) = false := by decide)
    (he : starEach (e :: es) X.env = (false, eval e X.env) :: starEach es X.env := by rfl) (hpl : (backTo pos (starEach es X.env)).any (·.1) = false := by rfl) : JE T X W (.Call (.Name x p) (e :: es) [] pos) (iMake T frz c ps.length sem ia) := by
  obtain ⟨f, fd, Fg, b, mk, m⟩ := g
  subst hx
  constructor; intro pins s σ H Q I hq
  have key : tA T X.K W ia σ H fun vs H1 => ∃ xs F S ι G, Em T X.K F S ι G H1 ∧ DRs T X.K G ι xs vs ∧ Thn T X.K F W σ G ι (DR T X.K) (makeD T frz c ps.length sem xs S) Q := by
    obtain ⟨ρ, F, S, ι, G, em, sr, h⟩ := hq
    exact ⟨ρ, F, S, ι, G, em, sr, Thn.bind (rel2 := DRs T X.K) h fun xs S1 vs ι1 G1 H1 em1 x1 dr h1 => ⟨xs, F, S1, ι1, G1, em1, dr, h1⟩⟩
  refine wpAny_Call_Name_kw (ld_glob I hg m ?_ hdb)
  refine PySem.W.callWith_K (h₀ := X.base) I.ok.mod.kin mk.kp (thn (ha.run pos pins s σ H _ I key) ?_) he hpl
  rintro us s1 ⟨vs, H1, I1, r, xs, F, S, ι, G, em, dr, h⟩
  exact ⟨I1.kIn, make_g Fg b mk hr tk I1 r em dr h⟩
end
end J

set_option Elab.async false
set_option linter.all false
set_option maxRecDepth 100000
set_option maxHeartbeats 410000
/-! JA: ghosts, constants of the module, small things -/
namespace J
open PySem PySem.Spec L2
def sNever : IS := fun _ => M.no
section
variable {T : Tab} {X : Cx} {W : WX} {st : Stmt} {rest : List Stmt} {ir : IS} {pos : Pos}
theorem js_never : JS T X W st sNever := PS.mono ps_never fun D σ H ⟨ρ, F, S, ι, G, em, sr, h⟩ => h.elim
theorem jss_never : JSs T X W rest sNever := PSs.mono pss_never fun D σ H ⟨ρ, F, S, ι, G, em, sr, h⟩ => h.elim
/-- a list (a dict) that will not change any more -/
def frzO : MO → Option D
  | .lst xs => some (.lst xs)
  | .dct kvs => some (.dct (kvs.map (·.1)) (kvs.map (·.2)))
  | _ => none
def sFrz (i : Nat) : IS := fun ρ S => match ρ.getD i none with
  | some (.ref n) => (match (S.get n).bind frzO with
    | some d => .ok (.nx (ρ.set i (some d))) (S.del n)
    | none => .no)
  | _ => .no
theorem keyed_of {K : PySem.W.Frag} {G : Hp} {ι : List Addr} : ∀ {kvs : List (Ky × D)} {vs : List (Key × V)}, KRs T K G ι kvs vs → ∃ us, vs = keyed (kvs.map (·.1)) us ∧ us.length = kvs.length ∧ DRs T K G ι (kvs.map (·.2)) us
  | [], _, h => by
    have h' : _ = [] := h
    subst h'
    exact ⟨[], rfl, rfl, DRs.nil⟩
  | (g, x) :: r, _, ⟨u, us, h, r1, r2⟩ => by
    subst h
    obtain ⟨ws, e, l, dr⟩ := keyed_of r2
    subst e
    exact ⟨u :: ws, rfl, by simp [l], DRs.cons r1 dr⟩
theorem frzO_dr {K : PySem.W.Frag} {G : Hp} {ι : List Addr} {a : Addr} {o : MO} {u : HO} {d : D} (r : OR T K G ι o u) (e : frzO o = some d) (hG : G a = some u) : DR T K G ι d (.ref a) := by
  cases o with
  | lst xs =>
    cases e
    obtain ⟨vs, rfl, r⟩ := r
    simp only [DR]
    exact ⟨a, vs, rfl, hG, r⟩
  | dct kvs =>
    cases e
    obtain ⟨vs, rfl, r⟩ := r
    obtain ⟨us, rfl, l, dr⟩ := keyed_of r
    simp only [DR]
    exact ⟨a, us, rfl, by rw [List.length_map]; exact l.symm, hG, dr⟩
  | _ => cases e
theorem jss_frz {i : Nat} (h : JSs T X W rest ir) : JSs T X W rest (sSeq (sFrz i) ir) := by
  refine jss_ghost (fun F S ι G H ρ σ E em sr h => ?_) h
  unfold sSeq sFrz at h
  rw [List.getD_eq_getElem?_getD] at h
  cases q : ρ[i]? with
  | none => rw [q] at h; exact h.elim
  | some ox =>
    rw [q] at h
    cases ox with
    | none => exact h.elim
    | some d =>
      cases d with
      | ref n =>
        dsimp only [Option.getD] at h
        cases q2 : S.get n with
        | none => rw [q2] at h; exact h.elim
        | some o =>
          rw [q2] at h
          dsimp only [Option.bind_some] at h
          cases q3 : frzO o with
          | none => rw [q3] at h; exact h.elim
          | some d =>
            rw [q3] at h
            obtain ⟨v, hv, dv⟩ := sr.at_ i _ q
            simp only [DR] at dv
            obtain ⟨a, ha, rfl⟩ := dv
            obtain ⟨a', u, h1, h2, h3, em2, x2⟩ := em.freeze q2
            rw [ha] at h1
            cases h1
            refine ⟨_, _, _, em2, ?_, ThnS.ext h x2⟩
            have k := (sr.mono x2).set (frzO_dr (a := a) (h3.mono x2.1 x2.2) q3 upd_same) i
            have e : σ.set i (some (V.ref a)) = σ := by
              apply List.ext_getElem?
              intro j
              rw [List.getElem?_set]
              by_cases hj : i = j
              · subst hj
                rw [if_pos rfl, hv]
                split
                · rfl
                · rename_i hl
                  rw [List.getElem?_eq_none (by omega)] at hv
                  cases hv
              · rw [if_neg hj]
            rw [e] at k
            exact k
      | _ => exact h.elim
/-! ### constants of the module -/
theorem je_gint {x : Str} {i : Int} (hg : Gl X x) (hm : ∃ t, X.mg x = some (.int i t)) (hd : (x == ("__debug__" : Str)) = false := by decide) : JE T X W (.Name x pos) (iC (.int i)) := by
  obtain ⟨t, e⟩ := hm
  exact je_c (pe_glob (v := .int i) hg e ⟨t, rfl⟩ hd) fun _ _ => by simp only [DR]
theorem je_gstr {x : Str} {l : List Nat} (hg : Gl X x) (hm : ∃ t, X.mg x = some (.str ⟨l.toArray⟩ t)) (hd : (x == ("__debug__" : Str)) = false := by decide) : JE T X W (.Name x pos) (iC (.str l)) := by
  obtain ⟨t, e⟩ := hm
  exact je_c (pe_glob (v := .str ⟨l.toArray⟩) hg e ⟨t, rfl⟩ hd) fun _ _ => by simp only [DR]
end
theorem op_inD {X : Cx} : OpR X (compareOp .In) (fun x y H Q => (∃ (c : Nat) (z : Str), x = .str ⟨#[c]⟩ ∧ y = .str z ∧ Q (.bl (decide (c ∈ z.cps.toList))) H) ∨ rIn X.K false x y H Q) := OpR.or op_in_sign op_in_seq
theorem op_notInD {X : Cx} : OpR X (compareOp .NotIn) (fun x y H Q => (∃ (c : Nat) (z : Str), x = .str ⟨#[c]⟩ ∧ y = .str z ∧ Q (.bl (!decide (c ∈ z.cps.toList))) H) ∨ rIn X.K true x y H Q) := OpR.or op_notIn_sign op_notIn_seq
end J

set_option Elab.async false
set_option linter.all false
set_option maxRecDepth 100000
set_option maxHeartbeats 410000
/-! JB: classes as values, isinstance, truth, sorted, str of an int, f-strings, zip -/
namespace J
open PySem PySem.Spec L2
section
variable {T : Tab} {X : Cx} {W : WX} {pos : Pos}
theorem je_ty {x : Str} {n : String} (hg : Gl X x) (hm : X.mg x = none) (hv : bootBuiltins x = some (.type n)) (hn : x ≠ "__name__" := by decide) (hd : (x == ("__debug__" : Str)) = false := by decide) : JE T X W (.Name x pos) (iC (.ty n)) :=
  je_c (pe_bltn (v := .ty n) hg hm hv rfl hn hd) fun _ _ => by simp only [DR]
theorem je_cls {x : Str} {c : Nat} (hg : Gl X x) (hm : X.mg (T.cn c) = some (.ref (He.ga X.K (T.cn c)))) (hx : x = T.cn c) (hd : (x == ("__debug__" : Str)) = false := by decide) : JE T X W (.Name x pos) (iC (.glo c)) := by
  subst hx
  exact je_c (pe_glob (v := .ref (He.ga X.K (T.cn c))) hg hm rfl hd) fun _ _ => by simp only [DR]
end
/-! ### isinstance -/
inductive Tg where
  | b (n : String) | o (c : Nat)
  deriving DecidableEq
def tagD : D → Store → Option Tg
  | .non, _ => some (.b "NoneType")
  | .bl _, _ => some (.b "bool")
  | .int _, _ => some (.b "int")
  | .str _, _ => some (.b "str")
  | .tup _, _ => some (.b "tuple")
  | .lst _, _ => some (.b "list")
  | .scr _, _ => some (.b "list")
  | .dct _ _, _ => some (.b "dict")
  | .ins c _, _ => some (.o c)
  | .ref n, S => (match S.get n with
    | some (.lst _) => some (.b "list")
    | some (.dct _) => some (.b "dict")
    | some (.dcT _) => some (.b "dict")
    | some (.ins c _) => some (.o c)
    | none => none)
  | _, _ => none
def Tg.v (T : Tab) (K : PySem.W.Frag) : Tg → Value
  | .b n => .type n
  | .o c => .ref (He.ga K (T.cn c))
/-- what isinstance asks of a class -/
structure ClsT (K : PySem.W.Frag) (C : Addr) : Prop where
  cl : Cls K C
  asks : PySem.W.findIn K (.ref C) "__class__" = some (some (.builtin "object.__class__")) ∧ PySem.W.specialIn K (.builtin "object.__class__") "__get__" = some (some (.builtin "getset_descriptor.__get__")) ∧
    PySem.W.takesIn K (.builtin "object.__class__") = some true ∧ PySem.W.mroIn K C (.type "object") = some true
def clsTB (K : PySem.W.Frag) (C : Addr) : Bool := PySem.W.plainGet K C Str.empty && (PySem.W.hasDictIn K C && (PySem.W.plainOver K C && (decide (PySem.W.findIn K (.ref C) "__setattr__" = some (some (.builtin "object.__setattr__"))) &&
  (decide (PySem.W.findIn K (.ref C) "__class__" = some (some (.builtin "object.__class__"))) && (decide (PySem.W.specialIn K (.builtin "object.__class__") "__get__" = some (some (.builtin "getset_descriptor.__get__"))) &&
    (decide (PySem.W.takesIn K (.builtin "object.__class__") = some true) && decide (PySem.W.mroIn K C (.type "object") = some true)))))))
theorem clsTB_ok {K : PySem.W.Frag} {C : Addr} (h : clsTB K C = true) : ClsT K C := by
  unfold clsTB at h
  simp only [decide_eq_true_eq, Bool.and_eq_true] at h
  obtain ⟨h1, h2, h3, h4, h5, h6, h7, h8⟩ := h
  exact ⟨⟨h1, h2, h3, h4⟩, h5, h6, h7, h8⟩
/-- cs: the classes whose instances are asked; tb: the answers that are not of two built-in types -/
structure IsK (T : Tab) (K : PySem.W.Frag) (cs : List Nat) (tb : List (Tg × Tg × Bool)) : Prop where
  cls : ∀ c ∈ cs, ClsT K (He.ga K (T.cn c))
  ans : ∀ p ∈ tb, PySem.W.kitOne K (p.1.v T K) (p.2.1.v T K) = some p.2.2
def lookT (t u : Tg) : List (Tg × Tg × Bool) → Option Bool
  | [] => none
  | p :: r => if p.1 = t ∧ p.2.1 = u then some p.2.2 else lookT t u r
theorem lookT_ok {t u : Tg} {b : Bool} : ∀ {tb : List (Tg × Tg × Bool)}, lookT t u tb = some b → (t, u, b) ∈ tb
  | [], h => nomatch h
  | p :: r, h => by
    unfold lookT at h
    split at h
    · rename_i e
      obtain ⟨x, y, z⟩ := p
      obtain ⟨rfl, rfl⟩ := e
      cases h
      exact List.mem_cons_self
    · exact List.mem_cons_of_mem _ (lookT_ok h)
def isiT (tb : List (Tg × Tg × Bool)) (t u : Tg) : Option Bool := match t, u with
  | .b a, .b c => kitB a c
  | _, _ => lookT t u tb
def okTg (cs : List Nat) : Tg → Bool
  | .b _ => true
  | .o c => cs.contains c
def clsOf : D → Option Tg
  | .ty n => some (.b n)
  | .glo c => some (.o c)
  | _ => none
def isiD (cs : List Nat) (tb : List (Tg × Tg × Bool)) : OpN := fun xs S => match xs with
  | [x, c] => (match tagD x S, clsOf c with
    | some t, some u => if okTg cs t = true then (isiT tb t u).map .bl else none
    | _, _ => none)
  | _ => none
section
variable {T : Tab} {K : PySem.W.Frag} {F : Hp} {S : Store} {ι : List Addr} {G H : Hp} {cs : List Nat} {tb : List (Tg × Tg × Bool)}
theorem isiT_ok (k : IsK T K cs tb) {t u : Tg} {b : Bool} (h : isiT tb t u = some b) : PySem.W.kitOne K (t.v T K) (u.v T K) = some b := by
  unfold isiT at h
  split at h
  · exact kit_ty h
  · exact k.ans _ (lookT_ok h)
theorem tag_ins {a dx : Addr} {fs : List (Str × V)} {c : Nat} (k : IsK T K cs tb) (h : cs.contains c = true) (e : H a = some (.ins (He.ga K (T.cn c)) dx fs)) : TyX K H (.ref a) (Tg.v T K (.o c)) := by
  have z := k.cls c (by simpa using h)
  exact .base (.ins e z.cl z.asks.1 z.asks.2.1 z.asks.2.2.1 z.asks.2.2.2)
theorem tag_ok (k : IsK T K cs tb) (em : Em T K F S ι G H) {x : D} {v : V} {t : Tg} (dx : DR T K G ι x v) (h : tagD x S = some t) (o : okTg cs t = true) : TyX K H v (t.v T K) := by
  cases x with
  | non => simp only [DR] at dx; subst dx; cases h; exact .base .non
  | bl b => simp only [DR] at dx; subst dx; cases h; exact .base (.bl _)
  | int i => simp only [DR] at dx; subst dx; cases h; exact .base (.int _)
  | str i => simp only [DR] at dx; subst dx; cases h; exact .base (.str _)
  | ty n => cases h
  | glo n => cases h
  | tup xs =>
    simp only [DR] at dx
    obtain ⟨a, vs, rfl, q, _⟩ := dx
    cases h
    exact .base (.tup (em.sub _ _ q))
  | lst xs =>
    simp only [DR] at dx
    obtain ⟨a, vs, rfl, q, _⟩ := dx
    cases h
    exact .base (.lst (em.sub _ _ q))
  | scr xs =>
    simp only [DR] at dx
    obtain ⟨a, vs, rfl, q, _⟩ := dx
    cases h
    rcases Same.seq em.sub q with (q | ⟨ob, q⟩) | ⟨ob, its, n, q, c, _⟩
    · exact .base (.lst q)
    · exact .base (.frz q)
    · exact .kList q c
  | dct ks xs =>
    simp only [DR] at dx
    obtain ⟨a, vs, rfl, _, q, _⟩ := dx
    cases h
    exact .base (.dK (em.sub _ _ q))
  | ins c xs =>
    simp only [DR] at dx
    obtain ⟨a, dd, vs, rfl, _, q, _⟩ := dx
    cases h
    exact tag_ins k o (em.sub _ _ q)
  | ref n =>
    unfold tagD at h
    dsimp only at h
    cases q : S.get n with
    | none => rw [q] at h; cases h
    | some ob =>
      rw [q] at h
      cases ob with
      | lst xs =>
        obtain ⟨a, u, rfl, ha, hu, vs, rfl, r⟩ := obj_at em dx q
        cases h
        exact .base (.lst hu)
      | dct xs =>
        obtain ⟨a, u, rfl, ha, hu, vs, rfl, r⟩ := obj_at em dx q
        cases h
        exact .base (.dK hu)
      | dcT xs =>
        obtain ⟨a, u, rfl, ha, hu, vs, rfl, r⟩ := obj_at em dx q
        cases h
        exact .base (.dT hu)
      | ins c fs =>
        obtain ⟨a, u, rfl, ha, hu, dd, vs, rfl, r⟩ := obj_at em dx q
        cases h
        exact tag_ins k o hu
theorem isiD_ok (k : IsK T K cs tb) : CaS T K (rIsi K) (isiD cs tb) := by
  intro F S ι G H xs d vs Q em dr e q
  match xs, dr, e with
  | [x, c], dr, e =>
    obtain ⟨v, w, rfl, r1, r2⟩ := dr.two
    unfold isiD at e
    dsimp only at e
    split at e
    · rename_i t u ht hu
      split at e
      · rename_i ok
        cases hb : isiT tb t u with
        | none => rw [hb] at e; cases e
        | some b =>
          rw [hb] at e
          cases e
          have hk := isiT_ok k hb
          have ty := tag_ok k em r1 ht ok
          have cv : ClsV w (u.v T K) := by
            cases c with
            | ty n => cases hu; simp only [DR] at r2; subst r2; exact .ty n
            | glo n => cases hu; simp only [DR] at r2; subst r2; exact .own _
            | _ => cases hu
          exact ⟨v, w, _, _, b, rfl, cv, ty, hk, q _ G H em (Ext.refl _ _) (by simp only [DR])⟩
      · cases e
    · cases e
  | [], _, e => cases e
  | [_], _, e => cases e
  | _ :: _ :: _ :: _, _, e => cases e
end
/-! ### truth -/
def truD : D → Store → Option Bool
  | .non, _ => some false
  | .bl b, _ => some b
  | .int i, _ => some (i != 0)
  | .str x, _ => if x.length ≤ 100000 then some (!x.isEmpty) else none
  | .lst xs, _ => some (!xs.isEmpty)
  | .scr xs, _ => some (!xs.isEmpty)
  | .tup xs, _ => some (!xs.isEmpty)
  | .dct ks xs, _ => if ks.length = xs.length then some (!xs.isEmpty) else none
  | .ref n, S => (match S.get n with
    | some (.lst xs) => some (!xs.isEmpty)
    | some (.dct xs) => some (!xs.isEmpty)
    | _ => none)
  | _, _ => none
def iTru (ie : IE) : IT := fun ρ => M.bind (ie ρ) fun d => fun S => lift (truD d S) S
theorem DRs.emp {T : Tab} {K : PySem.W.Frag} {G : Hp} {ι : List Addr} {xs : List D} {vs : List V} (r : DRs T K G ι xs vs) : (!xs.isEmpty) = !vs.isEmpty := by
  have := r.length
  cases xs <;> cases vs <;> simp_all
section
variable {T : Tab} {X : Cx} {W : WX} {ie : IE} {pos : Pos}
theorem truD_ok {K : PySem.W.Frag} {F : Hp} {S : Store} {ι : List Addr} {G H : Hp} (em : Em T K F S ι G H) {x : D} {v : V} {b : Bool} (dx : DR T K G ι x v) (h : truD x S = some b) : TruV K v H b := by
  cases x with
  | non => simp only [DR] at dx; subst dx; cases h; rfl
  | bl b => simp only [DR] at dx; subst dx; cases h; rfl
  | int i => simp only [DR] at dx; subst dx; cases h; rfl
  | str l =>
    simp only [DR] at dx
    subst dx
    unfold truD at h
    dsimp only at h
    split at h
    · rename_i hl
      cases h
      refine ⟨by show l.toArray.size ≤ _; simpa using sz_of hl, ?_⟩
      show (!l.isEmpty) = (((l.toArray.size : Nat) : Int) != 0)
      cases l with
      | nil => rfl
      | cons c r => simp; omega
    · cases h
  | lst xs =>
    simp only [DR] at dx
    obtain ⟨a, vs, rfl, q, r⟩ := dx
    cases h
    exact .inl ⟨vs, SqL.of (em.sub _ _ q), r.emp⟩
  | scr xs =>
    simp only [DR] at dx
    obtain ⟨a, vs, rfl, q, r⟩ := dx
    cases h
    exact .inl ⟨vs, Same.seq em.sub q, r.emp⟩
  | tup xs =>
    simp only [DR] at dx
    obtain ⟨a, vs, rfl, q, r⟩ := dx
    cases h
    exact .inr (.inl ⟨vs, SqT.of (em.sub _ _ q), r.emp⟩)
  | dct ks xs =>
    simp only [DR] at dx
    obtain ⟨a, vs, rfl, l, q, r⟩ := dx
    unfold truD at h
    dsimp only at h
    split at h
    · rename_i hl
      cases h
      refine .inr (.inr ⟨_, em.sub _ _ q, ?_⟩)
      rw [r.emp]
      cases ks <;> cases vs <;> first | rfl | (exfalso; simp at l)
    · cases h
  | ref n =>
    unfold truD at h
    dsimp only at h
    cases q : S.get n with
    | none => rw [q] at h; cases h
    | some ob =>
      rw [q] at h
      cases ob with
      | lst xs =>
        obtain ⟨a, u, rfl, ha, hu, vs, rfl, r⟩ := obj_at em dx q
        cases h
        exact .inl ⟨vs, SqL.of hu, r.emp⟩
      | dct xs =>
        obtain ⟨a, u, rfl, ha, hu, vs, rfl, r⟩ := obj_at em dx q
        cases h
        refine .inr (.inr ⟨vs, hu, ?_⟩)
        cases xs with
        | nil => have r' : vs = [] := r; subst r'; rfl
        | cons p t => obtain ⟨u, us, rfl, _⟩ := r; rfl
      | _ => cases h
  | _ => cases h
theorem jt_tru {e : Expr} (h : JE T X W e ie) (he : ∀ whole, isTrue e X.env whole = (do let v ← whole; standAt e.pos; holding [v] (truthy v)) := by intro _; rfl) : JT T X W e (iTru ie) := by
  refine PT.mono (pt_truth h he) fun σ H Q ⟨ρ, F, S, ι, G, em, sr, h⟩ => ⟨ρ, F, S, ι, G, em, sr, Thn.bind (rel2 := DR T X.K) h fun x S1 vx ι1 G1 H1 em1 x1 dx h1 => ?_⟩
  obtain ⟨b, e, h3⟩ := Thn.lift h1
  exact ⟨b, truD_ok em1 dx e, h3.ok em1 rfl⟩
end
/-! ### str of an int, of a text -/
def digits (i : Int) : List Nat := (Str.ofString (toString i)).cps.toList
theorem digits_eq (i : Int) : V.str (Str.ofString (toString i)) = V.str ⟨(digits i).toArray⟩ := by
  unfold digits
  generalize Str.ofString (toString i) = z
  cases z
  simp
def strD : OpN := fun xs _ => match xs with
  | [.int i] => if i.natAbs.log2 < 1920 then some (.str (digits i)) else none
  | _ => none
theorem strD_ok {T : Tab} {K : PySem.W.Frag} : CaS T K (fun xs H Q => ∃ i : Int, xs = [.int i] ∧ i.natAbs.log2 < 1920 ∧ Q (.str (toString i)) H) strD := by
  intro F S ι G H xs d vs Q em dr e q
  unfold strD at e
  split at e
  · rename_i i
    obtain ⟨v, rfl, r⟩ := dr.one
    simp only [DR] at r
    subst r
    split at e
    · rename_i hl
      cases e
      exact ⟨i, rfl, hl, q _ G H em (Ext.refl _ _) (by simp only [DR]; exact digits_eq i)⟩
    · cases e
  · cases e
end J

set_option Elab.async false
set_option linter.all false
set_option maxRecDepth 100000
set_option maxHeartbeats 410000
/-! JC: what a class's own defs answer: properties, str, repr, ==, != ; a method by its class -/
namespace J
open PySem PySem.Spec L2
/-- the def m of the class c -/
def GoodM (P : Program) (w : World) (T : Tab) (K : PySem.W.Frag) (mg : Str → Option Value) (base : Heap) (k c : Nat) (m : Str) (ps : List Str) (sem : List D → M D) : Prop :=
  ∃ f fd, FnG P w K mg base k f fd ps (spJ T K ps.length sem) ∧ Binds K fd ps [] ∧ PySem.W.findIn K (.ref (He.ga K (T.cn c))) m = some (some (.ref f)) ∧ PySem.W.isFn K (.ref f) = true ∧ PySem.W.keepIn K (.ref f) = true
/-- what is asked of a run that raises nothing -/
abbrev Quiet (T : Tab) (K : PySem.W.Frag) (H : Hp) (sem : List D → M D) (n : Nat) (vs : List V) (Q : VK) : Prop :=
  vs.length = n ∧ ∃ ds F S ι G, Em T K F S ι G H ∧ DRs T K G ι ds vs ∧ Thn T K F W0 [] G ι (DR T K) (nox (sem ds) S) Q
section
variable {T : Tab} {X : Cx} {W : WX} {k : Nat} {f : Addr} {fd : FuncData} {ps : List Str} {sem : List D → M D}
theorem Quiet.sp {K : PySem.W.Frag} {H : Hp} {vs : List V} {Q : VK} (h : Quiet T K H sem ps.length vs Q) : spJ T K ps.length sem vs H Q fun _ _ _ => False := by
  obtain ⟨l, ds, F, S, ι, G, em, dr, h⟩ := h
  refine ⟨l, ds, F, S, ι, G, em, dr, ?_⟩
  unfold nox at h
  cases q : sem ds S with
  | ok a S' => rw [q] at h; exact h
  | ex c fs S' => rw [q] at h; exact h.elim
  | no => rw [q] at h; exact h.elim
/-- a def is called somewhere inside a built-in -/
theorem call_in {A : Around} {pins : List (Addr × Obj)} {σ : L2.St} {H : Hp} {s : Shared} {Q : VK} {us : List Value} {vs : List V} {E : Value → Shared → Prop} (Fg : FnG X.prog X.w X.K X.mg X.base k f fd ps (spJ T X.K ps.length sem)) (hb : Binds X.K fd ps []) (hr : Rg k A)
    (e0 : Env0 X.prog X.w X.K X.mg X.base A X.stack s H) (I : Inv X pins σ H s) (r : Vals vs us) (h : Quiet T X.K H sem ps.length vs Q) : wpAny (model X.prog X.w) A (call (.ref f) us) (EP X pins σ Q) E s := by
  have hl : (us ++ []).length = ps.length := by rw [List.append_nil, ← r.length]; exact h.1
  have bt := hb s us I.kIn hl
  rw [List.append_nil] at bt
  refine wpAny_call (codeAny_mono (Fg.run A X.stack s H ⟨us, []⟩ us vs Q _ hr.r hr.g e0 bt r h.sp) fun rs s' z => ?_)
  cases rs with
  | error e =>
    obtain ⟨_, _, _, _, _, _, _, _, _, _, _, _, z⟩ := z
    exact z.elim
  | ok fl =>
    cases fl with
    | ret u => exact I.after z
    | _ => exact False.elim z
theorem Rg.in1 {k : Nat} {A : Around} (r : Rg (k + 1) A) : Rg k A.in1 := ⟨r.r.in1, r.g⟩
end
/-! ### built-ins that call -/
def iCM (f : List D → M D) (ia : IA) : IE := fun ρ => M.bind (ia ρ) f
def CaM (T : Tab) (K : PySem.W.Frag) (r : List V → Hp → VK → Prop) (f : List D → M D) : Prop := ∀ F S ι G H xs vs W σ (Q : VK), Em T K F S ι G H → DRs T K G ι xs vs → Thn T K F W σ G ι (DR T K) (f xs S) Q → r vs H Q
theorem CaS.m {T : Tab} {K : PySem.W.Frag} {r : List V → Hp → VK → Prop} {f : OpN} (h : CaS T K r f) : CaM T K r (fun xs S => lift (f xs S) S) := by
  intro F S ι G H xs vs W σ Q em dr t
  obtain ⟨d, e, t⟩ := Thn.lift t
  exact h F S ι G H xs d vs Q em dr e fun v G' H' em' x' r' => t v ι G' H' em' x' r'
theorem CallR.or {X : Cx} {c : Value} {r r' : List V → Hp → VK → Prop} (h : CallR X c r) (h' : CallR X c r') : CallR X c (fun xs H Q => r xs H Q ∨ r' xs H Q) :=
  fun pins s σ H xs us Q I rv z => z.elim (h pins s σ H xs us Q I rv) (h' pins s σ H xs us Q I rv)
section
variable {T : Tab} {X : Cx} {W : WX} {e : Expr} {es : List Expr} {ia : IA} {pos p : Pos} {r : List V → Hp → VK → Prop} {f : List D → M D} {id Ty : String} {x : Str}
theorem cm_go (hf : CaM T X.K r f) {σ : L2.St} {H : Hp} {Q : VK} (h : tE T X.K W (iCM f ia) σ H Q) : tCB r (tA T X.K W ia) σ H Q := by
  obtain ⟨ρ, F, S, ι, G, em, sr, h⟩ := h
  exact ⟨ρ, F, S, ι, G, em, sr, Thn.bind (rel2 := DRs T X.K) h fun x S1 vx ι1 G1 H1 em1 x1 dx h1 => hf F S1 ι1 G1 H1 x vx W σ Q em1 dx h1⟩
theorem je_callBM (hc : CallR X (.builtin id) r) (hf : CaM T X.K r f) (hg : Gl X x) (hm : X.mg x = none) (hv : bootBuiltins x = some (.builtin id)) (ha : JA T X W (e :: es) ia) (hn : x ≠ "__name__" := by decide) (hdb : (x == ("__debug__" : Str)) = false := by decide)
    (he : starEach (e :: es) X.env = (false, eval e X.env) :: starEach es X.env := by rfl) (hpl : (backTo pos (starEach es X.env)).any (·.1) = false := by rfl) : JE T X W (.Call (.Name x p) (e :: es) [] pos) (iCM f ia) :=
  PE.mono (pe_callB hc hg hm hv ha hn hdb he hpl) fun σ H Q h => cm_go hf h
theorem je_callTyM (hc : CallR X (.type Ty) r) (hf : CaM T X.K r f) (hg : Gl X x) (hm : X.mg x = none) (hv : bootBuiltins x = some (.type Ty)) (ha : JA T X W (e :: es) ia) (hn : x ≠ "__name__" := by decide) (hdb : (x == ("__debug__" : Str)) = false := by decide)
    (he : starEach (e :: es) X.env = (false, eval e X.env) :: starEach es X.env := by rfl) (hpl : (backTo pos (starEach es X.env)).any (·.1) = false := by rfl) : JE T X W (.Call (.Name x p) (e :: es) [] pos) (iCM f ia) :=
  PE.mono (pe_callTy hc hg hm hv ha hn hdb he hpl) fun σ H Q h => cm_go hf h
end
/-! ### str(x), repr(x), x an instance -/
/-- an instance of c is asked: the own def answers, a text -/
def rAsk (T : Tab) (K : PySem.W.Frag) (c : Nat) (sem : List D → M D) : List V → Hp → VK → Prop := fun vs H Q =>
  ∃ a dx fs, vs = [.ref a] ∧ H a = some (.ins (He.ga K (T.cn c)) dx fs) ∧ Quiet T K H sem 1 vs (fun v H' => (∃ y, v = .str y) ∧ Q v H')
def isS : D → M D
  | .str l => M.ret (.str l)
  | _ => M.no
def askD (c : Nat) (T : Tab) (sem : List D → M D) (xs : List D) : M D := fun S => match xs with
  | [d] => (match insOf T d S with
    | some (c', _) => if c' = c then M.bind (nox (sem [d])) isS S else .no
    | none => .no)
  | _ => .no
section
variable {T : Tab} {X : Cx} {c k : Nat} {ps : List Str} {sem : List D → M D}
theorem askD_ok {K : PySem.W.Frag} : CaM T K (rAsk T K c sem) (askD c T sem) := by
  intro F S ι G H xs vs W σ Q em dr t
  unfold askD at t
  rcases xs with _ | ⟨d, _ | ⟨d2, rest⟩⟩
  · exact t.elim
  · dsimp only at t
    obtain ⟨v, rfl, r⟩ := dr.one
    cases q : insOf T d S with
    | none => rw [q] at t; exact t.elim
    | some p =>
      obtain ⟨c', fs⟩ := p
      rw [q] at t
      dsimp only at t
      split at t
      · rename_i e
        subst e
        obtain ⟨a, dx, ws, rfl, ha, _⟩ := insOf_ok em r q
        refine ⟨a, dx, ws, rfl, ha, rfl, [d], F, S, ι, G, em, dr, ?_⟩
        unfold M.bind at t
        cases z : nox (sem [d]) S with
        | no => rw [z] at t; exact t.elim
        | ex c fs S' =>
          unfold nox at z
          cases z2 : sem [d] S <;> rw [z2] at z <;> cases z
        | ok y S' =>
          rw [z] at t
          dsimp only at t
          intro v ι' G' H' em' x' r'
          cases y with
          | str l =>
            simp only [DR] at r'
            exact ⟨⟨_, r'⟩, Thn.ok (Thn.ext t x') em' (by simp only [DR]; exact r')⟩
          | _ => exact t.elim
      · exact t.elim
  · exact t.elim
theorem strBack {pins : List (Addr × Obj)} {σ : L2.St} {Q : VK} {u : Value} {s' : Shared} (h : EP X pins σ (fun v H' => (∃ y, v = .str y) ∧ Q v H') u s') : PySem.W.StrBack (EP X pins σ Q) u s' := by
  obtain ⟨v, H', I', rv, ⟨y, rfl⟩, q⟩ := h
  obtain ⟨t, rfl⟩ := (show ∃ t, u = Value.str y t from rv)
  exact ⟨.str y, H', I', ⟨t, rfl⟩, q⟩
theorem call_strO (g : GoodM X.prog X.w T X.K X.mg X.base k c "__str__" ps sem) (h1 : ps.length = 1) (hr : Rg (k + 2) X.A) : CallR X (.type "str") (rAsk T X.K c sem) := by
  rintro pins s σ H xs us Q I r h
  obtain ⟨f, fd, Fg, b, at_, fn, kp⟩ := g
  obtain ⟨a, dx, fs, rfl, ha, z⟩ := h
  rcases vals1 r with ⟨u, rfl, ru⟩
  have eu : u = Value.ref a := ru; subst eu
  rcases ins_get I.hok ha with ⟨mA, O, _⟩
  obtain ⟨od, J, _⟩ := O.look
  rw [← h1] at z
  exact PySem.W.kso_call hr.in1.in1.r.units0 I.kIn J at_ fn (wpAny_mono (call_in Fg b hr.in1.in1 I.env0.in1.in1 I (vs := [.ref a]) (.cons rfl .nil) z) (fun u s' y => strBack y) fun _ _ y => y)
theorem call_reprO (g : GoodM X.prog X.w T X.K X.mg X.base k c "__repr__" ps sem) (h1 : ps.length = 1) (hr : Rg (k + 1) X.A) : CallR X (.builtin "repr") (rAsk T X.K c sem) := by
  rintro pins s σ H xs us Q I r h
  obtain ⟨f, fd, Fg, b, at_, fn, kp⟩ := g
  obtain ⟨a, dx, fs, rfl, ha, z⟩ := h
  rcases vals1 r with ⟨u, rfl, ru⟩
  have eu : u = Value.ref a := ru; subst eu
  rcases ins_get I.hok ha with ⟨mA, O, _⟩
  obtain ⟨od, J, _⟩ := O.look
  obtain ⟨m, hF⟩ := I.fr
  rw [← h1] at z
  exact PySem.W.repr_K hr.in1.r.units0 hF I.ok.mod.kin J at_ fn (wpAny_mono (call_in Fg b hr.in1 I.env0.in1 I (vs := [.ref a]) (.cons rfl .nil) z) (fun u s' y => strBack y) fun _ _ y => y)
end
/-! ### e.f, a property -/
/-- the getter of the property m of c -/
def GoodP (P : Program) (w : World) (T : Tab) (K : PySem.W.Frag) (mg : Str → Option Value) (base : Heap) (k c : Nat) (m : Str) (ps : List Str) (sem : List D → M D) : Prop :=
  ∃ p f fd, FnG P w K mg base k f fd ps (spJ T K ps.length sem) ∧ Binds K fd ps [] ∧ PropOf K (He.ga K (T.cn c)) m p f ∧ Cls K (He.ga K (T.cn c))
def iProp (T : Tab) (c : Nat) (sem : List D → M D) (ie : IE) : IE := fun ρ => M.bind (ie ρ) fun d S => match insOf T d S with
  | some (c', _) => if c' = c then nox (sem [d]) S else .no
  | none => .no
section
variable {T : Tab} {X : Cx} {W : WX} {c k : Nat} {ps : List Str} {sem : List D → M D} {e : Expr} {ie : IE} {m : Str} {pos : Pos}
theorem thn_nox {K : PySem.W.Frag} {F : Hp} {σ σ' : L2.St} {G : Hp} {ι : List Addr} {S : Store} {α β : Type} {rel : Hp → List Addr → α → β → Prop} {md : M α} {Q : β → Hp → Prop} (h : Thn T K F W σ G ι rel (nox md S) Q) : Thn T K F W0 σ' G ι rel (nox md S) Q := by
  unfold nox at h ⊢
  cases q : md S with
  | ok a S' => rw [q] at h; exact h
  | ex c fs S' => rw [q] at h; exact h.elim
  | no => rw [q] at h; exact h.elim
theorem je_prop (g : GoodP X.prog X.w T X.K X.mg X.base k c m ps sem) (h1 : ps.length = 1) (hr : Rg (k + 1) X.A) (he : JE T X W e ie) (hab : attributeBase e m X.env (eval e X.env) = eval e X.env := by rfl) : JE T X W (.Attribute e m pos) (iProp T c sem ie) := by
  obtain ⟨p, f, fd, Fg, b, hp, cl⟩ := g
  constructor; intro pins s σ H Q I hq
  have key : tE T X.K W ie σ H fun v H1 => ∃ a dx fs, v = .ref a ∧ H1 a = some (.ins (He.ga X.K (T.cn c)) dx fs) ∧ Quiet T X.K H1 sem ps.length [v] Q := by
    obtain ⟨ρ, F, S, ι, G, em, sr, h⟩ := hq
    refine ⟨ρ, F, S, ι, G, em, sr, Thn.bind (rel2 := DR T X.K) h fun d S1 v ι1 G1 H1 em1 x1 dr h1' => ?_⟩
    cases q : insOf T d S1 with
    | none => rw [q] at h1'; exact h1'.elim
    | some p =>
      obtain ⟨c', fs⟩ := p
      rw [q] at h1'
      dsimp only at h1'
      split at h1'
      · rename_i e
        subst e
        obtain ⟨a, dx, ws, rfl, ha, _⟩ := insOf_ok em1 dr q
        exact ⟨a, dx, ws, rfl, ha, h1.symm, [d], F, S1, ι1, G1, em1, DRs.cons dr DRs.nil, thn_nox h1'⟩
      · exact h1'.elim
  refine attr_of hab (thn (he.run pins s σ H _ I key) ?_)
  rintro u s1 ⟨v, H1, I1, ru, a, dx, fs, rfl, ha, z⟩
  have eu : u = Value.ref a := ru; subst eu
  obtain ⟨mA, O, _⟩ := ins_get I1.hok ha
  obtain ⟨od, J, _⟩ := O.look
  rcases hp.rec_ with ⟨rest, hrec⟩
  have I2 := I1.tok (s1.toks + 1)
  have ic : (PySem.W.clsIn X.K (He.ga X.K (T.cn c))).isSome = true := by
    obtain ⟨cd, hc, _⟩ := PySem.W.any_some cl.hd
    rw [hc]
    rfl
  have pg := PySem.W.plainGet_of (cl.get m)
  refine PySem.W.get_bind I1.kIn J pg.1 (PySem.W.findObj_data ic hp.at_ hp.get hp.tak) pg.2 (wpAny_call (PySem.W.prop_get (s := { s1 with toks := s1.toks + 1 }) I1.kIn hrec ?_))
  have hl : ([Value.ref a] ++ []).length = ps.length := h1.symm
  have bt := b { s1 with toks := s1.toks + 1 } [.ref a] I2.kIn hl
  refine codeAny_mono (Fg.run X.A.in1 X.stack { s1 with toks := s1.toks + 1 } H1 ⟨[.ref a], []⟩ [.ref a] [.ref a] Q _ hr.in1.r hr.in1.g I2.env0.in1 bt (.cons rfl .nil) z.sp) fun rs s' y => ?_
  cases rs with
  | error er =>
    obtain ⟨_, _, _, _, _, _, _, _, _, _, _, _, y⟩ := y
    exact y.elim
  | ok fl =>
    cases fl with
    | ret u =>
      obtain ⟨v, H', I3, rv, q3⟩ := I2.after y
      change wpAny _ _ (handedOut u) _ _ _
      rw [(PySem.W.handedOut_of (handed_of rv))]
      refine wpAny_pure ⟨v, H', I3, rv, q3⟩
    | _ => exact False.elim y
end
end J

set_option Elab.async false
set_option linter.all false
set_option maxRecDepth 100000
set_option maxHeartbeats 410000
/-! JD: == and != by the class's own def; an instance's truth; zip, f-strings, three names at once, sorted texts -/
namespace J
open PySem PySem.Spec L2
/-! ### the machine's side of != -/
section
variable {prog : Program} {w : World} {A : Around} {E : Value → Shared → Prop} {s : Shared} {K : PySem.W.Frag} {x C f : Addr} {ox : Obj} {od : Option Obj} {b tb : Value}
theorem bound_b {M : Model} {name : Str} {id : String} {args : List Value} {Q : Option Value → Shared → Prop} (X : K.In s.heap) (I : PySem.W.InstAt s.heap x ox C od) (hs : PySem.W.findIn K (.ref C) name = some (some (.builtin id)))
    (hb : ∀ self, bindSpecial (.builtin id) self = pure (.builtin id, [self])) (h : wpAny M A (call (.builtin id) (.ref x :: args)) (fun v => Q (some v)) E s) : wpAny M A (callSpecialIfBound? (.ref x) name args) Q E s := by
  have last : wpAny M A (do let v ← call (.builtin id) ([.ref x] ++ args); pure (some v)) Q E s := wpAny_bind (wpAny_mono h (fun _ _ z => wpAny_pure z) fun _ _ z => z)
  simp only [bindSpecialIfBound?, callSpecialIfBound?]
  apply wpAny_holding; apply wpAny_bind
  refine wpAny_bind (wpAny_bind (I.type.here ?_))
  refine (PySem.W.looks_findIn X hs).here ?_
  apply wpAny_bind; refine wpAny_askSetting (wpAny_ite ?_)
  split
  · exact wpAny_bind ((PySem.W.Looks.of_pure (hb _)).here (wpAny_pure (by exact last)))
  · exact wpAny_tryCatch (wpAny_bind ((PySem.W.Looks.of_pure (hb _)).here (wpAny_pure (by exact last))))
/-- a comparison that the left one answers -/
theorem rc_left {op : CmpOp} {Q : Value → Shared → Prop} (hu : A.units < cLine) (X : K.In s.heap) (I : PySem.W.InstAt s.heap x ox C od) (hb : PySem.W.Looks (model prog w) s.heap (typeOf b) tb) (hn : PySem.W.notFirst K C tb = true)
    (one : wpAny (model prog w) A (tryCompare (.ref x) (cmpInfo op).2.1 b) (fun r s' => ∃ v, r = some v ∧ Q v s') E s) : wpAny (model prog w) A (richCompare op (.ref x) b) Q E s := by
  unfold richCompare
  simp only [oneThing_ref]
  apply wpAny_holding; refine wpAny_bind (wpAny_cRoomFor hu ?_)
  apply wpAny_bind; refine I.type.here (wpAny_bind (hb.here ?_))
  split
  · rename_i ne
    have no : PySem.W.subIn K tb (.ref C) = some false := by
      unfold PySem.W.notFirst at hn
      rcases Bool.or_eq_true_iff.mp hn with z | z
      · rw [beq_iff_eq.mp z] at ne
        simp at ne
      · exact beq_iff_eq.mp z
    refine wpAny_bind ((PySem.W.looks_subIn X no).here ?_)
    simp only [if_false, Bool.false_eq_true]
    refine wpAny_bind (wpAny_mono one ?_ fun _ _ z => z)
    rintro r s' ⟨v, rfl, q⟩
    exact wpAny_pure q
  · apply wpAny_bind; refine wpAny_pure ?_
    simp only [if_false, Bool.false_eq_true]
    refine wpAny_bind (wpAny_mono one ?_ fun _ _ z => z)
    rintro r s' ⟨v, rfl, q⟩
    exact wpAny_pure q
open Builtin in
/-- != by an own == -/
theorem ne_own {Q : Value → Shared → Prop} (hu : A.in1.units < cLine) (X : K.In s.heap) (I : PySem.W.InstAt s.heap x ox C od) (hb : PySem.W.Looks (model prog w) s.heap (typeOf b) tb) (hn : PySem.W.notFirst K C tb = true) (hm : PySem.W.mroIn K C (.type "object") = some true)
    (hne : PySem.W.findIn K (.ref C) "__ne__" = some (some (.builtin "object.__ne__"))) (heq : PySem.W.findIn K (.ref C) "__eq__" = some (some (.ref f))) (hf : PySem.W.isFn K (.ref f) = true)
    (h : wpAny (model prog w) A.in1 (call (.ref f) [.ref x, b]) (fun v s' => ∃ c, v = .bool c ∧ Q (.bool (!c)) s') E s) : wpAny (model prog w) A (richCompare .NotEq (.ref x) b) Q E s := by
  refine rc_left (op := .NotEq) (Nat.lt_of_succ_lt hu) X I hb hn ?_
  unfold tryCompare
  refine wpAny_bind (bound_b X I hne PySem.F.slot_object_ne.bind ?_)
  refine wpAny_call (codeAny_call_builtin PySem.F.slot_object_ne.plain PySem.F.entry_object_ne (PySem.W.check_slot (i := "object.__ne__") (owner := "object") (n := "__ne__") (by decide +kernel) (by decide +kernel) (I.type.andThen (PySem.W.looks_mroIn X hm)) (PySem.F.cmpArgs_ne _ _) ?_))
  delta Builtin.«object.__ne__»
  refine wpAny_bind (m := slotArgs "__ne__" 1 _) (wpAny_pure ?_)
  refine wpAny_bind (m := cRoomFor _ _) (wpAny_cRoomFor (h := ?_) hu)
  refine wpAny_bind (m := callSpecialIfBound? (.ref x) (Str.ofString "__eq__") _) (PySem.W.ifBound_K X I heq hf (wpAny_mono h ?_ fun _ _ z => z))
  rintro v s' ⟨c, rfl, q⟩
  refine wpAny_bind (wpAny_truthy_bool ?_)
  refine wpAny_pure ?_
  exact wpAny_pure ⟨_, rfl, q⟩
end
/-! ### operators that call -/
abbrev OpB := D → D → M D
def iOpM (f : OpB) (ia ib : IE) : IE := fun ρ => M.bind (ia ρ) fun x => M.bind (ib ρ) fun y => f x y
def OpSM (T : Tab) (K : PySem.W.Frag) (r : R2) (f : OpB) : Prop := ∀ F S ι G H x y vx vy W σ (Q : VK), Em T K F S ι G H → DR T K G ι x vx → DR T K G ι y vy → Thn T K F W σ G ι (DR T K) (f x y S) Q → r vx vy H Q
section
variable {T : Tab} {X : Cx} {W : WX} {a b : Expr} {ia ib : IE} {pos : Pos} {r : R2} {f : OpB}
theorem opM_go (hf : OpSM T X.K r f) {σ : L2.St} {H : Hp} {Q : VK} (h : tE T X.K W (iOpM f ia ib) σ H Q) : tOp r (tE T X.K W ia) (tE T X.K W ib) σ H Q := by
  obtain ⟨ρ, F, S, ι, G, em, sr, h⟩ := h
  refine ⟨ρ, F, S, ι, G, em, sr, Thn.bind (rel2 := DR T X.K) h fun x S1 vx ι1 G1 H1 em1 x1 dx h1 => ?_⟩
  refine ⟨ρ, F, S1, ι1, G1, em1, sr.mono x1, Thn.bind (rel2 := DR T X.K) h1 fun y S2 vy ι2 G2 H2 em2 x2 dy h2 => ?_⟩
  exact hf F S2 ι2 G2 H2 x y vx vy W σ Q em2 (dx.mono x2.1 x2.2) dy h2
theorem je_cmpM {op : CmpOp} (ho : OpR X (compareOp op) r) (hf : OpSM T X.K r f) (ha : JE T X W a ia) (hb : JE T X W b ib) (hm : behindInMarks op b = false) : JE T X W (.Compare a [op] [b] pos) (iOpM f ia ib) :=
  PE.mono (pe_cmpR ho ha hb hm) fun σ H Q h => opM_go hf h
theorem jt_cmpM {op : CmpOp} (ho : OpR X (compareOp op) r) (hf : OpSM T X.K r f) (ha : JE T X W a ia) (hb : JE T X W b ib) (hm : behindInMarks op b = false) : JT T X W (.Compare a [op] [b] pos) (iTst (iOpM f ia ib)) :=
  PT.mono (pt_cmpR ho ha hb hm) fun σ H Q h => tst_go (te := tOp r (tE T X.K W ia) (tE T X.K W ib)) (fun _ _ _ h => opM_go hf h) h
end
/-- what == by the class's own def asks of the text: g: which kinds of things may stand at the right -/
structure OwnEq (T : Tab) (K : PySem.W.Frag) (c : Nat) (g : List Tg) : Prop where
  nf : ∀ t ∈ g, PySem.W.notFirst K (He.ga K (T.cn c)) (t.v T K) = true
  ne : PySem.W.findIn K (.ref (He.ga K (T.cn c))) "__ne__" = some (some (.builtin "object.__ne__"))
  mo : PySem.W.mroIn K (He.ga K (T.cn c)) (.type "object") = some true
def ownEqB (T : Tab) (K : PySem.W.Frag) (c : Nat) (g : List Tg) : Bool := g.all (fun t => PySem.W.notFirst K (He.ga K (T.cn c)) (t.v T K)) && (decide (PySem.W.findIn K (.ref (He.ga K (T.cn c))) "__ne__" = some (some (.builtin "object.__ne__"))) && decide (PySem.W.mroIn K (He.ga K (T.cn c)) (.type "object") = some true))
theorem ownEqB_ok {T : Tab} {K : PySem.W.Frag} {c : Nat} {g : List Tg} (h : ownEqB T K c g = true) : OwnEq T K c g := by
  unfold ownEqB at h
  simp only [Bool.and_eq_true, decide_eq_true_eq, List.all_eq_true] at h
  exact ⟨h.1, h.2.1, h.2.2⟩
def rOwnEq (T : Tab) (K : PySem.W.Frag) (c : Nat) (neg : Bool) (sem : List D → M D) : R2 := fun x y H Q => ∃ a dx fs t, x = .ref a ∧ H a = some (.ins (He.ga K (T.cn c)) dx fs) ∧ TyX K H y t ∧ PySem.W.notFirst K (He.ga K (T.cn c)) t = true ∧
  Quiet T K H sem 2 [x, y] (fun v H' => ∃ b, v = .bl b ∧ Q (.bl (neg != b)) H')
section
variable {T : Tab} {X : Cx} {c k : Nat} {ps : List Str} {sem : List D → M D} {g : List Tg} {cs : List Nat} {tb : List (Tg × Tg × Bool)}
theorem op_ownEq (gm : GoodM X.prog X.w T X.K X.mg X.base k c "__eq__" ps sem) (h2 : ps.length = 2) (hr : Rg k X.A) : OpR X (compareOp .Eq) (rOwnEq T X.K c false sem) := by
  rintro pins s σ H x y v u Q I rx ry h
  obtain ⟨f, fd, Fg, b, at_, fn, kp⟩ := gm
  obtain ⟨a, dx, fs, t, rfl, ha, ty, nf, z⟩ := h
  have ev : v = Value.ref a := rx; subst ev
  rcases ins_get I.hok ha with ⟨mA, O, _⟩
  obtain ⟨od, J, _⟩ := O.look
  obtain ⟨P, Z, p, _⟩ := kit_of I ry ty
  rw [← h2] at z
  refine rc_left (op := .Eq) hr.r.units0 I.kIn J (Z.ty _ _ I.kIn p) nf ?_
  unfold tryCompare
  refine wpAny_bind (PySem.W.ifBound_K I.kIn J at_ fn (wpAny_mono (call_in Fg b hr I.env0 I (vs := [.ref a, y]) (us := [.ref a, u]) (.cons rfl (.cons ry .nil)) z) ?_ fun _ _ e => e))
  rintro w s' ⟨_, H', I', rw', c, rfl, q⟩
  cases (show w = Value.bool c from rw')
  refine wpAny_pure ⟨_, rfl, .bl c, H', I', rfl, ?_⟩
  cases c <;> exact q
theorem op_ownNe (gm : GoodM X.prog X.w T X.K X.mg X.base k c "__eq__" ps sem) (oe : OwnEq T X.K c g) (h2 : ps.length = 2) (hr : Rg (k + 1) X.A) : OpR X (compareOp .NotEq) (rOwnEq T X.K c true sem) := by
  rintro pins s σ H x y v u Q I rx ry h
  obtain ⟨f, fd, Fg, b, at_, fn, kp⟩ := gm
  obtain ⟨a, dx, fs, t, rfl, ha, ty, nf, z⟩ := h
  have ev : v = Value.ref a := rx; subst ev
  rcases ins_get I.hok ha with ⟨mA, O, _⟩
  obtain ⟨od, J, _⟩ := O.look
  obtain ⟨P, Z, p, _⟩ := kit_of I ry ty
  rw [← h2] at z
  refine ne_own hr.in1.r.units0 I.kIn J (Z.ty _ _ I.kIn p) nf oe.mo oe.ne at_ fn (wpAny_mono (call_in Fg b hr.in1 I.env0.in1 I (vs := [.ref a, y]) (us := [.ref a, u]) (.cons rfl (.cons ry .nil)) z) ?_ fun _ _ e => e)
  rintro w s' ⟨_, H', I', rw', c, rfl, q⟩
  cases (show w = Value.bool c from rw')
  refine ⟨c, rfl, .bl (!c), H', I', rfl, ?_⟩
  cases c <;> exact q
/-- x == y, x an instance of c -/
def eqO (T : Tab) (c : Nat) (cs : List Nat) (g : List Tg) (neg : Bool) (sem : List D → M D) : OpB := fun x y S => match insOf T x S, tagD y S with
  | some (c', _), some t => if (decide (c' = c) && (g.contains t && okTg cs t)) = true then M.bind (nox (sem [x, y])) (fun d => M.bind (lift (isB d)) fun b => M.ret (.bl (neg != b))) S else .no
  | _, _ => .no
theorem eqO_ok {neg : Bool} (ik : IsK T X.K cs tb) (oe : OwnEq T X.K c g) : OpSM T X.K (rOwnEq T X.K c neg sem) (eqO T c cs g neg sem) := by
  intro F S ι G H x y vx vy W σ Q em dx dy t
  unfold eqO at t
  cases q : insOf T x S with
  | none => rw [q] at t; exact t.elim
  | some p =>
    obtain ⟨c', fs⟩ := p
    cases q2 : tagD y S with
    | none => rw [q, q2] at t; exact t.elim
    | some tg =>
      rw [q, q2] at t
      dsimp only at t
      split at t
      · rename_i hc
        simp only [decide_eq_true_eq, Bool.and_eq_true] at hc
        obtain ⟨rfl, hg, ok⟩ := hc
        obtain ⟨a, dd, ws, rfl, ha, _⟩ := insOf_ok em dx q
        refine ⟨a, dd, ws, tg.v T X.K, rfl, ha, tag_ok ik em dy q2 ok, oe.nf tg (by simpa using hg), rfl, [x, y], F, S, ι, G, em, DRs.cons dx (DRs.cons dy DRs.nil), ?_⟩
        unfold M.bind at t
        cases z : nox (sem [x, y]) S with
        | no => rw [z] at t; exact t.elim
        | ex c fs S' =>
          unfold nox at z
          cases z2 : sem [x, y] S <;> rw [z2] at z <;> cases z
        | ok d S' =>
          rw [z] at t
          dsimp only at t
          intro v ι' G' H' em' x' r'
          cases d with
          | bl b =>
            simp only [DR] at r'
            exact ⟨b, r', Thn.ok (Thn.ext t x') em' (by simp only [DR])⟩
          | _ => exact t.elim
      · exact t.elim
end
end J

set_option Elab.async false
set_option linter.all false
set_option maxRecDepth 100000
set_option maxHeartbeats 410000
/-! JE: an instance's truth; zip, f-strings, three names at once, sorted texts, keywords -/
namespace J
open PySem PySem.Spec L2 PyProof.Rows
/-! ### truth, instances among the values -/
structure PlainTru (K : PySem.W.Frag) (C : Addr) : Prop where
  b : PySem.W.findIn K (.ref C) "__bool__" = some none
  l : PySem.W.findIn K (.ref C) "__len__" = some none
def truO (T : Tab) (cs : List Nat) (d : D) (S : Store) : Option Bool := match insOf T d S with
  | some (c, _) => if cs.contains c = true then some true else none
  | none => truD d S
def iTr (T : Tab) (cs : List Nat) (ie : IE) : IT := fun ρ => M.bind (ie ρ) fun d => fun S => lift (truO T cs d S) S
section
variable {T : Tab} {X : Cx} {W : WX} {ie : IE} {cs : List Nat}
theorem tru_any : TruR X (fun x H Q => (∃ k, TruV X.K x H k ∧ Q k H) ∨ ∃ a C dx fs, x = .ref a ∧ H a = some (.ins C dx fs) ∧ PlainTru X.K C ∧ Q true H) := by
  intro pins s σ H x v Q I rx h
  rcases h with ⟨k, tv, q⟩ | ⟨a, C, dx, fs, rfl, ha, pt, q⟩
  · exact tru_ok pins s σ H x v Q I rx ⟨k, tv, q⟩
  · have ev : v = Value.ref a := rx; subst ev
    rcases ins_get I.hok ha with ⟨mA, O, _⟩
    obtain ⟨od, J, _⟩ := O.look
    obtain ⟨m, hF⟩ := I.fr
    exact PySem.W.truthy_K0 hF I.ok.mod.kin J pt.b pt.l ⟨H, I, q⟩
theorem pt_by {a : Expr} {ta : TE} {r : V → Hp → (Bool → Hp → Prop) → Prop} (h : PE X a ta) (k : TruR X r) (he : ∀ whole, isTrue a X.env whole = (do let v ← whole; standAt a.pos; holding [v] (truthy v))) : PT X a (fun σ H Q => ta σ H fun x H' => r x H' Q) :=
  ⟨fun pins s σ H Q I q => isTrue_plain (thn (h.run pins s σ H _ I q) fun v s1 y => y.elim fun x y => y.elim fun H1 y => k pins s1 σ H1 x v Q y.1 y.2.1 y.2.2) (he _)⟩
theorem jt_tr {e : Expr} (hc : ∀ c ∈ cs, PlainTru X.K (He.ga X.K (T.cn c))) (h : JE T X W e ie) (he : ∀ whole, isTrue e X.env whole = (do let v ← whole; standAt e.pos; holding [v] (truthy v)) := by intro _; rfl) : JT T X W e (iTr T cs ie) := by
  refine PT.mono (pt_by h tru_any he) fun σ H Q ⟨ρ, F, S, ι, G, em, sr, h⟩ => ⟨ρ, F, S, ι, G, em, sr, Thn.bind (rel2 := DR T X.K) h fun x S1 vx ι1 G1 H1 em1 x1 dx h1 => ?_⟩
  obtain ⟨b, e, h3⟩ := Thn.lift h1
  unfold truO at e
  cases q : insOf T x S1 with
  | none =>
    rw [q] at e
    exact .inl ⟨b, truD_ok em1 dx e, h3.ok em1 rfl⟩
  | some p =>
    obtain ⟨c, fs⟩ := p
    rw [q] at e
    dsimp only at e
    split at e
    · rename_i hm
      cases e
      obtain ⟨a, dd, ws, rfl, ha, _⟩ := insOf_ok em1 dx q
      exact .inr ⟨a, _, dd, ws, rfl, ha, hc c (by simpa using hm), h3.ok em1 rfl⟩
    · cases e
end
/-! ### zip of two lists, of two tuples -/
def zipD : List D → List D → List D
  | x :: xs, y :: ys => .tup [x, y] :: zipD xs ys
  | _, _ => []
def zipOf : List D → Option (List D)
  | [.lst xs, .lst ys] => some (zipD xs ys)
  | [.tup xs, .tup ys] => some (zipD xs ys)
  | _ => none
def iZip (ia : IA) : IA := fun ρ => M.bind (ia ρ) fun xs => lift (zipOf xs)
theorem zipD_get : ∀ {xs ys : List D} {i : Nat} {d : D}, (zipD xs ys)[i]? = some d → ∃ x y, d = .tup [x, y] ∧ xs[i]? = some x ∧ ys[i]? = some y
  | [], _, i, d, h => by simp [zipD] at h
  | _ :: _, [], i, d, h => by simp [zipD] at h
  | x :: xs, y :: ys, 0, d, h => by
    have e : D.tup [x, y] = d := by simpa [zipD] using h
    exact ⟨x, y, e.symm, rfl, rfl⟩
  | x :: xs, y :: ys, i + 1, d, h => by
    have h' : (zipD xs ys)[i]? = some d := by simpa [zipD] using h
    simpa using zipD_get h'
theorem zipD_len : ∀ xs ys : List D, (zipD xs ys).length = min xs.length ys.length
  | [], ys => by simp [zipD]
  | _ :: _, [] => by simp [zipD]
  | x :: xs, y :: ys => by
    simp only [zipD, List.length_cons, zipD_len xs ys]
    omega
section
variable {T : Tab} {X : Cx} {W : WX} {ia : IA} {e e2 : Expr} {p pos tpos : Pos} {elts : List Expr} {kk : Nat}
theorem pair_dr {K : PySem.W.Frag} {F : Hp} {S : Store} {ι : List Addr} {G H : Hp} {q : Addr} {x y : D} {vx vy : V} (em : Em T K F S ι G H) (hq : H q = none) (dx : DR T K G ι x vx) (dy : DR T K G ι y vy) :
    ∃ G2, Em T K F S ι G2 (upd H q (.tup [vx, vy])) ∧ Ext G ι G2 ι ∧ DR T K G2 ι (.tup [x, y]) (.ref q) := by
  obtain ⟨em2, x2⟩ := em.frz (o := .tup [vx, vy]) hq
  exact ⟨_, em2, x2, by simp only [DR]; exact ⟨q, _, rfl, upd_same, DRs.cons (dx.mono x2.1 x2.2) (DRs.cons (dy.mono x2.1 x2.2) DRs.nil)⟩⟩
theorem walk_zipL {K : PySem.W.Frag} {ι : List Addr} {G : Hp} {a b : Addr} {xs ys : List D} {vs ws : List V} (ha : G a = some (.lst vs)) (hb : G b = some (.lst ws)) (r : DRs T K G ι xs vs) (r2 : DRs T K G ι ys ws) : Walk T K ι G (Itz K a b) (zipD xs ys) := by
  intro i F S ι1 G1 H1 em x
  have h1 : SqL K H1 a vs := SqL.of (em.sub _ _ (x.1 _ _ ha))
  have h2 : SqL K H1 b ws := SqL.of (em.sub _ _ (x.1 _ _ hb))
  refine ⟨fun d e => ?_, fun e => ⟨vs, ws, h1, h2, ?_⟩⟩
  · obtain ⟨dx, dy, rfl, ex, ey⟩ := zipD_get e
    obtain ⟨v, hv, dv⟩ := r.get ex
    obtain ⟨w, hw, dw⟩ := r2.get ey
    refine ⟨⟨vs, ws, v, w, h1, h2, hv, hw⟩, fun u H2 hy => ?_⟩
    obtain ⟨q, vx, vy, rfl, hq, rfl, f1, f2⟩ := hy
    have e1 := f1 vs h1
    have e2 := f2 ws h2
    rw [hv] at e1
    rw [hw] at e2
    cases e1
    cases e2
    exact pair_dr em hq (dv.mono x.1 x.2) (dw.mono x.1 x.2)
  · have := zipD_len xs ys
    have l1 := r.length
    have l2 := r2.length
    omega
theorem walk_zipT {K : PySem.W.Frag} {ι : List Addr} {G : Hp} {a b : Addr} {xs ys : List D} {vs ws : List V} (ha : G a = some (.tup vs)) (hb : G b = some (.tup ws)) (r : DRs T K G ι xs vs) (r2 : DRs T K G ι ys ws) : Walk T K ι G (RZ.ItzT K a b) (zipD xs ys) := by
  intro i F S ι1 G1 H1 em x
  have h1 : SqT K H1 a vs := SqT.of (em.sub _ _ (x.1 _ _ ha))
  have h2 : SqT K H1 b ws := SqT.of (em.sub _ _ (x.1 _ _ hb))
  refine ⟨fun d e => ?_, fun e => ⟨vs, ws, h1, h2, ?_⟩⟩
  · obtain ⟨dx, dy, rfl, ex, ey⟩ := zipD_get e
    obtain ⟨v, hv, dv⟩ := r.get ex
    obtain ⟨w, hw, dw⟩ := r2.get ey
    refine ⟨⟨vs, ws, v, w, h1, h2, hv, hw⟩, fun u H2 hy => ?_⟩
    obtain ⟨q, vx, vy, rfl, hq, rfl, f1, f2⟩ := hy
    have e1 := f1 vs h1
    have e2 := f2 ws h2
    rw [hv] at e1
    rw [hw] at e2
    cases e1
    cases e2
    exact pair_dr em hq (dv.mono x.1 x.2) (dw.mono x.1 x.2)
  · have := zipD_len xs ys
    have l1 := r.length
    have l2 := r2.length
    omega
theorem ji_zip (hg : Gl X "zip") (hm : X.mg "zip" = none) (ha : JA T X W [e, e2] ia) (hs : starEach [e, e2] X.env = (false, eval e X.env) :: starEach [e2] X.env := by rfl) (hpl : (backTo pos (starEach [e2] X.env)).any (·.1) = false := by rfl) :
    JI T X W (.Tuple elts kk tpos) (.Call (.Name "zip" p) [e, e2] [] pos) (iZip ia) := by
  refine PI.mono (RZ.pi_zipA hg hm ha hs hpl) fun σ H R ⟨ρ, F, S, ι, G, em, sr, h⟩ => ⟨ρ, F, S, ι, G, em, sr, ?_⟩
  unfold iZip M.bind at h
  cases q : ia ρ S with
  | no => rw [q] at h; exact h.elim
  | ex c fs S1 => rw [q] at h; exact h
  | ok xs S1 =>
    rw [q] at h
    intro vs ι1 G1 H1 em1 x1 dr
    dsimp only at h
    unfold lift at h
    unfold zipOf at h
    split at h
    · rename_i zs hz
      split at hz
      · rename_i xs ys
        cases hz
        obtain ⟨v, w, rfl, r1, r2⟩ := dr.two
        simp only [DR] at r1 r2
        obtain ⟨a, us, rfl, ha, ra⟩ := r1
        obtain ⟨b, ws, rfl, hb, rb⟩ := r2
        exact ⟨a, b, us, ws, rfl, .inl ⟨SqL.of (em1.sub _ _ ha), SqL.of (em1.sub _ _ hb), h _ ι1 G1 H1 em1 x1 (walk_zipL ha hb ra rb)⟩⟩
      · rename_i xs ys
        cases hz
        obtain ⟨v, w, rfl, r1, r2⟩ := dr.two
        simp only [DR] at r1 r2
        obtain ⟨a, us, rfl, ha, ra⟩ := r1
        obtain ⟨b, ws, rfl, hb, rb⟩ := r2
        exact ⟨a, b, us, ws, rfl, .inr ⟨SqT.of (em1.sub _ _ ha), SqT.of (em1.sub _ _ hb), h _ ι1 G1 H1 em1 x1 (walk_zipT ha hb ra rb)⟩⟩
      · cases hz
    · exact h.elim
end
/-! ### f-strings -/
def fmtOf : D → Option (List Nat)
  | .str l => if l.length ≤ 100000 then some l else none
  | .int i => if i.natAbs.log2 < 1920 then some (digits i) else none
  | _ => none
def iFmt (ie : IE) : IE := fun ρ => M.bind (ie ρ) fun d => lift ((fmtOf d).map .str)
def joinF : List IE → List Nat → Rho → M (List Nat)
  | [], acc, _ => M.ret acc
  | i :: is, acc, ρ => M.bind (i ρ) fun d => match d with
    | .str l => if (acc ++ l).length ≤ 100000 then joinF is (acc ++ l) ρ else M.no
    | _ => M.no
def iJoin (is : List IE) : IE := fun ρ => M.bind (joinF is [] ρ) fun l => M.ret (.str l)
section
variable {T : Tab} {X : Cx} {W : WX} {ie : IE} {e : Expr} {pos : Pos}
theorem je_fmt (he : JE T X W e ie) : JE T X W (.FormattedValue e (-1) none pos) (iFmt ie) := by
  refine PE.mono (pe_fmt he) fun σ H Q ⟨ρ, F, S, ι, G, em, sr, h⟩ => ⟨ρ, F, S, ι, G, em, sr, Thn.bind (rel2 := DR T X.K) h fun x S1 vx ι1 G1 H1 em1 x1 dx h1 => ?_⟩
  obtain ⟨b, e, h3⟩ := Thn.lift h1
  cases x with
  | str l =>
    simp only [DR] at dx
    unfold fmtOf at e
    dsimp only at e
    split at e
    · rename_i hl
      cases e
      exact .inl ⟨_, dx, by show l.toArray.size ≤ _; simpa using sz_of hl, h3.ok em1 (by simp only [DR])⟩
    · cases e
  | int i =>
    simp only [DR] at dx
    unfold fmtOf at e
    dsimp only at e
    split at e
    · rename_i hl
      cases e
      exact .inr ⟨i, dx, hl, h3.ok em1 (by simp only [DR]; exact digits_eq i)⟩
    · cases e
  | _ => cases e
def JJ (T : Tab) (X : Cx) (W : WX) (es : List Expr) (is : List IE) : Prop := PJ X es (is.map (tE T X.K W))
theorem jj_nil : JJ T X W [] [] := .nil
theorem jj_cons {es : List Expr} {is : List IE} (h : JE T X W e ie) (r : JJ T X W es is) : JJ T X W (e :: es) (ie :: is) := .cons h r
theorem joinF_go {σ : L2.St} {Q : Str → Hp → Prop} : ∀ (is : List IE) (acc : List Nat) (H : Hp) (ρ : Rho) (F : Hp) (S : Store) (ι : List Addr) (G : Hp), Em T X.K F S ι G H → SR T X.K G ι ρ σ →
    Thn T X.K F W σ G ι (fun _ _ l y => y = (⟨l.toArray⟩ : Str)) (joinF is acc ρ S) Q → tJs (is.map (tE T X.K W)) ⟨acc.toArray⟩ σ H Q
  | [], acc, H, ρ, F, S, ι, G, em, sr, h => Thn.ok h em rfl
  | i :: is, acc, H, ρ, F, S, ι, G, em, sr, h => by
    refine ⟨ρ, F, S, ι, G, em, sr, Thn.bind (rel2 := DR T X.K) h fun d S1 v ι1 G1 H1 em1 x1 dr h1 => ?_⟩
    cases d with
    | str l =>
      dsimp only at h1
      by_cases hl : (acc ++ l).length ≤ 100000
      · rw [if_pos hl] at h1
        simp only [DR] at dr
        have e : (⟨acc.toArray⟩ : Str) ++ (⟨l.toArray⟩ : Str) = ⟨(acc ++ l).toArray⟩ := by
          show Str.mk (acc.toArray ++ l.toArray) = _
          simp
        refine ⟨_, dr, ?_, ?_⟩
        · rw [e]
          show (acc ++ l).toArray.size ≤ _
          simpa using sz_of (by simpa using hl)
        · rw [e]
          exact joinF_go is (acc ++ l) H1 ρ F S1 ι1 G1 em1 (sr.mono x1) h1
      · rw [if_neg hl] at h1
        exact h1.elim
    | _ => exact h1.elim
theorem je_joined {v1 v2 : Expr} {rest : List Expr} {is : List IE} (h : JJ T X W (v1 :: v2 :: rest) is) : JE T X W (.JoinedStr (v1 :: v2 :: rest) pos) (iJoin is) := by
  refine PE.mono (pe_joined h) fun σ H Q ⟨ρ, F, S, ι, G, em, sr, h⟩ => ?_
  refine joinF_go is [] H ρ F S ι G em sr (Thn.bind h fun l S1 y ι1 G1 H1 em1 x1 r h1 => ?_)
  exact Thn.ok h1 em1 (by simp only [DR]; rw [r])
theorem je_joined1 {is : IE} (h : JE T X W e is) : JE T X W (.JoinedStr [e] pos) is := pe_joined1 h
end
/-! ### three names at once -/
def sPar3 (i j l : Nat) (ia : IA) : IS := fun ρ => sBind (ia ρ) ρ fun xs => match xs with
  | [x, y, z] => M.ret (.nx (((ρ.set i (some x)).set j (some y)).set l (some z)))
  | _ => M.no
section
variable {T : Tab} {X : Cx} {W : WX} {pos : Pos}
theorem DRs.three {K : PySem.W.Frag} {G : Hp} {ι : List Addr} {x y z : D} {vs : List V} (h : DRs T K G ι [x, y, z] vs) : ∃ u v w, vs = [u, v, w] ∧ DR T K G ι x u ∧ DR T K G ι y v ∧ DR T K G ι z w := by
  simp only [DRs] at h
  obtain ⟨u, _, rfl, h1, v, _, rfl, h2, w, _, rfl, h3, rfl⟩ := h
  exact ⟨u, v, w, rfl, h1, h2, h3⟩
theorem js_par3 {i j l : Nat} {x y z : Str} {a b c : Expr} {ia : IA} {px py pz pt : Pos} {kt k2 pt2} (hc : X.calm = true) (hN : X.N.Nodup) (hi : X.N[i]? = some x) (hj : X.N[j]? = some y) (hl : X.N[l]? = some z) (hij : i ≠ j) (hil : i ≠ l) (hjl : j ≠ l)
    (hx : X.env.scope.names.lookup x = some .local) (hy : X.env.scope.names.lookup y = some .local) (hz : X.env.scope.names.lookup z = some .local) (ha : JA T X W [a, b, c] ia)
    (hw : swappedStores [.Tuple [.Name x px, .Name y py, .Name z pz] kt pt] (.Tuple [a, b, c] k2 pt2) X.env = pure (some [x, y, z]) := by rfl)
    (sole : swapsWithSole [.Tuple [.Name x px, .Name y py, .Name z pz] kt pt] (.Tuple [a, b, c] k2 pt2) pos.line X.env = pure false := by rfl) :
    JS T X W (.Assign [.Tuple [.Name x px, .Name y py, .Name z pz] kt pt] (.Tuple [a, b, c] k2 pt2) pos) (sPar3 i j l ia) := by
  refine PS.mono (L2.ps_par3 hc hN hi hj hl hij hil hjl hx hy hz ha hw sole) fun D σ H ⟨ρ, F, S, ι, G, em, sr, h⟩ => ⟨ρ, F, S, ι, G, em, sr, ThnS.bind (rel := DRs T X.K) h sr fun xs S1 vs ι1 G1 H1 em1 x1 r h1 => ?_⟩
  rcases xs with _ | ⟨d1, _ | ⟨d2, _ | ⟨d3, _ | ⟨d4, rest⟩⟩⟩⟩
  · exact h1.elim
  · exact h1.elim
  · exact h1.elim
  · obtain ⟨u, v, w, rfl, r1, r2, r3⟩ := r.three
    exact ⟨u, v, w, rfl, h1.nx em1 ((((sr.mono x1).set r1 i).set r2 j).set r3 l)⟩
  · exact h1.elim
end
end J

set_option Elab.async false
set_option linter.all false
set_option maxRecDepth 100000
set_option maxHeartbeats 410000
/-! JF: sorted texts, keywords -/
namespace J
open PySem PySem.Spec L2 PyProof.Rows
/-! ### texts in order -/
def insS (x : List Nat) : List (List Nat) → List (List Nat)
  | [] => [x]
  | y :: r => if ltCps y x = true then y :: insS x r else x :: y :: r
def sortS : List (List Nat) → List (List Nat)
  | [] => []
  | x :: r => insS x (sortS r)
theorem insS_perm (x : List Nat) : ∀ l, (insS x l).Perm (x :: l)
  | [] => .refl _
  | y :: r => by
    unfold insS
    split
    · exact ((insS_perm x r).cons y).trans (.swap x y r)
    · exact .refl _
theorem sortS_perm : ∀ l, (sortS l).Perm l
  | [] => .refl _
  | x :: r => (insS_perm x (sortS r)).trans ((sortS_perm r).cons x)
def LeS (a b : List Nat) : Prop := ltCps b a = false
theorem le_iff (a b : List Nat) : LeS a b ↔ ¬ b < a := by
  unfold LeS
  rw [ltCps_eq]
  simp
theorem lt_tri : ∀ a b : List Nat, a < b ∨ a = b ∨ b < a
  | [], [] => .inr (.inl rfl)
  | [], _ :: _ => .inl (List.nil_lt_cons ..)
  | _ :: _, [] => .inr (.inr (List.nil_lt_cons ..))
  | x :: a, y :: b => by
    rcases Nat.lt_trichotomy x y with h | h | h
    · exact .inl (List.cons_lt_cons_iff.mpr (.inl h))
    · subst h
      rcases lt_tri a b with k | k | k
      · exact .inl (List.cons_lt_cons_iff.mpr (.inr ⟨rfl, k⟩))
      · exact .inr (.inl (by rw [k]))
      · exact .inr (.inr (List.cons_lt_cons_iff.mpr (.inr ⟨rfl, k⟩)))
    · exact .inr (.inr (List.cons_lt_cons_iff.mpr (.inl h)))
theorem LeS.antisymm {a b : List Nat} (h : LeS a b) (k : LeS b a) : a = b := by
  rw [le_iff] at h k
  rcases lt_tri a b with z | z | z
  · exact absurd z k
  · exact z
  · exact absurd z h
theorem LeS.trans {a b c : List Nat} (h : LeS a b) (k : LeS b c) : LeS a c := by
  rw [le_iff] at *
  intro z
  rcases lt_tri a b with y | y | y
  · exact k (List.lt_trans z y)
  · subst y; exact k z
  · exact h y
theorem insS_sorted (x : List Nat) : ∀ l : List (List Nat), l.Pairwise LeS → (insS x l).Pairwise LeS
  | [], _ => List.pairwise_singleton ..
  | y :: r, h => by
    have ⟨h1, h2⟩ := List.pairwise_cons.mp h
    unfold insS
    split
    · rename_i lt
      refine List.pairwise_cons.mpr ⟨fun z hz => ?_, insS_sorted x r h2⟩
      rcases List.mem_cons.mp ((insS_perm x r).mem_iff.mp hz) with e | e
      · subst e
        rw [le_iff]
        rw [ltCps_eq] at lt
        exact List.lt_asymm (of_decide_eq_true lt)
      · exact h1 z e
    · rename_i lt
      have le : LeS x y := by simpa [LeS] using lt
      exact List.pairwise_cons.mpr ⟨fun z hz => (List.mem_cons.mp hz).elim (fun e => e ▸ le) fun e => le.trans (h1 z e), h⟩
theorem sortS_sorted : ∀ l : List (List Nat), (sortS l).Pairwise LeS
  | [] => .nil
  | x :: r => insS_sorted x _ (sortS_sorted r)
theorem sorted_eq : ∀ {l m : List (List Nat)}, l.Pairwise LeS → m.Pairwise LeS → l.Perm m → l = m
  | [], m, _, _, p => (List.nil_perm.mp p).symm
  | x :: l, [], _, _, p => absurd p (by simp)
  | x :: l, y :: m, h, k, p => by
    have ⟨h1, h2⟩ := List.pairwise_cons.mp h
    obtain ⟨k1, k2⟩ := List.pairwise_cons.mp k
    have e : x = y := by
      have a : x ∈ y :: m := p.mem_iff.mp (List.mem_cons_self ..)
      have b : y ∈ x :: l := p.mem_iff.mpr (List.mem_cons_self ..)
      rcases List.mem_cons.mp a with e | a
      · exact e
      · rcases List.mem_cons.mp b with e | b
        · exact e.symm
        · exact (h1 y b).antisymm (k1 x a)
    subst e
    rw [sorted_eq h2 k2 (List.Perm.cons_inv p)]
theorem rising_pw : ∀ (r : List Str) (p : Str), risingS p r = true → (p :: r).Pairwise fun a b => LeS a.cps.toList b.cps.toList
  | [], p, _ => List.pairwise_singleton ..
  | x :: r, p, h => by
    have h' : (!ltCps x.cps.toList p.cps.toList && risingS x r) = true := h
    have ⟨h1, h2⟩ := Bool.and_eq_true_iff.mp h'
    have ih := rising_pw r x h2
    have le : LeS p.cps.toList x.cps.toList := by simpa [LeS] using h1
    refine List.pairwise_cons.mpr ⟨fun z hz => ?_, ih⟩
    rcases List.mem_cons.mp hz with e | e
    · subst e; exact le
    · exact le.trans ((List.pairwise_cons.mp ih).1 z e)
theorem sortedS_pw : ∀ l : List Str, sortedS l = true → l.Pairwise fun a b => LeS a.cps.toList b.cps.toList
  | [], _ => .nil
  | x :: r, h => rising_pw r x h
def sortD : OpN := fun xs S => match xs with
  | [d] => (match seqL d S with
    | some l => (match strsOf l with
      | some ss => if ss.length < 64 then some (.lst ((sortS ss).map .str)) else none
      | none => none)
    | none => none)
  | _ => none
theorem str_of_cps (y : Str) : (⟨(y.cps.toList).toArray⟩ : Str) = y := by
  cases y
  simp
theorem strs_dr {T : Tab} {K : PySem.W.Frag} {G : Hp} {ι : List Addr} : ∀ ss : List (List Nat), DRs T K G ι (ss.map .str) ((ss.map fun l => (⟨l.toArray⟩ : Str)).map V.str)
  | [] => DRs.nil
  | x :: r => DRs.cons (by simp only [DR]) (strs_dr r)
theorem sort_same {ss : List (List Nat)} {ys : List Str} (p : ys.Perm (ss.map fun l => (⟨l.toArray⟩ : Str))) (h : sortedS ys = true) : ys = (sortS ss).map fun l => (⟨l.toArray⟩ : Str) := by
  have e : ys.map (fun y => y.cps.toList) = sortS ss := by
    refine sorted_eq (List.pairwise_map.mpr (sortedS_pw ys h)) (sortS_sorted ss) (((p.map _).trans ?_).trans (sortS_perm ss).symm)
    rw [List.map_map]
    exact List.Perm.of_eq ((List.map_congr_left fun l _ => by simp).trans (List.map_id ss))
  rw [← e, List.map_map]
  exact ((List.map_congr_left fun y _ => str_of_cps y).trans (List.map_id ys)).symm
theorem sortD_ok {T : Tab} {K : PySem.W.Frag} : CaS T K (rSortedS K) sortD := by
  intro F S ι G H xs d vs Q em dr e q
  rcases xs with _ | ⟨x, _ | ⟨y, r⟩⟩
  · cases e
  · obtain ⟨v, rfl, r⟩ := dr.one
    unfold sortD at e
    dsimp only at e
    cases h1 : seqL x S with
    | none => rw [h1] at e; cases e
    | some l =>
      rw [h1] at e
      dsimp only at e
      cases h2 : strsOf l with
      | none => rw [h2] at e; cases e
      | some ss =>
        rw [h2] at e
        dsimp only at e
        split at e
        · rename_i hl
          cases e
          obtain ⟨a, ws, rfl, ha, ra⟩ := seqL_ok em r h1
          have hw := strsOf_ok ra h2
          refine ⟨a, ss.map fun l => (⟨l.toArray⟩ : Str), rfl, by rw [← hw]; exact SqL.of ha, by rw [List.length_map]; exact hl, fun ys p perm so hp => ?_⟩
          have ey := sort_same perm so
          obtain ⟨em2, x2⟩ := em.frz (o := .lst (ys.map V.str)) hp
          refine q _ _ _ em2 x2 ?_
          simp only [DR]
          refine ⟨p, ys.map V.str, rfl, upd_same, ?_⟩
          rw [ey]
          exact strs_dr _
        · cases e
  · cases e
/-! ### keywords -/
def pickL {α : Type} (pm : List Nat) (l : List α) : List α := pm.filterMap fun i => l[i]?
theorem pick_vals {vs : List V} {us : List Value} (r : Vals vs us) : ∀ pm : List Nat, Vals (pickL pm vs) (pickL pm us)
  | [] => .nil
  | i :: pm => by
    have ih := pick_vals r pm
    unfold pickL at ih ⊢
    cases q : vs[i]? with
    | none =>
      have z : us[i]? = none := by
        rw [List.getElem?_eq_none_iff] at q ⊢
        rw [← r.length]
        exact q
      simp only [List.filterMap_cons, q, z]
      exact ih
    | some v =>
      obtain ⟨u, e, ru⟩ := r.get q
      simp only [List.filterMap_cons, q, e]
      exact .cons ru ih
theorem pick_drs {T : Tab} {K : PySem.W.Frag} {G : Hp} {ι : List Addr} {xs : List D} {vs : List V} (r : DRs T K G ι xs vs) : ∀ pm : List Nat, DRs T K G ι (pickL pm xs) (pickL pm vs)
  | [] => DRs.nil
  | i :: pm => by
    have ih := pick_drs r pm
    unfold pickL at ih ⊢
    cases q : xs[i]? with
    | none =>
      have z : vs[i]? = none := by
        rw [List.getElem?_eq_none_iff] at q ⊢
        rw [← r.length]
        exact q
      simp only [List.filterMap_cons, q, z]
      exact ih
    | some v =>
      obtain ⟨u, e, ru⟩ := r.get q
      simp only [List.filterMap_cons, q, e]
      exact DRs.cons ru ih
/-- a call of n values and the keywords ks: the parameters are found at the places pm -/
def BindsW (K : PySem.W.Frag) (fd : FuncData) (ps : List Str) (n : Nat) (ks : List Str) (pm : List Nat) : Prop := ∀ (s : Shared) (us ws : List Value), K.In s.heap → us.length = n → ws.length = ks.length → BindsTo s fd ⟨us, ks.zip ws⟩ (ps.zip (pickL pm (us ++ ws)))
theorem bindsW_of {K : PySem.W.Frag} {x qual : Str} {params : Arguments} {body : List Stmt} {scope : Scope} {kws : List (Str × V)} {f : Addr} {fd : FuncData} {ps : List Str} (F : FunD K x qual params body scope [] kws f fd) {n : Nat} {ks : List Str} {pm : List Nat}
    (h : ∀ (kV doc pm' : Value) (an : Option Addr) (cdv ct : Value) (us ws : List Value), us.length = n → ws.length = ks.length → bindArgs (PySem.W.fnOf x qual params body scope .none kV doc pm' an cdv ct) ⟨us, ks.zip ws⟩ = pure (ps.zip (pickL pm (us ++ ws)))) : BindsW K fd ps n ks pm := by
  obtain ⟨oc, od, dV, kV, doc, pm', an, cdv, ct, osl, rfl, lk, hcd, hD, hK⟩ := F.ex
  obtain ⟨_, rfl⟩ | ⟨e, _⟩ := hD
  · intro s us ws X l1 l2
    exact BindsTo.of_looks fun M => .of_pure (h kV doc pm' an cdv ct us ws l1 l2)
  · exact absurd rfl e
/-- an instance is made: however the call is written -/
theorem make_k {T : Tab} {X : Cx} {W : WX} {ps : List Str} {k c : Nat} {frz : Bool} {sem : List D → M D} {pins : List (Addr × Obj)} {σ : L2.St} {H : Hp} {s : Shared} {Q : VK} {ar : Args} {us : List Value} {vs : List V} {f : Addr} {fd : FuncData} {F : Hp} {S : Store} {ι : List Addr} {G : Hp} {xs : List D}
    (Fg : FnG X.prog X.w X.K X.mg X.base k f fd ps (spJ T X.K ps.length sem)) (mk : Mk X.K (He.ga X.K (T.cn c)) f) (hr : Rg (k + 1) X.A) (tk : Takes X W) (I : Inv X pins σ H s)
    (hb : ∀ (s2 : Shared) (y : Value), X.K.In s2.heap → BindsTo s2 fd ⟨y :: ar.pos, ar.kw⟩ (ps.zip (y :: us))) (r : Vals vs us)
    (em : Em T X.K F S ι G H) (dr : DRs T X.K G ι xs vs) (h : Thn T X.K F W σ G ι (DR T X.K) (makeD T frz c ps.length sem xs S) Q) : wpAny (model X.prog X.w) X.A (call (.ref (He.ga X.K (T.cn c))) ar.pos ar.kw) (EP X pins σ Q) X.xe s := by
  unfold makeD at h
  by_cases hl : xs.length + 1 = ps.length
  case neg => rw [if_neg hl] at h; exact h.elim
  rw [if_pos hl] at h
  have I2 := Inv.made (C := He.ga X.K (T.cn c)) I
  have n0 : H s.heap.objs.size = none := I.hok.fresh (Nat.le_refl _)
  have n1 : (upd H s.heap.objs.size (.own (s.heap.objs.size + 1))) (s.heap.objs.size + 1) = none := by
    rw [upd_ne (Nat.succ_ne_self _)]
    exact I.hok.fresh (Nat.le_succ _)
  obtain ⟨em2, x2, hn⟩ := (em.junk (o := .own (s.heap.objs.size + 1)) n0).alloc (o := .ins c []) (u := .ins (He.ga X.K (T.cn c)) s.heap.objs.size []) n1 ⟨_, _, rfl, rfl⟩
  have want : spJ T X.K ps.length sem (.ref (s.heap.objs.size + 1) :: vs) (upd (upd H s.heap.objs.size (.own (s.heap.objs.size + 1))) (s.heap.objs.size + 1) (.ins (He.ga X.K (T.cn c)) s.heap.objs.size []))
      (fun v H2 => v = .non ∧ Q (.ref (s.heap.objs.size + 1)) H2) (fun cl d H => W cl d σ H) := by
    refine ⟨by rw [List.length_cons, ← dr.length]; exact hl, .ref S.next :: xs, F, _, _, G, em2, DRs.cons (by simp only [DR]; exact ⟨_, hn, rfl⟩) (dr.mono x2.1 x2.2), ?_⟩
    cases q : sem (.ref S.next :: xs) (S.alloc (.ins c [])) with
    | no => rw [q] at h; exact h.elim
    | ex c' fs S' =>
      rw [q] at h
      exact fun dd ι' G' H' em' y xr => h dd ι' G' H' em' (x2.trans y) xr
    | ok d S' =>
      rw [q] at h
      cases d with
      | non =>
        intro v ι' G' H' em' y dv
        simp only [DR] at dv
        exact ⟨dv, made_ok em' (y.2 _ _ hn) (Thn.ext h (x2.trans y))⟩
      | _ => exact h.elim
  have r2 : Vals (V.ref (s.heap.objs.size + 1) :: vs) (Value.ref (s.heap.objs.size + 1) :: us) := by exact .cons rfl r
  have gd : (X.A.under (.builtin "type.__call__" ⟨.ref (He.ga X.K (T.cn c)) :: ar.pos, ar.kw⟩)).guards = some [] := by
    first | exact hr.g | (simpa [Around.under, Code.guards, Code.isGuard, guardIds, pushGuards] using hr.g)
  refine wpAny_call (make_map (f := f) I.kIn mk.makes mk.init (beq_iff_eq.mp mk.fn) (codeAny_mono (Fg.run _ X.stack _ _ _ _ _ _ _ (hr.r.make _ ar.pos ar.kw) gd (I2.env0.make _ ar.pos ar.kw) (hb _ _ I2.kIn) r2 want) fun rs s' z => ?_))
  cases rs with
  | error e => exact tk e s' (XE.of_call (W := W) I2 (fun _ _ _ h => h) z)
  | ok fl =>
    cases fl with
    | ret u =>
      obtain ⟨v, H', I3, rv, ev, q3⟩ := I2.after z
      subst ev
      exact ⟨rv, V.ref (s.heap.objs.size + 1), H', I3, rfl, q3⟩
    | _ => exact False.elim z
abbrev JK (T : Tab) (X : Cx) (W : WX) (ks : List Keyword) (ia : IA) : Prop := PK X ks (tA T X.K W ia)
theorem PK.mono {X : Cx} {e : List Keyword} {t t' : TA} (h : PK X e t) (k : ∀ σ H Q, t' σ H Q → t σ H Q) : PK X e t' := ⟨fun pos pins s σ H Q I q => h.run pos pins s σ H Q I (k σ H Q q)⟩
def GoodK (P : Program) (w : World) (T : Tab) (K : PySem.W.Frag) (mg : Str → Option Value) (base : Heap) (k : Nat) (x : Str) (ps : List Str) (sem : List D → M D) (n : Nat) (ks : List Str) (pm : List Nat) : Prop :=
  ∃ fd, FnG P w K mg base k (He.ga K x) fd ps (spJ T K ps.length sem) ∧ BindsW K fd ps n ks pm ∧ mg x = some (.ref (He.ga K x)) ∧ PySem.W.keepIn K (.ref (He.ga K x)) = true
def GoodIK (P : Program) (w : World) (T : Tab) (K : PySem.W.Frag) (mg : Str → Option Value) (base : Heap) (k : Nat) (c : Nat) (ps : List Str) (sem : List D → M D) (n : Nat) (ks : List Str) (pm : List Nat) : Prop :=
  ∃ f fd, FnG P w K mg base k f fd ps (spJ T K ps.length sem) ∧ BindsW K fd ps n ks pm ∧ Mk K (He.ga K (T.cn c)) f ∧ mg (T.cn c) = some (.ref (He.ga K (T.cn c)))
section
variable {T : Tab} {X : Cx} {W : WX} {e : Expr} {ie : IE} {ik : IA} {kws : List Keyword} {nm : Option Str} {kpos p pos : Pos} {x : Str} {ps ks : List Str} {k n c : Nat} {pm : List Nat} {sem : List D → M D}
theorem jk_nil : JK T X W [] iNil := PK.mono pk_nil fun σ H Q ⟨ρ, F, S, ι, G, em, sr, h⟩ => Thn.ok h em DRs.nil
theorem jk_cons (ha : JE T X W e ie) (hr : JK T X W kws ik) : JK T X W (⟨nm, e, kpos⟩ :: kws) (iCons ie ik) := PK.mono (pk_cons ha hr) fun σ H Q h => cons_go (T := T) (X := X) (W := W) h
/-- f(k = v, ..) -/
def iCallK (n : Nat) (pm : List Nat) (sem : List D → M D) (ik : IA) : IE := fun ρ => M.bind (ik ρ) fun xs => if xs.length = n ∧ (pickL pm xs).length = pm.length then sem (pickL pm xs) else M.no
theorem je_callK0 (g : GoodK X.prog X.w T X.K X.mg X.base k x ps sem 0 ks pm) (hpm : pm.length = ps.length) (hr : Rg k X.A) (hg : Gl X x) (tk : Takes X W) (hkw : JK T X W kws ik)
    (named : (backToKw pos (keywordEach kws X.env)).all (·.1.isSome) = true := by rfl) (names : (backToKw pos (keywordEach kws X.env)).filterMap (·.1) = ks := by rfl) (hdb : (x == ("__debug__" : Str)) = false := by decide)
    (hpl : ((backTo pos (starEach [] X.env)).any (·.1) || (backToKw pos (keywordEach kws X.env)).any (·.1.isNone)) = false := by rfl) : JE T X W (.Call (.Name x p) [] kws pos) (iCallK ks.length pm sem ik) := by
  obtain ⟨fd, Fg, b, m, kp⟩ := g
  constructor; intro pins s σ H Q I hq
  have key : tA T X.K W ik σ H fun vs H1 => vs.length = ks.length ∧ spJ T X.K ps.length sem (pickL pm vs) H1 Q fun c d H => W c d σ H := by
    obtain ⟨ρ, F, S, ι, G, em, sr, h⟩ := hq
    refine ⟨ρ, F, S, ι, G, em, sr, Thn.bind (rel2 := DRs T X.K) h fun xs S1 vs ι1 G1 H1 em1 x1 dr h1 => ?_⟩
    by_cases hl : xs.length = ks.length ∧ (pickL pm xs).length = pm.length
    · rw [if_pos hl] at h1
      have dp := pick_drs dr pm
      exact ⟨dr.length.symm.trans hl.1, by rw [← dp.length, hl.2]; exact hpm, _, F, S1, ι1, G1, em1, dp, h1.slots fun _ _ _ z => z⟩
    · rw [if_neg hl] at h1
      exact h1.elim
  refine wpAny_Call_Name_kw (ld_glob I hg m ?_ hdb)
  refine PySem.W.callWith_KW0 (h₀ := X.base) I.ok.mod.kin kp named ?_ hpl
  refine thn (hkw.run pos pins s σ H _ I key) ?_
  rintro us s1 ⟨vs, H1, I1, r, hl, q⟩
  refine ⟨I1.kIn, ?_⟩
  rw [names]
  refine wpAny_call (codeAny_mono (run_g Fg hr tk I1 (b s1 [] us I1.kIn rfl (r.length.symm.trans hl)) (pick_vals r pm) q) fun rs s' z => ?_)
  cases rs with
  | error e => exact z
  | ok fl =>
    cases fl with
    | ret u => exact z
    | _ => exact z.elim
/-- C(k = v, ..): pm tells the places of __init__'s parameters behind self -/
def iMakeK (T : Tab) (frz : Bool) (c k n : Nat) (pm : List Nat) (sem : List D → M D) (ik : IA) : IE := fun ρ => M.bind (ik ρ) fun xs => if xs.length = n ∧ (pickL pm xs).length = pm.length then makeD T frz c k sem (pickL pm xs) else M.no
theorem pick_self {α : Type} (a : α) (l : List α) : ∀ pm : List Nat, pickL (0 :: pm.map (· + 1)) (a :: l) = a :: pickL pm l := by
  intro pm
  unfold pickL
  simp only [List.filterMap_cons, List.getElem?_cons_zero, List.filterMap_map]
  congr 1
theorem je_makeK0 (g : GoodIK X.prog X.w T X.K X.mg X.base k c ps sem 1 ks (0 :: pm.map (· + 1))) (frz : Bool) (hr : Rg (k + 1) X.A) (hx : x = T.cn c) (hg : Gl X x) (tk : Takes X W) (hkw : JK T X W kws ik)
    (named : (backToKw pos (keywordEach kws X.env)).all (·.1.isSome) = true := by rfl) (names : (backToKw pos (keywordEach kws X.env)).filterMap (·.1) = ks := by rfl) (hdb : (x == ("__debug__" : Str)) = false := by decide)
    (hpl : ((backTo pos (starEach [] X.env)).any (·.1) || (backToKw pos (keywordEach kws X.env)).any (·.1.isNone)) = false := by rfl) : JE T X W (.Call (.Name x p) [] kws pos) (iMakeK T frz c ps.length ks.length pm sem ik) := by
  obtain ⟨f, fd, Fg, b, mk, m⟩ := g
  subst hx
  constructor; intro pins s σ H Q I hq
  have key : tA T X.K W ik σ H fun vs H1 => vs.length = ks.length ∧ ∃ xs F S ι G, Em T X.K F S ι G H1 ∧ DRs T X.K G ι (pickL pm xs) (pickL pm vs) ∧ Thn T X.K F W σ G ι (DR T X.K) (makeD T frz c ps.length sem (pickL pm xs) S) Q := by
    obtain ⟨ρ, F, S, ι, G, em, sr, h⟩ := hq
    refine ⟨ρ, F, S, ι, G, em, sr, Thn.bind (rel2 := DRs T X.K) h fun xs S1 vs ι1 G1 H1 em1 x1 dr h1 => ?_⟩
    by_cases hl : xs.length = ks.length ∧ (pickL pm xs).length = pm.length
    · rw [if_pos hl] at h1
      exact ⟨dr.length.symm.trans hl.1, xs, F, S1, ι1, G1, em1, pick_drs dr pm, h1⟩
    · rw [if_neg hl] at h1
      exact h1.elim
  refine wpAny_Call_Name_kw (ld_glob I hg m ?_ hdb)
  refine PySem.W.callWith_KW0 (h₀ := X.base) I.ok.mod.kin mk.kp named ?_ hpl
  refine thn (hkw.run pos pins s σ H _ I key) ?_
  rintro us s1 ⟨vs, H1, I1, r, hl, xs, F, S, ι, G, em, dr, h⟩
  refine ⟨I1.kIn, ?_⟩
  rw [names]
  refine make_k (ar := ⟨[], ks.zip us⟩) Fg mk hr tk I1 (fun s2 y K2 => ?_) (pick_vals r pm) em dr h
  have bt := b s2 [y] us K2 rfl (r.length.symm.trans hl)
  rw [show [y] ++ us = y :: us from rfl, pick_self] at bt
  exact bt
end
end J

set_option Elab.async false
set_option linter.all false
set_option maxRecDepth 100000
set_option maxHeartbeats 410000
/-! JG: one of two ways, methods of instances -/
namespace J
open PySem PySem.Spec L2 PyProof.Rows
theorem tk0 {X : Cx} : Takes X W0 := fun _ _ h => by
  obtain ⟨_, _, _, _, _, _, _, _, _, _, _, _, _, _, _, _, h⟩ := h
  exact h.elim
def orM (f g : List D → M D) : List D → M D := fun xs S => match f xs S with
  | .no => g xs S
  | r => r
theorem CaM.or {T : Tab} {K : PySem.W.Frag} {r r' : List V → Hp → VK → Prop} {f g : List D → M D} (h : CaM T K r f) (h' : CaM T K r' g) : CaM T K (fun xs H Q => r xs H Q ∨ r' xs H Q) (orM f g) := by
  intro F S ι G H xs vs W σ Q em dr t
  unfold orM at t
  cases q : f xs S with
  | no => rw [q] at t; exact .inr (h' F S ι G H xs vs W σ Q em dr t)
  | ok a S' => rw [q] at t; exact .inl (h F S ι G H xs vs W σ Q em dr (by rw [q]; exact t))
  | ex c fs S' => rw [q] at t; exact .inl (h F S ι G H xs vs W σ Q em dr (by rw [q]; exact t))
/-! ### o.m(e, ..) -/
/-- o is an instance of c; the def is called with it and the arguments -/
def iMeth (T : Tab) (c m n : Nat) (sem : List D → M D) (io : IE) (ia : IA) : IE := fun ρ => M.bind (io ρ) fun o => fun S => match insOf T o S with
  | some (c', fs) => if c' = c ∧ getF m fs = none then M.bind (ia ρ) (fun xs => if xs.length + 1 = n then sem (o :: xs) else M.no) S else .no
  | none => .no
section
variable {T : Tab} {X : Cx} {W : WX} {o e : Expr} {es : List Expr} {io : IE} {ia : IA} {apos pos : Pos} {ps : List Str} {k c m : Nat} {sem : List D → M D} {pl : Sem Bool} {x : Str}
theorem getF_none {K : PySem.W.Frag} {G : Hp} {ι : List Addr} : ∀ {fs : List (Nat × D)} {vs : List (Str × V)}, FRs T K G ι fs vs → getF m fs = none → vs.lookup (T.fn m) = none
  | [], _, r, _ => by
    have r' : _ = [] := r
    subst r'
    rfl
  | (g, d) :: fs, _, ⟨u, us, h, r1, r2⟩, e => by
    subst h
    unfold getF at e
    split at e
    · cases e
    · rename_i hne
      have e2 := getF_none r2 e
      have hn : (T.fn m == T.fn g) = false := by
        rw [beq_eq_false_iff_ne]
        intro z
        exact hne (T.inj _ _ z).symm
      simp only [List.lookup_cons, hn]
      exact e2
end
end J

set_option Elab.async false
set_option linter.all false
set_option maxRecDepth 100000
set_option maxHeartbeats 410000
/-! JH: the head's facts by one Bool, the law's end -/
namespace J
open PySem PySem.Spec L2 PyProof.Rows
/-! ### the facts of the top -/
abbrev AlZ : Type := Bool × List He.FnW
/-- one def: where its function stands, what the text says of it -/
structure Df where
  at_ : PySem.W.Frag → Addr
  name : Str
  qual : Str
  params : Arguments
  body : List Stmt
  scope : Scope
  dfl : List He.Dv := []
  kwd : List (Str × He.Dv) := []
def Df.val (d : Df) : He.FnW := some (d.name, d.qual, d.params, .stmts d.body, d.scope, mainGlobals, [], builtinsNs)
def Df.dvs (K : PySem.W.Frag) (d : Df) : List V := d.dfl.map (He.Dv.v K)
def Df.kws (K : PySem.W.Frag) (d : Df) : List (Str × V) := d.kwd.map fun q => (q.1, q.2.v K)
def fdAt (K : PySem.W.Frag) (a : Addr) : Option FuncData := match K.lookup a with
  | some ⟨_, _, .func fd, _⟩ => some fd
  | _ => none
def seenF (K : PySem.W.Frag) (a : Addr) : He.FnW := (fdAt K a).map fun fd => (fd.name, fd.qualname, fd.params, fd.body, fd.scope, fd.globals, fd.closure, fd.builtins)
def Df.ok (K : PySem.W.Frag) (d : Df) : Bool := PySem.W.keepIn K (.ref (d.at_ K)) && (match fdAt K (d.at_ K) with
  | some fd => PySem.W.codeIn K fd.code d.qual && (He.dflB K fd.defaults (d.dvs K) && He.kwdB K fd.kwdefaults (d.kws K))
  | none => false)
abbrev Df.Fun (K : PySem.W.Frag) (d : Df) (fd : FuncData) : Prop := FunD K d.name d.qual d.params d.body d.scope (d.dvs K) (d.kws K) (d.at_ K) fd
theorem Df.fun_of {K : PySem.W.Frag} {d : Df} (e : seenF K (d.at_ K) = d.val) (c : d.ok K = true) : ∃ fd, d.Fun K fd := by
  obtain ⟨kp, c⟩ := Bool.and_eq_true_iff.mp c
  cases q : (K.lookup (d.at_ K)) with
  | none =>
    have z : fdAt K (d.at_ K) = none := by simp only [fdAt, q]
    rw [z] at c
    cases c
  | some o =>
    obtain ⟨oc, od, dt, osl⟩ := o
    cases dt with
    | func fd =>
      have z : fdAt K (d.at_ K) = some fd := by simp only [fdAt, q]
      unfold seenF at e
      rw [z] at c e
      obtain ⟨a1, a2, a3, a4, a5, a6, a7, a8, a9, a10, a11, a12, a13, a14, a15⟩ := fd
      have e2 : (some (a1, a2, a3, a4, a5, a6, a7, a15) : He.FnW) = d.val := e
      unfold Df.val at e2
      simp only [Prod.mk.injEq, Option.some.injEq] at e2
      obtain ⟨e1, e2, e3, e4, e5, e6, e7, e8⟩ := e2
      subst e1 e2 e3 e4 e5 e6 e7 e8
      obtain ⟨k1, k2⟩ := Bool.and_eq_true_iff.mp c
      obtain ⟨k3, k4⟩ := Bool.and_eq_true_iff.mp k2
      exact ⟨_, ⟨oc, od, a8, a9, a10, a11, a12, a13, a14, osl, rfl, q, k1, He.dflB_ok k3, He.kwdB_ok k4⟩, kp⟩
    | _ =>
      have z : fdAt K (d.at_ K) = none := by simp only [fdAt, q]
      rw [z] at c
      cases c
/-- the getter of a property -/
def pa (K : PySem.W.Frag) (C : Addr) (m : Str) : Addr := match PySem.W.recIn K (He.ma K C m) "property" with
  | some (.ref g :: _) => g
  | _ => 0
def obsZ (ex : PySem.W.Frag → Bool) (fn : List Df) (K : PySem.W.Frag) : AlZ := (ex K && fn.all (fun d => d.ok K), fn.map fun d => seenF K (d.at_ K))
structure SaysZ (ex : PySem.W.Frag → Bool) (fn : List Df) (K : PySem.W.Frag) : Prop where
  fact : ex K = true
  defs : ∀ d ∈ fn, ∃ fd, d.Fun K fd
theorem saysZ_of {ex : PySem.W.Frag → Bool} {fn : List Df} {K : PySem.W.Frag} (h : obsZ ex fn K = (true, fn.map Df.val)) : SaysZ ex fn K := by
  obtain ⟨h1, h2⟩ := Prod.mk.inj h
  obtain ⟨h3, h4⟩ := Bool.and_eq_true_iff.mp h1
  refine ⟨h3, fun d hd => ?_⟩
  exact Df.fun_of (List.map_inj_left.mp h2 d hd) (List.all_eq_true.mp h4 d hd)
def hookZ (n : Nat) (ex : PySem.W.Frag → Bool) (fn : List Df) : PySem.W.Hook where
  α := AlZ
  obs := fun s => obsZ ex fn (He.frG s.heap.get? (He.asD s.heap.get? n))
  val := fun _ => (true, fn.map Df.val)
  says := fun _ h => ∃ K : PySem.W.Frag, K.In h ∧ SaysZ ex fn K
  of := fun _ _ e => ⟨_, He.frG_in, saysZ_of e⟩
  keeps := fun _ _ _ z k => z.elim fun K y => ⟨K, PySem.W.Frag.In.keeps y.1 k, y.2⟩
def seeZ (n : Nat) (ex : PySem.W.Frag → Bool) (fn : List Df) (s : PySem.W.SharedT) : AlZ := obsZ ex fn (He.frG (HandSHeadRun.getT s) (He.asD (HandSHeadRun.getT s) n))
theorem seeZ_eq {n : Nat} {ex : PySem.W.Frag → Bool} {fn : List Df} (s : PySem.W.SharedT) : seeZ n ex fn s = (hookZ n ex fn).obs s.abs := by
  have q : HandSHeadRun.getT s = s.abs.heap.get? := funext (HandSHeadRun.getT_eq s)
  unfold seeZ
  rw [q]
  rfl
/-! ### the law's end -/
section
variable {P : Program} {w : World} {K : PySem.W.Frag} {mg mb : Str → Option Value} {k : Nat} {fa a : Addr} {fd : FuncData} {x : Str} {sp : Sp} {s1 : Shared} {vs : List Value} {ns : List Int}
/-- what is wanted of the call -/
abbrev Told (s1 : Shared) : Result → Shared → Prop := fun r s' => r = .ok (.ret (.bool true)) ∧ OldK s1.heap s'.heap ∧ s'.os = s1.os ∧ AllBare s'.gens
/-- the tables of code objects: c a code object, P its table, empty, not told in K -/
structure TabFacts (K : PySem.W.Frag) (h : Heap) (cs : List (Addr × Addr)) : Prop where
  empty : ∀ p ∈ cs, h.get? p.2 = some { cls := .none, data := .fields #[] }
  out : ∀ p ∈ cs, K.lookup p.2 = none
  code : ∀ p ∈ cs, PySem.W.CodeHd h p.1 p.2
/-- the module that __builtins__ names -/
abbrev BmAt (mg : Str → Option Value) (h : Heap) : Prop := ∃ (bm : Addr) (ob : Obj), mg "__builtins__" = some (.ref bm) ∧ bm ≠ builtinsNs ∧ h.get? bm = some ob ∧ ob.cls = .type "module" ∧ ob.dict = some builtinsNs ∧ ob.data = .plain
/-- what stands in the abstract heap at the law's call -/
structure Start (K : PySem.W.Frag) (cs : List (Addr × Addr)) (a : Addr) (H : Hp) : Prop where
  tab : ∀ p ∈ cs, H p.2 = some (.tbl #[])
  one : ∀ b u, H b = some u → (b = a ∧ ∃ o xs, u = .frz o (.lst xs)) ∨ ((∃ p ∈ cs, b = p.2) ∧ u = .tbl #[])
  out : H a ≠ none → K.lookup a = none
theorem law_from {H : Hp} {cs : List (Addr × Addr)} (KX : K.In s1.heap) (gl : s1.heap.Ns mainGlobals mg) (bl : s1.heap.Ns builtinsNs mb) (bb : ∀ y : Str, y ≠ "__name__" → mb y = bootBuiltins y) (nl : s1.heap.NoLimit) (gn : s1.gens = #[]) (tf : TabFacts K s1.heap cs) (bmA : BmAt mg s1.heap)
    (ha : s1.heap.get? a = some { cls := .type "list", data := .seq vs.toArray }) (hr : Room k callerA)
    (F : ∀ base : Heap, K.In base → base.Ns mainGlobals mg → (∀ p ∈ cs, LamX.TabB base mg p.1 p.2) → FnG P w K mg base k fa fd [x] sp) (bd : ∀ (s : Shared) (u : Value), BindsTo s fd ⟨[u], []⟩ [(x, u)])
    (want : sp [.ref a] H (fun v _ => v = .bl true) fun _ _ _ => False) (st : Start K cs a H) (hok : HOk P w H s1.heap) :
    codeAny (model P w) callerA (.call (.ref fa) ⟨[.ref a], []⟩) (Told s1) s1 := by
  -- an object that is neither a list nor an empty record is not tracked
  have free : ∀ {b : Addr} {o : Obj}, s1.heap.get? b = some o → (∀ l n, o.data ≠ .seq l n) → o.data ≠ .fields #[] → H b = none := by
    intro b o e n1 n2
    rcases Option.eq_none_or_eq_some (H b) with q | ⟨u, q⟩
    · exact q
    · rcases st.one b u q with ⟨z, _⟩ | ⟨⟨p, hp, z⟩, _⟩
      · rw [z, ha] at e
        cases e
        exact absurd rfl (n1 _ _)
      · rw [z, tf.empty p hp] at e
        cases e
        exact absurd rfl n2
  have space : ∀ {b : Addr} {m : Str → Option Value}, s1.heap.Ns b m → (hidT s1.heap H).Ns b m := by
    rintro b m ⟨o, es, n, e, d, r⟩
    exact ⟨o, es, n, hidT_get e (free e (fun _ _ z => by rw [d] at z; cases z) (fun z => by rw [d] at z; cases z)), d, r⟩
  have KB : K.In (hidT s1.heap H) := by
    intro b o e
    refine hidT_get (KX b o e) ?_
    rcases Option.eq_none_or_eq_some (H b) with q | ⟨u, q⟩
    · exact q
    · rcases st.one b u q with ⟨z, _⟩ | ⟨⟨p, hp, z⟩, _⟩
      · rw [z] at e q
        rw [st.out (fun y => by rw [q] at y; cases y)] at e
        cases e
      · rw [z, tf.out p hp] at e
        cases e
  have TBs : ∀ p ∈ cs, LamX.TabB (hidT s1.heap H) mg p.1 p.2 := by
    intro p hp
    have hP := tf.empty p hp
    constructor
    · obtain ⟨o, us, r0, r1, r2, r3, r4, r5, r6, g, c1, c2, rest⟩ := tf.code p hp
      refine ⟨o, us, r0, r1, r2, r3, r4, r5, r6, hidT_get g (free g (fun _ _ z => by rw [c2] at z; cases z) (fun z => ?_)), c1, c2, rest⟩
      rw [c2] at z
      cases z
      have := rest.1
      simp at this
    · obtain ⟨bm, ob, y1, y2, y3, y4, y5, y6⟩ := bmA
      refine ⟨bm, ob, y1, y2, fun z => ?_, fun z => ?_, hidT_get y3 (free y3 (fun _ _ z => by rw [y6] at z; cases z) (fun z => by rw [y6] at z; cases z)), y4, y5, y6⟩
      · obtain ⟨o, es, n, g, d, _⟩ := gl
        rw [z, g] at y3
        cases y3
        rw [y6] at d
        cases d
      · rw [z, hP] at y3
        cases y3
        cases y6
    · intro z
      obtain ⟨o, es, n, g, d, _⟩ := gl
      rw [z, hP] at g
      cases g
      cases d
  obtain ⟨mc, l1, l2⟩ := nl
  have E0 : Env0 P w K mg (hidT s1.heap H) callerA [] s1 H := {
    frames := rfl, mod := ⟨KB, space gl, ⟨mb, space bl, bb⟩, ⟨mc, space l1, l2⟩⟩, bs := fun b o e => of_hidT e, bsz := Nat.le_of_eq (hidT_size _ _), funs := trivial,
    frf := fun b z => (List.not_mem_nil z).elim, hok := hok, bare := .of_eq gn }
  refine codeAny_mono ((F _ KB (space gl) TBs).run callerA [] s1 H ⟨[.ref a], []⟩ [.ref a] [.ref a] _ _ hr rfl E0 (bd s1 (.ref a)) (.cons rfl .nil) want) ?_
  intro r s' z
  match r, z with
  | .error e, z =>
    obtain ⟨_, _, _, _, _, _, _, _, _, _, _, _, f⟩ := z
    exact f.elim
  | .ok (.ret u), ⟨v, H', os, bare, un, hok', rv, q⟩ =>
    cases (show v = .bl true from q)
    cases (show u = Value.bool true from rv)
    -- a table grows, all else stays
    have end_ : ∀ b o, s1.heap.get? b = some o → s'.heap.get? b = some o ∨ (∃ p ∈ cs, b = p.2 ∧ o = { cls := .none, data := .fields #[] } ∧ ∃ more : Array Value, s'.heap.get? b = some { cls := .none, data := .fields more }) := by
      intro b o e
      rcases Option.eq_none_or_eq_some (H b) with q | ⟨w', q⟩
      · exact .inl (un.keep b o e q (fun z => by cases z) (fun z => by cases z))
      · rcases st.one b w' q with ⟨_, ob, xs, rfl⟩ | ⟨⟨p, hp, rfl⟩, rfl⟩
        · have e1 := (hok b _ q).1
          rw [e] at e1
          cases e1
          exact .inl (hok' b _ (un.frzs b o _ q)).1
        · obtain ⟨more, g⟩ := un.tbls p.2 #[] q
          have e1 := tf.empty p hp
          rw [e] at e1
          exact .inr ⟨p, hp, rfl, Option.some.inj e1, _, hok' p.2 _ g⟩
    refine ⟨rfl, ⟨fun b o at1 => ?_, fun b o at1 => ?_⟩, os, bare⟩
    · rcases end_ b o at1 with g | ⟨p, hp, rfl, rfl, more, g⟩
      · exact .inl g
      · exact .inr (.inl ⟨((tf.code p hp).tab at1).isCodeTable, rfl, #[], more, rfl, by simpa using g⟩)
    · rcases end_ b o at1 with g | ⟨p, hp, rfl, rfl, more, g⟩
      · exact ⟨_, g⟩
      · exact ⟨_, g⟩
theorem law_to {cs : List (Addr × Addr)} (KX : K.In s1.heap) (gl : s1.heap.Ns mainGlobals mg) (bl : s1.heap.Ns builtinsNs mb) (bb : ∀ y : Str, y ≠ "__name__" → mb y = bootBuiltins y) (nl : s1.heap.NoLimit) (gn : s1.gens = #[]) (tf : TabFacts K s1.heap cs) (bmA : BmAt mg s1.heap)
    (ha : s1.heap.get? a = some { cls := .type "list", data := .seq vs.toArray }) (hi : IntsAre vs ns) (hl : ns.length ≤ sizeLine) (hr : Room k callerA)
    (F : ∀ base : Heap, K.In base → base.Ns mainGlobals mg → (∀ p ∈ cs, LamX.TabB base mg p.1 p.2) → FnG P w K mg base k fa fd [x] sp) (bd : ∀ (s : Shared) (u : Value), BindsTo s fd ⟨[u], []⟩ [(x, u)])
    (want : ∀ H : Hp, Start K cs a H → SqL K H a (ns.map V.int) → sp [.ref a] H (fun v _ => v = .bl true) fun _ _ _ => False) :
    codeAny (model P w) callerA (.call (.ref fa) ⟨[.ref a], []⟩) (Told s1) s1 := by
  have rv := vals_ints hi
  have sz : vs.length = ns.length := hi.length
  let tabs : List Addr := cs.map (·.2)
  have inT : ∀ {b : Addr}, b ∈ tabs → ∃ p ∈ cs, b = p.2 := fun hb => by
    obtain ⟨p, hp, same⟩ := List.mem_map.mp hb
    exact ⟨p, hp, same.symm⟩
  have ofT : ∀ {p : Addr × Addr}, p ∈ cs → p.2 ∈ tabs := fun hp => List.mem_map.mpr ⟨_, hp, rfl⟩
  have na : a ∉ tabs := fun z => by
    obtain ⟨p, hp, e⟩ := inT z
    rw [e, tf.empty p hp] at ha
    cases ha
  cases hk : K.lookup a with
  | some o =>
    have e := KX a o hk
    rw [ha] at e
    cases e
    let H : Hp := fun b => if b ∈ tabs then some (.tbl #[]) else none
    have get : ∀ b u, H b = some u → b ∈ tabs ∧ u = .tbl #[] := fun b u q => by
      by_cases hb : b ∈ tabs
      · rw [show H b = some (.tbl #[]) from if_pos hb] at q
        cases q
        exact ⟨hb, rfl⟩
      · rw [show H b = none from if_neg hb] at q
        cases q
    have st : Start K cs a H := ⟨fun p hp => if_pos (ofT hp), fun b u q => .inr ⟨inT (get b u q).1, (get b u q).2⟩, fun z => absurd (show H a = none from if_neg na) z⟩
    refine law_from (H := H) KX gl bl bb nl gn tf bmA ha hr F bd (want _ st (.inr ⟨_, vs.toArray, _, hk, rfl, rfl, rfl, by simpa [sz] using hl, by simpa using rv⟩)) st (fun b u q => ?_)
    obtain ⟨hb, rfl⟩ := get b u q
    obtain ⟨p, hp, rfl⟩ := inT hb
    exact tf.empty p hp
  | none =>
    let ob : Obj := { cls := .type "list", data := .seq vs.toArray }
    let H : Hp := fun b => if b ∈ tabs then some (.tbl #[]) else if b = a then some (.frz ob (.lst (ns.map V.int))) else none
    have Ha : H a = some (.frz ob (.lst (ns.map V.int))) := (if_neg na).trans (if_pos rfl)
    have get : ∀ b u, H b = some u → (b = a ∧ u = .frz ob (.lst (ns.map V.int))) ∨ (b ∈ tabs ∧ u = .tbl #[]) := fun b u q => by
      by_cases hb : b ∈ tabs
      · rw [show H b = some (.tbl #[]) from if_pos hb] at q
        cases q
        exact .inr ⟨hb, rfl⟩
      · by_cases hc : b = a
        · rw [hc, Ha] at q
          cases q
          exact .inl ⟨hc, rfl⟩
        · rw [show H b = none from (if_neg hb).trans (if_neg hc)] at q
          cases q
    have st : Start K cs a H := ⟨fun p hp => if_pos (ofT hp), fun b u q => (get b u q).imp (fun z => ⟨z.1, ob, _, z.2⟩) (fun z => ⟨inT z.1, z.2⟩), fun _ => hk⟩
    refine law_from (H := H) KX gl bl bb nl gn tf bmA ha hr F bd (want H st (.inl (.inr ⟨ob, Ha⟩))) st (fun b u q => ?_)
    rcases get b u q with ⟨rfl, rfl⟩ | ⟨hb, rfl⟩
    · exact ⟨ha, (List.length_map ..).symm ▸ hl, vs, _, rv, ha⟩
    · obtain ⟨p, hp, rfl⟩ := inT hb
      exact tf.empty p hp
end
/-- the law's call, from the facts of the top -/
theorem walk_g {l : PySem.W.OpenLaw} {n k : Nat} {q : Program} {loose : List Str} {XP : (Str → Option Value) → Heap → Prop} {YP : World → Heap → Prop} {d : DefRec} {x : Str} (hn : l.most = some n) (hn2 : n ≤ sizeLine) (hdf : d.params.defaults = []) (hr : Room k callerA)
    (F : ∀ (wd : World) (mg : Str → Option Value) (at_ : Addr) (hp : Heap), YP wd hp → hp.Ns mainGlobals mg → mg d.name = some (.ref at_) → ∃ (K : PySem.W.Frag) (fd : FuncData) (sp : Sp) (cs : List (Addr × Addr)), K.In hp ∧ TabFacts K hp cs ∧ (∀ (st : Shared) (u : Value), BindsTo st fd ⟨[u], []⟩ [(x, u)]) ∧
      (∀ (H : Hp) (p : Addr) (script : List Int), script.length ≤ n → Start K cs p H → SqL K H p (script.map V.int) → sp [.ref p] H (fun v _ => v = .bl true) fun _ _ _ => False) ∧ ∀ base : Heap, K.In base → base.Ns mainGlobals mg → (∀ p ∈ cs, LamX.TabB base mg p.1 p.2) → FnG l.prog wd K mg base k at_ fd [x] sp) : PySem.W.WalkO q loose XP YP l.row.toRowW d [] (fun f vs => PySem.call f vs) := by
  refine Att.attach_call hn hdf ?_
  intro w s0 s1 mg mb fa o pm cd doc a vs ns G Y ho hd hcd hmg hobj hints hlen hg
  rcases F w mg fa _ Y G.T.g hmg with ⟨K, fd, sp, cs, KX, tf, hb, hsp, hF⟩
  exact law_to KX G.T.g G.T.b G.T.builtins G.T.nolimit hg tf G.T.bmain hobj hints (Nat.le_trans hlen hn2) hr hF hb fun H st hS => hsp H a ns hlen st hS
theorem ints_dr {T : Tab} {K : PySem.W.Frag} {G : Hp} {ι : List Addr} : ∀ ns : List Int, DRs T K G ι (ns.map D.int) (ns.map V.int)
  | [] => DRs.nil
  | n :: r => DRs.cons (by simp only [DR]) (ints_dr r)
/-- no table -/
def offT (H : Hp) : Hp := fun b => match H b with
  | some (.tbl _) => none
  | o => o
theorem offT_sub (H : Hp) : Same (offT H) H := fun b u q => by
  unfold offT at q
  split at q
  · cases q
  · exact q
theorem offT_of {H : Hp} {b : Addr} {o : HO} (h : H b = some o) (n : noTab o = true) : offT H b = some o := by
  unfold offT
  rw [h]
  cases o <;> first | rfl | cases n
theorem offT_no (H : Hp) : ∀ b o, offT H b = some o → noTab o = true := fun b o q => by
  have e := offT_sub H b o q
  cases o with
  | tbl ps =>
    unfold offT at q
    rw [e] at q
    cases q
  | _ => rfl
theorem sq_off {K : PySem.W.Frag} {H : Hp} {a : Addr} {vs : List V} (h : SqL K H a vs) : SqL K (offT H) a vs := by
  rcases h with (told | ⟨o, told⟩) | inK
  · exact .inl (.inl (offT_of told rfl))
  · exact .inl (.inr ⟨o, offT_of told rfl⟩)
  · exact .inr inK
/-- the law's def, at the script -/
theorem law_sp {T : Tab} {K : PySem.W.Frag} {sem : List D → M D} {H : Hp} {a : Addr} {ns : List Int} {cs : List (Addr × Addr)} (st : Start K cs a H) (hT : ∀ q ∈ T.tabs K, ∃ p ∈ cs, q.1 = p.2) (hS : SqL K H a (ns.map V.int)) (S0 : Store) (hS0 : S0 = ⟨[], 0⟩) (h : ∃ S', sem [.scr (ns.map D.int)] S0 = .ok (.bl true) S') :
    spJ T K 1 sem [.ref a] H (fun v _ => v = .bl true) fun _ _ _ => False := by
  obtain ⟨S', h⟩ := h
  subst hS0
  refine ⟨rfl, [.scr (ns.map D.int)], fun _ => none, ⟨[], 0⟩, [], offT H, ?em, DRs.cons (by simp only [DR]; exact ⟨a, _, rfl, sq_off hS, ints_dr ns⟩) DRs.nil, ?th⟩
  case em =>
    refine { sub := offT_sub H, fr := (fun _ _ e => by cases e), len := rfl, nd := List.nodup_nil, old := (fun _ z => (List.not_mem_nil z).elim), oldP := (fun _ z => (List.not_mem_nil z).elim), obj := (fun n o e => by cases e), dis := (fun _ _ e => by cases e), tb := fun q hq => ?_, noG := offT_no H, noF := fun _ _ e => by cases e }
    obtain ⟨p, hp, e⟩ := hT q hq
    exact LamX.TabS.nil (by rw [e]; exact st.tab p hp)
  case th =>
    rw [h]
    intro v ι' G' H' em x r
    simpa only [DR] using r
/-! ### the facts of the top, the tables left out of K -/
def seeK (n : Nat) (g : Addr → Option Obj) : PySem.W.Frag := He.frT g (He.asD g n)
def obsY (ex : PySem.W.Frag → Bool) (fn : List Df) (tf : List He.Defn) (g : Addr → Option Obj) (K : PySem.W.Frag) : AlZ := ((obsZ ex fn K).1 && He.tabsB g tf K, (obsZ ex fn K).2)
structure SaysY (ex : PySem.W.Frag → Bool) (fn : List Df) (tf : List He.Defn) (h : Heap) (K : PySem.W.Frag) : Prop where
  z : SaysZ ex fn K
  t : TabFacts K h (tf.map (He.cT K))
theorem saysY_of {n : Nat} {ex : PySem.W.Frag → Bool} {fn : List Df} {tf : List He.Defn} {h : Heap} (e : obsY ex fn tf h.get? (seeK n h.get?) = (true, fn.map Df.val)) : (seeK n h.get?).In h ∧ SaysY ex fn tf h (seeK n h.get?) := by
  have kin : (seeK n h.get?).In h := He.frT_in
  obtain ⟨e1, vals⟩ := Prod.mk.inj e
  obtain ⟨e3, e4⟩ := Bool.and_eq_true_iff.mp e1
  have each : ∀ d ∈ tf, PySem.W.codeHdIn (seeK n h.get?) (He.cT (seeK n h.get?) d).1 (He.cT (seeK n h.get?) d).2 = true ∧ ∃ o, h.get? (He.cT (seeK n h.get?) d).2 = some o ∧ He.emptyTab o = true := by
    intro d hd
    obtain ⟨y1, y2⟩ := Bool.and_eq_true_iff.mp (List.all_eq_true.mp e4 d hd)
    refine ⟨y1, ?_⟩
    rcases Option.eq_none_or_eq_some (h.get? (He.cT (seeK n h.get?) d).2) with q | ⟨o, q⟩
    · rw [q] at y2
      cases y2
    · rw [q] at y2
      exact ⟨o, q, y2⟩
  refine ⟨kin, saysZ_of (Prod.ext e3 vals), fun p hp => ?_, fun p hp => ?_, fun p hp => ?_⟩
  · obtain ⟨d, hd, rfl⟩ := List.mem_map.mp hp
    obtain ⟨_, o, q, y⟩ := each d hd
    rw [q, He.emptyTab_eq y]
  · obtain ⟨d, hd, rfl⟩ := List.mem_map.mp hp
    obtain ⟨_, o, q, y⟩ := each d hd
    exact He.frT_none q y
  · obtain ⟨d, hd, rfl⟩ := List.mem_map.mp hp
    exact PySem.W.codeHd_of_K kin (each d hd).1
def hookY (n : Nat) (ex : PySem.W.Frag → Bool) (fn : List Df) (tf : List He.Defn) : PySem.W.Hook where
  α := AlZ
  obs := fun s => obsY ex fn tf s.heap.get? (seeK n s.heap.get?)
  val := fun _ => (true, fn.map Df.val)
  says := fun _ h => ∃ K : PySem.W.Frag, K.In h ∧ SaysY ex fn tf h K
  of := fun _ _ e => ⟨_, saysY_of e⟩
  keeps := fun _ _ _ z k => z.elim fun K y => ⟨K, PySem.W.Frag.In.keeps y.1 k, y.2.z, fun p hp => k _ _ (y.2.t.empty p hp), y.2.t.out, fun p hp => (y.2.t.code p hp).keeps k⟩
def seeY (n : Nat) (ex : PySem.W.Frag → Bool) (fn : List Df) (tf : List He.Defn) (s : PySem.W.SharedT) : AlZ := obsY ex fn tf (HandSHeadRun.getT s) (seeK n (HandSHeadRun.getT s))
theorem seeY_eq {n : Nat} {ex : PySem.W.Frag → Bool} {fn : List Df} {tf : List He.Defn} (s : PySem.W.SharedT) : seeY n ex fn tf s = (hookY n ex fn tf).obs s.abs := by
  have q : HandSHeadRun.getT s = s.abs.heap.get? := funext (HandSHeadRun.getT_eq s)
  unfold seeY
  rw [q]
  rfl
end J

set_option Elab.async false
set_option linter.all false
set_option maxRecDepth 100000
set_option maxHeartbeats 410000
/-! JI: tables of names, the facts' Bools -/
namespace J
open PySem PySem.Spec L2 PyProof.Rows
def nameAt (l : List Str) (i : Nat) : Str := match l[i]? with
  | some x => x
  | none => ⟨#[i]⟩
theorem nameAt_inj {l : List Str} (nd : l.Nodup) (no : ∀ x ∈ l, x.cps.size ≠ 1) (i j : Nat) (h : nameAt l i = nameAt l j) : i = j := by
  unfold nameAt at h
  cases a : l[i]? with
  | none =>
    cases b : l[j]? with
    | none =>
      rw [a, b] at h
      have h' : (#[i] : Array Nat) = #[j] := congrArg Str.cps h
      simpa using h'
    | some y =>
      rw [a, b] at h
      have h' : (⟨#[i]⟩ : Str) = y := h
      exact absurd (by rw [← h']; rfl) (no y (List.mem_of_getElem? b))
  | some x =>
    cases b : l[j]? with
    | none =>
      rw [a, b] at h
      have h' : x = (⟨#[j]⟩ : Str) := h
      exact absurd (by rw [h']; rfl) (no x (List.mem_of_getElem? a))
    | some y =>
      rw [a, b] at h
      have h' : x = y := h
      obtain ⟨hi, ei⟩ := List.getElem?_eq_some_iff.mp a
      obtain ⟨hj, ej⟩ := List.getElem?_eq_some_iff.mp b
      exact (List.getElem_inj nd).mp (by rw [ei, ej, h'])
def mkTab (cn fn : List Str) (fs : List (List Nat)) (nd : fn.Nodup) (no : ∀ x ∈ fn, x.cps.size ≠ 1) (tabs : PySem.W.Frag → List (Addr × Str) := fun _ => []) : Tab where
  cn := fun c => cn.getD c ⟨#[]⟩
  fn := nameAt fn
  fs := fun c => fs.getD c []
  inj := nameAt_inj nd no
  tabs := tabs
theorem noats {K : PySem.W.Frag} {C : Addr} (T : Tab) {c : Nat} (ids : List Nat) (e : T.fs c = ids) (h : ∀ n ∈ ids, NoAttr K C (T.fn n)) : ∀ f ∈ T.fs c, NoAttr K C (T.fn f) := by
  rw [e]
  exact h
def plainTB (K : PySem.W.Frag) (C : Addr) : Bool := decide (PySem.W.findIn K (.ref C) "__bool__" = some none) && decide (PySem.W.findIn K (.ref C) "__len__" = some none)
theorem plainTB_ok {K : PySem.W.Frag} {C : Addr} (h : plainTB K C = true) : PlainTru K C := by
  unfold plainTB at h
  simp only [decide_eq_true_eq, Bool.and_eq_true] at h
  exact ⟨h.1, h.2⟩
def propB (K : PySem.W.Frag) (C : Addr) (m : Str) : Bool := decide (PySem.W.findIn K (.ref C) m = some (some (.ref (He.ma K C m)))) && (decide (PySem.W.specialIn K (.ref (He.ma K C m)) "__get__" = some (some (.builtin "property.__get__"))) &&
  (decide (PySem.W.takesIn K (.ref (He.ma K C m)) = some true) && (match PySem.W.recIn K (He.ma K C m) "property" with
    | some (.ref _ :: _) => true
    | _ => false)))
theorem propB_ok {K : PySem.W.Frag} {C : Addr} {m : Str} (h : propB K C m = true) : PropOf K C m (He.ma K C m) (pa K C m) := by
  unfold propB at h
  simp only [decide_eq_true_eq, Bool.and_eq_true] at h
  obtain ⟨h1, h2, h3, h4⟩ := h
  refine ⟨h1, h2, h3, ?_⟩
  unfold pa
  split at h4
  · rename_i g rest e
    rw [e]
    exact ⟨rest, rfl⟩
  · cases h4
end J

set_option Elab.async false
set_option linter.all false
set_option maxRecDepth 100000
set_option maxHeartbeats 410000
/-! JK: methods of instances, called -/
namespace J
open PySem PySem.Spec L2 PyProof.Rows
section
variable {T : Tab} {X : Cx} {W : WX} {o e : Expr} {es : List Expr} {io : IE} {ia : IA} {apos pos : Pos} {ps : List Str} {k c m : Nat} {sem : List D → M D} {pl : Sem Bool} {x : Str}
theorem je_meth (g : GoodM X.prog X.w T X.K X.mg X.base k c x ps sem) (cl : Cls X.K (He.ga X.K (T.cn c))) (hx : x = T.fn m) (hr : Rg k X.A) (tk : Takes X W) (ho : JE T X W o io) (hA : JA T X W (e :: es) ia)
    (plain1 : starEach (e :: es) X.env = (false, eval e X.env) :: starEach es X.env := by rfl) (plain2 : (backTo pos (starEach es X.env)).any (·.1) = false := by rfl)
    (ht : eval (.Call (.Attribute o x apos) (e :: es) [] pos) X.env = (do
      let ov ← eval o X.env
      standAt apos.atName
      let (fv, ahead) ← holding [ov] (getMethod ov x pl)
      callWith pos fv ahead (backTo pos (starEach (e :: es) X.env)) (backToKw pos (keywordEach [] X.env))) := by rfl) :
    JE T X W (.Call (.Attribute o x apos) (e :: es) [] pos) (iMeth T c m ps.length sem io ia) := by
  obtain ⟨f, fd, Fg, b, at_, fn, kp⟩ := g
  constructor; intro pins s σ H Q I hq
  have key : tE T X.K W io σ H fun v H1 => ∃ a dx fs, v = .ref a ∧ H1 a = some (.ins (He.ga X.K (T.cn c)) dx fs) ∧ fs.lookup x = none ∧
      tA T X.K W ia σ H1 fun vs H2 => spJ T X.K ps.length sem (.ref a :: vs) H2 Q fun c d H => W c d σ H := by
    obtain ⟨ρ, F, S, ι, G, em, sr, h⟩ := hq
    refine ⟨ρ, F, S, ι, G, em, sr, Thn.bind (rel2 := DR T X.K) h fun d S1 v ι1 G1 H1 em1 x1 dr h1 => ?_⟩
    cases q : insOf T d S1 with
    | none => rw [q] at h1; exact h1.elim
    | some p =>
      obtain ⟨c', fs⟩ := p
      rw [q] at h1
      dsimp only at h1
      split at h1
      · rename_i hc
        obtain ⟨rfl, hn⟩ := hc
        obtain ⟨a, dx, ws, rfl, ha, rr⟩ := insOf_ok em1 dr q
        refine ⟨a, dx, ws, rfl, ha, by rw [hx]; exact getF_none rr hn, ρ, F, S1, ι1, G1, em1, sr.mono x1, Thn.bind (rel2 := DRs T X.K) h1 fun xs S2 vs ι2 G2 H2 em2 x2 d2 h2 => ?_⟩
        by_cases hl : xs.length + 1 = ps.length
        · rw [if_pos hl] at h2
          exact ⟨by rw [List.length_cons, ← d2.length]; exact hl, d :: xs, F, S2, ι2, G2, em2, DRs.cons (dr.mono x2.1 x2.2) d2, h2.slots fun _ _ _ z => z⟩
        · rw [if_neg hl] at h2
          exact h2.elim
      · exact h1.elim
  refine PySem.W.methodCall_KW (pl := pl) (thn (ho.run pins s σ H _ I key) ?_) ht
  rintro u s1 ⟨v, H1, I1, ru, a, dx, fs, rfl, ha, hl, q⟩
  have eu : u = Value.ref a := ru; subst eu
  refine getmeth_ok I1 ha cl ⟨at_, fn, kp⟩ hl ?_
  refine PySem.W.callWith_K (first := [.ref a]) (h₀ := X.base) I1.ok.mod.kin kp (thn (hA.run pos pins s1 σ H1 _ I1 q) ?_) plain1 plain2
  rintro us s2 ⟨vs, H2, I2, r, q2⟩
  exact ⟨I2.kIn, call_g (vs := .ref a :: vs) Fg hr tk b I2 (.cons rfl r) q2⟩
end
end J

set_option Elab.async false
set_option linter.all false
set_option maxRecDepth 100000
set_option maxHeartbeats 410000
/-! JL: repr of data, tuple(..), list(..), max and min of a list -/
namespace J
open PySem PySem.Spec L2 PyProof.Rows
open Builtin in
/-- the built-in repr, by the type's own slot -/
theorem repr_slot {prog : Program} {w : World} {A : Around} {E : Value → Shared → Prop} {s : Shared} {T id : String} {v : Value} {Q : Value → Shared → Prop} (hu : A.in1.units < cLine) (hT : s.TypeIs v T) (slot : SlotG T "__repr__" id)
    (h : wpAny (model prog w) A.in1 (call (.builtin id) [v]) (fun r s' => ∃ x u, r = .str x u ∧ Q r s') E s) : wpAny (model prog w) A (call (.builtin "repr") [v]) Q E s := by
  apply Calls.call_function_entry F.kind_repr F.plain_repr F.entry_repr (F.args_repr1 _)
  unfold Builtin.«repr»
  apply wpAny_bind (m := oneArg "repr" _); apply wpAny_pure
  apply wpAny_bind; refine wpAny_cRoomFor hu ?_
  apply wpAny_bind; refine wpAny_specialOf (name := Str.ofString "__repr__") hT slot.lookup ?_
  refine wpAny_bind (m := callSpecialIfBound? v (Str.ofString "__repr__")) (wpAny_callSpecialIfBound?_slotG (name := Str.ofString "__repr__") hT slot (wpAny_mono h ?_ fun _ _ z => z))
  rintro r s' ⟨x, u, rfl, q⟩
  apply wpAny_bind; refine wpAny_isInstance (T := "str") (b := true) rfl isSubtype_str_str ?_
  exact wpAny_pure ⟨_, rfl, q⟩
theorem repr_reads {prog : Program} {w : World} {s : Shared} : ∀ {v : Value} {d : PyData} {as : List Addr}, Reads s.heap v d as → d.showable = true → d.hasDict = false → d.shown.length ≤ sizeLine →
    ∀ (A : Around) (E : Value → Shared → Prop) (Q : Value → Shared → Prop), A.guards = some [] → A.units + 66 < cLine → d.depth ≤ 64 →
    (∀ h' u tk, (∀ b o, s.heap.get? b = some o → h'.get? b = some o) → Q (.str d.shown u) { s with heap := h', toks := tk }) → wpAny (model prog w) A (call (.builtin "repr") [v]) Q E s
  | _, _, _, .none, _, _, _, A, E, Q, _, _, _, hQ => by
    rw [PyData.shown] at hQ
    exact P.repr_of_none (hQ s.heap _ _ fun _ _ e => e)
  | _, _, _, .bool b, _, _, _, A, E, Q, _, _, _, hQ => by
    rw [PyData.shown] at hQ
    exact P.repr_of_bool (by cases b <;> exact hQ s.heap _ _ fun _ _ e => e)
  | _, _, _, .int i t, hs, _, _, A, E, Q, _, _, _, hQ => by
    rw [PyData.shown] at hQ
    exact P.repr_of_int (by simpa [PyData.showable] using hs) (hQ s.heap _ _ fun _ _ e => e)
  | _, _, _, .str x t, _, _, hz, A, E, Q, _, _, _, hQ => by
    rw [PyData.shown] at hQ
    exact P.repr_of_str (hQ s.heap _ _ fun _ _ e => e) (by simpa only [PyData.shown] using hz)
  | _, _, _, .list (a := a) (vs := vs) (xs := xs) h1 h2 h3 h4, hs, hd, hz, A, E, Q, hg, hu, hdp, hQ => by
    have hz' : (listText (PyData.shownAll xs)).length ≤ sizeLine := by rw [PyData.shown] at hz; exact hz
    have hd' : PyData.hasDictAll xs = false := by simpa [PyData.hasDict] using hd
    obtain ⟨bs, hb, hk⟩ := ReprAllK.of_readsAll (prog := prog) (w := w) h4 (by simpa [PyData.showable] using hs) (fun hx => by rw [hd'] at hx; cases hx) (fun t ht => Nat.le_trans (listText_mem_le ht) hz')
    have hna : a ∉ bs := not_mem_of_deeper (Reads.list h1 h2 h3 h4) (by simp only [PyData.depth]; omega) hb
    simp only [PyData.depth] at hdp
    rw [PyData.shown] at hQ
    have hTy : s.TypeIs (.ref a) "list" := ⟨_, h1, h2⟩
    have hu1 : A.in1.units = A.units + 1 := rfl
    refine repr_slot (by omega) hTy F.slot_list_repr.toG ?_
    obtain ⟨l⟩ := vs
    cases l with
    | nil =>
      have h5 : ReadsAll s.heap [] xs _ := h4
      cases h5
      simp only [listText_nil, PyData.shownAll] at hQ
      exact call_list_repr_empty hTy h1 h3 ⟨_, _, rfl, hQ s.heap _ _ fun _ _ e => e⟩
    | cons x l => exact call_list_reprK h1 h2 h3 hna (by simpa using hk.length_eq) (fun i y e => hk.item i y (by simpa using e)) hg (fun b _ => Clear.nil b) (by omega) (fun _ _ e => e) (fun h' u tk k => ⟨_, _, rfl, hQ h' u tk k⟩) hz'
  | _, _, _, .tuple (a := a) (xs := xs) h1 h2 h3 h4, hs, hd, hz, A, E, Q, hg, hu, hdp, hQ => by
    have hz' : (tupleText (PyData.shownAll xs)).length ≤ sizeLine := by rw [PyData.shown] at hz; exact hz
    have hd' : PyData.hasDictAll xs = false := by simpa [PyData.hasDict] using hd
    obtain ⟨bs, hb, hk⟩ := ReprAllK.of_readsAll (prog := prog) (w := w) h4 (by simpa [PyData.showable] using hs) (fun hx => by rw [hd'] at hx; cases hx) (fun t ht => Nat.le_trans (tupleText_mem_le ht) hz')
    have hna : a ∉ bs := not_mem_of_deeper (Reads.tuple h1 h2 h3 h4) (by simp only [PyData.depth]; omega) hb
    simp only [PyData.depth] at hdp
    rw [PyData.shown] at hQ
    have hTy : s.TypeIs (.ref a) "tuple" := ⟨_, h1, h2⟩
    have hu1 : A.in1.units = A.units + 1 := rfl
    refine repr_slot (by omega) hTy F.slot_tuple_repr ?_
    exact call_tuple_reprK h1 h2 h3 hna hk hg (fun b _ => Clear.nil b) (by omega) (fun _ _ e => e) (fun h' u tk k => ⟨_, _, rfl, hQ h' u tk k⟩) hz'
  | _, _, _, .dict .., _, hd, _, _, _, _, _, _, _, _ => by simp [PyData.hasDict] at hd
end J

set_option Elab.async false
set_option linter.all false
set_option maxRecDepth 100000
set_option maxHeartbeats 410000
/-! JLz: repr of data that hold empty dicts -/
namespace J
open PySem PySem.Spec L2 PyProof.Rows
mutual
/-- read off the heap: data whose dicts are empty and none of them the modules' own -/
inductive Rz (h : Heap) : Value → PyData → Prop
  | non : Rz h .none .none
  | bl (b) : Rz h (.bool b) (.bool b)
  | num (i t) : Rz h (.int i t) (.int i)
  | txt (x t) : Rz h (.str x t) (.str x)
  | lst {a o vs n xs} : h.get? a = some o → o.cls = .type "list" → o.data = .seq vs n → RzAll h vs.toList xs → Rz h (.ref a) (.list xs)
  | tup {a o vs n xs} : h.get? a = some o → o.cls = .type "tuple" → o.data = .seq vs n → RzAll h vs.toList xs → Rz h (.ref a) (.tuple xs)
  | emp {a o n} : h.get? a = some o → o.cls = .type "dict" → o.data = .dict #[] n → (a == sysModules) = false → Rz h (.ref a) (.dict [])
inductive RzAll (h : Heap) : List Value → List PyData → Prop
  | nil : RzAll h [] []
  | cons {v vs d ds} : Rz h v d → RzAll h vs ds → RzAll h (v :: vs) (d :: ds)
end
mutual
theorem Rz.reads {h : Heap} : ∀ {v : Value} {d : PyData}, Rz h v d → ∃ as, Reads h v d as
  | _, _, .non => ⟨_, .none⟩
  | _, _, .bl b => ⟨_, .bool b⟩
  | _, _, .num i t => ⟨_, .int i t⟩
  | _, _, .txt x t => ⟨_, .str x t⟩
  | _, _, .lst h1 h2 h3 h4 => let ⟨_, r⟩ := RzAll.reads h4; ⟨_, .list h1 h2 h3 r⟩
  | _, _, .tup h1 h2 h3 h4 => let ⟨_, r⟩ := RzAll.reads h4; ⟨_, .tuple h1 h2 h3 r⟩
  | _, _, .emp h1 h2 h3 _ => ⟨_, .dict (kvs := []) h1 h2 h3 .nil .nil⟩
theorem RzAll.reads {h : Heap} : ∀ {v : List Value} {d : List PyData}, RzAll h v d → ∃ as, ReadsAll h v d as
  | _, _, .nil => ⟨_, .nil⟩
  | _, _, .cons h1 h2 => let ⟨_, r⟩ := Rz.reads h1; let ⟨_, q⟩ := RzAll.reads h2; ⟨_, .cons r q⟩
end
theorem empty_text : dictText [] = PyData.shown (.dict []) := by simp only [PyData.shown, PyData.shownKv]
variable {h₀ : Heap} {w : World} {prog : Program}
mutual
theorem Rz.says : ∀ {v : Value} {d : PyData}, Rz h₀ v d → d.showable = true → d.shown.length ≤ sizeLine → ∃ bs, ReadAtMost h₀ d.depth bs ∧ ReprK prog w bs h₀ d.depth v d.shown
  | _, _, .non, s, z => ReprK.of_reads .none s (by simp [PyData.hasDict]) z
  | _, _, .bl b, s, z => ReprK.of_reads (.bool b) s (by simp [PyData.hasDict]) z
  | _, _, .num i t, s, z => ReprK.of_reads (.int i t) s (by simp [PyData.hasDict]) z
  | _, _, .txt x t, s, z => ReprK.of_reads (.str x t) s (by simp [PyData.hasDict]) z
  | _, _, .emp (a := a) h1 h2 h3 h4, _, z => by
    have r : Reads h₀ (.ref a) (.dict []) _ := .dict (kvs := []) h1 h2 h3 .nil .nil
    refine ⟨[a], ReadAtMost.cons (n := 0) r (Nat.zero_le _) (fun _ q => nomatch q), ?_⟩
    rw [← empty_text]
    exact ReprK.dict (as := []) h1 h2 h3 h4 (by simp) .nil
  | _, _, .lst (a := a) (vs := vs) (xs := xs) h1 h2 h3 h4, s, z => by
    have z1 : (listText (PyData.shownAll xs)).length ≤ sizeLine := by rw [PyData.shown] at z; exact z
    obtain ⟨bs, k1, k2⟩ := RzAll.says h4 (by simpa only [PyData.showable] using s) fun t m => Nat.le_trans (listText_mem_le m) z1
    obtain ⟨_, r⟩ := RzAll.reads h4
    have r1 := Reads.list h1 h2 h3 r
    have na : a ∉ bs := not_mem_of_deeper r1 (Nat.lt_succ_of_le (Nat.le_of_eq (by rfl))) k1
    refine ⟨a :: bs, ReadAtMost.cons r1 (Nat.le_succ_of_le (Nat.le_of_eq (by rfl))) k1, ?_⟩
    rw [PyData.shown, PyData.depth]
    rcases vs with ⟨_ | ⟨x, l⟩⟩
    · cases (show RzAll h₀ [] xs from h4)
      rw [PyData.shownAll, listText_nil]
      exact (ReprK.listEmpty h1 h2 h3 :)
    · exact ReprK.list h1 h2 h3 na (by simpa using k2.length_eq) fun i y e => k2.item i y (by simpa using e)
  | _, _, .tup (a := a) (vs := vs) (xs := xs) h1 h2 h3 h4, s, z => by
    have z1 : (tupleText (PyData.shownAll xs)).length ≤ sizeLine := by rw [PyData.shown] at z; exact z
    obtain ⟨bs, k1, k2⟩ := RzAll.says h4 (by simpa only [PyData.showable] using s) fun t m => Nat.le_trans (tupleText_mem_le m) z1
    obtain ⟨_, r⟩ := RzAll.reads h4
    have r1 := Reads.tuple h1 h2 h3 r
    have na : a ∉ bs := not_mem_of_deeper r1 (Nat.lt_succ_of_le (Nat.le_of_eq (by rfl))) k1
    refine ⟨a :: bs, ReadAtMost.cons r1 (Nat.le_succ_of_le (Nat.le_of_eq (by rfl))) k1, ?_⟩
    rw [PyData.shown, PyData.depth]
    exact ReprK.tuple h1 h2 h3 na k2
theorem RzAll.says : ∀ {v : List Value} {d : List PyData}, RzAll h₀ v d → PyData.showableAll d = true → (∀ t ∈ PyData.shownAll d, t.length ≤ sizeLine) →
    ∃ bs, ReadAtMost h₀ (PyData.depthAll d) bs ∧ ReprAllK prog w bs h₀ (PyData.depthAll d) v (PyData.shownAll d)
  | _, _, .nil, _, _ => ⟨[], (fun _ q => nomatch q), by rw [PyData.shownAll]; exact .nil⟩
  | _, _, .cons (d := d) (ds := ds) h1 h2, s, z => by
    rw [PyData.showableAll, Bool.and_eq_true] at s
    rw [PyData.shownAll] at z ⊢
    obtain ⟨b1, m1, k1⟩ := Rz.says h1 s.1 (z _ (List.mem_cons_self ..))
    obtain ⟨b2, m2, k2⟩ := RzAll.says h2 s.2 fun t q => z t (List.mem_cons_of_mem _ q)
    rw [PyData.depthAll]
    refine ⟨b1 ++ b2, (m1.mono (Nat.le_max_left _ _)).append (m2.mono (Nat.le_max_right _ _)), ?_⟩
    exact .cons ((k1.more fun _ q => List.mem_append_left _ q).level_le (Nat.le_max_left _ _)) (k2.more_le (fun _ q => List.mem_append_right _ q) (Nat.le_max_right _ _))
end
theorem repr_z {s : Shared} {v : Value} {d : PyData} (rz : Rz s.heap v d) (hs : d.showable = true) (hz : d.shown.length ≤ sizeLine) (A : Around) (E : Value → Shared → Prop) (Q : Value → Shared → Prop) (hg : A.guards = some []) (hu : A.units + 66 < cLine) (hdp : d.depth ≤ 64)
    (hQ : ∀ h' u tk, (∀ b o, s.heap.get? b = some o → h'.get? b = some o) → Q (.str d.shown u) { s with heap := h', toks := tk }) : wpAny (model prog w) A (call (.builtin "repr") [v]) Q E s := by
  have hu1 : A.in1.units = A.units + 1 := rfl
  cases rz with
  | non => exact repr_reads .none hs (by simp [PyData.hasDict]) hz A E Q hg hu hdp hQ
  | bl b => exact repr_reads (.bool b) hs (by simp [PyData.hasDict]) hz A E Q hg hu hdp hQ
  | num i t => exact repr_reads (.int i t) hs (by simp [PyData.hasDict]) hz A E Q hg hu hdp hQ
  | txt x t => exact repr_reads (.str x t) hs (by simp [PyData.hasDict]) hz A E Q hg hu hdp hQ
  | @emp a o n h1 h2 h3 h4 =>
    rw [← empty_text] at hQ hz
    refine repr_slot (by omega) ⟨_, h1, h2⟩ F.slot_dict_repr ?_
    exact call_dict_reprK (d := 0) (as := []) h1 h2 h3 h4 (by simp) .nil hg (fun b _ => Clear.nil b) (by omega) (fun _ _ e => e) (fun h' u tk k => ⟨_, _, rfl, hQ h' u tk k⟩) hz
  | @lst a o vs n xs h1 h2 h3 h4 =>
    rw [PyData.shown] at hz hQ
    obtain ⟨bs, k1, k2⟩ := RzAll.says (prog := prog) (w := w) h4 (by simpa only [PyData.showable] using hs) fun t m => Nat.le_trans (listText_mem_le m) hz
    obtain ⟨_, r⟩ := RzAll.reads h4
    have na : a ∉ bs := not_mem_of_deeper (Reads.list h1 h2 h3 r) (Nat.lt_succ_of_le (Nat.le_of_eq (by rfl))) k1
    rw [PyData.depth] at hdp
    refine repr_slot (by omega) ⟨_, h1, h2⟩ F.slot_list_repr.toG ?_
    rcases vs with ⟨_ | ⟨x, l⟩⟩
    · cases (show RzAll s.heap [] xs from h4)
      rw [PyData.shownAll, listText_nil] at hQ
      exact call_list_repr_empty ⟨_, h1, h2⟩ h1 h3 ⟨_, _, rfl, hQ s.heap _ _ fun _ _ e => e⟩
    · exact call_list_reprK h1 h2 h3 na (by simpa using k2.length_eq) (fun i y e => k2.item i y (by simpa using e)) hg (fun b _ => Clear.nil b) (by omega) (fun _ _ e => e) (fun h' u tk k => ⟨_, _, rfl, hQ h' u tk k⟩) hz
  | @tup a o vs n xs h1 h2 h3 h4 =>
    rw [PyData.shown] at hz hQ
    obtain ⟨bs, k1, k2⟩ := RzAll.says (prog := prog) (w := w) h4 (by simpa only [PyData.showable] using hs) fun t m => Nat.le_trans (tupleText_mem_le m) hz
    obtain ⟨_, r⟩ := RzAll.reads h4
    have na : a ∉ bs := not_mem_of_deeper (Reads.tuple h1 h2 h3 r) (Nat.lt_succ_of_le (Nat.le_of_eq (by rfl))) k1
    rw [PyData.depth] at hdp
    refine repr_slot (by omega) ⟨_, h1, h2⟩ F.slot_tuple_repr ?_
    exact call_tuple_reprK h1 h2 h3 na k2 hg (fun b _ => Clear.nil b) (by omega) (fun _ _ e => e) (fun h' u tk k => ⟨_, _, rfl, hQ h' u tk k⟩) hz
mutual
/-- data in the abstract heap, empty dicts among them -/
inductive Dz (K : PySem.W.Frag) (H : Hp) : V → PyData → Prop
  | non : Dz K H .non .none
  | bl (b : Bool) : Dz K H (.bl b) (.bool b)
  | num (i : Int) : Dz K H (.int i) (.int i)
  | txt (x : Str) : Dz K H (.str x) (.str x)
  | lst {a : Addr} {xs : List V} {ds : List PyData} : SqL K H a xs → DzAll K H xs ds → Dz K H (.ref a) (.list ds)
  | tup {a : Addr} {xs : List V} {ds : List PyData} : SqT K H a xs → DzAll K H xs ds → Dz K H (.ref a) (.tuple ds)
  | emp {a : Addr} : H a = some (.dK []) → Dz K H (.ref a) (.dict [])
inductive DzAll (K : PySem.W.Frag) (H : Hp) : List V → List PyData → Prop
  | nil : DzAll K H [] []
  | cons {v : V} {vs : List V} {d : PyData} {ds : List PyData} : Dz K H v d → DzAll K H vs ds → DzAll K H (v :: vs) (d :: ds)
end
section
variable {s : Shared} {H : Hp} {X : Cx} {σ : L2.St} {pins : List (Addr × Obj)}
mutual
theorem Dz.rz (I : Inv X pins σ H s) : ∀ {d : PyData} {v : V} {u : Value}, Dz X.K H v d → RelV v u → Rz s.heap u d
  | _, _, _, .non, r => by cases r; exact .non
  | _, _, _, .bl b, r => by cases r; exact .bl b
  | _, _, _, .num i, r => by obtain ⟨t, rfl⟩ := r; exact .num i t
  | _, _, _, .txt x, r => by obtain ⟨t, rfl⟩ := r; exact .txt x t
  | _, _, _, .lst hs ha, r => by
    cases r
    obtain ⟨us, ru, ⟨ob, m, a1, a2, _, a3⟩, _⟩ := I.list hs
    exact .lst a1 a2 a3 (DzAll.rz I ha ru)
  | _, _, _, .tup hs ha, r => by
    cases r
    obtain ⟨us, ru, ⟨ob, a1, a2, m, a3⟩, _⟩ := I.tuple hs
    exact .tup a1 a2 a3 (DzAll.rz I ha ru)
  | _, _, _, .emp he, r => by
    cases r
    obtain ⟨_, hm, vs, kv, o, es, ep, ho, hx, hd, _, hes, _⟩ := dk_of I.hok he
    cases kv
    have : es = #[] := by
      rcases es with ⟨l⟩
      cases l with
      | nil => rfl
      | cons x l => cases hes
    subst this
    exact .emp ho hx.1 hd hm
theorem DzAll.rz (I : Inv X pins σ H s) : ∀ {d : List PyData} {v : List V} {u : List Value}, DzAll X.K H v d → Vals v u → RzAll s.heap u d
  | _, _, _, .nil, r => by cases r; exact .nil
  | _, _, _, .cons h1 h2, r => by cases r with | cons r1 r2 => exact .cons (Dz.rz I h1 r1) (DzAll.rz I h2 r2)
end
end
mutual
def toPz : D → Option PyData
  | .non => some .none
  | .bl b => some (.bool b)
  | .int i => some (.int i)
  | .str x => some (.str ⟨x.toArray⟩)
  | .lst xs => (toPzs xs).map .list
  | .tup xs => (toPzs xs).map .tuple
  | .dct [] [] => some (.dict [])
  | _ => none
def toPzs : List D → Option (List PyData)
  | [] => some []
  | x :: xs => match toPz x, toPzs xs with
    | some a, some b => some (a :: b)
    | _, _ => none
end
section
variable {T : Tab} {K : PySem.W.Frag}
mutual
theorem toPz_ok {F : Hp} {S : Store} {ι : List Addr} {G H : Hp} (em : Em T K F S ι G H) : ∀ {x : D} {v : V} {p : PyData}, DR T K G ι x v → toPz x = some p → Dz K H v p
  | .non, _, _, h, e => by simp only [DR] at h; rw [toPz] at e; cases e; subst h; exact .non
  | .bl b, _, _, h, e => by simp only [DR] at h; rw [toPz] at e; cases e; subst h; exact .bl b
  | .int b, _, _, h, e => by simp only [DR] at h; rw [toPz] at e; cases e; subst h; exact .num b
  | .str b, _, _, h, e => by simp only [DR] at h; rw [toPz] at e; cases e; subst h; exact .txt _
  | .lst xs, _, _, h, e => by
    simp only [DR] at h
    rw [toPz, Option.map_eq_some_iff] at e
    obtain ⟨a, vs, rfl, q, r⟩ := h
    obtain ⟨ps, e1, rfl⟩ := e
    exact .lst (SqL.of (em.sub _ _ q)) (toPzs_ok em r e1)
  | .tup xs, _, _, h, e => by
    simp only [DR] at h
    rw [toPz, Option.map_eq_some_iff] at e
    obtain ⟨a, vs, rfl, q, r⟩ := h
    obtain ⟨ps, e1, rfl⟩ := e
    exact .tup (SqT.of (em.sub _ _ q)) (toPzs_ok em r e1)
  | .dct [] [], _, _, h, e => by
    simp only [DR, DRs] at h
    rw [toPz] at e
    cases e
    obtain ⟨a, vs, rfl, _, q, rfl⟩ := h
    exact .emp (em.sub _ _ q)
  | .dct (_ :: _) _, _, _, _, e => by simp [toPz] at e
  | .dct [] (_ :: _), _, _, _, e => by simp [toPz] at e
  | .ty _, _, _, _, e => by simp [toPz] at e
  | .glo _, _, _, _, e => by simp [toPz] at e
  | .scr _, _, _, _, e => by simp [toPz] at e
  | .ins _ _, _, _, _, e => by simp [toPz] at e
  | .ref _, _, _, _, e => by simp [toPz] at e
theorem toPzs_ok {F : Hp} {S : Store} {ι : List Addr} {G H : Hp} (em : Em T K F S ι G H) : ∀ {x : List D} {v : List V} {p : List PyData}, DRs T K G ι x v → toPzs x = some p → DzAll K H v p
  | [], _, _, h, e => by simp only [DRs] at h; rw [toPzs] at e; cases e; subst h; exact .nil
  | x :: xs, _, _, h, e => by
    simp only [DRs] at h
    obtain ⟨v, r, rfl, h1, h2⟩ := h
    rw [toPzs] at e
    split at e
    · rename_i a b e1 e2
      cases e
      exact .cons (toPz_ok em h1 e1) (toPzs_ok em h2 e2)
    · cases e
end
theorem derefz_ok {F : Hp} {S : Store} {ι : List Addr} {G H : Hp} (em : Em T K F S ι G H) {x : D} {v : V} {p : PyData} (h : DR T K G ι x v) (e : toPz (deref x S) = some p) : Dz K H v p := by
  cases x with
  | ref n =>
    rw [deref] at e
    split at e
    · rename_i xs q
      obtain ⟨a, vs, e1, h1, h2⟩ := seqL_ok (xs := xs) em h (by simp only [seqL, q])
      subst e1
      rw [toPz, Option.map_eq_some_iff] at e
      obtain ⟨ps, e1, rfl⟩ := e
      exact .lst (SqL.of h1) (toPzs_ok em h2 e1)
    · simp [toPz] at e
  | _ => exact toPz_ok em h e
end
end J

set_option Elab.async false
set_option linter.all false
set_option maxRecDepth 100000
set_option maxHeartbeats 410000
/-! JM: repr(x), tuple(..), list(..), max and min of a list -/
namespace J
open PySem PySem.Spec L2 PyProof.Rows
def rReprD (K : PySem.W.Frag) : List V → Hp → VK → Prop := fun vs H Q => ∃ v d, vs = [v] ∧ Dz K H v d ∧ d.showable = true ∧ d.depth ≤ 64 ∧ d.shown.length ≤ sizeLine ∧ Q (.str d.shown) H
theorem call_reprD {X : Cx} {k : Nat} (hr : Rg k X.A) : CallR X (.builtin "repr") (rReprD X.K) := by
  rintro pins s σ H xs us Q I r h
  obtain ⟨v, d, rfl, dp, h1, h3, h4, q⟩ := h
  rcases vals1 r with ⟨u, rfl, ru⟩
  have hu := hr.r.un
  exact repr_z (Dz.rz I dp ru) h1 h4 X.A _ _ hr.g (by omega) h3 fun h' u tk hk => ⟨.str d.shown, H, I.kept (t' := tk) hk, ⟨_, rfl⟩, q⟩
/-- the text of a value -/
def repOf (d : D) (S : Store) : Option (List Nat) := match toPz (deref d S) with
  | some p => if (p.showable && (decide (p.depth ≤ 64) && decide (p.shown.length ≤ 100000))) = true then some p.shown.cps.toList else none
  | none => none
def reprD : OpN := fun xs S => match xs with
  | [x] => (repOf x S).map .str
  | _ => none
theorem reprD_ok {T : Tab} {K : PySem.W.Frag} : CaS T K (rReprD K) reprD := by
  intro F S ι G H xs d vs Q em dr e q
  rcases xs with _ | ⟨x, _ | ⟨y, r⟩⟩
  · cases e
  · obtain ⟨v, rfl, r⟩ := dr.one
    unfold reprD repOf at e
    dsimp only at e
    cases hp : toPz (deref x S) with
    | none => rw [hp] at e; cases e
    | some p =>
      rw [hp] at e
      dsimp only at e
      split at e
      · rename_i hc
        simp only [decide_eq_true_eq, Bool.and_eq_true] at hc
        cases e
        refine ⟨v, p, rfl, derefz_ok em r hp, hc.1, hc.2.1, sz_of hc.2.2, q _ G H em (Ext.refl _ _) ?_⟩
        simp only [DR, str_of_cps]
      · cases e
  · cases e
end J

set_option Elab.async false
set_option linter.all false
set_option maxRecDepth 100000
set_option maxHeartbeats 1010000
/-! JN: zip of texts, enumerate of tuples, lists and texts -/
namespace J
open PySem PySem.Spec L2 PyProof.Rows
/-! ### iterators that hand out new pairs, by what the library's GoesN says of them -/
/-- the pairs f i, g i for i below n, while `seen` stands -/
def ItP (seen : Hp → Prop) (n : Nat) (f g : Nat → V) : It where
  go i H := seen H ∧ i < n
  yld i H v H' := ∃ p, v = .ref p ∧ H p = none ∧ H' = upd H p (.tup [f i, g i])
  stop i H := seen H ∧ i = n
/-- GoesN, at one state, as a walk of pairs -/
structure Pairs (P : Program) (w : World) (A : Around) (tg : Expr) (I : Addr) (fp : List Addr) (n : Nat) (f g : Nat → V) (tn : Nat → Heap → Prop) (i : Nat) (h : Heap) : Prop where
  ex : ∃ (fp' wr : List Addr) (Y : Nat → Heap → Value → Heap → Prop) (St : Nat → Heap → Prop), GoesN P w A tg I fp' wr n Y St ∧ St i h ∧ (∀ b ∈ wr, b ∈ fp) ∧ (∀ j h1, St j h1 → tn j h1) ∧
    ∀ j h0 v h1, j < n → Y j h0 v h1 → ∃ p a b, v = .ref p ∧ h0.objs.size ≤ p ∧ RelV (f j) a ∧ RelV (g j) b ∧ h1.IsTuple p #[a, b]
theorem turn_pairs {P : Program} {w : World} {K : PySem.W.Frag} {tg : Expr} {I : Addr} {fp : List Addr} {n : Nat} {f g : Nat → V} {seen : Hp → Prop} {tn : Nat → Heap → Prop} (mem : I ∈ fp) (ob : ∀ i h, tn i h → ∀ c ∈ fp, ∃ o, h.get? c = some o ∧ ∀ v, o.data ≠ .cell v)
    (kp : ∀ i h h', tn i h → (∀ c ∈ fp, ∀ o, h.get? c = some o → h'.get? c = some o) → tn i h') (sf : ∀ (A : Around) (i : Nat) (s : Shared) (Q : Value → Shared → Prop) (E : Value → Shared → Prop), tn i s.heap → Q (.ref I) s → wpAny (model P w) A (pyIter (.ref I)) Q E s)
    (pr : ∀ (X : Cx), X.prog = P → X.w = w → X.K = K → X.calm = true → ∀ (i : Nat) (pins : List (Addr × Obj)) (s : Shared) (σ : L2.St) (H : Hp), Inv X pins σ H s → seen H → tn i s.heap → Pairs P w X.A tg I fp n f g tn i s.heap) : Turn P w K tg (ItP seen n f g) fp I tn := by
  refine ⟨mem, ob, kp, fun X hP hw hK hc i pins s σ H E inv hf st hg => ?_, fun X hP hw hK hc i pins s σ H E inv hf st hg => ?_, sf⟩
  · obtain ⟨fp', wr, Y, St, gn, st0, sub, back, pair⟩ := (pr X hP hw hK hc i pins s σ H inv hg.1 st).ex
    subst hP hw hK
    refine gn.goes i s (fun u s2 => ∃ x H', Inv X pins σ H' s2 ∧ RelV x u ∧ (ItP seen n f g).yld i H x H' ∧ tn (i + 1) s2.heap ∧ ∀ c ∈ fp, H' c = none) E hg.2 st0 fun v h1 tk hY st1 old _ => ?_
    obtain ⟨p, a, b, rfl, fresh, ra, rb, tup⟩ := pair i s.heap v h1 hg.2 hY
    have laid : ObjOk X.prog X.w (upd H p (.tup [f i, g i])) h1 p (.tup [f i, g i]) := ⟨show (2 : Nat) ≤ sizeLine from by decide, [a, b], .cons ra (.cons rb .nil), tup⟩
    have keepAll : ∀ c o, c ∉ fp → s.heap.get? c = some o → h1.get? c = some o := fun c o hcf => old c o fun hw => hcf (sub c hw)
    refine ⟨.ref p, _, Inv.turnedNew inv keepAll hf fresh laid, rfl, ⟨p, rfl, inv.hok.fresh fresh, rfl⟩, back _ _ st1, fun c hcf => ?_⟩
    obtain ⟨o, ho, _⟩ := ob i s.heap st c hcf
    have below : c < p := Nat.lt_of_lt_of_le (Heap.lt_size ho) fresh
    exact (upd_ne (Nat.ne_of_lt below)).trans (hf c hcf).1
  · obtain ⟨fp', wr, Y, St, gn, st0, sub, back, pair⟩ := (pr X hP hw hK hc i pins s σ H inv hg.1 st).ex
    subst hP hw hK
    rw [hg.2] at st0
    exact gn.stops s (fun s1 => Inv X pins σ H s1) E st0 fun h1 tk old _ => Inv.turnedL inv (fun c o hcf => old c o fun hw => hcf (sub c hw)) hf
/-- a letter of a text, as a value; a member of a list of values -/
def chV (x : Str) (i : Nat) : V := .str ⟨#[x.cps.getD i 0]⟩
def nthV (xs : List V) (i : Nat) : V := xs.getD i .non
theorem chV_rel {x : Str} {i c : Nat} {u : Tok} (h : x.cps[i]? = some c) : RelV (chV x i) (.str ⟨#[c]⟩ u) := by
  refine ⟨u, ?_⟩
  have e : x.cps.getD i 0 = c := by rw [Array.getD_eq_getD_getElem?, h]; rfl
  rw [e]
/-! ### zip of two texts -/
abbrev zfp (N : Nat) : List Addr := [N + 4, N + 2, N + 3, N, N + 1]
theorem zip_texts {X : Cx} {pins : List (Addr × Obj)} {σ : L2.St} {H : Hp} {s : Shared} {R : It → Hp → Prop} {x y : Str} {t1 t2 : Tok} {elts : List Expr} {kk : Nat} {tpos : Pos} (inv : Inv X pins σ H s) (q : R (ItP (fun _ => True) (min x.cps.size y.cps.size) (chV x) (chV y)) H) :
    wpAny (model X.prog X.w) X.A (call (.type "zip") [.str x t1, .str y t2]) (fun v s1 => wpAny (model X.prog X.w) X.A (pyIter v) (PIE X pins σ (.Tuple elts kk tpos) R) X.xe s1) X.xe s := by
  refine zip_begins2 (begins_text x t1) (begins_text y t2) trivial trivial fun h1 z ti to it1 it2 _ old => wpAny_pyIter_zip z ?_
  have sep : ZipSep2 (s.heap.objs.size + 4) (s.heap.objs.size + 2) (s.heap.objs.size + 3) s.heap.objs.size (s.heap.objs.size + 1) [s.heap.objs.size] [s.heap.objs.size + 1] := zip_sep2 (by simp) (by simp)
  let tn : Nat → Heap → Prop := fun i h => IsZip h (s.heap.objs.size + 4) (s.heap.objs.size + 2) (s.heap.objs.size + 3) .none ∧ IsTupOf2 h (s.heap.objs.size + 2) (.ref s.heap.objs.size) (.ref (s.heap.objs.size + 1)) ∧ (∃ a b, IsTupOf2 h (s.heap.objs.size + 3) a b) ∧
    h.IsStrIter s.heap.objs.size (strIterType x) x t1 i ∧ h.IsStrIter (s.heap.objs.size + 1) (strIterType y) y t2 i
  have goes : ∀ A : Around, A.handled = none → GoesN X.prog X.w A (.Tuple elts kk tpos) (s.heap.objs.size + 4) _ _ _ _ tn := fun A hA => GoesN.zip2 sep (Draws.text (A := A.in1) hA _ x t1) (Draws.text (A := A.in1) hA _ y t2)
  have T : Turn X.prog X.w X.K (.Tuple elts kk tpos) (ItP (fun _ => True) (min x.cps.size y.cps.size) (chV x) (chV y)) (zfp s.heap.objs.size) (s.heap.objs.size + 4) tn := by
    refine turn_pairs (by simp) ?_ ?_ (fun A i s1 Q E st h => wpAny_pyIter_zip st.1 h) fun X' hP hw hK hc i pins' s' σ' H' inv' _ st => ?_
    · rintro i h ⟨a1, a2, ⟨_, _, a3⟩, ⟨o1, b1, _, c1⟩, ⟨o2, b2, _, c2⟩⟩ c hcf
      simp only [zfp, List.mem_cons, List.not_mem_nil, or_false] at hcf
      rcases hcf with rfl | rfl | rfl | rfl | rfl
      · exact ⟨_, a1, fun _ => nofun⟩
      · exact ⟨_, a2, fun _ => nofun⟩
      · exact ⟨_, a3, fun _ => nofun⟩
      · exact ⟨o1, b1, fun v e => by rw [c1] at e; cases e⟩
      · exact ⟨o2, b2, fun v e => by rw [c2] at e; cases e⟩
    · rintro i h h' ⟨a1, a2, ⟨_, _, a3⟩, ⟨o1, b1, r1⟩, ⟨o2, b2, r2⟩⟩ k
      exact ⟨k _ (by simp) _ a1, k _ (by simp) _ a2, ⟨_, _, k _ (by simp) _ a3⟩, ⟨o1, k _ (by simp) _ b1, r1⟩, ⟨o2, k _ (by simp) _ b2, r2⟩⟩
    · refine ⟨_, _, _, tn, goes X'.A (inv'.ok.hd hc), st, fun b hb => ?_, fun _ _ z => z, ?_⟩
      · simp only [List.mem_cons, List.not_mem_nil, or_false] at hb
        rcases hb with rfl | rfl | rfl | rfl <;> simp
      · rintro j h0 v h2 hj ⟨p, a, b, rfl, fresh, ⟨c, k1, hc1, rfl⟩, ⟨d, k2, hd1, rfl⟩, tup⟩
        exact ⟨p, _, _, rfl, fresh, chV_rel hc1, chV_rel hd1, tup⟩
  refine ⟨_, _, tn, _, H, rfl, inv.kept (t' := s.toks) old, T, ⟨z, ti, ⟨_, _, to⟩, ⟨_, it1, rfl, rfl⟩, ⟨_, it2, rfl, rfl⟩⟩, fun c hcf => ?_, q⟩
  have above : s.heap.objs.size ≤ c := by
    simp only [zfp, List.mem_cons, List.not_mem_nil, or_false] at hcf
    have e : ∀ N c : Nat, (c = N + 4 ∨ c = N + 2 ∨ c = N + 3 ∨ c = N ∨ c = N + 1) → N ≤ c := by omega
    exact e _ _ hcf
  exact inv.fpOk above (inv.hok.fresh above)
def iZipS0 (ta : TA) : TI := fun σ H R => ta σ H fun vs H1 => ∃ x y, vs = [.str x, .str y] ∧ R (ItP (fun _ => True) (min x.cps.size y.cps.size) (chV x) (chV y)) H1
theorem pi_zipS {X : Cx} {e e2 : Expr} {ta : TA} {p pos tpos : Pos} {elts : List Expr} {kk : Nat} (hg : Gl X "zip") (hm : X.mg "zip" = none) (ha : PA X [e, e2] ta)
    (h1 : starEach [e, e2] X.env = (false, eval e X.env) :: starEach [e2] X.env) (h2 : (backTo pos (starEach [e2] X.env)).any (·.1) = false) : PI X (.Tuple elts kk tpos) (.Call (.Name "zip" p) [e, e2] [] pos) (iZipS0 ta) := by
  constructor
  intro pins s σ H R inv want
  refine Call_ (ld_blt inv hg hm PyProof.Rows.boot_zip (PyProof.Rows.callWith_type1 (thn (ha.run pos pins s σ H _ inv want) ?_) h1 h2))
  rintro us s1 ⟨_, H1, inv1, rel, x, y, rfl, q⟩
  obtain ⟨u, v, rfl, ru, rv⟩ : ∃ u v, us = [u, v] ∧ RelV (.str x) u ∧ RelV (.str y) v := by
    rcases rel with _ | ⟨ru, _ | ⟨rv, _ | _⟩⟩
    exact ⟨_, _, rfl, ru, rv⟩
  obtain ⟨t1, rfl⟩ := ru
  obtain ⟨t2, rfl⟩ := rv
  exact zip_texts inv1 q
/-! ### enumerate of a tuple, of a text -/
theorem enum_meets {v : Value} {o : Obj} {ok : Heap → Prop} (B : Begins v o ok) : Meets (Builtin.«enumerate.__new__» ⟨[.type "enumerate", v], []⟩) (fun _ R s => ok s.heap ∧
    R (.ok (.ret (.ref (s.heap.push o).objs.size))) { s with heap := (s.heap.push o).push { cls := .type "enumerate", data := .fields #[.none, .bool false, .ref s.heap.objs.size, rawInt 0, .none, .none] } }) := by
  refine Meets.of_wp ?_
  rintro prog w A R ⟨hp, g, d, tk, os⟩ ⟨good, fin⟩
  have sub := sub_enumerate
  have start : ∀ {A' : Around} {E : Value → Shared → Prop} {Q : Value → Shared → Prop}, Q (.ref hp.objs.size) ⟨hp.push o, g, d, tk, os⟩ → wpAny (model prog w) A' (pyIter v) Q E ⟨hp, g, d, tk, os⟩ := fun z => B.iter prog w _ _ _ _ good z
  wp_walk using start
  apply wpAny_stack_any
  intro st
  apply wpAny_pure
  split
  case h_1 c _ _ _ _ _ => cases (c == Value.type "enumerate") <;> (wp_walk using start; exact ⟨_, rfl, fin⟩)
  all_goals (wp_walk using start; exact ⟨_, rfl, fin⟩)
theorem enum_made {prog : Program} {w : World} {A : Around} {E : Value → Shared → Prop} {s : Shared} {v : Value} {o : Obj} {ok : Heap → Prop} {Q : Value → Shared → Prop} (B : Begins v o ok) (good : ok s.heap)
    (fin : ∀ h1, IsEnum h1 (s.heap.objs.size + 1) s.heap.objs.size 0 .none → h1.get? s.heap.objs.size = some o → (∀ b x, s.heap.get? b = some x → h1.get? b = some x) → Q (.ref (s.heap.objs.size + 1)) { s with heap := h1 }) : wpAny (model prog w) A (call (.type "enumerate") [v]) Q E s := by
  have size : (s.heap.push o).objs.size = s.heap.objs.size + 1 := Heap.size_push ..
  have en := Heap.get?_push_size (s.heap.push o) (o := { cls := .type "enumerate", data := .fields #[.none, .bool false, .ref s.heap.objs.size, rawInt 0, .none, .none] }) rfl
  rw [size] at en
  refine callType_new F.called_enumerate (by decide) (F.typeCall_enumerate_1 _) (F.newCall_enumerate_1 _) (fun obj => F.args_object_init_2 obj _) F.entry_enumerate_new (enum_meets B) ⟨good, show _ ∧ _ from ?_⟩
  rw [size]
  exact ⟨⟨_, en, rfl⟩, fin _ en (Heap.get?_push_of_some _ (Heap.get?_push_size _ B.free)) fun b x z => Heap.get?_push_of_some _ (Heap.get?_push_of_some _ z)⟩
abbrev efp (N : Nat) : List Addr := [N + 1, N]
theorem efp_fresh {X : Cx} {pins : List (Addr × Obj)} {σ : L2.St} {H : Hp} {s : Shared} (inv : Inv X pins σ H s) : ∀ c ∈ efp s.heap.objs.size, FpOk X pins H c := by
  intro c hcf
  have above : s.heap.objs.size ≤ c := by
    simp only [efp, List.mem_cons, List.not_mem_nil, or_false] at hcf
    have e : ∀ N c : Nat, (c = N + 1 ∨ c = N) → N ≤ c := by omega
    exact e _ _ hcf
  exact inv.fpOk above (inv.hok.fresh above)
def intV (i : Nat) : V := .int (0 + (i : Int))
theorem enum_tuple {X : Cx} {pins : List (Addr × Obj)} {σ : L2.St} {H : Hp} {s : Shared} {R : It → Hp → Prop} {a : Addr} {xs : List V} {elts : List Expr} {kk : Nat} {tpos : Pos} (inv : Inv X pins σ H s) (sq : SqT X.K H a xs) (q : R (ItP (fun H1 => SqT X.K H1 a xs) xs.length intV (nthV xs)) H) :
    wpAny (model X.prog X.w) X.A (call (.type "enumerate") [.ref a]) (fun v s1 => wpAny (model X.prog X.w) X.A (pyIter v) (PIE X pins σ (.Tuple elts kk tpos) R) X.xe s1) X.xe s := by
  obtain ⟨its, _, isT, _⟩ := inv.tuple sq
  have la : a < s.heap.objs.size := by
    obtain ⟨o0, ho0, _⟩ := isT
    exact Heap.lt_size ho0
  have ne1 : s.heap.objs.size + 1 ≠ s.heap.objs.size := Nat.succ_ne_self _
  have ne2 : a ≠ s.heap.objs.size := Nat.ne_of_lt la
  have ne3 : s.heap.objs.size + 1 ≠ a := Nat.ne_of_gt (Nat.lt_succ_of_lt la)
  refine enum_made (begins_tuple a its.toArray) isT fun h1 en it old => wpAny_pyIter_enum en ?_
  let tn : Nat → Heap → Prop := fun i h => (∃ o, IsEnum h (s.heap.objs.size + 1) s.heap.objs.size (0 + (i : Int)) o) ∧ h.IsTupleIter s.heap.objs.size a i
  have T : Turn X.prog X.w X.K (.Tuple elts kk tpos) (ItP (fun H1 => SqT X.K H1 a xs) xs.length intV (nthV xs)) (efp s.heap.objs.size) (s.heap.objs.size + 1) tn := by
    refine turn_pairs (by simp) ?_ ?_ (fun A i s1 Q E st h => st.1.elim fun _ z => wpAny_pyIter_enum z h) fun X' hP hw hK hc i pins' s' σ' H' inv' sq' st => ?_
    · rintro i h ⟨⟨_, a1⟩, ⟨o1, b1, _, c1⟩⟩ c hcf
      simp only [efp, List.mem_cons, List.not_mem_nil, or_false] at hcf
      rcases hcf with rfl | rfl
      · exact ⟨_, a1, fun _ => nofun⟩
      · exact ⟨o1, b1, fun v e => by rw [c1] at e; cases e⟩
    · rintro i h h' ⟨⟨_, a1⟩, ⟨o1, b1, r1⟩⟩ k
      exact ⟨⟨_, k _ (by simp) _ a1⟩, ⟨o1, k _ (by simp) _ b1, r1⟩⟩
    · rw [← hK] at sq'
      obtain ⟨us, rel, isT', _⟩ := inv'.tuple sq'
      have len : us.toArray.size = xs.length := by rw [List.size_toArray]; exact rel.length.symm
      have gn := GoesN.enumFrom (elts := elts) (x1 := kk) (pos := tpos) 0 (Draws.tuple (prog := X.prog) (w := X.w) (A := X'.A.in1) (inv'.ok.hd hc) s.heap.objs.size a ne2 us.toArray) (s.heap.objs.size + 1) ne1 (by simp [ne1, ne3]) (by simp)
      rw [len] at gn
      refine ⟨_, _, _, _, gn, ⟨st.1, st.2, isT'⟩, fun b hb => hb, fun j h2 z => ⟨z.1, z.2.1⟩, ?_⟩
      rintro j h0 v h2 hj ⟨p, t, u, rfl, fresh, hu, tup⟩
      refine ⟨p, _, u, rfl, fresh, ⟨t, rfl⟩, ?_, tup⟩
      obtain ⟨u', hu', ru⟩ := rel.get (List.getElem?_eq_getElem hj)
      have eu : u' = u := by
        have z : us[j]? = some u := by simpa using hu
        rw [hu'] at z
        exact Option.some.inj z
      have en : nthV xs j = xs[j] := by unfold nthV; rw [List.getD_eq_getElem?_getD, List.getElem?_eq_getElem hj]; rfl
      rw [en, ← eu]
      exact ru
  exact ⟨_, _, tn, _, H, rfl, inv.kept (t' := s.toks) old, T, ⟨⟨_, en⟩, ⟨_, it, rfl, rfl⟩⟩, efp_fresh inv, q⟩
theorem enum_text {X : Cx} {pins : List (Addr × Obj)} {σ : L2.St} {H : Hp} {s : Shared} {R : It → Hp → Prop} {x : Str} {t : Tok} {elts : List Expr} {kk : Nat} {tpos : Pos} (inv : Inv X pins σ H s) (q : R (ItP (fun _ => True) x.cps.size intV (chV x)) H) :
    wpAny (model X.prog X.w) X.A (call (.type "enumerate") [.str x t]) (fun v s1 => wpAny (model X.prog X.w) X.A (pyIter v) (PIE X pins σ (.Tuple elts kk tpos) R) X.xe s1) X.xe s := by
  have ne1 : s.heap.objs.size + 1 ≠ s.heap.objs.size := Nat.succ_ne_self _
  refine enum_made (begins_text x t) trivial fun h1 en it old => wpAny_pyIter_enum en ?_
  let tn : Nat → Heap → Prop := fun i h => (∃ o, IsEnum h (s.heap.objs.size + 1) s.heap.objs.size (0 + (i : Int)) o) ∧ h.IsStrIter s.heap.objs.size (strIterType x) x t i
  have T : Turn X.prog X.w X.K (.Tuple elts kk tpos) (ItP (fun _ => True) x.cps.size intV (chV x)) (efp s.heap.objs.size) (s.heap.objs.size + 1) tn := by
    refine turn_pairs (by simp) ?_ ?_ (fun A i s1 Q E st h => st.1.elim fun _ z => wpAny_pyIter_enum z h) fun X' hP hw hK hc i pins' s' σ' H' inv' _ st => ?_
    · rintro i h ⟨⟨_, a1⟩, ⟨o1, b1, _, c1⟩⟩ c hcf
      simp only [efp, List.mem_cons, List.not_mem_nil, or_false] at hcf
      rcases hcf with rfl | rfl
      · exact ⟨_, a1, fun _ => nofun⟩
      · exact ⟨o1, b1, fun v e => by rw [c1] at e; cases e⟩
    · rintro i h h' ⟨⟨_, a1⟩, ⟨o1, b1, r1⟩⟩ k
      exact ⟨⟨_, k _ (by simp) _ a1⟩, ⟨o1, k _ (by simp) _ b1, r1⟩⟩
    · have gn := GoesN.enumFrom (elts := elts) (x1 := kk) (pos := tpos) 0 (Draws.text (prog := X.prog) (w := X.w) (A := X'.A.in1) (inv'.ok.hd hc) s.heap.objs.size x t) (s.heap.objs.size + 1) ne1 (by simp [ne1]) (by simp)
      refine ⟨_, _, _, _, gn, st, fun b hb => hb, fun _ _ z => z, ?_⟩
      rintro j h0 v h2 hj ⟨p, t', u, rfl, fresh, ⟨c, k1, hc1, rfl⟩, tup⟩
      exact ⟨p, _, _, rfl, fresh, ⟨t', rfl⟩, chV_rel hc1, tup⟩
  exact ⟨_, _, tn, _, H, rfl, inv.kept (t' := s.toks) old, T, ⟨⟨_, en⟩, ⟨_, it, rfl, rfl⟩⟩, efp_fresh inv, q⟩
def iEnumA (K : PySem.W.Frag) (ta : TA) : TI := fun σ H R => ta σ H fun vs H1 => (∃ a xs, vs = [.ref a] ∧ SqT K H1 a xs ∧ R (ItP (fun H2 => SqT K H2 a xs) xs.length intV (nthV xs)) H1) ∨ ∃ x, vs = [.str x] ∧ R (ItP (fun _ => True) x.cps.size intV (chV x)) H1
theorem pi_enumA {X : Cx} {e : Expr} {ta : TA} {p pos tpos : Pos} {elts : List Expr} {kk : Nat} (hg : Gl X "enumerate") (hm : X.mg "enumerate" = none) (ha : PA X [e] ta) (h1 : starEach [e] X.env = [(false, eval e X.env)]) : PI X (.Tuple elts kk tpos) (.Call (.Name "enumerate" p) [e] [] pos) (iEnumA X.K ta) := by
  constructor
  intro pins s σ H R inv want
  refine Call_ (ld_blt inv hg hm boot_enumerate (PyProof.Rows.callWith_type1 (thn (ha.run pos pins s σ H _ inv want) ?_) h1 rfl))
  rintro us s1 ⟨_, H1, inv1, rel, ⟨a, xs, rfl, sq, q⟩ | ⟨x, rfl, q⟩⟩
  · obtain ⟨u, rfl, ru⟩ := vals1 rel
    obtain rfl : u = .ref a := ru
    exact enum_tuple inv1 sq q
  · obtain ⟨u, rfl, t, rfl⟩ := vals1 rel
    exact enum_text inv1 q
/-! ### zip and enumerate as they are walked -/
def zipOfA : List D → Option (List D)
  | [.lst xs, .lst ys] => some (zipD xs ys)
  | [.tup xs, .tup ys] => some (zipD xs ys)
  | [.str a, .str b] => some (zipD (a.map fun c => .str [c]) (b.map fun c => .str [c]))
  | _ => none
def iZipA (ia : IA) : IA := fun ρ => M.bind (ia ρ) fun xs => lift (zipOfA xs)
def enumF : Nat → List D → List D
  | _, [] => []
  | n, x :: xs => .tup [.int (n : Nat), x] :: enumF (n + 1) xs
def enumOf : List D → Option (List D)
  | [.lst xs] => some (enumF 0 xs)
  | [.tup xs] => some (enumF 0 xs)
  | [.str a] => some (enumF 0 (a.map fun c => .str [c]))
  | _ => none
def iEnumD (ia : IA) : IA := fun ρ => M.bind (ia ρ) fun xs => lift (enumOf xs)
theorem enumF_get : ∀ {xs : List D} {n i : Nat} {d : D}, (enumF n xs)[i]? = some d → ∃ x, d = .tup [.int ((n + i : Nat) : Int), x] ∧ xs[i]? = some x
  | [], n, i, d, h => by simp [enumF] at h
  | x :: xs, n, 0, d, h => by
    have e : D.tup [.int (n : Nat), x] = d := by simpa [enumF] using h
    exact ⟨x, e.symm, rfl⟩
  | x :: xs, n, i + 1, d, h => by
    have h' : (enumF (n + 1) xs)[i]? = some d := by simpa [enumF] using h
    obtain ⟨y, e, q⟩ := enumF_get h'
    exact ⟨y, by rw [e, show n + 1 + i = n + (i + 1) by omega], by simpa using q⟩
theorem enumF_len : ∀ (xs : List D) (n : Nat), (enumF n xs).length = xs.length
  | [], n => rfl
  | x :: xs, n => by simp [enumF, enumF_len xs]
theorem chr_at {l : List Nat} {i : Nat} {d : D} (h : (l.map fun c => D.str [c])[i]? = some d) : ∃ c, l[i]? = some c ∧ d = .str [c] := by
  rw [List.getElem?_map] at h
  cases q : l[i]? with
  | none => rw [q] at h; cases h
  | some c => rw [q] at h; cases h; exact ⟨c, rfl, rfl⟩
section
variable {T : Tab} {X : Cx} {W : WX} {ia : IA} {e e2 : Expr} {p pos tpos : Pos} {elts : List Expr} {kk : Nat}
theorem chV_str {l : List Nat} {i c : Nat} (h : l[i]? = some c) : chV ⟨l.toArray⟩ i = .str ⟨#[c]⟩ := by
  have e : (⟨l.toArray⟩ : Str).cps.getD i 0 = c := by rw [Array.getD_eq_getD_getElem?]; simp [h]
  unfold chV
  rw [e]
/-- the walk of pairs, by its members -/
theorem walk_pairs {K : PySem.W.Frag} {ι : List Addr} {G : Hp} {seen : Hp → Prop} {n : Nat} {f g : Nat → V} {ps : List D} (hs : ∀ F S ι1 G1 H1, Em T K F S ι1 G1 H1 → Ext G ι G1 ι1 → seen H1) (hn : ps.length = n)
    (hp : ∀ i d, ps[i]? = some d → ∃ x y, d = .tup [x, y] ∧ DR T K G ι x (f i) ∧ DR T K G ι y (g i)) : Walk T K ι G (ItP seen n f g) ps := by
  intro i F S ι1 G1 H1 em ext
  refine ⟨fun d hd => ⟨⟨hs F S ι1 G1 H1 em ext, hn ▸ (List.getElem?_eq_some_iff.mp hd).1⟩, ?_⟩, fun z => ⟨hs F S ι1 G1 H1 em ext, z.trans hn⟩⟩
  rintro v H2 ⟨p, rfl, free, rfl⟩
  obtain ⟨x, y, rfl, rx, ry⟩ := hp i d hd
  exact pair_dr em free (rx.mono ext.1 ext.2) (ry.mono ext.1 ext.2)
theorem walk_zipS {K : PySem.W.Frag} {ι : List Addr} {G : Hp} {a b : List Nat} : Walk T K ι G (ItP (fun _ => True) (min (⟨a.toArray⟩ : Str).cps.size (⟨b.toArray⟩ : Str).cps.size) (chV ⟨a.toArray⟩) (chV ⟨b.toArray⟩)) (zipD (a.map fun c => .str [c]) (b.map fun c => .str [c])) := by
  refine walk_pairs (fun _ _ _ _ _ _ _ => trivial) (by rw [zipD_len]; simp) fun i d hd => ?_
  obtain ⟨x, y, rfl, hx, hy⟩ := zipD_get hd
  obtain ⟨c, hc, rfl⟩ := chr_at hx
  obtain ⟨c', hc', rfl⟩ := chr_at hy
  exact ⟨_, _, rfl, by simp only [DR, chV_str hc], by simp only [DR, chV_str hc']⟩
theorem ji_zipA (hg : Gl X "zip") (hm : X.mg "zip" = none) (ha : JA T X W [e, e2] ia) (hs : starEach [e, e2] X.env = (false, eval e X.env) :: starEach [e2] X.env := by rfl) (hpl : (backTo pos (starEach [e2] X.env)).any (·.1) = false := by rfl) :
    JI T X W (.Tuple elts kk tpos) (.Call (.Name "zip" p) [e, e2] [] pos) (iZipA ia) := by
  refine PI.mono (PI.or (RZ.pi_zipA hg hm ha hs hpl) (pi_zipS hg hm ha hs hpl)) fun σ H R ⟨ρ, F, S, ι, G, em, sr, h⟩ => ?_
  unfold iZipA M.bind at h
  cases q : ia ρ S with
  | no => rw [q] at h; exact h.elim
  | ex c fs S1 => rw [q] at h; exact .inl ⟨ρ, F, S, ι, G, em, sr, by rw [q]; exact h⟩
  | ok xs S1 =>
    rw [q] at h
    dsimp only at h
    unfold lift at h
    unfold zipOfA at h
    split at h
    · rename_i zs hz
      split at hz
      · rename_i xs ys
        cases hz
        refine .inl ⟨ρ, F, S, ι, G, em, sr, ?_⟩
        rw [q]
        intro vs ι1 G1 H1 em1 x1 dr
        obtain ⟨v, w, rfl, r1, r2⟩ := dr.two
        simp only [DR] at r1 r2
        obtain ⟨a, us, rfl, ha, ra⟩ := r1
        obtain ⟨b, ws, rfl, hb, rb⟩ := r2
        exact ⟨a, b, us, ws, rfl, .inl ⟨SqL.of (em1.sub _ _ ha), SqL.of (em1.sub _ _ hb), h _ ι1 G1 H1 em1 x1 (walk_zipL ha hb ra rb)⟩⟩
      · rename_i xs ys
        cases hz
        refine .inl ⟨ρ, F, S, ι, G, em, sr, ?_⟩
        rw [q]
        intro vs ι1 G1 H1 em1 x1 dr
        obtain ⟨v, w, rfl, r1, r2⟩ := dr.two
        simp only [DR] at r1 r2
        obtain ⟨a, us, rfl, ha, ra⟩ := r1
        obtain ⟨b, ws, rfl, hb, rb⟩ := r2
        exact ⟨a, b, us, ws, rfl, .inr ⟨SqT.of (em1.sub _ _ ha), SqT.of (em1.sub _ _ hb), h _ ι1 G1 H1 em1 x1 (walk_zipT ha hb ra rb)⟩⟩
      · rename_i a b
        cases hz
        refine .inr ⟨ρ, F, S, ι, G, em, sr, ?_⟩
        rw [q]
        intro vs ι1 G1 H1 em1 x1 dr
        obtain ⟨v, w, rfl, r1, r2⟩ := dr.two
        simp only [DR] at r1 r2
        exact ⟨_, _, by rw [r1, r2], h _ ι1 G1 H1 em1 x1 walk_zipS⟩
      · cases hz
    · exact h.elim
theorem walk_enumL {K : PySem.W.Frag} {ι : List Addr} {G : Hp} {a : Addr} {xs : List D} {vs : List V} (ha : G a = some (.lst vs)) (r : DRs T K G ι xs vs) : Walk T K ι G (Ite K a) (enumF 0 xs) := by
  intro i F S ι1 G1 H1 em x
  have h1 : SqL K H1 a vs := SqL.of (em.sub _ _ (x.1 _ _ ha))
  refine ⟨fun d e => ?_, fun e => ⟨vs, h1, ?_⟩⟩
  · obtain ⟨dx, rfl, ex⟩ := enumF_get e
    obtain ⟨v, hv, dv⟩ := r.get ex
    refine ⟨⟨vs, v, h1, hv⟩, fun u H2 hy => ?_⟩
    obtain ⟨q, vx, rfl, hq, rfl, f1⟩ := hy
    have e1 := f1 vs h1
    rw [hv] at e1
    cases e1
    exact pair_dr em hq (by simp only [DR]; rw [Nat.zero_add]) (dv.mono x.1 x.2)
  · rw [e, enumF_len, r.length]
    exact Nat.le_refl _
theorem walk_enumT {K : PySem.W.Frag} {ι : List Addr} {G : Hp} {a : Addr} {xs : List D} {vs : List V} (ha : G a = some (.tup vs)) (r : DRs T K G ι xs vs) : Walk T K ι G (ItP (fun H2 => SqT K H2 a vs) vs.length intV (nthV vs)) (enumF 0 xs) := by
  refine walk_pairs (fun F S ι1 G1 H1 em ext => SqT.of (em.sub _ _ (ext.1 _ _ ha))) (by rw [enumF_len, r.length]) fun i d hd => ?_
  obtain ⟨x, rfl, hx⟩ := enumF_get hd
  obtain ⟨v, hv, dv⟩ := r.get hx
  have e : nthV vs i = v := by unfold nthV; rw [List.getD_eq_getElem?_getD, hv]; rfl
  exact ⟨_, _, rfl, by simp only [DR, intV]; simp, e ▸ dv⟩
theorem walk_enumS {K : PySem.W.Frag} {ι : List Addr} {G : Hp} {a : List Nat} : Walk T K ι G (ItP (fun _ => True) (⟨a.toArray⟩ : Str).cps.size intV (chV ⟨a.toArray⟩)) (enumF 0 (a.map fun c => .str [c])) := by
  refine walk_pairs (fun _ _ _ _ _ _ _ => trivial) (by rw [enumF_len]; simp) fun i d hd => ?_
  obtain ⟨x, rfl, hx⟩ := enumF_get hd
  obtain ⟨c, hc, rfl⟩ := chr_at hx
  exact ⟨_, _, rfl, by simp only [DR, intV]; simp, by simp only [DR, chV_str hc]⟩
theorem ji_enum (hg : Gl X "enumerate") (hm : X.mg "enumerate" = none) (ha : JA T X W [e] ia) (hs : starEach [e] X.env = [(false, eval e X.env)] := by rfl) : JI T X W (.Tuple elts kk tpos) (.Call (.Name "enumerate" p) [e] [] pos) (iEnumD ia) := by
  refine PI.mono (PI.or (pi_enum hg hm ha hs) (pi_enumA hg hm ha hs)) fun σ H R ⟨ρ, F, S, ι, G, em, sr, h⟩ => ?_
  unfold iEnumD M.bind at h
  cases q : ia ρ S with
  | no => rw [q] at h; exact h.elim
  | ex c fs S1 => rw [q] at h; exact .inl ⟨ρ, F, S, ι, G, em, sr, by rw [q]; exact h⟩
  | ok xs S1 =>
    rw [q] at h
    dsimp only at h
    unfold lift at h
    unfold enumOf at h
    split at h
    · rename_i zs hz
      split at hz
      · rename_i xs
        cases hz
        refine .inl ⟨ρ, F, S, ι, G, em, sr, ?_⟩
        rw [q]
        intro vs ι1 G1 H1 em1 x1 dr
        obtain ⟨v, rfl, r1⟩ := dr.one
        simp only [DR] at r1
        obtain ⟨a, us, rfl, ha, ra⟩ := r1
        exact ⟨a, us, rfl, SqL.of (em1.sub _ _ ha), h _ ι1 G1 H1 em1 x1 (walk_enumL ha ra)⟩
      · rename_i xs
        cases hz
        refine .inr ⟨ρ, F, S, ι, G, em, sr, ?_⟩
        rw [q]
        intro vs ι1 G1 H1 em1 x1 dr
        obtain ⟨v, rfl, r1⟩ := dr.one
        simp only [DR] at r1
        obtain ⟨a, us, rfl, ha, ra⟩ := r1
        exact .inl ⟨a, us, rfl, SqT.of (em1.sub _ _ ha), h _ ι1 G1 H1 em1 x1 (walk_enumT ha ra)⟩
      · rename_i a
        cases hz
        refine .inr ⟨ρ, F, S, ι, G, em, sr, ?_⟩
        rw [q]
        intro vs ι1 G1 H1 em1 x1 dr
        obtain ⟨v, rfl, r1⟩ := dr.one
        simp only [DR] at r1
        exact .inr ⟨_, by rw [r1], h _ ι1 G1 H1 em1 x1 walk_enumS⟩
      · cases hz
    · exact h.elim
end
end J

set_option Elab.async false
set_option linter.all false
set_option maxRecDepth 100000
set_option maxHeartbeats 1010000
/-! JO: dicts (int and text keys), comprehensions that make a thing of the store -/
namespace J
open PySem PySem.Spec L2 PyProof.Rows
def kyOf : D → Option Ky
  | .int i => some (.i i)
  | .str x => some (.s x)
  | _ => none
theorem kyK_inj {a b : Ky} (h : kyK a = kyK b) : a = b := by
  cases a <;> cases b <;> simp only [kyK] at h
  · cases h; rfl
  · cases h
  · cases h
  · have e := Sum.inr.inj h
    have e2 := str_inj.mp e
    rw [e2]
theorem kyOf_ok {T : Tab} {K : PySem.W.Frag} {G : Hp} {ι : List Addr} {d : D} {v : V} {k : Ky} (h : DR T K G ι d v) (e : kyOf d = some k) : v = kV (kyK k) := by
  cases d <;> simp only [kyOf] at e <;> first | cases e | skip
  all_goals (simp only [DR] at h; rw [h]; rfl)
def getKy (k : Ky) : List (Ky × D) → Option D
  | [] => none
  | (j, d) :: r => if j = k then some d else getKy k r
def putKy (k : Ky) (d : D) (kvs : List (Ky × D)) : List (Ky × D) :=
  if (kvs.any fun q => decide (q.1 = k)) = true then kvs.map (fun q => if q.1 = k then (q.1, d) else q) else kvs ++ [(k, d)]
section
variable {T : Tab} {K : PySem.W.Frag} {G : Hp} {ι : List Addr}
theorem getKy_ok {k : Ky} {d : D} : ∀ {kvs : List (Ky × D)} {vs : List (Key × V)}, KRs T K G ι kvs vs → getKy k kvs = some d → ∃ v, valV vs (kyK k) = some v ∧ DR T K G ι d v
  | [], _, _, e => by cases e
  | (j, x) :: r, _, ⟨v, w, rfl, dr, rr⟩, e => by
    unfold getKy at e
    split at e
    · rename_i h
      cases e
      exact ⟨v, valV_pos (by rw [h]), dr⟩
    · rename_i h
      obtain ⟨u, hu, du⟩ := getKy_ok rr e
      exact ⟨u, by rw [valV_neg (fun z => h (kyK_inj z))]; exact hu, du⟩
theorem KRs.any {k : Ky} : ∀ {kvs : List (Ky × D)} {vs : List (Key × V)}, KRs T K G ι kvs vs → (kvs.any fun q => decide (q.1 = k)) = vs.any fun q => decide (q.1 = kyK k)
  | [], _, h => by cases h; rfl
  | (j, x) :: r, _, ⟨v, w, rfl, dr, rr⟩ => by
    simp only [List.any_cons, KRs.any rr]
    congr 1
    by_cases h : j = k
    · simp [h]
    · have h2 : ¬ kyK j = kyK k := fun z => h (kyK_inj z)
      simp [h, h2]
theorem KRs.repl {k : Ky} {d : D} {v : V} (hd : DR T K G ι d v) : ∀ {kvs : List (Ky × D)} {vs : List (Key × V)}, KRs T K G ι kvs vs → KRs T K G ι (kvs.map (fun q => if q.1 = k then (q.1, d) else q)) (vs.map fun q => if q.1 = kyK k then (q.1, v) else q)
  | [], _, h => by cases h; rfl
  | (j, x) :: r, _, ⟨u, w, rfl, dr, rr⟩ => by
    simp only [List.map_cons]
    by_cases h : j = k
    · subst h
      simp only [if_true]
      exact ⟨v, _, rfl, hd, KRs.repl hd rr⟩
    · have h2 : ¬ kyK j = kyK k := fun z => h (kyK_inj z)
      simp only [h, h2, if_false]
      exact ⟨u, _, rfl, dr, KRs.repl hd rr⟩
theorem KRs.snoc {k : Ky} {d : D} {v : V} (hd : DR T K G ι d v) : ∀ {kvs : List (Ky × D)} {vs : List (Key × V)}, KRs T K G ι kvs vs → KRs T K G ι (kvs ++ [(k, d)]) (vs ++ [(kyK k, v)])
  | [], _, h => by cases h; exact ⟨v, [], rfl, hd, rfl⟩
  | (j, x) :: r, _, ⟨u, w, rfl, dr, rr⟩ => ⟨u, _, rfl, dr, KRs.snoc hd rr⟩
theorem KRs.put {k : Ky} {d : D} {v : V} (hd : DR T K G ι d v) {kvs : List (Ky × D)} {vs : List (Key × V)} (h : KRs T K G ι kvs vs) : KRs T K G ι (putKy k d kvs) (putK vs (kyK k) v) := by
  unfold putKy putK
  rw [KRs.any h]
  split
  · exact KRs.repl hd h
  · exact KRs.snoc hd h
theorem KRs.length : ∀ {kvs : List (Ky × D)} {vs : List (Key × V)}, KRs T K G ι kvs vs → kvs.length = vs.length
  | [], _, h => by cases h; rfl
  | (j, x) :: r, _, ⟨u, w, rfl, dr, rr⟩ => by simp [KRs.length rr]
theorem KRs.of_keyed : ∀ {ks : List Ky} {xs : List D} {vs : List V}, ks.length = vs.length → DRs T K G ι xs vs → KRs T K G ι (ks.zip xs) (keyed ks vs)
  | [], xs, vs, e, h => by
    cases vs with
    | nil => rfl
    | cons _ _ => cases e
  | k :: ks, xs, vs, e, h => by
    cases vs with
    | nil => cases e
    | cons v vs =>
      cases xs with
      | nil => simp only [DRs] at h; cases h
      | cons x xs =>
        simp only [DRs] at h
        obtain ⟨v', r, e1, q, k'⟩ := h
        cases e1
        exact ⟨v, _, rfl, q, KRs.of_keyed (by simpa using e) k'⟩
end
/-- a dict's entries -/
def dctOf : D → Store → Option (List (Ky × D))
  | .dct ks xs, _ => some (ks.zip xs)
  | .ref n, S => match S.get n with
    | some (.dct kvs) => some kvs
    | _ => none
  | _, _ => none
theorem dctOf_ok {T : Tab} {K : PySem.W.Frag} {F : Hp} {S : Store} {ι : List Addr} {G H : Hp} (em : Em T K F S ι G H) {x : D} {v : V} {kvs : List (Ky × D)} (h : DR T K G ι x v) (e : dctOf x S = some kvs) : ∃ a vs, v = .ref a ∧ H a = some (.dK vs) ∧ KRs T K G ι kvs vs := by
  cases x <;> simp only [dctOf] at e <;> first | cases e | skip
  · rename_i ks xs
    simp only [DR] at h
    obtain ⟨a, vs, rfl, hl, hg, dr⟩ := h
    exact ⟨a, _, rfl, em.sub _ _ hg, KRs.of_keyed hl dr⟩
  · rename_i n
    cases q : S.get n with
    | none => (rw [q] at e); exact nomatch e
    | some o =>
      rw [q] at e
      cases o <;> first | cases e | skip
      obtain ⟨a, u, rfl, _, hu, vs, rfl, r⟩ := obj_at em h q
      exact ⟨a, vs, rfl, hu, r⟩
/-- d[k] -/
def dgetD : Op2 := fun x y S => match dctOf x S, kyOf y with
  | some kvs, some k => getKy k kvs
  | _, _ => none
def dputD : OpSet := fun o i v S => match o, kyOf i with
  | .ref n, some k => (match S.get n with
    | some (.dct kvs) => if kvs.length < 100000 then some (S.set n (.dct (putKy k v kvs))) else none
    | _ => none)
  | _, _ => none
theorem dgetD_ok {T : Tab} {K : PySem.W.Frag} {F : Hp} {S : Store} {ι : List Addr} {G H : Hp} (em : Em T K F S ι G H) {x y d : D} {vx vy : V} (dx : DR T K G ι x vx) (dy : DR T K G ι y vy) (e : dgetD x y S = some d) : ∃ a v, vx = .ref a ∧ DGet H a vy (some v) ∧ DR T K G ι d v := by
  unfold dgetD at e
  split at e
  · rename_i kvs k h1 h2
    obtain ⟨a, vs, rfl, ha, kr⟩ := dctOf_ok em dx h1
    obtain ⟨v, hv, dv⟩ := getKy_ok kr e
    rw [kyOf_ok dy h2]
    exact ⟨a, v, rfl, by rw [← hv]; exact DGet.k ha, dv⟩
  · cases e
theorem dputD_ok {T : Tab} {K : PySem.W.Frag} {F : Hp} {S S' : Store} {ι : List Addr} {G H : Hp} (em : Em T K F S ι G H) {o i v : D} {vo vi vv : V} (d1 : DR T K G ι o vo) (d2 : DR T K G ι i vi) (d3 : DR T K G ι v vv) (e : dputD o i v S = some S') :
    ∃ a H', vo = .ref a ∧ DPut H a vi vv H' ∧ Em T K F S' ι G H' := by
  unfold dputD at e
  split at e
  · rename_i n k h2
    cases q : S.get n with
    | none => (rw [q] at e); exact nomatch e
    | some ob =>
      rw [q] at e
      cases ob <;> first | cases e | skip
      rename_i kvs
      dsimp only at e
      split at e
      · rename_i hl
        cases e
        obtain ⟨a, u, rfl, ha, hu, vs, rfl, r⟩ := obj_at em d1 q
        rw [kyOf_ok d2 h2]
        exact ⟨a, _, rfl, DPut.k hu (by rw [← r.length]; exact Nat.lt_of_lt_of_le hl (by decide)), em.set (by rw [q]; rfl) ha ⟨_, rfl, r.put d3⟩⟩
      · cases e
  · cases e
section
variable {T : Tab} {X : Cx} {W : WX} {o i e : Expr} {io ii ie : IE} {pos tpos pos' : Pos} {k : Nat}
theorem je_dget (hr : Rg k X.A) (ho : JE T X W o io) (hi : JE T X W i ii) (hs : NoSl i := by intro _ _; rfl) : JE T X W (.Subscript o i pos) (iOp dgetD io ii) := by
  refine PE.mono (pe_dget (by have := hr.r.un; omega) ho hi hs) fun σ H Q ⟨ρ, F, S, ι, G, em, sr, h⟩ => ?_
  refine ⟨ρ, F, S, ι, G, em, sr, Thn.bind (rel2 := DR T X.K) h fun x S1 vx ι1 G1 H1 em1 x1 dx h1 => ?_⟩
  refine ⟨ρ, F, S1, ι1, G1, em1, sr.mono x1, Thn.bind (rel2 := DR T X.K) h1 fun y S2 vy ι2 G2 H2 em2 x2 dy h2 => ?_⟩
  obtain ⟨d, e, h3⟩ := Thn.lift h2
  obtain ⟨a, v, rfl, g, dv⟩ := dgetD_ok em2 (dx.mono x2.1 x2.2) dy e
  exact ⟨a, v, rfl, g, h3.ok em2 dv⟩
theorem js_setD (hr : Rg k X.A) (he : JE T X W e ie) (ho : JE T X W o io) (hi : JE T X W i ii) (hs : swapsWith e (some (.Subscript o i pos')) pos.line X.env = pure false := by rfl) : JS T X W (.Assign [.Subscript o i pos'] e pos) (sSetI dputD ie io ii) := by
  refine PS.mono (ps_dput (by have := hr.r.un; omega) ho hi he hs) fun D σ H ⟨ρ, F, S, ι, G, em, sr, h⟩ => ⟨ρ, F, S, ι, G, em, sr, ThnS.bind (rel := DR T X.K) h sr fun v S1 vv ι1 G1 H1 em1 x1 d1 h1 => ?_⟩
  refine ⟨ρ, F, S1, ι1, G1, em1, sr.mono x1, ThnS.bind (rel := DR T X.K) h1 (sr.mono x1) fun ob S2 vo ι2 G2 H2 em2 x2 d2 h2 => ?_⟩
  refine ⟨ρ, F, S2, ι2, G2, em2, (sr.mono x1).mono x2, ThnS.bind (rel := DR T X.K) h2 ((sr.mono x1).mono x2) fun iv S3 vi ι3 G3 H3 em3 x3 d3 h3 => ?_⟩
  cases q : dputD ob iv v S3 with
  | none => rw [q] at h3; exact h3.elim
  | some S4 =>
    rw [q] at h3
    obtain ⟨a, H', rfl, g, em'⟩ := dputD_ok em3 (d2.mono x3.1 x3.2) d3 ((d1.mono x2.1 x2.2).mono x3.1 x3.2) q
    exact ⟨a, H', rfl, g, h3 _ _ _ _ em' (Ext.refl _ _) (((sr.mono x1).mono x2).mono x3)⟩
/-- d[k] op= v -/
def sDAugD (f : Op2) (io ii ie : IE) : IS := fun ρ => sBind (io ρ) ρ fun ob => sBind (ii ρ) ρ fun iv => fun S => match dgetD ob iv S with
  | some u => sBind (ie ρ) ρ (fun y => fun S2 => match f u y S2 with
    | some z => (match dputD ob iv z S2 with
      | some S3 => .ok (.nx ρ) S3
      | none => .no)
    | none => .no) S
  | none => .no
theorem js_daug {op : Operator} {rd : V → V → Hp → VK → Prop} {f : Op2} (hr : Rg k X.A) (ho : JE T X W o io) (hi : JE T X W i ii) (he : JE T X W e ie) (hop : InOp X op rd) (hf : OpS T X.K rd f)
    (ha : ∀ ov iv new, augStore i ov iv new = (do holding [new, ov, iv] (setItem ov iv new); release [new, ov, iv] []; pure .next) := by intros; rfl) : JS T X W (.AugAssign (.Subscript o i tpos) op e pos) (sDAugD f io ii ie) := by
  refine PS.mono (ps_daug (by have := hr.r.un; omega) ho hi he hop ha) fun D σ H ⟨ρ, F, S, ι, G, em, sr, h⟩ => ⟨ρ, F, S, ι, G, em, sr, ThnS.bind (rel := DR T X.K) h sr fun ob S1 vo ι1 G1 H1 em1 x1 d1 h1 => ?_⟩
  refine ⟨ρ, F, S1, ι1, G1, em1, sr.mono x1, ThnS.bind (rel := DR T X.K) h1 (sr.mono x1) fun iv S2 vi ι2 G2 H2 em2 x2 d2 h2 => ?_⟩
  cases q : dgetD ob iv S2 with
  | none => rw [q] at h2; exact h2.elim
  | some u =>
    rw [q] at h2
    obtain ⟨a, v, rfl, g, dv⟩ := dgetD_ok em2 (d1.mono x2.1 x2.2) d2 q
    refine ⟨a, v, rfl, g, ρ, F, S2, ι2, G2, em2, (sr.mono x1).mono x2, ThnS.bind (rel := DR T X.K) h2 ((sr.mono x1).mono x2) fun y S3 vy ι3 G3 H3 em3 x3 d3 h3 => ?_⟩
    cases q2 : f u y S3 with
    | none => simp only [q2] at h3; exact h3.elim
    | some z =>
      simp only [q2] at h3
      refine hf F S3 ι3 G3 H3 u y z v vy _ em3 (dv.mono x3.1 x3.2) d3 q2 fun zv G4 H4 em4 x4 dz => ?_
      cases q3 : dputD ob iv z S3 with
      | none => simp only [q3] at h3; exact h3.elim
      | some S4 =>
        simp only [q3] at h3
        obtain ⟨a', H', e', g', em'⟩ := dputD_ok em4 (((d1.mono x2.1 x2.2).mono x3.1 x3.2).mono x4.1 x4.2) ((d2.mono x3.1 x3.2).mono x4.1 x4.2) dz q3
        cases e'
        exact ⟨H', g', h3 _ _ _ _ em' x4 ((((sr.mono x1).mono x2).mono x3).mono x4)⟩
theorem sub_rd {T : Tab} {K : PySem.W.Frag} : OpS T K rSub subI := subI_ok
theorem add_rd {T : Tab} {K : PySem.W.Frag} : OpS T K rAdd addI := addI_ok
end
/-! ### comprehensions that lay a thing of the store -/
/-- one step of the walk at ρ1 -/
def cmL (g : NG) (t : IT) (st : Rho → M Unit) (ρ : Rho) : List D → M Unit
  | [] => M.ret ()
  | x :: xs => fun S => match ngD g x ρ with
    | some ρ1 => M.bind (nox (t ρ1)) (fun c => if c = true then M.bind (st ρ1) fun _ => cmL g t st ρ xs else cmL g t st ρ xs) S
    | none => .no
def appS (ie : IE) (n : Nat) : Rho → M Unit := fun ρ => M.bind (nox (ie ρ)) fun d => fun S => match S.get n with
  | some (.lst ys) => if ys.length < 100000 then .ok () (S.set n (.lst (ys ++ [d]))) else .no
  | _ => .no
def putS (ik iv : IE) (n : Nat) : Rho → M Unit := fun ρ => M.bind (nox (ik ρ)) fun k => M.bind (nox (iv ρ)) fun d => fun S => match S.get n, kyOf k with
  | some (.dct kvs), some y => if kvs.length < 100000 then .ok () (S.set n (.dct (putKy y d kvs))) else .no
  | _, _ => .no
def madeAt (m : M Unit) (n : Nat) : M D := fun S => match m S with
  | .ok _ S' => .ok (.ref n) S'
  | _ => .no
def iLcM (src : IA) (g : NG) (t : IT) (ie : IE) (vs : List Nat) : IE := fun ρ => M.bind (src ρ) fun xs => fun S => madeAt (cmL g t (appS ie S.next) (wipeR ρ vs) xs) S.next (S.alloc (.lst []))
def iDc (src : IA) (g : NG) (t : IT) (ik iv : IE) (vs : List Nat) : IE := fun ρ => M.bind (src ρ) fun xs => fun S => madeAt (cmL g t (putS ik iv S.next) (wipeR ρ vs) xs) S.next (S.alloc (.dct []))
theorem madeAt_cons {g : NG} {t : IT} {st : Rho → M Unit} {ρ ρ1 : Rho} {x : D} {xs : List D} {n : Nat} (q : ngD g x ρ = some ρ1) :
    madeAt (cmL g t st ρ (x :: xs)) n = M.bind (nox (t ρ1)) (fun c => if c = true then madeAt (M.bind (st ρ1) fun _ => cmL g t st ρ xs) n else madeAt (cmL g t st ρ xs) n) := by
  funext S
  have e : cmL g t st ρ (x :: xs) S = M.bind (nox (t ρ1)) (fun c => if c = true then M.bind (st ρ1) fun _ => cmL g t st ρ xs else cmL g t st ρ xs) S := by
    conv => lhs; unfold cmL
    rw [q]
  unfold madeAt
  rw [e]
  generalize cmL g t st ρ xs = r
  unfold M.bind nox
  cases t ρ1 S with
  | ok c S' => cases c <;> rfl
  | ex _ _ _ => rfl
  | no => rfl
theorem madeAt_bind {α : Type} {m : M α} {k : α → M Unit} {n : Nat} : madeAt (M.bind (nox m) k) n = M.bind (nox m) fun a => madeAt (k a) n := by
  funext S
  unfold madeAt M.bind nox
  cases m S <;> rfl
theorem bind_bind {α β : Type} {m : M α} {k : α → M β} {l : M Unit} : M.bind (M.bind (nox m) k) (fun _ => l) = M.bind (nox m) fun a => M.bind (k a) fun _ => l := by
  funext S
  unfold M.bind nox
  cases m S <;> rfl
section
variable {T : Tab} {X : Cx} {W : WX} {elt kx vx tg iter : Expr} {ifs : List Expr} {scope : Scope} {own : List (Str × Nat)} {pos spos : Pos} {src : IA} {g : NG} {t : IT} {ie ik iv : IE}
theorem lcM_go {vs : List Nat} (hv : ∀ i ∈ g.slots, i ∈ vs) {σ : L2.St} {H : Hp} {Q : VK} (h : tE T X.K W (iLcM src g t ie vs) σ H Q) : tLc (tI T X.K W src) (ngV X.K g) (tT T X.K W0 t) (tE T X.K W0 ie) vs σ H Q := by
  obtain ⟨ρ, F, S, ι, G, em, sr, h⟩ := h
  refine ⟨ρ, F, S, ι, G, em, sr, ?_⟩
  unfold iLcM M.bind at h
  cases q : src ρ S with
  | no => rw [q] at h; exact h.elim
  | ex c fs S1 => rw [q] at h; exact h
  | ok xs S1 =>
    rw [q] at h
    dsimp only at h
    intro J ι1 G1 H1 em1 x1 wk Dl hD
    obtain ⟨em0, x0, hn⟩ := em1.alloc (o := .lst []) (u := .lst []) hD ⟨[], rfl, DRs.nil⟩
    have h1 := Thn.ext h (x1.trans x0)
    refine ⟨fun i m H => i + m = xs.length ∧ ∃ S ι' G', Em T X.K F S ι' G' H ∧ Ext G1 (ι1 ++ [Dl]) G' ι' ∧ Thn T X.K F W σ G' ι' (DR T X.K) (madeAt (cmL g t (appS ie S1.next) (wipeR ρ vs) (xs.drop i)) S1.next S) Q,
      ⟨xs.length, by simp, _, _, G1, em0, Ext.refl _ _, h1⟩, ?_⟩
    rintro i m H ⟨him, S, ι', G', em', x', h'⟩
    obtain ⟨wg, ws⟩ := wk i _ S ι' G' H em' (x0.trans x')
    have hn' := x'.2 _ _ hn
    by_cases hl : i = xs.length
    · left
      refine ⟨ws hl, ?_⟩
      rw [hl, List.drop_length] at h'
      exact h' _ _ _ _ em' (Ext.refl _ _) (by simp only [DR]; exact ⟨Dl, hn', rfl⟩)
    · right
      have hlt : i < List.length xs := by omega
      obtain ⟨wgo, wy⟩ := wg xs[i] (List.getElem?_eq_getElem hlt)
      refine ⟨wgo, fun H => ∃ S ι' G', Em T X.K F S ι' G' H ∧ Ext G1 (ι1 ++ [Dl]) G' ι' ∧ Thn T X.K F W σ G' ι' (DR T X.K) (madeAt (cmL g t (appS ie S1.next) (wipeR ρ vs) (xs.drop (i + 1))) S1.next S) Q, fun H' hN => ⟨m - 1, by omega, by omega, hN⟩, fun v H2 hy => ?_⟩
      obtain ⟨G2, em2, x2, dr⟩ := wy v H2 hy
      rw [List.drop_eq_getElem_cons hlt] at h'
      have h2 := Thn.ext h' x2
      have sr2 : SR T X.K G2 ι' (wipeR ρ vs) (L2.wipe σ vs) := (((sr.mono (x1.trans x0)).mono x').mono x2).wipe vs
      cases qg : ngD g xs[i] (wipeR ρ vs) with
      | none =>
        unfold madeAt cmL at h2
        simp only [qg] at h2
        exact h2.elim
      | some ρ1 =>
        rw [madeAt_cons qg] at h2
        refine ng_ok em2 sr2 dr qg fun σ2 sr3 hw => ⟨(hw vs hv).trans (wipe_idem σ vs), ?_⟩
        refine ⟨ρ1, _, S, ι', G2, em2, sr3, Thn.nox (rel2 := fun _ _ (a b : Bool) => a = b) h2 fun c S3 cv ι3 G3 H3 em3 x3 dc h3 => ?_⟩
        subst dc
        cases c with
        | false => exact iteF ⟨S3, ι3, G3, em3, (x'.trans x2).trans x3, h3⟩
        | true =>
          have h3' : Thn T X.K F W σ G3 ι3 (DR T X.K) (M.bind (nox (ie ρ1)) (fun d => madeAt (M.bind (fun S => match S.get S1.next with
            | some (.lst ys) => if ys.length < 100000 then .ok () (S.set S1.next (.lst (ys ++ [d]))) else .no
            | _ => .no) fun _ => cmL g t (appS ie S1.next) (wipeR ρ vs) (xs.drop (i + 1))) S1.next) S3) Q := by
            rw [← madeAt_bind, ← bind_bind]
            exact h3
          refine iteT ⟨ρ1, _, S3, ι3, G3, em3, sr3.mono x3, Thn.nox (rel2 := DR T X.K) h3' fun d S4 dv ι4 G4 H4 em4 x4 dd h4 => ?_⟩
          unfold madeAt M.bind at h4
          cases qs : S4.get S1.next with
          | none => simp only [qs] at h4; exact h4.elim
          | some o =>
            simp only [qs] at h4
            cases o with
            | lst ys =>
              dsimp only at h4
              by_cases hy : ys.length < 100000
              case neg => rw [if_neg hy] at h4; exact h4.elim
              rw [if_pos hy] at h4
              have hn4 := x4.2 _ _ (x3.2 _ _ (x2.2 _ _ hn'))
              obtain ⟨a', u, ea, ha', hu, us, rfl, hr⟩ := obj_at em4 (v := .ref Dl) (by simp only [DR]; exact ⟨Dl, hn4, rfl⟩) qs
              cases ea
              refine ⟨us, hu, by rw [← hr.length]; exact Nat.lt_of_lt_of_le hy (by decide), _, ι4, G4, em4.set (o := .lst (ys ++ [d])) (by rw [qs]; rfl) hn4 ⟨_, rfl, hr.append (DRs.cons dd DRs.nil)⟩, ((x'.trans x2).trans x3).trans x4, ?_⟩
              exact h4
            | _ => exact h4.elim
theorem je_lcM (hc : X.calm = true) (hN : X.N.Nodup) (hi : JI T X W tg iter src) (ok : BlkOk X.N X.env.scope scope own)
    (hg : ∀ (s : Shared) (H : Hp) (C : Addr) (cl : List (Str × Addr)) (fp : List Addr), PG (X.blk s H scope (compEnvC scope cl C X.env) fp) tg (ngV X.K g)) (ht : ∀ (s : Shared) (H : Hp) (C : Addr) (cl : List (Str × Addr)) (fp : List Addr), PTs (X.blk s H scope (compEnvC scope cl C X.env) fp) ifs (tT T X.K W0 t))
    (he : ∀ (s : Shared) (H : Hp) (C : Addr) (cl : List (Str × Addr)) (fp : List Addr), JE T (X.blk s H scope (compEnvC scope cl C X.env) fp) W0 elt ie) (hv : ∀ i ∈ g.slots, i ∈ own.map (·.2) := by decide) (hs : ∀ x, foldedSetIterable iter X.env x = pure x := by intro _; rfl) :
    JE T X W (.ListComp elt [⟨tg, iter, ifs, 0⟩] scope pos) (iLcM src g t ie (own.map (·.2))) :=
  PE.mono (pe_lc hc hN hi ok hg ht he hs) fun σ H Q h => lcM_go hv h
theorem js_setLcM {i : Nat} {y : Str} {py : Pos} (hc : X.calm = true) (hN : X.N.Nodup) (hy : X.N[i]? = some y) (hyl : X.env.scope.names.lookup y = some .local)
    (hsw : swapsWith (.ListComp elt [⟨tg, iter, ifs, 0⟩] scope pos) (some (.Name y py)) spos.line X.env = pure true) (hi : JI T X W tg iter src) (ok : BlkOk X.N X.env.scope scope own)
    (hg : ∀ (s : Shared) (H : Hp) (C : Addr) (cl : List (Str × Addr)) (fp : List Addr), PG (X.blk s H scope (compEnvC scope cl C X.env) fp) tg (ngV X.K g)) (ht : ∀ (s : Shared) (H : Hp) (C : Addr) (cl : List (Str × Addr)) (fp : List Addr), PTs (X.blk s H scope (compEnvC scope cl C X.env) fp) ifs (tT T X.K W0 t))
    (he : ∀ (s : Shared) (H : Hp) (C : Addr) (cl : List (Str × Addr)) (fp : List Addr), JE T (X.blk s H scope (compEnvC scope cl C X.env) fp) W0 elt ie) (hv : ∀ i ∈ g.slots, i ∈ own.map (·.2) := by decide) (hs : ∀ x, foldedSetIterable iter X.env x = pure x := by intro _; rfl) :
    JS T X W (.Assign [.Name y py] (.ListComp elt [⟨tg, iter, ifs, 0⟩] scope pos) spos) (sAsg i (iLcM src g t ie (own.map (·.2)))) :=
  PS.mono (ps_setLc hc hN hy hyl hsw hi ok hg ht he hs) fun D σ H ⟨ρ, F, S, ι, G, em, sr, h⟩ =>
    lcM_go (T := T) (X := X) (W := W) hv ⟨ρ, F, S, ι, G, em, sr, ThnS.bind (rel := DR T X.K) h sr fun a S1 v ι1 G1 H1 em1 x1 r h1 => h1.nx em1 ((sr.mono x1).set r i)⟩
theorem dc_go {vs : List Nat} (hv : ∀ i ∈ g.slots, i ∈ vs) {σ : L2.St} {H : Hp} {Q : VK} (h : tE T X.K W (iDc src g t ik iv vs) σ H Q) : tDc (tI T X.K W src) (ngV X.K g) (tT T X.K W0 t) (tE T X.K W0 ik) (tE T X.K W0 iv) vs σ H Q := by
  obtain ⟨ρ, F, S, ι, G, em, sr, h⟩ := h
  refine ⟨ρ, F, S, ι, G, em, sr, ?_⟩
  unfold iDc M.bind at h
  cases q : src ρ S with
  | no => rw [q] at h; exact h.elim
  | ex c fs S1 => rw [q] at h; exact h
  | ok xs S1 =>
    rw [q] at h
    dsimp only at h
    intro J ι1 G1 H1 em1 x1 wk Dl hD
    obtain ⟨em0, x0, hn⟩ := em1.alloc (o := .dct []) (u := .dK []) hD ⟨[], rfl, rfl⟩
    have h1 := Thn.ext h (x1.trans x0)
    refine ⟨fun i m H => i + m = xs.length ∧ ∃ S ι' G', Em T X.K F S ι' G' H ∧ Ext G1 (ι1 ++ [Dl]) G' ι' ∧ Thn T X.K F W σ G' ι' (DR T X.K) (madeAt (cmL g t (putS ik iv S1.next) (wipeR ρ vs) (xs.drop i)) S1.next S) Q,
      ⟨xs.length, by simp, _, _, G1, em0, Ext.refl _ _, h1⟩, ?_⟩
    rintro i m H ⟨him, S, ι', G', em', x', h'⟩
    obtain ⟨wg, ws⟩ := wk i _ S ι' G' H em' (x0.trans x')
    have hn' := x'.2 _ _ hn
    by_cases hl : i = xs.length
    · left
      refine ⟨ws hl, ?_⟩
      rw [hl, List.drop_length] at h'
      exact h' _ _ _ _ em' (Ext.refl _ _) (by simp only [DR]; exact ⟨Dl, hn', rfl⟩)
    · right
      have hlt : i < List.length xs := by omega
      obtain ⟨wgo, wy⟩ := wg xs[i] (List.getElem?_eq_getElem hlt)
      refine ⟨wgo, fun H => ∃ S ι' G', Em T X.K F S ι' G' H ∧ Ext G1 (ι1 ++ [Dl]) G' ι' ∧ Thn T X.K F W σ G' ι' (DR T X.K) (madeAt (cmL g t (putS ik iv S1.next) (wipeR ρ vs) (xs.drop (i + 1))) S1.next S) Q, fun H' hN => ⟨m - 1, by omega, by omega, hN⟩, fun v H2 hy => ?_⟩
      obtain ⟨G2, em2, x2, dr⟩ := wy v H2 hy
      rw [List.drop_eq_getElem_cons hlt] at h'
      have h2 := Thn.ext h' x2
      have sr2 : SR T X.K G2 ι' (wipeR ρ vs) (L2.wipe σ vs) := (((sr.mono (x1.trans x0)).mono x').mono x2).wipe vs
      cases qg : ngD g xs[i] (wipeR ρ vs) with
      | none =>
        unfold madeAt cmL at h2
        simp only [qg] at h2
        exact h2.elim
      | some ρ1 =>
        rw [madeAt_cons qg] at h2
        refine ng_ok em2 sr2 dr qg fun σ2 sr3 hw => ⟨(hw vs hv).trans (wipe_idem σ vs), ?_⟩
        refine ⟨ρ1, _, S, ι', G2, em2, sr3, Thn.nox (rel2 := fun _ _ (a b : Bool) => a = b) h2 fun c S3 cv ι3 G3 H3 em3 x3 dc h3 => ?_⟩
        subst dc
        cases c with
        | false => exact iteF ⟨S3, ι3, G3, em3, (x'.trans x2).trans x3, h3⟩
        | true =>
          have h3' : Thn T X.K F W σ G3 ι3 (DR T X.K) (M.bind (nox (ik ρ1)) (fun k => M.bind (nox (iv ρ1)) (fun d => madeAt (M.bind (fun S => match S.get S1.next, kyOf k with
            | some (.dct kvs), some y => if kvs.length < 100000 then .ok () (S.set S1.next (.dct (putKy y d kvs))) else .no
            | _, _ => .no) fun _ => cmL g t (putS ik iv S1.next) (wipeR ρ vs) (xs.drop (i + 1))) S1.next)) S3) Q := by
            have e : ∀ k, M.bind (nox (iv ρ1)) (fun d => madeAt (M.bind (fun S => match S.get S1.next, kyOf k with
              | some (.dct kvs), some y => if kvs.length < 100000 then .ok () (S.set S1.next (.dct (putKy y d kvs))) else .no
              | _, _ => .no) fun _ => cmL g t (putS ik iv S1.next) (wipeR ρ vs) (xs.drop (i + 1))) S1.next) = madeAt (M.bind (M.bind (nox (iv ρ1)) fun d => (fun S => match S.get S1.next, kyOf k with
              | some (.dct kvs), some y => if kvs.length < 100000 then .ok () (S.set S1.next (.dct (putKy y d kvs))) else .no
              | _, _ => .no)) fun _ => cmL g t (putS ik iv S1.next) (wipeR ρ vs) (xs.drop (i + 1))) S1.next := fun k => by rw [bind_bind, madeAt_bind]
            simp only [e]
            rw [← madeAt_bind, ← bind_bind]
            exact h3
          refine iteT ⟨ρ1, _, S3, ι3, G3, em3, sr3.mono x3, Thn.nox (rel2 := DR T X.K) h3' fun k S4 kv ι4 G4 H4 em4 x4 dk h4 => ?_⟩
          refine ⟨ρ1, _, S4, ι4, G4, em4, (sr3.mono x3).mono x4, Thn.nox (rel2 := DR T X.K) h4 fun d S5 dv ι5 G5 H5 em5 x5 dd h5 => ?_⟩
          unfold madeAt M.bind at h5
          cases qs : S5.get S1.next with
          | none => simp only [qs] at h5; exact h5.elim
          | some o =>
            cases qk : kyOf k with
            | none => cases o <;> (simp only [qs, qk] at h5; exact h5.elim)
            | some y =>
              cases o with
              | dct kvs =>
                simp only [qs, qk] at h5
                by_cases hy : kvs.length < 100000
                case neg => rw [if_neg hy] at h5; exact h5.elim
                rw [if_pos hy] at h5
                have hn5 := x5.2 _ _ (x4.2 _ _ (x3.2 _ _ (x2.2 _ _ hn')))
                obtain ⟨a', u, ea, ha', hu, us, rfl, hr⟩ := obj_at em5 (v := .ref Dl) (by simp only [DR]; exact ⟨Dl, hn5, rfl⟩) qs
                cases ea
                refine ⟨us, kyK y, kyOf_ok (dk.mono x5.1 x5.2) qk, hu, by rw [← hr.length]; exact Nat.lt_of_lt_of_le hy (by decide), _, ι5, G5, em5.set (o := .dct (putKy y d kvs)) (by rw [qs]; rfl) hn5 ⟨_, rfl, hr.put dd⟩, (((x'.trans x2).trans x3).trans x4).trans x5, ?_⟩
                exact h5
              | _ => simp only [qs, qk] at h5; exact h5.elim
theorem je_dc (hc : X.calm = true) (hN : X.N.Nodup) (hi : JI T X W tg iter src) (ok : BlkOk X.N X.env.scope scope own)
    (hg : ∀ (s : Shared) (H : Hp) (C : Addr) (cl : List (Str × Addr)) (fp : List Addr), PG (X.blk s H scope (compEnvC scope cl C X.env) fp) tg (ngV X.K g)) (ht : ∀ (s : Shared) (H : Hp) (C : Addr) (cl : List (Str × Addr)) (fp : List Addr), PTs (X.blk s H scope (compEnvC scope cl C X.env) fp) ifs (tT T X.K W0 t))
    (hk : ∀ (s : Shared) (H : Hp) (C : Addr) (cl : List (Str × Addr)) (fp : List Addr), JE T (X.blk s H scope (compEnvC scope cl C X.env) fp) W0 kx ik)
    (he : ∀ (s : Shared) (H : Hp) (C : Addr) (cl : List (Str × Addr)) (fp : List Addr), JE T (X.blk s H scope (compEnvC scope cl C X.env) fp) W0 vx iv) (hv : ∀ i ∈ g.slots, i ∈ own.map (·.2) := by decide) (hs : ∀ x, foldedSetIterable iter X.env x = pure x := by intro _; rfl) :
    JE T X W (.DictComp kx vx [⟨tg, iter, ifs, 0⟩] scope pos) (iDc src g t ik iv (own.map (·.2))) :=
  PE.mono (pe_dc hc hN hi ok hg ht hk he hs) fun σ H Q h => dc_go hv h
theorem sw_trueD {k1 v1 : Expr} {gs : List Comprehension} {scope : Scope} {pos py : Pos} {y : Str} {l : Nat} {env : Env} (fun_ : env.scope.kind = .function) (loc : env.scope.names.lookup y = some .local) (same : (py.line == pos.line) = true)
    (apart : (scope.names.any fun (n, k) => n == y && (k == .local || k == .cell)) = false) : swapsWith (.DictComp k1 v1 gs scope pos) (some (.Name y py)) l env = pure true := by
  have isFun : env.blockKind = .function := by simp only [Env.blockKind, fun_]; rfl
  have isLoc : env.kindOf y = some .local := loc
  simp only [swapsWith, isFun, isLoc, same, apart, Expr.pos]
  rfl
/-- the inner parts of a comprehension, in every block that it may run in -/
abbrev InBlk (X : Cx) (scope : Scope) (P : Cx → Prop) : Prop := ∀ (s : Shared) (H : Hp) (C : Addr) (cl : List (Str × Addr)) (fp : List Addr), P (X.blk s H scope (compEnvC scope cl C X.env) fp)
theorem ps_setDc {i : Nat} {y : Str} {py : Pos} {wi : TI} {g : TG} {tt : TT} {tk tv : TE} (hc : X.calm = true) (hN : X.N.Nodup) (hy : X.N[i]? = some y) (loc : X.env.scope.names.lookup y = some .local)
    (sw : swapsWith (.DictComp kx vx [⟨tg, iter, ifs, 0⟩] scope pos) (some (.Name y py)) spos.line X.env = pure true) (hi : PI X tg iter wi) (ok : BlkOk X.N X.env.scope scope own) (bt : InBlk X scope fun B => PG B tg g) (bi : InBlk X scope fun B => PTs B ifs tt)
    (bk : InBlk X scope fun B => PE B kx tk) (bv : InBlk X scope fun B => PE B vx tv) (fo : ∀ x, foldedSetIterable iter X.env x = pure x) : PS X (.Assign [.Name y py] (.DictComp kx vx [⟨tg, iter, ifs, 0⟩] scope pos) spos) (tAsg (tDc wi g tt tk tv (own.map (·.2))) (gName i)) := by
  constructor
  intro pins s σ H D inv want
  rw [exec_Assign_Name_used (hs := sw)]
  have main : wpAny (model X.prog X.w) X.A (comprehension (.DictComp kx vx [⟨tg, iter, ifs, 0⟩] scope pos) scope X.env (firstIterPos [⟨tg, iter, ifs, 0⟩] pos) newDict false (eval iter X.env) (some (assign (.Name y py) X.env))) (fun _ s' => SP X pins D .next s') X.xe s := by
    refine dc_core hc hN inv hi ok bt bi bk bv fo (Q := fun x H1 => gName i x σ H1 D.nx) want fun d blk s1 m H1 inv1 q ns fpb => ?_
    have away : ∀ a, (a = X.env.locals ∨ X.env.cells.lookup y = some a) → blk ≠ a := by
      rintro a (rfl | z)
      · exact fpb.2.1
      · exact fun e => fpb.2.2.2.2.1 y a z e.symm
    refine wpAny_assign_Name (store_ok2 (v := V.ref d) inv1 hN hy (.inl loc) rfl ?_ (.inr loc))
    rintro s2 inv2 ⟨a, but, wh⟩
    refine ⟨m, ns.sameBut but (away a wh), fun h3 but3 => ⟨_, H1, Inv.turned (t' := s2.toks) inv2 (fun b o hb e => (but3.2 b hb).trans e) fpb.1 fpb.2.1 fpb.2.2.2.1 fpb.2.2.2.2.1 fpb.2.2.2.2.2, q⟩⟩
  exact wpAny_bind (wpAny_standAt (wpAny_bind (wpAny_bind (thn main fun _ s' hs => wpAny_pure (wpAny_pure hs)))))
theorem js_setDc {i : Nat} {y : Str} {py : Pos} (hc : X.calm = true) (hN : X.N.Nodup) (hy : X.N[i]? = some y) (hyl : X.env.scope.names.lookup y = some .local)
    (hsw : swapsWith (.DictComp kx vx [⟨tg, iter, ifs, 0⟩] scope pos) (some (.Name y py)) spos.line X.env = pure true) (hi : JI T X W tg iter src) (ok : BlkOk X.N X.env.scope scope own)
    (hg : ∀ (s : Shared) (H : Hp) (C : Addr) (cl : List (Str × Addr)) (fp : List Addr), PG (X.blk s H scope (compEnvC scope cl C X.env) fp) tg (ngV X.K g)) (ht : ∀ (s : Shared) (H : Hp) (C : Addr) (cl : List (Str × Addr)) (fp : List Addr), PTs (X.blk s H scope (compEnvC scope cl C X.env) fp) ifs (tT T X.K W0 t))
    (hk : ∀ (s : Shared) (H : Hp) (C : Addr) (cl : List (Str × Addr)) (fp : List Addr), JE T (X.blk s H scope (compEnvC scope cl C X.env) fp) W0 kx ik)
    (he : ∀ (s : Shared) (H : Hp) (C : Addr) (cl : List (Str × Addr)) (fp : List Addr), JE T (X.blk s H scope (compEnvC scope cl C X.env) fp) W0 vx iv) (hv : ∀ i ∈ g.slots, i ∈ own.map (·.2) := by decide) (hs : ∀ x, foldedSetIterable iter X.env x = pure x := by intro _; rfl) :
    JS T X W (.Assign [.Name y py] (.DictComp kx vx [⟨tg, iter, ifs, 0⟩] scope pos) spos) (sAsg i (iDc src g t ik iv (own.map (·.2)))) :=
  PS.mono (ps_setDc hc hN hy hyl hsw hi ok hg ht hk he hs) fun D σ H ⟨ρ, F, S, ι, G, em, sr, h⟩ =>
    dc_go (T := T) (X := X) (W := W) hv ⟨ρ, F, S, ι, G, em, sr, ThnS.bind (rel := DR T X.K) h sr fun a S1 v ι1 G1 H1 em1 x1 r h1 => h1.nx em1 ((sr.mono x1).set r i)⟩
end
end J

set_option Elab.async false
set_option linter.all false
set_option maxRecDepth 100000
set_option maxHeartbeats 1010000
/-! JP: star arguments, defs with *args, methods by keyword, tuple(..), list(..), max and min of a list -/
namespace J
open PySem PySem.Spec L2 PyProof.Rows
def iStar (ie : IE) (ir : IA) : IA := fun ρ => M.bind (ie ρ) fun x => M.bind (fun S => lift (seqA x S) S) fun xs => M.bind (ir ρ) fun ys => M.ret (xs ++ ys)
theorem ja_star {T : Tab} {X : Cx} {W : WX} {e : Expr} {es : List Expr} {ie : IE} {ir : IA} {p : Pos} (he : JE T X W e ie) (hr : JA T X W es ir) (hs : starEach (.Starred e p :: es) X.env = (true, eval e X.env) :: starEach es X.env := by rfl) : JA T X W (.Starred e p :: es) (iStar ie ir) := by
  refine PA.mono (StX.pa_star he hr hs) fun σ H Q ⟨ρ, F, S, ι, G, em, sr, h⟩ => ?_
  refine ⟨ρ, F, S, ι, G, em, sr, Thn.bind (rel2 := DR T X.K) h fun x S1 vx ι1 G1 H1 em1 x1 dx h1 => ?_⟩
  rw [bind_lift] at h1
  cases q : seqA x S1 with
  | none => rw [q] at h1; exact h1.elim
  | some xs =>
    rw [q] at h1
    obtain ⟨a, vs, rfl, hs, dr⟩ := seqA_ok em1 dx q
    refine ⟨a, vs, rfl, hs.symm, ρ, F, S1, ι1, G1, em1, sr.mono x1, Thn.bind (rel2 := DRs T X.K) h1 fun ys S2 vy ι2 G2 H2 em2 x2 dy h2 => ?_⟩
    exact Thn.ok h2 em2 ((dr.mono x2.1 x2.2).append dy)
/-! ### defs with *args -/
structure FnV (P : Program) (w : World) (K : PySem.W.Frag) (mg : Str → Option Value) (base : Heap) (k : Nat) (f : Addr) (sp : Sp) : Prop where
  run : ∀ (A : Around) (fr : List Env) (s : Shared) (H : Hp) (us : List Value) (vs : List V) (Q : VK) (E : XK), Room k A → A.guards = some [] →
    Env0 P w K mg base A fr s H → Vals vs us → sp vs H Q E → codeAny (model P w) A (.call (.ref f) ⟨us, []⟩) (CR (L2.CX P w) fr P w H s Q E) s
/-- the arguments as they are bound: n by name, the rest in a tuple -/
def packV (n : Nat) (ds : List D) : List D := ds.take n ++ [.tup (ds.drop n)]
def spV (T : Tab) (K : PySem.W.Frag) (n : Nat) (f : List D → M D) : Sp := fun vs H Q E => ∃ ds F S ι G, Em T K F S ι G H ∧ DRs T K G ι ds vs ∧ n ≤ ds.length ∧ ds.length ≤ 100000 ∧ Thn T K F (fun c d _ H => E c d H) [] G ι (DR T K) (f (packV n ds) S) Q
section
variable {P : Program} {w : World} {T : Tab} {K : PySem.W.Frag} {mg : Str → Option Value} {base : Heap} {x qual : Str} {params : Arguments} {body : List Stmt} {scope : Scope} {dvs : List V} {kws : List (Str × V)} {f : Addr} {fd : FuncData}
theorem fnv_j {N ps : List Str} {pv : Str} {k : Nat} {is : IS} (keep : Bool) (F : FunD K x qual params body scope [] kws f fd) (S : FnScope N (ps ++ [pv]) scope)
    (hb : ∀ (kV doc pm : Value) (an : Option Addr) (cdv ct : Value) (us rest : List Value), us.length = ps.length → bindArgs (PySem.W.fnOf x qual params body scope .none kV doc pm an cdv ct) ⟨us ++ rest, []⟩ = (newTuple rest >>= fun t => pure (ps.zip us ++ [(pv, t)])))
    (hbody : ∀ (cdv : Value) (A : Around) (fr : List Env) (s : Shared) (H : Hp) (E : XK), Room k (A.deeper (envOfC qual scope s.heap.objs.size f cdv)) → A.guards = some [] →
      JSs T (cxOf (L2.CX P w) P w K mg base N qual scope f cdv A fr s H E) (fun c d _ H => E c d H) body is) : FnV P w K mg base (k + 1) f (spV T K ps.length (defJ N.length keep is)) := by
  obtain ⟨oc, od, dV, kV, doc, pm, an, cdv, ct, osl, rfl, lk, hcd, hD, _⟩ := F.ex
  obtain rfl : dV = .none := by
    rcases hD with ⟨_, h⟩ | ⟨e, _⟩
    · exact h
    · exact absurd rfl e
  constructor
  intro A fr s H us vs Q E room gd en rel want
  obtain ⟨ds, Fr, S0, ι, G, em, dr, hn, hz, h⟩ := want
  have hlv : ds.length = vs.length := dr.length
  have hlu : vs.length = us.length := rel.length
  have es : us = us.take ps.length ++ us.drop ps.length := (List.take_append_drop _ _).symm
  have ev : vs = vs.take ps.length ++ vs.drop ps.length := (List.take_append_drop _ _).symm
  have hl1 : (us.take ps.length).length = ps.length := by rw [List.length_take]; omega
  have hlw : (vs.take ps.length).length = ps.length := by rw [List.length_take]; omega
  have hzr : (vs.drop ps.length).length ≤ sizeLine := by
    rw [List.length_drop]
    exact Nat.le_trans (Nat.le_trans (Nat.sub_le _ _) (hlv ▸ hz)) (by decide)
  rw [ev] at rel
  obtain ⟨u1, u2, eu, r1, r2⟩ := StX.vals_split rel
  have hu1 : u1.length = ps.length := by rw [← r1.length]; exact hlw
  subst eu
  have hnH : H s.heap.objs.size = Option.none := en.hok.fresh (Nat.le_refl _)
  have hl2 : u2.length ≤ sizeLine := by rw [← r2.length]; exact hzr
  refine StX.run_bnd (CX := L2.CX P w) lk hcd S room en (G := fun xs H2 => ∃ p, H p = Option.none ∧ xs = vs.take ps.length ++ [V.ref p] ∧ H2 = upd H p (.tup (vs.drop ps.length))) (fun A' Ex Q' hq => ?_) fun s2 H2 xs ⟨p, hp, ex, eH⟩ hr' => ?_
  · rw [hb _ _ _ _ _ _ u1 u2 hu1]
    apply wpAny_bind; refine wpAny_newTuple (wpAny_pure ?_) hl2
    have new : ObjOk P w (upd H s.heap.objs.size (.tup (vs.drop ps.length))) (s.heap.push ({ cls := .type "tuple", data := .seq u2.toArray } : Obj)) s.heap.objs.size (.tup (vs.drop ps.length)) := ⟨hzr, u2, r2, ⟨_, Heap.get?_push_size _ rfl, rfl, _, rfl⟩⟩
    have un := StX.un_laid (fs := frs fr) (s := s) (o := ({ cls := .type "tuple", data := .seq u2.toArray } : Obj)) (u := .tup (vs.drop ps.length)) hnH
    have z := hq _ _ (vs.take ps.length ++ [V.ref s.heap.objs.size]) (u1 ++ [Value.ref s.heap.objs.size]) (StX.env0_laid en new) un rfl (fun e s' => StX.cxUp fr s H _ _ E e s' un (fun b o q => Heap.get?_push_of_some _ q) rfl) (r1.append (.cons rfl .nil))
      (by rw [List.length_append, List.length_append, hlw] <;> rfl) ⟨_, hnH, rfl, rfl⟩
    rw [List.zip_append hu1.symm] at z
    exact z
  · subst ex eH
    refine ⟨_, hbody cdv A fr s2 _ E hr' gd, ?_⟩
    obtain ⟨em2, x2⟩ := em.frz (o := .tup (vs.drop ps.length)) hp
    have dr2 : DRs T K (upd G p (.tup (vs.drop ps.length))) ι (packV ps.length ds) (vs.take ps.length ++ [V.ref p]) := by
      have d1 := (dr.take ps.length).mono x2.1 x2.2
      refine d1.append (DRs.cons ?_ DRs.nil)
      simp only [DR]
      exact ⟨p, _, rfl, upd_same, (dr.drop ps.length).mono x2.1 x2.2⟩
    have h2 := Thn.ext h x2
    refine ⟨startR N.length (packV ps.length ds), Fr, S0, ι, _, em2, SR.start dr2, ?_⟩
    unfold defJ at h2
    cases q : is (startR N.length (packV ps.length ds)) S0 with
    | no => rw [q] at h2; exact h2.elim
    | ex c fs S1 => rw [q] at h2; exact h2.elim
    | ok fl S1 =>
      rw [q] at h2
      cases fl with
      | nx ρ => exact fun σ' ι' G' H' em' x' sr' => h2 .non ι' G' H' (fin_em em') x' (by simp only [DR])
      | rt d => exact fun v ι' G' H' em' x' r' => h2 v ι' G' H' (fin_em em') x' r'
      | xx c fs ρ => exact fun dd σ' ι' G' H' em' x' sr' xr => h2 dd ι' G' H' (fin_em em') x' xr
      | bk ρ => exact h2.elim
      | ct ρ => exact h2.elim
end
def GoodV (P : Program) (w : World) (T : Tab) (K : PySem.W.Frag) (mg : Str → Option Value) (base : Heap) (k : Nat) (x : Str) (n : Nat) (sem : List D → M D) : Prop :=
  FnV P w K mg base k (He.ga K x) (spV T K n sem) ∧ mg x = some (.ref (He.ga K x)) ∧ PySem.W.keepIn K (.ref (He.ga K x)) = true
def GoodIV (P : Program) (w : World) (T : Tab) (K : PySem.W.Frag) (mg : Str → Option Value) (base : Heap) (k : Nat) (c n : Nat) (sem : List D → M D) : Prop :=
  ∃ f, FnV P w K mg base k f (spV T K (n + 1) sem) ∧ Mk K (He.ga K (T.cn c)) f ∧ mg (T.cn c) = some (.ref (He.ga K (T.cn c)))
def iCallV (n : Nat) (sem : List D → M D) (ia : IA) : IE := fun ρ => M.bind (ia ρ) fun xs => if n ≤ xs.length ∧ xs.length ≤ 100000 then sem (packV n xs) else M.no
/-- n: the parameters behind self -/
def makeV (T : Tab) (frz : Bool) (c n : Nat) (sem : List D → M D) (xs : List D) : M D := fun S => if n ≤ xs.length ∧ xs.length < 100000 then (match sem (.ref S.next :: packV n xs) (S.alloc (.ins c [])) with
    | .ok .non S' => madeD T frz c S.next S'
    | .ex c fs S' => .ex c fs S'
    | _ => .no) else .no
def iMakeV (T : Tab) (frz : Bool) (c n : Nat) (sem : List D → M D) (ia : IA) : IE := fun ρ => M.bind (ia ρ) (makeV T frz c n sem)
section
variable {T : Tab} {X : Cx} {W : WX} {e : Expr} {es : List Expr} {ia : IA} {pos p : Pos} {sem : List D → M D} {x : Str} {ps : List Str} {k c n : Nat} {frz : Bool}
theorem call_v {pins : List (Addr × Obj)} {σ : L2.St} {H : Hp} {s : Shared} {Q : VK} {us : List Value} {vs : List V} {f : Addr} {sp : Sp} (F : FnV X.prog X.w X.K X.mg X.base k f sp) (hr : Rg k X.A) (tk : Takes X W) (I : Inv X pins σ H s)
    (r : Vals vs us) (h : sp vs H Q (fun c d H => W c d σ H)) : wpAny (model X.prog X.w) X.A (call (.ref f) us) (EP X pins σ Q) X.xe s := by
  refine wpAny_call (codeAny_mono (F.run X.A X.stack s H us vs Q _ hr.r hr.g I.env0 r h) fun rs s' z => ?_)
  cases rs with
  | error e => exact tk e s' (XE.of_call (W := W) I (fun _ _ _ h => h) z)
  | ok fl =>
    cases fl with
    | ret u => exact I.after z
    | _ => exact False.elim z
theorem callV_key {σ : L2.St} {H : Hp} {Q : VK} (hq : tE T X.K W (iCallV n sem ia) σ H Q) : tA T X.K W ia σ H fun vs H1 => spV T X.K n sem vs H1 Q fun c d H => W c d σ H := by
  obtain ⟨ρ, F, S, ι, G, em, sr, h⟩ := hq
  refine ⟨ρ, F, S, ι, G, em, sr, Thn.bind (rel2 := DRs T X.K) h fun xs S1 vs ι1 G1 H1 em1 x1 dr h1 => ?_⟩
  by_cases hl : n ≤ xs.length ∧ xs.length ≤ 100000
  · rw [if_pos hl] at h1
    exact ⟨xs, F, S1, ι1, G1, em1, dr, hl.1, hl.2, h1.slots fun _ _ _ z => z⟩
  · rw [if_neg hl] at h1
    exact h1.elim
theorem je_callV (g : GoodV X.prog X.w T X.K X.mg X.base k x n sem) (hr : Rg k X.A) (hg : Gl X x) (tk : Takes X W) (ha : JA T X W (e :: es) ia) (hdb : (x == ("__debug__" : Str)) = false := by decide)
    (he : starEach (e :: es) X.env = (false, eval e X.env) :: starEach es X.env := by rfl) (hpl : (backTo pos (starEach es X.env)).any (·.1) = false := by rfl) : JE T X W (.Call (.Name x p) (e :: es) [] pos) (iCallV n sem ia) := by
  obtain ⟨Fg, m, kp⟩ := g
  constructor; intro pins s σ H Q I hq
  refine wpAny_Call_Name_kw (ld_glob I hg m ?_ hdb)
  refine PySem.W.callWith_K (h₀ := X.base) I.ok.mod.kin kp (thn (ha.run pos pins s σ H _ I (callV_key hq)) ?_) he hpl
  rintro us s1 ⟨vs, H1, I1, r, q⟩
  exact ⟨I1.kIn, call_v Fg hr tk I1 r q⟩
theorem je_callVS (g : GoodV X.prog X.w T X.K X.mg X.base k x n sem) (hr : Rg k X.A) (hg : Gl X x) (tk : Takes X W) (ha : JA T X W (e :: es) ia) (hdb : (x == ("__debug__" : Str)) = false := by decide)
    (he : starEach (e :: es) X.env = (false, eval e X.env) :: starEach es X.env := by rfl) (hst : (backTo pos (starEach es X.env)).any (·.1) = true := by rfl) : JE T X W (.Call (.Name x p) (e :: es) [] pos) (iCallV n sem ia) := by
  obtain ⟨Fg, m, kp⟩ := g
  constructor; intro pins s σ H Q I hq
  refine wpAny_Call_Name_kw (ld_glob I hg m ?_ hdb)
  refine PySem.W.callWith_S2 (h₀ := X.base) I.ok.mod.kin kp (thn (ha.run pos pins s σ H _ I (callV_key hq)) ?_) he hst
  rintro us s1 ⟨vs, H1, I1, r, q⟩
  exact ⟨I1.kIn, call_v Fg hr tk I1 r q⟩
theorem make_v {pins : List (Addr × Obj)} {σ : L2.St} {H : Hp} {s : Shared} {Q : VK} {us : List Value} {vs : List V} {f : Addr} {F : Hp} {S : Store} {ι : List Addr} {G : Hp} {xs : List D}
    (Fg : FnV X.prog X.w X.K X.mg X.base k f (spV T X.K (n + 1) sem)) (mk : Mk X.K (He.ga X.K (T.cn c)) f) (hr : Rg (k + 1) X.A) (tk : Takes X W) (I : Inv X pins σ H s) (r : Vals vs us)
    (em : Em T X.K F S ι G H) (dr : DRs T X.K G ι xs vs) (h : Thn T X.K F W σ G ι (DR T X.K) (makeV T frz c n sem xs S) Q) : wpAny (model X.prog X.w) X.A (call (.ref (He.ga X.K (T.cn c))) us) (EP X pins σ Q) X.xe s := by
  unfold makeV at h
  by_cases hl : n ≤ xs.length ∧ xs.length < 100000
  case neg => rw [if_neg hl] at h; exact h.elim
  rw [if_pos hl] at h
  have I2 := Inv.made (C := He.ga X.K (T.cn c)) I
  have n0 : H s.heap.objs.size = none := I.hok.fresh (Nat.le_refl _)
  have n1 : (upd H s.heap.objs.size (.own (s.heap.objs.size + 1))) (s.heap.objs.size + 1) = none := by
    rw [upd_ne (Nat.succ_ne_self _)]
    exact I.hok.fresh (Nat.le_succ _)
  obtain ⟨em2, x2, hn⟩ := (em.junk (o := .own (s.heap.objs.size + 1)) n0).alloc (o := .ins c []) (u := .ins (He.ga X.K (T.cn c)) s.heap.objs.size []) n1 ⟨_, _, rfl, rfl⟩
  have want : spV T X.K (n + 1) sem (.ref (s.heap.objs.size + 1) :: vs) (upd (upd H s.heap.objs.size (.own (s.heap.objs.size + 1))) (s.heap.objs.size + 1) (.ins (He.ga X.K (T.cn c)) s.heap.objs.size []))
      (fun v H2 => v = .non ∧ Q (.ref (s.heap.objs.size + 1)) H2) (fun cl d H => W cl d σ H) := by
    refine ⟨.ref S.next :: xs, F, _, _, G, em2, DRs.cons (by simp only [DR]; exact ⟨_, hn, rfl⟩) (dr.mono x2.1 x2.2), by simp; omega, by simp; omega, ?_⟩
    have ep : packV (n + 1) (.ref S.next :: xs) = .ref S.next :: packV n xs := rfl
    rw [ep]
    cases q : sem (.ref S.next :: packV n xs) (S.alloc (.ins c [])) with
    | no => rw [q] at h; exact h.elim
    | ex c' fs S' =>
      rw [q] at h
      exact fun dd ι' G' H' em' y xr => h dd ι' G' H' em' (x2.trans y) xr
    | ok d S' =>
      rw [q] at h
      cases d with
      | non =>
        intro v ι' G' H' em' y dv
        simp only [DR] at dv
        exact ⟨dv, made_ok em' (y.2 _ _ hn) (Thn.ext h (x2.trans y))⟩
      | _ => exact h.elim
  have r2 : Vals (V.ref (s.heap.objs.size + 1) :: vs) (Value.ref (s.heap.objs.size + 1) :: us) := by exact .cons rfl r
  have gd : (X.A.under (.builtin "type.__call__" ⟨.ref (He.ga X.K (T.cn c)) :: us, []⟩)).guards = some [] := by
    first | exact hr.g | (simpa [Around.under, Code.guards, Code.isGuard, guardIds, pushGuards] using hr.g)
  refine wpAny_call (make_map (f := f) I.kIn mk.makes mk.init (beq_iff_eq.mp mk.fn) (codeAny_mono (Fg.run _ X.stack _ _ _ _ _ _ (hr.r.make _ us []) gd (I2.env0.make _ us []) r2 want) fun rs s' z => ?_))
  cases rs with
  | error e => exact tk e s' (XE.of_call (W := W) I2 (fun _ _ _ h => h) z)
  | ok fl =>
    cases fl with
    | ret u =>
      obtain ⟨v, H', I3, rv, ev, q3⟩ := I2.after z
      subst ev
      exact ⟨rv, V.ref (s.heap.objs.size + 1), H', I3, rfl, q3⟩
    | _ => exact False.elim z
theorem makeV_key {σ : L2.St} {H : Hp} {Q : VK} (hq : tE T X.K W (iMakeV T frz c n sem ia) σ H Q) : tA T X.K W ia σ H fun vs H1 => ∃ xs F S ι G, Em T X.K F S ι G H1 ∧ DRs T X.K G ι xs vs ∧ Thn T X.K F W σ G ι (DR T X.K) (makeV T frz c n sem xs S) Q := by
  obtain ⟨ρ, F, S, ι, G, em, sr, h⟩ := hq
  exact ⟨ρ, F, S, ι, G, em, sr, Thn.bind (rel2 := DRs T X.K) h fun xs S1 vs ι1 G1 H1 em1 x1 dr h1 => ⟨xs, F, S1, ι1, G1, em1, dr, h1⟩⟩
theorem je_makeV (g : GoodIV X.prog X.w T X.K X.mg X.base k c n sem) (frz : Bool) (hr : Rg (k + 1) X.A) (hx : x = T.cn c) (hg : Gl X x) (tk : Takes X W) (ha : JA T X W (e :: es) ia) (hdb : (x == ("__debug__" : Str)) = false := by decide)
    (he : starEach (e :: es) X.env = (false, eval e X.env) :: starEach es X.env := by rfl) (hpl : (backTo pos (starEach es X.env)).any (·.1) = false := by rfl) : JE T X W (.Call (.Name x p) (e :: es) [] pos) (iMakeV T frz c n sem ia) := by
  obtain ⟨f, Fg, mk, m⟩ := g
  subst hx
  constructor; intro pins s σ H Q I hq
  refine wpAny_Call_Name_kw (ld_glob I hg m ?_ hdb)
  refine PySem.W.callWith_K (h₀ := X.base) I.ok.mod.kin mk.kp (thn (ha.run pos pins s σ H _ I (makeV_key hq)) ?_) he hpl
  rintro us s1 ⟨vs, H1, I1, r, xs, F, S, ι, G, em, dr, h⟩
  exact ⟨I1.kIn, make_v Fg mk hr tk I1 r em dr h⟩
theorem je_makeVS (g : GoodIV X.prog X.w T X.K X.mg X.base k c n sem) (frz : Bool) (hr : Rg (k + 1) X.A) (hx : x = T.cn c) (hg : Gl X x) (tk : Takes X W) (ha : JA T X W (e :: es) ia) (hdb : (x == ("__debug__" : Str)) = false := by decide)
    (he : starEach (e :: es) X.env = (false, eval e X.env) :: starEach es X.env := by rfl) (hst : (backTo pos (starEach es X.env)).any (·.1) = true := by rfl) : JE T X W (.Call (.Name x p) (e :: es) [] pos) (iMakeV T frz c n sem ia) := by
  obtain ⟨f, Fg, mk, m⟩ := g
  subst hx
  constructor; intro pins s σ H Q I hq
  refine wpAny_Call_Name_kw (ld_glob I hg m ?_ hdb)
  refine PySem.W.callWith_S2 (h₀ := X.base) I.ok.mod.kin mk.kp (thn (ha.run pos pins s σ H _ I (makeV_key hq)) ?_) he hst
  rintro us s1 ⟨vs, H1, I1, r, xs, F, S, ι, G, em, dr, h⟩
  exact ⟨I1.kIn, make_v Fg mk hr tk I1 r em dr h⟩
end
/-! ### methods by keyword, methods without arguments -/
def GoodMK (P : Program) (w : World) (T : Tab) (K : PySem.W.Frag) (mg : Str → Option Value) (base : Heap) (k c : Nat) (m : Str) (ps : List Str) (sem : List D → M D) (ks : List Str) (pm : List Nat) : Prop :=
  ∃ f fd, FnG P w K mg base k f fd ps (spJ T K ps.length sem) ∧ BindsW K fd ps 1 ks (0 :: pm.map (· + 1)) ∧ Meth K (He.ga K (T.cn c)) m f
def iMethK (T : Tab) (c m n : Nat) (pm : List Nat) (sem : List D → M D) (io : IE) (ik : IA) : IE := fun ρ => M.bind (io ρ) fun o => fun S => match insOf T o S with
  | some (c', fs) => if c' = c ∧ getF m fs = none then M.bind (ik ρ) (fun xs => if xs.length = n ∧ (pickL pm xs).length = pm.length then sem (o :: pickL pm xs) else M.no) S else .no
  | none => .no
section
variable {T : Tab} {X : Cx} {W : WX} {o e : Expr} {es : List Expr} {io : IE} {ia ik : IA} {apos pos : Pos} {ps ks : List Str} {k c m : Nat} {pm : List Nat} {sem : List D → M D} {pl : Sem Bool} {x : Str} {kws : List Keyword}
theorem je_methK (g : GoodMK X.prog X.w T X.K X.mg X.base k c x ps sem ks pm) (hpm : pm.length + 1 = ps.length) (cl : Cls X.K (He.ga X.K (T.cn c))) (hx : x = T.fn m) (hr : Rg k X.A) (tk : Takes X W) (ho : JE T X W o io) (hkw : JK T X W kws ik)
    (hall : (backToKw pos (keywordEach kws X.env)).all (·.1.isSome) = true := by rfl) (hks : (backToKw pos (keywordEach kws X.env)).filterMap (·.1) = ks := by rfl)
    (hpl : ((backTo pos (starEach [] X.env)).any (·.1) || (backToKw pos (keywordEach kws X.env)).any (·.1.isNone)) = false := by rfl)
    (ht : eval (.Call (.Attribute o x apos) [] kws pos) X.env = (do
      let ov ← eval o X.env
      standAt apos.atName
      let (f, first) ← holding [ov] (getMethod ov x pl)
      callWith pos f first (backTo pos (starEach [] X.env)) (backToKw pos (keywordEach kws X.env))) := by rfl) :
    JE T X W (.Call (.Attribute o x apos) [] kws pos) (iMethK T c m ks.length pm sem io ik) := by
  obtain ⟨f, fd, Fg, b, mt⟩ := g
  constructor; intro pins s σ H Q I hq
  have key : tE T X.K W io σ H fun v H1 => ∃ a dx fs, v = .ref a ∧ H1 a = some (.ins (He.ga X.K (T.cn c)) dx fs) ∧ fs.lookup x = none ∧
      tA T X.K W ik σ H1 fun vs H2 => vs.length = ks.length ∧ spJ T X.K ps.length sem (.ref a :: pickL pm vs) H2 Q fun c d H => W c d σ H := by
    obtain ⟨ρ, F, S, ι, G, em, sr, h⟩ := hq
    refine ⟨ρ, F, S, ι, G, em, sr, Thn.bind (rel2 := DR T X.K) h fun d S1 v ι1 G1 H1 em1 x1 dr h1 => ?_⟩
    cases q : insOf T d S1 with
    | none => rw [q] at h1; exact h1.elim
    | some p =>
      obtain ⟨c', fs⟩ := p
      rw [q] at h1
      dsimp only at h1
      split at h1
      · rename_i hc
        obtain ⟨rfl, hn⟩ := hc
        obtain ⟨a, dx, ws, rfl, ha, rr⟩ := insOf_ok em1 dr q
        refine ⟨a, dx, ws, rfl, ha, by rw [hx]; exact getF_none rr hn, ρ, F, S1, ι1, G1, em1, sr.mono x1, Thn.bind (rel2 := DRs T X.K) h1 fun xs S2 vs ι2 G2 H2 em2 x2 d2 h2 => ?_⟩
        by_cases hl : xs.length = ks.length ∧ (pickL pm xs).length = pm.length
        · rw [if_pos hl] at h2
          have dp := pick_drs d2 pm
          refine ⟨d2.length.symm.trans hl.1, by rw [List.length_cons, ← dp.length, hl.2]; exact hpm, d :: pickL pm xs, F, S2, ι2, G2, em2, DRs.cons (dr.mono x2.1 x2.2) dp, h2.slots fun _ _ _ z => z⟩
        · rw [if_neg hl] at h2
          exact h2.elim
      · exact h1.elim
  refine PySem.W.methodCall_KW (pl := pl) (thn (ho.run pins s σ H _ I key) ?_) ht
  rintro u s1 ⟨v, H1, I1, ru, a, dx, fs, rfl, ha, hl, q⟩
  have eu : u = Value.ref a := ru; subst eu
  refine getmeth_ok I1 ha cl mt hl ?_
  refine PySem.W.callWith_KW0 (first := [.ref a]) (h₀ := X.base) I1.ok.mod.kin mt.kp hall ?_ hpl
  refine thn (hkw.run pos pins s1 σ H1 _ I1 q) ?_
  rintro us s2 ⟨vs, H2, I2, r, hl2, q2⟩
  refine ⟨I2.kIn, ?_⟩
  rw [hks]
  have bt := b s2 [.ref a] us I2.kIn rfl (r.length.symm.trans hl2)
  rw [show [Value.ref a] ++ us = .ref a :: us from rfl, pick_self] at bt
  refine wpAny_call (codeAny_mono (run_g (us := .ref a :: pickL pm us) (vs := .ref a :: pickL pm vs) Fg hr tk I2 bt (.cons rfl (pick_vals r pm)) q2) fun rs s' z => ?_)
  cases rs with
  | error e => exact z
  | ok fl =>
    cases fl with
    | ret u => exact z
    | _ => exact z.elim
end
/-! ### tuple(x), list(x), max, min -/
def tupD : OpN := fun xs S => match xs with
  | [x] => (match x with
    | .tup ys => some (.tup ys)
    | _ => (seqR x S).map .tup)
  | _ => none
theorem tupD_ok {T : Tab} {X : Cx} : CaS T X.K (fun xs H Q => ∃ p ys, xs = [.ref p] ∧ ((SqL X.K H p ys ∧ ∀ l, H l = none → Q (.ref l) (upd H l (.tup ys))) ∨ (SqT X.K H p ys ∧ Q (.ref p) H))) tupD := by
  intro F S ι G H xs d vs Q em dr e q
  rcases xs with _ | ⟨x, _ | ⟨y, r⟩⟩
  · cases e
  · obtain ⟨v, rfl, r⟩ := dr.one
    unfold tupD at e
    dsimp only at e
    split at e
    · rename_i ys
      cases e
      have r' := r
      simp only [DR] at r
      obtain ⟨a, us, rfl, hg, _⟩ := r
      exact ⟨a, us, rfl, .inr ⟨SqT.of (em.sub _ _ hg), q _ G H em (Ext.refl _ _) r'⟩⟩
    · cases hs : seqR x S with
      | none => rw [hs] at e; cases e
      | some ys =>
        rw [hs] at e
        cases e
        obtain ⟨a, us, rfl, hg, d2⟩ := seqR_ok em r hs
        refine ⟨a, us, rfl, .inl ⟨hg, fun l hl => ?_⟩⟩
        obtain ⟨em2, x2⟩ := em.frz (o := .tup us) hl
        exact q _ _ _ em2 x2 (by simp only [DR]; exact ⟨l, us, rfl, upd_same, d2.mono x2.1 x2.2⟩)
  · cases e
end J

set_option Elab.async false
set_option linter.all false
set_option maxRecDepth 100000
set_option maxHeartbeats 1010000
/-! JQ: len(x) and bool(x) of an instance with its own __len__; max and min of a list; bool of plain things -/
namespace J
open PySem PySem.Spec L2 PyProof.Rows
/-- an instance of c is asked by an own def that gives a small number; g: what becomes of it -/
def rAskN (T : Tab) (K : PySem.W.Frag) (c : Nat) (sem : List D → M D) (g : Int → V) : List V → Hp → VK → Prop := fun vs H Q =>
  ∃ a dx fs, vs = [.ref a] ∧ H a = some (.ins (He.ga K (T.cn c)) dx fs) ∧ Quiet T K H sem 1 vs (fun v H' => ∃ n : Int, v = .int n ∧ (0 ≤ n ∧ n < 2 ^ 62) ∧ Q (g n) H')
def isN0 (g : Int → D) : D → M D
  | .int n => if 0 ≤ n ∧ n < 2 ^ 62 then M.ret (g n) else M.no
  | _ => M.no
def askN (c : Nat) (T : Tab) (sem : List D → M D) (g : Int → D) (xs : List D) : M D := fun S => match xs with
  | [d] => (match insOf T d S with
    | some (c', _) => if c' = c then M.bind (nox (sem [d])) (isN0 g) S else .no
    | none => .no)
  | _ => .no
theorem askN_ok {T : Tab} {K : PySem.W.Frag} {c : Nat} {sem : List D → M D} {g : Int → D} {gv : Int → V} (hg : ∀ G ι n, DR T K G ι (g n) (gv n)) : CaM T K (rAskN T K c sem gv) (askN c T sem g) := by
  intro F S ι G H xs vs W σ Q em dr t
  unfold askN at t
  rcases xs with _ | ⟨d, _ | ⟨d2, rest⟩⟩
  · exact t.elim
  · dsimp only at t
    obtain ⟨v, rfl, r⟩ := dr.one
    cases q : insOf T d S with
    | none => simp only [q] at t; exact t.elim
    | some p =>
      obtain ⟨c', fs⟩ := p
      simp only [q] at t
      by_cases e : c' = c
      case neg => rw [if_neg e] at t; exact t.elim
      rw [if_pos e] at t
      subst e
      obtain ⟨a, dx, ws, rfl, ha, _⟩ := insOf_ok em r q
      refine ⟨a, dx, ws, rfl, ha, rfl, [d], F, S, ι, G, em, dr, ?_⟩
      unfold M.bind at t
      cases z : nox (sem [d]) S with
      | no => rw [z] at t; exact t.elim
      | ex c fs S' =>
        unfold nox at z
        cases z2 : sem [d] S <;> rw [z2] at z <;> cases z
      | ok y S' =>
        rw [z] at t
        dsimp only at t
        intro v ι' G' H' em' x' r'
        cases y with
        | int n =>
          simp only [DR] at r'
          unfold isN0 at t
          dsimp only at t
          by_cases b : 0 ≤ n ∧ n < 2 ^ 62
          · rw [if_pos b] at t
            exact ⟨n, r', b, Thn.ok (Thn.ext t x') em' (hg _ _ n)⟩
          · rw [if_neg b] at t
            exact t.elim
        | _ => exact t.elim
  · exact t.elim
section
variable {T : Tab} {X : Cx} {c k : Nat} {ps : List Str} {sem : List D → M D}
theorem call_lenO (g : GoodM X.prog X.w T X.K X.mg X.base k c "__len__" ps sem) (h1 : ps.length = 1) (hr : Rg (k + 1) X.A) : CallR X (.builtin "len") (rAskN T X.K c sem .int) := by
  intro pins s σ H xs us Q inv rel ⟨a, dx, fs, e, ha, z⟩
  subst e
  obtain ⟨f, fd, Fg, b, at_, fn, kp⟩ := g
  obtain ⟨u, rfl, ru⟩ := vals1 rel
  obtain rfl : u = .ref a := ru
  obtain ⟨mA, O, _⟩ := ins_get inv.hok ha
  obtain ⟨od, inst, _⟩ := O.look
  obtain ⟨m, frame⟩ := inv.fr
  rw [← h1] at z
  refine PySem.W.len_K frame inv.ok.mod.kin inst at_ fn (wpAny_mono (call_in Fg b hr.in1 inv.env0.in1 inv (vs := [.ref a]) (.cons rfl .nil) z) ?_ fun _ _ y => y)
  rintro u s' ⟨v, H', inv', rv, n, rfl, bd, q⟩
  obtain ⟨t, rfl⟩ : ∃ t, u = Value.int n t := rv
  exact ⟨⟨bd.1, by omega⟩, ⟨.int n, H', inv'.tok _, ⟨_, rfl⟩, q⟩⟩
end
/-! ### max and min of a list of whole numbers -/
def maxI : List Int → Option Int
  | [] => none
  | [n] => some n
  | n :: r => (maxI r).map fun m => if n < m then m else n
def minI : List Int → Option Int
  | [] => none
  | [n] => some n
  | n :: r => (minI r).map fun m => if m < n then m else n
theorem maxI_ok : ∀ {l : List Int} {m : Int}, maxI l = some m → m ∈ l ∧ ∀ y ∈ l, y ≤ m
  | [], _, h => nomatch h
  | [n], m, h => by
    have e : n = m := Option.some.inj h
    subst e
    simp
  | n :: p :: r, m, h => by
    have h' : (maxI (p :: r)).map (fun m => if n < m then m else n) = some m := h
    cases q : maxI (p :: r) with
    | none => rw [q] at h'; exact nomatch h'
    | some k =>
      rw [q] at h'
      obtain ⟨i1, i2⟩ := maxI_ok q
      have e : (if n < k then k else n) = m := Option.some.inj h'
      by_cases c : n < k
      · rw [if_pos c] at e
        subst e
        exact ⟨List.mem_cons_of_mem _ i1, fun y hy => (List.mem_cons.mp hy).elim (fun z => by omega) (i2 y)⟩
      · rw [if_neg c] at e
        subst e
        exact ⟨List.mem_cons_self .., fun y hy => (List.mem_cons.mp hy).elim (fun z => by omega) fun z => by have := i2 y z; omega⟩
theorem minI_ok : ∀ {l : List Int} {m : Int}, minI l = some m → m ∈ l ∧ ∀ y ∈ l, m ≤ y
  | [], _, h => nomatch h
  | [n], m, h => by
    have e : n = m := Option.some.inj h
    subst e
    simp
  | n :: p :: r, m, h => by
    have h' : (minI (p :: r)).map (fun m => if m < n then m else n) = some m := h
    cases q : minI (p :: r) with
    | none => rw [q] at h'; exact nomatch h'
    | some k =>
      rw [q] at h'
      obtain ⟨i1, i2⟩ := minI_ok q
      have e : (if k < n then k else n) = m := Option.some.inj h'
      by_cases c : k < n
      · rw [if_pos c] at e
        subst e
        exact ⟨List.mem_cons_of_mem _ i1, fun y hy => (List.mem_cons.mp hy).elim (fun z => by omega) (i2 y)⟩
      · rw [if_neg c] at e
        subst e
        exact ⟨List.mem_cons_self .., fun y hy => (List.mem_cons.mp hy).elim (fun z => by omega) fun z => by have := i2 y z; omega⟩
def maxL : OpN := fun xs S => match xs with
  | [x] => (((seqR x S).bind intsOf).bind maxI).map .int
  | _ => none
def minL : OpN := fun xs S => match xs with
  | [x] => (((seqR x S).bind intsOf).bind minI).map .int
  | _ => none
theorem ext_ok {T : Tab} {K : PySem.W.Frag} {F : Hp} {S : Store} {ι : List Addr} {G H : Hp} {pick : List Int → Option Int} {x d : D} {vs : List V} (em : Em T K F S ι G H) (dr : DRs T K G ι [x] vs) (e : (((seqR x S).bind intsOf).bind pick).map D.int = some d) :
    ∃ (a : Addr) (ns : List Int) (m : Int), vs = [.ref a] ∧ SqL K H a (ns.map V.int) ∧ pick ns = some m ∧ d = .int m := by
  obtain ⟨v, rfl, r⟩ := dr.one
  cases q1 : seqR x S with
  | none => rw [q1] at e; exact nomatch e
  | some ds =>
    rw [q1] at e
    cases q2 : intsOf ds with
    | none => rw [Option.bind_some, q2] at e; exact nomatch e
    | some ns =>
      rw [Option.bind_some, q2, Option.bind_some] at e
      cases q3 : pick ns with
      | none => rw [q3] at e; exact nomatch e
      | some m =>
        rw [q3] at e
        obtain ⟨a, us, rfl, sq, dd⟩ := seqR_ok em r q1
        rw [intsOf_ok dd q2] at sq
        exact ⟨a, ns, m, rfl, sq, q3, (Option.some.inj e).symm⟩
theorem maxL_ok {T : Tab} {K : PySem.W.Frag} : CaS T K (rMax K) maxL := by
  intro F S ι G H xs d vs Q em dr e q
  rcases xs with _ | ⟨x, _ | ⟨y, r⟩⟩
  · exact nomatch e
  · obtain ⟨a, ns, m, rfl, sq, pm, rfl⟩ := ext_ok em dr e
    obtain ⟨i1, i2⟩ := maxI_ok pm
    refine ⟨a, ns, rfl, sq, List.length_pos_of_mem i1, fun k hk up => ?_⟩
    have ek : k = m := by have := i2 k hk; have := up m i1; omega
    subst ek
    exact q _ G H em (Ext.refl _ _) (by simp only [DR])
  · exact nomatch e
theorem minL_ok {T : Tab} {K : PySem.W.Frag} : CaS T K (rMin K) minL := by
  intro F S ι G H xs d vs Q em dr e q
  rcases xs with _ | ⟨x, _ | ⟨y, r⟩⟩
  · exact nomatch e
  · obtain ⟨a, ns, m, rfl, sq, pm, rfl⟩ := ext_ok em dr e
    obtain ⟨i1, i2⟩ := minI_ok pm
    refine ⟨a, ns, rfl, sq, List.length_pos_of_mem i1, fun k hk lo => ?_⟩
    have ek : k = m := by have := i2 k hk; have := lo m i1; omega
    subst ek
    exact q _ G H em (Ext.refl _ _) (by simp only [DR])
  · exact nomatch e
end J

set_option Elab.async false
set_option linter.all false
set_option maxRecDepth 100000
set_option maxHeartbeats 1010000
/-! JR: bool(x), x an instance whose class has __len__ and no __bool__ -/
namespace J
open PySem PySem.Spec L2 PyProof.Rows
open PySem.W (InstAt findIn isFn looks_findIn special_fn)
section
variable {prog : Program} {w : World} {A : Around} {E : Value → Shared → Prop} {s : Shared} {K : PySem.W.Frag} {x C f : Addr} {ox : Obj} {od : Option Obj}
theorem len_own {Q : Value → Shared → Prop} (kin : K.In s.heap) (inst : InstAt s.heap x ox C od) (has : findIn K (.ref C) "__len__" = some (some (.ref f))) (isf : isFn K (.ref f) = true) (run : wpAny (model prog w) A (call (.ref f) [.ref x]) (PySem.W.LenBack Q) E s) :
    wpAny (model prog w) A (Builtin.«len» ⟨[.ref x], []⟩) (fun fin s' => ∃ v, fin = .done (.ret v) ∧ Q v s') E s := by
  have ask : wpAny (model prog w) A (callSpecial? (.ref x) (Str.ofString "__len__")) (fun o s' => ∃ v, o = some v ∧ PySem.W.LenBack Q v s') E s := special_fn kin inst has (beq_iff_eq.mp isf) (wpAny_mono run (fun v _ z => ⟨v, rfl, z⟩) fun _ _ z => z)
  unfold Builtin.«len»
  refine wpAny_bind (m := oneArg "len" _) (wpAny_pure (wpAny_bind (m := callSpecial? (.ref x) (Str.ofString "__len__")) (wpAny_mono ask ?_ fun _ _ z => z)))
  rintro _ s' ⟨v, rfl, back⟩
  cases v with
  | int n u =>
    obtain ⟨⟨lo, hi⟩, fin⟩ := back
    have c1 : ¬ n < 0 := by omega
    have c2 : ¬ n ≥ 2 ^ 63 := by omega
    refine wpAny_bind (wpAny_holding (wpAny_pure (wpAny_bind (wpAny_letGo ?_))))
    change wpAny _ _ (if n < 0 then _ else (if n ≥ 2 ^ 63 then _ else _)) _ _ _
    rw [if_neg c1, if_neg c2]
    exact wpAny_bind (wpAny_mkInt (wpAny_pure ⟨_, rfl, fin⟩))
  | _ => exact back.elim
theorem truthy_own {Q : Bool → Shared → Prop} (kin : K.In s.heap) (inst : InstAt s.heap x ox C od) (no : findIn K (.ref C) "__bool__" = some none) (has : findIn K (.ref C) "__len__" = some (some (.ref f))) (isf : isFn K (.ref f) = true)
    (run : wpAny (model prog w) A.in1 (call (.ref f) [.ref x]) (PySem.W.LenBack fun v s' => ∃ n t, v = .int n t ∧ Q (n != 0) s') E s) : wpAny (model prog w) A (truthy (.ref x)) Q E s := by
  have key : wpAny (model prog w) A (runValue (.builtin "len" ⟨[.ref x], []⟩)) (fun r s' => ∃ n t, r = .int n t ∧ Q (n != 0) s') E s := by
    apply wpAny_runValue; apply codeAny_builtin entry_len
    rw [Around.under_plainId plain_len]
    refine wpAny_mono (len_own kin inst has isf run) ?_ fun _ _ z => z
    rintro _ s' ⟨v, rfl, z⟩
    exact z
  unfold truthy
  refine wpAny_bind (m := callSpecial? (.ref x) (Str.ofString "__bool__")) (wpAny_bind (wpAny_bind (inst.type.here ((looks_findIn kin no).here (wpAny_pure (wpAny_bind (wpAny_bind (inst.type.here ((looks_findIn kin has).here ?_)))))))))
  refine wpAny_bind (wpAny_mono key ?_ fun _ _ z => z)
  rintro _ s' ⟨n, t, rfl, z⟩
  exact wpAny_pure z
theorem bool_own {Q : Value → Shared → Prop} (kin : K.In s.heap) (inst : InstAt s.heap x ox C od) (no : findIn K (.ref C) "__bool__" = some none) (has : findIn K (.ref C) "__len__" = some (some (.ref f))) (isf : isFn K (.ref f) = true)
    (run : wpAny (model prog w) A.in1.in1.in1 (call (.ref f) [.ref x]) (PySem.W.LenBack fun v s' => ∃ n t, v = .int n t ∧ Q (.bool (n != 0)) s') E s) : wpAny (model prog w) A (call (.type "bool") [.ref x]) Q E s := by
  refine callType_codes (T := "bool") (Bi := Builtin.«object.__init__») (Q₁ := fun r s₁ => ∃ b, r = .bool b ∧ Q r s₁) F.called_bool (F.typeCall_bool_1 _) F.entry_object_init (codeAny_of_tree ?_) ?_
  · change wpAny _ A.in1.in1 (do checkBuiltinCall "bool.__new__" ⟨[.type "bool", .ref x], []⟩; again (.builtin "bool.__new__" ⟨[.type "bool", .ref x], []⟩)) _ _ s
    refine wpAny_bind (wpAny_of_eq (F.newCall_bool_1 _) (wpAny_pure ⟨plainId_quiet (by decide +kernel) _, codeAny_builtin F.entry_bool_new ?_⟩))
    rw [Around.under_plainId (by decide +kernel)]
    have tr : wpAny (model prog w) A.in1.in1 (truthy (.ref x)) (fun b s₁ => Q (.bool b) s₁) E s := truthy_own kin inst no has isf run
    have sub := F.conv_sub_bool
    change wpAny _ _ (isType (.type "bool") >>= _) _ _ s
    refine wpAny_bind (wpAny_pure (wpAny_bind (wpAny_of_eq sub (wpAny_bind (m := someArgs "bool" 0 1 ⟨[.ref x], []⟩) (wpAny_pure (wpAny_bind (wpAny_mono tr (fun b s₁ q => wpAny_pure ⟨b, rfl, q⟩) fun _ _ z => z)))))))
  · rintro obj s₁ ⟨b, rfl, q⟩
    have ty : s₁.TypeIs (.bool b) "bool" := PySem.typeIs_bool _ _
    exact ⟨ty, F.args_object_init_2 _ _, object_init_meets F.called_bool.init.lookup F.called_bool.made F.newNe_bool prog w A.in1 _ s₁ ⟨ty, rfl, q⟩⟩
end
section
variable {T : Tab} {X : Cx} {c k : Nat} {ps : List Str} {sem : List D → M D}
theorem call_boolO (g : GoodM X.prog X.w T X.K X.mg X.base k c "__len__" ps sem) (no : PySem.W.findIn X.K (.ref (He.ga X.K (T.cn c))) "__bool__" = some none) (h1 : ps.length = 1) (hr : Rg (k + 3) X.A) : CallR X (.type "bool") (rAskN T X.K c sem fun n => .bl (n != 0)) := by
  intro pins s σ H xs us Q inv rel ⟨a, dx, fs, e, ha, z⟩
  subst e
  obtain ⟨f, fd, Fg, b, at_, fn, kp⟩ := g
  obtain ⟨u, rfl, ru⟩ := vals1 rel
  obtain rfl : u = .ref a := ru
  obtain ⟨mA, O, _⟩ := ins_get inv.hok ha
  obtain ⟨od, inst, _⟩ := O.look
  rw [← h1] at z
  refine bool_own inv.kIn inst no at_ fn (wpAny_mono (call_in Fg b hr.in1.in1.in1 inv.env0.in1.in1.in1 inv (vs := [.ref a]) (.cons rfl .nil) z) ?_ fun _ _ y => y)
  rintro u s' ⟨v, H', inv', rv, n, rfl, bd, q⟩
  obtain ⟨t, rfl⟩ : ∃ t, u = Value.int n t := rv
  exact ⟨⟨bd.1, by omega⟩, n, _, rfl, ⟨.bl (n != 0), H', inv'.tok _, rfl, q⟩⟩
end
end J

set_option Elab.async false
set_option linter.all false
set_option maxRecDepth 100000
set_option maxHeartbeats 1010000
/-! JS: raise of an own exception that keeps one value -/
namespace J
open PySem PySem.Spec L2
/-! ### what the text says of the class -/
def oexB (K : PySem.W.Frag) (C : Addr) : Bool := match K.lookup C with
  | some ⟨.type k, _, .cls cd, sl⟩ => (match cd.mro, sl.toList with
    | .ref C' :: bm, [_, _, _, _, some (.builtin n), _] => decide (k = "type") && (decide (C' = C) && (decide (n = "ValueError.__new__") && (!cd.hasDel && (cd.hasDict && PySem.HandSPX.refsVE bm))))
    | _, _ => false)
  | _ => false
def raiB (K : PySem.W.Frag) (C : Addr) : Bool := oexB K C && (decide (PySem.W.findIn K (.ref C) "__setattr__" = some (some (.builtin "object.__setattr__"))) && (decide (PySem.W.subIn K (.ref C) (.type "BaseException") = some true) && (decide (PySem.W.typeIn K (.ref C) = some (.type "type")) && PySem.W.keepIn K (.ref C))))
theorem raiB_ok {K : PySem.W.Frag} {C : Addr} (h : raiB K C = true) : OexC K C := by
  simp only [raiB, Bool.and_eq_true, decide_eq_true_eq] at h
  obtain ⟨h0, isSet, isExc, isTy, kp⟩ := h
  refine ⟨?_, isSet, isExc, isTy, kp⟩
  unfold oexB at h0
  split at h0
  · rename_i k od cd sl ho
    split at h0
    · rename_i C' bm s0 s1 s2 s3 n s5 hm hs
      simp only [Bool.and_eq_true, decide_eq_true_eq, Bool.not_eq_true'] at h0
      obtain ⟨rfl, rfl, rfl, nd, hd, ve⟩ := h0
      obtain ⟨f1, f2, f3, f4, f5, f6, f7, f8, f9, f10, f11⟩ := cd
      dsimp only at hm nd hd
      subst hm nd hd
      have e : sl = #[s0, s1, s2, s3, some (.builtin "ValueError.__new__"), s5] := by
        cases sl
        simp only at hs
        rw [hs]
      subst e
      exact ⟨f1, f5, f4, f2, bm, f7, f8, f9, f10, od, s0, s1, s2, s3, s5, ho, ve⟩
    · cases h0
  · cases h0
/-- C's own __init__: self.f = f -/
structure ExcV (P : Program) (w : World) (K : PySem.W.Frag) (mg : Str → Option Value) (base : Heap) (C : Addr) (x f : Str) : Prop where
  oex : OexC K C
  at_ : mg x = some (.ref C)
  ini : ∃ fI fd, PySem.W.findIn K (.ref C) "__init__" = some (some (.ref fI)) ∧ PySem.W.typeIn K (.ref fI) = some (.type "function") ∧ Binds K fd ["self", f] [] ∧
    FnOk P w K mg base (L2.CX P w) 1 fI fd ["self", f] fun vs H Q _ => ∃ (a : Addr) (y : V), vs = [.ref a, y] ∧ H a = some (exo a C none) ∧ ∀ dx, H dx = none → dx ≠ a → Q .non (upd (upd H dx (exd dx [(f, y)])) a (exo a C (some dx)))
section
variable {w : World} {P : Program} {K : PySem.W.Frag} {base : Heap} {mg : Str → Option Value}
theorem excV_of {C fI : Addr} {x f q : Str} {fd : FuncData} {params : Arguments} {scope : Scope} {p1 p2 p3 p4 : Pos} (oex : OexC K C) (hm : mg x = some (.ref C)) (hI : PySem.W.findIn K (.ref C) "__init__" = some (some (.ref fI))) (hT : PySem.W.typeIn K (.ref fI) = some (.type "function"))
    (hno : PySem.W.findIn K (.ref C) f = some none) (F : FunD K "__init__" q params [.Assign [.Attribute (.Name "self" p1) f p2] (.Name f p3) p4] scope [] [] fI fd) (S : FnScope ["self", f] ["self", f] scope) (hb : Binds K fd ["self", f] [])
    (hd1 : (f == ("__debug__" : Str)) = false) (hd2 : (f == ("__classdict__" : Str)) = false) (hsw : ∀ X : Cx, swapsWith (.Name f p3) (some (.Attribute (.Name "self" p1) f p2)) p4.line X.env = pure false) : ExcV P w K mg base C x f := by
  refine ⟨oex, hm, fI, fd, hI, hT, hb, F.ok (CX := L2.CX P w) S (fun vs H Q E z => ?_) fun cdv A outer s H vs Q E hr z => ?_⟩
  · obtain ⟨a, y, rfl, _⟩ := z
    rfl
  · obtain ⟨a, y, rfl, ha, q⟩ := z
    have v0 : Vis scope "self" := by
      rcases S.par "self" List.mem_cons_self with e | e
      · exact .inl e
      · exact .inr (.inl e)
    have v1 : Vis scope f := by
      rcases S.par f (List.mem_cons_of_mem _ List.mem_cons_self) with e | e
      · exact .inl e
      · exact .inr (.inl e)
    refine ⟨_, pss_one (ps_ost (pe_var (i := 0) rfl v0 (by decide) (by decide)) (pe_var (i := 1) rfl v1 hd1 hd2) (hsw _)), ?_⟩
    exact ⟨y, rfl, .ref a, rfl, a, C, rfl, oex, hno, .inl ⟨ha, fun dx hn hne => q dx hn hne⟩⟩
end
/-- what is left of the making: the dict -/
theorem made_eq {H : Hp} {a dx C : Addr} {f : Str} {y : V} (ha : H a = none) (hne : dx ≠ a) :
    upd (del (upd (upd (upd H a (exo a C none)) dx (exd dx [(f, y)])) a (exo a C (some dx))) a) dx (.xd [(f, y)]) = upd H dx (.xd [(f, y)]) := by
  funext b
  by_cases h : b = dx
  · subst h
    rw [upd_same, upd_same]
  · rw [upd_ne h, upd_ne h]
    by_cases k : b = a
    · rw [k, del_same, ha]
    · rw [del_ne k, upd_ne k, upd_ne h, upd_ne k]
/-- raise C(e): c the class, f the field -/
def sRaise (c f : Nat) (ie : IE) : IS := fun ρ => sBind (ie ρ) ρ fun d S => .ok (.xx c [(f, d)] ρ) S
theorem js_raise {T : Tab} {X : Cx} {W : WX} {x : Str} {c f : Nat} {e : Expr} {ie : IE} {p p1 pos : Pos} (V_ : ExcV X.prog X.w X.K X.mg X.base (He.ga X.K (T.cn c)) x (T.fn f)) (hc : X.calm = true) (hr : Room 2 X.A) (tk0 : Takes X fun _ _ _ _ => False) (tk : Takes X W) (hg : Gl X x)
    (he : JE T X W e ie) (hdb : (x == ("__debug__" : Str)) = false := by decide) (h1 : starEach [e] X.env = (false, eval e X.env) :: starEach [] X.env := by rfl) : JS T X W (.Raise (some (.Call (.Name x p) [e] [] p1)) none pos) (sRaise c f ie) := by
  obtain ⟨fI, fd, hI, hT, hb, F⟩ := V_.ini
  have m := pmk_oex (p := p) (pos := p1) (ds := []) (dvs := []) V_.oex hI hT F hr hb .nil (passes_call tk0 fun _ _ _ _ z => z) hg V_.at_ (pa_cons he pa_nil h1) hdb h1 rfl
  refine PS.mono (ps_raise (pos := pos) hc tk m) fun D σ H z => ?_
  obtain ⟨ρ, Fr, S, ι, G, em, sr, h⟩ := z
  refine ⟨ρ, Fr, S, ι, G, em, sr, ?_⟩
  refine ThnS.bind (rel := DR T X.K) h sr fun d S1 y ι1 G1 H1 em1 x1 r q => ?_
  refine ⟨by simp, fun a ha => ⟨a, y, rfl, upd_same, fun dx hdx hne => ⟨rfl, dx, [(T.fn f, y)], upd_same, by rw [upd_ne hne, upd_same], ?_, ?_⟩⟩⟩
  · rw [upd_ne hne] at hdx
    exact hdx
  · rw [upd_ne hne] at hdx
    rw [made_eq ha hne]
    obtain ⟨em2, x2⟩ := em1.frz (o := .xd [(T.fn f, y)]) hdx
    refine q (some dx) σ ι1 (upd G1 dx (.xd [(T.fn f, y)])) _ em2 x2 (sr.mono (x1.trans x2)) (.inr ⟨dx, _, rfl, upd_same, y, [], rfl, r.mono x2.1 x2.2, rfl⟩)
end J

set_option Elab.async false
set_option linter.all false
set_option maxRecDepth 100000
set_option maxHeartbeats 1010000
/-! JT: several clauses 'except C as e' -/
namespace J
open PySem PySem.Spec L2 PyProof.Rows
/-- the ends of a clause's suite: its name goes -/
def goneE (i : Nat) (D : Ends) : Ends := { nx := fun σ H => D.nx (σ.set i none) H, rt := D.rt, bk := fun σ H => D.bk (σ.set i none) H, ct := fun σ H => D.ct (σ.set i none) H }
abbrev Suite := Addr → Value → Option Addr → TS
/-- what the clauses wish; an exception that none of them takes is not foreseen -/
def wAsM (K : PySem.W.Frag) (i : Nat) (D : Ends) : List (Value × Suite) → WX
  | [] => fun _ _ _ _ => False
  | q :: r => fun cls d σ H => ∃ b, PySem.W.exmOne K cls q.1 = some b ∧ (b = true → ∀ a, H a = none → q.2 a cls d (goneE i D) (σ.set i (some (.ref a))) H) ∧ (b = false → wAsM K i D r cls d σ H)
inductive HdA (X : Cx) (n : Str) : List ExceptHandler → List (Value × Suite) → Prop
  | nil : HdA X n [] []
  | cons {x : Str} {c : Value} {ts : Suite} {st : Stmt} {more : List Stmt} {p1 p2 : Pos} {hds : List ExceptHandler} {l : List (Value × Suite)} (nm : Names X x c)
      (su : ∀ (a : Addr) (oe : Obj) (cls : Value) (d : Option Addr) (pn : List (Addr × Obj)), Zc cls d oe → (∃ vs, oe.data = .fields vs) → PSs (X.suite a ((a, oe) :: pn)) (st :: more) (ts a cls d)) (tl : HdA X n hds l) :
      HdA X n (.ExceptHandler (some (.Name x p1)) (some n) (st :: more) p2 :: hds) ((c, ts) :: l)
section
variable {X : Cx} {n : Str} {i : Nat} {pins : List (Addr × Obj)} {D : Ends}
/-- an exception that has landed here -/
structure Landed (X : Cx) (pins : List (Addr × Obj)) (σ : L2.St) (H : Hp) (a : Addr) (cls : Value) (d : Option Addr) (B : Heap) (s : Shared) : Prop where
  fly : HandSPX.FlyingZ B (X.env :: X.outer) a (Zc cls d) s.heap
  inv : Inv X pins σ H s
  free : H a = none
  next : ∀ h, HandSPX.FlyingZ B (X.env :: X.outer) a (Zc cls d) h → s.heap.UpToSlots h → Inv X pins σ H { s with heap := h }
  loc : a ≠ X.env.locals
  far : a ∉ X.fs
theorem Landed.pin {σ : L2.St} {H : Hp} {a : Addr} {cls : Value} {d : Option Addr} {B : Heap} {s : Shared} (L : Landed X pins σ H a cls d B s) :
    ∃ oe vs, s.heap.get? a = some oe ∧ Zc cls d oe ∧ oe.data = .fields vs ∧ Inv (X.suite a ((a, oe) :: (X.pn ++ pins))) [] σ H s := by
  obtain ⟨oe, vs, g, z, dt⟩ := L.fly.there
  exact ⟨oe, vs, g, z, dt, L.inv.suite g dt L.free L.loc L.far⟩
/-- a clause is asked -/
theorem clause_ask {σ : L2.St} {H : Hp} {a : Addr} {cls c : Value} {d : Option Addr} {B : Heap} {s : Shared} {x : Str} {np : Pos} {b : Bool} {Q : Value → Shared → Prop} {E : Value → Shared → Prop} (L : Landed X pins σ H a cls d B s) (nm : Names X x c) (q : Q c s) :
    wpAny (model X.prog X.w) (X.A.mark (some (.ref a))) (eval (.Name x np) X.env) Q E s := by
  obtain ⟨oe, vs, g, z, dt, I⟩ := L.pin
  obtain ⟨hg, hdb, here | ⟨no, boot, hn⟩⟩ := nm
  · exact ld_glob I hg here q hdb
  · exact ld_blt I hg no boot q hn hdb
theorem clauses_go (ok : X.Ok) (nd : X.N.Nodup) (hi : X.N[i]? = some n) (hl : X.env.kindOf n = some .local) {σ : L2.St} {H : Hp} {a : Addr} {cls : Value} {d : Option Addr} {B : Heap} {s : Shared} (L : Landed X pins σ H a cls d B s) :
    ∀ {hds : List ExceptHandler} {l : List (Value × Suite)}, HdA X n hds l → wAsM X.K i D l cls d σ H → wpAny (model X.prog X.w) X.A (handleBy (.ref a) X.env hds) (SP X pins D) X.xe s := by
  intro hds l hh
  induction hh with
  | nil => exact fun z => z.elim
  | @cons x c ts st more p1 p2 hds l nm su tl ih =>
    rintro ⟨b, isB, hit, miss⟩
    refine wpAny_handleBy_cons (codeAny_handlers_test ?_) (by intro z; cases z)
    obtain ⟨oe, vs, g, z, dt, I⟩ := L.pin
    have ty : PySem.W.Looks (model X.prog X.w) s.heap (typeOf (.ref a)) cls := fun A Q E s1 kp q => wpAny_typeOf_ref (kp _ _ g) (by rw [z.1]; exact q)
    refine clause_ask (b := b) L nm ((PySem.W.exm_one (M := model X.prog X.w) L.inv.kIn ty isB).here ?_)
    cases b with
    | false => exact ih (miss rfl)
    | true =>
      refine codeAny_handlers_suite_as (HandSPX.lands_againZ L.fly fun h1 fly1 up1 => ?_)
      have I1 := L.next h1 fly1 up1
      obtain ⟨oe1, vs1, g1, z1, dt1⟩ := fly1.there
      refine store_ok (X := X.suite a ((a, oe1) :: (X.pn ++ pins))) (v := .ref a) (I1.suite g1 dt1 L.free L.loc L.far) nd hi (.inl hl) rfl (fun s2 I2 => ?_) (.inr hl)
      refine wpAny_mono ((su a oe1 cls d (X.pn ++ pins) z1 ⟨_, dt1⟩).run [] s2 _ H _ I2 (hit rfl a L.free)) (fun fl s3 out => ?_) (fun _ _ f => f.elim)
      have bye : ∀ {σ3 : L2.St} {H3 : Hp} {Q : Shared → Prop}, Inv (X.suite a ((a, oe1) :: (X.pn ++ pins))) [] σ3 H3 s3 → (∀ s4, Inv X pins (σ3.set i none) H3 s4 → Q s4) →
          wpAny (model X.prog X.w) X.A (do bindName X.env n .none; unbindBehindTheSuite X.env n p2) (fun _ s4 => Q s4) X.xe s3 := fun J q => gone_ok (J.unsuite ok) nd hi hl q
      cases fl with
      | ret u => exact let ⟨v, σ3, H3, J, rv, q⟩ := out; bye J fun s4 J4 => ⟨v, _, H3, J4, rv, q⟩
      | next => exact let ⟨σ3, H3, J, q⟩ := out; bye J fun s4 J4 => ⟨_, H3, J4, q⟩
      | brk => exact let ⟨σ3, H3, J, q⟩ := out; bye J fun s4 J4 => ⟨_, H3, J4, q⟩
      | cont => exact let ⟨σ3, H3, J, q⟩ := out; bye J fun s4 J4 => ⟨_, H3, J4, q⟩
/-- try: body, except .. as n: .., except .. as n: .. -/
theorem ps_tryM {body : List Stmt} {h0 : ExceptHandler} {hds : List ExceptHandler} {l : List (Value × Suite)} {tb : WX → TS} {pos : Pos} (stk : X.stack = X.env :: X.outer) (frm : X.env.frame = some X.env.locals) (nd : X.N.Nodup) (hi : X.N[i]? = some n) (hl : X.env.kindOf n = some .local)
    (bd : ∀ (W : WX) (pn : List (Addr × Obj)) (xe : Value → Shared → Prop), Takes (X.tr pn xe) W → PSs (X.tr pn xe) body (tb W)) (hh : HdA X n (h0 :: hds) l) :
    PS X (.Try body (h0 :: hds) [] [] pos) (fun D σ H => tb (wAsM X.K i D l) D σ H) := by
  constructor
  intro pins s σ H D I h
  have ok := I.ok
  let xe : Value → Shared → Prop := fun e s1 => wpAny (model X.prog X.w) X.A (noteFrame e X.env) (fun _ s2 => wpAny (model X.prog X.w) X.A (setFlight e none) (fun _ s3 => wpAny (model X.prog X.w) X.A (handleBy e X.env (h0 :: hds)) (SP X pins D) X.xe s3) X.xe s2) X.xe s1
  have tk : Takes (X.tr (X.pn ++ pins) xe) (wAsM X.K i D l) := by
    rintro u s1 ⟨a, B, s0, pins', σ1, H1, cls, d, rfl, J, nb, up, sky, na, os, ag, wish⟩
    have J0 : Inv X pins σ1 H1 s0 := J.ofTry ok
    rw [show (X.tr (X.pn ++ pins) xe).stack = X.env :: X.outer from stk] at sky
    refine Sky.land Zc.steady (by rw [ok.frames, stk]) frm sky fun h2 fly up2 => ?_
    obtain ⟨oe, vs, g, z, dt⟩ := fly.there
    have out : a ∉ frs (X.env :: X.outer) := fun hm => by
      obtain ⟨_, o, g', no⟩ := fly.2.2.1.mem hm
      rw [g] at g'
      cases g'
      exact no _ dt
    refine clauses_go ok nd hi hl (B := B) (cls := cls) (d := d) (s := { s1 with heap := h2 }) { fly := fly, inv := J0.landed nb fly.1 (up.trans up2) os ag, free := na, next := ?_, loc := ?_, far := ?_ } hh wish
    · exact fun h3 fly3 up3 => J0.landed nb fly3.1 ((up.trans up2).trans up3) os ag
    · exact fun e => out (List.mem_filterMap.mpr ⟨X.env, List.mem_cons_self, by rw [frm, e]⟩)
    · exact fun hm => by
        obtain ⟨env, inO, at_⟩ := List.mem_filterMap.mp hm
        exact out (List.mem_filterMap.mpr ⟨env, List.mem_cons_of_mem _ inO, at_⟩)
  refine wpAny_Try_except (wpAny_mono ((bd _ _ xe tk).run [] s σ H D (I.toTry _) h) (fun fl s1 out => ?_) fun e s1 z => z)
  cases fl with
  | ret u => exact let ⟨v, σ1, H1, J, rv, q⟩ := out; ⟨v, σ1, H1, J.ofTry ok, rv, q⟩
  | next => exact let ⟨σ1, H1, J, q⟩ := out; wpAny_execs_nil ⟨σ1, H1, J.ofTry ok, q⟩
  | brk => exact let ⟨σ1, H1, J, q⟩ := out; ⟨σ1, H1, J.ofTry ok, q⟩
  | cont => exact let ⟨σ1, H1, J, q⟩ := out; ⟨σ1, H1, J.ofTry ok, q⟩
end
end J

set_option Elab.async false
set_option linter.all false
set_option maxRecDepth 100000
set_option maxHeartbeats 1010000
/-! JU: what the law's clauses say of a caught error -/
namespace J
open PySem PySem.Spec L2 PyProof.Rows
/-- isinstance(e, c), e the caught error of the class at D, its dict at dd -/
def rIsX (K : PySem.W.Frag) (D a dd : Addr) : List V → Hp → VK → Prop := fun xs H Q => ∃ (c : V) (cv : Value) (b : Bool) (fs : List (Str × V)), xs = [.ref a, c] ∧ (∀ u, RelV c u → u = cv) ∧ PySem.W.kitOne K (.ref D) cv = some b ∧ H dd = some (.xd fs) ∧ Q (.bl b) H
theorem call_isX {X : Cx} {a D dd : Addr} {oe : Obj} {pn : List (Addr × Obj)} (C : ExcC X.K D) (hz : Zc (.ref D) (some dd) oe) (hf : ∃ vs, oe.data = .fields vs) : CallR (X.suite a ((a, oe) :: pn)) (.builtin "isinstance") (rIsX X.K D a dd) := by
  rintro pins s σ H xs us Q I r ⟨c, cv, b, fs, rfl, isC, kit, isD, q⟩
  obtain ⟨u0, u1, rfl, r0, r1⟩ : ∃ u0 u1, us = [u0, u1] ∧ RelV (.ref a) u0 ∧ RelV c u1 := by
    match us, r with
    | _, .cons r0 (.cons r1 .nil) => exact ⟨_, _, rfl, r0, r1⟩
  obtain rfl : u0 = Value.ref a := r0
  obtain rfl : u1 = cv := isC _ r1
  obtain ⟨here, _⟩ := I.pin (a, oe) (List.mem_append_left _ List.mem_cons_self)
  obtain ⟨mA, ns, rel⟩ : ObjOk X.prog X.w H s.heap dd (.xd fs) := I.hok dd _ isD
  obtain ⟨od, atD, _⟩ := lookIn_ns ns
  obtain ⟨vs, dt⟩ := hf
  have inst : PySem.W.InstAt s.heap a oe D (some od) := ⟨here, hz.1, by unfold PySem.W.notCls; rw [dt] <;> rfl, by rw [hz.2]; exact atD⟩
  have hcl : (PySem.W.clsIn X.K D).isSome = true := by
    obtain ⟨cd, e, _⟩ := PySem.W.any_some C.hd
    rw [e]
    rfl
  exact PySem.W.kia_one (PySem.W.kitx_exc hcl C.hg C.hk C.hs C.ha C.hn C.ht C.hm) I.kIn inst kit (fun z => nomatch z) fun tk => ⟨.bl b, H, I.kept (t' := tk) fun _ _ z => z, rfl, q⟩
/-- a clause of the law: except x as e: return [nm, e.f, isinstance(e, b1) and isinstance(e, b2)] -/
structure Cl where
  x : Str
  f : Str
  nm : Str
  b1 : Str
  b2 : Str
structure ClPos where
  p0 : Pos
  p1 : Pos
  p2 : Pos
  p3 : Pos
  p4 : Pos
  p5 : Pos
  p6 : Pos
  p7 : Pos
  p8 : Pos
  p9 : Pos
  p10 : Pos
  p11 : Pos
  p12 : Pos
  p13 : Pos
  p14 : Pos
  p15 : Pos
  j : Nat
def Cl.hd (q : Cl) (p : ClPos) : ExceptHandler := .ExceptHandler (some (.Name q.x p.p0)) (some "e") [.Return (some (.List [.Constant (.str q.nm) p.j p.p1, .Attribute (.Name "e" p.p2) q.f p.p3,
  .BoolOp .And [.Call (.Name "isinstance" p.p4) [.Name "e" p.p5, .Name q.b1 p.p6] [] p.p7, .Call (.Name "isinstance" p.p8) [.Name "e" p.p9, .Name q.b2 p.p10] [] p.p11] p.p12] p.p13)) p.p14] p.p15
/-- what is known of the clause's class -/
structure ClOk (K : PySem.W.Frag) (mg : Str → Option Value) (sc : Scope) (q : Cl) : Prop where
  at_ : mg q.x = some (.ref (He.ga K q.x))
  g : sc.names.lookup q.x = some .globalImplicit
  db : (q.x == ("__debug__" : Str)) = false
  xf : XfC K (He.ga K q.x)
  ec : ExcC K (He.ga K q.x)
  no : PySem.W.findIn K (.ref (He.ga K q.x)) q.f = some none
  g1 : sc.names.lookup q.b1 = some .globalImplicit
  db1 : (q.b1 == ("__debug__" : Str)) = false
  m1 : mg q.b1 = some (.ref (He.ga K q.b1))
  k1 : PySem.W.kitOne K (.ref (He.ga K q.x)) (.ref (He.ga K q.b1)) = some true
  g2 : sc.names.lookup q.b2 = some .globalImplicit
  db2 : (q.b2 == ("__debug__" : Str)) = false
  nn2 : q.b2 ≠ "__name__"
  m2 : mg q.b2 = none
  bt : ∃ ty : String, bootBuiltins q.b2 = some (.type ty) ∧ PySem.W.kitOne K (.ref (He.ga K q.x)) (.type ty) = some true
/-- the clause's suite, read -/
def suiteR (K : PySem.W.Frag) (i : Nat) (q : Cl) : Suite := fun a cls d D σ H => ∃ (dd : Addr) (fs : List (Str × V)) (v : V), cls = .ref (He.ga K q.x) ∧ d = some dd ∧ H dd = some (.xd fs) ∧ fs.lookup q.f = some v ∧ (i < σ.length → σ[i]? = some (some (.ref a))) ∧ ∀ p, H p = none → D.rt (.ref p) (upd H p (.lst [.str q.nm, v, .bl true]))
theorem suite_ok {X : Cx} {q : Cl} {p : ClPos} {i : Nat} (ok : ClOk X.K X.mg X.env.scope q) (hi : X.N[i]? = some "e") (hv : Vis X.env.scope "e") (gi : Gl X "isinstance") (mi : X.mg "isinstance" = none) {a : Addr} {oe : Obj} {cls : Value} {d : Option Addr} {pn : List (Addr × Obj)} (hz : Zc cls d oe) (hf : ∃ vs, oe.data = .fields vs) :
    PSs (X.suite a ((a, oe) :: pn)) [.Return (some (.List [.Constant (.str q.nm) p.j p.p1, .Attribute (.Name "e" p.p2) q.f p.p3,
      .BoolOp .And [.Call (.Name "isinstance" p.p4) [.Name "e" p.p5, .Name q.b1 p.p6] [] p.p7, .Call (.Name "isinstance" p.p8) [.Name "e" p.p9, .Name q.b2 p.p10] [] p.p11] p.p12] p.p13)) p.p14] (suiteR X.K i q a cls d) := by
  constructor
  rintro pins s σ H D I ⟨dd, fs, v, rfl, rfl, isD, lk, hs0, fin⟩
  have hs : σ[i]? = some (some (.ref a)) := hs0 (by
    have e : σ.length = X.N.length := I.len
    rw [e]
    exact (List.getElem?_eq_some_iff.mp hi).1)
  obtain ⟨ty, bty, kty⟩ := ok.bt
  let Y := X.suite a ((a, oe) :: pn)
  have ve : ∀ p : Pos, PE Y (.Name "e" p) (tVar i) := fun p => pe_var hi hv
  have is1 : PE Y (.Call (.Name "isinstance" p.p4) [.Name "e" p.p5, .Name q.b1 p.p6] [] p.p7) _ := pe_callB (X := Y) (call_isX ok.ec hz hf) gi mi (by decide +kernel) (pa_cons (ve p.p5) (pa_cons (pe_glob (X := Y) (v := .ref (He.ga X.K q.b1)) ok.g1 ok.m1 rfl ok.db1) pa_nil))
  have is2 : PE Y (.Call (.Name "isinstance" p.p8) [.Name "e" p.p9, .Name q.b2 p.p10] [] p.p11) _ := pe_callB (X := Y) (call_isX ok.ec hz hf) gi mi (by decide +kernel) (pa_cons (ve p.p9) (pa_cons (pe_bltn (X := Y) (v := .ty ty) ok.g2 ok.m2 bty rfl ok.nn2 ok.db2) pa_nil))
  have all := pss_one (X := Y) (ps_ret (pos := p.p14) (pe_lst (pos := p.p13) (pa_cons (show PE Y (.Constant (.str q.nm) p.j p.p1) (tC (.str q.nm)) from pe_str) (pa_cons (pe_xf (pos := p.p3) ok.xf ok.no hz hf (ve p.p2)) (pa_cons (pe_and (pos := p.p12) is1 (pe_one is2)) pa_nil)))))
  refine all.run pins s σ H D I ?_
  refine ⟨.ref a, hs, rfl, rfl, dd, fs, v, rfl, isD, lk, ?_⟩
  refine ⟨.ref a, hs, .ref (He.ga X.K q.b1), .ref (He.ga X.K q.b1), true, fs, rfl, fun u r => r, ok.k1, isD, true, rfl, ?_⟩
  show if true = true then _ else _
  rw [if_pos rfl]
  refine ⟨.ref a, hs, .ty ty, .type ty, true, fs, rfl, fun u r => r, kty, isD, ?_⟩
  exact ⟨by rw [sizeLine_eq]; simp, fun p0 hp => fin p0 hp⟩
end J

set_option Elab.async false
set_option linter.all false
set_option maxRecDepth 100000
set_option maxHeartbeats 1010000
/-! JV: the law's def that calls what it gets and tells what came -/
namespace J
open PySem PySem.Spec L2 PyProof.Rows LamX
structure GotPos where
  q1 : Pos
  q2 : Pos
  q3 : Pos
  q4 : Pos
  q5 : Pos
  q6 : Pos
  q7 : Pos
  q8 : Pos
  q9 : Pos
  j : Nat
/-- try: g = a() / except ..; return [nm, g] -/
def gotBody (a g nm : Str) (hds : List ExceptHandler) (q : GotPos) : List Stmt :=
  [.Try [.Assign [.Name g q.q1] (.Call (.Name a q.q2) [] [] q.q3) q.q4] hds [] [] q.q5, .Return (some (.List [.Constant (.str nm) q.j q.q6, .Name g q.q7] q.q8)) q.q9]
/-- what an error makes of it -/
def EGot (K : PySem.W.Frag) (cl : List Cl) (Q : VK) : XK := fun cls d H => ∃ q ∈ cl, cls = .ref (He.ga K q.x) ∧ ∃ (dd : Addr) (fs : List (Str × V)) (v : V), d = some dd ∧ H dd = some (.xd fs) ∧ fs.lookup q.f = some v ∧ ∀ p, H p = none → Q (.ref p) (upd H p (.lst [.str q.nm, v, .bl true]))
def TGot (K : PySem.W.Frag) (cl : List Cl) (nm : Str) : (XK → Hp → VK → Prop) → Hp → VK → Prop := fun tl H Q => tl (EGot K cl Q) H fun v H1 => ∀ p, H1 p = none → Q (.ref p) (upd H1 p (.lst [.str nm, v]))
/-- which clause takes which error -/
structure ClsOk (K : PySem.W.Frag) (mg : Str → Option Value) (sc : Scope) (cl : List Cl) : Prop where
  ok : ∀ q ∈ cl, ClOk K mg sc q
  same : ∀ q ∈ cl, ∀ r ∈ cl, q.x = r.x → q = r
  hit : ∀ q ∈ cl, PySem.W.exmOne K (.ref (He.ga K q.x)) (.ref (He.ga K q.x)) = some true
  miss : ∀ q ∈ cl, ∀ r ∈ cl, q.x ≠ r.x → PySem.W.exmOne K (.ref (He.ga K q.x)) (.ref (He.ga K r.x)) = some false
abbrev clList (K : PySem.W.Frag) (i : Nat) (cl : List Cl) : List (Value × Suite) := cl.map fun q => (Value.ref (He.ga K q.x), suiteR K i q)
theorem got_wish {K : PySem.W.Frag} {mg : Str → Option Value} {sc : Scope} {cl : List Cl} {i : Nat} {D : Ends} (C : ClsOk K mg sc cl) {cls : Value} {d : Option Addr} {σ : L2.St} {H : Hp} (h : EGot K cl D.rt cls d H) : ∀ l : List Cl, (∀ r ∈ l, r ∈ cl) → (∃ q ∈ l, q ∈ cl ∧ cls = .ref (He.ga K q.x) ∧ ∃ (dd : Addr) (fs : List (Str × V)) (v : V), d = some dd ∧ H dd = some (.xd fs) ∧ fs.lookup q.f = some v ∧ ∀ p, H p = none → D.rt (.ref p) (upd H p (.lst [.str q.nm, v, .bl true]))) →
    wAsM K i D (clList K i l) cls d σ H
  | [], _, z => by
    obtain ⟨q, hq, _⟩ := z
    exact absurd hq (by simp)
  | r :: l, sub, z => by
    obtain ⟨q, hq, qc, rfl, dd, fs, v, rfl, isD, lk, fin⟩ := z
    by_cases e : q.x = r.x
    · have qr := C.same q qc r (sub r List.mem_cons_self) e
      subst qr
      exact ⟨true, C.hit q qc, fun _ a na => ⟨dd, fs, v, rfl, rfl, isD, lk, fun hl => by rw [List.length_set] at hl; rw [List.getElem?_set_self hl], fin⟩, fun z => by cases z⟩
    · refine ⟨false, C.miss q qc r (sub r List.mem_cons_self) e, (fun z => by cases z), fun _ => ?_⟩
      refine got_wish C h l (fun s hs => sub s (List.mem_cons_of_mem _ hs)) ⟨q, ?_, qc, rfl, dd, fs, v, rfl, isD, lk, fin⟩
      rcases List.mem_cons.mp hq with y | y
      · exact absurd (congrArg Cl.x y) e
      · exact y
theorem clauses_ok {X : Cx} {i : Nat} {cl : List Cl} {ps : List ClPos} (C : ∀ q ∈ cl, ClOk X.K X.mg X.env.scope q) (hi : X.N[i]? = some "e") (hv : Vis X.env.scope "e") (gi : Gl X "isinstance") (mi : X.mg "isinstance" = none) (len : ps.length = cl.length) : HdA X "e" ((cl.zip ps).map fun z => z.1.hd z.2) (clList X.K i cl) := by
  induction cl generalizing ps with
  | nil => exact .nil
  | cons q cl ih =>
    cases ps with
    | nil => cases len
    | cons p ps =>
      have o := C q List.mem_cons_self
      refine .cons (c := .ref (He.ga X.K q.x)) ⟨o.g, o.db, .inl o.at_⟩ (fun a oe cls d pn hz hf => suite_ok (p := p) o hi hv gi mi hz hf) (ih (fun r hr => C r (List.mem_cons_of_mem _ hr)) (by simpa using len))
/-- the def keeps its word -/
theorem got_gives {X : Cx} {Ng : List Str} {x a g nm q : Str} {sg : Scope} {at_ : Addr} {cdg : Value} {i m : Nat} {cl : List Cl} {ps : List ClPos} {gp : GotPos} (C : ClsOk X.K X.mg sg cl) (ne : cl ≠ []) (len : ps.length = cl.length) (nd : Ng.Nodup)
    (hi : Ng[i]? = some "e") (hm : Ng[m]? = some g) (kE : sg.names.lookup ("e" : Str) = some .local) (kG : sg.names.lookup g = some .local) (gi : sg.names.lookup ("isinstance" : Str) = some .globalImplicit) (mi : X.mg "isinstance" = none) (h0 : ∀ f : Addr, (L2.start Ng [V.ref f])[0]? = some (some (V.ref f))) (hml : m < Ng.length) (hl0 : (L2.start Ng [V.ref 0]).length = Ng.length)
    (hd1 : (g == ("__debug__" : Str)) = false) (hd2 : (g == ("__classdict__" : Str)) = false) (hsw : ∀ Y : Cx, swapsWith (.Call (.Name a gp.q2) [] [] gp.q3) (some (.Name g gp.q1)) gp.q4.line Y.env = pure false) :
    GivesTo X Ng x sg at_ cdg (gotBody a g nm ((cl.zip ps).map fun z => z.1.hd z.2) gp) a q (TGot X.K cl nm) := by
  intro f c' s H Q tl act hc h
  let Z := (cxOf C8.CX0 X.prog X.w X.K X.mg X.base Ng x sg at_ cdg X.A X.stack s H C8.E0).nox
  have lenS : (L2.start Ng [V.ref f]).length = Ng.length := by
    have e : (L2.start Ng [V.ref f]).length = (L2.start Ng [V.ref 0]).length := by simp [L2.start]
    rw [e, hl0]
  obtain ⟨c0, cs, ec⟩ : ∃ c0 cs, cl = c0 :: cs := by
    cases cl with
    | nil => exact absurd rfl ne
    | cons c0 cs => exact ⟨c0, cs, rfl⟩
  obtain ⟨p0, pr, ep⟩ : ∃ p0 pr, ps = p0 :: pr := by
    cases ps with
    | nil => rw [ec] at len; cases len
    | cons p0 pr => exact ⟨p0, pr, rfl⟩
  have hh : HdA Z "e" ((cl.zip ps).map fun z => z.1.hd z.2) (clList X.K i cl) := clauses_ok (X := Z) C.ok hi (.inl kE) gi mi len
  have zs : (cl.zip ps).map (fun z => z.1.hd z.2) = c0.hd p0 :: (cs.zip pr).map fun z => z.1.hd z.2 := by rw [ec, ep]; rfl
  rw [zs] at hh
  unfold gotBody
  rw [zs]
  let tb : WX → TS := fun W D σ H => ∃ Ech : XK, (∀ cls d σ' H', Ech cls d H' → W cls d σ' H') ∧ σ[0]? = some (some (.ref f)) ∧ H c' = some (CodeO c' q) ∧ tl Ech H (fun v H1 => D.nx (σ.set m (some v)) H1)
  have body : ∀ (W : WX) (pn : List (Addr × Obj)) (xe : Value → Shared → Prop), Takes (Z.tr pn xe) W → PSs (Z.tr pn xe) [.Assign [.Name g gp.q1] (.Call (.Name a gp.q2) [] [] gp.q3) gp.q4] (tb W) := by
    intro W pn xe tk
    constructor
    rintro pins s1 σ1 H1 D I ⟨Ech, hW, e0, e1, e2⟩
    have st := pss_one (ps_set (X := Z.tr pn xe) (i := m) (pos := gp.q4) (pos' := gp.q1) nd hm (.inl kG) (act W pn xe Ech gp.q2 gp.q3 tk hW) (hsw _) (.inr kG))
    exact st.run pins s1 σ1 H1 D I ⟨e0, e1, e2⟩
  have tr := ps_tryM (X := Z) (pos := gp.q5) rfl rfl nd hi kE body hh
  refine ⟨_, pss_cons tr (pss_one (ps_ret (pos := gp.q9) (pe_lst (pos := gp.q8) (pa_cons (show PE Z (.Constant (.str nm) gp.j gp.q6) (tC (.str nm)) from pe_str) (pa_cons (pe_var (X := Z) (pos := gp.q7) hm (.inl kG) hd1 hd2) pa_nil))))), ?_⟩
  have same : (fun (v : V) (H1 : Hp) => tRet (tLst (tCons (tC (.str nm)) (tCons (tVar m) tNil))) { nx := fun _ H' => Q .non H', rt := Q } ((L2.start Ng [V.ref f]).set m (some v)) H1) = fun v H1 => ∀ p, H1 p = none → Q (.ref p) (upd H1 p (.lst [.str nm, v])) := by
    funext v H1
    have at_m : ((L2.start Ng [V.ref f]).set m (some v))[m]? = some (some v) := List.getElem?_set_self (by rw [lenS]; exact hml)
    refine propext ⟨fun z => ?_, fun z => ⟨v, at_m, by rw [sizeLine_eq]; simp, z⟩⟩
    obtain ⟨v', isV, _, fin⟩ := z
    rw [at_m] at isV
    cases isV
    exact fin
  refine ⟨EGot X.K cl Q, fun cls d σ' H' z => got_wish (D := { nx := _, rt := Q }) C z cl (fun _ hr => hr) ?_, h0 f, hc, ?_⟩
  · obtain ⟨q, hq, z1, z2⟩ := z
    exact ⟨q, hq, hq, z1, z2⟩
  · show tl (EGot X.K cl Q) H (fun (v : V) (H1 : Hp) => tRet (tLst (tCons (tC (.str nm)) (tCons (tVar m) tNil))) { nx := fun _ H' => Q .non H', rt := Q } ((L2.start Ng [V.ref f]).set m (some v)) H1)
    rw [same]
    exact h
end J

set_option Elab.async false
set_option linter.all false
set_option maxRecDepth 100000
set_option maxHeartbeats 1010000
/-! JW: a lambda handed to such a def -/
namespace J
open PySem PySem.Spec L2 PyProof.Rows LamX
section
variable {X : Cx} {s : Shared} {H : Hp} {σ : L2.St} {pins : List (Addr × Obj)}
/-- the lambda is called in the def that got it -/
theorem act_ok {Ng : List Str} {qg : Str} {sg : Scope} {g f c' : Addr} {cdg pm ctv : Value} {params : Arguments} {body : Expr} {scope : Scope} {k i : Nat} {a : Str} {pn : List (Addr × Obj)} {xe : Value → Shared → Prop} {W : WX} {E : XK} {tb : TE} {p1 p2 : Pos} (I : Inv X pins σ H s) (L : LamS X.env.scope scope)
    (made : s.heap.get? f = some (PySem.W.kla_obj "<lambda>" (X.env.qual ++ "<lambda>") params body scope (cloFrom X.env.cells scope.names []) pm c' ctv)) (new : H f = none) (out : f ∉ frs X.stack)
    (none_ : bindArgs (PySem.W.kla_fn "<lambda>" (X.env.qual ++ "<lambda>") params body scope (cloFrom X.env.cells scope.names []) pm (.ref c') ctv) ⟨[], []⟩ = pure [])
    (tk : Takes ((cxOf C8.CX0 X.prog X.w X.K X.mg X.base Ng qg sg g cdg X.A X.stack s H C8.E0).tr pn xe) W) (le : ∀ cls d σ' H', E cls d H' → W cls d σ' H') (hr : Room (k + 1) (X.A.deeper (envOfC qg sg s.heap.objs.size g cdg)))
    (inner : ∀ (A : Around) (outer : List Env) (s : Shared) (H : Hp), Room k (A.deeper (lamEnv X scope s.heap.objs.size f c')) → A.guards = X.A.guards → PE (lamCx X A outer s H E scope f c') body tb)
    (hN : Ng[i]? = some a) (hv : Vis sg a) (d1 : (a == ("__debug__" : Str)) = false) (d2 : (a == ("__classdict__" : Str)) = false) :
    PE ((cxOf C8.CX0 X.prog X.w X.K X.mg X.base Ng qg sg g cdg X.A X.stack s H C8.E0).tr pn xe) (.Call (.Name a p1) [] [] p2)
      (fun sl Hn Q => sl[i]? = some (some (.ref f)) ∧ Hn c' = some (CodeO c' (X.env.qual ++ "<lambda>")) ∧ tb σ Hn Q) := by
  constructor
  rintro pinsZ sZ σZ HZ Q IZ ⟨slot, code, rd⟩
  have nm := (pe_var (X := (cxOf C8.CX0 X.prog X.w X.K X.mg X.base Ng qg sg g cdg X.A X.stack s H C8.E0).tr pn xe) (pos := p1) hN hv d1 d2).run pinsZ sZ σZ HZ (fun v H1 => v = .ref f ∧ H1 = HZ) IZ ⟨.ref f, slot, rfl, rfl⟩
  refine wpAny_Call_Name_kw (thn nm ?_)
  rintro u s1 ⟨v, H1, I1, ru, rfl, rfl⟩
  obtain rfl : u = Value.ref f := ru
  have still := I1.base.keep f _ made new out (fun z => nomatch (show f ∈ ([] : List Addr) from z))
  refine PySem.W.callWith_F0 ⟨_, _, _, _, still⟩ ?_
  obtain ⟨⟨oc, vs, t, c1, c2, c3⟩, _, _⟩ := I1.hok c' _ code
  have ran : codeAny (model X.prog X.w) (X.A.deeper (envOfC qg sg s.heap.objs.size g cdg)) (.call (.ref f) ⟨[], []⟩) (CR (L2.CX X.prog X.w) (envOfC qg sg s.heap.objs.size g cdg :: X.stack) X.prog X.w H1 s1 Q E) s1 := by
    refine PySem.W.kla_callFunE hr.depth still rfl L.co L.gen rfl ⟨c', oc, vs, t, rfl, c1, c2, c3⟩ ?_
    rw [none_]
    refine wpAny_pure (wpAny_newFunctionEnv (fun y hy => (L.own y hy).2) (fun y hy => absurd hy (by simp)) (fun h1 ns sb => ⟨I1.nolimit.fresh _ sb, ?_⟩) L.kind)
    have keep : ∀ b o, s1.heap.get? b = some o → h1.get? b = some o := fun b o q => sb.extBut b o (Nat.ne_of_lt (Heap.lt_size q)) (Heap.get?_push_of_some _ q)
    have J := lam_start2 (E := E) (f := f) (c' := c') (tk := s1.toks + ([] : List (Str × Value)).length) I L I1.env0 hr.hd I1.base ns keep
    refine PySem.W.kla_codeExpr (wpAny_mono ((inner _ _ s1 H1 (hr.deeper _) rfl).run [] _ _ H1 Q J rd) ?_ fun e s' z => z)
    rintro v s' ⟨v', H', J', rv, q⟩
    exact ⟨v', H', J'.os, J'.bare, J'.base, J'.hok, rv, q⟩
  refine wpAny_call (codeAny_mono ran fun r s' out => ?_)
  match r, out with
  | .error e, z => exact passes_call tk le pinsZ σZ H1 s1 e s' I1 z
  | .ok (.ret u), z => exact I1.after z
end
section
variable {X : Cx}
/-- x(lambda: body) -/
theorem lam_ok {T : List (Addr × Str)} {TT : (XK → Hp → VK → Prop) → Hp → VK → Prop} {x a : Str} {g c P : Addr} {k : Nat} {pg : Arguments} {bg : List Stmt} {sg : Scope} {fd : FuncData} {Ng : List Str} {params : Arguments} {body : Expr} {scope : Scope} {t : XK → TE} {p lpos pos : Pos}
    (hg : Gl X x) (hm : X.mg x = some (.ref g)) (kp : PySem.W.keepIn X.K (.ref g) = true) (F : FunD X.K x x pg bg sg [] [] g fd) (hb : L2.Binds X.K fd [a] []) (Sg : FnScope Ng [a] sg) (hN : Ng[0]? = some a) (hv : Vis sg a)
    (gives : ∀ cdv, GivesTo X Ng x sg g cdv bg a (X.env.qual ++ "<lambda>") TT) (TB : TabB X.base X.mg c P) (cd : X.env.code = .ref c) (inT : (P, X.env.qual ++ "<lambda>") ∈ T) (uniq : ∀ p ∈ T, p.1 = P → p.2 = X.env.qual ++ "<lambda>") (hr : Room (k + 2) X.A) (L : LamS X.env.scope scope)
    (nodef : defaultsOf params X.env = ([], [])) (nobind : ∀ (q : Str) (cl : List (Str × Addr)) (pm cv ctv : Value), bindArgs (PySem.W.kla_fn "<lambda>" q params body scope cl pm cv ctv) ⟨[], []⟩ = pure [])
    (inner : ∀ (A : Around) (outer : List Env) (s : Shared) (H : Hp) (E : XK) (f c' : Addr), Room k (A.deeper (lamEnv X scope s.heap.objs.size f c')) → A.guards = X.A.guards → PE (lamCx X A outer s H E scope f c') body (t E))
    (d0 : (x == ("__debug__" : Str)) = false) (d1 : (a == ("__debug__" : Str)) = false) (d2 : (a == ("__classdict__" : Str)) = false) : PE X (.Call (.Name x p) [.Lambda params body scope lpos] [] pos) (tLam T TT t) := by
  rcases F.ex with ⟨_, _, _, _, _, _, _, cdv, _, _, rfl, lk, hcd, _, _⟩
  constructor
  rintro pins s σ H Q I ⟨hT, h⟩
  refine wpAny_Call_Name_kw (ld_glob I hg hm ?_ d0)
  refine PySem.W.callWith_K (h₀ := X.base) I.ok.mod.kin kp ?_ rfl rfl
  refine Calls.spliced_cons (lam_make2 I TB cd inT uniq hT nodef (L.has I.ok) ?_)
  intro f c' pm' ctv H1 s1 I1 more T1 made new out code
  refine Calls.spliced_nil (And.intro I1.kIn ?_)
  have ran : codeAny (model X.prog X.w) X.A (.call (.ref g) ⟨[.ref f], []⟩) (CR C8.CX0 X.stack X.prog X.w H1 s1 Q C8.E0) s1 := by
    refine run_ofS (N := Ng) (ps := [a]) (us := [.ref f]) (vs := [.ref f]) lk hcd Sg hr I1.env0 (hb s1 [.ref f] I1.kIn rfl) (.cons rfl .nil) rfl fun room => ?_
    obtain ⟨t', w1, w2⟩ := gives cdv f c' s1 H1 Q (fun E H' Q' => t E σ H' Q') (fun W pn xe E q1 q2 tk le => act_ok (i := 0) I1 L made new out (nobind _ _ _ _ _) tk le room (fun A outer s H r2 gu => inner A outer s H E f c' r2 gu) hN hv d1 d2) code (h H1 more T1)
    exact ⟨t', w1.nox, w2⟩
  refine wpAny_call (codeAny_mono ran fun r s2 z => ?_)
  match r, z with
  | .error e, z => exact (show False from z).elim
  | .ok (.ret u), z => exact I1.after z
end
end J

set_option Elab.async false
set_option linter.all false
set_option maxRecDepth 100000
set_option maxHeartbeats 1010000
/-! JX: the law's got(lambda: e), as one expression -/
namespace J
open PySem PySem.Spec L2 PyProof.Rows LamX
/-- a clause: the class, the field, the text, the two bases -/
structure GC where
  c : Nat
  f : Nat
  nm : List Nat
  b1 : Str
  b2 : Str
def GC.cl (T : Tab) (q : GC) : Cl := { x := T.cn q.c, f := T.fn q.f, nm := ⟨q.nm.toArray⟩, b1 := q.b1, b2 := q.b2 }
def gcAt (c : Nat) : List GC → Option GC
  | [] => none
  | q :: r => if q.c = c then some q else gcAt c r
theorem gcAt_mem {c : Nat} {q : GC} : ∀ {cs : List GC}, gcAt c cs = some q → q ∈ cs ∧ q.c = c
  | [], e => by cases e
  | r :: cs, e => by
    unfold gcAt at e
    split at e
    · rename_i h
      cases e
      exact ⟨List.mem_cons_self, h⟩
    · exact (gcAt_mem e).imp (List.mem_cons_of_mem _) id
def iGot (cs : List GC) (nm : List Nat) (ie : IE) : IE := fun ρ S => match ie ρ S with
  | .ok d S' => .ok (.lst [.str nm, d]) S'
  | .ex c fs S' => (match gcAt c cs with
    | some q => (match getF q.f fs with
      | some d => .ok (.lst [.str q.nm, d, .bl true]) S'
      | none => .no)
    | none => .no)
  | .no => .no
theorem je_got {T : Tab} {X : Cx} {W : WX} {e : Expr} {cs : List GC} {nm : List Nat} {ie : IE} (lam : PE X e (tLam (T.tabs X.K) (TGot X.K (cs.map (GC.cl T)) ⟨nm.toArray⟩) fun E => tE T X.K (fun cls d _ H => E cls d H) ie)) : JE T X W e (iGot cs nm ie) := by
  refine PE.mono lam fun σ H Q ⟨ρ, F, S, ι, G, em, sr, h⟩ => ⟨em.tb, fun H1 more tb => ⟨ρ, F, S, ι, G, em.lam more tb, sr, ?_⟩⟩
  unfold iGot at h
  cases q : ie ρ S with
  | no => rw [q] at h; exact h.elim
  | ok d S1 =>
    rw [q] at h
    intro v ι' G' H' em' x' r p hp
    obtain ⟨em2, x2⟩ := em'.frz (o := .lst [.str ⟨nm.toArray⟩, v]) hp
    refine h (.ref p) ι' _ _ em2 (x'.trans x2) ?_
    simp only [DR]
    exact ⟨p, _, rfl, upd_same, DRs.cons (by simp only [DR]) (DRs.cons (r.mono x2.1 x2.2) DRs.nil)⟩
  | ex c fs S1 =>
    rw [q] at h
    dsimp only at h
    cases g : gcAt c cs with
    | none => rw [g] at h; exact h.elim
    | some z =>
      rw [g] at h
      dsimp only at h
      cases w : getF z.f fs with
      | none => rw [w] at h; exact h.elim
      | some d =>
        rw [w] at h
        obtain ⟨inC, rfl⟩ := gcAt_mem g
        intro dd ι' G' H' em' x' xr
        rcases xr with ⟨rfl, _⟩ | ⟨da, vs, rfl, isD, fr⟩
        · cases w
        · obtain ⟨v, lk, dv⟩ := getF_ok fr w
          refine ⟨z.cl T, List.mem_map.mpr ⟨z, inC, rfl⟩, rfl, da, vs, v, rfl, em'.sub _ _ isD, lk, fun p hp => ?_⟩
          obtain ⟨em2, x2⟩ := em'.frz (o := .lst [.str (z.cl T).nm, v, .bl true]) hp
          refine h (.ref p) ι' _ _ em2 (x'.trans x2) ?_
          simp only [DR]
          exact ⟨p, _, rfl, upd_same, DRs.cons (by simp only [DR]; rfl) (DRs.cons (dv.mono x2.1 x2.2) (DRs.cons (by simp only [DR]) DRs.nil))⟩
end J

set_option Elab.async false
set_option linter.all false
set_option maxRecDepth 100000
set_option maxHeartbeats 1010000
/-! JY: a def that makes lambdas: its code object is known -/
namespace J
open PySem PySem.Spec L2 PyProof.Rows LamX
/-- the code object of the function at f -/
def codeAt (K : PySem.W.Frag) (f : Addr) : Addr := match K.lookup f with
  | some ⟨_, _, .func data, _⟩ => (match data.code with
    | .ref c => c
    | _ => 0)
  | _ => 0
theorem codeAt_eq {K : PySem.W.Frag} {f : Addr} {oc : Value} {od : Option Addr} {sl : Array (Option Value)} {fd : FuncData} {q : Str} (lk : K.lookup f = some ⟨oc, od, .func fd, sl⟩) (h : PySem.W.codeIn K fd.code q = true) : fd.code = .ref (codeAt K f) := by
  obtain ⟨c, e⟩ := He.codeIn_ref h
  unfold codeAt
  rw [lk]
  show fd.code = .ref (match fd.code with | .ref c => c | _ => 0)
  rw [e]
theorem cT_at (K : PySem.W.Frag) (x : Str) : (He.cT K (x, none)).1 = codeAt K (He.ga K x) := rfl
section
variable {w : World} {P : Program} {K : PySem.W.Frag} {base : Heap} {mg : Str → Option Value} {T : Tab} {x qual : Str} {params : Arguments} {body : List Stmt} {scope : Scope} {dvs : List V} {kws : List (Str × V)} {f : Addr} {fd : FuncData}
theorem fng_ofc {N ps : List Str} {k : Nat} {sp : Sp} (F : FunD K x qual params body scope dvs kws f fd) (S : FnScope N ps scope) (len : ∀ vs H Q E, sp vs H Q E → vs.length = ps.length)
    (hb : ∀ (A : Around) (fr : List Env) (s : Shared) (H : Hp) (vs : List V) (Q : VK) (E : XK), Room k (A.deeper (envOfC qual scope s.heap.objs.size f (.ref (codeAt K f)))) → A.guards = some [] → sp vs H Q E →
      ∃ t, PSs (cxOf (L2.CX P w) P w K mg base N qual scope f (.ref (codeAt K f)) A fr s H E) body t ∧ t { nx := fun _ H' => Q .non H', rt := Q } (L2.start N vs) H) : FnG P w K mg base (k + 1) f fd ps sp := by
  rcases F.ex with ⟨_, _, _, _, _, _, _, cdv, _, _, rfl, lk, hcd, _, _⟩
  have isC : cdv = .ref (codeAt K f) := codeAt_eq lk hcd
  subst isC
  constructor
  · exact len
  intro A fr s H ar us vs Q E room gd en bd rel want
  have old : ∀ b o, base.get? b = some o → s.heap.get? b = some o := fun b o q => (en.bs b o q).1
  have KI := en.mod.kin.keeps old
  have NL := en.mod.nolimit.keeps old
  have kinds : ∀ y ∈ ps.zip us, scope.names.lookup y.1 = some .local ∨
      (scope.names.lookup y.1 = some .cell ∧ ((cellsFrom (s.heap.objs.size + 1) scope.names []).lookup y.1).isSome = true) := by
    rintro ⟨n, v⟩ hm
    rcases S.par n (List.of_mem_zip hm).1 with q | q
    · left; exact q
    · right; exact ⟨q, PySem.W.cellsFrom_some _ _ _ (.inl q)⟩
  refine codeAny_call_function room.depth (KI _ _ lk) rfl S.co S.gen rfl (PySem.W.codeRec_of KI hcd) (bd _ _ _ _ ?_)
  refine wpAny_newFunctionEnv_cells S.kind kinds ?_
  intro env henv s1 ic
  subst henv
  refine ⟨NL.keeps ic.toInCall.keep, codeAny_func ?_⟩
  obtain ⟨t, ht, hq⟩ := hb A fr s H vs Q E (room.deeper _) gd want
  have I := inv_start (CX := L2.CX P w) (E := E) S room.hd en (len _ _ _ _ want) rel ic
  refine wpAny_mono (ht.run [] s1 _ H _ I hq) ?_ (fun e s' z => z)
  intro fl s' z
  cases fl with
  | ret u => exact let ⟨v, σ', H', J, rv, q⟩ := z; ⟨v, H', J.os, J.bare, J.base, J.hok, rv, q⟩
  | next => exact let ⟨σ', H', J, q⟩ := z; ⟨V.non, H', J.os, J.bare, J.base, J.hok, rfl, q⟩
  | brk => exact let ⟨_, _, _, q⟩ := z; q.elim
  | cont => exact let ⟨_, _, _, q⟩ := z; q.elim
theorem fn_jc {N ps : List Str} {k : Nat} {is : IS} (keep : Bool) (F : FunD K x qual params body scope dvs kws f fd) (S : FnScope N ps scope)
    (hb : ∀ (A : Around) (fr : List Env) (s : Shared) (H : Hp) (E : XK), Room k (A.deeper (envOfC qual scope s.heap.objs.size f (.ref (codeAt K f)))) → A.guards = some [] →
      JSs T (cxOf (L2.CX P w) P w K mg base N qual scope f (.ref (codeAt K f)) A fr s H E) (fun c d _ H => E c d H) body is) : FnG P w K mg base (k + 1) f fd ps (spJ T K ps.length (defJ N.length keep is)) := by
  refine fng_ofc F S (fun vs H Q E h => h.1) (fun A fr s H vs Q E hr gd h => ⟨_, hb A fr s H E hr gd, ?_⟩)
  obtain ⟨_, ds, Fr, S0, ι, G, em, dr, h⟩ := h
  refine ⟨startR N.length ds, Fr, S0, ι, G, em, SR.start dr, ?_⟩
  unfold defJ at h
  cases q : is (startR N.length ds) S0 with
  | no => rw [q] at h; exact h.elim
  | ex c fs S1 => rw [q] at h; exact h.elim
  | ok fl S1 =>
    rw [q] at h
    cases fl with
    | nx ρ => exact fun σ' ι' G' H' em' x' sr' => h .non ι' G' H' (fin_em em') x' (by simp only [DR])
    | rt d => exact fun v ι' G' H' em' x' r' => h v ι' G' H' (fin_em em') x' r'
    | xx c fs ρ => exact fun dd σ' ι' G' H' em' x' sr' xr => h dd ι' G' H' (fin_em em') x' xr
    | bk ρ => exact h.elim
    | ct ρ => exact h.elim
end
/-- the lambda's body -/
theorem lam_in {T : Tab} {X : Cx} {A : Around} {outer : List Env} {s : Shared} {H : Hp} {E : XK} {scope : Scope} {f c' : Addr} {k : Nat} {body : Expr} {ie : IE} (g : X.A.guards = some []) (room : Room k (A.deeper (lamEnv X scope s.heap.objs.size f c'))) (gu : A.guards = X.A.guards)
    (go : Rg k (lamCx X A outer s H E scope f c').A → Takes (lamCx X A outer s H E scope f c') (fun cls d _ H => E cls d H) → JE T (lamCx X A outer s H E scope f c') (fun cls d _ H => E cls d H) body ie) :
    PE (lamCx X A outer s H E scope f c') body (tE T X.K (fun cls d _ H => E cls d H) ie) := go ⟨room, gu.trans g⟩ (takes_of rfl rfl rfl rfl)
/-! ### facts of the clauses -/
def exFB (K : PySem.W.Frag) (x f b1 : Str) (b2 : String) : Bool := xfB K (He.ga K x) && (decide (PySem.W.findIn K (.ref (He.ga K x)) f = some none) && (decide (PySem.W.findIn K (.ref (He.ga K x)) "__class__" = some (some (.builtin "object.__class__"))) && (decide (PySem.W.specialIn K (.builtin "object.__class__") "__get__" = some (some (.builtin "getset_descriptor.__get__"))) &&
  (decide (PySem.W.takesIn K (.builtin "object.__class__") = some true) && (decide (PySem.W.mroIn K (He.ga K x) (.type "object") = some true) && (decide (PySem.W.kitOne K (.ref (He.ga K x)) (.ref (He.ga K b1)) = some true) && decide (PySem.W.kitOne K (.ref (He.ga K x)) (.type b2) = some true)))))))
structure ExF (K : PySem.W.Frag) (x f b1 : Str) (b2 : String) : Prop where
  xf : XfC K (He.ga K x)
  ec : ExcC K (He.ga K x)
  no : PySem.W.findIn K (.ref (He.ga K x)) f = some none
  k1 : PySem.W.kitOne K (.ref (He.ga K x)) (.ref (He.ga K b1)) = some true
  k2 : PySem.W.kitOne K (.ref (He.ga K x)) (.type b2) = some true
theorem exFB_ok {K : PySem.W.Frag} {x f b1 : Str} {b2 : String} (h : exFB K x f b1 b2 = true) : ExF K x f b1 b2 := by
  simp only [exFB, Bool.and_eq_true, decide_eq_true_eq] at h
  obtain ⟨h0, y1, y2, y3, y4, y5, y6, y7⟩ := h
  have z := xfB_ok h0
  exact ⟨z, ⟨z.ga, z.gg, z.exC, z.hdC, y2, y3, y4, y5⟩, y1, y6, y7⟩
theorem clOk_of {K : PySem.W.Frag} {mg : Str → Option Value} {sc : Scope} {q : Cl} {ty : String} (e : ExF K q.x q.f q.b1 ty) (m : mg q.x = some (.ref (He.ga K q.x))) (m1 : mg q.b1 = some (.ref (He.ga K q.b1))) (m2 : mg q.b2 = none) (bt : bootBuiltins q.b2 = some (.type ty))
    (g : sc.names.lookup q.x = some .globalImplicit) (g1 : sc.names.lookup q.b1 = some .globalImplicit) (g2 : sc.names.lookup q.b2 = some .globalImplicit) (db : (q.x == ("__debug__" : Str)) = false) (db1 : (q.b1 == ("__debug__" : Str)) = false) (db2 : (q.b2 == ("__debug__" : Str)) = false) (nn : q.b2 ≠ "__name__") : ClOk K mg sc q :=
  ⟨m, g, db, e.xf, e.ec, e.no, g1, db1, m1, e.k1, g2, db2, nn, m2, ty, bt, e.k2⟩
/-! ### facts of a class that is raised -/
def exIB (K : PySem.W.Frag) (x f : Str) : Bool := raiB K (He.ga K x) && (decide (PySem.W.findIn K (.ref (He.ga K x)) "__init__" = some (some (.ref (He.ma K (He.ga K x) "__init__")))) && (decide (PySem.W.typeIn K (.ref (He.ma K (He.ga K x) "__init__")) = some (.type "function")) && decide (PySem.W.findIn K (.ref (He.ga K x)) f = some none)))
structure ExI (K : PySem.W.Frag) (x f : Str) : Prop where
  oex : OexC K (He.ga K x)
  ini : PySem.W.findIn K (.ref (He.ga K x)) "__init__" = some (some (.ref (He.ma K (He.ga K x) "__init__")))
  ty : PySem.W.typeIn K (.ref (He.ma K (He.ga K x) "__init__")) = some (.type "function")
  no : PySem.W.findIn K (.ref (He.ga K x)) f = some none
theorem exIB_ok {K : PySem.W.Frag} {x f : Str} (h : exIB K x f = true) : ExI K x f := by
  simp only [exIB, Bool.and_eq_true, decide_eq_true_eq] at h
  exact ⟨raiB_ok h.1, h.2.1, h.2.2.1, h.2.2.2⟩
end J

set_option Elab.async false
set_option linter.all false
set_option maxRecDepth 100000
set_option maxHeartbeats 1010000
/-! JZ: {} -/
namespace J
open PySem PySem.Spec L2
def iDct0 : IE := fun _ => M.ret (.dct [] [])
theorem je_dct0 {T : Tab} {X : Cx} {W : WX} {pos : Pos} : JE T X W (.Dict [] [] pos) iDct0 := by
  refine PE.mono pe_dnewK fun σ H Q ⟨ρ, F, S, ι, G, em, sr, h⟩ => fun p hp => ?_
  obtain ⟨em2, x2⟩ := em.frz (o := .dK []) hp
  refine h (.ref p) ι _ _ em2 x2 ?_
  simp only [DR]
  exact ⟨p, [], rfl, rfl, upd_same, DRs.nil⟩
/-- -n -/
def iNegC (n : Int) : IE := iC (.int (-n))
theorem je_neg {T : Tab} {X : Cx} {W : WX} {n : Int} {k : Nat} {p pos : Pos} : JE T X W (.UnaryOp .USub (.Constant (.int n) k p) pos) (iNegC n) := by
  refine PE.mono (pe_un un_neg pe_int) fun σ H Q ⟨ρ, F, S, ι, G, em, sr, h⟩ => ?_
  exact ⟨n, rfl, Thn.ok h em (by simp only [DR])⟩
end J

set_option Elab.async false
set_option linter.all false
set_option maxRecDepth 100000
set_option maxHeartbeats 1010000
/-! JZa: a list that is a sum and changes; extend; upper -/
namespace J
open PySem PySem.Spec L2
section
variable {T : Tab} {K : PySem.W.Frag}
def addM : OpB := fun x y S => match seqL x S, seqL y S with
  | some xs, some ys => if xs.length + ys.length ≤ 100000 then .ok (.ref S.next) (S.alloc (.lst (xs ++ ys))) else .no
  | _, _ => .no
theorem addM_ok : OpSM T K rCat addM := by
  intro F S ι G H x y vx vy W σ Q em dx dy h
  unfold addM at h
  split at h
  · rename_i xs ys ex ey
    split at h
    · rename_i hc
      obtain ⟨a, va, rfl, ha, ra⟩ := seqL_ok em dx ex
      obtain ⟨b, vb, rfl, hb, rb⟩ := seqL_ok em dy ey
      refine ⟨a, b, va, vb, rfl, rfl, ha, hb, by rw [← ra.length, ← rb.length]; exact sz_of hc, fun p hp => ?_⟩
      obtain ⟨em2, x2, hn⟩ := em.alloc (o := .lst (xs ++ ys)) (u := .lst (va ++ vb)) hp ⟨_, rfl, ra.append rb⟩
      exact h _ _ _ _ em2 x2 (by simp only [DR]; exact ⟨p, hn, rfl⟩)
    · exact h.elim
  · exact h.elim
def lstExt : OpM
  | .ref n, [y] => fun S => match S.get n, seqL y S with
    | some (.lst xs), some ys => if xs.length + ys.length ≤ 100000 then .ok .non (S.set n (.lst (xs ++ ys))) else .no
    | _, _ => .no
  | _, _ => M.no
theorem lstExt_ok : MtS T K rExtend lstExt := by
  intro F S ι G H x xs vx vs W σ Q em dx dr h
  unfold lstExt at h
  split at h
  · rename_i n y
    obtain ⟨v, rfl, r⟩ := dr.one
    split at h
    · rename_i ds ys e ey
      split at h
      · rename_i hl
        obtain ⟨a, u, rfl, ha, hu, us, rfl, hr⟩ := obj_at em dx e
        obtain ⟨b, vb, rfl, hb, rb⟩ := seqL_ok em r ey
        refine ⟨a, b, us, vb, rfl, rfl, hu, hb, by rw [← hr.length, ← rb.length]; exact sz_of hl, ?_⟩
        exact h _ _ _ _ (em.set (by rw [e]; rfl) ha ⟨_, rfl, hr.append rb⟩) (Ext.refl _ _) (by simp only [DR])
      · exact h.elim
    · exact h.elim
  · exact h.elim
def upC (c : Nat) : Nat := if 97 ≤ c ∧ c ≤ 122 then c - 32 else c
def strUpper : OpM
  | .str a, [] => if a.all (· < 128) = true ∧ a.length ≤ 100000 then M.ret (.str (a.map upC)) else M.no
  | _, _ => M.no
theorem strUpper_ok : MtS T K (fun x xs H Q => ∃ a, x = .str a ∧ xs = [] ∧ a.length ≤ 5592405 ∧ Q (.str (Txt.upper a)) H) strUpper := by
  intro F S ι G H x xs vx vs W σ Q em dx dr h
  unfold strUpper at h
  split at h
  · rename_i a
    split at h
    · rename_i hc
      have e : vs = [] := by simpa only [DRs] using dr
      subst e
      simp only [DR] at dx
      refine ⟨_, dx, rfl, by rw [str_len]; omega, ?_⟩
      exact Thn.ok h em (by
        simp only [DR]
        have z := SX.upper_S (a := a) hc.1
        exact congrArg V.str z)
    · exact h.elim
  · exact h.elim
end
theorem je_opM {T : Tab} {X : Cx} {W : WX} {a b : Expr} {ia ib : IE} {pos : Pos} {r : R2} {f : OpB} {op : Operator} (ho : OpR X (binaryOp op) r) (hf : OpSM T X.K r f) (ha : JE T X W a ia) (hb : JE T X W b ib) : JE T X W (.BinOp a op b pos) (iOpM f ia ib) :=
  PE.mono (pe_op ho ha hb) fun σ H Q h => opM_go hf h
end J

set_option Elab.async false
set_option linter.all false
set_option maxRecDepth 100000
set_option maxHeartbeats 1010000
/-! JZb: try: body / except ..: .., where the body raises nothing -/
namespace J
open PySem PySem.Spec L2
def sThru (is : IS) : IS := fun ρ S => match is ρ S with
  | .ok (.xx _ _ _) _ => .no
  | r => r
theorem tk_nox {X : Cx} : L2.Takes X.nox (fun _ _ _ _ => False) := fun u s' z => by
  obtain ⟨a, B, sI, pins, σ, H, cls, d, e, I, nb, up, sky, na, os, ag, w⟩ := z
  exact w.elim
theorem js_thru {T : Tab} {X : Cx} {W : WX} {body : List Stmt} {h₀ : ExceptHandler} {hs : List ExceptHandler} {ib : IS} {pos : Pos} (hb : JSs T X.nox (fun _ _ _ _ => False) body ib) : JS T X W (.Try body (h₀ :: hs) [] [] pos) (sThru ib) := by
  refine PS.mono (ps_try_thru0 hb) fun D σ H ⟨ρ, F, S, ι, G, em, sr, h⟩ => ⟨ρ, F, S, ι, G, em, sr, ?_⟩
  unfold sThru at h
  cases q : ib ρ S with
  | no => rw [q] at h; exact h.elim
  | ex c fs S1 => rw [q] at h; exact h.elim
  | ok fl S1 =>
    rw [q] at h
    cases fl with
    | xx c fs ρ1 => exact h.elim
    | _ => exact h
end J

set_option Elab.async false
set_option linter.all false
set_option maxRecDepth 100000
set_option maxHeartbeats 1010000
/-! PA: plain laws: draws -/
namespace J
/-- the bowl at n -/
def Bw (S : Store) (n : Nat) : Prop := n < S.next ∧ ∃ a b c : Int, S.get n = some (.lst [.int a, .int b, .int c])
/-- all but the object at n is kept -/
structure Kp (n : Nat) (S S' : Store) : Prop where
  next : S.next ≤ S'.next
  get : ∀ m, m < S.next → m ≠ n → S'.get m = S.get m
structure Kq (S S' : Store) : Prop where
  next : S.next ≤ S'.next
  get : ∀ m, m < S.next → S'.get m = S.get m
theorem Kp.trans {n : Nat} {S S1 S2 : Store} (h : Kp n S S1) (k : Kp n S1 S2) : Kp n S S2 := ⟨Nat.le_trans h.next k.next, fun m hm hn => (k.get m (Nat.lt_of_lt_of_le hm h.next) hn).trans (h.get m hm hn)⟩
theorem Kq.trans {S S1 S2 : Store} (h : Kq S S1) (k : Kq S1 S2) : Kq S S2 := ⟨Nat.le_trans h.next k.next, fun m hm => (k.get m (Nat.lt_of_lt_of_le hm h.next)).trans (h.get m hm)⟩
theorem Kq.refl (S : Store) : Kq S S := ⟨Nat.le_refl _, fun _ _ => rfl⟩
theorem Kp.refl (n : Nat) (S : Store) : Kp n S S := ⟨Nat.le_refl _, fun _ _ _ => rfl⟩
theorem Kq.kp {n : Nat} {S S' : Store} (h : Kq S S') : Kp n S S' := ⟨h.next, fun m hm _ => h.get m hm⟩
theorem Bw.kq {n : Nat} {S S' : Store} (b : Bw S n) (h : Kq S S') : Bw S' n := ⟨Nat.lt_of_lt_of_le b.1 h.next, by rw [h.get n b.1]; exact b.2⟩
theorem Bw.kp {n m : Nat} {S S' : Store} (b : Bw S n) (h : Kp m S S') (hn : n ≠ m) : Bw S' n := ⟨Nat.lt_of_lt_of_le b.1 h.next, by rw [h.get n b.1 hn]; exact b.2⟩
theorem kq_trim {S S' : Store} (h : Kq S S') : Kq S (S'.trim S.next) := ⟨h.next, fun m hm => by rw [Store.get_trim, if_pos hm]; exact h.get m hm⟩
theorem kp_trim {n : Nat} {S S' : Store} (h : Kp n S S') : Kp n S (S'.trim S.next) := ⟨h.next, fun m hm hn => by rw [Store.get_trim, if_pos hm]; exact h.get m hm hn⟩
theorem bw_trim {n : Nat} {S S' : Store} (h : Bw S' n) (hn : n < S.next) : Bw (S'.trim S.next) n := ⟨h.1, by rw [Store.get_trim, if_pos hn]; exact h.2⟩
theorem kp_set {n : Nat} {S : Store} {o : MO} : Kp n S (S.set n o) := ⟨Nat.le_refl _, fun m _ hm => S.get_set_ne o hm⟩
theorem kq_alloc {S : Store} {o : MO} : Kq S (S.alloc o) := ⟨Nat.le_succ _, fun m hm => S.get_alloc_ne o (Nat.ne_of_lt hm)⟩
def isDip : IS := (sSeq (sSetI setL (iOp addD (iOp ixD (iVar 0) (iC (.int 2))) (iC (.int 1))) (iVar 0) (iC (.int 2))) (sSeq (sIf (iTst (iOp gtI (iOp ixD (iVar 0) (iC (.int 1))) (iC (.int 0)))) (sSeq (sSetIN setL (iCB divmodD (iCons (iCB intD (iCons (iOp ixD (iVar 0) (iC (.int 1))) iNil)) (iCons (iVar 1) iNil))) (iVar 0) (iC (.int 1)) 2) (sRet (iVar 2))) sNext) (sSeq (sSetI setL (iOp modI (iCB intD (iCons (iOp addD (iOp addD (iOp mulD (iOp ixD (iVar 0) (iC (.int 0))) (iC (.int 50021))) (iOp mulD (iOp ixD (iVar 0) (iC (.int 2))) (iC (.int 90001)))) (iOp mulD (iOp fdivI (iOp ixD (iVar 0) (iC (.int 0))) (iC (.int 7001))) (iC (.int 13)))) iNil)) (iC (.int 1999999943))) (iVar 0) (iC (.int 0))) (sRet (iOp modI (iCB intD (iCons (iOp fdivI (iOp ixD (iVar 0) (iC (.int 0))) (iC (.int 173))) iNil)) (iVar 1))))))
def dDip : List D → M D := defJ 3 false isDip
theorem dip_end {S : Store} {n : Nat} {o o' : MO} (hn : n < S.next) (h : ∃ a b c : Int, o' = .lst [.int a, .int b, .int c]) : Bw (((S.set n o).set n o').trim S.next) n ∧ Kp n S (((S.set n o).set n o').trim S.next) := by
  obtain ⟨a, b, c, rfl⟩ := h
  exact ⟨bw_trim ⟨hn, a, b, c, Store.get_set_self ..⟩ hn, kp_trim (kp_set.trans kp_set)⟩
theorem dip_ok {S : Store} {n : Nat} {k : Int} (h : Bw S n) (hk : 0 < k) (hk2 : k < 1073741824) : ∃ r S', dDip [.ref n, .int k] S = .ok (.int r) S' ∧ 0 ≤ r ∧ r < k ∧ Bw S' n ∧ Kp n S S' := by
  obtain ⟨hn, a, b, c, e⟩ := h
  unfold dDip defJ isDip startR
  by_cases hb : 0 < b
  · simp [sSeq, sSetI, sSetIN, sBind, iOp, M.bind, lift, iVar, iC, M.ret, ixD, op2, ixL, seqR, seqL, seqT, setL, L2.ixN, L2.atI, addD, addI, subI, opI0, sIf, iTst, isB, gtI, ltI, leI, geI, iCB, iCons, iNil, intD, divmodD, absD, sRet, sNext, sAsg, sExpr, sPar, sPar3, modI, mulD, mulI, powI, opI, fdivI, iCall, iIf, iOr, iAnd, iNot, iNotV, iAndV, iOrV, M.no, iLstM, iLst, iTup, sAsgG, ngD, nsD, e, hb, hk, hk2]
    exact ⟨_, _, ⟨rfl, rfl⟩, Int.emod_nonneg _ (by omega), Int.emod_lt_of_pos _ hk, dip_end hn ⟨_, _, _, rfl⟩⟩
  · simp [sSeq, sSetI, sSetIN, sBind, iOp, M.bind, lift, iVar, iC, M.ret, ixD, op2, ixL, seqR, seqL, seqT, setL, L2.ixN, L2.atI, addD, addI, subI, opI0, sIf, iTst, isB, gtI, ltI, leI, geI, iCB, iCons, iNil, intD, divmodD, absD, sRet, sNext, sAsg, sExpr, sPar, sPar3, modI, mulD, mulI, powI, opI, fdivI, iCall, iIf, iOr, iAnd, iNot, iNotV, iAndV, iOrV, M.no, iLstM, iLst, iTup, sAsgG, ngD, nsD, e, hb, hk, hk2]
    exact ⟨_, _, ⟨rfl, rfl⟩, Int.emod_nonneg _ (by omega), Int.emod_lt_of_pos _ hk, dip_end hn ⟨_, _, _, rfl⟩⟩
/-! ### loops -/
theorem forL_inv {g : NG} {body : IS} (I : Nat → Rho → Store → Prop) : ∀ (xs : List D) (i : Nat) (ρ : Rho) (S : Store), I i ρ S →
    (∀ j x ρ S, xs[j]? = some x → I (i + j) ρ S → ∃ ρ1 ρ2 S2, ngD g x ρ = some ρ1 ∧ body ρ1 S = .ok (.nx ρ2) S2 ∧ I (i + j + 1) ρ2 S2) → ∃ ρ' S', forL g body xs ρ S = .ok (.nx ρ') S' ∧ I (i + xs.length) ρ' S'
  | [], i, ρ, S, h, _ => ⟨ρ, S, rfl, h⟩
  | x :: xs, i, ρ, S, h, k => by
    obtain ⟨ρ1, ρ2, S2, e1, e2, h2⟩ := k 0 x ρ S rfl h
    obtain ⟨ρ', S', e3, h3⟩ := forL_inv I xs (i + 1) ρ2 S2 h2 (fun j y ρ S hj hI => by
      have := k (j + 1) y ρ S (by simpa using hj) (by rw [show i + (j + 1) = i + 1 + j by omega]; exact hI)
      rw [show i + (j + 1) + 1 = i + 1 + j + 1 by omega] at this
      exact this)
    refine ⟨ρ', S', ?_, by rw [show i + (x :: xs).length = i + 1 + xs.length by simp; omega]; exact h3⟩
    unfold forL
    simp only [e1, e2]
    exact e3
/-- a comprehension: each item by its place -/
theorem lcL_inv {g : NG} {t : IT} {ie : IE} {ρ : Rho} (I : Nat → Store → Prop) (P : Nat → D → Prop) : ∀ (xs : List D) (i : Nat) (S : Store), I i S →
    (∀ j x S, xs[j]? = some x → I (i + j) S → ∃ ρ1 d S1 S2, ngD g x ρ = some ρ1 ∧ t ρ1 S = .ok true S1 ∧ ie ρ1 S1 = .ok d S2 ∧ P (i + j) d ∧ I (i + j + 1) S2) → ∃ rs S', lcL g t ie ρ xs S = .ok rs S' ∧ rs.length = xs.length ∧ (∀ j d, rs[j]? = some d → P (i + j) d) ∧ I (i + xs.length) S'
  | [], i, S, h, _ => ⟨[], S, rfl, rfl, fun j d e => by simp at e, h⟩
  | x :: xs, i, S, h, k => by
    obtain ⟨ρ1, d, S1, S2, e1, e2, e3, p, h2⟩ := k 0 x S rfl h
    obtain ⟨rs, S', e4, l4, p4, h4⟩ := lcL_inv I P xs (i + 1) S2 h2 (fun j y S hj hI => by
      have := k (j + 1) y S (by simpa using hj) (by rw [show i + (j + 1) = i + 1 + j by omega]; exact hI)
      rw [show i + (j + 1) + 1 = i + 1 + j + 1 by omega, show i + (j + 1) = i + 1 + j by omega] at this
      exact this)
    refine ⟨d :: rs, S', ?_, by simp [l4], fun j y hy => ?_, by rw [show i + (x :: xs).length = i + 1 + xs.length by simp; omega]; exact h4⟩
    · rw [lcL_cons_some e1]
      simp [M.bind, nox, e2, e3, e4, M.ret]
    · cases j with
      | zero =>
        have e : d = y := by simpa using hy
        subst e
        exact p
      | succ j =>
        have := p4 j y (by simpa using hy)
        rw [show i + (j + 1) = i + 1 + j by omega]
        exact this
end J

set_option Elab.async false
set_option linter.all false
set_option maxRecDepth 100000
set_option maxHeartbeats 1010000
/-! PB: plain laws: the bowl, signs -/
namespace J
theorem sSeq_nx {a b : IS} {ρ ρ1 : Rho} {S S1 : Store} (h : a ρ S = .ok (.nx ρ1) S1) : sSeq a b ρ S = b ρ1 S1 := by
  unfold sSeq
  rw [h]
def bw1 : IS := sAsg 2 (iIf (iTst (iOp ltI (iVar 1) (iCB lenD (iCons (iVar 0) iNil)))) (iCB intD (iCons (iOp ixD (iVar 0) (iVar 1)) iNil)) (iOp addD (iOp mulD (iC (.int 17)) (iVar 1)) (iC (.int 3))))
def bw2 : IS := sAsg 3 (iOp addD (iC (.int 60013)) (iOp mulD (iC (.int 911)) (iVar 1)))
def bw3b : IS := sAsg 3 (iOp modI (iCB intD (iCons (iOp addD (iOp mulD (iVar 3) (iC (.int 39119))) (iOp modI (iCB intD (iCons (iVar 4) iNil)) (iC (.int 1999999943)))) iNil)) (iC (.int 1999999943)))
def bw3 : IS := sFor (iItems (iSl slD (iVar 0) iNoPart (iPart (iC (.int 12))))) (.n 4) bw3b
def bw4 : IS := sRet (iLstM (iCons (iOp modI (iCB intD (iCons (iOp addD (iVar 3) (iOp modI (iVar 2) (iC (.int 1999999943)))) iNil)) (iC (.int 1999999943))) (iCons (iIf (iOr (iTst (iOp ltI (iVar 2) (iC (.int 0)))) (iTst (iOp geI (iVar 2) (iOp powI (iC (.int 10)) (iC (.int 15)))))) (iCB absD (iCons (iVar 2) iNil)) (iC (.int 0))) (iCons (iC (.int 0)) iNil))))
def isBowl : IS := sSeq bw1 (sSeq bw2 (sSeq bw3 bw4))
def dBowl : List D → M D := defJ 5 true isBowl
theorem bw1_ok {S : Store} {ns : List Int} {k : Nat} : ∃ own : Int, bw1 [some (.scr (ns.map D.int)), some (.int k), none, none, none] S = .ok (.nx [some (.scr (ns.map D.int)), some (.int k), some (.int own), none, none]) S := by
  unfold bw1
  by_cases h : k < ns.length
  · refine ⟨ns[k], ?_⟩
    have h1 : ((k : Int) < ((ns.length : Nat) : Int)) := by omega
    simp [sSeq, sSetI, sSetIN, sBind, iOp, M.bind, lift, iVar, iC, M.ret, ixD, op2, ixL, seqR, seqL, seqT, setL, L2.ixN, L2.atI, addD, addI, subI, opI0, sIf, iTst, isB, gtI, ltI, leI, geI, iCB, iCons, iNil, intD, divmodD, absD, sRet, sNext, sAsg, sExpr, sPar, sPar3, modI, mulD, mulI, powI, opI, fdivI, iCall, iIf, iOr, iAnd, iNot, iNotV, iAndV, iOrV, M.no, iLstM, iLst, iTup, sAsgG, ngD, nsD, lenD, seqA, h1, h]
  · refine ⟨17 * (k : Int) + 3, ?_⟩
    have h1 : ¬ ((k : Int) < ((ns.length : Nat) : Int)) := by omega
    simp [sSeq, sSetI, sSetIN, sBind, iOp, M.bind, lift, iVar, iC, M.ret, ixD, op2, ixL, seqR, seqL, seqT, setL, L2.ixN, L2.atI, addD, addI, subI, opI0, sIf, iTst, isB, gtI, ltI, leI, geI, iCB, iCons, iNil, intD, divmodD, absD, sRet, sNext, sAsg, sExpr, sPar, sPar3, modI, mulD, mulI, powI, opI, fdivI, iCall, iIf, iOr, iAnd, iNot, iNotV, iAndV, iOrV, M.no, iLstM, iLst, iTup, sAsgG, ngD, nsD, lenD, seqA, h1, h]
theorem bw3_ok {S : Store} {ns : List Int} {k : Nat} {own m : Int} : ∃ (m' : Int) (x : Option D), bw3 [some (.scr (ns.map D.int)), some (.int k), some (.int own), some (.int m), none] S = .ok (.nx [some (.scr (ns.map D.int)), some (.int k), some (.int own), some (.int m'), x]) S := by
  have key := forL_inv (g := .n 4) (body := bw3b) (fun _ ρ S' => S' = S ∧ ∃ (m' : Int) (x : Option D), ρ = [some (.scr (ns.map D.int)), some (.int k), some (.int own), some (.int m'), x]) (cutD (ns.map D.int) none (some 12)) 0 [some (.scr (ns.map D.int)), some (.int k), some (.int own), some (.int m), none] S ⟨rfl, m, none, rfl⟩ (by
    rintro j x ρ S1 hx ⟨rfl, m', y, rfl⟩
    have hm : x ∈ ns.map D.int := List.mem_of_mem_drop (List.mem_of_mem_take (List.mem_of_getElem? hx))
    obtain ⟨i, _, rfl⟩ := List.mem_map.mp hm
    refine ⟨_, [some (.scr (ns.map D.int)), some (.int k), some (.int own), some (.int ((m' * 39119 + i % 1999999943) % 1999999943)), some (.int i)], S1, rfl, ?_, rfl, _, _, rfl⟩
    simp [sSeq, sSetI, sSetIN, sBind, iOp, M.bind, lift, iVar, iC, M.ret, ixD, op2, ixL, seqR, seqL, seqT, setL, L2.ixN, L2.atI, addD, addI, subI, opI0, sIf, iTst, isB, gtI, ltI, leI, geI, iCB, iCons, iNil, intD, divmodD, absD, sRet, sNext, sAsg, sExpr, sPar, sPar3, modI, mulD, mulI, powI, opI, fdivI, iCall, iIf, iOr, iAnd, iNot, iNotV, iAndV, iOrV, M.no, iLstM, iLst, iTup, sAsgG, ngD, nsD, bw3b])
  obtain ⟨ρ', S', e, rfl, m', x, rfl⟩ := key
  refine ⟨m', x, ?_⟩
  rw [← e]
  simp [sSeq, sSetI, sSetIN, sBind, iOp, M.bind, lift, iVar, iC, M.ret, ixD, op2, ixL, seqR, seqL, seqT, setL, L2.ixN, L2.atI, addD, addI, subI, opI0, sIf, iTst, isB, gtI, ltI, leI, geI, iCB, iCons, iNil, intD, divmodD, absD, sRet, sNext, sAsg, sExpr, sPar, sPar3, modI, mulD, mulI, powI, opI, fdivI, iCall, iIf, iOr, iAnd, iNot, iNotV, iAndV, iOrV, M.no, iLstM, iLst, iTup, sAsgG, ngD, nsD, bw3, sFor, iItems, iSl, slD, opc2, slL, items, iNoPart, iPart]
theorem bowl_ok {S : Store} {ns : List Int} {k : Nat} : ∃ S', dBowl [.scr (ns.map D.int), .int k] S = .ok (.ref S.next) S' ∧ Bw S' S.next ∧ Kq S S' := by
  obtain ⟨own, e1⟩ := bw1_ok (S := S) (ns := ns) (k := k)
  obtain ⟨m', x, e3⟩ := bw3_ok (S := S) (ns := ns) (k := k) (own := own) (m := 60013 + 911 * (k : Int))
  have e2 : bw2 [some (.scr (ns.map D.int)), some (.int k), some (.int own), none, none] S = .ok (.nx [some (.scr (ns.map D.int)), some (.int k), some (.int own), some (.int (60013 + 911 * (k : Int))), none]) S := by
    simp [sSeq, sSetI, sSetIN, sBind, iOp, M.bind, lift, iVar, iC, M.ret, ixD, op2, ixL, seqR, seqL, seqT, setL, L2.ixN, L2.atI, addD, addI, subI, opI0, sIf, iTst, isB, gtI, ltI, leI, geI, iCB, iCons, iNil, intD, divmodD, absD, sRet, sNext, sAsg, sExpr, sPar, sPar3, modI, mulD, mulI, powI, opI, fdivI, iCall, iIf, iOr, iAnd, iNot, iNotV, iAndV, iOrV, M.no, iLstM, iLst, iTup, sAsgG, ngD, nsD, bw2]
  have e4 : ∃ a b : Int, bw4 [some (.scr (ns.map D.int)), some (.int k), some (.int own), some (.int m'), x] S = .ok (.rt (.ref S.next)) (S.alloc (.lst [.int a, .int b, .int 0])) := by
    by_cases h1 : own < 0
    · refine ⟨(m' + own % 1999999943) % 1999999943, -own, ?_⟩
      simp [sSeq, sSetI, sSetIN, sBind, iOp, M.bind, lift, iVar, iC, M.ret, ixD, op2, ixL, seqR, seqL, seqT, setL, L2.ixN, L2.atI, addD, addI, subI, opI0, sIf, iTst, isB, gtI, ltI, leI, geI, iCB, iCons, iNil, intD, divmodD, absD, sRet, sNext, sAsg, sExpr, sPar, sPar3, modI, mulD, mulI, powI, opI, fdivI, iCall, iIf, iOr, iAnd, iNot, iNotV, iAndV, iOrV, M.no, iLstM, iLst, iTup, sAsgG, ngD, nsD, bw4, h1]
    · by_cases h2 : (1000000000000000 : Int) ≤ own
      · refine ⟨(m' + own % 1999999943) % 1999999943, own, ?_⟩
        simp [sSeq, sSetI, sSetIN, sBind, iOp, M.bind, lift, iVar, iC, M.ret, ixD, op2, ixL, seqR, seqL, seqT, setL, L2.ixN, L2.atI, addD, addI, subI, opI0, sIf, iTst, isB, gtI, ltI, leI, geI, iCB, iCons, iNil, intD, divmodD, absD, sRet, sNext, sAsg, sExpr, sPar, sPar3, modI, mulD, mulI, powI, opI, fdivI, iCall, iIf, iOr, iAnd, iNot, iNotV, iAndV, iOrV, M.no, iLstM, iLst, iTup, sAsgG, ngD, nsD, bw4, h1, h2]
      · refine ⟨(m' + own % 1999999943) % 1999999943, 0, ?_⟩
        simp [sSeq, sSetI, sSetIN, sBind, iOp, M.bind, lift, iVar, iC, M.ret, ixD, op2, ixL, seqR, seqL, seqT, setL, L2.ixN, L2.atI, addD, addI, subI, opI0, sIf, iTst, isB, gtI, ltI, leI, geI, iCB, iCons, iNil, intD, divmodD, absD, sRet, sNext, sAsg, sExpr, sPar, sPar3, modI, mulD, mulI, powI, opI, fdivI, iCall, iIf, iOr, iAnd, iNot, iNotV, iAndV, iOrV, M.no, iLstM, iLst, iTup, sAsgG, ngD, nsD, bw4, h1, h2]
  obtain ⟨a, b, e4⟩ := e4
  refine ⟨_, ?_, ⟨Nat.lt_succ_self _, a, b, 0, Store.get_alloc_self ..⟩, kq_alloc⟩
  show defJ 5 true isBowl _ S = _
  unfold defJ isBowl
  have e0 : startR 5 [.scr (ns.map D.int), .int k] = [some (.scr (ns.map D.int)), some (.int k), none, none, none] := rfl
  rw [e0, sSeq_nx e1, sSeq_nx e2, sSeq_nx e3, e4]
  rfl
end J

set_option Elab.async false
set_option linter.all false
set_option maxRecDepth 100000
set_option maxHeartbeats 1010000
/-! PC: plain laws: signs -/
namespace J
theorem or_none' {α : Type} (o : Option α) : (none : Option α).or o = o := rfl
theorem ixD_str {l : List Nat} {i : Nat} {S : Store} (h : i < l.length) (h2 : l.length ≤ 100000) : ixD (.str l) (.int (i : Int)) S = some (.str [l[i]]) := by
  simp [ixD, op2, ixL, seqR, seqL, ixT, ixS, h2, L2.atI, L2.ixN, h]
theorem cut_take {α : Type} (l : List α) (k : Nat) : cutD l none (some (k : Int)) = l.take k := by
  unfold cutD
  rw [HT.sIx_none, HT.sIx_nat]
  simp
theorem cut_drop {α : Type} (l : List α) (k : Nat) : cutD l (some (k : Int)) none = l.drop k := by
  unfold cutD
  rw [HT.sIx_none, HT.sIx_nat]
  by_cases h : k ≤ l.length
  · rw [Nat.min_eq_left h]; rw [List.take_of_length_le (by simp)]
  · rw [Nat.min_eq_right (by omega), List.drop_of_length_le (Nat.le_refl _), List.drop_of_length_le (show l.length ≤ k by omega)]
    simp
theorem slD_str {l : List Nat} {a b : Option Int} {S : Store} (h2 : l.length ≤ 100000) : slD (.str l) a b S = some (.str (cutD l a b)) := by
  simp [slD, opc2, slL, slS, slT, seqR, seqL, h2]
theorem addD_str {a b : List Nat} {S : Store} (h : a.length + b.length ≤ 100000) : addD (.str a) (.str b) S = some (.str (a ++ b)) := by
  simp [addD, op2, addI, opI0, addS, h]
theorem addD_int {a b : Int} {S : Store} : addD (.int a) (.int b) S = some (.int (a + b)) := by
  simp [addD, op2, addI, opI0]
theorem subI_int {a b : Int} {S : Store} : subI (.int a) (.int b) S = some (.int (a - b)) := by
  simp [subI, opI0]
theorem gtI_int {a b : Int} {S : Store} : gtI (.int a) (.int b) S = some (.bl (decide (b < a))) := by
  simp [gtI, opI0]
theorem lenD_str {l : List Nat} {S : Store} (h : l.length ≤ 100000) : lenD [.str l] S = some (.int l.length) := by
  simp [lenD, h]
def abc : List Nat := [97, 98, 99, 100, 101, 102, 103, 104, 105, 106, 107, 108, 109, 110, 111, 112, 113, 114, 115, 116, 117, 118, 119, 120, 121, 122]
theorem abc_up : abc.Pairwise (· < ·) := by decide
theorem abc_in : ∀ c ∈ abc, 97 ≤ c ∧ c ≤ 122 := by decide
structure Sg (l : List Nat) : Prop where
  up : l.Pairwise (· < ·)
  abc : ∀ c ∈ l, 97 ≤ c ∧ c ≤ 122
theorem up_len : ∀ (l : List Nat) (lo : Nat), l.Pairwise (· < ·) → (∀ c ∈ l, lo ≤ c ∧ c ≤ 122) → l.length + lo ≤ 123 ∨ l = []
  | [], _, _, _ => .inr rfl
  | c :: r, lo, h, k => by
    have ⟨h1, h2⟩ := List.pairwise_cons.mp h
    have kc := k c (List.mem_cons_self ..)
    left
    rcases up_len r (c + 1) h2 (fun d hd => ⟨h1 d hd, (k d (List.mem_cons_of_mem _ hd)).2⟩) with z | z
    · rw [List.length_cons]
      omega
    · subst z
      simp only [List.length_nil, List.length_cons]
      omega
theorem Sg.len {l : List Nat} (h : Sg l) : l.length ≤ 26 := by
  rcases up_len l 97 h.up h.abc with z | z
  · omega
  · subst z
    decide
theorem flat_one : ∀ l : List Nat, (l.map fun c => [c]).flatten = l
  | [] => rfl
  | c :: l => by
    rw [List.map_cons, List.flatten_cons, flat_one l]
    rfl
theorem joinL_nil : ∀ ys : List (List Nat), TL.joinL [] ys = ys.flatten
  | [] => rfl
  | [p] => by simp [TL.joinL]
  | p :: q :: r => by
    have := joinL_nil (q :: r)
    simp only [TL.joinL, this, List.nil_append, List.flatten_cons]
theorem sort_one : ∀ ls : List (List Nat), (∀ y ∈ ls, ∃ c, y = [c]) → ∃ l : List Nat, ls = l.map fun c => [c]
  | [], _ => ⟨[], rfl⟩
  | y :: ys, h => by
    obtain ⟨c, rfl⟩ := h y (List.mem_cons_self ..)
    obtain ⟨l, rfl⟩ := sort_one ys fun z hz => h z (List.mem_cons_of_mem _ hz)
    exact ⟨c :: l, rfl⟩
theorem sort_sg {f : List Nat} (nd : f.Nodup) (h : ∀ c ∈ f, 97 ≤ c ∧ c ≤ 122) : Sg (sortS (f.map fun c => [c])).flatten ∧ (sortS (f.map fun c => [c])).flatten.length = f.length := by
  have p := sortS_perm (f.map fun c => [c])
  obtain ⟨l, e⟩ := sort_one (sortS (f.map fun c => [c])) fun y hy => by
    obtain ⟨c, _, rfl⟩ := List.mem_map.mp (p.mem_iff.mp hy)
    exact ⟨c, rfl⟩
  have so := sortS_sorted (f.map fun c => [c])
  have fl := flat_one l
  rw [e] at p so ⊢
  rw [fl]
  have pl : l.Perm f := by
    have := p.flatten
    rw [fl] at this
    rw [flat_one f] at this
    exact this
  have ndl : l.Nodup := pl.nodup_iff.mpr nd
  refine ⟨⟨?_, fun c hc => h c (pl.mem_iff.mp hc)⟩, pl.length_eq⟩
  have s2 : l.Pairwise fun a b => a ≤ b := (List.pairwise_map.mp so).imp fun {a b} h => by
    rw [le_iff] at h
    rcases Nat.lt_or_ge b a with z | z
    · exact absurd (List.cons_lt_cons_iff.mpr (.inl z)) h
    · exact z
  exact (s2.and ndl).imp fun {a b} h => Nat.lt_of_le_of_ne h.1 h.2
end J

set_option Elab.async false
set_option linter.all false
set_option maxRecDepth 100000
set_option maxHeartbeats 1010000
/-! PD: plain laws: signs, the walk's part -/
namespace J
def sg1 : IS := sPar3 4 5 6 (iCons (iOp addD (iVar 1) (iCall 2 dDip (iCons (iVar 0) (iCons (iOp addD (iOp subI (iVar 2) (iVar 1)) (iC (.int 1))) iNil)))) (iCons (iC (.str abc)) (iCons (iLstM iNil) iNil)))
def sg2 : IS := sIf (iTst (iOp gtI (iCall 2 dDip (iCons (iVar 0) (iCons (iC (.int 3)) iNil))) (iC (.int 0)))) (sRet (iSl slD (iVar 5) iNoPart (iPart (iVar 4)))) sNext
def sg3x : IS := sAsg 7 (iCall 2 dDip (iCons (iVar 0) (iCons (iCB lenD (iCons (iVar 5) iNil)) iNil)))
def sg3y : IS := sExpr (iBM .l lstApp (iVar 6) (iCons (iOp ixD (iVar 5) (iVar 7)) iNil))
def sg3z : IS := sAsg 5 (iOp addD (iSl slD (iVar 5) iNoPart (iPart (iVar 7))) (iSl slD (iVar 5) (iPart (iOp addD (iVar 7) (iC (.int 1)))) iNoPart))
def sg3b : IS := sSeq sg3x (sSeq sg3y sg3z)
def sg3 : IS := sFor (iRange range1 (iCons (iVar 4) iNil)) (.n 3) sg3b
def sg4 : IS := sRet (iBM .s strJoin (iC (.str [])) (iCons (iCB sortD (iCons (iVar 6) iNil)) iNil))
def isSigns : IS := sSeq sg1 (sSeq sg2 (sSeq sg3 (sSeq (sFrz 6) sg4)))
def dSigns : List D → M D := defJ 8 false isSigns
theorem strsOf_one : ∀ f : List Nat, strsOf (f.map fun c => D.str [c]) = some (f.map fun c => [c])
  | [] => rfl
  | c :: r => by simp [strsOf, strsOf_one r]
theorem strsOf_str : ∀ f : List (List Nat), strsOf (f.map D.str) = some f
  | [] => rfl
  | c :: r => by simp [strsOf, strsOf_str r]
structure SgI (n f : Nat) (S0 S : Store) (left found : List Nat) : Prop where
  bw : Bw S n
  ne : f ≠ n
  lt : f < S.next
  old : S0.next ≤ f
  kp : ∀ m, m < S0.next → m ≠ n → S.get m = S0.get m
  fd : S.get f = some (.lst (found.map fun c => D.str [c]))
  up : left.Pairwise (· < ·)
  pm : (left ++ found).Perm abc
theorem sg3b_ok {n f : Nat} {S0 S : Store} {left found : List Nat} {a b c e7 : Option D} {t : D} (h : SgI n f S0 S left found) (hl : 0 < left.length) :
    ∃ q S2, ∃ hq : q < left.length, sg3b [some (.ref n), a, b, some t, c, some (.str left), some (.ref f), e7] S = .ok (.nx [some (.ref n), a, b, some t, c, some (.str (left.take q ++ left.drop (q + 1))), some (.ref f), some (.int (q : Nat))]) S2 ∧ SgI n f S0 S2 (left.take q ++ left.drop (q + 1)) (found ++ [left[q]]) := by
  have len : left.length + found.length = 26 := by
    have := h.pm.length_eq
    rw [List.length_append] at this
    exact this
  have l1 : left.length ≤ 100000 := by omega
  obtain ⟨r, S1, e, r0, r1, b1, k1⟩ := dip_ok (k := (left.length : Int)) h.bw (by omega) (by omega)
  obtain ⟨q, rfl⟩ := Int.eq_ofNat_of_zero_le r0
  have hq : q < left.length := by omega
  have f1 : S1.get f = some (.lst (found.map fun c => D.str [c])) := (k1.get f h.lt h.ne).trans h.fd
  refine ⟨q, S1.set f (.lst ((found ++ [left[q]]).map fun c => D.str [c])), hq, ?_, ?_⟩
  · have t1 : (left.take q).length + (left.drop (q + 1)).length ≤ 100000 := by
      rw [List.length_take]; rw [List.length_drop]
      omega
    have l2 : found.length < 100000 := by omega
    have c1 : (q : Int) + 1 = ((q + 1 : Nat) : Int) := by omega
    have x1 : sg3x [some (.ref n), a, b, some t, c, some (.str left), some (.ref f), e7] S = .ok (.nx [some (.ref n), a, b, some t, c, some (.str left), some (.ref f), some (.int (q : Nat))]) S1 := by
      unfold sg3x
      simp [sSeq, sSetI, sSetIN, sBind, iOp, M.bind, lift, iVar, iC, M.ret, sIf, iTst, isB, iCB, iCons, iNil, sRet, sNext, sAsg, sExpr, sPar, sPar3, iCall, iIf, iOr, iAnd, iNot, iNotV, iAndV, iOrV, M.no, iLstM, iLst, iTup, sAsgG, ngD, nsD, iSl, iPart, iNoPart, iBM, iCM, iYes, lenD_str l1, e]
    have x2 : sg3y [some (.ref n), a, b, some t, c, some (.str left), some (.ref f), some (.int (q : Nat))] S1 = .ok (.nx [some (.ref n), a, b, some t, c, some (.str left), some (.ref f), some (.int (q : Nat))]) (S1.set f (.lst ((found ++ [left[q]]).map fun c => D.str [c]))) := by
      have ap : lstApp (.ref f) [.str [left[q]]] S1 = .ok .non (S1.set f (.lst ((found ++ [left[q]]).map fun c => D.str [c]))) := by
        unfold lstApp
        simp [f1, l2]
      have kd : kindIs .l (.ref f) S1 = true := by simp [kindIs, f1]
      unfold sg3y
      simp [sSeq, sSetI, sSetIN, sBind, iOp, M.bind, lift, iVar, iC, M.ret, sIf, iTst, isB, iCB, iCons, iNil, sRet, sNext, sAsg, sExpr, sPar, sPar3, iCall, iIf, iOr, iAnd, iNot, iNotV, iAndV, iOrV, M.no, iLstM, iLst, iTup, sAsgG, ngD, nsD, iSl, iPart, iNoPart, iBM, iCM, iYes, kd, ixD_str hq l1, ap]
    have x3 : ∀ S2, sg3z [some (.ref n), a, b, some t, c, some (.str left), some (.ref f), some (.int (q : Nat))] S2 = .ok (.nx [some (.ref n), a, b, some t, c, some (.str (left.take q ++ left.drop (q + 1))), some (.ref f), some (.int (q : Nat))]) S2 := by
      intro S2
      unfold sg3z
      simp only [sSeq, sSetI, sSetIN, sBind, iOp, M.bind, lift, iVar, iC, M.ret, sIf, iTst, isB, iCB, iCons, iNil, sRet, sNext, sAsg, sExpr, sPar, sPar3, iCall, iIf, iOr, iAnd, iNot, iNotV, iAndV, iOrV, M.no, iLstM, iLst, iTup, sAsgG, ngD, nsD, iSl, iPart, iNoPart, iBM, iCM, iYes, List.getD_cons_zero, List.getD_cons_succ, slD_str l1, addD_int, c1, cut_take, cut_drop, addD_str t1]
      rfl
    unfold sg3b
    rw [sSeq_nx x1, sSeq_nx x2, x3]
  · have h2 : left.take q ++ left[q] :: left.drop (q + 1) = left := by
      rw [List.getElem_cons_drop hq, List.take_append_drop]
    refine ⟨b1.kp kp_set (Ne.symm h.ne), h.ne, Nat.lt_of_lt_of_le h.lt k1.next, h.old, fun m hm hn => ?_, Store.get_set_self .., ?_, ?_⟩
    · rw [S1.get_set_ne _ (by have := h.old; omega), k1.get m (by have := h.old; have := h.lt; omega) hn]
      exact h.kp m hm hn
    · have u := h.up
      rw [← h2] at u
      refine u.sublist ?_
      exact List.Sublist.append_left (List.sublist_cons_self ..) _
    · refine List.Perm.trans ?_ h.pm
      have p1 : (left.take q ++ left.drop (q + 1) ++ (found ++ [left[q]])).Perm (left.take q ++ (left[q] :: left.drop (q + 1)) ++ found) := by
        have : (left.take q ++ left.drop (q + 1) ++ (found ++ [left[q]])).Perm (left[q] :: (left.take q ++ left.drop (q + 1) ++ found)) := by
          rw [← List.append_assoc]
          exact List.perm_append_singleton _ _
        refine this.trans ?_
        refine List.Perm.trans ?_ (List.perm_middle.symm.append_right found)
        exact List.Perm.refl _
      rw [h2] at p1
      exact p1
theorem signs_ok {S : Store} {n : Nat} {lo hi : Int} (b : Bw S n) (h1 : 0 ≤ lo) (h2 : lo ≤ hi) (h3 : hi ≤ 26) : ∃ l S', dSigns [.ref n, .int lo, .int hi] S = .ok (.str l) S' ∧ Sg l ∧ lo ≤ l.length ∧ (l.length : Int) ≤ hi ∧ Bw S' n ∧ Kp n S S' := by
  obtain ⟨r, S1, e1, r0, r1, b1, k1⟩ := dip_ok (k := hi - lo + 1) b (by omega) (by omega)
  obtain ⟨m, hm⟩ := Int.eq_ofNat_of_zero_le (show 0 ≤ lo + r by omega)
  have m26 : m ≤ 26 := by omega
  have s1 : sg1 [some (.ref n), some (.int lo), some (.int hi), none, none, none, none, none] S = .ok (.nx [some (.ref n), some (.int lo), some (.int hi), none, some (.int (m : Nat)), some (.str abc), some (.ref S1.next), none]) (S1.alloc (.lst [])) := by
    unfold sg1
    simp [sSeq, sSetI, sSetIN, sBind, iOp, M.bind, lift, iVar, iC, M.ret, sIf, iTst, isB, iCB, iCons, iNil, sRet, sNext, sAsg, sExpr, sPar, sPar3, iCall, iIf, iOr, iAnd, iNot, iNotV, iAndV, iOrV, M.no, iLstM, iLst, iTup, sAsgG, ngD, nsD, iSl, iPart, iNoPart, iBM, iCM, iYes, addD_int, subI_int, e1, hm]
  have bA : Bw (S1.alloc (.lst [])) n := b1.kq kq_alloc
  obtain ⟨r', S2, e2, r0', r1', b2, k2⟩ := dip_ok (k := 3) bA (by omega) (by omega)
  have e0 : startR 8 [.ref n, .int lo, .int hi] = [some (.ref n), some (.int lo), some (.int hi), none, none, none, none, none] := rfl
  have kA : Kp n S (S1.alloc (.lst [])) := k1.trans kq_alloc.kp
  have la : abc.length ≤ 100000 := by decide
  by_cases hr : 0 < r'
  · refine ⟨abc.take m, S2.trim S.next, ?_, ⟨abc_up.sublist (List.take_sublist ..), fun c hc => abc_in c (List.mem_of_mem_take hc)⟩, ?_, ?_, bw_trim b2 b.1, kp_trim (kA.trans k2)⟩
    · have s2 : sg2 [some (.ref n), some (.int lo), some (.int hi), none, some (.int (m : Nat)), some (.str abc), some (.ref S1.next), none] (S1.alloc (.lst [])) = .ok (.rt (.str (abc.take m))) S2 := by
        unfold sg2
        simp [sSeq, sSetI, sSetIN, sBind, iOp, M.bind, lift, iVar, iC, M.ret, sIf, iTst, isB, iCB, iCons, iNil, sRet, sNext, sAsg, sExpr, sPar, sPar3, iCall, iIf, iOr, iAnd, iNot, iNotV, iAndV, iOrV, M.no, iLstM, iLst, iTup, sAsgG, ngD, nsD, iSl, iPart, iNoPart, iBM, iCM, iYes, e2, gtI_int, hr, slD_str la, cut_take]
      show defJ 8 false isSigns _ S = _
      unfold defJ isSigns
      rw [e0, sSeq_nx s1]
      unfold sSeq
      rw [s2]
      rfl
    · have : (abc.take m).length = m := by
        rw [List.length_take]
        exact Nat.min_eq_left m26
      rw [this]
      omega
    · have : (abc.take m).length = m := by
        rw [List.length_take]
        exact Nat.min_eq_left m26
      rw [this]
      omega
  · have s2 : sg2 [some (.ref n), some (.int lo), some (.int hi), none, some (.int (m : Nat)), some (.str abc), some (.ref S1.next), none] (S1.alloc (.lst [])) = .ok (.nx [some (.ref n), some (.int lo), some (.int hi), none, some (.int (m : Nat)), some (.str abc), some (.ref S1.next), none]) S2 := by
      unfold sg2
      simp [sSeq, sSetI, sSetIN, sBind, iOp, M.bind, lift, iVar, iC, M.ret, sIf, iTst, isB, iCB, iCons, iNil, sRet, sNext, sAsg, sExpr, sPar, sPar3, iCall, iIf, iOr, iAnd, iNot, iNotV, iAndV, iOrV, M.no, iLstM, iLst, iTup, sAsgG, ngD, nsD, iSl, iPart, iNoPart, iBM, iCM, iYes, e2, gtI_int, hr]
    have i0 : SgI n S1.next S S2 abc [] := by
      have ne : S1.next ≠ n := by have := b1.1; omega
      refine ⟨b2, ne, Nat.lt_of_lt_of_le (Nat.lt_succ_self _) k2.next, k1.next, fun m hm hn => ?_, ?_, abc_up, by simp⟩
      · exact (kA.trans k2).get m hm hn
      · rw [k2.get S1.next (Nat.lt_succ_self _) ne]
        exact Store.get_alloc_self ..
    have key := forL_inv (g := .n 3) (body := sg3b) (fun j ρ S' => ∃ left found e7 t, ρ = [some (.ref n), some (.int lo), some (.int hi), t, some (.int (m : Nat)), some (.str left), some (.ref S1.next), e7] ∧ SgI n S1.next S S' left found ∧ left.length + j = 26 ∧ found.length = j) (rng 0 m) 0 [some (.ref n), some (.int lo), some (.int hi), none, some (.int (m : Nat)), some (.str abc), some (.ref S1.next), none] S2 ⟨abc, [], none, none, rfl, i0, rfl, rfl⟩ (by
      rintro j x ρ S3 hx ⟨left, found, e7, t, rfl, hi', hl, hf⟩
      have hj : j < m := by
        have := (List.getElem?_eq_some_iff.mp hx).1
        simpa [rng] using this
      obtain ⟨q, S4, hq, e, hI⟩ := sg3b_ok (a := some (.int lo)) (b := some (.int hi)) (c := some (.int (m : Nat))) (e7 := e7) (t := x) hi' (by omega)
      refine ⟨_, _, S4, rfl, e, _, _, _, _, rfl, hI, ?_, ?_⟩
      · rw [List.length_append, List.length_take, List.length_drop]
        omega
      · rw [List.length_append]
        simp
        omega)
    obtain ⟨ρ', S3, e3, left, found, e7, t, rfl, hI, hl, hf⟩ := key
    have hfm : found.length = m := by
      rw [hf]
      simp [rng]
    have s3 : sg3 [some (.ref n), some (.int lo), some (.int hi), none, some (.int (m : Nat)), some (.str abc), some (.ref S1.next), none] S2 = .ok (.nx [some (.ref n), some (.int lo), some (.int hi), t, some (.int (m : Nat)), some (.str left), some (.ref S1.next), e7]) S3 := by
      rw [← e3]
      have z : -100000 ≤ (m : Int) ∧ (m : Int) ≤ 100000 := by omega
      unfold sg3
      simp [sSeq, sSetI, sSetIN, sBind, iOp, M.bind, lift, iVar, iC, M.ret, sIf, iTst, isB, iCB, iCons, iNil, sRet, sNext, sAsg, sExpr, sPar, sPar3, iCall, iIf, iOr, iAnd, iNot, iNotV, iAndV, iOrV, M.no, iLstM, iLst, iTup, sAsgG, ngD, nsD, iSl, iPart, iNoPart, iBM, iCM, iYes, sFor, iRange, range1, z]
    have s4 : sFrz 6 [some (.ref n), some (.int lo), some (.int hi), t, some (.int (m : Nat)), some (.str left), some (.ref S1.next), e7] S3 = .ok (.nx [some (.ref n), some (.int lo), some (.int hi), t, some (.int (m : Nat)), some (.str left), some (.lst (found.map fun c => D.str [c])), e7]) (S3.del S1.next) := by
      simp [sFrz, hI.fd, frzO]
    have nd : found.Nodup := by
      have : (left ++ found).Nodup := hI.pm.nodup_iff.mpr (abc_up.imp fun h => Nat.ne_of_lt h)
      exact (List.nodup_append.mp this).2.1
    have inn : ∀ c ∈ found, 97 ≤ c ∧ c ≤ 122 := fun c hc => abc_in c (hI.pm.mem_iff.mp (List.mem_append_right _ hc))
    obtain ⟨sg, sl⟩ := sort_sg nd inn
    have one : (sortS (found.map fun c => [c])).all (fun y => decide (y.length ≤ 1000)) = true := by
      rw [List.all_eq_true]
      intro y hy
      obtain ⟨c, _, rfl⟩ := List.mem_map.mp ((sortS_perm _).mem_iff.mp hy)
      simp
    have sl2 : (sortS (found.map fun c => [c])).length = found.length := by
      rw [(sortS_perm _).length_eq, List.length_map]
    have s5 : sg4 [some (.ref n), some (.int lo), some (.int hi), t, some (.int (m : Nat)), some (.str left), some (.lst (found.map fun c => D.str [c])), e7] (S3.del S1.next) = .ok (.rt (.str (sortS (found.map fun c => [c])).flatten)) (S3.del S1.next) := by
      have h64 : found.length < 64 := by omega
      have h1000 : found.length ≤ 1000 := by omega
      have sd : sortD [.lst (found.map fun c => D.str [c])] (S3.del S1.next) = some (.lst ((sortS (found.map fun c => [c])).map .str)) := by
        unfold sortD
        simp only [seqL, strsOf_one, List.length_map]
        rw [if_pos h64]
      have jn : strJoin (.str []) [.lst ((sortS (found.map fun c => [c])).map .str)] (S3.del S1.next) = .ok (.str (sortS (found.map fun c => [c])).flatten) (S3.del S1.next) := by
        unfold strJoin
        simp only [seqA, seqR, seqL, Option.some_or, Option.bind_some, strsOf_str, joinL_nil]
        rw [if_pos ⟨by rw [sl2]; exact h1000, by decide, one⟩]
      unfold sg4
      simp [sSeq, sSetI, sSetIN, sBind, iOp, M.bind, lift, iVar, iC, M.ret, sIf, iTst, isB, iCB, iCons, iNil, sRet, sNext, sAsg, sExpr, sPar, sPar3, iCall, iIf, iOr, iAnd, iNot, iNotV, iAndV, iOrV, M.no, iLstM, iLst, iTup, sAsgG, ngD, nsD, iSl, iPart, iNoPart, iBM, iCM, iYes, sd, kindIs, jn]
    have kF : Kp n S (S3.del S1.next) := by
      refine ⟨?_, fun m hm hn => ?_⟩
      · have := hI.lt
        have := hI.old
        show S.next ≤ S3.next
        omega
      · rw [Store.get_del, if_neg (by have := hI.old; omega)]
        exact hI.kp m hm hn
    have bF : Bw (S3.del S1.next) n := by
      refine ⟨hI.bw.1, ?_⟩
      rw [Store.get_del, if_neg (Ne.symm hI.ne)]
      exact hI.bw.2
    refine ⟨_, (S3.del S1.next).trim S.next, ?_, sg, by rw [sl, hfm]; omega, by rw [sl, hfm]; omega, bw_trim bF b.1, kp_trim kF⟩
    show defJ 8 false isSigns _ S = _
    unfold defJ isSigns
    rw [e0, sSeq_nx s1, sSeq_nx s2, sSeq_nx s3, sSeq_nx s4, s5]
    rfl
end J

set_option Elab.async false
set_option linter.all false
set_option maxRecDepth 100000
set_option maxHeartbeats 1010000
/-! PE: plain laws: boards -/
namespace J
theorem lcL_pure {g : NG} {t : IT} {ie : IE} {ρ : Rho} {S : Store} (f : D → D) : ∀ xs : List D, (∀ x ∈ xs, ∃ ρ1, ngD g x ρ = some ρ1 ∧ t ρ1 S = .ok true S ∧ ie ρ1 S = .ok (f x) S) → lcL g t ie ρ xs S = .ok (xs.map f) S
  | [], _ => rfl
  | x :: xs, h => by
    obtain ⟨ρ1, e1, e2, e3⟩ := h x (List.mem_cons_self ..)
    rw [lcL_cons_some e1]
    simp [M.bind, nox, e2, e3, lcL_pure f xs fun y hy => h y (List.mem_cons_of_mem _ hy), M.ret]
theorem boolsOf_true {α : Type} : ∀ xs : List α, boolsOf (xs.map fun _ => D.bl true) = some (xs.map fun _ => true)
  | [] => rfl
  | x :: xs => by simp [boolsOf, boolsOf_true xs]
theorem all_true {α : Type} {xs : List α} {S : Store} : allD [.lst (xs.map fun _ => D.bl true)] S = some (.bl true) := by
  simp [allD, seqA, seqR, seqL, boolsOf_true]
theorem leI_int {a b : Int} {S : Store} : leI (.int a) (.int b) S = some (.bl (decide (a ≤ b))) := by simp [leI, opI0]
theorem geI_int {a b : Int} {S : Store} : geI (.int a) (.int b) S = some (.bl (decide (b ≤ a))) := by simp [geI, opI0]
theorem ltI_int {a b : Int} {S : Store} : ltI (.int a) (.int b) S = some (.bl (decide (a < b))) := by simp [ltI, opI0]
theorem isi_b {cs : List Nat} {tb : List (Tg × Tg × Bool)} {x : D} {n t : String} {S : Store} {b : Bool} (ht : tagD x S = some (.b t)) (h : L2.kitB t n = some b) : isiD cs tb [x, .ty n] S = some (.bl b) := by
  simp [isiD, ht, clsOf, okTg, isiT, h]
theorem kit_ss : L2.kitB "str" "str" = some true := by decide +kernel
theorem kit_ii : L2.kitB "int" "int" = some true := by decide +kernel
theorem kit_ib : L2.kitB "int" "bool" = some false := by decide +kernel
section
variable (cs : List Nat) (tb : List (Tg × Tg × Bool))
def al1 : IS := sIf (iOr (iNot (iTst (iCB (isiD cs tb) (iCons (iVar 0) (iCons (iC (.ty "str")) iNil))))) (iNot (iTst (iChain leI leI (iC (.int 2)) (iCB lenD (iCons (iVar 0) iNil)) (iC (.int 26)))))) (sRet (iC (.bl false))) sNext
def al2 : IS := sAsg 1 (iLc (iItems (iVar 0)) (.n 2) iYes (iBM .s strFind (iC (.str abc)) (iCons (iVar 2) iNil)) [2])
def al3 : IS := sRet (iAndV (iOp geI (iOp ixD (iVar 1) (iC (.int 0))) (iC (.int 0))) (iCB allD (iCons (iLc (iZip (iCons (iVar 1) (iCons (iSl slD (iVar 1) (iPart (iC (.int 1))) iNoPart) iNil))) (.t [3, 4]) iYes (iOp ltI (iVar 3) (iVar 4)) [3, 4]) iNil)))
def isAre : IS := sSeq (al1 cs tb) (sSeq al2 al3)
def dAre : List D → M D := defJ 5 false (isAre cs tb)
def isInt : IS := sRet (iAndV (iCB (isiD cs tb) (iCons (iVar 0) (iCons (iC (.ty "int")) iNil))) (iNotV (iTst (iCB (isiD cs tb) (iCons (iVar 0) (iCons (iC (.ty "bool")) iNil))))))
def dInt : List D → M D := defJ 1 false (isInt cs tb)
theorem int_ok {i : Int} {S : Store} : dInt cs tb [.int i] S = .ok (.bl true) (S.trim S.next) := by
  have h1 := isi_b (cs := cs) (tb := tb) (x := .int i) (S := S) (t := "int") rfl kit_ii
  have h2 := isi_b (cs := cs) (tb := tb) (x := .int i) (S := S) (t := "int") rfl kit_ib
  unfold dInt defJ isInt startR
  simp [sSeq, sSetI, sSetIN, sBind, iOp, M.bind, lift, iVar, iC, M.ret, sIf, iTst, isB, iCB, iCons, iNil, sRet, sNext, sAsg, sExpr, sPar, sPar3, iCall, iIf, iOr, iAnd, iNot, iNotV, iAndV, iOrV, M.no, iLstM, iLst, iTup, sAsgG, ngD, nsD, iSl, iPart, iNoPart, iBM, iCM, iYes, h1, h2]
theorem fst_abc {c : Nat} (h : 97 ≤ c ∧ c ≤ 122) : fstAt c abc = some (c - 97) := by
  obtain ⟨d, rfl⟩ : ∃ d, c = 97 + d := ⟨c - 97, by omega⟩
  have hd : d < 26 := by omega
  have all : ∀ d < 26, fstAt (97 + d) abc = some (97 + d - 97) := by decide
  exact all d hd
def plc (l : List Nat) : List D := l.map fun (c : Nat) => D.int ((c : Int) - 97)
theorem zip_up : ∀ l : List Nat, l.Pairwise (· < ·) → ∀ x ∈ zipD (plc l) ((plc l).drop 1), ∃ a b : Int, x = .tup [.int a, .int b] ∧ a < b
  | [], _, x, hx => by simp [plc, zipD] at hx
  | [c], _, x, hx => by simp [plc, zipD] at hx
  | c :: d :: r, h, x, hx => by
    have ⟨h1, h2⟩ := List.pairwise_cons.mp h
    have hx' : x = .tup [.int ((c : Int) - 97), .int ((d : Int) - 97)] ∨ x ∈ zipD (plc (d :: r)) ((plc (d :: r)).drop 1) := by
      simpa [plc, zipD] using hx
    rcases hx' with e | e
    · have := h1 d (List.mem_cons_self ..)
      exact ⟨_, _, e, by omega⟩
    · exact zip_up (d :: r) h2 x e
theorem are_ok {l : List Nat} {S : Store} (h : Sg l) (h2 : 2 ≤ l.length) : dAre cs tb [.str l] S = .ok (.bl true) (S.trim S.next) := by
  have l26 := h.len
  have l1 : l.length ≤ 100000 := by omega
  have hs := isi_b (cs := cs) (tb := tb) (x := .str l) (S := S) (t := "str") rfl kit_ss
  have a1 : al1 cs tb [some (.str l), none, none, none, none] S = .ok (.nx [some (.str l), none, none, none, none]) S := by
    have z1 : (2 : Int) ≤ (l.length : Int) := by omega
    have z2 : (l.length : Int) ≤ 26 := by omega
    unfold al1
    simp [sSeq, sSetI, sSetIN, sBind, iOp, M.bind, lift, iVar, iC, M.ret, sIf, iTst, isB, iCB, iCons, iNil, sRet, sNext, sAsg, sExpr, sPar, sPar3, iCall, iIf, iOr, iAnd, iNot, iNotV, iAndV, iOrV, M.no, iLstM, iLst, iTup, sAsgG, ngD, nsD, iSl, iPart, iNoPart, iBM, iCM, iYes, hs, iChain, lenD_str l1, leI_int, z1, z2]
  have a2 : al2 [some (.str l), none, none, none, none] S = .ok (.nx [some (.str l), some (.lst (plc l)), none, none, none]) S := by
    have lc : lcL (.n 2) iYes (iBM .s strFind (iC (.str abc)) (iCons (iVar 2) iNil)) [some (.str l), none, none, none, none] (l.map fun c => .str [c]) S = .ok ((l.map fun c => D.str [c]).map fun x => match x with | .str [c] => .int ((c : Int) - 97) | _ => .non) S := by
      refine lcL_pure _ _ fun x hx => ?_
      obtain ⟨c, hc, rfl⟩ := List.mem_map.mp hx
      have hf := fst_abc (h.abc c hc)
      refine ⟨_, rfl, rfl, ?_⟩
      have sf : strFind (.str abc) [.str [c]] S = .ok (.int ((c : Int) - 97)) S := by
        unfold strFind
        simp only [hf, M.ret]
        have := h.abc c hc
        congr 2
        omega
      simp [sSeq, sSetI, sSetIN, sBind, iOp, M.bind, lift, iVar, iC, M.ret, sIf, iTst, isB, iCB, iCons, iNil, sRet, sNext, sAsg, sExpr, sPar, sPar3, iCall, iIf, iOr, iAnd, iNot, iNotV, iAndV, iOrV, M.no, iLstM, iLst, iTup, sAsgG, ngD, nsD, iSl, iPart, iNoPart, iBM, iCM, iYes, kindIs, sf]
    have e : (l.map fun c => D.str [c]).map (fun x => match x with | .str [c] => D.int ((c : Int) - 97) | _ => .non) = plc l := by
      rw [List.map_map]
      rfl
    rw [e] at lc
    have hlen : l.length < 100000 := by omega
    unfold al2
    simp [sSeq, sSetI, sSetIN, sBind, iOp, M.bind, lift, iVar, iC, M.ret, sIf, iTst, isB, iCB, iCons, iNil, sRet, sNext, sAsg, sExpr, sPar, sPar3, iCall, iIf, iOr, iAnd, iNot, iNotV, iAndV, iOrV, M.no, iLstM, iLst, iTup, sAsgG, ngD, nsD, iSl, iPart, iNoPart, iBM, iCM, iYes, iLc, iItems, items, wipeR, lc, hlen]
  have a3 : al3 [some (.str l), some (.lst (plc l)), none, none, none] S = .ok (.rt (.bl true)) S := by
    have hz := zip_up l h.up
    have lc : lcL (.t [3, 4]) iYes (iOp ltI (iVar 3) (iVar 4)) [some (.str l), some (.lst (plc l)), none, none, none] (zipD (plc l) ((plc l).drop 1)) S = .ok ((zipD (plc l) ((plc l).drop 1)).map fun _ => D.bl true) S := by
      refine lcL_pure _ _ fun x hx => ?_
      obtain ⟨a, b, rfl, hab⟩ := hz x hx
      refine ⟨_, rfl, rfl, ?_⟩
      simp [sSeq, sSetI, sSetIN, sBind, iOp, M.bind, lift, iVar, iC, M.ret, sIf, iTst, isB, iCB, iCons, iNil, sRet, sNext, sAsg, sExpr, sPar, sPar3, iCall, iIf, iOr, iAnd, iNot, iNotV, iAndV, iOrV, M.no, iLstM, iLst, iTup, sAsgG, ngD, nsD, iSl, iPart, iNoPart, iBM, iCM, iYes, ltI_int, hab]
    have hlen : (zipD (plc l) ((plc l).drop 1)).length < 100000 := by
      rw [zipD_len]
      simp [plc]
      omega
    obtain ⟨c, r, rfl⟩ : ∃ c r, l = c :: r := by
      cases l with
      | nil => simp at h2
      | cons c r => exact ⟨c, r, rfl⟩
    have hc := h.abc c (List.mem_cons_self ..)
    have h0 : ixD (.lst (plc (c :: r))) (.int 0) S = some (.int ((c : Int) - 97)) := by
      simp [ixD, op2, ixL, seqR, seqL, L2.atI, L2.ixN, plc]
    have hge : (0 : Int) ≤ (c : Int) - 97 := by omega
    have sl : slD (.lst (plc (c :: r))) (some 1) none S = some (.lst ((plc (c :: r)).drop 1)) := by
      have := cut_drop (plc (c :: r)) 1
      simp only [slD, opc2, slL, seqR, seqL, Option.some_or]
      rw [← this]
      rfl
    unfold al3
    simp only [sSeq, sSetI, sSetIN, sBind, iOp, M.bind, lift, iVar, iC, M.ret, sIf, iTst, isB, iCB, iCons, iNil, sRet, sNext, sAsg, sExpr, sPar, sPar3, iCall, iIf, iOr, iAnd, iNot, iNotV, iAndV, iOrV, M.no, iLstM, iLst, iTup, sAsgG, ngD, nsD, iSl, iPart, iNoPart, iBM, iCM, iYes, List.getD_cons_zero, List.getD_cons_succ, h0, geI_int, hge, decide_true, if_true, iLc, iZip, sl, zipOf, wipeR, List.set_cons_zero, List.set_cons_succ, lc, hlen, all_true]
  show defJ 5 false (isAre cs tb) _ S = _
  unfold defJ isAre
  have e0 : startR 5 [.str l] = [some (.str l), none, none, none, none] := rfl
  rw [e0, sSeq_nx a1, sSeq_nx a2, a3]
  rfl
end
end J

set_option Elab.async false
set_option linter.all false
set_option maxRecDepth 100000
set_option maxHeartbeats 1010000
/-! PF: plain laws: boards made, asked -/
namespace J
section
variable (T : Tab) (cs : List Nat) (tb : List (Tg × Tg × Bool))
def in1 : IS := sIf (iNot (iTst (iCall 1 (dAre cs tb) (iCons (iVar 1) iNil)))) sNever sNext
def in2 : IS := sIf (iOr (iNot (iTst (iCall 1 (dInt cs tb) (iCons (iVar 2) iNil)))) (iNot (iTst (iChain leI leI (iC (.int 1)) (iVar 2) (iC (.int 6)))))) sNever sNext
def in3 : IS := sSetA T [0] 0 (iVar 1) (iVar 0)
def in4 : IS := sSetA T [0] 1 (iVar 2) (iVar 0)
def isInit : IS := sSeq (in1 cs tb) (sSeq (in2 cs tb) (sSeq (in3 T) (in4 T)))
def dInit : List D → M D := defJ 3 true (isInit T cs tb)
theorem get_trim_lt {S : Store} {m : Nat} (h : m < S.next) : (S.trim S.next).get m = S.get m := by
  rw [Store.get_trim, if_pos h]
theorem init_ok {S : Store} {m : Nat} {l : List Nat} {k : Int} (hm : S.get m = some (.ins 0 [])) (hlt : m < S.next) (h : Sg l) (h2 : 2 ≤ l.length) (k1 : 1 ≤ k) (k2 : k ≤ 6) :
    ∃ S', dInit T cs tb [.ref m, .str l, .int k] S = .ok .non S' ∧ S'.get m = some (.ins 0 [(0, .str l), (1, .int k)]) ∧ Kp m S S' := by
  have a := are_ok cs tb (S := S) h h2
  have b := int_ok cs tb (S := S.trim S.next) (i := k)
  have n1 : (S.trim S.next).next = S.next := rfl
  have g1 : ((S.trim S.next).trim S.next).get m = some (.ins 0 []) := by
    rw [Store.get_trim, if_pos hlt, Store.get_trim, if_pos hlt]
    exact hm
  have e1 : in1 cs tb [some (.ref m), some (.str l), some (.int k)] S = .ok (.nx [some (.ref m), some (.str l), some (.int k)]) (S.trim S.next) := by
    unfold in1
    simp [sSeq, sSetI, sSetIN, sBind, iOp, M.bind, lift, iVar, iC, M.ret, sIf, iTst, isB, iCB, iCons, iNil, sRet, sNext, sAsg, sExpr, sPar, sPar3, iCall, iIf, iOr, iAnd, iNot, iNotV, iAndV, iOrV, M.no, iLstM, iLst, iTup, sAsgG, ngD, nsD, iSl, iPart, iNoPart, iBM, iCM, iYes, a]
  have e2 : in2 cs tb [some (.ref m), some (.str l), some (.int k)] (S.trim S.next) = .ok (.nx [some (.ref m), some (.str l), some (.int k)]) ((S.trim S.next).trim S.next) := by
    rw [n1] at b
    unfold in2
    simp [sSeq, sSetI, sSetIN, sBind, iOp, M.bind, lift, iVar, iC, M.ret, sIf, iTst, isB, iCB, iCons, iNil, sRet, sNext, sAsg, sExpr, sPar, sPar3, iCall, iIf, iOr, iAnd, iNot, iNotV, iAndV, iOrV, M.no, iLstM, iLst, iTup, sAsgG, ngD, nsD, iSl, iPart, iNoPart, iBM, iCM, iYes, b, iChain, leI_int, k1, k2]
  have e3 : in3 T [some (.ref m), some (.str l), some (.int k)] ((S.trim S.next).trim S.next) = .ok (.nx [some (.ref m), some (.str l), some (.int k)]) (((S.trim S.next).trim S.next).set m (.ins 0 [(0, .str l)])) := by
    unfold in3 sSetA
    simp [sSeq, sSetI, sSetIN, sBind, iOp, M.bind, lift, iVar, iC, M.ret, sIf, iTst, isB, iCB, iCons, iNil, sRet, sNext, sAsg, sExpr, sPar, sPar3, iCall, iIf, iOr, iAnd, iNot, iNotV, iAndV, iOrV, M.no, iLstM, iLst, iTup, sAsgG, ngD, nsD, iSl, iPart, iNoPart, iBM, iCM, iYes, g1, putD]
  have e4 : in4 T [some (.ref m), some (.str l), some (.int k)] (((S.trim S.next).trim S.next).set m (.ins 0 [(0, .str l)])) = .ok (.nx [some (.ref m), some (.str l), some (.int k)]) ((((S.trim S.next).trim S.next).set m (.ins 0 [(0, .str l)])).set m (.ins 0 [(0, .str l), (1, .int k)])) := by
    unfold in4 sSetA
    simp [sSeq, sSetI, sSetIN, sBind, iOp, M.bind, lift, iVar, iC, M.ret, sIf, iTst, isB, iCB, iCons, iNil, sRet, sNext, sAsg, sExpr, sPar, sPar3, iCall, iIf, iOr, iAnd, iNot, iNotV, iAndV, iOrV, M.no, iLstM, iLst, iTup, sAsgG, ngD, nsD, iSl, iPart, iNoPart, iBM, iCM, iYes, putD]
  refine ⟨(((S.trim S.next).trim S.next).set m (.ins 0 [(0, .str l)])).set m (.ins 0 [(0, .str l), (1, .int k)]), ?_, Store.get_set_self .., ?_⟩
  · show defJ 3 true (isInit T cs tb) _ S = _
    unfold defJ isInit
    have e0 : startR 3 [.ref m, .str l, .int k] = [some (.ref m), some (.str l), some (.int k)] := rfl
    rw [e0, sSeq_nx e1, sSeq_nx e2, sSeq_nx e3, e4]
    rfl
  · have q1 : Kq S (S.trim S.next) := kq_trim (Kq.refl S)
    have q2 : Kq (S.trim S.next) ((S.trim S.next).trim S.next) := kq_trim (Kq.refl _)
    exact (q1.trans q2).kp.trans (kp_set.trans kp_set)
theorem make_ok (hT : T.fs 0 = [0, 1]) {S : Store} {l : List Nat} {k : Int} (h : Sg l) (h2 : 2 ≤ l.length) (k1 : 1 ≤ k) (k2 : k ≤ 6) :
    ∃ S', makeD T true 0 3 (dInit T cs tb) [.str l, .int k] S = .ok (.ins 0 [.str l, .int k]) S' ∧ Kq S S' := by
  obtain ⟨S1, e, g, kp⟩ := init_ok T cs tb (S := S.alloc (.ins 0 [])) (m := S.next) (Store.get_alloc_self ..) (Nat.lt_succ_self _) h h2 k1 k2
  refine ⟨S1.del S.next, ?_, ?_⟩
  · unfold makeD
    simp [e, madeD, g, hT]
  · refine ⟨Nat.le_trans (Nat.le_succ _) kp.next, fun m hm => ?_⟩
    rw [Store.get_del, if_neg (Nat.ne_of_lt hm), kp.get m (Nat.lt_succ_of_lt hm) (Nat.ne_of_lt hm)]
    exact Store.get_alloc_ne _ _ (Nat.ne_of_lt hm)
/-- a board -/
abbrev bd (l : List Nat) (k : Int) : D := .ins 0 [.str l, .int k]
theorem ins_bd (hT : T.fs 0 = [0, 1]) {l : List Nat} {k : Int} {S : Store} : insOf T (bd l k) S = some (0, [(0, .str l), (1, .int k)]) := by
  simp [insOf, hT]
theorem fld0 (hT : T.fs 0 = [0, 1]) {ie : IE} {ρ : Rho} {S S' : Store} {l : List Nat} {k : Int} (h : ie ρ S = .ok (bd l k) S') : iFld T [0] 0 ie ρ S = .ok (.str l) S' := by
  unfold iFld M.bind
  simp only [h, ins_bd T hT]
  simp [lift, getF]
theorem fld1 (hT : T.fs 0 = [0, 1]) {ie : IE} {ρ : Rho} {S S' : Store} {l : List Nat} {k : Int} (h : ie ρ S = .ok (bd l k) S') : iFld T [0] 1 ie ρ S = .ok (.int k) S' := by
  unfold iFld M.bind
  simp only [h, ins_bd T hT]
  simp [lift, getF]
/-! size -/
def sz1b : IS := sAug 1 mulI (iCB lenD (iCons (iFld T [0] 0 (iVar 0)) iNil))
def sz1 : IS := sFor (iRange range1 (iCons (iFld T [0] 1 (iVar 0)) iNil)) (.n 2) (sz1b T)
def isSize : IS := sSeq (sAsg 1 (iC (.int 1))) (sSeq (sz1 T) (sRet (iVar 1)))
def dSize : List D → M D := defJ 3 false (isSize T)
theorem mulI_int {a b : Int} {S : Store} (h : 0 ≤ b ∧ b ≤ 1000) : mulI (.int a) (.int b) S = some (.int (a * b)) := by
  have z : (decide (-(2 ^ 64) < a ∧ a < 2 ^ 64) || decide (-(2 ^ 64) < b ∧ b < 2 ^ 64)) = true := by
    rw [Bool.or_eq_true]
    exact .inr (decide_eq_true ⟨by omega, by omega⟩)
  unfold mulI opI
  dsimp only
  rw [if_pos z]
theorem size_turn (hT : T.fs 0 = [0, 1]) {S1 : Store} {l : List Nat} {k : Nat} {c : Int} {x : D} (hl : l.length ≤ 26) : sz1b T [some (bd l k), some (.int c), some x] S1 = .ok (.nx [some (bd l k), some (.int (c * (l.length : Int))), some x]) S1 := by
  have l1 : l.length ≤ 100000 := by omega
  have f0 : iFld T [0] 0 (iVar 0) [some (bd l k), some (.int c), some x] S1 = .ok (.str l) S1 := fld0 T hT rfl
  have ar : iCB lenD (iCons (iFld T [0] 0 (iVar 0)) iNil) [some (bd l k), some (.int c), some x] S1 = .ok (.int (l.length : Int)) S1 := by
    simp [sSeq, sSetI, sSetIN, sBind, iOp, M.bind, lift, iVar, iC, M.ret, sIf, iTst, isB, iCB, iCons, iNil, sRet, sNext, sAsg, sExpr, sPar, sPar3, iCall, iIf, iOr, iAnd, iNot, iNotV, iAndV, iOrV, M.no, iLstM, iLst, iTup, sAsgG, ngD, nsD, iSl, iPart, iNoPart, iBM, iCM, iYes, f0, lenD_str l1]
  have mi : mulI (.int c) (.int (l.length : Int)) S1 = some (.int (c * (l.length : Int))) := mulI_int ⟨by omega, by omega⟩
  unfold sz1b sAug
  simp only [List.getD_cons_succ, List.getD_cons_zero, sBind, ar, mi]
  rfl
theorem size_loop (hT : T.fs 0 = [0, 1]) {S : Store} {l : List Nat} {k : Nat} (hl : l.length ≤ 26) : ∃ t, forL (.n 2) (sz1b T) (rng 0 k) [some (bd l k), some (.int 1), none] S = .ok (.nx [some (bd l k), some (.int ((l.length : Int) ^ k)), t]) S := by
  have key := forL_inv (g := .n 2) (body := sz1b T) (fun j ρ S' => S' = S ∧ ∃ t c, c = (l.length : Int) ^ j ∧ ρ = [some (bd l k), some (.int c), t]) (rng 0 k) 0 [some (bd l k), some (.int 1), none] S ⟨rfl, none, 1, by simp, rfl⟩ (by
    intro j x ρ S1 hx hI
    obtain ⟨rfl, t, c, hc, rfl⟩ := hI
    exact ⟨[some (bd l k), some (.int c), some x], _, S1, rfl, size_turn T hT hl, rfl, some x, c * (l.length : Int), by rw [hc, Int.pow_succ], rfl⟩)
  obtain ⟨ρ', S', e, rfl, t, c, hc, rfl⟩ := key
  have len : 0 + (rng 0 k).length = k := by simp [rng]
  rw [len] at hc
  exact ⟨t, by rw [e, hc]⟩
theorem size_ok (hT : T.fs 0 = [0, 1]) {S : Store} {l : List Nat} {k : Nat} (hl : l.length ≤ 26) (hk : k ≤ 6) : dSize T [bd l k] S = .ok (.int ((l.length : Int) ^ k)) (S.trim S.next) := by
  obtain ⟨t, e⟩ := size_loop T hT (S := S) (l := l) (k := k) hl
  have f1 : iFld T [0] 1 (iVar 0) [some (bd l k), some (.int 1), none] S = .ok (.int (k : Int)) S := fld1 T hT rfl
  have e1 : sz1 T [some (bd l k), some (.int 1), none] S = .ok (.nx [some (bd l k), some (.int ((l.length : Int) ^ k)), t]) S := by
    rw [← e]
    have z : -100000 ≤ (k : Int) ∧ (k : Int) ≤ 100000 := by omega
    unfold sz1
    simp [sSeq, sSetI, sSetIN, sBind, iOp, M.bind, lift, iVar, iC, M.ret, sIf, iTst, isB, iCB, iCons, iNil, sRet, sNext, sAsg, sExpr, sPar, sPar3, iCall, iIf, iOr, iAnd, iNot, iNotV, iAndV, iOrV, M.no, iLstM, iLst, iTup, sAsgG, ngD, nsD, iSl, iPart, iNoPart, iBM, iCM, iYes, sFor, iRange, range1, f1, z]
  have a1 : sAsg 1 (iC (.int 1)) [some (bd l k), none, none] S = .ok (.nx [some (bd l k), some (.int 1), none]) S := rfl
  have fin : isSize T [some (bd l k), none, none] S = .ok (.rt (.int ((l.length : Int) ^ k))) S := by
    unfold isSize
    rw [sSeq_nx a1, sSeq_nx e1]
    simp [sSeq, sSetI, sSetIN, sBind, iOp, M.bind, lift, iVar, iC, M.ret, sIf, iTst, isB, iCB, iCons, iNil, sRet, sNext, sAsg, sExpr, sPar, sPar3, iCall, iIf, iOr, iAnd, iNot, iNotV, iAndV, iOrV, M.no, iLstM, iLst, iTup, sAsgG, ngD, nsD, iSl, iPart, iNoPart, iBM, iCM, iYes]
  unfold dSize defJ
  have e0 : startR 3 [bd l k] = [some (bd l k), none, none] := rfl
  rw [e0, fin]
  simp
/-! str, repr -/
theorem dig_one {k : Nat} (h1 : 1 ≤ k) (h2 : k ≤ 6) : digits (k : Int) = [48 + k] := by
  have all : ∀ k : Nat, k ≤ 6 → digits (k : Int) = [48 + k] := by decide
  exact all k h2
theorem fmt_str {ie : IE} {ρ : Rho} {S S' : Store} {l : List Nat} (h : ie ρ S = .ok (.str l) S') (hl : l.length ≤ 100000) : iFmt ie ρ S = .ok (.str l) S' := by
  unfold iFmt M.bind
  simp [h, fmtOf, hl, lift]
theorem fmt_int {ie : IE} {ρ : Rho} {S S' : Store} {i : Int} (h : ie ρ S = .ok (.int i) S') (hl : i.natAbs.log2 < 1920) : iFmt ie ρ S = .ok (.str (digits i)) S' := by
  unfold iFmt M.bind
  simp [h, fmtOf, hl, lift]
theorem log_small {k : Nat} (h : k ≤ 6) : (k : Int).natAbs.log2 < 1920 := by
  have : k.log2 ≤ k := Nat.log2_le_self k
  simp only [Int.natAbs_natCast]
  omega
def isStr : IS := sRet (iJoin [iFmt (iFld T [0] 0 (iVar 0)), iC (.str [32]), iFmt (iFld T [0] 1 (iVar 0))])
def dStr : List D → M D := defJ 1 false (isStr T)
def isRepr : IS := sRet (iJoin [iC (.str [66, 111, 97, 114, 100, 40]), iFmt (iFld T [0] 0 (iVar 0)), iC (.str [32]), iFmt (iFld T [0] 1 (iVar 0)), iC (.str [41])])
def dRepr : List D → M D := defJ 1 false (isRepr T)
theorem str_ok (hT : T.fs 0 = [0, 1]) {S : Store} {l : List Nat} {k : Nat} (hl : l.length ≤ 26) (h1 : 1 ≤ k) (hk : k ≤ 6) : dStr T [bd l k] S = .ok (.str (l ++ [32, 48 + k])) (S.trim S.next) := by
  have f0 : iFmt (iFld T [0] 0 (iVar 0)) [some (bd l k)] S = .ok (.str l) S := fmt_str (fld0 T hT rfl) (by omega)
  have f1 : iFmt (iFld T [0] 1 (iVar 0)) [some (bd l k)] S = .ok (.str [48 + k]) S := by
    rw [← dig_one h1 hk]
    exact fmt_int (fld1 T hT rfl) (log_small hk)
  have z1 : l.length ≤ 100000 := by omega
  have z2 : l.length + 1 ≤ 100000 := by omega
  have z3 : l.length + 1 + 1 ≤ 100000 := by omega
  unfold dStr defJ isStr startR
  simp [sRet, sBind, iJoin, joinF, M.bind, M.ret, iC, f0, f1, z1, z2, z3, List.append_assoc]
theorem repr_ok (hT : T.fs 0 = [0, 1]) {S : Store} {l : List Nat} {k : Nat} (hl : l.length ≤ 26) (h1 : 1 ≤ k) (hk : k ≤ 6) : dRepr T [bd l k] S = .ok (.str ([66, 111, 97, 114, 100, 40] ++ (l ++ [32, 48 + k]) ++ [41])) (S.trim S.next) := by
  have f0 : iFmt (iFld T [0] 0 (iVar 0)) [some (bd l k)] S = .ok (.str l) S := fmt_str (fld0 T hT rfl) (by omega)
  have f1 : iFmt (iFld T [0] 1 (iVar 0)) [some (bd l k)] S = .ok (.str [48 + k]) S := by
    rw [← dig_one h1 hk]
    exact fmt_int (fld1 T hT rfl) (log_small hk)
  have z1 : l.length + 1 + 1 + 1 + 1 + 1 + 1 ≤ 100000 := by omega
  have z2 : l.length + 1 + 1 + 1 + 1 + 1 + 1 + 1 ≤ 100000 := by omega
  have z3 : l.length + 1 + 1 + 1 + 1 + 1 + 1 + 1 + 1 ≤ 100000 := by omega
  have z4 : l.length + 1 + 1 + 1 + 1 + 1 + 1 + 1 + 1 + 1 ≤ 100000 := by omega
  unfold dRepr defJ isRepr startR
  simp [sRet, sBind, iJoin, joinF, M.bind, M.ret, iC, f0, f1, z1, z2, z3, z4, List.append_assoc]
end
end J

set_option Elab.async false
set_option linter.all false
set_option maxRecDepth 100000
set_option maxHeartbeats 1010000
/-! PG: plain laws: boards compared -/
namespace J
section
variable (T : Tab) (cs : List Nat) (tb : List (Tg × Tg × Bool))
def isEq : IS := sRet (iAndV (iCB (isiD cs tb) (iCons (iVar 1) (iCons (iC (.glo 0)) iNil))) (iAndV (iOp eqD (iFld T [0] 0 (iVar 0)) (iFld T [0] 0 (iVar 1))) (iOp eqD (iFld T [0] 1 (iVar 0)) (iFld T [0] 1 (iVar 1)))))
def dEq : List D → M D := defJ 2 false (isEq T cs tb)
theorem eqD_str {a b : List Nat} {S : Store} : eqD (.str a) (.str b) S = some (.bl (decide (a = b))) := by simp [eqD, op2, eqS]
theorem eqD_int {a b : Int} {S : Store} : eqD (.int a) (.int b) S = some (.bl (decide (a = b))) := by simp [eqD, op2, eqS]
theorem eq_bd (hT : T.fs 0 = [0, 1]) {S : Store} {l l' : List Nat} {k k' : Int} (h : isiD cs tb [bd l' k', .glo 0] S = some (.bl true)) : dEq T cs tb [bd l k, bd l' k'] S = .ok (.bl (decide (l = l') && decide (k = k'))) (S.trim S.next) := by
  have f0 : iFld T [0] 0 (iVar 0) [some (bd l k), some (bd l' k')] S = .ok (.str l) S := fld0 T hT rfl
  have f1 : iFld T [0] 1 (iVar 0) [some (bd l k), some (bd l' k')] S = .ok (.int k) S := fld1 T hT rfl
  have g0 : iFld T [0] 0 (iVar 1) [some (bd l k), some (bd l' k')] S = .ok (.str l') S := fld0 T hT rfl
  have g1 : iFld T [0] 1 (iVar 1) [some (bd l k), some (bd l' k')] S = .ok (.int k') S := fld1 T hT rfl
  unfold dEq defJ isEq
  have e0 : startR 2 [bd l k, bd l' k'] = [some (bd l k), some (bd l' k')] := rfl
  rw [e0]
  by_cases hl : l = l'
  · subst hl
    simp [sSeq, sSetI, sSetIN, sBind, iOp, M.bind, lift, iVar, iC, M.ret, sIf, iTst, isB, iCB, iCons, iNil, sRet, sNext, sAsg, sExpr, sPar, sPar3, iCall, iIf, iOr, iAnd, iNot, iNotV, iAndV, iOrV, M.no, iLstM, iLst, iTup, sAsgG, ngD, nsD, iSl, iPart, iNoPart, iBM, iCM, iYes, h, f0, g0, f1, g1, eqD_str, eqD_int]
  · simp [sSeq, sSetI, sSetIN, sBind, iOp, M.bind, lift, iVar, iC, M.ret, sIf, iTst, isB, iCB, iCons, iNil, sRet, sNext, sAsg, sExpr, sPar, sPar3, iCall, iIf, iOr, iAnd, iNot, iNotV, iAndV, iOrV, M.no, iLstM, iLst, iTup, sAsgG, ngD, nsD, iSl, iPart, iNoPart, iBM, iCM, iYes, h, f0, g0, f1, g1, eqD_str, eqD_int, hl]
theorem eq_no {S : Store} {x y : D} (h : isiD cs tb [y, .glo 0] S = some (.bl false)) : dEq T cs tb [x, y] S = .ok (.bl false) (S.trim S.next) := by
  unfold dEq defJ isEq
  have e0 : startR 2 [x, y] = [some x, some y] := rfl
  rw [e0]
  simp [sSeq, sSetI, sSetIN, sBind, iOp, M.bind, lift, iVar, iC, M.ret, sIf, iTst, isB, iCB, iCons, iNil, sRet, sNext, sAsg, sExpr, sPar, sPar3, iCall, iIf, iOr, iAnd, iNot, iNotV, iAndV, iOrV, M.no, iLstM, iLst, iTup, sAsgG, ngD, nsD, iSl, iPart, iNoPart, iBM, iCM, iYes, h]
theorem eqO_of (hT : T.fs 0 = [0, 1]) {g : List Tg} {neg b : Bool} {S : Store} {l : List Nat} {k : Int} {y : D} {t : Tg} (ht : tagD y S = some t) (hg : (g.contains t && okTg cs t) = true) (h : dEq T cs tb [bd l k, y] S = .ok (.bl b) (S.trim S.next)) :
    eqO T 0 cs g neg (dEq T cs tb) (bd l k) y S = .ok (.bl (neg != b)) (S.trim S.next) := by
  unfold eqO
  simp only [ins_bd T hT, ht, hg, decide_true, Bool.true_and, if_true, M.bind, nox, h, lift, isB, M.ret]
end
theorem ok_cps {l : List Nat} (h : ∀ c ∈ l, c < 1114112) : PySem.PyData.strOk ⟨l.toArray⟩ = true := by
  unfold PySem.PyData.strOk
  simp only [Array.all_eq_true, decide_eq_true_eq]
  intro i hi
  exact h _ (List.getElem_mem _)
/-- the two lists of k01 -/
theorem seen_same {a b c : List Nat} {i j : Int} {S : Store} (ha : ∀ x ∈ a, x < 1114112) (hb : ∀ x ∈ b, x < 1114112) (hc : ∀ x ∈ c, x < 1114112) :
    neD (.lst [.str a, .int i, .int j, .str b, .str c]) (.lst [.str a, .int i, .int j, .str b, .str c]) S = some (.bl false) := by
  have h1 := ok_cps ha
  have h2 := ok_cps hb
  have h3 := ok_cps hc
  simp [neD, op2, neS, eqS, neG, eqP, deref, toPy, toPys, PySem.SeqAt.shaped, PySem.PyData.canLay0, PySem.PyData.canLayAll0, PySem.PyData.depth, PySem.PyData.depthAll, h1, h2, h3, PySem.PyData.eqv, PySem.PyData.eqvAll]
end J

set_option Elab.async false
set_option linter.all false
set_option maxRecDepth 100000
set_option maxHeartbeats 1010000
/-! PH: plain laws: one of several, words -/
namespace J
def isOf : IS := (sRet (iOp ixD (iVar 1) (iCall 2 dDip (iCons (iVar 0) (iCons (iCB lenD (iCons (iVar 1) iNil)) iNil)))))
def dOf : List D → M D := defJ 2 false isOf
theorem of_str {S : Store} {n : Nat} {l : List Nat} (b : Bw S n) (h : 0 < l.length) (h2 : l.length ≤ 1000) : ∃ c S', dOf [.ref n, .str l] S = .ok (.str [c]) S' ∧ c ∈ l ∧ Bw S' n ∧ Kp n S S' := by
  obtain ⟨r, S1, e1, r0, r1, b1, k1⟩ := dip_ok (k := (l.length : Int)) b (by omega) (by omega)
  obtain ⟨q, rfl⟩ := Int.eq_ofNat_of_zero_le r0
  have hq : q < l.length := by omega
  have hn := b.1
  refine ⟨l[q], S1.trim S.next, ?_, List.getElem_mem _, bw_trim b1 hn, kp_trim k1⟩
  unfold dOf defJ isOf startR
  simp [sSeq, sSetI, sSetIN, sBind, iOp, M.bind, lift, iVar, iC, M.ret, sIf, iTst, isB, iCB, iCons, iNil, sRet, sNext, sAsg, sExpr, sPar, sPar3, iCall, iIf, iOr, iAnd, iNot, iNotV, iAndV, iOrV, M.no, iLstM, iLst, iTup, sAsgG, ngD, nsD, iSl, iPart, iNoPart, iBM, iCM, iYes, lenD_str (show l.length ≤ 100000 by omega), e1, ixD_str hq (show l.length ≤ 100000 by omega)]
theorem ixD_lst {xs : List D} {i : Nat} {S : Store} (h : i < xs.length) : ixD (.lst xs) (.int (i : Int)) S = some xs[i] := by
  simp [ixD, op2, ixL, seqR, seqL, L2.atI, L2.ixN, h]
theorem lenD_lst {xs : List D} {S : Store} (h : xs.length ≤ 100000) : lenD [.lst xs] S = some (.int xs.length) := by
  simp [lenD, h, seqA, seqR, seqL]
theorem of_lst {S : Store} {n : Nat} {xs : List D} (b : Bw S n) (h : 0 < xs.length) (h2 : xs.length ≤ 1000) : ∃ d S', dOf [.ref n, .lst xs] S = .ok d S' ∧ d ∈ xs ∧ Bw S' n ∧ Kp n S S' := by
  obtain ⟨r, S1, e1, r0, r1, b1, k1⟩ := dip_ok (k := (xs.length : Int)) b (by omega) (by omega)
  obtain ⟨q, rfl⟩ := Int.eq_ofNat_of_zero_le r0
  have hq : q < xs.length := by omega
  have hn := b.1
  refine ⟨xs[q], S1.trim S.next, ?_, List.getElem_mem _, bw_trim b1 hn, kp_trim k1⟩
  unfold dOf defJ isOf startR
  simp [sSeq, sSetI, sSetIN, sBind, iOp, M.bind, lift, iVar, iC, M.ret, sIf, iTst, isB, iCB, iCons, iNil, sRet, sNext, sAsg, sExpr, sPar, sPar3, iCall, iIf, iOr, iAnd, iNot, iNotV, iAndV, iOrV, M.no, iLstM, iLst, iTup, sAsgG, ngD, nsD, iSl, iPart, iNoPart, iBM, iCM, iYes, lenD_lst (show xs.length ≤ 100000 by omega), e1, ixD_lst hq]
theorem chars_of : ∀ {rs : List D} {l : List Nat}, (∀ d ∈ rs, ∃ c ∈ l, d = .str [c]) → ∃ w : List Nat, rs = w.map (fun c => .str [c]) ∧ ∀ c ∈ w, c ∈ l
  | [], l, _ => ⟨[], rfl, by simp⟩
  | d :: rs, l, h => by
    obtain ⟨c, hc, rfl⟩ := h d (List.mem_cons_self ..)
    obtain ⟨w, rfl, hw⟩ := chars_of (rs := rs) (l := l) fun x hx => h x (List.mem_cons_of_mem _ hx)
    exact ⟨c :: w, rfl, fun x hx => by rcases List.mem_cons.mp hx with z | z; exact z ▸ hc; exact hw x z⟩
theorem join_chars {w : List Nat} {S : Store} (h : w.length ≤ 1000) : strJoin (.str []) [.lst (w.map fun c => .str [c])] S = .ok (.str w) S := by
  have e : (w.map fun c => [c]).all (fun y => decide (y.length ≤ 1000)) = true := by simp
  simp [strJoin, seqA, seqR, seqL, strsOf_one, h, e, joinL, joinL_nil, flat_one, lift, M.ret]
def wd1 : IS := (sAsg 3 (iVar 1))
def wd2 : IS := (sIf (iTst (iOp eqD (iCall 2 dDip (iCons (iVar 0) (iCons (iC (.int 3)) iNil))) (iC (.int 0)))) (sAsg 3 (iOp addD (iCall 2 dOf (iCons (iVar 0) (iCons (iVar 1) iNil))) (iCall 2 dOf (iCons (iVar 0) (iCons (iVar 1) iNil))))) sNext)
def wd3 : IS := (sRet (iBM .s strJoin (iC (.str [])) (iCons (iLc (iRange range1 (iCons (iVar 2) iNil)) (.n 4) iYes (iCall 2 dOf (iCons (iVar 0) (iCons (iVar 3) iNil))) [4]) iNil)))
def isWord : IS := sSeq wd1 (sSeq wd2 wd3)
def dWord : List D → M D := defJ 5 false isWord
theorem rng_len (a : Int) (n : Nat) : (rng a n).length = n := by simp [rng]
theorem word_ok {S : Store} {n : Nat} {l : List Nat} {k : Nat} (b : Bw S n) (h : 0 < l.length) (h2 : l.length ≤ 500) (hk : k ≤ 500) : ∃ w S', dWord [.ref n, .str l, .int (k : Int)] S = .ok (.str w) S' ∧ w.length = k ∧ (∀ c ∈ w, c ∈ l) ∧ Bw S' n ∧ Kp n S S' := by
  have hn := b.1
  have e1 : wd1 [some (.ref n), some (.str l), some (.int (k : Int)), none, none] S = .ok (.nx [some (.ref n), some (.str l), some (.int (k : Int)), some (.str l), none]) S := by
    simp [sSeq, sSetI, sSetIN, sBind, iOp, M.bind, lift, iVar, iC, M.ret, sIf, iTst, isB, iCB, iCons, iNil, sRet, sNext, sAsg, sExpr, sPar, sPar3, iCall, iIf, iOr, iAnd, iNot, iNotV, iAndV, iOrV, M.no, iLstM, iLst, iTup, sAsgG, ngD, nsD, iSl, iPart, iNoPart, iBM, iCM, iYes, wd1]
  have e2 : ∃ m S1, wd2 [some (.ref n), some (.str l), some (.int (k : Int)), some (.str l), none] S = .ok (.nx [some (.ref n), some (.str l), some (.int (k : Int)), some (.str m), none]) S1 ∧ 0 < m.length ∧ m.length ≤ 500 ∧ (∀ c ∈ m, c ∈ l) ∧ Bw S1 n ∧ Kp n S S1 := by
    obtain ⟨r, S1, d1, r0, r1, b1, k1⟩ := dip_ok (k := 3) b (by omega) (by omega)
    by_cases hr : r = 0
    · obtain ⟨c, S2, d2, hc, b2, k2⟩ := of_str b1 h (by omega)
      obtain ⟨d, S3, d3, hd, b3, k3⟩ := of_str b2 h (by omega)
      refine ⟨[c, d], S3, ?_, by simp, by simp, by simp [hc, hd], b3, (k1.trans k2).trans k3⟩
      simp [sSeq, sSetI, sSetIN, sBind, iOp, M.bind, lift, iVar, iC, M.ret, sIf, iTst, isB, iCB, iCons, iNil, sRet, sNext, sAsg, sExpr, sPar, sPar3, iCall, iIf, iOr, iAnd, iNot, iNotV, iAndV, iOrV, M.no, iLstM, iLst, iTup, sAsgG, ngD, nsD, iSl, iPart, iNoPart, iBM, iCM, iYes, wd2, d1, d2, d3, hr, eqD_int, addD_str]
    · refine ⟨l, S1, ?_, h, h2, fun c hc => hc, b1, k1⟩
      simp [sSeq, sSetI, sSetIN, sBind, iOp, M.bind, lift, iVar, iC, M.ret, sIf, iTst, isB, iCB, iCons, iNil, sRet, sNext, sAsg, sExpr, sPar, sPar3, iCall, iIf, iOr, iAnd, iNot, iNotV, iAndV, iOrV, M.no, iLstM, iLst, iTup, sAsgG, ngD, nsD, iSl, iPart, iNoPart, iBM, iCM, iYes, wd2, d1, hr, eqD_int]
  obtain ⟨m, S1, e2, m0, m1, hm, b1, k1⟩ := e2
  have key := lcL_inv (g := .n 4) (t := iYes) (ie := iCall 2 dOf (iCons (iVar 0) (iCons (iVar 3) iNil))) (ρ := [some (.ref n), some (.str l), some (.int (k : Int)), some (.str m), none]) (fun _ S' => Bw S' n ∧ Kp n S S') (fun _ d => ∃ c ∈ m, d = .str [c]) (rng 0 k) 0 S1 ⟨b1, k1⟩ (by
    rintro j x S2 hx ⟨b2, k2⟩
    obtain ⟨c, S3, d3, hc, b3, k3⟩ := of_str b2 m0 (by omega)
    refine ⟨_, .str [c], S2, S3, rfl, rfl, ?_, ⟨c, hc, rfl⟩, b3, k2.trans k3⟩
    simp [sSeq, sSetI, sSetIN, sBind, iOp, M.bind, lift, iVar, iC, M.ret, sIf, iTst, isB, iCB, iCons, iNil, sRet, sNext, sAsg, sExpr, sPar, sPar3, iCall, iIf, iOr, iAnd, iNot, iNotV, iAndV, iOrV, M.no, iLstM, iLst, iTup, sAsgG, ngD, nsD, iSl, iPart, iNoPart, iBM, iCM, iYes, d3])
  obtain ⟨rs, S2, e3, l3, p3, b2, k2⟩ := key
  obtain ⟨w, rfl, hw⟩ := chars_of (rs := rs) (l := m) fun d hd => by
    obtain ⟨j, hj⟩ := List.mem_iff_getElem?.mp hd
    exact p3 j d hj
  rw [List.length_map, rng_len] at l3
  refine ⟨w, S2.trim S.next, ?_, l3, fun c hc => hm c (hw c hc), bw_trim b2 hn, kp_trim k2⟩
  have er : range1 [.int (k : Int)] = some (rng 0 k) := by
    have z1 : (-100000 : Int) ≤ (k : Int) := by omega
    have z2 : (k : Int) ≤ 100000 := by omega
    simp [range1, z1, z2]
  have e4 : wd3 [some (.ref n), some (.str l), some (.int (k : Int)), some (.str m), none] S1 = .ok (.rt (.str w)) S2 := by
    have hl : (rng 0 k).length < 100000 := by rw [rng_len]; omega
    simp [sSeq, sSetI, sSetIN, sBind, iOp, M.bind, lift, iVar, iC, M.ret, sIf, iTst, isB, iCB, iCons, iNil, sRet, sNext, sAsg, sExpr, sPar, sPar3, iCall, iIf, iOr, iAnd, iNot, iNotV, iAndV, iOrV, M.no, iLstM, iLst, iTup, sAsgG, ngD, nsD, iSl, iPart, iNoPart, iBM, iCM, iYes, wd3, iLc, iRange, er, hl, kindIs, wipeR, e3, join_chars (show w.length ≤ 1000 by omega)]
  show defJ 5 false isWord _ S = _
  unfold defJ isWord
  have e0 : startR 5 [.ref n, .str l, .int (k : Int)] = [some (.ref n), some (.str l), some (.int (k : Int)), none, none] := rfl
  rw [e0, sSeq_nx e1, sSeq_nx e2, e4]
  rfl
end J

set_option Elab.async false
set_option linter.all false
set_option maxRecDepth 100000
set_option maxHeartbeats 1010000
/-! PI: plain laws: marks by their definition (the law's own told) -/
namespace J
def gz (l : List Nat) (j : Nat) : Nat := l.getD j 0
def hitN (g w : List Nat) (c : Nat) : Nat := (List.range g.length).countP fun j => decide (gz g j = c) && decide (gz g j = gz w j)
def nearF (g w : List Nat) : Nat → Nat → Nat
  | 0, _ => 0
  | i + 1, c => nearF g w i c + (if gz g i = c ∧ gz g i ≠ gz w i ∧ hitN g w (gz g i) + nearF g w i (gz g i) < w.count (gz g i) then 1 else 0)
def mkF (g w : List Nat) (i : Nat) : Nat := if gz g i = gz w i then 50 else if hitN g w (gz g i) + nearF g w i (gz g i) < w.count (gz g i) then 49 else 48
def marksL (g w : List Nat) : List Nat := (List.range g.length).map (mkF g w)
theorem marksL_len (g w : List Nat) : (marksL g w).length = g.length := by simp [marksL]
theorem marksL_mem {g w : List Nat} : ∀ c ∈ marksL g w, c = 48 ∨ c = 49 ∨ c = 50 := by
  intro c hc
  obtain ⟨i, _, rfl⟩ := List.mem_map.mp hc
  unfold mkF
  split
  · simp
  · split <;> simp
theorem lcL_filter {g : NG} {t : IT} {ie : IE} {ρ : Rho} {S : Store} (p : D → Bool) (f : D → D) : ∀ xs : List D, (∀ x ∈ xs, ∃ ρ1, ngD g x ρ = some ρ1 ∧ t ρ1 S = .ok (p x) S ∧ ie ρ1 S = .ok (f x) S) → lcL g t ie ρ xs S = .ok ((xs.filter p).map f) S
  | [], _ => rfl
  | x :: xs, h => by
    obtain ⟨ρ1, e1, e2, e3⟩ := h x (List.mem_cons_self ..)
    have ih := lcL_filter p f xs fun y hy => h y (List.mem_cons_of_mem _ hy)
    rw [lcL_cons_some e1]
    cases q : p x <;> simp [M.bind, nox, e2, e3, q, ih, M.ret]
/-- comprehensions that lay a thing -/
theorem cmL_inv {g : NG} {t : IT} {st : Rho → M Unit} {ρ : Rho} (I : Nat → Store → Prop) : ∀ (xs : List D) (i : Nat) (S : Store), I i S →
    (∀ j x S, xs[j]? = some x → I (i + j) S → ∃ ρ1 S1 S2, ngD g x ρ = some ρ1 ∧ t ρ1 S = .ok true S1 ∧ st ρ1 S1 = .ok () S2 ∧ I (i + j + 1) S2) → ∃ S', cmL g t st ρ xs S = .ok () S' ∧ I (i + xs.length) S'
  | [], i, S, h, _ => ⟨S, rfl, h⟩
  | x :: xs, i, S, h, k => by
    obtain ⟨ρ1, S1, S2, e1, e2, e3, h2⟩ := k 0 x S rfl h
    obtain ⟨S', e4, h4⟩ := cmL_inv I xs (i + 1) S2 h2 (fun j y S hj hI => by
      have := k (j + 1) y S (by simpa using hj) (by rw [show i + (j + 1) = i + 1 + j by omega]; exact hI)
      rw [show i + (j + 1) + 1 = i + 1 + j + 1 by omega] at this
      exact this)
    refine ⟨S', ?_, by rw [show i + (x :: xs).length = i + 1 + xs.length by simp; omega]; exact h4⟩
    unfold cmL
    simp [e1, M.bind, nox, e2, e3, e4]
theorem ixD_ref {f : Nat} {xs : List D} {i : Nat} {S : Store} (hf : S.get f = some (.lst xs)) (h : i < xs.length) : ixD (.ref f) (.int (i : Int)) S = some xs[i] := by
  simp [ixD, op2, ixL, seqR, seqL, hf, L2.atI, L2.ixN, h]
theorem range1_nat {n : Nat} (h : n ≤ 1000) : range1 [.int (n : Int)] = some (rng 0 n) := by
  have z1 : (-100000 : Int) ≤ (n : Int) := by omega
  have z2 : (n : Int) ≤ 100000 := by omega
  simp [range1, z1, z2]
theorem rng_get {n j : Nat} {x : D} (h : (rng 0 n)[j]? = some x) : j < n ∧ x = .int (j : Int) := by
  unfold rng at h
  rw [List.getElem?_map] at h
  by_cases hj : j < n
  · rw [List.getElem?_range hj] at h
    have e := Option.some.inj h
    exact ⟨hj, by rw [← e]; simp⟩
  · rw [List.getElem?_eq_none (by simpa using hj)] at h
    cases h
theorem rng_mem {n : Nat} {x : D} (h : x ∈ rng 0 n) : ∃ j, j < n ∧ x = .int (j : Int) := by
  obtain ⟨j, hj⟩ := List.mem_iff_getElem?.mp h
  exact ⟨j, rng_get hj⟩
theorem gz_get {l : List Nat} {j : Nat} (h : j < l.length) : l[j] = gz l j := by
  unfold gz
  rw [List.getD_eq_getElem?_getD, List.getElem?_eq_getElem h]
  rfl
theorem neD_str {a b : List Nat} {S : Store} : neD (.str a) (.str b) S = some (.bl (!decide (a = b))) := by simp [neD, op2, neS, eqS]
/-! ### told -/
def fm (g w : List Nat) (k j : Nat) : Nat := if j < k then mkF g w j else if gz g j = gz w j then 50 else 48
theorem used_eq (g w : List Nat) (k c : Nat) : ∀ n, (List.range n).countP (fun j => decide (gz g j = c) && !decide (fm g w k j = 48)) = (List.range n).countP (fun j => decide (gz g j = c) && decide (gz g j = gz w j)) + nearF g w (min k n) c
  | 0 => by simp [nearF]
  | n + 1 => by
    rw [List.range_succ, List.countP_append, List.countP_append, used_eq g w k c n, List.countP_singleton, List.countP_singleton]
    by_cases hk : n < k
    · rw [Nat.min_eq_right (show n + 1 ≤ k by omega), Nat.min_eq_right (show n ≤ k by omega)]
      have e : fm g w k n = mkF g w n := if_pos hk
      rw [e]
      unfold mkF
      simp only [nearF]
      by_cases h1 : gz g n = c
      · by_cases h2 : gz g n = gz w n
        · simp [h1, h2, ← h2]; omega
        · by_cases h3 : hitN g w (gz g n) + nearF g w n (gz g n) < w.count (gz g n)
          · simp [h1, h2, h3]; rw [← h1]; simp [h2, h3]; omega
          · simp [h1, h2, h3]; rw [← h1]; simp [h2, h3]
      · simp [h1]
    · rw [Nat.min_eq_left (show k ≤ n + 1 by omega), Nat.min_eq_left (show k ≤ n by omega)]
      have e : fm g w k n = if gz g n = gz w n then 50 else 48 := if_neg hk
      rw [e]
      by_cases h1 : gz g n = c
      · by_cases h2 : gz g n = gz w n
        · simp [h1, h2]; omega
        · simp [h1, h2]; rw [← h1]; simp [h2]
      · simp [h1]
def Lf (g w : List Nat) (k : Nat) : List D := (List.range g.length).map fun j => D.str [fm g w k j]
theorem Lf_len (g w : List Nat) (k : Nat) : (Lf g w k).length = g.length := by simp [Lf]
theorem Lf_get {g w : List Nat} {k j : Nat} (h : j < g.length) : (Lf g w k)[j]'(by rw [Lf_len]; exact h) = .str [fm g w k j] := by simp [Lf]
theorem fm_ne {g w : List Nat} {k j : Nat} (h : j ≠ k) : fm g w (k + 1) j = fm g w k j := by
  unfold fm
  by_cases hj : j < k
  · rw [if_pos hj, if_pos (by omega)]
  · rw [if_neg hj, if_neg (by omega)]
theorem Lf_same {g w : List Nat} {k : Nat} (h : mkF g w k = fm g w k k) : Lf g w (k + 1) = Lf g w k := by
  unfold Lf
  apply List.map_congr_left
  intro j _
  by_cases hj : j = k
  · subst hj
    rw [← h]
    unfold fm
    rw [if_pos (by omega)]
  · rw [fm_ne hj]
theorem Lf_set {g w : List Nat} {k : Nat} : (Lf g w k).set k (.str [mkF g w k]) = Lf g w (k + 1) := by
  apply List.ext_getElem?
  intro j
  rw [List.getElem?_set]
  unfold Lf
  by_cases hj : k = j
  · subst hj
    rw [if_pos rfl]
    by_cases hl : k < g.length
    · have e : fm g w (k + 1) k = mkF g w k := by unfold fm; rw [if_pos (by omega)]
      simp [hl, e]
    · simp [hl]
  · rw [if_neg hj, List.getElem?_map, List.getElem?_map]
    have e : ∀ i, i = j → fm g w (k + 1) i = fm g w k i := fun i hi => fm_ne (by omega)
    by_cases hl : j < g.length
    · rw [List.getElem?_range hl]
      simp [e j rfl]
    · rw [List.getElem?_eq_none (by simpa using hl)]
      rfl
def td1 : IS := (sAsg 2 (iLcM (iRange range1 (iCons (iCB lenD (iCons (iVar 0) iNil)) iNil)) (.n 3) iYes (iIf (iTst (iOp eqD (iOp ixD (iVar 0) (iVar 3)) (iOp ixD (iVar 1) (iVar 3)))) (iC (.str [50])) (iC (.str [48]))) [3]))
def td2c : IS := (sAsg 4 (iCB lenD (iCons (iLc (iRange range1 (iCons (iCB lenD (iCons (iVar 0) iNil)) iNil)) (.n 5) (iAnd (iTst (iOp eqD (iOp ixD (iVar 0) (iVar 5)) (iOp ixD (iVar 0) (iVar 3)))) (iTst (iOp neD (iOp ixD (iVar 2) (iVar 5)) (iC (.str [48]))))) (iVar 5) [5]) iNil)))
def td2d : IS := (sIf (iTst (iOp gtI (iBM .s strCount (iVar 1) (iCons (iOp ixD (iVar 0) (iVar 3)) iNil)) (iVar 4))) (sSetI setL (iC (.str [49])) (iVar 2) (iVar 3)) sNext)
def td2b : IS := (sIf (iTst (iOp eqD (iOp ixD (iVar 2) (iVar 3)) (iC (.str [48])))) (sSeq td2c td2d) sNext)
def td2 : IS := (sFor (iRange range1 (iCons (iCB lenD (iCons (iVar 0) iNil)) iNil)) (.n 3) td2b)
def td4 : IS := (sRet (iBM .s strJoin (iC (.str [])) (iCons (iVar 2) iNil)))
def isTold : IS := sSeq td1 (sSeq td2 (sSeq (sFrz 2) td4))
def dTold : List D → M D := defJ 6 false isTold
theorem td1_ok {g w : List Nat} {S : Store} (hl : g.length = w.length) (h2 : g.length ≤ 500) : ∃ S1, td1 [some (.str g), some (.str w), none, none, none, none] S = .ok (.nx [some (.str g), some (.str w), some (.ref S.next), none, none, none]) S1 ∧ S1.get S.next = some (.lst (Lf g w 0)) ∧ S1.next = S.next + 1 ∧ Kq S S1 := by
  have key := cmL_inv (g := .n 3) (t := iYes) (st := appS (iIf (iTst (iOp eqD (iOp ixD (iVar 0) (iVar 3)) (iOp ixD (iVar 1) (iVar 3)))) (iC (.str [50])) (iC (.str [48]))) S.next) (ρ := [some (.str g), some (.str w), none, none, none, none])
    (fun i S' => S'.get S.next = some (.lst ((Lf g w 0).take i)) ∧ S'.next = S.next + 1 ∧ ∀ m, m < S.next → S'.get m = S.get m) (rng 0 g.length) 0 (S.alloc (.lst [])) ⟨by simp, rfl, fun m hm => S.get_alloc_ne _ (Nat.ne_of_lt hm)⟩ (by
    rintro j x S2 hx ⟨e1, e2, e3⟩
    obtain ⟨hj, rfl⟩ := rng_get hx
    rw [Nat.zero_add] at e1 ⊢
    have hjw : j < w.length := by omega
    have v : (iIf (iTst (iOp eqD (iOp ixD (iVar 0) (iVar 3)) (iOp ixD (iVar 1) (iVar 3)))) (iC (.str [50])) (iC (.str [48]))) [some (.str g), some (.str w), none, some (.int (j : Int)), none, none] S2 = .ok (.str [fm g w 0 j]) S2 := by
      have e : fm g w 0 j = if gz g j = gz w j then 50 else 48 := if_neg (by omega)
      rw [e]
      by_cases hh : gz g j = gz w j
      · simp [sSeq, sSetI, sSetIN, sBind, iOp, M.bind, lift, iVar, iC, M.ret, sIf, iTst, isB, iCB, iCons, iNil, sRet, sNext, sAsg, sExpr, sPar, sPar3, iCall, iIf, iOr, iAnd, iNot, iNotV, iAndV, iOrV, M.no, iLstM, iLst, iTup, sAsgG, ngD, nsD, iSl, iPart, iNoPart, iBM, iCM, iYes, ixD_str hj (show g.length ≤ 100000 by omega), ixD_str hjw (show w.length ≤ 100000 by omega), eqD_str, gz_get, hh]
      · simp [sSeq, sSetI, sSetIN, sBind, iOp, M.bind, lift, iVar, iC, M.ret, sIf, iTst, isB, iCB, iCons, iNil, sRet, sNext, sAsg, sExpr, sPar, sPar3, iCall, iIf, iOr, iAnd, iNot, iNotV, iAndV, iOrV, M.no, iLstM, iLst, iTup, sAsgG, ngD, nsD, iSl, iPart, iNoPart, iBM, iCM, iYes, ixD_str hj (show g.length ≤ 100000 by omega), ixD_str hjw (show w.length ≤ 100000 by omega), eqD_str, gz_get, hh]
    refine ⟨[some (.str g), some (.str w), none, some (.int (j : Int)), none, none], S2, S2.set S.next (.lst ((Lf g w 0).take (j + 1))), rfl, rfl, ?_, by simp, by simp [e2], fun m hm => ?_⟩
    · unfold appS
      have hlen : ((Lf g w 0).take j).length < 100000 := by rw [List.length_take, Lf_len]; omega
      have et : (Lf g w 0).take (j + 1) = (Lf g w 0).take j ++ [.str [fm g w 0 j]] := by
        rw [List.take_succ_eq_append_getElem (by rw [Lf_len]; exact hj), Lf_get hj]
      rw [et]
      simp only [M.bind, nox, v, e1, hlen, if_true]
    · rw [Store.get_set_ne _ _ (Nat.ne_of_lt hm)]
      exact e3 m hm)
  obtain ⟨S1, e1, e2, e3, e4⟩ := key
  rw [Nat.zero_add, rng_len, List.take_of_length_le (by rw [Lf_len]; exact Nat.le_refl _)] at e2
  refine ⟨S1, ?_, e2, e3, ⟨by rw [e3]; omega, e4⟩⟩
  simp [sSeq, sSetI, sSetIN, sBind, iOp, M.bind, lift, iVar, iC, M.ret, sIf, iTst, isB, iCB, iCons, iNil, sRet, sNext, sAsg, sExpr, sPar, sPar3, iCall, iIf, iOr, iAnd, iNot, iNotV, iAndV, iOrV, M.no, iLstM, iLst, iTup, sAsgG, ngD, nsD, iSl, iPart, iNoPart, iBM, iCM, iYes, td1, iLcM, iRange, lenD_str (show g.length ≤ 100000 by omega), range1_nat (show g.length ≤ 1000 by omega), wipeR, madeAt, e1]
theorem td2_turn {g w : List Nat} {S : Store} {f k : Nat} {u v : Option D} (hl : g.length = w.length) (h2 : g.length ≤ 500) (hk : k < g.length) (hf : S.get f = some (.lst (Lf g w k))) :
    ∃ u' S1, td2b [some (.str g), some (.str w), some (.ref f), some (.int (k : Int)), u, v] S = .ok (.nx [some (.str g), some (.str w), some (.ref f), some (.int (k : Int)), u', v]) S1 ∧ S1.get f = some (.lst (Lf g w (k + 1))) ∧ S1.next = S.next ∧ ∀ m, m ≠ f → S1.get m = S.get m := by
  have hkw : k < w.length := by omega
  have g1 : g.length ≤ 100000 := by omega
  have ix : ixD (.ref f) (.int (k : Int)) S = some (.str [fm g w k k]) := by
    rw [ixD_ref hf (by rw [Lf_len]; exact hk), Lf_get hk]
  have ff : fm g w k k = if gz g k = gz w k then 50 else 48 := if_neg (by omega)
  by_cases hh : gz g k = gz w k
  · have fe : fm g w k k = 50 := by rw [ff, if_pos hh]
    refine ⟨u, S, ?_, ?_, rfl, fun _ _ => rfl⟩
    · simp [sSeq, sSetI, sSetIN, sBind, iOp, M.bind, lift, iVar, iC, M.ret, sIf, iTst, isB, iCB, iCons, iNil, sRet, sNext, sAsg, sExpr, sPar, sPar3, iCall, iIf, iOr, iAnd, iNot, iNotV, iAndV, iOrV, M.no, iLstM, iLst, iTup, sAsgG, ngD, nsD, iSl, iPart, iNoPart, iBM, iCM, iYes, td2b, ix, fe, eqD_str]
    · rw [Lf_same (by rw [fe]; unfold mkF; rw [if_pos hh])]
      exact hf
  · have fe : fm g w k k = 48 := by rw [ff, if_neg hh]
    have key := lcL_filter (g := .n 5) (t := iAnd (iTst (iOp eqD (iOp ixD (iVar 0) (iVar 5)) (iOp ixD (iVar 0) (iVar 3)))) (iTst (iOp neD (iOp ixD (iVar 2) (iVar 5)) (iC (.str [48]))))) (ie := iVar 5)
      (ρ := [some (.str g), some (.str w), some (.ref f), some (.int (k : Int)), u, none]) (S := S) (fun x => match x with | .int i => decide (gz g i.toNat = gz g k) && !decide (fm g w k i.toNat = 48) | _ => false) id (rng 0 g.length) (by
      intro x hx
      obtain ⟨j, hj, rfl⟩ := rng_mem hx
      have ixj : ixD (.ref f) (.int (j : Int)) S = some (.str [fm g w k j]) := by
        rw [ixD_ref hf (by rw [Lf_len]; exact hj), Lf_get hj]
      refine ⟨_, rfl, ?_, rfl⟩
      by_cases h3 : gz g j = gz g k
      · simp [sSeq, sSetI, sSetIN, sBind, iOp, M.bind, lift, iVar, iC, M.ret, sIf, iTst, isB, iCB, iCons, iNil, sRet, sNext, sAsg, sExpr, sPar, sPar3, iCall, iIf, iOr, iAnd, iNot, iNotV, iAndV, iOrV, M.no, iLstM, iLst, iTup, sAsgG, ngD, nsD, iSl, iPart, iNoPart, iBM, iCM, iYes, ixD_str hj g1, ixD_str hk g1, eqD_str, neD_str, gz_get, ixj, h3]
      · simp [sSeq, sSetI, sSetIN, sBind, iOp, M.bind, lift, iVar, iC, M.ret, sIf, iTst, isB, iCB, iCons, iNil, sRet, sNext, sAsg, sExpr, sPar, sPar3, iCall, iIf, iOr, iAnd, iNot, iNotV, iAndV, iOrV, M.no, iLstM, iLst, iTup, sAsgG, ngD, nsD, iSl, iPart, iNoPart, iBM, iCM, iYes, ixD_str hj g1, ixD_str hk g1, eqD_str, neD_str, gz_get, ixj, h3])
    have len : ((rng 0 g.length).filter (fun x => match x with | .int i => decide (gz g i.toNat = gz g k) && !decide (fm g w k i.toNat = 48) | _ => false)).length = hitN g w (gz g k) + nearF g w k (gz g k) := by
      have e := used_eq g w k (gz g k) g.length
      rw [Nat.min_eq_left (by omega)] at e
      unfold hitN
      rw [← e, ← List.countP_eq_length_filter]
      unfold rng
      rw [List.countP_map]
      congr 1
      funext j
      simp
    have c1 : td2c [some (.str g), some (.str w), some (.ref f), some (.int (k : Int)), u, v] S = .ok (.nx [some (.str g), some (.str w), some (.ref f), some (.int (k : Int)), some (.int ((hitN g w (gz g k) + nearF g w k (gz g k) : Nat) : Int)), v]) S := by
      have hl2 : (rng 0 g.length).length < 100000 := by rw [rng_len]; omega
      have hl3 : ((rng 0 g.length).filter (fun x => match x with | .int i => decide (gz g i.toNat = gz g k) && !decide (fm g w k i.toNat = 48) | _ => false)).length ≤ 100000 := Nat.le_trans (List.length_filter_le _ _) (by omega)
      rw [List.map_id] at key
      simp only [td2c, sAsg, sBind, iCB, iCons, iNil, iLc, iRange, iVar, M.bind, M.ret, lift, List.getD_cons_zero, lenD_str g1, range1_nat (show g.length ≤ 1000 by omega), hl2, if_true, wipeR, List.set_cons_succ, List.set_cons_zero, key, lenD_lst hl3, len]
    have cc : iBM .s strCount (iVar 1) (iCons (iOp ixD (iVar 0) (iVar 3)) iNil) [some (.str g), some (.str w), some (.ref f), some (.int (k : Int)), some (.int ((hitN g w (gz g k) + nearF g w k (gz g k) : Nat) : Int)), v] S = .ok (.int (w.count (gz g k))) S := by
      simp [sSeq, sSetI, sSetIN, sBind, iOp, M.bind, lift, iVar, iC, M.ret, sIf, iTst, isB, iCB, iCons, iNil, sRet, sNext, sAsg, sExpr, sPar, sPar3, iCall, iIf, iOr, iAnd, iNot, iNotV, iAndV, iOrV, M.no, iLstM, iLst, iTup, sAsgG, ngD, nsD, iSl, iPart, iNoPart, iBM, iCM, iYes, kindIs, ixD_str hk g1, gz_get, strCount]
    by_cases h3 : hitN g w (gz g k) + nearF g w k (gz g k) < w.count (gz g k)
    · have mk : mkF g w k = 49 := by unfold mkF; rw [if_neg hh, if_pos h3]
      refine ⟨some (.int ((hitN g w (gz g k) + nearF g w k (gz g k) : Nat) : Int)), S.set f (.lst (Lf g w (k + 1))), ?_, by simp, rfl, fun m hm => S.get_set_ne _ hm⟩
      have dd : td2d [some (.str g), some (.str w), some (.ref f), some (.int (k : Int)), some (.int ((hitN g w (gz g k) + nearF g w k (gz g k) : Nat) : Int)), v] S = .ok (.nx [some (.str g), some (.str w), some (.ref f), some (.int (k : Int)), some (.int ((hitN g w (gz g k) + nearF g w k (gz g k) : Nat) : Int)), v]) (S.set f (.lst (Lf g w (k + 1)))) := by
        have z : (((hitN g w (gz g k) + nearF g w k (gz g k) : Nat) : Int) < ((w.count (gz g k) : Nat) : Int)) := by omega
        have hs := Lf_set (g := g) (w := w) (k := k)
        rw [mk] at hs
        have ixn : L2.ixN (Lf g w k).length (k : Int) = some k := by
          rw [Lf_len]
          simp [L2.ixN, hk]
        unfold td2d
        simp only [sIf, sBind, iTst, iOp, M.bind, cc, iVar, lift, List.getD_cons_succ, List.getD_cons_zero, gtI_int, isB, z, decide_true, if_true, sSetI, iC, M.ret, setL, hf, ixn, Option.map_some, hs]
      unfold td2b
      simp only [sIf, sBind, iTst, iOp, M.bind, iVar, lift, List.getD_cons_succ, List.getD_cons_zero, ix, iC, M.ret, eqD_str, fe, isB, decide_true, if_true]
      rw [sSeq_nx c1, dd]
    · have mk : mkF g w k = 48 := by unfold mkF; rw [if_neg hh, if_neg h3]
      refine ⟨some (.int ((hitN g w (gz g k) + nearF g w k (gz g k) : Nat) : Int)), S, ?_, ?_, rfl, fun _ _ => rfl⟩
      · have dd : td2d [some (.str g), some (.str w), some (.ref f), some (.int (k : Int)), some (.int ((hitN g w (gz g k) + nearF g w k (gz g k) : Nat) : Int)), v] S = .ok (.nx [some (.str g), some (.str w), some (.ref f), some (.int (k : Int)), some (.int ((hitN g w (gz g k) + nearF g w k (gz g k) : Nat) : Int)), v]) S := by
          have z : ¬ (((hitN g w (gz g k) + nearF g w k (gz g k) : Nat) : Int) < ((w.count (gz g k) : Nat) : Int)) := by omega
          unfold td2d
          simp only [sIf, sBind, iTst, iOp, M.bind, cc, iVar, lift, List.getD_cons_succ, List.getD_cons_zero, gtI_int, isB, z, decide_false, Bool.false_eq_true, if_false, sNext, M.ret]
        unfold td2b
        simp only [sIf, sBind, iTst, iOp, M.bind, iVar, lift, List.getD_cons_succ, List.getD_cons_zero, ix, iC, M.ret, eqD_str, fe, isB, decide_true, if_true]
        rw [sSeq_nx c1, dd]
      · rw [Lf_same (by rw [fe, mk])]
        exact hf
theorem Lf_end (g w : List Nat) : Lf g w g.length = (marksL g w).map fun c => .str [c] := by
  unfold Lf marksL
  rw [List.map_map]
  apply List.map_congr_left
  intro j hj
  have hj' : j < g.length := by simpa using hj
  unfold fm
  rw [if_pos hj']
  rfl
theorem frz_lst {i f : Nat} {ρ : Rho} {S : Store} {xs : List D} (h : ρ.getD i none = some (.ref f)) (hf : S.get f = some (.lst xs)) : sFrz i ρ S = .ok (.nx (ρ.set i (some (.lst xs)))) (S.del f) := by
  unfold sFrz
  simp only [h, hf, Option.bind_some, frzO]
theorem told_ok {g w : List Nat} {S : Store} (hl : g.length = w.length) (h2 : g.length ≤ 500) : ∃ S', dTold [.str g, .str w] S = .ok (.str (marksL g w)) S' ∧ Kq S S' := by
  obtain ⟨S1, e1, f1, n1, k1⟩ := td1_ok (S := S) hl h2
  have key := forL_inv (g := .n 3) (body := td2b) (fun i ρ S' => (∃ a b c, ρ = [some (.str g), some (.str w), some (.ref S.next), a, b, c]) ∧ S'.get S.next = some (.lst (Lf g w i)) ∧ S'.next = S1.next ∧ ∀ m, m ≠ S.next → S'.get m = S1.get m) (rng 0 g.length) 0
    [some (.str g), some (.str w), some (.ref S.next), none, none, none] S1 ⟨⟨none, none, none, rfl⟩, f1, rfl, fun _ _ => rfl⟩ (by
    rintro j x ρ S2 hx ⟨⟨a, b, c, rfl⟩, q1, q2, q3⟩
    obtain ⟨hj, rfl⟩ := rng_get hx
    rw [Nat.zero_add] at q1 ⊢
    obtain ⟨u', S3, t1, t2, t3, t4⟩ := td2_turn (u := b) (v := c) hl h2 hj q1
    exact ⟨_, _, S3, rfl, t1, ⟨_, u', c, rfl⟩, t2, t3.trans q2, fun m hm => (t4 m hm).trans (q3 m hm)⟩)
  obtain ⟨ρ2, S2, e2, ⟨a, b, c, rfl⟩, q1, q2, q3⟩ := key
  rw [Nat.zero_add, rng_len, Lf_end] at q1
  have e2' : td2 [some (.str g), some (.str w), some (.ref S.next), none, none, none] S1 = .ok (.nx [some (.str g), some (.str w), some (.ref S.next), a, b, c]) S2 := by
    rw [← e2]
    simp [sSeq, sSetI, sSetIN, sBind, iOp, M.bind, lift, iVar, iC, M.ret, sIf, iTst, isB, iCB, iCons, iNil, sRet, sNext, sAsg, sExpr, sPar, sPar3, iCall, iIf, iOr, iAnd, iNot, iNotV, iAndV, iOrV, M.no, iLstM, iLst, iTup, sAsgG, ngD, nsD, iSl, iPart, iNoPart, iBM, iCM, iYes, td2, sFor, iRange, lenD_str (show g.length ≤ 100000 by omega), range1_nat (show g.length ≤ 1000 by omega)]
  have e3 : sFrz 2 [some (.str g), some (.str w), some (.ref S.next), a, b, c] S2 = .ok (.nx [some (.str g), some (.str w), some (.lst ((marksL g w).map fun c => .str [c])), a, b, c]) (S2.del S.next) := frz_lst rfl q1
  have e4 : td4 [some (.str g), some (.str w), some (.lst ((marksL g w).map fun c => .str [c])), a, b, c] (S2.del S.next) = .ok (.rt (.str (marksL g w))) (S2.del S.next) := by
    simp [sSeq, sSetI, sSetIN, sBind, iOp, M.bind, lift, iVar, iC, M.ret, sIf, iTst, isB, iCB, iCons, iNil, sRet, sNext, sAsg, sExpr, sPar, sPar3, iCall, iIf, iOr, iAnd, iNot, iNotV, iAndV, iOrV, M.no, iLstM, iLst, iTup, sAsgG, ngD, nsD, iSl, iPart, iNoPart, iBM, iCM, iYes, td4, kindIs, join_chars (show (marksL g w).length ≤ 1000 by rw [marksL_len]; omega)]
  refine ⟨(S2.del S.next).trim S.next, ?_, ?_⟩
  · show defJ 6 false isTold _ S = _
    unfold defJ isTold
    have e0 : startR 6 [.str g, .str w] = [some (.str g), some (.str w), none, none, none, none] := rfl
    rw [e0, sSeq_nx e1, sSeq_nx e2', sSeq_nx e3, e4]
    rfl
  · refine kq_trim ⟨by rw [Store.next_del, q2, n1]; omega, fun m hm => ?_⟩
    rw [Store.get_del, if_neg (Nat.ne_of_lt hm), q3 m (Nat.ne_of_lt hm)]
    exact k1.get m hm
end J

set_option Elab.async false
set_option linter.all false
set_option maxRecDepth 100000
set_option maxHeartbeats 1010000
/-! PJ: plain laws: the program's marks -/
namespace J
def kd (ks : List Nat) (f : Nat → Int) : List (Ky × D) := ks.map fun c => (Ky.s [c], D.int (f c))
theorem kd_get {c : Nat} {f : Nat → Int} : ∀ {ks : List Nat}, c ∈ ks → getKy (.s [c]) (kd ks f) = some (.int (f c))
  | d :: ks, h => by
    show (if Ky.s [d] = Ky.s [c] then some (D.int (f d)) else getKy (.s [c]) (kd ks f)) = _
    by_cases e : d = c
    · subst e
      simp
    · rw [if_neg (by simpa using e)]
      exact kd_get ((List.mem_cons.mp h).resolve_left fun z => e z.symm)
theorem kd_any {c : Nat} {f : Nat → Int} (ks : List Nat) : ((kd ks f).any fun q => decide (q.1 = Ky.s [c])) = decide (c ∈ ks) := by
  unfold kd
  rw [List.any_map]
  by_cases h : c ∈ ks
  · rw [decide_eq_true h, List.any_eq_true]
    exact ⟨c, h, by simp⟩
  · rw [decide_eq_false h, List.any_eq_false]
    intro d hd
    have : d ≠ c := fun z => h (z ▸ hd)
    simpa using this
theorem kd_put {c : Nat} {f : Nat → Int} {v : Int} {ks : List Nat} (h : c ∈ ks) : putKy (.s [c]) (.int v) (kd ks f) = kd ks fun d => if d = c then v else f d := by
  unfold putKy
  rw [kd_any, decide_eq_true h, if_pos rfl]
  unfold kd
  rw [List.map_map]
  apply List.map_congr_left
  intro d _
  by_cases e : d = c
  · simp [e]
  · simp [e]
theorem kd_new {c : Nat} {f : Nat → Int} {ks : List Nat} (h : c ∉ ks) : putKy (.s [c]) (.int (f c)) (kd ks f) = kd (ks ++ [c]) f := by
  unfold putKy
  rw [kd_any, decide_eq_false h, if_neg (by simp)]
  simp [kd]
theorem kd_len (ks : List Nat) (f : Nat → Int) : (kd ks f).length = ks.length := by simp [kd]
theorem kd_congr {ks : List Nat} {f g : Nat → Int} (h : ∀ c, f c = g c) : kd ks f = kd ks g := by
  rw [show f = g from funext h]
def mo1 : IS := (sAsg 2 (iDc (iItems (iVar 0)) (.n 6) iYes (iVar 6) (iBM .s strCount (iVar 1) (iCons (iVar 6) iNil)) [6]))
def mo2b : IS := (sIf (iTst (iOp eqD (iVar 4) (iVar 5))) (sDAugD subI (iVar 2) (iVar 4) (iC (.int 1))) sNext)
def mo2 : IS := (sFor (iZipA (iCons (iVar 0) (iCons (iVar 1) iNil))) (.t [4, 5]) mo2b)
def mo3 : IS := (sAsg 3 (iLstM iNil))
def mo4b : IS := (sIf (iTst (iOp eqD (iVar 4) (iVar 5))) (sExpr (iBM .l lstApp (iVar 3) (iCons (iC (.str [50])) iNil))) (sIf (iTst (iOp gtI (iOp dgetD (iVar 2) (iVar 4)) (iC (.int 0)))) (sSeq (sDAugD subI (iVar 2) (iVar 4) (iC (.int 1))) (sExpr (iBM .l lstApp (iVar 3) (iCons (iC (.str [49])) iNil)))) (sExpr (iBM .l lstApp (iVar 3) (iCons (iC (.str [48])) iNil)))))
def mo4 : IS := (sFor (iZipA (iCons (iVar 0) (iCons (iVar 1) iNil))) (.t [4, 5]) mo4b)
def mo7 : IS := (sRet (iBM .s strJoin (iC (.str [])) (iCons (iVar 3) iNil)))
def isMarks : IS := sSeq mo1 (sSeq mo2 (sSeq mo3 (sSeq mo4 (sSeq (sFrz 3) (sSeq (sFrz 2) mo7)))))
def dMarks : List D → M D := defJ 7 false isMarks
theorem chr_get {g : List Nat} {j : Nat} {x : D} (h : (g.map fun c => D.str [c])[j]? = some x) : j < g.length ∧ x = .str [gz g j] := by
  obtain ⟨c, hc, rfl⟩ := chr_at h
  obtain ⟨hj, e⟩ := List.getElem?_eq_some_iff.mp hc
  exact ⟨hj, by rw [← e, gz_get]⟩
theorem mo1_ok {g w : List Nat} {S : Store} (h2 : g.length ≤ 500) : ∃ ks S1, mo1 [some (.str g), some (.str w), none, none, none, none, none] S = .ok (.nx [some (.str g), some (.str w), some (.ref S.next), none, none, none, none]) S1 ∧
    S1.get S.next = some (.dct (kd ks fun c => w.count c)) ∧ (∀ j, j < g.length → gz g j ∈ ks) ∧ ks.length ≤ g.length ∧ S1.next = S.next + 1 ∧ Kq S S1 := by
  have key := cmL_inv (g := .n 6) (t := iYes) (st := putS (iVar 6) (iBM .s strCount (iVar 1) (iCons (iVar 6) iNil)) S.next) (ρ := [some (.str g), some (.str w), none, none, none, none, none])
    (fun i S' => ∃ ks : List Nat, S'.get S.next = some (.dct (kd ks fun c => w.count c)) ∧ (∀ j, j < i → gz g j ∈ ks) ∧ ks.length ≤ i ∧ S'.next = S.next + 1 ∧ ∀ m, m < S.next → S'.get m = S.get m) (g.map fun c => .str [c]) 0 (S.alloc (.dct [])) ⟨[], by simp [kd], fun j hj => absurd hj (by omega), Nat.le_refl _, rfl, fun m hm => S.get_alloc_ne _ (Nat.ne_of_lt hm)⟩ (by
    rintro j x S2 hx ⟨ks, e1, e2, e3, e4, e5⟩
    obtain ⟨hj, rfl⟩ := chr_get hx
    rw [Nat.zero_add] at e2 e3 ⊢
    have v : putS (iVar 6) (iBM .s strCount (iVar 1) (iCons (iVar 6) iNil)) S.next [some (.str g), some (.str w), none, none, none, none, some (.str [gz g j])] S2 = .ok () (S2.set S.next (.dct (putKy (.s [gz g j]) (.int (w.count (gz g j))) (kd ks fun c => w.count c)))) := by
      have hl : (kd ks fun c => (w.count c : Int)).length < 100000 := by rw [kd_len]; omega
      simp [sSeq, sSetI, sSetIN, sBind, iOp, M.bind, lift, iVar, iC, M.ret, sIf, iTst, isB, iCB, iCons, iNil, sRet, sNext, sAsg, sExpr, sPar, sPar3, iCall, iIf, iOr, iAnd, iNot, iNotV, iAndV, iOrV, M.no, iLstM, iLst, iTup, sAsgG, ngD, nsD, iSl, iPart, iNoPart, iBM, iCM, iYes, putS, nox, kindIs, strCount, e1, kyOf, hl]
    refine ⟨[some (.str g), some (.str w), none, none, none, none, some (.str [gz g j])], S2, _, rfl, rfl, v, ?_⟩
    by_cases hk : gz g j ∈ ks
    · refine ⟨ks, ?_, fun i hi => ?_, by omega, by simp [e4], fun m hm => ?_⟩
      · rw [Store.get_set_self, kd_put hk]
        congr 2
        apply kd_congr
        intro d
        by_cases e : d = gz g j
        · simp [e]
        · simp [e]
      · by_cases e : i = j
        · exact e ▸ hk
        · exact e2 i (by omega)
      · rw [Store.get_set_ne _ _ (Nat.ne_of_lt hm)]
        exact e5 m hm
    · refine ⟨ks ++ [gz g j], ?_, fun i hi => ?_, by simp; omega, by simp [e4], fun m hm => ?_⟩
      · rw [Store.get_set_self, kd_new (f := fun c => (w.count c : Int)) hk]
      · by_cases e : i = j
        · exact List.mem_append_right _ (by simp [e])
        · exact List.mem_append_left _ (e2 i (by omega))
      · rw [Store.get_set_ne _ _ (Nat.ne_of_lt hm)]
        exact e5 m hm)
  obtain ⟨S1, e1, ks, q1, q2, q3, q4, q5⟩ := key
  rw [Nat.zero_add, List.length_map] at q2 q3
  refine ⟨ks, S1, ?_, q1, q2, q3, q4, ⟨by rw [q4]; omega, q5⟩⟩
  simp [sSeq, sSetI, sSetIN, sBind, iOp, M.bind, lift, iVar, iC, M.ret, sIf, iTst, isB, iCB, iCons, iNil, sRet, sNext, sAsg, sExpr, sPar, sPar3, iCall, iIf, iOr, iAnd, iNot, iNotV, iAndV, iOrV, M.no, iLstM, iLst, iTup, sAsgG, ngD, nsD, iSl, iPart, iNoPart, iBM, iCM, iYes, mo1, iDc, iItems, items, wipeR, madeAt, e1]
/-- d[c] -= 1 -/
theorem daug_ok {S : Store} {n c : Nat} {ks : List Nat} {f : Nat → Int} {ρ : Rho} {i j : Nat} (h2 : ρ.getD i none = some (.ref n)) (h4 : ρ.getD j none = some (.str [c])) (hd : S.get n = some (.dct (kd ks f))) (hc : c ∈ ks) (hl : ks.length < 100000) :
    sDAugD subI (iVar i) (iVar j) (iC (.int 1)) ρ S = .ok (.nx ρ) (S.set n (.dct (kd ks fun d => if d = c then f c - 1 else f d))) := by
  have hl2 : (kd ks f).length < 100000 := by rw [kd_len]; exact hl
  simp only [sDAugD, sBind, iVar, h2, h4, lift, dgetD, dctOf, hd, kyOf, kd_get hc, iC, M.ret, subI_int, dputD, hl2, if_true, kd_put hc]
theorem zip_get {g w : List Nat} {j : Nat} {x : D} (h : (zipD (g.map fun c => .str [c]) (w.map fun c => .str [c]))[j]? = some x) : j < g.length ∧ j < w.length ∧ x = .tup [.str [gz g j], .str [gz w j]] := by
  obtain ⟨a, b, rfl, ha, hb⟩ := zipD_get h
  obtain ⟨h1, rfl⟩ := chr_get ha
  obtain ⟨h2, rfl⟩ := chr_get hb
  exact ⟨h1, h2, rfl⟩
def hitP (g w : List Nat) (i c : Nat) : Nat := (List.range i).countP fun j => decide (gz g j = c) && decide (gz g j = gz w j)
theorem hitP_succ (g w : List Nat) (i c : Nat) : hitP g w (i + 1) c = hitP g w i c + (if gz g i = c ∧ gz g i = gz w i then 1 else 0) := by
  unfold hitP
  rw [List.range_succ, List.countP_append, List.countP_singleton]
  by_cases h1 : gz g i = c <;> by_cases h2 : gz g i = gz w i <;> simp [h1, h2]
theorem mo2_ok {g w ks : List Nat} {S : Store} {n : Nat} (hl : g.length = w.length) (h2 : g.length ≤ 500) (hk : ∀ j, j < g.length → gz g j ∈ ks) (hkl : ks.length < 100000) (hd : S.get n = some (.dct (kd ks fun c => w.count c))) :
    ∃ a b S1, mo2 [some (.str g), some (.str w), some (.ref n), none, none, none, none] S = .ok (.nx [some (.str g), some (.str w), some (.ref n), none, a, b, none]) S1 ∧ S1.get n = some (.dct (kd ks fun c => (w.count c : Int) - hitN g w c)) ∧ S1.next = S.next ∧ ∀ m, m ≠ n → S1.get m = S.get m := by
  have key := forL_inv (g := .t [4, 5]) (body := mo2b) (fun i ρ S' => (∃ a b, ρ = [some (.str g), some (.str w), some (.ref n), none, a, b, none]) ∧ S'.get n = some (.dct (kd ks fun c => (w.count c : Int) - hitP g w i c)) ∧ S'.next = S.next ∧ ∀ m, m ≠ n → S'.get m = S.get m)
    (zipD (g.map fun c => .str [c]) (w.map fun c => .str [c])) 0 [some (.str g), some (.str w), some (.ref n), none, none, none, none] S ⟨⟨none, none, rfl⟩, by simpa [hitP] using hd, rfl, fun _ _ => rfl⟩ (by
    rintro j x ρ S2 hx ⟨⟨a, b, rfl⟩, q1, q2, q3⟩
    obtain ⟨hj, hjw, rfl⟩ := zip_get hx
    rw [Nat.zero_add] at q1 ⊢
    by_cases e : gz g j = gz w j
    · refine ⟨[some (.str g), some (.str w), some (.ref n), none, some (.str [gz g j]), some (.str [gz w j]), none], [some (.str g), some (.str w), some (.ref n), none, some (.str [gz g j]), some (.str [gz w j]), none], S2.set n (.dct (kd ks fun c => (w.count c : Int) - hitP g w (j + 1) c)), rfl, ?_, ⟨_, _, rfl⟩, ?_, ?_, ?_⟩
      · have d := daug_ok (S := S2) (i := 2) (j := 4) (ρ := [some (.str g), some (.str w), some (.ref n), none, some (.str [gz g j]), some (.str [gz w j]), none]) rfl rfl q1 (hk j hj) hkl
        have ec : (fun d => if d = gz g j then (w.count (gz g j) : Int) - hitP g w j (gz g j) - 1 else (w.count d : Int) - hitP g w j d) = fun c => (w.count c : Int) - hitP g w (j + 1) c := by
          funext d
          rw [hitP_succ]
          by_cases z : d = gz g j
          · subst z
            simp [e]
            omega
          · have z' : ¬ gz g j = d := fun q => z q.symm
            simp [z, z']
        rw [ec] at d
        unfold mo2b
        simp only [sIf, sBind, iTst, iOp, M.bind, iVar, lift, List.getD_cons_succ, List.getD_cons_zero, eqD_str, e, isB, decide_true, if_true]
        rw [e] at d
        exact d
      · simp
      · simp [q2]
      · exact fun m hm => by rw [Store.get_set_ne _ _ hm]; exact q3 m hm
    · refine ⟨[some (.str g), some (.str w), some (.ref n), none, some (.str [gz g j]), some (.str [gz w j]), none], [some (.str g), some (.str w), some (.ref n), none, some (.str [gz g j]), some (.str [gz w j]), none], S2, rfl, ?_, ⟨_, _, rfl⟩, ?_, q2, q3⟩
      · simp [sSeq, sSetI, sSetIN, sBind, iOp, M.bind, lift, iVar, iC, M.ret, sIf, iTst, isB, iCB, iCons, iNil, sRet, sNext, sAsg, sExpr, sPar, sPar3, iCall, iIf, iOr, iAnd, iNot, iNotV, iAndV, iOrV, M.no, iLstM, iLst, iTup, sAsgG, ngD, nsD, iSl, iPart, iNoPart, iBM, iCM, iYes, mo2b, eqD_str, e]
      · rw [q1]
        congr 2
        apply kd_congr
        intro d
        rw [hitP_succ]
        have z : ¬ (gz g j = d ∧ gz g j = gz w j) := fun q => e q.2
        simp [z])
  obtain ⟨ρ', S1, e1, ⟨a, b, rfl⟩, q1, q2, q3⟩ := key
  have en : (zipD (g.map fun c => .str [c]) (w.map fun c => .str [c])).length = g.length := by
    rw [zipD_len]; simp; omega
  rw [Nat.zero_add, en] at q1
  refine ⟨a, b, S1, ?_, q1, q2, q3⟩
  rw [← e1]
  simp [sSeq, sSetI, sSetIN, sBind, iOp, M.bind, lift, iVar, iC, M.ret, sIf, iTst, isB, iCB, iCons, iNil, sRet, sNext, sAsg, sExpr, sPar, sPar3, iCall, iIf, iOr, iAnd, iNot, iNotV, iAndV, iOrV, M.no, iLstM, iLst, iTup, sAsgG, ngD, nsD, iSl, iPart, iNoPart, iBM, iCM, iYes, mo2, sFor, iZipA, zipOfA]
theorem lstApp_get {S : Store} {f : Nat} {xs : List D} {y : D} (hf : S.get f = some (.lst xs)) (hl : xs.length < 100000) : lstApp (.ref f) [y] S = .ok .non (S.set f (.lst (xs ++ [y]))) := by
  simp [lstApp, hf, hl]
theorem app_st {S : Store} {f i : Nat} {xs : List D} {y : D} {ρ : Rho} (h : ρ.getD i none = some (.ref f)) (hf : S.get f = some (.lst xs)) (hl : xs.length < 100000) : sExpr (iBM .l lstApp (iVar i) (iCons (iC y) iNil)) ρ S = .ok (.nx ρ) (S.set f (.lst (xs ++ [y]))) := by
  have k : kindIs .l (.ref f) S = true := by simp [kindIs, hf]
  simp only [sExpr, sBind, iBM, M.bind, iVar, h, lift, k, if_true, iCons, iC, M.ret, iNil, lstApp_get hf hl]

abbrev lv (g w : List Nat) (i : Nat) (c : Nat) : Int := (w.count c : Int) - hitN g w c - nearF g w i c
abbrev mp (g w : List Nat) (i : Nat) : List D := (List.range i).map fun j => .str [mkF g w j]
theorem mp_succ (g w : List Nat) (i : Nat) : mp g w (i + 1) = mp g w i ++ [.str [mkF g w i]] := by
  simp [mp, List.range_succ]
theorem mo4_turn {g w ks : List Nat} {S : Store} {n f j : Nat} {q : Option D} (h2 : g.length ≤ 500) (hj : j < g.length) (hk : ∀ j, j < g.length → gz g j ∈ ks) (hkl : ks.length < 100000) (hne : n ≠ f) (hd : S.get n = some (.dct (kd ks (lv g w j)))) (hf : S.get f = some (.lst (mp g w j))) :
    ∃ S1, mo4b [some (.str g), some (.str w), some (.ref n), some (.ref f), some (.str [gz g j]), some (.str [gz w j]), q] S = .ok (.nx [some (.str g), some (.str w), some (.ref n), some (.ref f), some (.str [gz g j]), some (.str [gz w j]), q]) S1 ∧
      S1.get n = some (.dct (kd ks (lv g w (j + 1)))) ∧ S1.get f = some (.lst (mp g w (j + 1))) ∧ S1.next = S.next ∧ ∀ m, m ≠ n → m ≠ f → S1.get m = S.get m := by
  have hml : (mp g w j).length < 100000 := by simp; omega
  have stay : ¬ (gz g j ≠ gz w j ∧ hitN g w (gz g j) + nearF g w j (gz g j) < w.count (gz g j)) → kd ks (lv g w j) = kd ks (lv g w (j + 1)) := fun z => by
    apply kd_congr
    intro c
    show _ = (w.count c : Int) - hitN g w c - nearF g w (j + 1) c
    have : nearF g w (j + 1) c = nearF g w j c := by
      show nearF g w j c + _ = _
      rw [if_neg fun q => z ⟨q.2.1, q.2.2⟩]
      rfl
    rw [this]
  by_cases e : gz g j = gz w j
  · have mk : mkF g w j = 50 := by unfold mkF; rw [if_pos e]
    have a := app_st (i := 3) (y := .str [50]) (ρ := [some (.str g), some (.str w), some (.ref n), some (.ref f), some (.str [gz g j]), some (.str [gz w j]), q]) rfl hf hml
    refine ⟨S.set f (.lst (mp g w j ++ [.str [50]])), ?_, ?_, ?_, rfl, fun m _ hm => S.get_set_ne _ hm⟩
    · unfold mo4b
      rw [show sIf _ _ _ _ S = _ from rfl]
      simp only [sIf, sBind, iTst, iOp, M.bind, iVar, lift, List.getD_cons_succ, List.getD_cons_zero, eqD_str, e, isB, decide_true, if_true]
      rw [e] at a
      exact a
    · rw [S.get_set_ne _ hne, hd, stay fun z => z.1 e]
    · rw [Store.get_set_self, mp_succ, mk]
  · have ed : decide ([gz g j] = [gz w j]) = false := by simp [e]
    have gt : dgetD (.ref n) (.str [gz g j]) S = some (.int (lv g w j (gz g j))) := by
      simp only [dgetD, dctOf, hd, kyOf, kd_get (hk j hj)]
    by_cases c : hitN g w (gz g j) + nearF g w j (gz g j) < w.count (gz g j)
    · have mk : mkF g w j = 49 := by unfold mkF; rw [if_neg e, if_pos c]
      have z : (0 : Int) < lv g w j (gz g j) := by show (0 : Int) < (w.count (gz g j) : Int) - hitN g w (gz g j) - nearF g w j (gz g j); omega
      have d := daug_ok (S := S) (i := 2) (j := 4) (ρ := [some (.str g), some (.str w), some (.ref n), some (.ref f), some (.str [gz g j]), some (.str [gz w j]), q]) rfl rfl hd (hk j hj) hkl
      have ec : (fun d => if d = gz g j then lv g w j (gz g j) - 1 else lv g w j d) = lv g w (j + 1) := by
        funext d
        show (if d = gz g j then (w.count (gz g j) : Int) - hitN g w (gz g j) - nearF g w j (gz g j) - 1 else (w.count d : Int) - hitN g w d - nearF g w j d) = (w.count d : Int) - hitN g w d - ((nearF g w j d + (if gz g j = d ∧ gz g j ≠ gz w j ∧ hitN g w (gz g j) + nearF g w j (gz g j) < w.count (gz g j) then 1 else 0) : Nat) : Int)
        by_cases y : d = gz g j
        · subst y
          rw [if_pos rfl, if_pos ⟨rfl, e, c⟩]
          omega
        · rw [if_neg y, if_neg fun q => y q.1.symm]
          omega
      rw [ec] at d
      have hf2 : (S.set n (.dct (kd ks (lv g w (j + 1))))).get f = some (.lst (mp g w j)) := by rw [Store.get_set_ne _ _ (Ne.symm hne)]; exact hf
      have a := app_st (i := 3) (y := .str [49]) (ρ := [some (.str g), some (.str w), some (.ref n), some (.ref f), some (.str [gz g j]), some (.str [gz w j]), q]) rfl hf2 hml
      refine ⟨(S.set n (.dct (kd ks (lv g w (j + 1))))).set f (.lst (mp g w j ++ [.str [49]])), ?_, ?_, ?_, rfl, fun m h1 h3 => by rw [Store.get_set_ne _ _ h3, Store.get_set_ne _ _ h1]⟩
      · unfold mo4b
        simp only [sIf, sBind, iTst, iOp, M.bind, iVar, lift, List.getD_cons_succ, List.getD_cons_zero, eqD_str, ed, isB, Bool.false_eq_true, if_false, gt, iC, M.ret, gtI_int, z, decide_true, if_true]
        rw [sSeq_nx d]
        exact a
      · rw [Store.get_set_ne _ _ hne, Store.get_set_self]
      · rw [Store.get_set_self, mp_succ, mk]
    · have mk : mkF g w j = 48 := by unfold mkF; rw [if_neg e, if_neg c]
      have z : ¬ (0 : Int) < lv g w j (gz g j) := by show ¬ (0 : Int) < (w.count (gz g j) : Int) - hitN g w (gz g j) - nearF g w j (gz g j); omega
      have a := app_st (i := 3) (y := .str [48]) (ρ := [some (.str g), some (.str w), some (.ref n), some (.ref f), some (.str [gz g j]), some (.str [gz w j]), q]) rfl hf hml
      refine ⟨S.set f (.lst (mp g w j ++ [.str [48]])), ?_, ?_, ?_, rfl, fun m _ hm => S.get_set_ne _ hm⟩
      · unfold mo4b
        simp only [sIf, sBind, iTst, iOp, M.bind, iVar, lift, List.getD_cons_succ, List.getD_cons_zero, eqD_str, ed, isB, Bool.false_eq_true, if_false, gt, iC, M.ret, gtI_int, z, decide_false]
        exact a
      · rw [S.get_set_ne _ hne, hd, stay fun z => c z.2]
      · rw [Store.get_set_self, mp_succ, mk]
theorem frz_dct {i f : Nat} {ρ : Rho} {S : Store} {kvs : List (Ky × D)} (h : ρ.getD i none = some (.ref f)) (hf : S.get f = some (.dct kvs)) : ∃ d, sFrz i ρ S = .ok (.nx (ρ.set i (some d))) (S.del f) := by
  unfold sFrz
  simp only [h, hf, Option.bind_some, frzO]
  exact ⟨_, rfl⟩
theorem marks_ok {g w : List Nat} {S : Store} (hl : g.length = w.length) (h2 : g.length ≤ 500) : ∃ S', dMarks [.str g, .str w] S = .ok (.str (marksL g w)) S' ∧ Kq S S' := by
  obtain ⟨ks, S1, e1, d1, hk, hkl, n1, k1⟩ := mo1_ok (g := g) (w := w) (S := S) h2
  have hkl' : ks.length < 100000 := by omega
  obtain ⟨a, b, S2, e2, d2, n2, k2⟩ := mo2_ok hl h2 hk hkl' d1
  have e3 : mo3 [some (.str g), some (.str w), some (.ref S.next), none, a, b, none] S2 = .ok (.nx [some (.str g), some (.str w), some (.ref S.next), some (.ref (S.next + 1)), a, b, none]) (S2.alloc (.lst [])) := by
    have : S2.next = S.next + 1 := n2.trans n1
    simp [sSeq, sSetI, sSetIN, sBind, iOp, M.bind, lift, iVar, iC, M.ret, sIf, iTst, isB, iCB, iCons, iNil, sRet, sNext, sAsg, sExpr, sPar, sPar3, iCall, iIf, iOr, iAnd, iNot, iNotV, iAndV, iOrV, M.no, iLstM, iLst, iTup, sAsgG, ngD, nsD, iSl, iPart, iNoPart, iBM, iCM, iYes, mo3, this]
  have n2' : S2.next = S.next + 1 := n2.trans n1
  have key := forL_inv (g := .t [4, 5]) (body := mo4b) (fun i ρ S' => (∃ a b, ρ = [some (.str g), some (.str w), some (.ref S.next), some (.ref (S.next + 1)), a, b, none]) ∧ S'.get S.next = some (.dct (kd ks (lv g w i))) ∧ S'.get (S.next + 1) = some (.lst (mp g w i)) ∧ S'.next = S.next + 2 ∧ ∀ m, m < S.next → S'.get m = S.get m)
    (zipD (g.map fun c => .str [c]) (w.map fun c => .str [c])) 0 [some (.str g), some (.str w), some (.ref S.next), some (.ref (S.next + 1)), a, b, none] (S2.alloc (.lst [])) ⟨⟨a, b, rfl⟩, ?_, ?_, ?_, ?_⟩ ?_
  · obtain ⟨ρ', S3, e4, ⟨a', b', rfl⟩, q1, q2, q3, q4⟩ := key
    have en : (zipD (g.map fun c => .str [c]) (w.map fun c => .str [c])).length = g.length := by
      rw [zipD_len]; simp; omega
    rw [Nat.zero_add, en] at q1 q2
    have e4' : mo4 [some (.str g), some (.str w), some (.ref S.next), some (.ref (S.next + 1)), a, b, none] (S2.alloc (.lst [])) = .ok (.nx [some (.str g), some (.str w), some (.ref S.next), some (.ref (S.next + 1)), a', b', none]) S3 := by
      rw [← e4]
      simp [sSeq, sSetI, sSetIN, sBind, iOp, M.bind, lift, iVar, iC, M.ret, sIf, iTst, isB, iCB, iCons, iNil, sRet, sNext, sAsg, sExpr, sPar, sPar3, iCall, iIf, iOr, iAnd, iNot, iNotV, iAndV, iOrV, M.no, iLstM, iLst, iTup, sAsgG, ngD, nsD, iSl, iPart, iNoPart, iBM, iCM, iYes, mo4, sFor, iZipA, zipOfA]
    have em : mp g w g.length = (marksL g w).map fun c => .str [c] := by
      simp [mp, marksL]
    rw [em] at q2
    have e5 : sFrz 3 [some (.str g), some (.str w), some (.ref S.next), some (.ref (S.next + 1)), a', b', none] S3 = .ok (.nx [some (.str g), some (.str w), some (.ref S.next), some (.lst ((marksL g w).map fun c => .str [c])), a', b', none]) (S3.del (S.next + 1)) := frz_lst rfl q2
    have q1' : (S3.del (S.next + 1)).get S.next = some (.dct (kd ks (lv g w g.length))) := by
      rw [Store.get_del, if_neg (by omega)]
      exact q1
    obtain ⟨d, e6⟩ := frz_dct (i := 2) (ρ := [some (.str g), some (.str w), some (.ref S.next), some (.lst ((marksL g w).map fun c => .str [c])), a', b', none]) rfl q1'
    have e6' : sFrz 2 [some (.str g), some (.str w), some (.ref S.next), some (.lst ((marksL g w).map fun c => .str [c])), a', b', none] (S3.del (S.next + 1)) = .ok (.nx [some (.str g), some (.str w), some d, some (.lst ((marksL g w).map fun c => .str [c])), a', b', none]) ((S3.del (S.next + 1)).del S.next) := e6
    have e7 : mo7 [some (.str g), some (.str w), some d, some (.lst ((marksL g w).map fun c => .str [c])), a', b', none] ((S3.del (S.next + 1)).del S.next) = .ok (.rt (.str (marksL g w))) ((S3.del (S.next + 1)).del S.next) := by
      simp [sSeq, sSetI, sSetIN, sBind, iOp, M.bind, lift, iVar, iC, M.ret, sIf, iTst, isB, iCB, iCons, iNil, sRet, sNext, sAsg, sExpr, sPar, sPar3, iCall, iIf, iOr, iAnd, iNot, iNotV, iAndV, iOrV, M.no, iLstM, iLst, iTup, sAsgG, ngD, nsD, iSl, iPart, iNoPart, iBM, iCM, iYes, mo7, kindIs, join_chars (show (marksL g w).length ≤ 1000 by rw [marksL_len]; omega)]
    refine ⟨((S3.del (S.next + 1)).del S.next).trim S.next, ?_, ?_⟩
    · show defJ 7 false isMarks _ S = _
      unfold defJ isMarks
      have e0 : startR 7 [.str g, .str w] = [some (.str g), some (.str w), none, none, none, none, none] := rfl
      rw [e0, sSeq_nx e1, sSeq_nx e2, sSeq_nx e3, sSeq_nx e4', sSeq_nx e5, sSeq_nx e6', e7]
      rfl
    · refine kq_trim ⟨by rw [Store.next_del, Store.next_del, q3]; omega, fun m hm => ?_⟩
      rw [Store.get_del, if_neg (Nat.ne_of_lt hm), Store.get_del, if_neg (by omega)]
      exact q4 m hm
  · rw [S2.get_alloc_ne _ (by omega), d2]
    congr 2
    apply kd_congr
    intro c
    simp [lv, nearF]
  · rw [← n2', Store.get_alloc_self]
    simp
  · simp [n2']
  · intro m hm
    rw [S2.get_alloc_ne _ (by omega), k2 m (by omega)]
    exact k1.get m hm
  · rintro j x ρ S4 hx ⟨⟨a', b', rfl⟩, q1, q2, q3, q4⟩
    obtain ⟨hj, hjw, rfl⟩ := zip_get hx
    rw [Nat.zero_add] at q1 q2 ⊢
    obtain ⟨S5, t1, t2, t3, t4, t5⟩ := mo4_turn (q := none) h2 hj hk hkl' (by omega) q1 q2
    exact ⟨_, _, S5, rfl, t1, ⟨_, _, rfl⟩, t2, t3, t4.trans q3, fun m hm => (t5 m (by omega) (by omega)).trans (q4 m hm)⟩
end J

set_option Elab.async false
set_option linter.all false
set_option maxRecDepth 100000
set_option maxHeartbeats 1010000
/-! PK: plain laws: words, marks, rows, histories -/
namespace J
theorem neD_int {a b : Int} {S : Store} : neD (.int a) (.int b) S = some (.bl (!decide (a = b))) := by simp [neD, op2, neS, eqS]
theorem kit_tt : L2.kitB "tuple" "tuple" = some true := by decide +kernel
theorem inD_chr {c : Nat} {l : List Nat} {S : Store} : inD (.str [c]) (.str l) S = some (.bl (decide (c ∈ l))) := by simp [inD, op2, inS]
theorem inD_marks {c : Nat} {S : Store} : inD (.str [c]) (.tup [.str [48], .str [49], .str [50]]) S = some (.bl (decide (c = 48 ∨ c = 49 ∨ c = 50))) := by
  have h : ∀ a b : Nat, (decide (a = b) : Bool) = decide (b = a) := fun a b => by rw [decide_eq_decide]; exact eq_comm
  simp [inD, op2, inS, inQ, seqA, seqR, seqL, seqT, flatD, eqF, h]
theorem boolsOf_map {α : Type} (f : α → Bool) : ∀ xs : List α, boolsOf (xs.map fun x => D.bl (f x)) = some (xs.map f)
  | [] => rfl
  | x :: xs => by simp [boolsOf, boolsOf_map f xs]
theorem allD_map {α : Type} {f : α → Bool} {xs : List α} {S : Store} : allD [.lst (xs.map fun x => D.bl (f x))] S = some (.bl (xs.all f)) := by
  simp [allD, seqA, seqR, seqL, boolsOf_map]
theorem lcL_str {t : IT} {ie : IE} {ρ : Rho} {S : Store} {i : Nat} {w : List Nat} (f : Nat → D) (h : ∀ c ∈ w, t (ρ.set i (some (.str [c]))) S = .ok true S ∧ ie (ρ.set i (some (.str [c]))) S = .ok (f c) S) : lcL (.n i) t ie ρ (w.map fun c => .str [c]) S = .ok (w.map f) S := by
  induction w with
  | nil => rfl
  | cons c w ih =>
    obtain ⟨h1, h2⟩ := h c (List.mem_cons_self ..)
    have e : ngD (.n i) (.str [c]) ρ = some (ρ.set i (some (.str [c]))) := rfl
    rw [List.map_cons, lcL_cons_some e]
    simp [M.bind, nox, h1, h2, ih fun d hd => h d (List.mem_cons_of_mem _ hd), M.ret]
section
variable (T : Tab) (cs : List Nat) (tb : List (Tg × Tg × Bool))
def iw1 : IS := (sIf (iOr (iNot (iTst (iCB (isiD cs tb) (iCons (iVar 1) (iCons (iC (.ty "str")) iNil))))) (iTst (iOp neD (iCB lenD (iCons (iVar 1) iNil)) (iFld T [0] 1 (iVar 0))))) (sRet (iC (.bl false))) sNext)
def iw2 : IS := (sRet (iCB allD (iCons (iLc (iItems (iVar 1)) (.n 2) iYes (iOp inD (iVar 2) (iFld T [0] 0 (iVar 0))) [2]) iNil)))
def isIsWord : IS := sSeq (iw1 T cs tb) (iw2 T)
def dIsWord : List D → M D := defJ 3 false (isIsWord T cs tb)
def amE : IE := iOp inD (iVar 2) (iTup (iCons (iC (.str [48])) (iCons (iC (.str [49])) (iCons (iC (.str [50])) iNil))))
def am2 : IS := (sRet (iCB allD (iCons (iLc (iItems (iVar 1)) (.n 2) iYes amE [2]) iNil)))
def isAreMarks : IS := sSeq (iw1 T cs tb) am2
def dAreMarks : List D → M D := defJ 3 false (isAreMarks T cs tb)
theorem iw1_ok (hT : T.fs 0 = [0, 1]) {S : Store} {l w : List Nat} {k : Nat} (hw : w.length ≤ 1000) (h : w.length = k) : iw1 T cs tb [some (bd l k), some (.str w), none] S = .ok (.nx [some (bd l k), some (.str w), none]) S := by
  have hs := isi_b (cs := cs) (tb := tb) (x := .str w) (S := S) (t := "str") rfl kit_ss
  have f1 : iFld T [0] 1 (iVar 0) [some (bd l k), some (.str w), none] S = .ok (.int (k : Int)) S := fld1 T hT rfl
  subst h
  unfold iw1
  simp [sSeq, sSetI, sSetIN, sBind, iOp, M.bind, lift, iVar, iC, M.ret, sIf, iTst, isB, iCB, iCons, iNil, sRet, sNext, sAsg, sExpr, sPar, sPar3, iCall, iIf, iOr, iAnd, iNot, iNotV, iAndV, iOrV, M.no, iLstM, iLst, iTup, sAsgG, ngD, nsD, iSl, iPart, iNoPart, iBM, iCM, iYes, hs, f1, lenD_str (show w.length ≤ 100000 by omega), neD_int]
theorem isw_ok (hT : T.fs 0 = [0, 1]) {S : Store} {l w : List Nat} {k : Nat} (hw : w.length ≤ 1000) (h : w.length = k) (hl : ∀ c ∈ w, c ∈ l) : dIsWord T cs tb [bd l k, .str w] S = .ok (.bl true) (S.trim S.next) := by
  have e1 := iw1_ok T cs tb hT (S := S) (l := l) hw h
  have lc := lcL_str (t := iYes) (ie := iOp inD (iVar 2) (iFld T [0] 0 (iVar 0))) (ρ := [some (bd l k), some (.str w), none]) (S := S) (i := 2) (w := w) (fun _ => .bl true) (fun c hc => ⟨rfl, by
    have f0 : iFld T [0] 0 (iVar 0) [some (bd l k), some (.str w), some (.str [c])] S = .ok (.str l) S := fld0 T hT rfl
    show iOp inD (iVar 2) (iFld T [0] 0 (iVar 0)) [some (bd l k), some (.str w), some (.str [c])] S = _
    simp [sSeq, sSetI, sSetIN, sBind, iOp, M.bind, lift, iVar, iC, M.ret, sIf, iTst, isB, iCB, iCons, iNil, sRet, sNext, sAsg, sExpr, sPar, sPar3, iCall, iIf, iOr, iAnd, iNot, iNotV, iAndV, iOrV, M.no, iLstM, iLst, iTup, sAsgG, ngD, nsD, iSl, iPart, iNoPart, iBM, iCM, iYes, f0, inD_chr, hl c hc]⟩)
  have e2 : iw2 T [some (bd l k), some (.str w), none] S = .ok (.rt (.bl true)) S := by
    have hlen : (w.map fun c => D.str [c]).length < 100000 := by simp; omega
    have al : allD [.lst (w.map fun _ => D.bl true)] S = some (.bl true) := all_true
    unfold iw2
    simp only [sRet, sBind, iCB, iCons, iNil, iLc, iItems, items, iVar, M.bind, M.ret, lift, List.getD_cons_zero, List.getD_cons_succ, hlen, if_true, wipeR, List.set_cons_succ, List.set_cons_zero, lc, al]
  show defJ 3 false (isIsWord T cs tb) _ S = _
  unfold defJ isIsWord
  have e0 : startR 3 [bd l k, .str w] = [some (bd l k), some (.str w), none] := rfl
  rw [e0, sSeq_nx e1, e2]
  rfl
theorem am_ok (hT : T.fs 0 = [0, 1]) {S : Store} {l w : List Nat} {k : Nat} (hw : w.length ≤ 1000) (h : w.length = k) (hl : ∀ c ∈ w, c = 48 ∨ c = 49 ∨ c = 50) : dAreMarks T cs tb [bd l k, .str w] S = .ok (.bl true) (S.trim S.next) := by
  have e1 := iw1_ok T cs tb hT (S := S) (l := l) hw h
  have lc := lcL_str (t := iYes) (ie := amE) (ρ := [some (bd l k), some (.str w), none]) (S := S) (i := 2) (w := w) (fun _ => .bl true) (fun c hc => ⟨rfl, by
    show iOp inD (iVar 2) (iTup (iCons (iC (.str [48])) (iCons (iC (.str [49])) (iCons (iC (.str [50])) iNil)))) [some (bd l k), some (.str w), some (.str [c])] S = _
    simp [sSeq, sSetI, sSetIN, sBind, iOp, M.bind, lift, iVar, iC, M.ret, sIf, iTst, isB, iCB, iCons, iNil, sRet, sNext, sAsg, sExpr, sPar, sPar3, iCall, iIf, iOr, iAnd, iNot, iNotV, iAndV, iOrV, M.no, iLstM, iLst, iTup, sAsgG, ngD, nsD, iSl, iPart, iNoPart, iBM, iCM, iYes, inD_marks, hl c hc]⟩)
  have e2 : am2 [some (bd l k), some (.str w), none] S = .ok (.rt (.bl true)) S := by
    have hlen : (w.map fun c => D.str [c]).length < 100000 := by simp; omega
    have al : allD [.lst (w.map fun _ => D.bl true)] S = some (.bl true) := all_true
    unfold am2
    simp only [sRet, sBind, iCB, iCons, iNil, iLc, iItems, items, iVar, M.bind, M.ret, lift, List.getD_cons_zero, List.getD_cons_succ, hlen, if_true, wipeR, List.set_cons_succ, List.set_cons_zero]
    simp only [lc, al]
  show defJ 3 false (isAreMarks T cs tb) _ S = _
  unfold defJ isAreMarks
  have e0 : startR 3 [bd l k, .str w] = [some (bd l k), some (.str w), none] := rfl
  rw [e0, sSeq_nx e1, e2]
  rfl
/-- a good row -/
structure Row (l : List Nat) (k : Nat) (r : List Nat × List Nat) : Prop where
  len : r.1.length = k
  mem : ∀ c ∈ r.1, c ∈ l
  len2 : r.2.length = k
  mks : ∀ c ∈ r.2, c = 48 ∨ c = 49 ∨ c = 50
def rowD (r : List Nat × List Nat) : D := .tup [.str r.1, .str r.2]
def isIsRow : IS := (sSeq (sIf (iOr (iNot (iTst (iCB (isiD cs tb) (iCons (iVar 1) (iCons (iC (.ty "tuple")) iNil))))) (iTst (iOp neD (iCB lenD (iCons (iVar 1) iNil)) (iC (.int 2))))) (sRet (iC (.bl false))) sNext) (sRet (iAndV (iCall 2 (dIsWord T cs tb) (iCons (iVar 0) (iCons (iOp ixD (iVar 1) (iC (.int 0))) iNil))) (iCall 2 (dAreMarks T cs tb) (iCons (iVar 0) (iCons (iOp ixD (iVar 1) (iC (.int 1))) iNil))))))
def dIsRow : List D → M D := defJ 2 false (isIsRow T cs tb)
theorem isrow_ok (hT : T.fs 0 = [0, 1]) {S : Store} {l : List Nat} {k : Nat} {r : List Nat × List Nat} (hk : k ≤ 1000) (h : Row l k r) : ∃ S', dIsRow T cs tb [bd l k, rowD r] S = .ok (.bl true) S' ∧ Kq S S' := by
  have hs := isi_b (cs := cs) (tb := tb) (x := rowD r) (S := S) (t := "tuple") rfl kit_tt
  have a := isw_ok T cs tb hT (S := S) (l := l) (w := r.1) (by rw [h.len]; exact hk) h.len h.mem
  have b := am_ok T cs tb hT (S := S.trim S.next) (l := l) (w := r.2) (by rw [h.len2]; exact hk) h.len2 h.mks
  refine ⟨((S.trim S.next).trim S.next).trim S.next, ?_, kq_trim ((kq_trim (Kq.refl S)).trans (kq_trim (Kq.refl _)))⟩
  have b' : dAreMarks T cs tb [bd l k, .str r.2] (S.trim S.next) = .ok (.bl true) ((S.trim S.next).trim S.next) := b
  have i0 : ixD (rowD r) (.int 0) S = some (.str r.1) := by simp [ixD, op2, ixL, seqR, seqL, ixT, seqT, rowD, L2.atI, L2.ixN]
  have i1 : ixD (rowD r) (.int 1) (S.trim S.next) = some (.str r.2) := by simp [ixD, op2, ixL, seqR, seqL, ixT, seqT, rowD, L2.atI, L2.ixN]
  have ln : lenD [rowD r] S = some (.int 2) := by simp [lenD, rowD, seqA, seqR, seqL, seqT]
  unfold dIsRow defJ isIsRow
  have e0 : startR 2 [bd l k, rowD r] = [some (bd l k), some (rowD r)] := rfl
  rw [e0]
  simp [sSeq, sSetI, sSetIN, sBind, iOp, M.bind, lift, iVar, iC, M.ret, sIf, iTst, isB, iCB, iCons, iNil, sRet, sNext, sAsg, sExpr, sPar, sPar3, iCall, iIf, iOr, iAnd, iNot, iNotV, iAndV, iOrV, M.no, iLstM, iLst, iTup, sAsgG, ngD, nsD, iSl, iPart, iNoPart, iBM, iCM, iYes, hs, ln, neD_int, i0, a, i1, b']
/-! ### checks -/
def isCkB : IS := (sIf (iNot (iTst (iCB (isiD cs tb) (iCons (iVar 0) (iCons (iC (.glo 0)) iNil))))) sNever sNext)
def dCkB : List D → M D := defJ 1 false (isCkB cs tb)
def isCkW : IS := (sIf (iNot (iTst (iCall 2 (dIsWord T cs tb) (iCons (iVar 0) (iCons (iVar 1) iNil))))) sNever sNext)
def dCkW : List D → M D := defJ 2 false (isCkW T cs tb)
def isCkM : IS := (sIf (iNot (iTst (iCall 2 (dAreMarks T cs tb) (iCons (iVar 0) (iCons (iVar 1) iNil))))) sNever sNext)
def dCkM : List D → M D := defJ 2 false (isCkM T cs tb)
abbrev IsB : Prop := ∀ l k S, isiD cs tb [bd l k, .glo 0] S = some (.bl true)
theorem ckb_ok (hb : IsB cs tb) {S : Store} {l : List Nat} {k : Int} : dCkB cs tb [bd l k] S = .ok .non (S.trim S.next) := by
  have h := hb l k S
  unfold dCkB defJ isCkB startR
  simp [sSeq, sSetI, sSetIN, sBind, iOp, M.bind, lift, iVar, iC, M.ret, sIf, iTst, isB, iCB, iCons, iNil, sRet, sNext, sAsg, sExpr, sPar, sPar3, iCall, iIf, iOr, iAnd, iNot, iNotV, iAndV, iOrV, M.no, iLstM, iLst, iTup, sAsgG, ngD, nsD, iSl, iPart, iNoPart, iBM, iCM, iYes, h]
theorem ckw_ok (hT : T.fs 0 = [0, 1]) {S : Store} {l w : List Nat} {k : Nat} (hw : w.length ≤ 1000) (h : w.length = k) (hl : ∀ c ∈ w, c ∈ l) : dCkW T cs tb [bd l k, .str w] S = .ok .non ((S.trim S.next).trim S.next) := by
  have a := isw_ok T cs tb hT (S := S) hw h hl
  unfold dCkW defJ isCkW startR
  simp [sSeq, sSetI, sSetIN, sBind, iOp, M.bind, lift, iVar, iC, M.ret, sIf, iTst, isB, iCB, iCons, iNil, sRet, sNext, sAsg, sExpr, sPar, sPar3, iCall, iIf, iOr, iAnd, iNot, iNotV, iAndV, iOrV, M.no, iLstM, iLst, iTup, sAsgG, ngD, nsD, iSl, iPart, iNoPart, iBM, iCM, iYes, a]
theorem ckm_ok (hT : T.fs 0 = [0, 1]) {S : Store} {l w : List Nat} {k : Nat} (hw : w.length ≤ 1000) (h : w.length = k) (hl : ∀ c ∈ w, c = 48 ∨ c = 49 ∨ c = 50) : dCkM T cs tb [bd l k, .str w] S = .ok .non ((S.trim S.next).trim S.next) := by
  have a := am_ok T cs tb hT (S := S) (l := l) hw h hl
  unfold dCkM defJ isCkM startR
  simp [sSeq, sSetI, sSetIN, sBind, iOp, M.bind, lift, iVar, iC, M.ret, sIf, iTst, isB, iCB, iCons, iNil, sRet, sNext, sAsg, sExpr, sPar, sPar3, iCall, iIf, iOr, iAnd, iNot, iNotV, iAndV, iOrV, M.no, iLstM, iLst, iTup, sAsgG, ngD, nsD, iSl, iPart, iNoPart, iBM, iCM, iYes, a]
theorem kq_t1 (S : Store) : Kq S (S.trim S.next) := kq_trim (Kq.refl S)
theorem kq_t2 (S : Store) : Kq S ((S.trim S.next).trim S.next) := (kq_t1 S).trans (kq_trim (Kq.refl _))
/-! ### histories -/
abbrev hs (b : D) (rows : List (List Nat × List Nat)) : D := .ins 1 [b, .tup (rows.map rowD)]
def hi1 : IS := (sExpr (iCall 1 (dCkB cs tb) (iCons (iVar 1) iNil)))
def hi2 : IS := (sIf (iTst (iOp gtI (iCB lenD (iCons (iVar 2) iNil)) (iC (.int 20)))) sNever sNext)
def hi3b : IS := (sIf (iNot (iTst (iCall 2 (dIsRow T cs tb) (iCons (iVar 1) (iCons (iVar 4) iNil))))) sNever sNext)
def hi3 : IS := (sFor (iEnumD (iCons (iVar 2) iNil)) (.t [3, 4]) (hi3b T cs tb))
def hi4 : IS := (sSetA T [1] 2 (iVar 1) (iVar 0))
def hi5 : IS := (sSetA T [1] 3 (iVar 2) (iVar 0))
def isHInit : IS := sSeq (hi1 cs tb) (sSeq hi2 (sSeq (hi3 T cs tb) (sSeq (hi4 T) (hi5 T))))
def dHInit : List D → M D := defJ 5 true (isHInit T cs tb)
theorem lenD_tup {xs : List D} {S : Store} : lenD [.tup xs] S = some (.int xs.length) := by simp [lenD, seqA, seqR, seqL, seqT]
theorem hinit_ok (hT : T.fs 0 = [0, 1]) (hb : IsB cs tb) {S : Store} {m : Nat} {l : List Nat} {k : Nat} {rows : List (List Nat × List Nat)} (hm : S.get m = some (.ins 1 [])) (hlt : m < S.next) (hk : k ≤ 1000) (hr : rows.length ≤ 20) (h : ∀ r ∈ rows, Row l k r) :
    ∃ S', dHInit T cs tb [.ref m, bd l k, .tup (rows.map rowD)] S = .ok .non S' ∧ S'.get m = some (.ins 1 [(2, bd l k), (3, .tup (rows.map rowD))]) ∧ Kp m S S' := by
  have e1 : hi1 cs tb [some (.ref m), some (bd l k), some (.tup (rows.map rowD)), none, none] S = .ok (.nx [some (.ref m), some (bd l k), some (.tup (rows.map rowD)), none, none]) (S.trim S.next) := by
    have a := ckb_ok cs tb hb (S := S) (l := l) (k := k)
    unfold hi1
    simp [sSeq, sSetI, sSetIN, sBind, iOp, M.bind, lift, iVar, iC, M.ret, sIf, iTst, isB, iCB, iCons, iNil, sRet, sNext, sAsg, sExpr, sPar, sPar3, iCall, iIf, iOr, iAnd, iNot, iNotV, iAndV, iOrV, M.no, iLstM, iLst, iTup, sAsgG, ngD, nsD, iSl, iPart, iNoPart, iBM, iCM, iYes, a]
  have e2 : hi2 [some (.ref m), some (bd l k), some (.tup (rows.map rowD)), none, none] (S.trim S.next) = .ok (.nx [some (.ref m), some (bd l k), some (.tup (rows.map rowD)), none, none]) (S.trim S.next) := by
    have z : ¬ (20 : Int) < ((rows.map rowD).length : Nat) := by simp; omega
    unfold hi2
    simp only [sIf, sBind, iTst, iOp, iCB, iCons, M.bind, iVar, lift, List.getD_cons_succ, List.getD_cons_zero, iNil, M.ret, lenD_tup, iC, gtI_int, isB, z, decide_false, Bool.false_eq_true, if_false, sNext]
  have key := forL_inv (g := .t [3, 4]) (body := hi3b T cs tb) (fun _ ρ S' => (∃ a b, ρ = [some (.ref m), some (bd l k), some (.tup (rows.map rowD)), a, b]) ∧ Kq S S') (enumF 0 (rows.map rowD)) 0 [some (.ref m), some (bd l k), some (.tup (rows.map rowD)), none, none] (S.trim S.next) ⟨⟨none, none, rfl⟩, kq_t1 S⟩ (by
    rintro j x ρ S2 hx ⟨⟨a, b, rfl⟩, q⟩
    obtain ⟨y, rfl, hy⟩ := enumF_get hx
    obtain ⟨r, hr, rfl⟩ := List.mem_map.mp (List.mem_of_getElem? hy)
    obtain ⟨S3, e3, q3⟩ := isrow_ok T cs tb hT (S := S2) hk (h r hr)
    refine ⟨[some (.ref m), some (bd l k), some (.tup (rows.map rowD)), some (.int ((0 + j : Nat) : Int)), some (rowD r)], [some (.ref m), some (bd l k), some (.tup (rows.map rowD)), some (.int ((0 + j : Nat) : Int)), some (rowD r)], S3, rfl, ?_, ⟨_, _, rfl⟩, q.trans q3⟩
    unfold hi3b
    simp [sSeq, sSetI, sSetIN, sBind, iOp, M.bind, lift, iVar, iC, M.ret, sIf, iTst, isB, iCB, iCons, iNil, sRet, sNext, sAsg, sExpr, sPar, sPar3, iCall, iIf, iOr, iAnd, iNot, iNotV, iAndV, iOrV, M.no, iLstM, iLst, iTup, sAsgG, ngD, nsD, iSl, iPart, iNoPart, iBM, iCM, iYes, e3])
  obtain ⟨ρ', S3, e3, ⟨a, b, rfl⟩, q3⟩ := key
  have e3' : hi3 T cs tb [some (.ref m), some (bd l k), some (.tup (rows.map rowD)), none, none] (S.trim S.next) = .ok (.nx [some (.ref m), some (bd l k), some (.tup (rows.map rowD)), a, b]) S3 := by
    rw [← e3]
    simp [sSeq, sSetI, sSetIN, sBind, iOp, M.bind, lift, iVar, iC, M.ret, sIf, iTst, isB, iCB, iCons, iNil, sRet, sNext, sAsg, sExpr, sPar, sPar3, iCall, iIf, iOr, iAnd, iNot, iNotV, iAndV, iOrV, M.no, iLstM, iLst, iTup, sAsgG, ngD, nsD, iSl, iPart, iNoPart, iBM, iCM, iYes, hi3, sFor, iEnumD, enumOf]
  have g3 : S3.get m = some (.ins 1 []) := (q3.get m hlt).trans hm
  have e4 : hi4 T [some (.ref m), some (bd l k), some (.tup (rows.map rowD)), a, b] S3 = .ok (.nx [some (.ref m), some (bd l k), some (.tup (rows.map rowD)), a, b]) (S3.set m (.ins 1 [(2, bd l k)])) := by
    unfold hi4 sSetA
    simp [sSeq, sSetI, sSetIN, sBind, iOp, M.bind, lift, iVar, iC, M.ret, sIf, iTst, isB, iCB, iCons, iNil, sRet, sNext, sAsg, sExpr, sPar, sPar3, iCall, iIf, iOr, iAnd, iNot, iNotV, iAndV, iOrV, M.no, iLstM, iLst, iTup, sAsgG, ngD, nsD, iSl, iPart, iNoPart, iBM, iCM, iYes, g3, putD]
  have e5 : hi5 T [some (.ref m), some (bd l k), some (.tup (rows.map rowD)), a, b] (S3.set m (.ins 1 [(2, bd l k)])) = .ok (.nx [some (.ref m), some (bd l k), some (.tup (rows.map rowD)), a, b]) ((S3.set m (.ins 1 [(2, bd l k)])).set m (.ins 1 [(2, bd l k), (3, .tup (rows.map rowD))])) := by
    unfold hi5 sSetA
    simp [sSeq, sSetI, sSetIN, sBind, iOp, M.bind, lift, iVar, iC, M.ret, sIf, iTst, isB, iCB, iCons, iNil, sRet, sNext, sAsg, sExpr, sPar, sPar3, iCall, iIf, iOr, iAnd, iNot, iNotV, iAndV, iOrV, M.no, iLstM, iLst, iTup, sAsgG, ngD, nsD, iSl, iPart, iNoPart, iBM, iCM, iYes, putD]
  refine ⟨(S3.set m (.ins 1 [(2, bd l k)])).set m (.ins 1 [(2, bd l k), (3, .tup (rows.map rowD))]), ?_, Store.get_set_self .., q3.kp.trans (kp_set.trans kp_set)⟩
  show defJ 5 true (isHInit T cs tb) _ S = _
  unfold defJ isHInit
  have e0 : startR 5 [.ref m, bd l k, .tup (rows.map rowD)] = [some (.ref m), some (bd l k), some (.tup (rows.map rowD)), none, none] := rfl
  rw [e0, sSeq_nx e1, sSeq_nx e2, sSeq_nx e3', sSeq_nx e4, e5]
  rfl
theorem hmake_ok (hT : T.fs 0 = [0, 1]) (hT1 : T.fs 1 = [2, 3]) (hb : IsB cs tb) {S : Store} {l : List Nat} {k : Nat} {rows : List (List Nat × List Nat)} (hk : k ≤ 1000) (hr : rows.length ≤ 20) (h : ∀ r ∈ rows, Row l k r) :
    ∃ S', makeV T true 1 1 (dHInit T cs tb) (bd l k :: rows.map rowD) S = .ok (hs (bd l k) rows) S' ∧ Kq S S' := by
  obtain ⟨S1, e, g, kp⟩ := hinit_ok T cs tb hT hb (S := S.alloc (.ins 1 [])) (m := S.next) (Store.get_alloc_self ..) (Nat.lt_succ_self _) hk hr h
  refine ⟨S1.del S.next, ?_, ?_⟩
  · unfold makeV
    have c : 1 ≤ (bd l k :: rows.map rowD).length ∧ (bd l k :: rows.map rowD).length < 100000 := by simp; omega
    have p : packV 1 (bd l k :: rows.map rowD) = [bd l k, .tup (rows.map rowD)] := rfl
    rw [if_pos c, p, e]
    simp [madeD, g, hT1]
  · refine ⟨Nat.le_trans (Nat.le_succ _) kp.next, fun m hm => ?_⟩
    rw [Store.get_del, if_neg (Nat.ne_of_lt hm), kp.get m (Nat.lt_succ_of_lt hm) (Nat.ne_of_lt hm)]
    exact Store.get_alloc_ne _ _ (Nat.ne_of_lt hm)
theorem ins_hs (hT1 : T.fs 1 = [2, 3]) {b : D} {rows : List (List Nat × List Nat)} {S : Store} : insOf T (hs b rows) S = some (1, [(2, b), (3, .tup (rows.map rowD))]) := by
  simp [insOf, hT1]
theorem fld2 (hT1 : T.fs 1 = [2, 3]) {ie : IE} {ρ : Rho} {S S' : Store} {b : D} {rows : List (List Nat × List Nat)} (h : ie ρ S = .ok (hs b rows) S') : iFld T [1] 2 ie ρ S = .ok b S' := by
  unfold iFld M.bind
  simp only [h, ins_hs T hT1]
  simp [lift, getF]
theorem fld3 (hT1 : T.fs 1 = [2, 3]) {ie : IE} {ρ : Rho} {S S' : Store} {b : D} {rows : List (List Nat × List Nat)} (h : ie ρ S = .ok (hs b rows) S') : iFld T [1] 3 ie ρ S = .ok (.tup (rows.map rowD)) S' := by
  unfold iFld M.bind
  simp only [h, ins_hs T hT1]
  simp [lift, getF]
def ht1 : IS := (sExpr (iCall 2 (dCkW T cs tb) (iCons (iFld T [1] 2 (iVar 0)) (iCons (iVar 1) iNil))))
def ht2 : IS := (sExpr (iCall 2 (dCkM T cs tb) (iCons (iFld T [1] 2 (iVar 0)) (iCons (iVar 2) iNil))))
def ht3 : IS := (sIf (iTst (iOp geI (iCB lenD (iCons (iFld T [1] 3 (iVar 0)) iNil)) (iC (.int 20)))) sNever sNext)
def ht4 : IS := (sRet (iMakeV T true 1 1 (dHInit T cs tb) (iCons (iFld T [1] 2 (iVar 0)) (iStar (iFld T [1] 3 (iVar 0)) (iCons (iTup (iCons (iVar 1) (iCons (iVar 2) iNil))) iNil)))))
def isHThen : IS := sSeq (ht1 T cs tb) (sSeq (ht2 T cs tb) (sSeq (ht3 T) (ht4 T cs tb)))
def dHThen : List D → M D := defJ 3 false (isHThen T cs tb)
theorem hthen_ok (hT : T.fs 0 = [0, 1]) (hT1 : T.fs 1 = [2, 3]) (hb : IsB cs tb) {S : Store} {l : List Nat} {k : Nat} {rows : List (List Nat × List Nat)} {r : List Nat × List Nat} (hk : k ≤ 1000) (hr : rows.length < 20) (h : ∀ r ∈ rows, Row l k r) (h1 : Row l k r) :
    ∃ S', dHThen T cs tb [hs (bd l k) rows, .str r.1, .str r.2] S = .ok (hs (bd l k) (rows ++ [r])) S' ∧ Kq S S' := by
  have f2 : ∀ S, iFld T [1] 2 (iVar 0) [some (hs (bd l k) rows), some (.str r.1), some (.str r.2)] S = .ok (bd l k) S := fun S => fld2 T hT1 rfl
  have f3 : ∀ S, iFld T [1] 3 (iVar 0) [some (hs (bd l k) rows), some (.str r.1), some (.str r.2)] S = .ok (.tup (rows.map rowD)) S := fun S => fld3 T hT1 rfl
  have a := ckw_ok T cs tb hT (S := S) (l := l) (w := r.1) (by rw [h1.len]; exact hk) h1.len h1.mem
  have e1 : ht1 T cs tb [some (hs (bd l k) rows), some (.str r.1), some (.str r.2)] S = .ok (.nx [some (hs (bd l k) rows), some (.str r.1), some (.str r.2)]) ((S.trim S.next).trim S.next) := by
    unfold ht1
    simp only [sExpr, sBind, iCall, iCons, M.bind, f2, iVar, lift, List.getD_cons_succ, List.getD_cons_zero, iNil, M.ret, List.length_cons, List.length_nil, if_true, a]
  generalize hS1 : (S.trim S.next).trim S.next = S1 at e1
  have k1 : Kq S S1 := hS1 ▸ kq_t2 S
  have b := ckm_ok T cs tb hT (S := S1) (l := l) (w := r.2) (by rw [h1.len2]; exact hk) h1.len2 h1.mks
  have e2 : ht2 T cs tb [some (hs (bd l k) rows), some (.str r.1), some (.str r.2)] S1 = .ok (.nx [some (hs (bd l k) rows), some (.str r.1), some (.str r.2)]) ((S1.trim S1.next).trim S1.next) := by
    unfold ht2
    simp only [sExpr, sBind, iCall, iCons, M.bind, f2, iVar, lift, List.getD_cons_succ, List.getD_cons_zero, iNil, M.ret, List.length_cons, List.length_nil, if_true, b]
  generalize hS2 : (S1.trim S1.next).trim S1.next = S2 at e2
  have k2 : Kq S S2 := k1.trans (hS2 ▸ kq_t2 S1)
  have e3 : ht3 T [some (hs (bd l k) rows), some (.str r.1), some (.str r.2)] S2 = .ok (.nx [some (hs (bd l k) rows), some (.str r.1), some (.str r.2)]) S2 := by
    have z : ¬ (20 : Int) ≤ ((rows.map rowD).length : Nat) := by simp; omega
    unfold ht3
    simp only [sIf, sBind, iTst, iOp, iCB, iCons, M.bind, f3, iNil, M.ret, lift, lenD_tup, iC, geI_int, isB, z, decide_false, Bool.false_eq_true, if_false, sNext]
  obtain ⟨S3, e4, k4⟩ := hmake_ok T cs tb hT hT1 hb (S := S2) (l := l) (k := k) (rows := rows ++ [r]) hk (by simp; omega) (fun x hx => by
    rcases List.mem_append.mp hx with z | z
    · exact h x z
    · exact (List.mem_singleton.mp z) ▸ h1)
  have e5 : ht4 T cs tb [some (hs (bd l k) rows), some (.str r.1), some (.str r.2)] S2 = .ok (.rt (hs (bd l k) (rows ++ [r]))) S3 := by
    have q : bd l k :: (rows.map rowD ++ [rowD r]) = bd l k :: (rows ++ [r]).map rowD := by simp
    have sq : seqA (.tup (rows.map rowD)) S2 = some (rows.map rowD) := by simp [seqA, seqR, seqL, seqT]
    rw [← q] at e4
    have t2 : 0 + 1 + 1 ≤ 100000 := by decide
    have ar : iCons (iFld T [1] 2 (iVar 0)) (iStar (iFld T [1] 3 (iVar 0)) (iCons (iTup (iCons (iVar 1) (iCons (iVar 2) iNil))) iNil)) [some (hs (bd l k) rows), some (.str r.1), some (.str r.2)] S2 = .ok (bd l k :: (rows.map rowD ++ [rowD r])) S2 := by
      simp only [iCons, iStar, M.bind, f2, f3, lift, sq, iTup, iVar, List.getD_cons_succ, List.getD_cons_zero, iNil, M.ret, List.length_cons, List.length_nil, if_pos t2]
      rfl
    unfold ht4
    simp only [sRet, sBind, iMakeV, M.bind, ar, e4, M.ret]
  refine ⟨S3.trim S.next, ?_, kq_trim (k2.trans k4)⟩
  show defJ 3 false (isHThen T cs tb) _ S = _
  unfold defJ isHThen
  have e0 : startR 3 [hs (bd l k) rows, .str r.1, .str r.2] = [some (hs (bd l k) rows), some (.str r.1), some (.str r.2)] := rfl
  rw [e0, sSeq_nx e1, sSeq_nx e2, sSeq_nx e3, e5]
  rfl
end
end J

set_option Elab.async false
set_option linter.all false
set_option maxRecDepth 100000
set_option maxHeartbeats 1010000
/-! PL: plain laws: the law's histories, rows, what fits -/
namespace J
theorem lcL_kq {g : NG} {t : IT} {ie : IE} {ρ : Rho} {α : Type} (e f : α → D) : ∀ (xs : List α) (S : Store), (∀ x ∈ xs, ∀ S, ∃ ρ1 S', ngD g (e x) ρ = some ρ1 ∧ t ρ1 S = .ok true S ∧ ie ρ1 S = .ok (f x) S' ∧ Kq S S') → ∃ S', lcL g t ie ρ (xs.map e) S = .ok (xs.map f) S' ∧ Kq S S'
  | [], S, _ => ⟨S, rfl, Kq.refl S⟩
  | x :: xs, S, h => by
    obtain ⟨ρ1, S1, e1, e2, e3, k1⟩ := h x (List.mem_cons_self ..) S
    obtain ⟨S2, e4, k2⟩ := lcL_kq e f xs S1 fun y hy => h y (List.mem_cons_of_mem _ hy)
    refine ⟨S2, ?_, k1.trans k2⟩
    rw [List.map_cons, lcL_cons_some e1]
    simp [M.bind, nox, e2, e3, e4, M.ret]
def fitsB (rows : List (List Nat × List Nat)) (w : List Nat) : Bool := rows.all fun r => decide (marksL r.1 w = r.2)
def isFitsL : IS := (sRet (iCB allD (iCons (iLc (iItems (iVar 0)) (.t [2, 3]) iYes (iOp eqD (iCall 2 dTold (iCons (iVar 2) (iCons (iVar 1) iNil))) (iVar 3)) [2, 3]) iNil)))
def dFitsL : List D → M D := defJ 4 false isFitsL
theorem fitsL_ok {S : Store} {rows : List (List Nat × List Nat)} {w : List Nat} (hr : rows.length ≤ 1000) (h : ∀ r ∈ rows, r.1.length = w.length) (hw : w.length ≤ 500) : ∃ S', dFitsL [.lst (rows.map rowD), .str w] S = .ok (.bl (fitsB rows w)) S' ∧ Kq S S' := by
  obtain ⟨S1, e1, k1⟩ := lcL_kq (g := .t [2, 3]) (t := iYes) (ie := iOp eqD (iCall 2 dTold (iCons (iVar 2) (iCons (iVar 1) iNil))) (iVar 3)) (ρ := [some (.lst (rows.map rowD)), some (.str w), none, none]) rowD (fun r => .bl (decide (marksL r.1 w = r.2))) rows S (by
    intro r hr S2
    obtain ⟨S3, e3, k3⟩ := told_ok (S := S2) (g := r.1) (w := w) (h r hr) (by rw [h r hr]; exact hw)
    refine ⟨[some (.lst (rows.map rowD)), some (.str w), some (.str r.1), some (.str r.2)], S3, rfl, rfl, ?_, k3⟩
    simp [sSeq, sSetI, sSetIN, sBind, iOp, M.bind, lift, iVar, iC, M.ret, sIf, iTst, isB, iCB, iCons, iNil, sRet, sNext, sAsg, sExpr, sPar, sPar3, iCall, iIf, iOr, iAnd, iNot, iNotV, iAndV, iOrV, M.no, iLstM, iLst, iTup, sAsgG, ngD, nsD, iSl, iPart, iNoPart, iBM, iCM, iYes, e3, eqD_str])
  refine ⟨S1.trim S.next, ?_, kq_trim k1⟩
  have hl : (rows.map rowD).length < 100000 := by simp; omega
  have al : allD [.lst (rows.map fun r => .bl (decide (marksL r.1 w = r.2)))] S1 = some (.bl (fitsB rows w)) := allD_map
  have e2 : isFitsL [some (.lst (rows.map rowD)), some (.str w), none, none] S = .ok (.rt (.bl (fitsB rows w))) S1 := by
    unfold isFitsL
    generalize hq : (iOp eqD (iCall 2 dTold (iCons (iVar 2) (iCons (iVar 1) iNil))) (iVar 3)) = q at e1 ⊢
    simp only [sRet, sBind, iCB, iCons, iNil, iLc, iItems, items, iVar, M.bind, M.ret, lift, List.getD_cons_zero, List.getD_cons_succ, hl, if_true, wipeR, List.set_cons_succ, List.set_cons_zero, e1, al]
  show defJ 4 false isFitsL _ S = _
  unfold defJ
  have e0 : startR 4 [.lst (rows.map rowD), .str w] = [some (.lst (rows.map rowD)), some (.str w), none, none] := rfl
  rw [e0, e2]
  rfl
section
variable (T : Tab) (cs : List Nat) (tb : List (Tg × Tg × Bool))
def hf1 : IS := (sExpr (iCall 2 (dCkW T cs tb) (iCons (iFld T [1] 2 (iVar 0)) (iCons (iVar 1) iNil))))
def hf2 : IS := (sRet (iCB allD (iCons (iLc (iItems (iFld T [1] 3 (iVar 0))) (.t [2, 3]) iYes (iOp eqD (iCall 2 dMarks (iCons (iVar 2) (iCons (iVar 1) iNil))) (iVar 3)) [2, 3]) iNil)))
def isHFits : IS := sSeq (hf1 T cs tb) (hf2 T)
def dHFits : List D → M D := defJ 4 false (isHFits T cs tb)
theorem hfits_ok (hT : T.fs 0 = [0, 1]) (hT1 : T.fs 1 = [2, 3]) {S : Store} {l : List Nat} {k : Nat} {rows : List (List Nat × List Nat)} {w : List Nat} (hk : k ≤ 500) (hr : rows.length ≤ 1000) (h : ∀ r ∈ rows, Row l k r) (hw : w.length = k) (hm : ∀ c ∈ w, c ∈ l) :
    ∃ S', dHFits T cs tb [hs (bd l k) rows, .str w] S = .ok (.bl (fitsB rows w)) S' ∧ Kq S S' := by
  have f2 : ∀ S, iFld T [1] 2 (iVar 0) [some (hs (bd l k) rows), some (.str w), none, none] S = .ok (bd l k) S := fun S => fld2 T hT1 rfl
  have f3 : ∀ S, iFld T [1] 3 (iVar 0) [some (hs (bd l k) rows), some (.str w), none, none] S = .ok (.tup (rows.map rowD)) S := fun S => fld3 T hT1 rfl
  have a := ckw_ok T cs tb hT (S := S) (l := l) (w := w) (by omega) hw hm
  have e1 : hf1 T cs tb [some (hs (bd l k) rows), some (.str w), none, none] S = .ok (.nx [some (hs (bd l k) rows), some (.str w), none, none]) ((S.trim S.next).trim S.next) := by
    unfold hf1
    simp only [sExpr, sBind, iCall, iCons, M.bind, f2, iVar, lift, List.getD_cons_succ, List.getD_cons_zero, iNil, M.ret, List.length_cons, List.length_nil, if_true, a]
  obtain ⟨S1, e2, k2⟩ := lcL_kq (g := .t [2, 3]) (t := iYes) (ie := iOp eqD (iCall 2 dMarks (iCons (iVar 2) (iCons (iVar 1) iNil))) (iVar 3)) (ρ := [some (hs (bd l k) rows), some (.str w), none, none]) rowD (fun r => .bl (decide (marksL r.1 w = r.2))) rows ((S.trim S.next).trim S.next) (by
    intro r hr S2
    have hl : r.1.length = w.length := (h r hr).len.trans hw.symm
    obtain ⟨S3, e3, k3⟩ := marks_ok (S := S2) (g := r.1) (w := w) hl (by omega)
    refine ⟨[some (hs (bd l k) rows), some (.str w), some (.str r.1), some (.str r.2)], S3, rfl, rfl, ?_, k3⟩
    simp [sSeq, sSetI, sSetIN, sBind, iOp, M.bind, lift, iVar, iC, M.ret, sIf, iTst, isB, iCB, iCons, iNil, sRet, sNext, sAsg, sExpr, sPar, sPar3, iCall, iIf, iOr, iAnd, iNot, iNotV, iAndV, iOrV, M.no, iLstM, iLst, iTup, sAsgG, ngD, nsD, iSl, iPart, iNoPart, iBM, iCM, iYes, e3, eqD_str])
  refine ⟨S1.trim S.next, ?_, kq_trim ((kq_t2 S).trans k2)⟩
  have hl : (rows.map rowD).length < 100000 := by simp; omega
  have al : allD [.lst (rows.map fun r => .bl (decide (marksL r.1 w = r.2)))] S1 = some (.bl (fitsB rows w)) := allD_map
  have e3 : hf2 T [some (hs (bd l k) rows), some (.str w), none, none] ((S.trim S.next).trim S.next) = .ok (.rt (.bl (fitsB rows w))) S1 := by
    unfold hf2
    generalize hq : (iOp eqD (iCall 2 dMarks (iCons (iVar 2) (iCons (iVar 1) iNil))) (iVar 3)) = q at e2 ⊢
    simp only [sRet, sBind, iCB, iCons, iNil, iLc, iItems, f3, items, M.bind, M.ret, lift, hl, if_true, wipeR, List.set_cons_succ, List.set_cons_zero, e2, al]
  show defJ 4 false (isHFits T cs tb) _ S = _
  unfold defJ isHFits
  have e0 : startR 4 [hs (bd l k) rows, .str w] = [some (hs (bd l k) rows), some (.str w), none, none] := rfl
  rw [e0, sSeq_nx e1, e3]
  rfl
/-! ### the law's history; m: the method's number -/
def lh1 : IS := (sAsg 2 (iMakeV T true 1 1 (dHInit T cs tb) (iCons (iVar 0) iNil)))
def lh2b (m : Nat) : IS := (sAsg 2 (iMeth T 1 m 3 (dHThen T cs tb) (iVar 2) (iCons (iVar 3) (iCons (iVar 4) iNil))))
def lh2 (m : Nat) : IS := (sFor (iItems (iVar 1)) (.t [3, 4]) (lh2b T cs tb m))
def isLH (m : Nat) : IS := sSeq (lh1 T cs tb) (sSeq (lh2 T cs tb m) (sRet (iVar 2)))
def dLH (m : Nat) : List D → M D := defJ 5 false (isLH T cs tb m)
theorem lh_ok (hT : T.fs 0 = [0, 1]) (hT1 : T.fs 1 = [2, 3]) (hb : IsB cs tb) {m : Nat} (hm : 3 < m) {S : Store} {l : List Nat} {k : Nat} {rows : List (List Nat × List Nat)} (hk : k ≤ 1000) (hr : rows.length ≤ 20) (h : ∀ r ∈ rows, Row l k r) :
    ∃ S', dLH T cs tb m [bd l k, .lst (rows.map rowD)] S = .ok (hs (bd l k) rows) S' ∧ Kq S S' := by
  obtain ⟨S1, e1, k1⟩ := hmake_ok T cs tb hT hT1 hb (S := S) (l := l) (k := k) (rows := []) hk (by simp) (by simp)
  have e1' : lh1 T cs tb [some (bd l k), some (.lst (rows.map rowD)), none, none, none] S = .ok (.nx [some (bd l k), some (.lst (rows.map rowD)), some (hs (bd l k) []), none, none]) S1 := by
    have e : makeV T true 1 1 (dHInit T cs tb) [bd l k] S = .ok (hs (bd l k) []) S1 := e1
    unfold lh1
    simp [sSeq, sSetI, sSetIN, sBind, iOp, M.bind, lift, iVar, iC, M.ret, sIf, iTst, isB, iCB, iCons, iNil, sRet, sNext, sAsg, sExpr, sPar, sPar3, iCall, iIf, iOr, iAnd, iNot, iNotV, iAndV, iOrV, M.no, iLstM, iLst, iTup, sAsgG, ngD, nsD, iSl, iPart, iNoPart, iBM, iCM, iYes, iMakeV, e]
  have key := forL_inv (g := .t [3, 4]) (body := lh2b T cs tb m) (fun i ρ S' => (∃ a b, ρ = [some (bd l k), some (.lst (rows.map rowD)), some (hs (bd l k) (rows.take i)), a, b]) ∧ Kq S S') (rows.map rowD) 0 [some (bd l k), some (.lst (rows.map rowD)), some (hs (bd l k) []), none, none] S1 ⟨⟨none, none, by simp⟩, k1⟩ (by
    rintro j x ρ S2 hx ⟨⟨a, b, rfl⟩, q⟩
    rw [List.getElem?_map] at hx
    cases hj : rows[j]? with
    | none => rw [hj] at hx; cases hx
    | some r =>
      rw [hj] at hx
      cases hx
      obtain ⟨hjl, er⟩ := List.getElem?_eq_some_iff.mp hj
      rw [Nat.zero_add]
      obtain ⟨S3, e3, k3⟩ := hthen_ok T cs tb hT hT1 hb (S := S2) (l := l) (k := k) (rows := rows.take j) (r := r) hk (by rw [List.length_take]; omega) (fun x hx => h x (List.mem_of_mem_take hx)) (h r (List.mem_of_getElem? hj))
      have et : rows.take (j + 1) = rows.take j ++ [r] := by rw [List.take_succ_eq_append_getElem hjl, er]
      refine ⟨[some (bd l k), some (.lst (rows.map rowD)), some (hs (bd l k) (rows.take j)), some (.str r.1), some (.str r.2)], [some (bd l k), some (.lst (rows.map rowD)), some (hs (bd l k) (rows.take (j + 1))), some (.str r.1), some (.str r.2)], S3, rfl, ?_, ⟨_, _, rfl⟩, q.trans k3⟩
      have g0 : getF m [((2 : Nat), bd l k), (3, D.tup ((rows.take j).map rowD))] = none := by
        simp [getF, show ¬ 2 = m by omega, show ¬ 3 = m by omega]
      unfold lh2b
      simp only [sAsg, sBind, iMeth, M.bind, iVar, lift, List.getD_cons_succ, List.getD_cons_zero, ins_hs T hT1, g0, true_and, and_self, if_true, iCons, iNil, M.ret, List.length_cons, List.length_nil, e3, et, List.set_cons_succ, List.set_cons_zero])
  obtain ⟨ρ', S2, e2, ⟨a, b, rfl⟩, q⟩ := key
  rw [Nat.zero_add, List.length_map, List.take_of_length_le (Nat.le_refl _)] at e2
  have e2' : lh2 T cs tb m [some (bd l k), some (.lst (rows.map rowD)), some (hs (bd l k) []), none, none] S1 = .ok (.nx [some (bd l k), some (.lst (rows.map rowD)), some (hs (bd l k) rows), a, b]) S2 := by
    rw [← e2]
    simp [sSeq, sSetI, sSetIN, sBind, iOp, M.bind, lift, iVar, iC, M.ret, sIf, iTst, isB, iCB, iCons, iNil, sRet, sNext, sAsg, sExpr, sPar, sPar3, iCall, iIf, iOr, iAnd, iNot, iNotV, iAndV, iOrV, M.no, iLstM, iLst, iTup, sAsgG, ngD, nsD, iSl, iPart, iNoPart, iBM, iCM, iYes, lh2, sFor, iItems, items]
  refine ⟨S2.trim S.next, ?_, kq_trim q⟩
  show defJ 5 false (isLH T cs tb m) _ S = _
  unfold defJ isLH
  have e0 : startR 5 [bd l k, .lst (rows.map rowD)] = [some (bd l k), some (.lst (rows.map rowD)), none, none, none] := rfl
  rw [e0, sSeq_nx e1', sSeq_nx e2']
  rfl
/-! ### rows drawn -/
def rx1 : IS := (sAsg 8 (iCall 3 dWord (iCons (iVar 0) (iCons (iVar 1) (iCons (iVar 2) iNil)))))
def rx2 : IS := (sAsg 9 (iCall 2 dTold (iCons (iVar 8) (iCons (iVar 6) iNil))))
def rx3 (ct : List Nat) : IS := (sIf (iAnd (iNot (iTr T ct (iVar 4))) (iTst (iOp eqD (iCall 2 dDip (iCons (iVar 0) (iCons (iC (.int 3)) iNil))) (iC (.int 0))))) (sSeq (sAsg 10 (iCall 2 dDip (iCons (iVar 0) (iCons (iVar 2) iNil)))) (sAsg 9 (iOp addD (iOp addD (iSl slD (iVar 9) iNoPart (iPart (iVar 10))) (iCall 2 dOf (iCons (iVar 0) (iCons (iC (.str [48, 49, 50])) iNil)))) (iSl slD (iVar 9) (iPart (iOp addD (iVar 10) (iC (.int 1)))) iNoPart)))) sNext)
def rx4 : IS := (sExpr (iBM .l lstApp (iVar 7) (iCons (iTup (iCons (iVar 8) (iCons (iVar 9) iNil))) iNil)))
def rxb (ct : List Nat) : IS := sSeq rx1 (sSeq rx2 (sSeq (rx3 T ct) rx4))
def rw1 : IS := (sPar 6 7 (iCons (iCall 3 dWord (iCons (iVar 0) (iCons (iVar 1) (iCons (iVar 2) iNil)))) (iCons (iLstM iNil) iNil)))
def rw2 : IS := (sAsg 4 (iOp gtI (iCall 2 dDip (iCons (iVar 0) (iCons (iC (.int 3)) iNil))) (iC (.int 0))))
def rw3 (ct : List Nat) : IS := (sFor (iRange range1 (iCons (iCall 2 dDip (iCons (iVar 0) (iCons (iOp addD (iVar 3) (iC (.int 1))) iNil))) iNil)) (.n 5) (rxb T ct))
def isRows (ct : List Nat) : IS := sSeq rw1 (sSeq rw2 (sSeq (rw3 T ct) (sSeq (sFrz 7) (sRet (iVar 7)))))
def dRows (ct : List Nat) : List D → M D := defJ 11 false (isRows T ct)
theorem tr_bl {ct : List Nat} {i : Nat} {ρ : Rho} {S : Store} {b : Bool} (h : ρ.getD i none = some (.bl b)) : iTr T ct (iVar i) ρ S = .ok b S := by
  simp only [iTr, iVar, h, M.bind, lift, truO, insOf, truD]
theorem rx3_ok {ct : List Nat} {S : Store} {n k : Nat} {l hid w t : List Nat} {most hon x5 f : D} {b : Bool} {a10 : Option D} (hb : Bw S n) (hon_ : hon = .bl b) (hk1 : 1 ≤ k) (hk : k ≤ 500) (ht : t.length = k) (hm : ∀ c ∈ t, c = 48 ∨ c = 49 ∨ c = 50) :
    ∃ t' a S', rx3 T ct [some (.ref n), some (.str l), some (.int (k : Int)), some most, some hon, some x5, some (.str hid), some f, some (.str w), some (.str t), a10] S = .ok (.nx [some (.ref n), some (.str l), some (.int (k : Int)), some most, some hon, some x5, some (.str hid), some f, some (.str w), some (.str t'), a]) S' ∧
      t'.length = k ∧ (∀ c ∈ t', c = 48 ∨ c = 49 ∨ c = 50) ∧ Bw S' n ∧ Kp n S S' := by
  subst hon_
  have tr : iTr T ct (iVar 4) [some (.ref n), some (.str l), some (.int (k : Int)), some most, some (.bl b), some x5, some (.str hid), some f, some (.str w), some (.str t), a10] S = .ok b S := tr_bl T rfl
  cases b with
  | true =>
    refine ⟨t, a10, S, ?_, ht, hm, hb, Kp.refl n S⟩
    unfold rx3
    simp only [sIf, sBind, iAnd, iNot, M.bind, tr, M.ret, Bool.not_true, Bool.false_eq_true, if_false, sNext]
  | false =>
    obtain ⟨r, S1, d1, r0, r1, b1, k1⟩ := dip_ok (k := 3) hb (by omega) (by omega)
    by_cases hr : r = 0
    · subst hr
      obtain ⟨q, S2, d2, q0, q1, b2, k2⟩ := dip_ok (k := (k : Int)) b1 (by omega) (by omega)
      obtain ⟨q, rfl⟩ := Int.eq_ofNat_of_zero_le q0
      obtain ⟨c, S3, d3, hc, b3, k3⟩ := of_str (l := [48, 49, 50]) b2 (by decide) (by decide)
      have hq : q < k := by omega
      have t1 : t.length ≤ 100000 := by omega
      have e1 : (t.take q).length + [c].length ≤ 100000 := by simp; omega
      have e2 : (t.take q ++ [c]).length + (t.drop (q + 1)).length ≤ 100000 := by simp; omega
      refine ⟨t.take q ++ [c] ++ t.drop (q + 1), some (.int (q : Int)), S3, ?_, by simp; omega, ?_, b3, (k1.trans k2).trans k3⟩
      · unfold rx3
        have z1 : (sAsg 10 (iCall 2 dDip (iCons (iVar 0) (iCons (iVar 2) iNil)))) [some (.ref n), some (.str l), some (.int (k : Int)), some most, some (.bl false), some x5, some (.str hid), some f, some (.str w), some (.str t), a10] S1 = .ok (.nx [some (.ref n), some (.str l), some (.int (k : Int)), some most, some (.bl false), some x5, some (.str hid), some f, some (.str w), some (.str t), some (.int (q : Int))]) S2 := by
          simp [sSeq, sSetI, sSetIN, sBind, iOp, M.bind, lift, iVar, iC, M.ret, sIf, iTst, isB, iCB, iCons, iNil, sRet, sNext, sAsg, sExpr, sPar, sPar3, iCall, iIf, iOr, iAnd, iNot, iNotV, iAndV, iOrV, M.no, iLstM, iLst, iTup, sAsgG, ngD, nsD, iSl, iPart, iNoPart, iBM, iCM, iYes, d2]
        have cd : cutD t (some ((q : Int) + 1)) none = t.drop (q + 1) := by
          have := cut_drop t (q + 1)
          rw [← this]
          congr 2
        simp only [sIf, sBind, iAnd, iNot, M.bind, tr, M.ret, Bool.not_false, if_true, iTst, iOp, iCall, iCons, iVar, lift, List.getD_cons_succ, List.getD_cons_zero, iC, iNil, List.length_cons, List.length_nil, d1, eqD_int, isB, decide_true]
        rw [sSeq_nx z1]
        simp only [sAsg, sBind, iOp, iSl, M.bind, iVar, lift, List.getD_cons_succ, List.getD_cons_zero, iNoPart, iPart, M.ret, slD_str t1, cut_take, iCall, iCons, iC, iNil, List.length_cons, List.length_nil, if_true, d3, addD_str e1, addD_int, cd, addD_str e2, List.set_cons_succ, List.set_cons_zero]
      · intro x hx
        rcases List.mem_append.mp hx with z | z
        · rcases List.mem_append.mp z with y | y
          · exact hm x (List.mem_of_mem_take y)
          · rw [List.mem_singleton.mp y]
            simpa using hc
        · exact hm x (List.mem_of_mem_drop z)
    · refine ⟨t, a10, S1, ?_, ht, hm, b1, k1⟩
      unfold rx3
      simp only [sIf, sBind, iAnd, iNot, M.bind, tr, M.ret, Bool.not_false, if_true, iTst, iOp, iCall, iCons, iVar, lift, List.getD_cons_succ, List.getD_cons_zero, iC, iNil, List.length_cons, List.length_nil, d1, eqD_int, isB, hr, decide_false, Bool.false_eq_true, if_false, sNext]
structure RwI (n f : Nat) (S0 S : Store) (l : List Nat) (k i : Nat) (rows : List (List Nat × List Nat)) : Prop where
  bw : Bw S n
  ne : f ≠ n
  lt : f < S.next
  old : S0.next ≤ f
  nx : S0.next ≤ S.next
  kp : ∀ m, m < S0.next → m ≠ n → S.get m = S0.get m
  fd : S.get f = some (.lst (rows.map rowD))
  len : rows.length ≤ i
  row : ∀ r ∈ rows, Row l k r
theorem RwI.kp2 {n f : Nat} {S0 S S' : Store} {l : List Nat} {k i : Nat} {rows : List (List Nat × List Nat)} (h : RwI n f S0 S l k i rows) (b : Bw S' n) (q : Kp n S S') : RwI n f S0 S' l k i rows :=
  ⟨b, h.ne, Nat.lt_of_lt_of_le h.lt q.next, h.old, Nat.le_trans h.nx q.next, fun m hm hn => (q.get m (Nat.lt_of_lt_of_le hm h.nx) hn).trans (h.kp m hm hn), (q.get f h.lt h.ne).trans h.fd, h.len, h.row⟩
theorem rxb_ok {ct : List Nat} {S0 S : Store} {n f k i : Nat} {l hid : List Nat} {most x5 : D} {b : Bool} {a8 a9 a10 : Option D} {rows : List (List Nat × List Nat)} (h : RwI n f S0 S l k i rows) (hl : 0 < l.length) (hl2 : l.length ≤ 500) (hk1 : 1 ≤ k) (hk : k ≤ 500) (hh : hid.length = k) (hi : i ≤ 1000) :
    ∃ c8 c9 c10 S' r, rxb T ct [some (.ref n), some (.str l), some (.int (k : Int)), some most, some (.bl b), some x5, some (.str hid), some (.ref f), a8, a9, a10] S = .ok (.nx [some (.ref n), some (.str l), some (.int (k : Int)), some most, some (.bl b), some x5, some (.str hid), some (.ref f), c8, c9, c10]) S' ∧ RwI n f S0 S' l k (i + 1) (rows ++ [r]) := by
  obtain ⟨w, S1, d1, w1, w2, b1, k1⟩ := word_ok (k := k) h.bw hl hl2 hk
  obtain ⟨S2, d2, k2⟩ := told_ok (S := S1) (g := w) (w := hid) (w1.trans hh.symm) (by omega)
  have b2 := b1.kq k2
  obtain ⟨t, a, S3, d3, t1, t2, b3, k3⟩ := rx3_ok T (ct := ct) (S := S2) (n := n) (k := k) (l := l) (hid := hid) (w := w) (t := marksL w hid) (most := most) (hon := .bl b) (x5 := x5) (f := .ref f) (a10 := a10) b2 rfl hk1 hk (by rw [marksL_len]; exact w1) marksL_mem
  have h3 := h.kp2 b3 ((k1.trans k2.kp).trans k3)
  have hr : Row l k (w, t) := ⟨w1, w2, t1, t2⟩
  have e1 : rx1 [some (.ref n), some (.str l), some (.int (k : Int)), some most, some (.bl b), some x5, some (.str hid), some (.ref f), a8, a9, a10] S = .ok (.nx [some (.ref n), some (.str l), some (.int (k : Int)), some most, some (.bl b), some x5, some (.str hid), some (.ref f), some (.str w), a9, a10]) S1 := by
    simp [sSeq, sSetI, sSetIN, sBind, iOp, M.bind, lift, iVar, iC, M.ret, sIf, iTst, isB, iCB, iCons, iNil, sRet, sNext, sAsg, sExpr, sPar, sPar3, iCall, iIf, iOr, iAnd, iNot, iNotV, iAndV, iOrV, M.no, iLstM, iLst, iTup, sAsgG, ngD, nsD, iSl, iPart, iNoPart, iBM, iCM, iYes, rx1, d1]
  have e2 : rx2 [some (.ref n), some (.str l), some (.int (k : Int)), some most, some (.bl b), some x5, some (.str hid), some (.ref f), some (.str w), a9, a10] S1 = .ok (.nx [some (.ref n), some (.str l), some (.int (k : Int)), some most, some (.bl b), some x5, some (.str hid), some (.ref f), some (.str w), some (.str (marksL w hid)), a10]) S2 := by
    simp [sSeq, sSetI, sSetIN, sBind, iOp, M.bind, lift, iVar, iC, M.ret, sIf, iTst, isB, iCB, iCons, iNil, sRet, sNext, sAsg, sExpr, sPar, sPar3, iCall, iIf, iOr, iAnd, iNot, iNotV, iAndV, iOrV, M.no, iLstM, iLst, iTup, sAsgG, ngD, nsD, iSl, iPart, iNoPart, iBM, iCM, iYes, rx2, d2]
  have hlen : (rows.map rowD).length < 100000 := by have := h.len; simp; omega
  have e4 : rx4 [some (.ref n), some (.str l), some (.int (k : Int)), some most, some (.bl b), some x5, some (.str hid), some (.ref f), some (.str w), some (.str t), a] S3 = .ok (.nx [some (.ref n), some (.str l), some (.int (k : Int)), some most, some (.bl b), some x5, some (.str hid), some (.ref f), some (.str w), some (.str t), a]) (S3.set f (.lst (rows.map rowD ++ [.tup [.str w, .str t]]))) := by
    have kk : kindIs .l (.ref f) S3 = true := by simp [kindIs, h3.fd]
    have t2 : 0 + 1 + 1 ≤ 100000 := by decide
    unfold rx4
    simp only [sExpr, sBind, iBM, M.bind, iVar, lift, List.getD_cons_succ, List.getD_cons_zero, kk, if_true, iCons, iTup, iNil, M.ret, List.length_cons, List.length_nil, if_pos t2, lstApp_get h3.fd hlen]
  refine ⟨some (.str w), some (.str t), a, S3.set f (.lst (rows.map rowD ++ [.tup [.str w, .str t]])), (w, t), ?_, ?_⟩
  · unfold rxb
    rw [sSeq_nx e1, sSeq_nx e2, sSeq_nx d3, e4]
  · obtain ⟨a', b', c', q⟩ := h3.bw.2
    refine ⟨⟨h3.bw.1, a', b', c', by rw [Store.get_set_ne _ _ (Ne.symm h3.ne)]; exact q⟩, h3.ne, h3.lt, h3.old, h3.nx, fun m hm hn => ?_, by simp [rowD], by simp; exact h3.len, fun x hx => ?_⟩
    · rw [Store.get_set_ne _ _ (Nat.ne_of_lt (Nat.lt_of_lt_of_le hm h3.old))]
      exact h3.kp m hm hn
    · rcases List.mem_append.mp hx with z | z
      · exact h3.row x z
      · exact List.mem_singleton.mp z ▸ hr
theorem rows_ok {ct : List Nat} {S : Store} {n k most : Nat} {l : List Nat} (b : Bw S n) (hl : 0 < l.length) (hl2 : l.length ≤ 500) (hk1 : 1 ≤ k) (hk : k ≤ 500) (hm : most ≤ 500) :
    ∃ (rows : List (List Nat × List Nat)) (S' : Store), dRows T ct [.ref n, .str l, .int (k : Int), .int (most : Int)] S = .ok (.lst (rows.map rowD)) S' ∧ rows.length ≤ most ∧ (∀ r ∈ rows, Row l k r) ∧ Bw S' n ∧ Kp n S S' := by
  have hn := b.1
  obtain ⟨hid, S1, d1, h1, _, b1, k1⟩ := word_ok (k := k) b hl hl2 hk
  have e1 : rw1 [some (.ref n), some (.str l), some (.int (k : Int)), some (.int (most : Int)), none, none, none, none, none, none, none] S = .ok (.nx [some (.ref n), some (.str l), some (.int (k : Int)), some (.int (most : Int)), none, none, some (.str hid), some (.ref S1.next), none, none, none]) (S1.alloc (.lst [])) := by
    simp [sSeq, sSetI, sSetIN, sBind, iOp, M.bind, lift, iVar, iC, M.ret, sIf, iTst, isB, iCB, iCons, iNil, sRet, sNext, sAsg, sExpr, sPar, sPar3, iCall, iIf, iOr, iAnd, iNot, iNotV, iAndV, iOrV, M.no, iLstM, iLst, iTup, sAsgG, ngD, nsD, iSl, iPart, iNoPart, iBM, iCM, iYes, rw1, d1]
  have b1' : Bw (S1.alloc (.lst [])) n := b1.kq kq_alloc
  obtain ⟨r, S2, d2, r0, r1, b2, k2⟩ := dip_ok (k := 3) b1' (by omega) (by omega)
  have e2 : rw2 [some (.ref n), some (.str l), some (.int (k : Int)), some (.int (most : Int)), none, none, some (.str hid), some (.ref S1.next), none, none, none] (S1.alloc (.lst [])) = .ok (.nx [some (.ref n), some (.str l), some (.int (k : Int)), some (.int (most : Int)), some (.bl (decide (0 < r))), none, some (.str hid), some (.ref S1.next), none, none, none]) S2 := by
    simp [sSeq, sSetI, sSetIN, sBind, iOp, M.bind, lift, iVar, iC, M.ret, sIf, iTst, isB, iCB, iCons, iNil, sRet, sNext, sAsg, sExpr, sPar, sPar3, iCall, iIf, iOr, iAnd, iNot, iNotV, iAndV, iOrV, M.no, iLstM, iLst, iTup, sAsgG, ngD, nsD, iSl, iPart, iNoPart, iBM, iCM, iYes, rw2, d2, gtI_int]
  obtain ⟨q, S3, d3, q0, q1, b3, k3⟩ := dip_ok (k := (most : Int) + 1) b2 (by omega) (by omega)
  obtain ⟨q, rfl⟩ := Int.eq_ofNat_of_zero_le q0
  have hnf : S1.next ≠ n := by have := b1.1; omega
  have i0 : RwI n S1.next S S3 l k 0 [] := by
    have kk : Kp n (S1.alloc (.lst [])) S3 := k2.trans k3
    have lt1 : S1.next < (S1.alloc (.lst [])).next := by simp
    refine ⟨b3, hnf, Nat.lt_of_lt_of_le lt1 kk.next, k1.next, ?_, fun m hm hmn => ?_, ?_, by simp, by simp⟩
    · exact Nat.le_trans (Nat.le_trans k1.next (Nat.le_of_lt lt1)) kk.next
    · rw [kk.get m (Nat.lt_of_lt_of_le hm (Nat.le_trans k1.next (Nat.le_of_lt lt1))) hmn, S1.get_alloc_ne _ (by have := k1.next; omega)]
      exact k1.get m hm hmn
    · rw [kk.get _ lt1 hnf]
      simp
  have key := forL_inv (g := .n 5) (body := rxb T ct) (fun i ρ S' => (∃ a5 a8 a9 a10, ρ = [some (.ref n), some (.str l), some (.int (k : Int)), some (.int (most : Int)), some (.bl (decide (0 < r))), a5, some (.str hid), some (.ref S1.next), a8, a9, a10]) ∧ (i ≤ q → ∃ rows, RwI n S1.next S S' l k i rows)) (rng 0 q) 0
    [some (.ref n), some (.str l), some (.int (k : Int)), some (.int (most : Int)), some (.bl (decide (0 < r))), none, some (.str hid), some (.ref S1.next), none, none, none] S3 ⟨⟨none, none, none, none, rfl⟩, fun _ => ⟨[], i0⟩⟩ (by
    rintro j x ρ S4 hx ⟨⟨a5, a8, a9, a10, rfl⟩, hI⟩
    obtain ⟨hj, rfl⟩ := rng_get hx
    rw [Nat.zero_add] at hI ⊢
    obtain ⟨rows, I⟩ := hI (by omega)
    obtain ⟨c8, c9, c10, S5, r', t1, I'⟩ := rxb_ok T (ct := ct) (most := .int (most : Int)) (x5 := .int (j : Int)) (b := decide (0 < r)) (a8 := a8) (a9 := a9) (a10 := a10) I hl hl2 hk1 hk h1 (by omega)
    exact ⟨[some (.ref n), some (.str l), some (.int (k : Int)), some (.int (most : Int)), some (.bl (decide (0 < r))), some (.int (j : Int)), some (.str hid), some (.ref S1.next), a8, a9, a10], _, S5, rfl, t1, ⟨_, _, _, _, rfl⟩, fun _ => ⟨_, I'⟩⟩)
  obtain ⟨ρ', S6, e3, ⟨a5, a8, a9, a10, rfl⟩, hI⟩ := key
  rw [Nat.zero_add, rng_len] at hI
  obtain ⟨rows, I⟩ := hI (Nat.le_refl _)
  have e3' : rw3 T ct [some (.ref n), some (.str l), some (.int (k : Int)), some (.int (most : Int)), some (.bl (decide (0 < r))), none, some (.str hid), some (.ref S1.next), none, none, none] S2 = .ok (.nx [some (.ref n), some (.str l), some (.int (k : Int)), some (.int (most : Int)), some (.bl (decide (0 < r))), a5, some (.str hid), some (.ref S1.next), a8, a9, a10]) S6 := by
    rw [← e3]
    simp [sSeq, sSetI, sSetIN, sBind, iOp, M.bind, lift, iVar, iC, M.ret, sIf, iTst, isB, iCB, iCons, iNil, sRet, sNext, sAsg, sExpr, sPar, sPar3, iCall, iIf, iOr, iAnd, iNot, iNotV, iAndV, iOrV, M.no, iLstM, iLst, iTup, sAsgG, ngD, nsD, iSl, iPart, iNoPart, iBM, iCM, iYes, rw3, sFor, iRange, addD_int, d3, range1_nat (show q ≤ 1000 by omega)]
  have e4 : sFrz 7 [some (.ref n), some (.str l), some (.int (k : Int)), some (.int (most : Int)), some (.bl (decide (0 < r))), a5, some (.str hid), some (.ref S1.next), a8, a9, a10] S6 = .ok (.nx [some (.ref n), some (.str l), some (.int (k : Int)), some (.int (most : Int)), some (.bl (decide (0 < r))), a5, some (.str hid), some (.lst (rows.map rowD)), a8, a9, a10]) (S6.del S1.next) := frz_lst rfl I.fd
  refine ⟨rows, (S6.del S1.next).trim S.next, ?_, by have := I.len; omega, I.row, ?_, ?_⟩
  · show defJ 11 false (isRows T ct) _ S = _
    unfold defJ isRows
    have e0 : startR 11 [.ref n, .str l, .int (k : Int), .int (most : Int)] = [some (.ref n), some (.str l), some (.int (k : Int)), some (.int (most : Int)), none, none, none, none, none, none, none] := rfl
    rw [e0, sSeq_nx e1, sSeq_nx e2, sSeq_nx e3', sSeq_nx e4]
    rfl
  · refine bw_trim ⟨I.bw.1, ?_⟩ hn
    rw [Store.get_del, if_neg (Ne.symm I.ne)]
    exact I.bw.2
  · refine kp_trim ⟨I.nx, fun m hm hmn => ?_⟩
    rw [Store.get_del, if_neg (Nat.ne_of_lt (Nat.lt_of_lt_of_le hm I.old))]
    exact I.kp m hm hmn
end
end J

set_option Elab.async false
set_option linter.all false
set_option maxRecDepth 100000
set_option maxHeartbeats 1010000
/-! PM: plain laws: a law over its bowls -/
namespace J
theorem bools_of {v : Bool} : ∀ rs : List D, (∀ (j : Nat) (d : D), rs[j]? = some d → d = D.bl v) → boolsOf rs = some (rs.map fun _ => v)
  | [], _ => rfl
  | x :: rs, h => by
    have e : x = .bl v := h 0 x rfl
    subst e
    simp [boolsOf, bools_of rs fun j d hj => h (j + 1) d (by simpa using hj)]
def isLaw (M_ : Nat) (dR : List D → M D) : IS := (sRet (iCB allD (iCons (iLc (iRange range1 (iCons (iCB max2 (iCons (iC (.int 2)) (iCons (iCB min2 (iCons (iCB lenD (iCons (iVar 0) iNil)) (iCons (iC (.int (M_ : Int))) iNil))) iNil))) iNil)) (.n 1) iYes (iCall 1 dR (iCons (iCall 2 dBowl (iCons (iVar 0) (iCons (iVar 1) iNil))) iNil)) [1]) iNil)))
def dLaw (M_ : Nat) (dR : List D → M D) : List D → M D := defJ 2 false (isLaw M_ dR)
theorem law_gen (M_ : Nat) (h2 : 2 ≤ M_) (hM : M_ ≤ 50) {dR : List D → M D} (right_ok : ∀ {n : Nat} {S : Store}, Bw S n → ∃ S', dR [.ref n] S = .ok (.bl true) S') (ns : List Int) (h : ns.length ≤ 63) : ∃ S', dLaw M_ dR [.scr (ns.map D.int)] ⟨[], 0⟩ = .ok (.bl true) S' := by
  have rg : ∃ m : Nat, m ≤ 50 ∧ iRange range1 (iCons (iCB max2 (iCons (iC (.int 2)) (iCons (iCB min2 (iCons (iCB lenD (iCons (iVar 0) iNil)) (iCons (iC (.int (M_ : Int))) iNil))) iNil))) iNil) [some (.scr (ns.map D.int)), none] ⟨[], 0⟩ = .ok (rng 0 m) ⟨[], 0⟩ := by
    have ln : lenD [.scr (ns.map D.int)] ⟨[], 0⟩ = some (.int (ns.length : Int)) := by simp [lenD, seqA, seqR]
    have mn : min2 [.int (ns.length : Int), .int (M_ : Int)] ⟨[], 0⟩ = some (.int (if (M_ : Int) < ns.length then (M_ : Int) else ns.length)) := rfl
    have mx : ∀ a : Int, max2 [.int 2, .int a] ⟨[], 0⟩ = some (.int (if a > 2 then a else 2)) := fun a => rfl
    refine ⟨((if (if (M_ : Int) < ns.length then (M_ : Int) else (ns.length : Int)) > 2 then (if (M_ : Int) < ns.length then (M_ : Int) else (ns.length : Int)) else 2)).toNat, ?_, ?_⟩
    · split <;> split <;> omega
    · have z : -100000 ≤ (if (if (M_ : Int) < ns.length then (M_ : Int) else (ns.length : Int)) > 2 then (if (M_ : Int) < ns.length then (M_ : Int) else (ns.length : Int)) else 2) ∧ (if (if (M_ : Int) < ns.length then (M_ : Int) else (ns.length : Int)) > 2 then (if (M_ : Int) < ns.length then (M_ : Int) else (ns.length : Int)) else 2) ≤ 100000 := by
        constructor <;> split <;> split <;> omega
      simp only [sSeq, sSetI, sSetIN, sBind, iOp, M.bind, lift, iVar, iC, M.ret, sIf, iTst, isB, iCB, iCons, iNil, sRet, sNext, sAsg, sExpr, sPar, sPar3, iCall, iIf, iOr, iAnd, iNot, iNotV, iAndV, iOrV, M.no, iLstM, iLst, iTup, sAsgG, ngD, nsD, iSl, iPart, iNoPart, iBM, iCM, iYes, iRange, List.getD_cons_zero, ln, mn, mx, range1]
      rw [if_pos z]
  obtain ⟨m, hm, rg⟩ := rg
  have key := lcL_inv (g := .n 1) (t := iYes) (ie := iCall 1 dR (iCons (iCall 2 dBowl (iCons (iVar 0) (iCons (iVar 1) iNil))) iNil)) (ρ := [some (.scr (ns.map D.int)), none]) (fun _ _ => True) (fun _ d => d = .bl true) (rng 0 m) 0 ⟨[], 0⟩ trivial (by
    intro j x S1 hx _
    obtain ⟨hj, hx⟩ := List.getElem?_eq_some_iff.mp hx
    have ex : x = .int ((j : Nat) : Int) := by
      rw [← hx]
      simp [rng]
    subst ex
    obtain ⟨S2, e2, b2, _⟩ := bowl_ok (S := S1) (ns := ns) (k := j)
    obtain ⟨S3, e3⟩ := right_ok b2
    refine ⟨[some (.scr (ns.map D.int)), some (.int (j : Nat))], .bl true, S1, S3, rfl, rfl, ?_, rfl, trivial⟩
    simp [sSeq, sSetI, sSetIN, sBind, iOp, M.bind, lift, iVar, iC, M.ret, sIf, iTst, isB, iCB, iCons, iNil, sRet, sNext, sAsg, sExpr, sPar, sPar3, iCall, iIf, iOr, iAnd, iNot, iNotV, iAndV, iOrV, M.no, iLstM, iLst, iTup, sAsgG, ngD, nsD, iSl, iPart, iNoPart, iBM, iCM, iYes, e2, e3])
  obtain ⟨rs, S', e, ll, p, _⟩ := key
  have bo := bools_of rs (fun j d hj => p j d hj)
  have al : allD [.lst rs] S' = some (.bl true) := by simp [allD, seqR, seqL, bo]
  have ml : (rng 0 m).length < 100000 := by simp [rng]; omega
  refine ⟨S'.trim 0, ?_⟩
  show defJ 2 false (isLaw M_ dR) _ _ = _
  unfold defJ isLaw
  have e0 : startR 2 [.scr (ns.map D.int)] = [some (.scr (ns.map D.int)), none] := rfl
  have w0 : wipeR [some (.scr (ns.map D.int)), none] [1] = [some (.scr (ns.map D.int)), none] := rfl
  rw [e0]
  simp only [sRet, sBind, iCB, iCons, iNil, iLc, M.bind, rg, ml, if_true, w0, e, M.ret, lift, al]
  rfl
end J

set_option Elab.async false
set_option linter.all false
set_option maxRecDepth 100000
set_option maxHeartbeats 1010000
/-! PN: plain laws: repr of data is answered; rows compared -/
namespace J
open PySem (PyData Str)
open PySem.PyData (showable showableAll depth depthAll shown shownAll)
/-- data of depth at most k whose text has at most B signs -/
def Rp (k B : Nat) (d : D) : Prop := ∃ p, toPz d = some p ∧ showable p = true ∧ depth p ≤ k ∧ (shown p).length ≤ B
theorem Rp.up {k k' B B' : Nat} {d : D} (h : Rp k B d) (hk : k ≤ k') (hB : B ≤ B') : Rp k' B' d := by
  obtain ⟨p, e, h1, h3, h4⟩ := h
  exact ⟨p, e, h1, Nat.le_trans h3 hk, Nat.le_trans h4 hB⟩
theorem Rp.bl (b : Bool) : Rp 0 5 (.bl b) := ⟨.bool b, rfl, rfl, Nat.le_refl _, by cases b <;> decide⟩
theorem Rp.non : Rp 0 5 .non := ⟨.none, rfl, rfl, Nat.le_refl _, by decide⟩
theorem Rp.nat {n : Nat} (h : n ≤ 100) : Rp 0 5 (.int (n : Int)) := by
  have all : ∀ m : Nat, m ≤ 100 → (shown (.int (m : Int))).length ≤ 5 ∧ showable (.int (m : Int)) = true := by decide +kernel
  obtain ⟨h1, h2⟩ := all n h
  exact ⟨.int n, rfl, h2, Nat.le_refl _, h1⟩
theorem Rp.str {l : List Nat} (h : ∀ c ∈ l, c < 1114112) : Rp 0 (10 * l.length + 2) (.str l) := by
  refine ⟨.str ⟨l.toArray⟩, rfl, rfl, Nat.le_refl _, ?_⟩
  have e : (⟨l.toArray⟩ : Str).length = l.length := str_len l
  have z := PySem.StrLaws.reprText_len ⟨l.toArray⟩ (fun c hc => Nat.lt_of_lt_of_le (h c (by simpa using hc)) (by decide))
  rw [e] at z
  exact z
open PyProof.Rows in
theorem Rp.all {k B : Nat} : ∀ {ds : List D}, (∀ d ∈ ds, Rp k B d) → ∃ ps, toPzs ds = some ps ∧ showableAll ps = true ∧ depthAll ps ≤ k ∧ PySem.piled (shownAll ps) ≤ (B + 2) * ds.length ∧ ps.length = ds.length
  | [], _ => ⟨[], rfl, rfl, Nat.zero_le _, by simp [shownAll, PySem.piled], rfl⟩
  | d :: ds, h => by
    obtain ⟨p, e, h1, h3, h4⟩ := h d (List.mem_cons_self ..)
    obtain ⟨ps, f, g1, g3, g4, g5⟩ := Rp.all (k := k) (B := B) (ds := ds) fun x hx => h x (List.mem_cons_of_mem _ hx)
    refine ⟨p :: ps, by simp [toPzs, e, f], by simp [showableAll, h1, g1], by simp only [depthAll]; omega, ?_, by simp [g5]⟩
    rw [shownAll, PySem.piled_cons, List.length_cons, Nat.mul_add]
    omega
theorem lt_len (a b : Str) : (a ++ b).length = a.length + b.length := PySem.strLen_append a b
theorem listText_le : ∀ ts : List Str, (PySem.listText ts).length ≤ PySem.piled ts + 2
  | [] => by decide
  | t :: r => by
    have h := PySem.textFrom_length_pos r 1 (("[" : Str) ++ (if (0 : Nat) > 0 then ", " else "" : String) ++ t) (Nat.succ_pos 0)
    have e : (PySem.listText (t :: r)).length = (PySem.textFrom 1 (("[" : Str) ++ (if (0 : Nat) > 0 then ", " else "" : String) ++ t) r).length + 1 := by
      unfold PySem.listText
      rw [lt_len]
      rfl
    rw [e, h, lt_len, lt_len, PySem.piled_cons]
    have e1 : (("[" : String) : Str).length = 1 := rfl
    have e2 : (((if (0 : Nat) > 0 then ", " else "" : String)) : Str).length = 0 := rfl
    omega
theorem tupleText_le (ts : List Str) : (PySem.tupleText ts).length ≤ PySem.piled ts + 3 := by
  have j : (Str.join ", " ts).length ≤ PySem.piled ts := by
    cases ts with
    | nil => decide
    | cons t r =>
      have := PySem.join_length_add (t :: r) (by simp)
      omega
  unfold PySem.tupleText
  rw [lt_len, lt_len]
  have e1 : (("(" : String) : Str).length = 1 := rfl
  have e2 : (((if (ts.length == 1) = true then ",)" else ")" : String)) : Str).length ≤ 2 := by
    split <;> decide
  omega
theorem Rp.lst {k B n : Nat} {ds : List D} (h : ∀ d ∈ ds, Rp k B d) (hn : ds.length ≤ n) : Rp (k + 1) ((B + 2) * n + 3) (.lst ds) := by
  obtain ⟨ps, f, g1, g3, g4, _⟩ := Rp.all h
  have m : (B + 2) * ds.length ≤ (B + 2) * n := Nat.mul_le_mul_left _ hn
  refine ⟨.list ps, by simp [toPz, f], by simpa [showable] using g1, by simp only [depth]; omega, ?_⟩
  have z := listText_le (shownAll ps)
  rw [shown]
  omega
theorem Rp.tup {k B n : Nat} {ds : List D} (h : ∀ d ∈ ds, Rp k B d) (hn : ds.length ≤ n) : Rp (k + 1) ((B + 2) * n + 3) (.tup ds) := by
  obtain ⟨ps, f, g1, g3, g4, _⟩ := Rp.all h
  have m : (B + 2) * ds.length ≤ (B + 2) * n := Nat.mul_le_mul_left _ hn
  refine ⟨.tuple ps, by simp [toPz, f], by simpa [showable] using g1, by simp only [depth]; omega, ?_⟩
  have z := tupleText_le (shownAll ps)
  rw [shown]
  omega
theorem rep_of {k B : Nat} {d : D} {S : Store} (h : Rp k B d) (hk : k ≤ 64) (hB : B ≤ 100000) : ∃ t, reprD [d] S = some (.str t) := by
  obtain ⟨p, e, h1, h3, h4⟩ := h
  have dr : deref d S = d := by
    cases d <;> first | rfl | (simp [toPz] at e)
  have c1 : decide (depth p ≤ 64) = true := decide_eq_true (by omega)
  have c2 : decide ((shown p).length ≤ 100000) = true := decide_eq_true (by omega)
  exact ⟨(shown p).cps.toList, by simp only [reprD, repOf, dr, e, h1, c1, c2, Bool.and_self, if_true, Option.map_some]⟩
/-! ### rows -/
structure Cp (r : List Nat × List Nat) : Prop where
  a : ∀ c ∈ r.1, c < 1114112
  b : ∀ c ∈ r.2, c < 1114112
theorem Row.cp {l : List Nat} {k : Nat} {r : List Nat × List Nat} (h : Row l k r) (hl : ∀ c ∈ l, c < 1000) : Cp r := ⟨fun c hc => Nat.lt_of_lt_of_le (hl c (h.mem c hc)) (by decide), fun c hc => by rcases h.mks c hc with z | z | z <;> omega⟩
theorem Rp.row {r : List Nat × List Nat} {n : Nat} (h : Cp r) (h1 : r.1.length ≤ n) (h2 : r.2.length ≤ n) : Rp 1 ((10 * n + 4) * 2 + 3) (rowD r) := by
  refine Rp.tup (B := 10 * n + 2) (n := 2) (fun d hd => ?_) (by simp)
  simp only [List.mem_cons, List.not_mem_nil, or_false] at hd
  rcases hd with rfl | rfl
  · exact (Rp.str h.a).up (Nat.le_refl _) (by omega)
  · exact (Rp.str h.b).up (Nat.le_refl _) (by omega)
def rowP (r : List Nat × List Nat) : PyData := .tuple [.str ⟨r.1.toArray⟩, .str ⟨r.2.toArray⟩]
theorem toPys_rows : ∀ rows : List (List Nat × List Nat), toPys (rows.map rowD) = some (rows.map rowP)
  | [] => rfl
  | r :: rs => by simp [toPys, toPy, rowD, rowP, toPys_rows rs]
theorem eqv_row (r q : List Nat × List Nat) : PyData.eqv (rowP r) (rowP q) = decide (r = q) := by
  have h : ∀ a b : List Nat, ((⟨a.toArray⟩ : Str) == ⟨b.toArray⟩) = decide (a = b) := fun a b => by
    by_cases e : a = b
    · subst e; simp
    · rw [decide_eq_false e]
      exact beq_eq_false_iff_ne.mpr fun z => e (str_inj.mp z)
  obtain ⟨r1, r2⟩ := r
  obtain ⟨q1, q2⟩ := q
  simp only [rowP, PyData.eqv, PyData.eqvAll, h, Bool.and_true, Prod.mk.injEq]
  by_cases e1 : r1 = q1 <;> by_cases e2 : r2 = q2 <;> simp [e1, e2]
theorem eqv_rows : ∀ a b : List (List Nat × List Nat), PyData.eqvAll (a.map rowP) (b.map rowP) = decide (a = b)
  | [], [] => rfl
  | [], y :: b => (decide_eq_false (show ¬ [] = y :: b by simp)).symm
  | x :: a, [] => (decide_eq_false (show ¬ x :: a = [] by simp)).symm
  | x :: a, y :: b => by
    simp only [List.map_cons, PyData.eqvAll, eqv_row, eqv_rows a b]
    by_cases e1 : x = y <;> by_cases e2 : a = b <;> simp [e1, e2]
theorem lay_rows : ∀ {a : List (List Nat × List Nat)}, (∀ r ∈ a, Cp r) → PyData.canLayAll0 (a.map rowP) = true ∧ depthAll (a.map rowP) ≤ 1
  | [], _ => ⟨rfl, Nat.zero_le _⟩
  | r :: a, h => by
    obtain ⟨h1, h2⟩ := lay_rows (a := a) fun x hx => h x (List.mem_cons_of_mem _ hx)
    have c := h r (List.mem_cons_self ..)
    have o1 := ok_cps c.a
    have o2 := ok_cps c.b
    constructor
    · simp [PyData.canLayAll0, PyData.canLay0, rowP, o1, o2, h1]
    · simp only [List.map_cons, depthAll, rowP, depth]
      omega
theorem eq_tups {a b : List (List Nat × List Nat)} {S : Store} (ha : ∀ r ∈ a, Cp r) (hb : ∀ r ∈ b, Cp r) : eqD (.tup (a.map rowD)) (.tup (b.map rowD)) S = some (.bl (decide (a = b))) := by
  obtain ⟨a1, a2⟩ := lay_rows ha
  obtain ⟨b1, b2⟩ := lay_rows hb
  have sa : PySem.SeqAt.shaped (.tuple (a.map rowP)) = true := by
    rw [PySem.SeqAt.shaped, Bool.and_eq_true]; exact ⟨by simp [PyData.canLay0, a1], decide_eq_true (by simp only [depth]; omega)⟩
  have sb : PySem.SeqAt.shaped (.tuple (b.map rowP)) = true := by
    rw [PySem.SeqAt.shaped, Bool.and_eq_true]; exact ⟨by simp [PyData.canLay0, b1], decide_eq_true (by simp only [depth]; omega)⟩
  simp [eqD, op2, eqS, eqG, eqP, deref, toPy, toPys_rows, sa, sb, PyData.eqv, eqv_rows]
theorem eq_lsts {a b : List (List Nat × List Nat)} {S : Store} (ha : ∀ r ∈ a, Cp r) (hb : ∀ r ∈ b, Cp r) : eqD (.lst (a.map rowD)) (.lst (b.map rowD)) S = some (.bl (decide (a = b))) := by
  obtain ⟨a1, a2⟩ := lay_rows ha
  obtain ⟨b1, b2⟩ := lay_rows hb
  have sa : PySem.SeqAt.shaped (.list (a.map rowP)) = true := by
    rw [PySem.SeqAt.shaped, Bool.and_eq_true]; exact ⟨by simp [PyData.canLay0, a1], decide_eq_true (by simp only [depth]; omega)⟩
  have sb : PySem.SeqAt.shaped (.list (b.map rowP)) = true := by
    rw [PySem.SeqAt.shaped, Bool.and_eq_true]; exact ⟨by simp [PyData.canLay0, b1], decide_eq_true (by simp only [depth]; omega)⟩
  simp [eqD, op2, eqS, eqG, eqP, deref, toPy, toPys_rows, sa, sb, PyData.eqv, eqv_rows]
theorem ne_lsts {a b : List (List Nat × List Nat)} {S : Store} (ha : ∀ r ∈ a, Cp r) (hb : ∀ r ∈ b, Cp r) : neD (.lst (a.map rowD)) (.lst (b.map rowD)) S = some (.bl (!decide (a = b))) := by
  obtain ⟨a1, a2⟩ := lay_rows ha
  obtain ⟨b1, b2⟩ := lay_rows hb
  have sa : PySem.SeqAt.shaped (.list (a.map rowP)) = true := by
    rw [PySem.SeqAt.shaped, Bool.and_eq_true]; exact ⟨by simp [PyData.canLay0, a1], decide_eq_true (by simp only [depth]; omega)⟩
  have sb : PySem.SeqAt.shaped (.list (b.map rowP)) = true := by
    rw [PySem.SeqAt.shaped, Bool.and_eq_true]; exact ⟨by simp [PyData.canLay0, b1], decide_eq_true (by simp only [depth]; omega)⟩
  simp [neD, op2, neS, eqS, neG, eqP, deref, toPy, toPys_rows, sa, sb, PyData.eqv, eqv_rows]
end J

set_option Elab.async false
set_option linter.all false
set_option maxRecDepth 100000
set_option maxHeartbeats 1010000
/-! PO: plain laws: what a history shows; without; == -/
namespace J
def linesL (rows : List (List Nat × List Nat)) : List Nat := TL.joinL [10] (rows.map fun r => r.1 ++ [32] ++ r.2)
def hrep (n : Nat) : List Nat := [72, 105, 115, 116, 111, 114, 121, 40] ++ digits (n : Int) ++ [32, 114, 111, 119, 115, 41]
theorem dig_small {n : Nat} (h : n ≤ 100) : (digits (n : Int)).length ≤ 3 ∧ (n : Int).natAbs.log2 < 1920 ∧ ∀ c ∈ digits (n : Int), c < 128 := by
  have all : ∀ m : Nat, m ≤ 100 → (digits (m : Int)).length ≤ 3 ∧ (m : Int).natAbs.log2 < 1920 ∧ ∀ c ∈ digits (m : Int), c < 128 := by decide +kernel
  exact all n h
theorem join_lines {rows : List (List Nat × List Nat)} {S : Store} (hn : rows.length ≤ 100) (h : ∀ r ∈ rows, r.1.length ≤ 100 ∧ r.2.length ≤ 100) : strJoin (.str [10]) [.lst (rows.map fun r => .str (r.1 ++ [32] ++ r.2))] S = .ok (.str (linesL rows)) S := by
  have e : strsOf (rows.map fun r => D.str (r.1 ++ [32] ++ r.2)) = some (rows.map fun r => r.1 ++ [32] ++ r.2) := by
    have := strsOf_str (rows.map fun r => r.1 ++ [32] ++ r.2)
    rw [List.map_map] at this
    exact this
  have a : (rows.map fun r => r.1 ++ [32] ++ r.2).all (fun y => decide (y.length ≤ 1000)) = true := by
    rw [List.all_eq_true]
    intro y hy
    obtain ⟨r, hr, rfl⟩ := List.mem_map.mp hy
    have := h r hr
    simp
    omega
  have c : (rows.map fun r => r.1 ++ [32] ++ r.2).length ≤ 1000 ∧ ([10] : List Nat).length ≤ 1000 ∧ (rows.map fun r => r.1 ++ [32] ++ r.2).all (fun y => decide (y.length ≤ 1000)) = true := ⟨by simp; omega, by decide, a⟩
  unfold strJoin
  simp only [seqA, seqR, seqL, Option.or_some, Option.some_or, Option.bind_some, e]
  rw [if_pos c]
  rfl
section
variable (T : Tab) (cs : List Nat) (tb : List (Tg × Tg × Bool))
def isHLen : IS := (sRet (iCB lenD (iCons (iFld T [1] 3 (iVar 0)) iNil)))
def dHLen : List D → M D := defJ 1 false (isHLen T)
theorem hlen_ok (hT1 : T.fs 1 = [2, 3]) {b : D} {rows : List (List Nat × List Nat)} {S : Store} : dHLen T [hs b rows] S = .ok (.int (rows.length : Int)) (S.trim S.next) := by
  have f3 : iFld T [1] 3 (iVar 0) [some (hs b rows)] S = .ok (.tup (rows.map rowD)) S := fld3 T hT1 rfl
  unfold dHLen defJ isHLen startR
  simp [sSeq, sSetI, sSetIN, sBind, iOp, M.bind, lift, iVar, iC, M.ret, sIf, iTst, isB, iCB, iCons, iNil, sRet, sNext, sAsg, sExpr, sPar, sPar3, iCall, iIf, iOr, iAnd, iNot, iNotV, iAndV, iOrV, M.no, iLstM, iLst, iTup, sAsgG, ngD, nsD, iSl, iPart, iNoPart, iBM, iCM, iYes, f3, lenD_tup]
def hsE : IE := (iJoin [(iFmt (iVar 1)), (iC (.str [32])), (iFmt (iVar 2))])
def isHStr : IS := (sRet (iBM .s strJoin (iC (.str [10])) (iCons (iLc (iItems (iFld T [1] 3 (iVar 0))) (.t [1, 2]) iYes hsE [1, 2]) iNil)))
def dHStr : List D → M D := defJ 3 false (isHStr T)
theorem hstr_ok (hT1 : T.fs 1 = [2, 3]) {b : D} {rows : List (List Nat × List Nat)} {S : Store} (hn : rows.length ≤ 100) (h : ∀ r ∈ rows, r.1.length ≤ 100 ∧ r.2.length ≤ 100) : ∃ S', dHStr T [hs b rows] S = .ok (.str (linesL rows)) S' ∧ Kq S S' := by
  have f3 : iFld T [1] 3 (iVar 0) [some (hs b rows), none, none] S = .ok (.tup (rows.map rowD)) S := fld3 T hT1 rfl
  obtain ⟨S1, e1, k1⟩ := lcL_kq (g := .t [1, 2]) (t := iYes) (ie := hsE) (ρ := [some (hs b rows), none, none]) rowD (fun r => .str (r.1 ++ [32] ++ r.2)) rows S (by
    intro r hr S2
    obtain ⟨h1, h2⟩ := h r hr
    have z1 : r.1.length ≤ 100000 := by omega
    have z2 : r.2.length ≤ 100000 := by omega
    have z3 : r.1.length + 1 ≤ 100000 := by omega
    have z4 : r.1.length + (1 + r.2.length) ≤ 100000 := by omega
    have z5 : r.1.length + (r.2.length + 1) ≤ 100000 := by omega
    refine ⟨[some (hs b rows), some (.str r.1), some (.str r.2)], S2, rfl, rfl, ?_, Kq.refl S2⟩
    have p1 : iFmt (iVar 1) [some (hs b rows), some (.str r.1), some (.str r.2)] S2 = .ok (.str r.1) S2 := fmt_str rfl z1
    have p2 : iFmt (iVar 2) [some (hs b rows), some (.str r.1), some (.str r.2)] S2 = .ok (.str r.2) S2 := fmt_str rfl z2
    simp [hsE, iJoin, joinF, M.bind, M.ret, iC, p1, p2, z1, z3, z4, z5, List.append_assoc])
  refine ⟨S1.trim S.next, ?_, kq_trim k1⟩
  have hl : (rows.map rowD).length < 100000 := by simp; omega
  unfold dHStr defJ isHStr
  have e0 : startR 3 [hs b rows] = [some (hs b rows), none, none] := rfl
  rw [e0]
  simp only [sRet, sBind, iBM, M.bind, iC, M.ret, kindIs, if_true, iCons, iNil, iLc, iItems, f3, items, lift, hl, wipeR, List.set_cons_succ, List.set_cons_zero, e1, join_lines hn h]
  rfl
def isHRepr : IS := (sRet (iJoin [(iC (.str [72, 105, 115, 116, 111, 114, 121, 40])), (iFmt (iCB lenD (iCons (iFld T [1] 3 (iVar 0)) iNil))), (iC (.str [32, 114, 111, 119, 115, 41]))]))
def dHRepr : List D → M D := defJ 1 false (isHRepr T)
theorem hrepr_ok (hT1 : T.fs 1 = [2, 3]) {b : D} {rows : List (List Nat × List Nat)} {S : Store} (hn : rows.length ≤ 100) : dHRepr T [hs b rows] S = .ok (.str (hrep rows.length)) (S.trim S.next) := by
  have f3 : iFld T [1] 3 (iVar 0) [some (hs b rows)] S = .ok (.tup (rows.map rowD)) S := fld3 T hT1 rfl
  obtain ⟨d1, d2, _⟩ := dig_small hn
  have ln : iCB lenD (iCons (iFld T [1] 3 (iVar 0)) iNil) [some (hs b rows)] S = .ok (.int (rows.length : Int)) S := by simp [sSeq, sSetI, sSetIN, sBind, iOp, M.bind, lift, iVar, iC, M.ret, sIf, iTst, isB, iCB, iCons, iNil, sRet, sNext, sAsg, sExpr, sPar, sPar3, iCall, iIf, iOr, iAnd, iNot, iNotV, iAndV, iOrV, M.no, iLstM, iLst, iTup, sAsgG, ngD, nsD, iSl, iPart, iNoPart, iBM, iCM, iYes, f3, lenD_tup]
  have fm : iFmt (iCB lenD (iCons (iFld T [1] 3 (iVar 0)) iNil)) [some (hs b rows)] S = .ok (.str (digits (rows.length : Int))) S := fmt_int ln d2
  have z1 : (digits (rows.length : Int)).length + 8 ≤ 100000 := by omega
  have z2 : (digits (rows.length : Int)).length + 6 + 8 ≤ 100000 := by omega
  unfold dHRepr defJ isHRepr startR
  simp [sRet, sBind, iJoin, joinF, M.bind, M.ret, iC, fm, z1, z2, hrep]
theorem askN_hs (hT1 : T.fs 1 = [2, 3]) {g : Int → D} {b : D} {rows : List (List Nat × List Nat)} {S : Store} (hn : rows.length ≤ 100) : askN 1 T (dHLen T) g [hs b rows] S = .ok (g (rows.length : Int)) (S.trim S.next) := by
  have c : (0 : Int) ≤ (rows.length : Int) ∧ (rows.length : Int) < 2 ^ 62 := ⟨by omega, by omega⟩
  simp only [askN, ins_hs T hT1, if_true, M.bind, nox, hlen_ok T hT1, isN0]
  rw [if_pos c]
  rfl
theorem askS_hs (hT1 : T.fs 1 = [2, 3]) {b : D} {rows : List (List Nat × List Nat)} {S : Store} (hn : rows.length ≤ 100) (h : ∀ r ∈ rows, r.1.length ≤ 100 ∧ r.2.length ≤ 100) : ∃ S', askD 1 T (dHStr T) [hs b rows] S = .ok (.str (linesL rows)) S' ∧ Kq S S' := by
  obtain ⟨S1, e1, k1⟩ := hstr_ok T hT1 (b := b) (S := S) hn h
  refine ⟨S1, ?_, k1⟩
  simp only [askD, ins_hs T hT1, if_true, M.bind, nox, e1, isS, M.ret]
theorem askR_hs (hT1 : T.fs 1 = [2, 3]) {b : D} {rows : List (List Nat × List Nat)} {S : Store} (hn : rows.length ≤ 100) : askD 1 T (dHRepr T) [hs b rows] S = .ok (.str (hrep rows.length)) (S.trim S.next) := by
  simp only [askD, ins_hs T hT1, if_true, M.bind, nox, hrepr_ok T hT1 hn, isS, M.ret]
/-! ### == -/
def isHEq (og : List Tg) : IS := (sRet (iAndV (iCB (isiD cs tb) (iCons (iVar 1) (iCons (iC (.glo 1)) iNil))) (iAndV (iOpM (eqO T 0 cs og false (dEq T cs tb)) (iFld T [1] 2 (iVar 0)) (iFld T [1] 2 (iVar 1))) (iOp eqD (iFld T [1] 3 (iVar 0)) (iFld T [1] 3 (iVar 1))))))
def dHEq (og : List Tg) : List D → M D := defJ 2 false (isHEq T cs tb og)
abbrev IsH : Prop := ∀ b rows S, isiD cs tb [hs b rows, .glo 1] S = some (.bl true)
theorem heq_ok (hT : T.fs 0 = [0, 1]) (hT1 : T.fs 1 = [2, 3]) (hB : IsB cs tb) (hH : IsH cs tb) {og : List Tg} (ho : (og.contains (.o 0) && okTg cs (.o 0)) = true) {l l' : List Nat} {k k' : Int} {a b : List (List Nat × List Nat)} {S : Store} (ha : ∀ r ∈ a, Cp r) (hb : ∀ r ∈ b, Cp r) :
    ∃ S', dHEq T cs tb og [hs (bd l k) a, hs (bd l' k') b] S = .ok (.bl (decide (l = l') && decide (k = k') && decide (a = b))) S' ∧ Kq S S' := by
  have f1 : ∀ S, iFld T [1] 2 (iVar 0) [some (hs (bd l k) a), some (hs (bd l' k') b)] S = .ok (bd l k) S := fun S => fld2 T hT1 rfl
  have f2 : ∀ S, iFld T [1] 2 (iVar 1) [some (hs (bd l k) a), some (hs (bd l' k') b)] S = .ok (bd l' k') S := fun S => fld2 T hT1 rfl
  have f3 : ∀ S, iFld T [1] 3 (iVar 0) [some (hs (bd l k) a), some (hs (bd l' k') b)] S = .ok (.tup (a.map rowD)) S := fun S => fld3 T hT1 rfl
  have f4 : ∀ S, iFld T [1] 3 (iVar 1) [some (hs (bd l k) a), some (hs (bd l' k') b)] S = .ok (.tup (b.map rowD)) S := fun S => fld3 T hT1 rfl
  have is := hH (bd l' k') b S
  have e1 := eqO_of T cs tb hT (g := og) (neg := false) (S := S) (l := l) (k := k) (y := bd l' k') (t := .o 0) rfl ho (eq_bd T cs tb hT (hB l' k' S))
  have e2 := eq_tups (S := S.trim S.next) ha hb
  unfold dHEq defJ isHEq
  have e0 : startR 2 [hs (bd l k) a, hs (bd l' k') b] = [some (hs (bd l k) a), some (hs (bd l' k') b)] := rfl
  rw [e0]
  cases q : (decide (l = l') && decide (k = k')) with
  | true =>
    rw [q] at e1
    refine ⟨(S.trim S.next).trim S.next, ?_, kq_t2 S⟩
    simp only [sRet, sBind, iAndV, iCB, iCons, iNil, iVar, iC, M.bind, M.ret, lift, List.getD_cons_succ, List.getD_cons_zero, is, isB, if_true, iOpM, f1, f2, e1, Bool.bne_true, Bool.not_false, iOp, f3, f4, e2, Bool.true_and]
    rfl
  | false =>
    rw [q] at e1
    refine ⟨(S.trim S.next).trim S.next, ?_, kq_t2 S⟩
    simp only [sRet, sBind, iAndV, iCB, iCons, iNil, iVar, iC, M.bind, M.ret, lift, List.getD_cons_succ, List.getD_cons_zero, is, isB, if_true, iOpM, f1, f2, e1, bne_self_eq_false, Bool.false_eq_true, if_false, Bool.false_and]
theorem heq_no {og : List Tg} {x y : D} {S : Store} (h : isiD cs tb [y, .glo 1] S = some (.bl false)) : dHEq T cs tb og [x, y] S = .ok (.bl false) (S.trim S.next) := by
  unfold dHEq defJ isHEq
  have e0 : startR 2 [x, y] = [some x, some y] := rfl
  rw [e0]
  simp [sSeq, sSetI, sSetIN, sBind, iOp, M.bind, lift, iVar, iC, M.ret, sIf, iTst, isB, iCB, iCons, iNil, sRet, sNext, sAsg, sExpr, sPar, sPar3, iCall, iIf, iOr, iAnd, iNot, iNotV, iAndV, iOrV, M.no, iLstM, iLst, iTup, sAsgG, ngD, nsD, iSl, iPart, iNoPart, iBM, iCM, iYes, h]
theorem heqO {og : List Tg} (hT1 : T.fs 1 = [2, 3]) {neg v : Bool} {b y : D} {rows : List (List Nat × List Nat)} {t : Tg} {S S' : Store} (ht : tagD y S = some t) (hg : (og.contains t && okTg cs t) = true) (h : dHEq T cs tb og [hs b rows, y] S = .ok (.bl v) S') :
    eqO T 1 cs og neg (dHEq T cs tb og) (hs b rows) y S = .ok (.bl (neg != v)) S' := by
  unfold eqO
  simp only [ins_hs T hT1, ht, hg, decide_true, Bool.true_and, if_true, M.bind, nox, h, lift, isB, M.ret]
end
end J

set_option Elab.async false
set_option linter.all false
set_option maxRecDepth 100000
set_option maxHeartbeats 1010000
/-! PQ: plain laws: a row taken out; all that is shown of a history -/
namespace J
theorem slD_tup {xs : List D} {a b : Option Int} {S : Store} : slD (.tup xs) a b S = some (.tup (cutD xs a b)) := by simp [slD, opc2, slL, slS, slT, seqR, seqL]
theorem slD_lst {xs : List D} {a b : Option Int} {S : Store} : slD (.lst xs) a b S = some (.lst (cutD xs a b)) := by simp [slD, opc2, slL, slS, slT, seqR, seqL]
theorem addD_tup {a b : List D} {S : Store} (h : a.length + b.length ≤ 1000) : addD (.tup a) (.tup b) S = some (.tup (a ++ b)) := by
  have h2 : a.length + b.length ≤ 100000 := by omega
  simp [addD, op2, addI, opI0, addS, addL, addT, seqL, h2]
theorem addD_lists {a b : List D} {S : Store} (h : a.length + b.length ≤ 1000) : addD (.lst a) (.lst b) S = some (.lst (a ++ b)) := by
  have h2 : a.length + b.length ≤ 100000 := by omega
  simp [addD, op2, addI, opI0, addS, addL, seqL, h2]
def lessL (rows : List (List Nat × List Nat)) (i : Nat) : List (List Nat × List Nat) := rows.take i ++ rows.drop (i + 1)
theorem lessL_len {rows : List (List Nat × List Nat)} {i : Nat} (h : i < rows.length) : (lessL rows i).length + 1 = rows.length := by
  simp [lessL]; omega
theorem lessL_mem {rows : List (List Nat × List Nat)} {i : Nat} : ∀ r ∈ lessL rows i, r ∈ rows := fun r hr => by
  rcases List.mem_append.mp hr with z | z
  · exact List.mem_of_mem_take z
  · exact List.mem_of_mem_drop z
theorem lessL_map {rows : List (List Nat × List Nat)} {i : Nat} : (rows.map rowD).take i ++ (rows.map rowD).drop (i + 1) = (lessL rows i).map rowD := by
  simp [lessL, List.map_take, List.map_drop]
theorem joinL_len {a : Nat} : ∀ ls : List (List Nat), (∀ l ∈ ls, l.length ≤ a) → (TL.joinL [10] ls).length ≤ (a + 1) * ls.length
  | [], _ => by simp [TL.joinL]
  | [p], h => by
    have := h p (List.mem_cons_self ..)
    simp [TL.joinL]; omega
  | p :: q :: r, h => by
    have h1 := h p (List.mem_cons_self ..)
    have h2 := joinL_len (q :: r) fun l hl => h l (List.mem_cons_of_mem _ hl)
    simp only [TL.joinL, List.length_append, List.length_cons, List.length_nil, Nat.mul_add] at h2 ⊢
    omega
theorem joinL_mem {P : Nat → Prop} (h0 : P 10) : ∀ ls : List (List Nat), (∀ l ∈ ls, ∀ c ∈ l, P c) → ∀ c ∈ TL.joinL [10] ls, P c
  | [], _ => by simp [TL.joinL]
  | [p], h => by
    intro c hc
    exact h p (List.mem_cons_self ..) c (by simpa [TL.joinL] using hc)
  | p :: q :: r, h => by
    intro c hc
    have h2 := joinL_mem h0 (q :: r) fun l hl => h l (List.mem_cons_of_mem _ hl)
    simp only [TL.joinL, List.mem_append, List.mem_cons, List.not_mem_nil, or_false] at hc
    rcases hc with z | z | z
    · exact h p (List.mem_cons_self ..) c z
    · exact z ▸ h0
    · exact h2 c z
theorem nb_rows : ∀ rows : List (List Nat × List Nat), (!decide (rows = [])) = ((rows.length : Int) != 0)
  | [] => rfl
  | r :: rs => by
    have a : ((r :: rs).length : Int) ≠ 0 := by
      rw [List.length_cons]
      omega
    have b : ¬ (r :: rs = []) := by simp
    rw [decide_eq_false b, bne_iff_ne.mpr a]
    rfl
section
variable (T : Tab) (cs : List Nat) (tb : List (Tg × Tg × Bool))
def hw1 : IS := (sIf (iOr (iNot (iTst (iCall 1 (dInt cs tb) (iCons (iVar 1) iNil)))) (iNot (iTst (iChain leI ltI (iC (.int 0)) (iVar 1) (iCB lenD (iCons (iFld T [1] 3 (iVar 0)) iNil)))))) sNever sNext)
def hw2 : IS := (sAsg 2 (iOp addD (iSl slD (iFld T [1] 3 (iVar 0)) iNoPart (iPart (iVar 1))) (iSl slD (iFld T [1] 3 (iVar 0)) (iPart (iOp addD (iVar 1) (iC (.int 1)))) iNoPart)))
def hw3 : IS := (sRet (iMakeV T true 1 1 (dHInit T cs tb) (iCons (iFld T [1] 2 (iVar 0)) (iStar (iVar 2) iNil))))
def isHWithout : IS := sSeq (hw1 T cs tb) (sSeq (hw2 T) (hw3 T cs tb))
def dHWithout : List D → M D := defJ 3 false (isHWithout T cs tb)
theorem hwithout_ok (hT : T.fs 0 = [0, 1]) (hT1 : T.fs 1 = [2, 3]) (hb : IsB cs tb) {S : Store} {l : List Nat} {k i : Nat} {rows : List (List Nat × List Nat)} (hk : k ≤ 1000) (hr : rows.length ≤ 20) (hi : i < rows.length) (h : ∀ r ∈ rows, Row l k r) :
    ∃ S', dHWithout T cs tb [hs (bd l k) rows, .int (i : Int)] S = .ok (hs (bd l k) (lessL rows i)) S' ∧ Kq S S' := by
  have f2 : ∀ S x, iFld T [1] 2 (iVar 0) [some (hs (bd l k) rows), some (.int (i : Int)), x] S = .ok (bd l k) S := fun S x => fld2 T hT1 rfl
  have f3 : ∀ S x, iFld T [1] 3 (iVar 0) [some (hs (bd l k) rows), some (.int (i : Int)), x] S = .ok (.tup (rows.map rowD)) S := fun S x => fld3 T hT1 rfl
  have a := int_ok cs tb (S := S) (i := (i : Int))
  have e1 : hw1 T cs tb [some (hs (bd l k) rows), some (.int (i : Int)), none] S = .ok (.nx [some (hs (bd l k) rows), some (.int (i : Int)), none]) (S.trim S.next) := by
    have z1 : (0 : Int) ≤ (i : Int) := by omega
    have z2 : (i : Int) < ((rows.map rowD).length : Nat) := by simp; omega
    unfold hw1
    simp only [sIf, sBind, iOr, iNot, iTst, iCall, iCons, iNil, iVar, iC, iCB, M.bind, M.ret, lift, List.getD_cons_succ, List.getD_cons_zero, List.length_cons, List.length_nil, if_true, a, isB, Bool.not_true, Bool.false_eq_true, if_false, iChain, leI_int, z1, decide_true, Option.bind_some, f3, lenD_tup, ltI_int, z2, sNext]
  have e2 : hw2 T [some (hs (bd l k) rows), some (.int (i : Int)), none] (S.trim S.next) = .ok (.nx [some (hs (bd l k) rows), some (.int (i : Int)), some (.tup ((lessL rows i).map rowD))]) (S.trim S.next) := by
    have c1 : cutD (rows.map rowD) none (some (i : Int)) = (rows.map rowD).take i := cut_take _ i
    have c2 : cutD (rows.map rowD) (some ((i : Int) + 1)) none = (rows.map rowD).drop (i + 1) := cut_drop _ (i + 1)
    have z : ((rows.map rowD).take i).length + ((rows.map rowD).drop (i + 1)).length ≤ 1000 := by simp; omega
    unfold hw2
    simp only [sAsg, sBind, iOp, iSl, M.bind, f3, iNoPart, iPart, iVar, iC, M.ret, lift, List.getD_cons_succ, List.getD_cons_zero, slD_tup, c1, addD_int, c2, addD_tup z, lessL_map, List.set_cons_succ, List.set_cons_zero]
  obtain ⟨S3, e4, k4⟩ := hmake_ok T cs tb hT hT1 hb (S := S.trim S.next) (l := l) (k := k) (rows := lessL rows i) hk (by have := lessL_len hi; omega) (fun x hx => h x (lessL_mem x hx))
  have e3 : hw3 T cs tb [some (hs (bd l k) rows), some (.int (i : Int)), some (.tup ((lessL rows i).map rowD))] (S.trim S.next) = .ok (.rt (hs (bd l k) (lessL rows i))) S3 := by
    have sq : ∀ S, seqA (.tup ((lessL rows i).map rowD)) S = some ((lessL rows i).map rowD) := fun S => by simp [seqA, seqR, seqL, seqT]
    unfold hw3
    simp only [sRet, sBind, iMakeV, iCons, iStar, iNil, iVar, M.bind, f2, lift, List.getD_cons_succ, List.getD_cons_zero, sq, M.ret, List.append_nil, e4]
  refine ⟨S3.trim S.next, ?_, kq_trim ((kq_t1 S).trans k4)⟩
  show defJ 3 false (isHWithout T cs tb) _ S = _
  unfold defJ isHWithout
  have e0 : startR 3 [hs (bd l k) rows, .int (i : Int)] = [some (hs (bd l k) rows), some (.int (i : Int)), none] := rfl
  rw [e0, sSeq_nx e1, sSeq_nx e2, e3]
  rfl
/-! ### what is shown -/
def shE : IE := (iOp addD (iOp addD (iVar 6) (iC (.str [32]))) (iVar 7))
def sh1 : IS := (sAsg 3 (iBM .s strJoin (iC (.str [10])) (iCons (iLc (iItems (iVar 2)) (.t [6, 7]) iYes shE [6, 7]) iNil)))
def sh2 : IS := (sAsg 4 (iLst (iCons (iFld T [1] 3 (iVar 0)) (iCons (iCM (askN 1 T (dHLen T) .int) (iCons (iVar 0) iNil)) (iCons (iCM (askN 1 T (dHLen T) fun n => .bl (n != 0)) (iCons (iVar 0) iNil)) (iCons (iCM (askD 1 T (dHStr T)) (iCons (iVar 0) iNil)) (iCons (iCM (askD 1 T (dHRepr T)) (iCons (iVar 0) iNil)) iNil)))))))
def sh3 : IS := (sAsg 5 (iLst (iCons (iCB tupD (iCons (iVar 2) iNil)) (iCons (iCB lenD (iCons (iVar 2) iNil)) (iCons (iOp neD (iVar 2) (iLst iNil)) (iCons (iVar 3) (iCons (iOp addD (iOp addD (iC (.str [72, 105, 115, 116, 111, 114, 121, 40])) (iCM (fun xs S => lift (strD xs S) S) (iCons (iCB lenD (iCons (iVar 2) iNil)) iNil))) (iC (.str [32, 114, 111, 119, 115, 41]))) iNil)))))))
def sh4 (og : List Tg) : IS := (sRet (iAndV (iOp eqD (iCB reprD (iCons (iVar 4) iNil)) (iCB reprD (iCons (iVar 5) iNil))) (iOpM (eqO T 0 cs og false (dEq T cs tb)) (iFld T [1] 2 (iVar 0)) (iVar 1))))
def isShown (og : List Tg) : IS := sSeq sh1 (sSeq (sh2 T) (sSeq sh3 (sh4 T cs tb og)))
def dShown (og : List Tg) : List D → M D := defJ 8 false (isShown T cs tb og)
def seenD (rows : List (List Nat × List Nat)) : D := .lst [.tup (rows.map rowD), .int (rows.length : Int), .bl ((rows.length : Int) != 0), .str (linesL rows), .str (hrep rows.length)]
theorem lines_ok {rows : List (List Nat × List Nat)} (hr : rows.length ≤ 20) (h : ∀ r ∈ rows, Cp r ∧ r.1.length ≤ 6 ∧ r.2.length ≤ 6) : (linesL rows).length ≤ 280 ∧ ∀ c ∈ linesL rows, c < 1114112 := by
  constructor
  · have z := joinL_len (a := 13) (rows.map fun r => r.1 ++ [32] ++ r.2) (fun l hl => by
      obtain ⟨r, hr, rfl⟩ := List.mem_map.mp hl
      obtain ⟨_, h1, h2⟩ := h r hr
      simp; omega)
    rw [List.length_map] at z
    show (TL.joinL [10] _).length ≤ 280
    omega
  · refine joinL_mem (P := fun c => c < 1114112) (by decide) _ fun l hl c hc => ?_
    obtain ⟨r, hr, rfl⟩ := List.mem_map.mp hl
    obtain ⟨cp, _, _⟩ := h r hr
    simp only [List.mem_append, List.mem_cons, List.not_mem_nil, or_false] at hc
    rcases hc with (z | z) | z
    · exact cp.a c z
    · omega
    · exact cp.b c z
theorem seen_rep {rows : List (List Nat × List Nat)} {S : Store} (hr : rows.length ≤ 20) (h : ∀ r ∈ rows, Cp r ∧ r.1.length ≤ 6 ∧ r.2.length ≤ 6) : ∃ t, reprD [seenD rows] S = some (.str t) := by
  obtain ⟨l1, l2⟩ := lines_ok hr h
  obtain ⟨d1, _, d2⟩ := dig_small (n := rows.length) (by omega)
  have r1 : Rp 2 3000 (.tup (rows.map rowD)) := (Rp.tup (k := 1) (B := (10 * 6 + 4) * 2 + 3) (n := 20) (fun d hd => by
    obtain ⟨r, hr, rfl⟩ := List.mem_map.mp hd
    obtain ⟨cp, h1, h2⟩ := h r hr
    exact Rp.row cp h1 h2) (by simpa using hr)).up (by omega) (by omega)
  have r4 : Rp 0 3000 (.str (linesL rows)) := (Rp.str l2).up (Nat.le_refl _) (by omega)
  have r5 : Rp 0 3000 (.str (hrep rows.length)) := by
    refine (Rp.str fun c hc => ?_).up (Nat.le_refl _) ?_
    · simp only [hrep, List.mem_append] at hc
      rcases hc with (z | z) | z
      · have : ∀ c ∈ ([72, 105, 115, 116, 111, 114, 121, 40] : List Nat), c < 1114112 := by decide
        exact this c z
      · have := d2 c z
        omega
      · have : ∀ c ∈ ([32, 114, 111, 119, 115, 41] : List Nat), c < 1114112 := by decide
        exact this c z
    · have : (hrep rows.length).length ≤ 17 := by simp [hrep]; omega
      omega
  have all : Rp 3 ((3000 + 2) * 5 + 3) (seenD rows) := Rp.lst (k := 2) (B := 3000) (n := 5) (fun d hd => by
    simp only [List.mem_cons, List.not_mem_nil, or_false] at hd
    rcases hd with rfl | rfl | rfl | rfl | rfl
    · exact r1
    · exact (Rp.nat (n := rows.length) (by omega)).up (by omega) (by omega)
    · exact (Rp.bl _).up (by omega) (by omega)
    · exact r4.up (by omega) (by omega)
    · exact r5.up (by omega) (by omega)) (by simp)
  exact rep_of all (by omega) (by omega)
theorem shown_ok (hT : T.fs 0 = [0, 1]) (hT1 : T.fs 1 = [2, 3]) (hB : IsB cs tb) {og : List Tg} (ho : (og.contains (.o 0) && okTg cs (.o 0)) = true) {S : Store} {l : List Nat} {k : Int} {rows : List (List Nat × List Nat)} (hr : rows.length ≤ 20) (h : ∀ r ∈ rows, Cp r ∧ r.1.length ≤ 6 ∧ r.2.length ≤ 6) :
    ∃ S', dShown T cs tb og [hs (bd l k) rows, bd l k, .lst (rows.map rowD)] S = .ok (.bl true) S' ∧ Kq S S' := by
  obtain ⟨S1, e1, k1⟩ := lcL_kq (g := .t [6, 7]) (t := iYes) (ie := shE) (ρ := [some (hs (bd l k) rows), some (bd l k), some (.lst (rows.map rowD)), none, none, none, none, none]) rowD (fun r => .str (r.1 ++ [32] ++ r.2)) rows S (by
    intro r hr S2
    obtain ⟨_, h1, h2⟩ := h r hr
    have z1 : r.1.length + ([32] : List Nat).length ≤ 100000 := by simp; omega
    have z2 : (r.1 ++ [32]).length + r.2.length ≤ 100000 := by simp; omega
    refine ⟨[some (hs (bd l k) rows), some (bd l k), some (.lst (rows.map rowD)), none, none, none, some (.str r.1), some (.str r.2)], S2, rfl, rfl, ?_, Kq.refl S2⟩
    simp only [shE, iOp, iVar, iC, M.bind, M.ret, lift, List.getD_cons_succ, List.getD_cons_zero, addD_str z1, addD_str z2])
  have hl : (rows.map rowD).length < 100000 := by simp; omega
  have h100 : ∀ r ∈ rows, r.1.length ≤ 100 ∧ r.2.length ≤ 100 := fun r hr => ⟨by have := h r hr; omega, by have := h r hr; omega⟩
  have g1 : sh1 [some (hs (bd l k) rows), some (bd l k), some (.lst (rows.map rowD)), none, none, none, none, none] S = .ok (.nx [some (hs (bd l k) rows), some (bd l k), some (.lst (rows.map rowD)), some (.str (linesL rows)), none, none, none, none]) S1 := by
    unfold sh1
    simp only [sAsg, sBind, iBM, M.bind, iC, M.ret, kindIs, if_true, iCons, iNil, iLc, iItems, iVar, lift, List.getD_cons_succ, List.getD_cons_zero, items, hl, wipeR, List.set_cons_succ, List.set_cons_zero, e1, join_lines (S := S1) (show rows.length ≤ 100 by omega) h100]
  obtain ⟨S2, e2, k2⟩ := askS_hs T hT1 (b := bd l k) (S := (S1.trim S1.next).trim (S1.trim S1.next).next) (rows := rows) (by omega) h100
  have g2 : sh2 T [some (hs (bd l k) rows), some (bd l k), some (.lst (rows.map rowD)), some (.str (linesL rows)), none, none, none, none] S1 = .ok (.nx [some (hs (bd l k) rows), some (bd l k), some (.lst (rows.map rowD)), some (.str (linesL rows)), some (seenD rows), none, none, none]) (S2.trim S2.next) := by
    have f3 : ∀ S, iFld T [1] 3 (iVar 0) [some (hs (bd l k) rows), some (bd l k), some (.lst (rows.map rowD)), some (.str (linesL rows)), none, none, none, none] S = .ok (.tup (rows.map rowD)) S := fun S => fld3 T hT1 rfl
    have z5 : 0 + 1 + 1 + 1 + 1 + 1 ≤ 100000 := by decide
    unfold sh2
    simp only [sAsg, sBind, iLst, iCons, iNil, iCM, M.bind, M.ret, f3, iVar, lift, List.getD_cons_succ, List.getD_cons_zero, askN_hs T hT1 (show rows.length ≤ 100 by omega), e2, askR_hs T hT1 (show rows.length ≤ 100 by omega), List.length_cons, List.length_nil, if_pos z5, List.set_cons_succ, List.set_cons_zero]
    rfl
  have k3 : Kq S (S2.trim S2.next) := (((k1.trans (kq_t1 S1)).trans (kq_t1 _)).trans k2).trans (kq_t1 S2)
  generalize S2.trim S2.next = S3 at g2 k3
  have nb := nb_rows rows
  have g3 : sh3 [some (hs (bd l k) rows), some (bd l k), some (.lst (rows.map rowD)), some (.str (linesL rows)), some (seenD rows), none, none, none] S3 = .ok (.nx [some (hs (bd l k) rows), some (bd l k), some (.lst (rows.map rowD)), some (.str (linesL rows)), some (seenD rows), some (seenD rows), none, none]) S3 := by
    obtain ⟨d1, d2, _⟩ := dig_small (n := rows.length) (by omega)
    have z0 : 0 ≤ 100000 := by decide
    have z5 : 0 + 1 + 1 + 1 + 1 + 1 ≤ 100000 := by decide
    have tp : tupD [.lst (rows.map rowD)] S3 = some (.tup (rows.map rowD)) := by simp [tupD, seqR, seqL]
    have ln : lenD [.lst (rows.map rowD)] S3 = some (.int (rows.length : Int)) := by rw [lenD_lst (by omega), List.length_map]
    have ne : neD (.lst (rows.map rowD)) (.lst []) S3 = some (.bl ((rows.length : Int) != 0)) := by
      have := ne_lsts (a := rows) (b := []) (S := S3) (fun r hr => (h r hr).1) (by simp)
      rw [nb] at this
      exact this
    have st : strD [.int (rows.length : Int)] S3 = some (.str (digits (rows.length : Int))) := if_pos d2
    have z1 : ([72, 105, 115, 116, 111, 114, 121, 40] : List Nat).length + (digits (rows.length : Int)).length ≤ 100000 := by simp; omega
    have z2 : ([72, 105, 115, 116, 111, 114, 121, 40] ++ digits (rows.length : Int) : List Nat).length + ([32, 114, 111, 119, 115, 41] : List Nat).length ≤ 100000 := by simp; omega
    unfold sh3
    simp only [sAsg, sBind, iLst, iCons, iNil, iCM, iCB, iOp, iC, M.bind, M.ret, iVar, lift, List.getD_cons_succ, List.getD_cons_zero, tp, ln, List.length_nil, if_pos z0, ne, st, addD_str z1, addD_str z2, List.length_cons, if_pos z5, List.set_cons_succ, List.set_cons_zero]
    rfl
  obtain ⟨tx, et⟩ := seen_rep (S := S3) hr h
  have e4 := eqO_of T cs tb hT (g := og) (neg := false) (S := S3) (l := l) (k := k) (y := bd l k) (t := .o 0) rfl ho (eq_bd T cs tb hT (hB l k S3))
  have g4 : sh4 T cs tb og [some (hs (bd l k) rows), some (bd l k), some (.lst (rows.map rowD)), some (.str (linesL rows)), some (seenD rows), some (seenD rows), none, none] S3 = .ok (.rt (.bl true)) (S3.trim S3.next) := by
    have f2 : ∀ S, iFld T [1] 2 (iVar 0) [some (hs (bd l k) rows), some (bd l k), some (.lst (rows.map rowD)), some (.str (linesL rows)), some (seenD rows), some (seenD rows), none, none] S = .ok (bd l k) S := fun S => fld2 T hT1 rfl
    unfold sh4
    simp only [sRet, sBind, iAndV, iOp, iCB, iCons, iNil, iVar, iOpM, M.bind, M.ret, lift, List.getD_cons_succ, List.getD_cons_zero, et, eqD_str, decide_true, isB, if_true, f2, e4, Bool.and_self, Bool.bne_true, Bool.not_false]
  refine ⟨(S3.trim S3.next).trim S.next, ?_, kq_trim (k3.trans (kq_t1 S3))⟩
  show defJ 8 false (isShown T cs tb og) _ S = _
  unfold defJ isShown
  have e0 : startR 8 [hs (bd l k) rows, bd l k, .lst (rows.map rowD)] = [some (hs (bd l k) rows), some (bd l k), some (.lst (rows.map rowD)), none, none, none, none, none] := rfl
  rw [e0, sSeq_nx g1, sSeq_nx g2, sSeq_nx g3, g4]
  rfl
end
end J

set_option Elab.async false
set_option linter.all false
set_option maxRecDepth 100000
set_option maxHeartbeats 1010000
/-! PR: plain laws: a run that goes on where another one never came; refusals of boards -/
namespace J
/-- b goes wherever a goes -/
def LeR {α : Type} (a b : R α) : Prop := a = .no ∨ a = b
abbrev LeE {α : Type} (a b : Rho → M α) : Prop := ∀ ρ S, LeR (a ρ S) (b ρ S)
abbrev LeD (f g : List D → M D) : Prop := ∀ xs S, LeR (f xs S) (g xs S)
theorem LeR.of {α : Type} {a b r : R α} (h : LeR a b) (e : a = r) (hr : r ≠ .no) : b = r := by
  rcases h with h | h
  · exact (hr (e.symm.trans h)).elim
  · exact h.symm.trans e
theorem LeR.ok {α : Type} {a b : R α} {x : α} {S : Store} (h : LeR a b) (e : a = .ok x S) : b = .ok x S := h.of e (by intro q; cases q)
theorem le_rfl {α : Type} {a : Rho → M α} : LeE a a := fun _ _ => .inr rfl
theorem le_bind {α β : Type} {m m' : M α} {k k' : α → M β} (h : ∀ S, LeR (m S) (m' S)) (g : ∀ a S, LeR (k a S) (k' a S)) (S : Store) : LeR (M.bind m k S) (M.bind m' k' S) := by
  unfold M.bind
  rcases h S with e | e
  · rw [e]; exact .inl rfl
  · rw [e]
    cases m' S with
    | ok a S1 => exact g a S1
    | ex c fs S1 => exact .inr rfl
    | no => exact .inl rfl
theorem le_sBind {α : Type} {m m' : M α} {ρ : Rho} {k k' : α → M Fl} (h : ∀ S, LeR (m S) (m' S)) (g : ∀ a S, LeR (k a S) (k' a S)) (S : Store) : LeR (sBind m ρ k S) (sBind m' ρ k' S) := by
  unfold sBind
  rcases h S with e | e
  · rw [e]; exact .inl rfl
  · rw [e]
    cases m' S with
    | ok a S1 => exact g a S1
    | ex c fs S1 => exact .inr rfl
    | no => exact .inl rfl
theorem le_seq {a a' b b' : IS} (h : LeE a a') (g : LeE b b') : LeE (sSeq a b) (sSeq a' b') := fun ρ S => by
  unfold sSeq
  rcases h ρ S with e | e
  · rw [e]; exact .inl rfl
  · rw [e]
    cases a' ρ S with
    | ok fl S1 => cases fl with
      | nx ρ1 => exact g ρ1 S1
      | _ => exact .inr rfl
    | _ => exact .inr rfl
theorem le_if {t t' : IT} {a a' b b' : IS} (h0 : LeE t t') (h : LeE a a') (g : LeE b b') : LeE (sIf t a b) (sIf t' a' b') := fun ρ S =>
  le_sBind (h0 ρ) (fun c S1 => by cases c; exact g ρ S1; exact h ρ S1) S
theorem le_never {b : IS} : LeE sNever b := fun _ _ => .inl rfl
theorem le_ifn {t : IT} {b : IS} : LeE (sIf t sNever sNext) (sIf t b sNext) := le_if le_rfl le_never le_rfl
theorem le_asg {i : Nat} {a b : IE} (h : LeE a b) : LeE (sAsg i a) (sAsg i b) := fun ρ S => le_sBind (h ρ) (fun _ _ => .inr rfl) S
theorem le_ret {a b : IE} (h : LeE a b) : LeE (sRet a) (sRet b) := fun ρ S => le_sBind (h ρ) (fun _ _ => .inr rfl) S
theorem le_expr {a b : IE} (h : LeE a b) : LeE (sExpr a) (sExpr b) := fun ρ S => le_sBind (h ρ) (fun _ _ => .inr rfl) S
theorem le_def {n : Nat} {k : Bool} {a b : IS} (h : LeE a b) : LeD (defJ n k a) (defJ n k b) := fun xs S => by
  unfold defJ
  rcases h (startR n xs) S with e | e
  · rw [e]; exact .inl rfl
  · rw [e]; exact .inr rfl
theorem le_call {n : Nat} {f g : List D → M D} {a b : IA} (h : LeD f g) (ha : LeE a b) : LeE (iCall n f a) (iCall n g b) := fun ρ S =>
  le_bind (ha ρ) (fun xs S1 => by
    split
    · exact h xs S1
    · exact .inr rfl) S
theorem le_makeD {T : Tab} {z : Bool} {c k : Nat} {f g : List D → M D} (h : LeD f g) : LeD (makeD T z c k f) (makeD T z c k g) := fun xs S => by
  unfold makeD
  split
  · rcases h (.ref S.next :: xs) (S.alloc (.ins c [])) with e | e
    · rw [e]; exact .inl rfl
    · rw [e]; exact .inr rfl
  · exact .inr rfl
theorem le_make {T : Tab} {z : Bool} {c k : Nat} {f g : List D → M D} {a b : IA} (h : LeD f g) (ha : LeE a b) : LeE (iMake T z c k f a) (iMake T z c k g b) := fun ρ S => le_bind (ha ρ) (le_makeD h) S
theorem le_cons {a b : IE} {r s : IA} (h : LeE a b) (g : LeE r s) : LeE (iCons a r) (iCons b s) := fun ρ S => le_bind (h ρ) (fun _ S1 => le_bind (g ρ) (fun _ _ => .inr rfl) S1) S
theorem le_forL {g : NG} {a b : IS} (h : LeE a b) : ∀ xs : List D, LeE (forL g a xs) (forL g b xs)
  | [], _, _ => .inr rfl
  | x :: xs, ρ, S => by
    unfold forL
    split
    · rename_i ρ1 _
      rcases h ρ1 S with e | e
      · rw [e]; exact .inl rfl
      · rw [e]
        cases b ρ1 S with
        | ok fl S1 => cases fl with
          | nx ρ2 => exact le_forL h xs ρ2 S1
          | ct ρ2 => exact le_forL h xs ρ2 S1
          | _ => exact .inr rfl
        | _ => exact .inr rfl
    · exact .inr rfl
theorem le_for {src src' : IA} {g : NG} {a b : IS} (h0 : LeE src src') (h : LeE a b) : LeE (sFor src g a) (sFor src' g b) := fun ρ S => le_sBind (h0 ρ) (fun xs S1 => le_forL h xs ρ S1) S
/-! ### got -/
theorem got_ex {cs : List GC} {nm : List Nat} {ie : IE} {ρ : Rho} {S S' : Store} {c f : Nat} {d : D} {q : GC} (h : ie ρ S = .ex c [(f, d)] S') (g : gcAt c cs = some q) (hf : q.f = f) : iGot cs nm ie ρ S = .ok (.lst [.str q.nm, d, .bl true]) S' := by
  unfold iGot
  rw [h]
  simp [g, getF, hf]
/-! ### the list of what was seen -/
theorem app_seen {S S' : Store} {m i : Nat} {xs : List D} {g : D} {ρ : Rho} {ie : IE} (hv : ρ.getD i none = some (.ref m)) (hm : m < S.next) (hg : S.get m = some (.lst xs)) (he : ie ρ S = .ok g S') (kq : Kq S S') (hx : xs.length < 100000) :
    ∃ S2, sExpr (iBM .l lstApp (iVar i) (iCons ie iNil)) ρ S = .ok (.nx ρ) S2 ∧ S2.get m = some (.lst (xs ++ [g])) ∧ m < S2.next ∧ Kp m S S2 := by
  have k : kindIs .l (.ref m) S = true := by simp [kindIs, hg]
  have g2 : S'.get m = some (.lst xs) := (kq.get m hm).trans hg
  refine ⟨S'.set m (.lst (xs ++ [g])), ?_, Store.get_set_self .., Nat.lt_of_lt_of_le hm kq.next, kq.kp.trans kp_set⟩
  simp only [sExpr, sBind, iBM, M.bind, iVar, hv, lift, k, if_true, iCons, he, M.ret, iNil, lstApp_get g2 hx]
theorem new_seen {S S' : Store} {g : D} {ρ : Rho} {i : Nat} {ie : IE} (he : ie ρ S = .ok g S') (kq : Kq S S') :
    ∃ S2 m, sAsg i (iLstM (iCons ie iNil)) ρ S = .ok (.nx (ρ.set i (some (.ref m)))) S2 ∧ S.next ≤ m ∧ m < S2.next ∧ S2.get m = some (.lst [g]) ∧ Kq S S2 := by
  refine ⟨S'.alloc (.lst [g]), S'.next, ?_, kq.next, Nat.lt_succ_self _, Store.get_alloc_self .., kq.trans kq_alloc⟩
  simp [sAsg, sBind, iLstM, iCons, iNil, M.bind, M.ret, he]
theorem frz_seen {S : Store} {m i : Nat} {xs : List D} {ρ : Rho} (hv : ρ.getD i none = some (.ref m)) (hg : S.get m = some (.lst xs)) : sFrz i ρ S = .ok (.nx (ρ.set i (some (.lst xs)))) (S.del m) := by
  simp only [sFrz, hv, hg, Option.bind_some, frzO]
theorem Bw.del {n m : Nat} {S : Store} (b : Bw S n) (h : n ≠ m) : Bw (S.del m) n := ⟨b.1, by rw [Store.get_del, if_neg h]; exact b.2⟩
/-! ### what is shown of equal data is equal -/
theorem ne_same {t : List Nat} {S : Store} : neD (.str t) (.str t) S = some (.bl false) := by
  simp [neD, op2, neS, eqS]
theorem eq_same {t : List Nat} {S : Store} : eqD (.str t) (.str t) S = some (.bl true) := by
  simp [eqD, op2, eqS]
theorem shown_ne {S : Store} {i j : Nat} {d : D} {ρ : Rho} {k B : Nat} (h1 : ρ.getD i none = some d) (h2 : ρ.getD j none = some d) (hr : Rp k B d) (hk : k ≤ 64) (hB : B ≤ 100000) {a b : IS} :
    sIf (iTst (iOp neD (iCB reprD (iCons (iVar i) iNil)) (iCB reprD (iCons (iVar j) iNil)))) a b ρ S = b ρ S := by
  obtain ⟨t, e⟩ := rep_of (S := S) hr hk hB
  simp only [sIf, sBind, iTst, iOp, M.bind, iCB, iCons, iVar, h1, h2, lift, iNil, M.ret, e, ne_same, isB, Bool.false_eq_true, if_false]
/-! ### are_letters, is_integer -/
section
variable (cs : List Nat) (tb : List (Tg × Tg × Bool))
def atA (c : Nat) : Int := match fstAt c abc with | some i => (i : Int) | none => -1
def pairsB : List Int → List Bool
  | a :: b :: r => decide (a < b) :: pairsB (b :: r)
  | _ => []
def areB (l : List Nat) : Bool := decide (2 ≤ l.length ∧ l.length ≤ 26) && (decide (0 ≤ (l.map atA).headD (-1)) && (pairsB (l.map atA)).all id)
theorem boolsOf_bl : ∀ bs : List Bool, boolsOf (bs.map D.bl) = some bs
  | [] => rfl
  | b :: bs => by simp [boolsOf, boolsOf_bl bs]
def ltF : D → D
  | .tup [.int a, .int b] => .bl (decide (a < b))
  | _ => .non
theorem zip_pairs : ∀ p : List Int, (zipD (p.map D.int) ((p.map D.int).drop 1)).map ltF = (pairsB p).map D.bl
  | [] => rfl
  | [a] => rfl
  | a :: b :: r => by
    have ih := zip_pairs (b :: r)
    simp only [List.map_cons, List.drop_succ_cons, List.drop_zero, zipD, pairsB, List.map_cons, ltF] at ih ⊢
    rw [ih]
theorem zip_ints : ∀ (p q : List Int) (x : D), x ∈ zipD (p.map D.int) (q.map D.int) → ∃ a b : Int, x = .tup [.int a, .int b]
  | [], q, x, h => by simp [zipD] at h
  | a :: p, [], x, h => by simp [zipD] at h
  | a :: p, b :: q, x, h => by
    have h' : x = .tup [.int a, .int b] ∨ x ∈ zipD (p.map D.int) (q.map D.int) := by simpa [zipD] using h
    rcases h' with e | e
    · exact ⟨a, b, e⟩
    · exact zip_ints p q x e
theorem are_gen {l : List Nat} {S : Store} (hl : l.length ≤ 1000) : dAre cs tb [.str l] S = .ok (.bl (areB l)) (S.trim S.next) := by
  have l1 : l.length ≤ 100000 := by omega
  have hs := isi_b (cs := cs) (tb := tb) (x := .str l) (S := S) (t := "str") rfl kit_ss
  show defJ 5 false (isAre cs tb) _ S = _
  have e0 : startR 5 [.str l] = [some (.str l), none, none, none, none] := rfl
  by_cases hz : 2 ≤ l.length ∧ l.length ≤ 26
  · have a1 : al1 cs tb [some (.str l), none, none, none, none] S = .ok (.nx [some (.str l), none, none, none, none]) S := by
      have z1 : (2 : Int) ≤ (l.length : Int) := by omega
      have z2 : (l.length : Int) ≤ 26 := by omega
      unfold al1
      simp [sSeq, sSetI, sSetIN, sBind, iOp, M.bind, lift, iVar, iC, M.ret, sIf, iTst, isB, iCB, iCons, iNil, sRet, sNext, sAsg, sExpr, sPar, sPar3, iCall, iIf, iOr, iAnd, iNot, iNotV, iAndV, iOrV, M.no, iLstM, iLst, iTup, sAsgG, ngD, nsD, iSl, iPart, iNoPart, iBM, iCM, iYes, hs, iChain, lenD_str l1, leI_int, z1, z2]
    have a2 : al2 [some (.str l), none, none, none, none] S = .ok (.nx [some (.str l), some (.lst ((l.map atA).map D.int)), none, none, none]) S := by
      have lc : lcL (.n 2) iYes (iBM .s strFind (iC (.str abc)) (iCons (iVar 2) iNil)) [some (.str l), none, none, none, none] (l.map fun c => .str [c]) S = .ok ((l.map fun c => D.str [c]).map fun x => match x with | .str [c] => .int (atA c) | _ => .non) S := by
        refine lcL_pure _ _ fun x hx => ?_
        obtain ⟨c, hc, rfl⟩ := List.mem_map.mp hx
        refine ⟨_, rfl, rfl, ?_⟩
        have sf : strFind (.str abc) [.str [c]] S = .ok (.int (atA c)) S := rfl
        simp [sSeq, sSetI, sSetIN, sBind, iOp, M.bind, lift, iVar, iC, M.ret, sIf, iTst, isB, iCB, iCons, iNil, sRet, sNext, sAsg, sExpr, sPar, sPar3, iCall, iIf, iOr, iAnd, iNot, iNotV, iAndV, iOrV, M.no, iLstM, iLst, iTup, sAsgG, ngD, nsD, iSl, iPart, iNoPart, iBM, iCM, iYes, kindIs, sf]
      have e : (l.map fun c => D.str [c]).map (fun x => match x with | .str [c] => D.int (atA c) | _ => .non) = (l.map atA).map D.int := by
        simp only [List.map_map]
        rfl
      rw [e] at lc
      have hlen : l.length < 100000 := by omega
      unfold al2
      simp only [sSeq, sSetI, sSetIN, sBind, iOp, M.bind, lift, iVar, iC, M.ret, sIf, iTst, isB, iCB, iCons, iNil, sRet, sNext, sAsg, sExpr, sPar, sPar3, iCall, iIf, iOr, iAnd, iNot, iNotV, iAndV, iOrV, M.no, iLstM, iLst, iTup, sAsgG, ngD, nsD, iSl, iPart, iNoPart, iBM, iCM, iYes, List.getD_cons_zero, iLc, iItems, items, wipeR, List.set_cons_succ, List.set_cons_zero, List.length_map, hlen, if_true, lc]
    have a3 : al3 [some (.str l), some (.lst ((l.map atA).map D.int)), none, none, none] S = .ok (.rt (.bl (areB l))) S := by
      have zi := zip_ints (l.map atA) ((l.map atA).drop 1)
      have lc : lcL (.t [3, 4]) iYes (iOp ltI (iVar 3) (iVar 4)) [some (.str l), some (.lst ((l.map atA).map D.int)), none, none, none] (zipD ((l.map atA).map D.int) (((l.map atA).map D.int).drop 1)) S = .ok ((zipD ((l.map atA).map D.int) (((l.map atA).map D.int).drop 1)).map ltF) S := by
        refine lcL_pure _ _ fun x hx => ?_
        obtain ⟨a, b, rfl⟩ := zi x (by rw [List.map_drop]; exact hx)
        refine ⟨_, rfl, rfl, ?_⟩
        simp [sSeq, sSetI, sSetIN, sBind, iOp, M.bind, lift, iVar, iC, M.ret, sIf, iTst, isB, iCB, iCons, iNil, sRet, sNext, sAsg, sExpr, sPar, sPar3, iCall, iIf, iOr, iAnd, iNot, iNotV, iAndV, iOrV, M.no, iLstM, iLst, iTup, sAsgG, ngD, nsD, iSl, iPart, iNoPart, iBM, iCM, iYes, ltI_int, ltF]
      rw [zip_pairs] at lc
      have hlen : (zipD ((l.map atA).map D.int) (((l.map atA).map D.int).drop 1)).length < 100000 := by
        rw [zipD_len]
        simp
        omega
      obtain ⟨c, r, rfl⟩ : ∃ c r, l = c :: r := by
        cases l with
        | nil => simp at hz
        | cons c r => exact ⟨c, r, rfl⟩
      have h0 : ixD (.lst (((c :: r).map atA).map D.int)) (.int 0) S = some (.int (atA c)) := by
        simp [ixD, op2, ixL, seqR, seqL, L2.atI, L2.ixN]
      have sl : slD (.lst (((c :: r).map atA).map D.int)) (some 1) none S = some (.lst ((((c :: r).map atA).map D.int).drop 1)) := by
        have := cut_drop (((c :: r).map atA).map D.int) 1
        simp only [slD, opc2, slL, seqR, seqL, Option.some_or]
        rw [← this]
        rfl
      have al : allD [.lst ((pairsB ((c :: r).map atA)).map D.bl)] S = some (.bl ((pairsB ((c :: r).map atA)).all id)) := by
        simp [allD, seqA, seqR, seqL, boolsOf_bl]
      have ar : areB (c :: r) = (decide (0 ≤ atA c) && (pairsB ((c :: r).map atA)).all id) := by
        unfold areB
        rw [decide_eq_true hz, Bool.true_and]
        rfl
      rw [ar]
      unfold al3
      by_cases hc : 0 ≤ atA c
      · simp only [sSeq, sSetI, sSetIN, sBind, iOp, M.bind, lift, iVar, iC, M.ret, sIf, iTst, isB, iCB, iCons, iNil, sRet, sNext, sAsg, sExpr, sPar, sPar3, iCall, iIf, iOr, iAnd, iNot, iNotV, iAndV, iOrV, M.no, iLstM, iLst, iTup, sAsgG, ngD, nsD, iSl, iPart, iNoPart, iBM, iCM, iYes, List.getD_cons_zero, List.getD_cons_succ, h0, geI_int, hc, decide_true, if_true, iLc, iZip, sl, zipOf, wipeR, List.set_cons_zero, List.set_cons_succ, lc, hlen, al, Bool.true_and]
      · simp only [sSeq, sSetI, sSetIN, sBind, iOp, M.bind, lift, iVar, iC, M.ret, sIf, iTst, isB, iCB, iCons, iNil, sRet, sNext, sAsg, sExpr, sPar, sPar3, iCall, iIf, iOr, iAnd, iNot, iNotV, iAndV, iOrV, M.no, iLstM, iLst, iTup, sAsgG, ngD, nsD, iSl, iPart, iNoPart, iBM, iCM, iYes, List.getD_cons_zero, List.getD_cons_succ, h0, geI_int, hc, decide_false, Bool.false_eq_true, if_false, Bool.false_and]
    unfold defJ isAre
    rw [e0, sSeq_nx a1, sSeq_nx a2, a3]
    rfl
  · have a1 : al1 cs tb [some (.str l), none, none, none, none] S = .ok (.rt (.bl false)) S := by
      unfold al1
      by_cases z : 2 ≤ l.length
      · have z1 : (2 : Int) ≤ (l.length : Int) := by omega
        have z2 : ¬ (l.length : Int) ≤ 26 := by omega
        simp [sSeq, sSetI, sSetIN, sBind, iOp, M.bind, lift, iVar, iC, M.ret, sIf, iTst, isB, iCB, iCons, iNil, sRet, sNext, sAsg, sExpr, sPar, sPar3, iCall, iIf, iOr, iAnd, iNot, iNotV, iAndV, iOrV, M.no, iLstM, iLst, iTup, sAsgG, ngD, nsD, iSl, iPart, iNoPart, iBM, iCM, iYes, hs, iChain, lenD_str l1, leI_int, z1, z2]
      · have z1 : ¬ (2 : Int) ≤ (l.length : Int) := by omega
        simp [sSeq, sSetI, sSetIN, sBind, iOp, M.bind, lift, iVar, iC, M.ret, sIf, iTst, isB, iCB, iCons, iNil, sRet, sNext, sAsg, sExpr, sPar, sPar3, iCall, iIf, iOr, iAnd, iNot, iNotV, iAndV, iOrV, M.no, iLstM, iLst, iTup, sAsgG, ngD, nsD, iSl, iPart, iNoPart, iBM, iCM, iYes, hs, iChain, lenD_str l1, leI_int, z1]
    have ar : areB l = false := by
      unfold areB
      rw [decide_eq_false hz, Bool.false_and]
    unfold defJ isAre sSeq
    rw [e0, a1, ar]
    rfl
/-- the kind of a value, as told without a store -/
def knd : D → Option String
  | .non => some "NoneType"
  | .bl _ => some "bool"
  | .int _ => some "int"
  | .str _ => some "str"
  | .tup _ => some "tuple"
  | .lst _ => some "list"
  | .dct _ _ => some "dict"
  | _ => none
theorem tag_knd {d : D} {t : String} {S : Store} (h : knd d = some t) : tagD d S = some (.b t) := by
  cases d <;> simp [knd] at h <;> subst h <;> rfl
/-- not of one kind -/
def notK (n : String) (d : D) : Bool := match knd d with
  | some t => decide (L2.kitB t n = some false)
  | none => false
def isK (n : String) (d : D) : Bool := match knd d with
  | some t => decide (L2.kitB t n = some true)
  | none => false
theorem isi_not {n : String} {d : D} {S : Store} (h : notK n d = true) : isiD cs tb [d, .ty n] S = some (.bl false) := by
  unfold notK at h
  split at h
  · rename_i t e
    exact isi_b (tag_knd e) (of_decide_eq_true h)
  · cases h
theorem isi_yes {n : String} {d : D} {S : Store} (h : isK n d = true) : isiD cs tb [d, .ty n] S = some (.bl true) := by
  unfold isK at h
  split at h
  · rename_i t e
    exact isi_b (tag_knd e) (of_decide_eq_true h)
  · cases h
theorem are_kind {d : D} {S : Store} (h : notK "str" d = true) : dAre cs tb [d] S = .ok (.bl false) (S.trim S.next) := by
  have hs := isi_not cs tb (S := S) h
  unfold dAre defJ isAre al1 startR
  simp [sSeq, sSetI, sSetIN, sBind, iOp, M.bind, lift, iVar, iC, M.ret, sIf, iTst, isB, iCB, iCons, iNil, sRet, sNext, sAsg, sExpr, sPar, sPar3, iCall, iIf, iOr, iAnd, iNot, iNotV, iAndV, iOrV, M.no, iLstM, iLst, iTup, sAsgG, ngD, nsD, iSl, iPart, iNoPart, iBM, iCM, iYes, hs]
/-- no alphabet -/
def badL (d : D) : Bool := match d with
  | .str l => decide (l.length ≤ 1000) && !areB l
  | d => notK "str" d
theorem are_bad {d : D} {S : Store} (h : badL d = true) : dAre cs tb [d] S = .ok (.bl false) (S.trim S.next) := by
  unfold badL at h
  split at h
  · rename_i l
    rw [Bool.and_eq_true, decide_eq_true_eq, Bool.not_eq_true'] at h
    rw [are_gen cs tb h.1, h.2]
  · exact are_kind cs tb h
theorem int_not {d : D} {S : Store} (h : (notK "int" d || (isK "int" d && isK "bool" d)) = true) : dInt cs tb [d] S = .ok (.bl false) (S.trim S.next) := by
  rw [Bool.or_eq_true, Bool.and_eq_true] at h
  unfold dInt defJ isInt startR
  rcases h with h | ⟨h, g⟩
  · have h1 := isi_not cs tb (S := S) h
    simp [sSeq, sSetI, sSetIN, sBind, iOp, M.bind, lift, iVar, iC, M.ret, sIf, iTst, isB, iCB, iCons, iNil, sRet, sNext, sAsg, sExpr, sPar, sPar3, iCall, iIf, iOr, iAnd, iNot, iNotV, iAndV, iOrV, M.no, iLstM, iLst, iTup, sAsgG, ngD, nsD, iSl, iPart, iNoPart, iBM, iCM, iYes, h1]
  · have h1 := isi_yes cs tb (S := S) h
    have h2 := isi_yes cs tb (S := S) g
    simp [sSeq, sSetI, sSetIN, sBind, iOp, M.bind, lift, iVar, iC, M.ret, sIf, iTst, isB, iCB, iCons, iNil, sRet, sNext, sAsg, sExpr, sPar, sPar3, iCall, iIf, iOr, iAnd, iNot, iNotV, iAndV, iOrV, M.no, iLstM, iLst, iTup, sAsgG, ngD, nsD, iSl, iPart, iNoPart, iBM, iCM, iYes, h1, h2]
/-- no whole number of a..b -/
def badI (a b : Int) (d : D) : Bool := match d with
  | .int i => decide (¬ (a ≤ i ∧ i ≤ b))
  | d => notK "int" d || (isK "int" d && isK "bool" d)
end
section
variable (T : Tab) (cs : List Nat) (tb : List (Tg × Tg × Bool)) (r1 r2 : IS)
def isInitX : IS := sSeq (sIf (iNot (iTst (iCall 1 (dAre cs tb) (iCons (iVar 1) iNil)))) r1 sNext) (sSeq (sIf (iOr (iNot (iTst (iCall 1 (dInt cs tb) (iCons (iVar 2) iNil)))) (iNot (iTst (iChain leI leI (iC (.int 1)) (iVar 2) (iC (.int 6)))))) r2 sNext) (sSeq (in3 T) (in4 T)))
def dInitX : List D → M D := defJ 3 true (isInitX T cs tb r1 r2)
theorem init_le : LeD (dInit T cs tb) (dInitX T cs tb r1 r2) := le_def (le_seq le_ifn (le_seq le_ifn le_rfl))
theorem make_okX (hT : T.fs 0 = [0, 1]) {S : Store} {l : List Nat} {k : Int} (h : Sg l) (h2 : 2 ≤ l.length) (k1 : 1 ≤ k) (k2 : k ≤ 6) :
    ∃ S', makeD T true 0 3 (dInitX T cs tb r1 r2) [.str l, .int k] S = .ok (bd l k) S' ∧ Kq S S' := by
  obtain ⟨S', e, q⟩ := make_ok T cs tb hT (S := S) h h2 k1 k2
  exact ⟨S', (le_makeD (init_le T cs tb r1 r2) _ _).ok e, q⟩
theorem make_bad1 {c f : Nat} {S : Store} {d x : D} (h : badL d = true) : ∃ S', makeD T true 0 3 (dInitX T cs tb (sRaise c f (iVar 1)) r2) [d, x] S = .ex c [(f, d)] S' ∧ Kq S S' := by
  have a := are_bad cs tb (S := S.alloc (.ins 0 [])) h
  refine ⟨(S.alloc (.ins 0 [])).trim (S.next + 1), ?_, kq_alloc.trans (kq_trim (Kq.refl _))⟩
  have n1 : (S.alloc (.ins 0 [])).next = S.next + 1 := rfl
  rw [n1] at a
  unfold makeD dInitX defJ isInitX startR
  simp [sSeq, sSetI, sSetIN, sBind, iOp, M.bind, lift, iVar, iC, M.ret, sIf, iTst, isB, iCB, iCons, iNil, sRet, sNext, sAsg, sExpr, sPar, sPar3, iCall, iIf, iOr, iAnd, iNot, iNotV, iAndV, iOrV, M.no, iLstM, iLst, iTup, sAsgG, ngD, nsD, iSl, iPart, iNoPart, iBM, iCM, iYes, a, sRaise]
theorem make_bad2 {c f : Nat} {S : Store} {l : List Nat} {x : D} (h : Sg l) (h2 : 2 ≤ l.length) (g : badI 1 6 x = true) : ∃ S', makeD T true 0 3 (dInitX T cs tb r1 (sRaise c f (iVar 2))) [.str l, x] S = .ex c [(f, x)] S' ∧ Kq S S' := by
  have a := are_ok cs tb (S := S.alloc (.ins 0 [])) h h2
  have n1 : (S.alloc (.ins 0 [])).next = S.next + 1 := rfl
  rw [n1] at a
  refine ⟨((S.alloc (.ins 0 [])).trim (S.next + 1)).trim (S.next + 1), ?_, (kq_alloc.trans (kq_trim (Kq.refl _))).trans (kq_trim (Kq.refl _))⟩
  have n2 : ((S.alloc (.ins 0 [])).trim (S.next + 1)).next = S.next + 1 := rfl
  unfold makeD dInitX defJ isInitX startR
  unfold badI at g
  split at g
  · rename_i i
    have b := int_ok cs tb (S := (S.alloc (.ins 0 [])).trim (S.next + 1)) (i := i)
    rw [n2] at b
    have g' := of_decide_eq_true g
    by_cases z : 1 ≤ i
    · have z2 : ¬ i ≤ 6 := fun q => g' ⟨z, q⟩
      simp [sSeq, sSetI, sSetIN, sBind, iOp, M.bind, lift, iVar, iC, M.ret, sIf, iTst, isB, iCB, iCons, iNil, sRet, sNext, sAsg, sExpr, sPar, sPar3, iCall, iIf, iOr, iAnd, iNot, iNotV, iAndV, iOrV, M.no, iLstM, iLst, iTup, sAsgG, ngD, nsD, iSl, iPart, iNoPart, iBM, iCM, iYes, a, b, iChain, leI_int, z, z2, sRaise]
    · simp [sSeq, sSetI, sSetIN, sBind, iOp, M.bind, lift, iVar, iC, M.ret, sIf, iTst, isB, iCB, iCons, iNil, sRet, sNext, sAsg, sExpr, sPar, sPar3, iCall, iIf, iOr, iAnd, iNot, iNotV, iAndV, iOrV, M.no, iLstM, iLst, iTup, sAsgG, ngD, nsD, iSl, iPart, iNoPart, iBM, iCM, iYes, a, b, iChain, leI_int, z, sRaise]
  · have b := int_not cs tb (S := (S.alloc (.ins 0 [])).trim (S.next + 1)) g
    rw [n2] at b
    simp [sSeq, sSetI, sSetIN, sBind, iOp, M.bind, lift, iVar, iC, M.ret, sIf, iTst, isB, iCB, iCons, iNil, sRet, sNext, sAsg, sExpr, sPar, sPar3, iCall, iIf, iOr, iAnd, iNot, iNotV, iAndV, iOrV, M.no, iLstM, iLst, iTup, sAsgG, ngD, nsD, iSl, iPart, iNoPart, iBM, iCM, iYes, a, b, sRaise]
end
/-! ### what is answered by repr, checked -/
open PySem.PyData (showable depth shown) in
def rpB (k B : Nat) (d : D) : Bool := match toPz d with
  | some p => showable p && (decide (depth p ≤ k) && decide ((shown p).length ≤ B))
  | none => false
theorem rp_of {k B : Nat} {d : D} (h : rpB k B d = true) : Rp k B d := by
  unfold rpB at h
  split at h
  · rename_i p e
    rw [Bool.and_eq_true, Bool.and_eq_true, decide_eq_true_eq, decide_eq_true_eq] at h
    exact ⟨p, e, h.1, h.2.1, h.2.2⟩
  · cases h
end J

set_option Elab.async false
set_option linter.all false
set_option maxRecDepth 100000
set_option maxHeartbeats 1010000
/-! PS: plain laws: the second way to draw (a well) -/
namespace J
def isDraw : IS := (sSeq (sSetI setL (iOp addD (iOp ixD (iVar 0) (iC (.int 2))) (iC (.int 1))) (iVar 0) (iC (.int 2))) (sSeq (sIf (iTst (iOp gtI (iOp ixD (iVar 0) (iC (.int 1))) (iC (.int 0)))) (sSeq (sSetIN setL (iCB divmodD (iCons (iCB intD (iCons (iOp ixD (iVar 0) (iC (.int 1))) iNil)) (iCons (iVar 1) iNil))) (iVar 0) (iC (.int 1)) 2) (sRet (iVar 2))) sNext) (sSeq (sSetI setL (iOp modI (iCB intD (iCons (iOp addD (iOp addD (iOp mulD (iOp ixD (iVar 0) (iC (.int 0))) (iC (.int 48271))) (iOp mulD (iOp fdivI (iOp ixD (iVar 0) (iC (.int 0))) (iC (.int 65537))) (iC (.int 101)))) (iOp mulD (iOp ixD (iVar 0) (iC (.int 2))) (iC (.int 1000003)))) iNil)) (iC (.int 2147483629))) (iVar 0) (iC (.int 0))) (sRet (iOp modI (iCB intD (iCons (iOp fdivI (iOp ixD (iVar 0) (iC (.int 0))) (iC (.int 97))) iNil)) (iVar 1))))))
def dDraw : List D → M D := defJ 3 false isDraw
theorem draw_ok {S : Store} {n : Nat} {k : Int} (h : Bw S n) (hk : 0 < k) (hk2 : k < 1073741824) : ∃ r S', dDraw [.ref n, .int k] S = .ok (.int r) S' ∧ 0 ≤ r ∧ r < k ∧ Bw S' n ∧ Kp n S S' := by
  obtain ⟨hn, a, b, c, e⟩ := h
  unfold dDraw defJ isDraw startR
  by_cases hb : 0 < b
  · simp [sSeq, sSetI, sSetIN, sBind, iOp, M.bind, lift, iVar, iC, M.ret, ixD, op2, ixL, seqR, seqL, seqT, setL, L2.ixN, L2.atI, addD, addI, subI, opI0, sIf, iTst, isB, gtI, ltI, leI, geI, iCB, iCons, iNil, intD, divmodD, absD, sRet, sNext, sAsg, sExpr, sPar, sPar3, modI, mulD, mulI, powI, opI, fdivI, iCall, iIf, iOr, iAnd, iNot, iNotV, iAndV, iOrV, M.no, iLstM, iLst, iTup, sAsgG, ngD, nsD, e, hb, hk, hk2]
    exact ⟨_, _, ⟨rfl, rfl⟩, Int.emod_nonneg _ (by omega), Int.emod_lt_of_pos _ hk, dip_end hn ⟨_, _, _, rfl⟩⟩
  · simp [sSeq, sSetI, sSetIN, sBind, iOp, M.bind, lift, iVar, iC, M.ret, ixD, op2, ixL, seqR, seqL, seqT, setL, L2.ixN, L2.atI, addD, addI, subI, opI0, sIf, iTst, isB, gtI, ltI, leI, geI, iCB, iCons, iNil, intD, divmodD, absD, sRet, sNext, sAsg, sExpr, sPar, sPar3, modI, mulD, mulI, powI, opI, fdivI, iCall, iIf, iOr, iAnd, iNot, iNotV, iAndV, iOrV, M.no, iLstM, iLst, iTup, sAsgG, ngD, nsD, e, hb, hk, hk2]
    exact ⟨_, _, ⟨rfl, rfl⟩, Int.emod_nonneg _ (by omega), Int.emod_lt_of_pos _ hk, dip_end hn ⟨_, _, _, rfl⟩⟩
def wl1 : IS := sAsg 2 (iIf (iTst (iOp ltI (iVar 1) (iCB lenD (iCons (iVar 0) iNil)))) (iCB intD (iCons (iOp ixD (iVar 0) (iVar 1)) iNil)) (iOp addD (iOp mulD (iC (.int 29)) (iVar 1)) (iC (.int 11))))
def wl2 : IS := sAsg 3 (iOp addD (iC (.int 51001)) (iOp mulD (iC (.int 733)) (iVar 1)))
def wl3b : IS := sAsg 3 (iOp modI (iCB intD (iCons (iOp addD (iOp mulD (iVar 3) (iC (.int 39373))) (iOp modI (iCB intD (iCons (iVar 4) iNil)) (iC (.int 2147483629)))) iNil)) (iC (.int 2147483629)))
def wl3 : IS := sFor (iItems (iSl slD (iVar 0) iNoPart (iPart (iC (.int 63))))) (.n 4) wl3b
def wl4 : IS := sAsg 5 (iIf (iOr (iTst (iOp ltI (iVar 2) (iC (.int 0)))) (iTst (iOp geI (iVar 2) (iOp powI (iC (.int 10)) (iC (.int 16)))))) (iCB absD (iCons (iVar 2) iNil)) (iC (.int 0)))
def wl5 : IS := sRet (iLstM (iCons (iOp modI (iCB intD (iCons (iOp addD (iVar 3) (iOp modI (iCB intD (iCons (iVar 2) iNil)) (iC (.int 2147483629)))) iNil)) (iC (.int 2147483629))) (iCons (iVar 5) (iCons (iC (.int 0)) iNil))))
def isWell : IS := sSeq wl1 (sSeq wl2 (sSeq wl3 (sSeq wl4 wl5)))
def dWell : List D → M D := defJ 6 true isWell
theorem wl1_ok {S : Store} {ns : List Int} {k : Nat} : ∃ own : Int, wl1 [some (.scr (ns.map D.int)), some (.int k), none, none, none, none] S = .ok (.nx [some (.scr (ns.map D.int)), some (.int k), some (.int own), none, none, none]) S := by
  unfold wl1
  by_cases h : k < ns.length
  · refine ⟨ns[k], ?_⟩
    have h1 : ((k : Int) < ((ns.length : Nat) : Int)) := by omega
    simp [sSeq, sSetI, sSetIN, sBind, iOp, M.bind, lift, iVar, iC, M.ret, ixD, op2, ixL, seqR, seqL, seqT, setL, L2.ixN, L2.atI, addD, addI, subI, opI0, sIf, iTst, isB, gtI, ltI, leI, geI, iCB, iCons, iNil, intD, divmodD, absD, sRet, sNext, sAsg, sExpr, sPar, sPar3, modI, mulD, mulI, powI, opI, fdivI, iCall, iIf, iOr, iAnd, iNot, iNotV, iAndV, iOrV, M.no, iLstM, iLst, iTup, sAsgG, ngD, nsD, lenD, seqA, h1, h]
  · refine ⟨29 * (k : Int) + 11, ?_⟩
    have h1 : ¬ ((k : Int) < ((ns.length : Nat) : Int)) := by omega
    simp [sSeq, sSetI, sSetIN, sBind, iOp, M.bind, lift, iVar, iC, M.ret, ixD, op2, ixL, seqR, seqL, seqT, setL, L2.ixN, L2.atI, addD, addI, subI, opI0, sIf, iTst, isB, gtI, ltI, leI, geI, iCB, iCons, iNil, intD, divmodD, absD, sRet, sNext, sAsg, sExpr, sPar, sPar3, modI, mulD, mulI, powI, opI, fdivI, iCall, iIf, iOr, iAnd, iNot, iNotV, iAndV, iOrV, M.no, iLstM, iLst, iTup, sAsgG, ngD, nsD, lenD, seqA, h1, h]
theorem wl3_ok {S : Store} {ns : List Int} {k : Nat} {own m : Int} : ∃ (m' : Int) (x : Option D), wl3 [some (.scr (ns.map D.int)), some (.int k), some (.int own), some (.int m), none, none] S = .ok (.nx [some (.scr (ns.map D.int)), some (.int k), some (.int own), some (.int m'), x, none]) S := by
  have key := forL_inv (g := .n 4) (body := wl3b) (fun _ ρ S' => S' = S ∧ ∃ (m' : Int) (x : Option D), ρ = [some (.scr (ns.map D.int)), some (.int k), some (.int own), some (.int m'), x, none]) (cutD (ns.map D.int) none (some 63)) 0 [some (.scr (ns.map D.int)), some (.int k), some (.int own), some (.int m), none, none] S ⟨rfl, m, none, rfl⟩ (by
    rintro j x ρ S1 hx ⟨rfl, m', y, rfl⟩
    have hm : x ∈ ns.map D.int := List.mem_of_mem_drop (List.mem_of_mem_take (List.mem_of_getElem? hx))
    obtain ⟨i, _, rfl⟩ := List.mem_map.mp hm
    refine ⟨_, [some (.scr (ns.map D.int)), some (.int k), some (.int own), some (.int ((m' * 39373 + i % 2147483629) % 2147483629)), some (.int i), none], S1, rfl, ?_, rfl, _, _, rfl⟩
    simp [sSeq, sSetI, sSetIN, sBind, iOp, M.bind, lift, iVar, iC, M.ret, ixD, op2, ixL, seqR, seqL, seqT, setL, L2.ixN, L2.atI, addD, addI, subI, opI0, sIf, iTst, isB, gtI, ltI, leI, geI, iCB, iCons, iNil, intD, divmodD, absD, sRet, sNext, sAsg, sExpr, sPar, sPar3, modI, mulD, mulI, powI, opI, fdivI, iCall, iIf, iOr, iAnd, iNot, iNotV, iAndV, iOrV, M.no, iLstM, iLst, iTup, sAsgG, ngD, nsD, wl3b])
  obtain ⟨ρ', S', e, rfl, m', x, rfl⟩ := key
  refine ⟨m', x, ?_⟩
  rw [← e]
  simp [sSeq, sSetI, sSetIN, sBind, iOp, M.bind, lift, iVar, iC, M.ret, ixD, op2, ixL, seqR, seqL, seqT, setL, L2.ixN, L2.atI, addD, addI, subI, opI0, sIf, iTst, isB, gtI, ltI, leI, geI, iCB, iCons, iNil, intD, divmodD, absD, sRet, sNext, sAsg, sExpr, sPar, sPar3, modI, mulD, mulI, powI, opI, fdivI, iCall, iIf, iOr, iAnd, iNot, iNotV, iAndV, iOrV, M.no, iLstM, iLst, iTup, sAsgG, ngD, nsD, wl3, sFor, iItems, iSl, slD, opc2, slL, items, iNoPart, iPart]
theorem well_ok {S : Store} {ns : List Int} {k : Nat} : ∃ S', dWell [.scr (ns.map D.int), .int k] S = .ok (.ref S.next) S' ∧ Bw S' S.next ∧ Kq S S' := by
  obtain ⟨own, e1⟩ := wl1_ok (S := S) (ns := ns) (k := k)
  obtain ⟨m', x, e3⟩ := wl3_ok (S := S) (ns := ns) (k := k) (own := own) (m := 51001 + 733 * (k : Int))
  have e2 : wl2 [some (.scr (ns.map D.int)), some (.int k), some (.int own), none, none, none] S = .ok (.nx [some (.scr (ns.map D.int)), some (.int k), some (.int own), some (.int (51001 + 733 * (k : Int))), none, none]) S := by
    simp [sSeq, sSetI, sSetIN, sBind, iOp, M.bind, lift, iVar, iC, M.ret, ixD, op2, ixL, seqR, seqL, seqT, setL, L2.ixN, L2.atI, addD, addI, subI, opI0, sIf, iTst, isB, gtI, ltI, leI, geI, iCB, iCons, iNil, intD, divmodD, absD, sRet, sNext, sAsg, sExpr, sPar, sPar3, modI, mulD, mulI, powI, opI, fdivI, iCall, iIf, iOr, iAnd, iNot, iNotV, iAndV, iOrV, M.no, iLstM, iLst, iTup, sAsgG, ngD, nsD, wl2]
  have e4 : ∃ b : Int, wl4 [some (.scr (ns.map D.int)), some (.int k), some (.int own), some (.int m'), x, none] S = .ok (.nx [some (.scr (ns.map D.int)), some (.int k), some (.int own), some (.int m'), x, some (.int b)]) S := by
    by_cases h1 : own < 0
    · refine ⟨-own, ?_⟩
      simp [sSeq, sSetI, sSetIN, sBind, iOp, M.bind, lift, iVar, iC, M.ret, ixD, op2, ixL, seqR, seqL, seqT, setL, L2.ixN, L2.atI, addD, addI, subI, opI0, sIf, iTst, isB, gtI, ltI, leI, geI, iCB, iCons, iNil, intD, divmodD, absD, sRet, sNext, sAsg, sExpr, sPar, sPar3, modI, mulD, mulI, powI, opI, fdivI, iCall, iIf, iOr, iAnd, iNot, iNotV, iAndV, iOrV, M.no, iLstM, iLst, iTup, sAsgG, ngD, nsD, wl4, h1]
    · by_cases h2 : (10000000000000000 : Int) ≤ own
      · refine ⟨own, ?_⟩
        simp [sSeq, sSetI, sSetIN, sBind, iOp, M.bind, lift, iVar, iC, M.ret, ixD, op2, ixL, seqR, seqL, seqT, setL, L2.ixN, L2.atI, addD, addI, subI, opI0, sIf, iTst, isB, gtI, ltI, leI, geI, iCB, iCons, iNil, intD, divmodD, absD, sRet, sNext, sAsg, sExpr, sPar, sPar3, modI, mulD, mulI, powI, opI, fdivI, iCall, iIf, iOr, iAnd, iNot, iNotV, iAndV, iOrV, M.no, iLstM, iLst, iTup, sAsgG, ngD, nsD, wl4, h1, h2]
      · refine ⟨0, ?_⟩
        simp [sSeq, sSetI, sSetIN, sBind, iOp, M.bind, lift, iVar, iC, M.ret, ixD, op2, ixL, seqR, seqL, seqT, setL, L2.ixN, L2.atI, addD, addI, subI, opI0, sIf, iTst, isB, gtI, ltI, leI, geI, iCB, iCons, iNil, intD, divmodD, absD, sRet, sNext, sAsg, sExpr, sPar, sPar3, modI, mulD, mulI, powI, opI, fdivI, iCall, iIf, iOr, iAnd, iNot, iNotV, iAndV, iOrV, M.no, iLstM, iLst, iTup, sAsgG, ngD, nsD, wl4, h1, h2]
  obtain ⟨b, e4⟩ := e4
  have e5 : wl5 [some (.scr (ns.map D.int)), some (.int k), some (.int own), some (.int m'), x, some (.int b)] S = .ok (.rt (.ref S.next)) (S.alloc (.lst [.int ((m' + own % 2147483629) % 2147483629), .int b, .int 0])) := by
    simp [sSeq, sSetI, sSetIN, sBind, iOp, M.bind, lift, iVar, iC, M.ret, ixD, op2, ixL, seqR, seqL, seqT, setL, L2.ixN, L2.atI, addD, addI, subI, opI0, sIf, iTst, isB, gtI, ltI, leI, geI, iCB, iCons, iNil, intD, divmodD, absD, sRet, sNext, sAsg, sExpr, sPar, sPar3, modI, mulD, mulI, powI, opI, fdivI, iCall, iIf, iOr, iAnd, iNot, iNotV, iAndV, iOrV, M.no, iLstM, iLst, iTup, sAsgG, ngD, nsD, wl5]
  refine ⟨S.alloc (.lst [.int ((m' + own % 2147483629) % 2147483629), .int b, .int 0]), ?_, ⟨Nat.lt_succ_self _, (m' + own % 2147483629) % 2147483629, b, 0, Store.get_alloc_self ..⟩, kq_alloc⟩
  show defJ 6 true isWell _ S = _
  unfold defJ isWell
  have e0 : startR 6 [.scr (ns.map D.int), .int k] = [some (.scr (ns.map D.int)), some (.int k), none, none, none, none] := rfl
  rw [e0, sSeq_nx e1, sSeq_nx e2, sSeq_nx e3, sSeq_nx e4, e5]
  rfl
def isOne : IS := (sRet (iOp ixD (iVar 1) (iCall 2 dDraw (iCons (iVar 0) (iCons (iCB lenD (iCons (iVar 1) iNil)) iNil)))))
def dOne : List D → M D := defJ 2 false isOne
theorem one_str {S : Store} {n : Nat} {l : List Nat} (b : Bw S n) (h : 0 < l.length) (h2 : l.length ≤ 1000) : ∃ c S', dOne [.ref n, .str l] S = .ok (.str [c]) S' ∧ c ∈ l ∧ Bw S' n ∧ Kp n S S' := by
  obtain ⟨r, S1, e1, r0, r1, b1, k1⟩ := draw_ok (k := (l.length : Int)) b (by omega) (by omega)
  obtain ⟨q, rfl⟩ := Int.eq_ofNat_of_zero_le r0
  have hq : q < l.length := by omega
  have hn := b.1
  refine ⟨l[q], S1.trim S.next, ?_, List.getElem_mem _, bw_trim b1 hn, kp_trim k1⟩
  unfold dOne defJ isOne startR
  simp [sSeq, sSetI, sSetIN, sBind, iOp, M.bind, lift, iVar, iC, M.ret, sIf, iTst, isB, iCB, iCons, iNil, sRet, sNext, sAsg, sExpr, sPar, sPar3, iCall, iIf, iOr, iAnd, iNot, iNotV, iAndV, iOrV, M.no, iLstM, iLst, iTup, sAsgG, ngD, nsD, iSl, iPart, iNoPart, iBM, iCM, iYes, lenD_str (show l.length ≤ 100000 by omega), e1, ixD_str hq (show l.length ≤ 100000 by omega)]
theorem one_lst {S : Store} {n : Nat} {xs : List D} (b : Bw S n) (h : 0 < xs.length) (h2 : xs.length ≤ 1000) : ∃ d S', dOne [.ref n, .lst xs] S = .ok d S' ∧ d ∈ xs ∧ Bw S' n ∧ Kp n S S' := by
  obtain ⟨r, S1, e1, r0, r1, b1, k1⟩ := draw_ok (k := (xs.length : Int)) b (by omega) (by omega)
  obtain ⟨q, rfl⟩ := Int.eq_ofNat_of_zero_le r0
  have hq : q < xs.length := by omega
  have hn := b.1
  refine ⟨xs[q], S1.trim S.next, ?_, List.getElem_mem _, bw_trim b1 hn, kp_trim k1⟩
  unfold dOne defJ isOne startR
  simp [sSeq, sSetI, sSetIN, sBind, iOp, M.bind, lift, iVar, iC, M.ret, sIf, iTst, isB, iCB, iCons, iNil, sRet, sNext, sAsg, sExpr, sPar, sPar3, iCall, iIf, iOr, iAnd, iNot, iNotV, iAndV, iOrV, M.no, iLstM, iLst, iTup, sAsgG, ngD, nsD, iSl, iPart, iNoPart, iBM, iCM, iYes, lenD_lst (show xs.length ≤ 100000 by omega), e1, ixD_lst hq]
def wt1 : IS := (sAsg 3 (iVar 1))
def wt2 : IS := (sIf (iTst (iOp eqD (iCall 2 dDraw (iCons (iVar 0) (iCons (iC (.int 3)) iNil))) (iC (.int 0)))) (sAsg 3 (iOp addD (iCall 2 dOne (iCons (iVar 0) (iCons (iVar 1) iNil))) (iCall 2 dOne (iCons (iVar 0) (iCons (iVar 1) iNil))))) sNext)
def wt3 : IS := (sRet (iBM .s strJoin (iC (.str [])) (iCons (iLc (iRange range1 (iCons (iVar 2) iNil)) (.n 4) iYes (iCall 2 dOne (iCons (iVar 0) (iCons (iVar 3) iNil))) [4]) iNil)))
def isText : IS := sSeq wt1 (sSeq wt2 wt3)
def dText : List D → M D := defJ 5 false isText
theorem text_ok {S : Store} {n : Nat} {l : List Nat} {k : Nat} (b : Bw S n) (h : 0 < l.length) (h2 : l.length ≤ 500) (hk : k ≤ 500) : ∃ w S', dText [.ref n, .str l, .int (k : Int)] S = .ok (.str w) S' ∧ w.length = k ∧ (∀ c ∈ w, c ∈ l) ∧ Bw S' n ∧ Kp n S S' := by
  have hn := b.1
  have e1 : wt1 [some (.ref n), some (.str l), some (.int (k : Int)), none, none] S = .ok (.nx [some (.ref n), some (.str l), some (.int (k : Int)), some (.str l), none]) S := by
    simp [sSeq, sSetI, sSetIN, sBind, iOp, M.bind, lift, iVar, iC, M.ret, sIf, iTst, isB, iCB, iCons, iNil, sRet, sNext, sAsg, sExpr, sPar, sPar3, iCall, iIf, iOr, iAnd, iNot, iNotV, iAndV, iOrV, M.no, iLstM, iLst, iTup, sAsgG, ngD, nsD, iSl, iPart, iNoPart, iBM, iCM, iYes, wt1]
  have e2 : ∃ m S1, wt2 [some (.ref n), some (.str l), some (.int (k : Int)), some (.str l), none] S = .ok (.nx [some (.ref n), some (.str l), some (.int (k : Int)), some (.str m), none]) S1 ∧ 0 < m.length ∧ m.length ≤ 500 ∧ (∀ c ∈ m, c ∈ l) ∧ Bw S1 n ∧ Kp n S S1 := by
    obtain ⟨r, S1, d1, r0, r1, b1, k1⟩ := draw_ok (k := 3) b (by omega) (by omega)
    by_cases hr : r = 0
    · obtain ⟨c, S2, d2, hc, b2, k2⟩ := one_str b1 h (by omega)
      obtain ⟨d, S3, d3, hd, b3, k3⟩ := one_str b2 h (by omega)
      refine ⟨[c, d], S3, ?_, by simp, by simp, by simp [hc, hd], b3, (k1.trans k2).trans k3⟩
      simp [sSeq, sSetI, sSetIN, sBind, iOp, M.bind, lift, iVar, iC, M.ret, sIf, iTst, isB, iCB, iCons, iNil, sRet, sNext, sAsg, sExpr, sPar, sPar3, iCall, iIf, iOr, iAnd, iNot, iNotV, iAndV, iOrV, M.no, iLstM, iLst, iTup, sAsgG, ngD, nsD, iSl, iPart, iNoPart, iBM, iCM, iYes, wt2, d1, d2, d3, hr, eqD_int, addD_str]
    · refine ⟨l, S1, ?_, h, h2, fun c hc => hc, b1, k1⟩
      simp [sSeq, sSetI, sSetIN, sBind, iOp, M.bind, lift, iVar, iC, M.ret, sIf, iTst, isB, iCB, iCons, iNil, sRet, sNext, sAsg, sExpr, sPar, sPar3, iCall, iIf, iOr, iAnd, iNot, iNotV, iAndV, iOrV, M.no, iLstM, iLst, iTup, sAsgG, ngD, nsD, iSl, iPart, iNoPart, iBM, iCM, iYes, wt2, d1, hr, eqD_int]
  obtain ⟨m, S1, e2, m0, m1, hm, b1, k1⟩ := e2
  have key := lcL_inv (g := .n 4) (t := iYes) (ie := iCall 2 dOne (iCons (iVar 0) (iCons (iVar 3) iNil))) (ρ := [some (.ref n), some (.str l), some (.int (k : Int)), some (.str m), none]) (fun _ S' => Bw S' n ∧ Kp n S S') (fun _ d => ∃ c ∈ m, d = .str [c]) (rng 0 k) 0 S1 ⟨b1, k1⟩ (by
    rintro j x S2 hx ⟨b2, k2⟩
    obtain ⟨c, S3, d3, hc, b3, k3⟩ := one_str b2 m0 (by omega)
    refine ⟨_, .str [c], S2, S3, rfl, rfl, ?_, ⟨c, hc, rfl⟩, b3, k2.trans k3⟩
    simp [sSeq, sSetI, sSetIN, sBind, iOp, M.bind, lift, iVar, iC, M.ret, sIf, iTst, isB, iCB, iCons, iNil, sRet, sNext, sAsg, sExpr, sPar, sPar3, iCall, iIf, iOr, iAnd, iNot, iNotV, iAndV, iOrV, M.no, iLstM, iLst, iTup, sAsgG, ngD, nsD, iSl, iPart, iNoPart, iBM, iCM, iYes, d3])
  obtain ⟨rs, S2, e3, l3, p3, b2, k2⟩ := key
  obtain ⟨w, rfl, hw⟩ := chars_of (rs := rs) (l := m) fun d hd => by
    obtain ⟨j, hj⟩ := List.mem_iff_getElem?.mp hd
    exact p3 j d hj
  rw [List.length_map, rng_len] at l3
  refine ⟨w, S2.trim S.next, ?_, l3, fun c hc => hm c (hw c hc), bw_trim b2 hn, kp_trim k2⟩
  have er : range1 [.int (k : Int)] = some (rng 0 k) := by
    have z1 : (-100000 : Int) ≤ (k : Int) := by omega
    have z2 : (k : Int) ≤ 100000 := by omega
    simp [range1, z1, z2]
  have e4 : wt3 [some (.ref n), some (.str l), some (.int (k : Int)), some (.str m), none] S1 = .ok (.rt (.str w)) S2 := by
    have hl : (rng 0 k).length < 100000 := by rw [rng_len]; omega
    simp [sSeq, sSetI, sSetIN, sBind, iOp, M.bind, lift, iVar, iC, M.ret, sIf, iTst, isB, iCB, iCons, iNil, sRet, sNext, sAsg, sExpr, sPar, sPar3, iCall, iIf, iOr, iAnd, iNot, iNotV, iAndV, iOrV, M.no, iLstM, iLst, iTup, sAsgG, ngD, nsD, iSl, iPart, iNoPart, iBM, iCM, iYes, wt3, iLc, iRange, er, hl, kindIs, wipeR, e3, join_chars (show w.length ≤ 1000 by omega)]
  show defJ 5 false isText _ S = _
  unfold defJ isText
  have e0 : startR 5 [.ref n, .str l, .int (k : Int)] = [some (.ref n), some (.str l), some (.int (k : Int)), none, none] := rfl
  rw [e0, sSeq_nx e1, sSeq_nx e2, e4]
  rfl
/-! an alphabet: letters are dropped -/
def sw1 : IS := (sPar 4 5 (iCons (iOp addD (iVar 1) (iCall 2 dDraw (iCons (iVar 0) (iCons (iOp addD (iOp subI (iVar 2) (iVar 1)) (iC (.int 1))) iNil)))) (iCons (iC (.str abc)) iNil)))
def sw2 : IS := (sIf (iTst (iOp eqD (iCall 2 dDraw (iCons (iVar 0) (iCons (iC (.int 2)) iNil))) (iC (.int 0)))) (sRet (iSl slD (iVar 5) iNoPart (iPart (iVar 4)))) sNext)
def sw3a : IS := (sAsg 6 (iCall 2 dDraw (iCons (iVar 0) (iCons (iCB lenD (iCons (iVar 5) iNil)) iNil))))
def sw3b : IS := (sAsg 5 (iOp addD (iSl slD (iVar 5) iNoPart (iPart (iVar 6))) (iSl slD (iVar 5) (iPart (iOp addD (iVar 6) (iC (.int 1)))) iNoPart)))
def sw3 : IS := (sFor (iRange range1 (iCons (iOp subI (iC (.int 26)) (iVar 4)) iNil)) (.n 3) (sSeq sw3a sw3b))
def sw4 : IS := (sRet (iVar 5))
def isSignW : IS := sSeq sw1 (sSeq sw2 (sSeq sw3 sw4))
def dSignW : List D → M D := defJ 7 false isSignW
theorem Sg.sub {l m : List Nat} (h : Sg l) (s : m.Sublist l) : Sg m := ⟨h.up.sublist s, fun c hc => h.abc c (s.mem hc)⟩
theorem sg_all : Sg abc := ⟨abc_up, abc_in⟩
theorem cut_out {l : List Nat} {q : Nat} {S : Store} (h : l.length ≤ 1000) : addD (.str (cutD l none (some (q : Int)))) (.str (cutD l (some ((q : Int) + 1)) none)) S = some (.str (l.take q ++ l.drop (q + 1))) := by
  have e : (q : Int) + 1 = ((q + 1 : Nat) : Int) := by omega
  rw [e, cut_take, cut_drop, addD_str (by simp; omega)]
theorem signW_ok {S : Store} {n lo hi : Nat} (b : Bw S n) (h1 : 1 ≤ lo) (h2 : lo ≤ hi) (h3 : hi ≤ 26) : ∃ l S', dSignW [.ref n, .int (lo : Int), .int (hi : Int)] S = .ok (.str l) S' ∧ Sg l ∧ lo ≤ l.length ∧ l.length ≤ hi ∧ Bw S' n ∧ Kp n S S' := by
  have hn := b.1
  obtain ⟨r, S1, d1, r0, r1, b1, k1⟩ := draw_ok (k := (hi : Int) - lo + 1) b (by omega) (by omega)
  obtain ⟨q, rfl⟩ := Int.eq_ofNat_of_zero_le r0
  have e1 : sw1 [some (.ref n), some (.int (lo : Int)), some (.int (hi : Int)), none, none, none, none] S = .ok (.nx [some (.ref n), some (.int (lo : Int)), some (.int (hi : Int)), none, some (.int ((lo + q : Nat) : Int)), some (.str abc), none]) S1 := by
    simp [sSeq, sSetI, sSetIN, sBind, iOp, M.bind, lift, iVar, iC, M.ret, sIf, iTst, isB, iCB, iCons, iNil, sRet, sNext, sAsg, sExpr, sPar, sPar3, iCall, iIf, iOr, iAnd, iNot, iNotV, iAndV, iOrV, M.no, iLstM, iLst, iTup, sAsgG, ngD, nsD, iSl, iPart, iNoPart, iBM, iCM, iYes, sw1, subI_int, addD_int, d1]
  obtain ⟨r, S2, d2, _, _, b2, k2⟩ := draw_ok (k := 2) b1 (by omega) (by omega)
  have e0 : startR 7 [.ref n, .int (lo : Int), .int (hi : Int)] = [some (.ref n), some (.int (lo : Int)), some (.int (hi : Int)), none, none, none, none] := rfl
  by_cases hr : r = 0
  · have e2 : sw2 [some (.ref n), some (.int (lo : Int)), some (.int (hi : Int)), none, some (.int ((lo + q : Nat) : Int)), some (.str abc), none] S1 = .ok (.rt (.str (abc.take (lo + q)))) S2 := by
      have ct := cut_take abc (lo + q)
      have la : abc.length ≤ 100000 := by decide
      unfold sw2
      simp only [sSeq, sSetI, sSetIN, sBind, iOp, M.bind, lift, iVar, iC, M.ret, sIf, iTst, isB, iCB, iCons, iNil, sRet, sNext, sAsg, sExpr, sPar, sPar3, iCall, iIf, iOr, iAnd, iNot, iNotV, iAndV, iOrV, M.no, iLstM, iLst, iTup, sAsgG, ngD, nsD, iSl, iPart, iNoPart, iBM, iCM, iYes, List.getD_cons_succ, List.getD_cons_zero, d2, List.length_cons, List.length_nil, if_true, eqD_int, hr, decide_true, slD_str la, ct]
    refine ⟨abc.take (lo + q), S2.trim S.next, ?_, sg_all.sub (List.take_sublist _ _), ?_, ?_, bw_trim b2 hn, kp_trim (k1.trans k2)⟩
    · show defJ 7 false isSignW _ S = _
      unfold defJ isSignW
      rw [e0, sSeq_nx e1]
      unfold sSeq
      rw [e2]
      rfl
    · have : abc.length = 26 := rfl
      rw [List.length_take]
      omega
    · rw [List.length_take]
      omega
  · have e2 : sw2 [some (.ref n), some (.int (lo : Int)), some (.int (hi : Int)), none, some (.int ((lo + q : Nat) : Int)), some (.str abc), none] S1 = .ok (.nx [some (.ref n), some (.int (lo : Int)), some (.int (hi : Int)), none, some (.int ((lo + q : Nat) : Int)), some (.str abc), none]) S2 := by
      unfold sw2
      simp only [sSeq, sSetI, sSetIN, sBind, iOp, M.bind, lift, iVar, iC, M.ret, sIf, iTst, isB, iCB, iCons, iNil, sRet, sNext, sAsg, sExpr, sPar, sPar3, iCall, iIf, iOr, iAnd, iNot, iNotV, iAndV, iOrV, M.no, iLstM, iLst, iTup, sAsgG, ngD, nsD, iSl, iPart, iNoPart, iBM, iCM, iYes, List.getD_cons_succ, List.getD_cons_zero, d2, List.length_cons, List.length_nil, if_true, eqD_int, hr, decide_false, Bool.false_eq_true, if_false]
    have key := forL_inv (g := .n 3) (body := sSeq sw3a sw3b) (fun j ρ S' => Bw S' n ∧ Kp n S S' ∧ ∃ (t a : Option D) (l : List Nat), Sg l ∧ l.length + j = 26 ∧ ρ = [some (.ref n), some (.int (lo : Int)), some (.int (hi : Int)), t, some (.int ((lo + q : Nat) : Int)), some (.str l), a]) (rng 0 (26 - (lo + q))) 0 [some (.ref n), some (.int (lo : Int)), some (.int (hi : Int)), none, some (.int ((lo + q : Nat) : Int)), some (.str abc), none] S2 ⟨b2, k1.trans k2, none, none, abc, sg_all, rfl, rfl⟩ (by
      rintro j x ρ S3 hx ⟨b3, k3, t, a, l, sg, hl, rfl⟩
      have hj : j < 26 - (lo + q) := by
        have := (List.getElem?_eq_some_iff.mp hx).1
        rwa [rng_len] at this
      obtain ⟨r, S4, d4, s0, s1, b4, k4⟩ := draw_ok (k := (l.length : Int)) b3 (by omega) (by omega)
      obtain ⟨p, rfl⟩ := Int.eq_ofNat_of_zero_le s0
      have ll : l.length ≤ 100000 := by omega
      refine ⟨_, [some (.ref n), some (.int (lo : Int)), some (.int (hi : Int)), some x, some (.int ((lo + q : Nat) : Int)), some (.str (l.take p ++ l.drop (p + 1))), some (.int (p : Int))], S4, rfl, ?_, b4, k3.trans k4, some x, some (.int (p : Int)), l.take p ++ l.drop (p + 1), ?_, ?_, rfl⟩
      · have a1 : sw3a [some (.ref n), some (.int (lo : Int)), some (.int (hi : Int)), some x, some (.int ((lo + q : Nat) : Int)), some (.str l), a] S3 = .ok (.nx [some (.ref n), some (.int (lo : Int)), some (.int (hi : Int)), some x, some (.int ((lo + q : Nat) : Int)), some (.str l), some (.int (p : Int))]) S4 := by
          unfold sw3a
          simp [sSeq, sSetI, sSetIN, sBind, iOp, M.bind, lift, iVar, iC, M.ret, sIf, iTst, isB, iCB, iCons, iNil, sRet, sNext, sAsg, sExpr, sPar, sPar3, iCall, iIf, iOr, iAnd, iNot, iNotV, iAndV, iOrV, M.no, iLstM, iLst, iTup, sAsgG, ngD, nsD, iSl, iPart, iNoPart, iBM, iCM, iYes, lenD_str ll, d4]
        have a2 : sw3b [some (.ref n), some (.int (lo : Int)), some (.int (hi : Int)), some x, some (.int ((lo + q : Nat) : Int)), some (.str l), some (.int (p : Int))] S4 = .ok (.nx [some (.ref n), some (.int (lo : Int)), some (.int (hi : Int)), some x, some (.int ((lo + q : Nat) : Int)), some (.str (l.take p ++ l.drop (p + 1))), some (.int (p : Int))]) S4 := by
          unfold sw3b
          simp only [sSeq, sSetI, sSetIN, sBind, iOp, M.bind, lift, iVar, iC, M.ret, sIf, iTst, isB, iCB, iCons, iNil, sRet, sNext, sAsg, sExpr, sPar, sPar3, iCall, iIf, iOr, iAnd, iNot, iNotV, iAndV, iOrV, M.no, iLstM, iLst, iTup, sAsgG, ngD, nsD, iSl, iPart, iNoPart, iBM, iCM, iYes, List.getD_cons_succ, List.getD_cons_zero, slD_str ll, addD_int, cut_out (show l.length ≤ 1000 by omega), List.set_cons_succ, List.set_cons_zero]
        exact (sSeq_nx a1).trans a2
      · refine sg.sub ?_
        rw [← List.eraseIdx_eq_take_drop_succ]
        exact List.eraseIdx_sublist l p
      · have hp : p < l.length := by omega
        rw [List.length_append, List.length_take, List.length_drop]
        omega)
    obtain ⟨ρ', S3, e3, b3, k3, t, a, l, sg, hl, rfl⟩ := key
    rw [rng_len] at hl
    have e3' : sw3 [some (.ref n), some (.int (lo : Int)), some (.int (hi : Int)), none, some (.int ((lo + q : Nat) : Int)), some (.str abc), none] S2 = .ok (.nx [some (.ref n), some (.int (lo : Int)), some (.int (hi : Int)), t, some (.int ((lo + q : Nat) : Int)), some (.str l), a]) S3 := by
      rw [← e3]
      have z : (26 : Int) - ((lo + q : Nat) : Int) = ((26 - (lo + q) : Nat) : Int) := by omega
      have rg := range1_nat (n := 26 - (lo + q)) (by omega)
      unfold sw3 sFor
      simp only [sSeq, sSetI, sSetIN, sBind, iOp, M.bind, lift, iVar, iC, M.ret, sIf, iTst, isB, iCB, iCons, iNil, sRet, sNext, sAsg, sExpr, sPar, sPar3, iCall, iIf, iOr, iAnd, iNot, iNotV, iAndV, iOrV, M.no, iLstM, iLst, iTup, sAsgG, ngD, nsD, iSl, iPart, iNoPart, iBM, iCM, iYes, iRange, List.getD_cons_succ, List.getD_cons_zero, subI_int, z, rg]
    refine ⟨l, S3.trim S.next, ?_, sg, by omega, by omega, bw_trim b3 hn, kp_trim k3⟩
    show defJ 7 false isSignW _ S = _
    unfold defJ isSignW
    rw [e0, sSeq_nx e1, sSeq_nx e2, sSeq_nx e3']
    rfl
def isLawW (M_ : Nat) (dR : List D → M D) : IS := (sRet (iCB allD (iCons (iLc (iRange range1 (iCons (iCB max2 (iCons (iC (.int 2)) (iCons (iCB min2 (iCons (iCB lenD (iCons (iVar 0) iNil)) (iCons (iC (.int (M_ : Int))) iNil))) iNil))) iNil)) (.n 1) iYes (iCall 1 dR (iCons (iCall 2 dWell (iCons (iVar 0) (iCons (iVar 1) iNil))) iNil)) [1]) iNil)))
def dLawW (M_ : Nat) (dR : List D → M D) : List D → M D := defJ 2 false (isLawW M_ dR)
theorem law_genW (M_ : Nat) (h2 : 2 ≤ M_) (hM : M_ ≤ 50) {dR : List D → M D} (right_ok : ∀ {n : Nat} {S : Store}, Bw S n → ∃ S', dR [.ref n] S = .ok (.bl true) S') (ns : List Int) (h : ns.length ≤ 63) : ∃ S', dLawW M_ dR [.scr (ns.map D.int)] ⟨[], 0⟩ = .ok (.bl true) S' := by
  have rg : ∃ m : Nat, m ≤ 50 ∧ iRange range1 (iCons (iCB max2 (iCons (iC (.int 2)) (iCons (iCB min2 (iCons (iCB lenD (iCons (iVar 0) iNil)) (iCons (iC (.int (M_ : Int))) iNil))) iNil))) iNil) [some (.scr (ns.map D.int)), none] ⟨[], 0⟩ = .ok (rng 0 m) ⟨[], 0⟩ := by
    have ln : lenD [.scr (ns.map D.int)] ⟨[], 0⟩ = some (.int (ns.length : Int)) := by simp [lenD, seqA, seqR]
    have mn : min2 [.int (ns.length : Int), .int (M_ : Int)] ⟨[], 0⟩ = some (.int (if (M_ : Int) < ns.length then (M_ : Int) else ns.length)) := rfl
    have mx : ∀ a : Int, max2 [.int 2, .int a] ⟨[], 0⟩ = some (.int (if a > 2 then a else 2)) := fun a => rfl
    refine ⟨((if (if (M_ : Int) < ns.length then (M_ : Int) else (ns.length : Int)) > 2 then (if (M_ : Int) < ns.length then (M_ : Int) else (ns.length : Int)) else 2)).toNat, ?_, ?_⟩
    · split <;> split <;> omega
    · have z : -100000 ≤ (if (if (M_ : Int) < ns.length then (M_ : Int) else (ns.length : Int)) > 2 then (if (M_ : Int) < ns.length then (M_ : Int) else (ns.length : Int)) else 2) ∧ (if (if (M_ : Int) < ns.length then (M_ : Int) else (ns.length : Int)) > 2 then (if (M_ : Int) < ns.length then (M_ : Int) else (ns.length : Int)) else 2) ≤ 100000 := by
        constructor <;> split <;> split <;> omega
      simp only [sSeq, sSetI, sSetIN, sBind, iOp, M.bind, lift, iVar, iC, M.ret, sIf, iTst, isB, iCB, iCons, iNil, sRet, sNext, sAsg, sExpr, sPar, sPar3, iCall, iIf, iOr, iAnd, iNot, iNotV, iAndV, iOrV, M.no, iLstM, iLst, iTup, sAsgG, ngD, nsD, iSl, iPart, iNoPart, iBM, iCM, iYes, iRange, List.getD_cons_zero, ln, mn, mx, range1]
      rw [if_pos z]
  obtain ⟨m, hm, rg⟩ := rg
  have key := lcL_inv (g := .n 1) (t := iYes) (ie := iCall 1 dR (iCons (iCall 2 dWell (iCons (iVar 0) (iCons (iVar 1) iNil))) iNil)) (ρ := [some (.scr (ns.map D.int)), none]) (fun _ _ => True) (fun _ d => d = .bl true) (rng 0 m) 0 ⟨[], 0⟩ trivial (by
    intro j x S1 hx _
    obtain ⟨hj, hx⟩ := List.getElem?_eq_some_iff.mp hx
    have ex : x = .int ((j : Nat) : Int) := by
      rw [← hx]
      simp [rng]
    subst ex
    obtain ⟨S2, e2, b2, _⟩ := well_ok (S := S1) (ns := ns) (k := j)
    obtain ⟨S3, e3⟩ := right_ok b2
    refine ⟨[some (.scr (ns.map D.int)), some (.int (j : Nat))], .bl true, S1, S3, rfl, rfl, ?_, rfl, trivial⟩
    simp [sSeq, sSetI, sSetIN, sBind, iOp, M.bind, lift, iVar, iC, M.ret, sIf, iTst, isB, iCB, iCons, iNil, sRet, sNext, sAsg, sExpr, sPar, sPar3, iCall, iIf, iOr, iAnd, iNot, iNotV, iAndV, iOrV, M.no, iLstM, iLst, iTup, sAsgG, ngD, nsD, iSl, iPart, iNoPart, iBM, iCM, iYes, e2, e3])
  obtain ⟨rs, S', e, ll, p, _⟩ := key
  have bo := bools_of rs (fun j d hj => p j d hj)
  have al : allD [.lst rs] S' = some (.bl true) := by simp [allD, seqR, seqL, bo]
  have ml : (rng 0 m).length < 100000 := by simp [rng]; omega
  refine ⟨S'.trim 0, ?_⟩
  show defJ 2 false (isLawW M_ dR) _ _ = _
  unfold defJ isLawW
  have e0 : startR 2 [.scr (ns.map D.int)] = [some (.scr (ns.map D.int)), none] := rfl
  have w0 : wipeR [some (.scr (ns.map D.int)), none] [1] = [some (.scr (ns.map D.int)), none] := rfl
  rw [e0]
  simp only [sRet, sBind, iCB, iCons, iNil, iLc, M.bind, rg, ml, if_true, w0, e, M.ret, lift, al]
  rfl
end J

set_option Elab.async false
set_option linter.all false
set_option maxRecDepth 100000
set_option maxHeartbeats 1010000
/-! PT: plain laws: facts, claims, words judged; the law's reply -/
namespace J
theorem sIf_t {t : IT} {a b : IS} {ρ : Rho} {S S' : Store} (h : t ρ S = .ok true S') : sIf t a b ρ S = a ρ S' := by
  simp only [sIf, sBind, h, if_true]
theorem sIf_f {t : IT} {a b : IS} {ρ : Rho} {S S' : Store} (h : t ρ S = .ok false S') : sIf t a b ρ S = b ρ S' := by
  simp only [sIf, sBind, h, Bool.false_eq_true, if_false]
/-! ### the law's reply is the marks -/
def rankN (g w : List Nat) (i c : Nat) : Nat := (List.range i).countP fun j => decide (gz g j = c) && !decide (c = gz w j)
def freeN (g w : List Nat) (c : Nat) : Nat := (List.range w.length).countP fun j => decide (gz w j = c) && !decide (c = gz g j)
theorem count_range (c : Nat) : ∀ w : List Nat, w.count c = (List.range w.length).countP fun j => decide (gz w j = c)
  | [] => rfl
  | a :: w => by
    have e : (List.range (a :: w).length).countP (fun j => decide (gz (a :: w) j = c)) = (if a = c then 1 else 0) + (List.range w.length).countP fun j => decide (gz w j = c) := by
      rw [List.length_cons, List.range_succ_eq_map, List.countP_cons, List.countP_map]
      have : ((fun j => decide (gz (a :: w) j = c)) ∘ Nat.succ) = fun j => decide (gz w j = c) := by
        funext j
        simp [gz]
      rw [this]
      simp only [gz, List.getD_cons_zero]
      by_cases h : a = c
      · simp [h, Nat.add_comm]
      · simp [h]
    rw [e, List.count_cons, count_range c w, Nat.add_comm]
    by_cases h : a = c <;> simp [h]
theorem countP_split {p q r : Nat → Bool} : ∀ l : List Nat, (∀ j ∈ l, (p j = true ↔ (q j = true ∨ r j = true)) ∧ ¬ (q j = true ∧ r j = true)) → l.countP p = l.countP q + l.countP r
  | [], _ => rfl
  | x :: l, h => by
    have ih := countP_split l fun j hj => h j (List.mem_cons_of_mem _ hj)
    obtain ⟨h1, h2⟩ := h x (List.mem_cons_self ..)
    rw [List.countP_cons, List.countP_cons, List.countP_cons, ih]
    cases hp : p x <;> cases hq : q x <;> cases hr : r x <;> simp [hp, hq, hr] at h1 h2 ⊢ <;> omega
theorem count_parts {g w : List Nat} (hl : g.length = w.length) (c : Nat) : w.count c = hitN g w c + freeN g w c := by
  rw [count_range, hitN, freeN, hl]
  refine countP_split _ fun j _ => ?_
  simp only [Bool.and_eq_true, decide_eq_true_eq, Bool.not_eq_true', decide_eq_false_iff_not]
  constructor
  · constructor
    · intro h
      by_cases z : c = gz g j
      · exact .inl ⟨z.symm, by rw [← z, h]⟩
      · exact .inr ⟨h, z⟩
    · rintro (⟨h1, h2⟩ | ⟨h1, _⟩)
      · rw [← h2, h1]
      · exact h1
  · rintro ⟨⟨h1, _⟩, _, h4⟩
    exact h4 h1.symm
theorem rankN_succ (g w : List Nat) (i c : Nat) : rankN g w (i + 1) c = rankN g w i c + (if gz g i = c ∧ c ≠ gz w i then 1 else 0) := by
  unfold rankN
  rw [List.range_succ, List.countP_append, List.countP_singleton]
  by_cases h : gz g i = c ∧ c ≠ gz w i
  · simp [h]
  · rw [if_neg h, if_neg]
    simpa using fun a b => h ⟨a, b⟩
theorem near_min {g w : List Nat} (hl : g.length = w.length) (c : Nat) : ∀ i, nearF g w i c = min (rankN g w i c) (freeN g w c)
  | 0 => by simp [nearF, rankN]
  | i + 1 => by
    have ih := near_min hl c i
    rw [nearF, rankN_succ, ih]
    by_cases h : gz g i = c ∧ c ≠ gz w i
    · have h2 : gz g i ≠ gz w i := by rw [h.1]; exact h.2
      have ct := count_parts hl c
      rw [if_pos h, h.1, ih, ct]
      by_cases z : rankN g w i c < freeN g w c
      · rw [if_pos ⟨rfl, by rw [← h.1]; exact h2, by omega⟩]
        omega
      · rw [if_neg fun q => z (by have := q.2.2; omega)]
        omega
    · rw [if_neg h, if_neg fun q => h ⟨q.1, by rw [← q.1]; exact q.2.1⟩]
      omega
theorem mk_rank {g w : List Nat} (hl : g.length = w.length) {i : Nat} (h : gz g i ≠ gz w i) : mkF g w i = if rankN g w (i + 1) (gz g i) ≤ freeN g w (gz g i) then 49 else 48 := by
  have nm := near_min hl (gz g i) i
  have ct := count_parts hl (gz g i)
  have rs := rankN_succ g w i (gz g i)
  rw [if_pos ⟨rfl, h⟩] at rs
  unfold mkF
  rw [if_neg h, nm, ct, rs]
  by_cases z : rankN g w i (gz g i) + 1 ≤ freeN g w (gz g i)
  · rw [if_pos z, if_pos (by omega)]
  · rw [if_neg z, if_neg (by omega)]
def ry1 : IS := (sAsg 2 (iC (.str [])))
def ry2a : IS := (sAsgG (.t [4, 5]) (iTup (iCons (iOp ixD (iVar 0) (iVar 3)) (iCons (iC (.str [50])) iNil))))
def ry2b : IS := (sAsg 6 (iCB lenD (iCons (iLc (iRange range1 (iCons (iOp addD (iVar 3) (iC (.int 1))) iNil)) (.n 8) (iTst (iChain eqD neD (iOp ixD (iVar 0) (iVar 8)) (iVar 4) (iOp ixD (iVar 1) (iVar 8)))) (iVar 8) [8]) iNil)))
def ry2c : IS := (sAsg 7 (iCB lenD (iCons (iLc (iRange range1 (iCons (iCB lenD (iCons (iVar 1) iNil)) iNil)) (.n 8) (iTst (iChain eqD neD (iOp ixD (iVar 1) (iVar 8)) (iVar 4) (iOp ixD (iVar 0) (iVar 8)))) (iVar 8) [8]) iNil)))
def ry2d : IS := (sAsg 5 (iIf (iTst (iOp leI (iVar 6) (iVar 7))) (iC (.str [49])) (iC (.str [48]))))
def ry2e : IS := (sIf (iTst (iOp neD (iOp ixD (iVar 1) (iVar 3)) (iVar 4))) (sSeq ry2b (sSeq ry2c ry2d)) sNext)
def ry2f : IS := (sAsg 2 (iOp addD (iVar 2) (iVar 5)))
def ry2 : IS := (sFor (iRange range1 (iCons (iCB lenD (iCons (iVar 0) iNil)) iNil)) (.n 3) (sSeq ry2a (sSeq ry2e ry2f)))
def ry3 : IS := (sRet (iVar 2))
def isReply : IS := sSeq ry1 (sSeq ry2 ry3)
def dReply : List D → M D := defJ 9 false isReply
theorem len_filter {p : D → Bool} {q : Nat → Bool} {n : Nat} (h : ∀ j : Nat, j < n → p (.int (j : Int)) = q j) : ((rng 0 n).filter p).length = (List.range n).countP q := by
  have e : rng 0 n = (List.range n).map fun (j : Nat) => D.int (j : Int) := by
    unfold rng
    simp
  rw [e, ← List.countP_eq_length_filter, List.countP_map]
  refine List.countP_congr fun j hj => ?_
  rw [Function.comp, h j (List.mem_range.mp hj)]
section
variable {g w : List Nat} {S : Store} {i : Nat} {x2 x5 x6 x7 x8 : Option D}
theorem ry_lc {a b : List Nat} {va vb n : Nat} {c : Nat} {ρ : Rho} (ha : ∀ d, (ρ.set 8 (some d)).getD va none = some (.str a)) (hb : ∀ d, (ρ.set 8 (some d)).getD vb none = some (.str b)) (h4 : ∀ d, (ρ.set 8 (some d)).getD 4 none = some (.str [c])) (h8 : ∀ d, (ρ.set 8 (some d)).getD 8 none = some d)
    (hla : n ≤ a.length) (hlb : n ≤ b.length) (hl : a.length ≤ 500) (hl2 : b.length ≤ 500) :
    ∃ rs, lcL (.n 8) (iTst (iChain eqD neD (iOp ixD (iVar va) (iVar 8)) (iVar 4) (iOp ixD (iVar vb) (iVar 8)))) (iVar 8) ρ (rng 0 n) S = .ok rs S ∧ rs.length = (List.range n).countP fun j => decide (gz a j = c) && !decide (c = gz b j) := by
  have key := lcL_filter (g := .n 8) (t := iTst (iChain eqD neD (iOp ixD (iVar va) (iVar 8)) (iVar 4) (iOp ixD (iVar vb) (iVar 8)))) (ie := iVar 8) (ρ := ρ) (S := S) (fun x => match x with | .int j => decide (gz a j.toNat = c) && !decide (c = gz b j.toNat) | _ => false) (fun x => x) (rng 0 n) (by
    intro x hx
    obtain ⟨j, hj, rfl⟩ := rng_mem hx
    have ja : j < a.length := by omega
    have jb : j < b.length := by omega
    refine ⟨ρ.set 8 (some (.int (j : Int))), rfl, ?_, ?_⟩
    · have e1 : ∀ S, ixD (.str a) (.int (j : Int)) S = some (.str [gz a j]) := fun S => by rw [ixD_str ja (by omega), gz_get ja]
      have e2 : ∀ S, ixD (.str b) (.int (j : Int)) S = some (.str [gz b j]) := fun S => by rw [ixD_str jb (by omega), gz_get jb]
      by_cases z : gz a j = c
      · simp only [iTst, iChain, iOp, M.bind, iVar, ha, hb, h4, h8, lift, e1, e2, eqD_str, neD_str, Option.bind_some, isB, z, decide_true, if_true, Int.toNat_natCast, Bool.true_and]
        simp
      · have z2 : ¬ ([gz a j] = [c]) := by simpa using z
        simp only [iTst, iChain, iOp, M.bind, iVar, ha, hb, h4, h8, lift, e1, e2, eqD_str, neD_str, Option.bind_some, isB, z, z2, decide_false, Bool.false_eq_true, if_false, M.ret, Int.toNat_natCast, Bool.false_and]
    · simp only [iVar, h8, lift])
  refine ⟨_, key, ?_⟩
  rw [List.map_id', len_filter (q := fun j => decide (gz a j = c) && !decide (c = gz b j))]
  intro j _
  simp
theorem ry_turn (hl : g.length = w.length) (h2 : g.length ≤ 400) (hi : i < g.length) {m : List Nat} (hm : m.length ≤ 500) {y : Option D} :
    ∃ y5 y6 y7, (sSeq ry2a (sSeq ry2e ry2f)) [some (.str g), some (.str w), some (.str m), some (.int (i : Int)), y, x5, x6, x7, none] S = .ok (.nx [some (.str g), some (.str w), some (.str (m ++ [mkF g w i])), some (.int (i : Int)), some (.str [gz g i]), y5, y6, y7, none]) S := by
  have wi : i < w.length := by omega
  have g1 : ∀ S, ixD (.str g) (.int (i : Int)) S = some (.str [gz g i]) := fun S => by rw [ixD_str hi (by omega), gz_get hi]
  have w1 : ∀ S, ixD (.str w) (.int (i : Int)) S = some (.str [gz w i]) := fun S => by rw [ixD_str wi (by omega), gz_get wi]
  have ea : ry2a [some (.str g), some (.str w), some (.str m), some (.int (i : Int)), y, x5, x6, x7, none] S = .ok (.nx [some (.str g), some (.str w), some (.str m), some (.int (i : Int)), some (.str [gz g i]), some (.str [50]), x6, x7, none]) S := by
    unfold ry2a
    simp [sSeq, sSetI, sSetIN, sBind, iOp, M.bind, lift, iVar, iC, M.ret, sIf, iTst, isB, iCB, iCons, iNil, sRet, sNext, sAsg, sExpr, sPar, sPar3, iCall, iIf, iOr, iAnd, iNot, iNotV, iAndV, iOrV, M.no, iLstM, iLst, iTup, sAsgG, ngD, nsD, iSl, iPart, iNoPart, iBM, iCM, iYes, g1]
  have add : ∀ c : Nat, addD (.str m) (.str [c]) S = some (.str (m ++ [c])) := fun c => addD_str (by simp; omega)
  by_cases z : gz g i = gz w i
  · refine ⟨some (.str [50]), x6, x7, ?_⟩
    have eb : ry2e [some (.str g), some (.str w), some (.str m), some (.int (i : Int)), some (.str [gz g i]), some (.str [50]), x6, x7, none] S = .ok (.nx [some (.str g), some (.str w), some (.str m), some (.int (i : Int)), some (.str [gz g i]), some (.str [50]), x6, x7, none]) S := by
      unfold ry2e
      simp [sSeq, sSetI, sSetIN, sBind, iOp, M.bind, lift, iVar, iC, M.ret, sIf, iTst, isB, iCB, iCons, iNil, sRet, sNext, sAsg, sExpr, sPar, sPar3, iCall, iIf, iOr, iAnd, iNot, iNotV, iAndV, iOrV, M.no, iLstM, iLst, iTup, sAsgG, ngD, nsD, iSl, iPart, iNoPart, iBM, iCM, iYes, w1, neD_str, z]
    have mk : mkF g w i = 50 := by unfold mkF; rw [if_pos z]
    rw [sSeq_nx ea, sSeq_nx eb, mk]
    unfold ry2f
    simp [sSeq, sSetI, sSetIN, sBind, iOp, M.bind, lift, iVar, iC, M.ret, sIf, iTst, isB, iCB, iCons, iNil, sRet, sNext, sAsg, sExpr, sPar, sPar3, iCall, iIf, iOr, iAnd, iNot, iNotV, iAndV, iOrV, M.no, iLstM, iLst, iTup, sAsgG, ngD, nsD, iSl, iPart, iNoPart, iBM, iCM, iYes, add]
  · obtain ⟨r1, l1, n1⟩ := ry_lc (S := S) (a := g) (b := w) (va := 0) (vb := 1) (n := i + 1) (c := gz g i) (ρ := [some (.str g), some (.str w), some (.str m), some (.int (i : Int)), some (.str [gz g i]), some (.str [50]), x6, x7, none]) (fun _ => rfl) (fun _ => rfl) (fun _ => rfl) (fun _ => rfl) (by omega) (by omega) (by omega) (by omega)
    have rg1 : range1 [.int ((i : Int) + 1)] = some (rng 0 (i + 1)) := range1_nat (n := i + 1) (by omega)
    have rg2 : range1 [.int (w.length : Int)] = some (rng 0 w.length) := range1_nat (n := w.length) (by omega)
    have k1 : (rng 0 (i + 1)).length < 100000 := by rw [rng_len]; omega
    have k2 : (rng 0 w.length).length < 100000 := by rw [rng_len]; omega
    have b1 : r1.length ≤ 100000 := by
      rw [n1]
      have := List.countP_le_length (p := fun j => decide (gz g j = gz g i) && !decide (gz g i = gz w j)) (l := List.range (i + 1))
      simp at this
      omega
    have eb : ry2b [some (.str g), some (.str w), some (.str m), some (.int (i : Int)), some (.str [gz g i]), some (.str [50]), x6, x7, none] S = .ok (.nx [some (.str g), some (.str w), some (.str m), some (.int (i : Int)), some (.str [gz g i]), some (.str [50]), some (.int (rankN g w (i + 1) (gz g i) : Int)), x7, none]) S := by
      have e : (rankN g w (i + 1) (gz g i) : Int) = (r1.length : Int) := by rw [n1]; rfl
      rw [e]
      unfold ry2b
      simp only [sAsg, sBind, iCB, iCons, iNil, iLc, iRange, iOp, iVar, iC, M.bind, M.ret, lift, List.getD_cons_zero, List.getD_cons_succ, addD_int, rg1, k1, if_true, wipeR, List.set_cons_succ, List.set_cons_zero, l1, lenD_lst b1]
    obtain ⟨r2, l2, n2⟩ := ry_lc (S := S) (a := w) (b := g) (va := 1) (vb := 0) (n := w.length) (c := gz g i) (ρ := [some (.str g), some (.str w), some (.str m), some (.int (i : Int)), some (.str [gz g i]), some (.str [50]), some (.int (rankN g w (i + 1) (gz g i) : Int)), x7, none]) (fun _ => rfl) (fun _ => rfl) (fun _ => rfl) (fun _ => rfl) (by omega) (by omega) (by omega) (by omega)
    have b2 : r2.length ≤ 100000 := by
      rw [n2]
      have := List.countP_le_length (p := fun j => decide (gz w j = gz g i) && !decide (gz g i = gz g j)) (l := List.range w.length)
      simp at this
      omega
    have ec : ry2c [some (.str g), some (.str w), some (.str m), some (.int (i : Int)), some (.str [gz g i]), some (.str [50]), some (.int (rankN g w (i + 1) (gz g i) : Int)), x7, none] S = .ok (.nx [some (.str g), some (.str w), some (.str m), some (.int (i : Int)), some (.str [gz g i]), some (.str [50]), some (.int (rankN g w (i + 1) (gz g i) : Int)), some (.int (freeN g w (gz g i) : Int)), none]) S := by
      have e : (freeN g w (gz g i) : Int) = (r2.length : Int) := by rw [n2]; rfl
      rw [e]
      unfold ry2c
      simp only [sAsg, sBind, iCB, iCons, iNil, iLc, iRange, iVar, M.bind, M.ret, lift, List.getD_cons_zero, List.getD_cons_succ, lenD_str (show w.length ≤ 100000 by omega), rg2, k2, if_true, wipeR, List.set_cons_succ, List.set_cons_zero, l2, lenD_lst b2]
    have ed : ry2d [some (.str g), some (.str w), some (.str m), some (.int (i : Int)), some (.str [gz g i]), some (.str [50]), some (.int (rankN g w (i + 1) (gz g i) : Int)), some (.int (freeN g w (gz g i) : Int)), none] S = .ok (.nx [some (.str g), some (.str w), some (.str m), some (.int (i : Int)), some (.str [gz g i]), some (.str [mkF g w i]), some (.int (rankN g w (i + 1) (gz g i) : Int)), some (.int (freeN g w (gz g i) : Int)), none]) S := by
      rw [mk_rank hl z]
      unfold ry2d
      by_cases q : rankN g w (i + 1) (gz g i) ≤ freeN g w (gz g i)
      · have q2 : (rankN g w (i + 1) (gz g i) : Int) ≤ (freeN g w (gz g i) : Int) := by omega
        simp [sSeq, sSetI, sSetIN, sBind, iOp, M.bind, lift, iVar, iC, M.ret, sIf, iTst, isB, iCB, iCons, iNil, sRet, sNext, sAsg, sExpr, sPar, sPar3, iCall, iIf, iOr, iAnd, iNot, iNotV, iAndV, iOrV, M.no, iLstM, iLst, iTup, sAsgG, ngD, nsD, iSl, iPart, iNoPart, iBM, iCM, iYes, leI_int, q, q2]
      · have q2 : ¬ (rankN g w (i + 1) (gz g i) : Int) ≤ (freeN g w (gz g i) : Int) := by omega
        simp [sSeq, sSetI, sSetIN, sBind, iOp, M.bind, lift, iVar, iC, M.ret, sIf, iTst, isB, iCB, iCons, iNil, sRet, sNext, sAsg, sExpr, sPar, sPar3, iCall, iIf, iOr, iAnd, iNot, iNotV, iAndV, iOrV, M.no, iLstM, iLst, iTup, sAsgG, ngD, nsD, iSl, iPart, iNoPart, iBM, iCM, iYes, leI_int, q, q2]
    have ee : ry2e [some (.str g), some (.str w), some (.str m), some (.int (i : Int)), some (.str [gz g i]), some (.str [50]), x6, x7, none] S = .ok (.nx [some (.str g), some (.str w), some (.str m), some (.int (i : Int)), some (.str [gz g i]), some (.str [mkF g w i]), some (.int (rankN g w (i + 1) (gz g i) : Int)), some (.int (freeN g w (gz g i) : Int)), none]) S := by
      have z2 : ¬ ([gz w i] = [gz g i]) := fun q => z (by simpa using q.symm)
      have t : iTst (iOp neD (iOp ixD (iVar 1) (iVar 3)) (iVar 4)) [some (.str g), some (.str w), some (.str m), some (.int (i : Int)), some (.str [gz g i]), some (.str [50]), x6, x7, none] S = .ok true S := by
        simp only [iTst, iOp, M.bind, iVar, List.getD_cons_zero, List.getD_cons_succ, lift, w1, neD_str, z2, decide_false, Bool.not_false, isB]
      unfold ry2e
      rw [sIf_t t, sSeq_nx eb, sSeq_nx ec, ed]
    refine ⟨some (.str [mkF g w i]), some (.int (rankN g w (i + 1) (gz g i) : Int)), some (.int (freeN g w (gz g i) : Int)), ?_⟩
    rw [sSeq_nx ea, sSeq_nx ee]
    unfold ry2f
    simp [sSeq, sSetI, sSetIN, sBind, iOp, M.bind, lift, iVar, iC, M.ret, sIf, iTst, isB, iCB, iCons, iNil, sRet, sNext, sAsg, sExpr, sPar, sPar3, iCall, iIf, iOr, iAnd, iNot, iNotV, iAndV, iOrV, M.no, iLstM, iLst, iTup, sAsgG, ngD, nsD, iSl, iPart, iNoPart, iBM, iCM, iYes, add]
theorem reply_ok (hl : g.length = w.length) (h2 : g.length ≤ 400) : dReply [.str g, .str w] S = .ok (.str (marksL g w)) (S.trim S.next) := by
  have key := forL_inv (g := .n 3) (body := sSeq ry2a (sSeq ry2e ry2f)) (fun j ρ S' => S' = S ∧ ∃ (t y y5 y6 y7 : Option D), ρ = [some (.str g), some (.str w), some (.str ((List.range j).map (mkF g w))), t, y, y5, y6, y7, none]) (rng 0 g.length) 0 [some (.str g), some (.str w), some (.str []), none, none, none, none, none, none] S ⟨rfl, none, none, none, none, none, rfl⟩ (by
    rintro j x ρ S1 hx ⟨rfl, t, y, y5, y6, y7, rfl⟩
    obtain ⟨hj, rfl⟩ := rng_get hx
    rw [Nat.zero_add]
    obtain ⟨z5, z6, z7, e⟩ := ry_turn (S := S1) (y := y) (x5 := y5) (x6 := y6) (x7 := y7) hl h2 hj (m := (List.range j).map (mkF g w)) (by simp; omega)
    refine ⟨_, _, S1, rfl, e, rfl, some (.int (j : Int)), some (.str [gz g j]), z5, z6, z7, ?_⟩
    rw [List.range_succ, List.map_append]
    rfl)
  obtain ⟨ρ', S', e, rfl, t, y, y5, y6, y7, rfl⟩ := key
  rw [rng_len, Nat.zero_add] at e
  have e1 : ry1 [some (.str g), some (.str w), none, none, none, none, none, none, none] S' = .ok (.nx [some (.str g), some (.str w), some (.str []), none, none, none, none, none, none]) S' := rfl
  have e2 : ry2 [some (.str g), some (.str w), some (.str []), none, none, none, none, none, none] S' = .ok (.nx [some (.str g), some (.str w), some (.str (marksL g w)), t, y, y5, y6, y7, none]) S' := by
    unfold marksL
    rw [← e]
    unfold ry2 sFor
    simp only [sBind, iRange, iCB, iCons, iNil, iVar, M.bind, M.ret, lift, List.getD_cons_zero, lenD_str (show g.length ≤ 100000 by omega), range1_nat (show g.length ≤ 1000 by omega)]
  show defJ 9 false isReply _ S' = _
  unfold defJ isReply
  have e0 : startR 9 [.str g, .str w] = [some (.str g), some (.str w), none, none, none, none, none, none, none] := rfl
  rw [e0, sSeq_nx e1, sSeq_nx e2]
  rfl
end
end J

set_option Elab.async false
set_option linter.all false
set_option maxRecDepth 100000
set_option maxHeartbeats 1010000
/-! PU: plain laws: facts, claims about words -/
namespace J
def sAt : List Nat := [97, 116]
def sNot : List Nat := [110, 111, 116]
def sLeast : List Nat := [108, 101, 97, 115, 116]
def sMost : List Nat := [109, 111, 115, 116]
/-- a fact: a letter at a place (or not), least (or most) copies -/
inductive Ft where
  | pl (b : Bool) (p c : Nat) | cn (b : Bool) (c m : Nat)
def ftD : Ft → D
  | .pl b p c => .tup [.str (if b then sAt else sNot), .int (p : Int), .str [c]]
  | .cn b c m => .tup [.str (if b then sLeast else sMost), .str [c], .int (m : Int)]
def FtOk (l : List Nat) (k : Nat) : Ft → Prop
  | .pl _ p c => p < k ∧ c ∈ l
  | .cn _ c m => c ∈ l ∧ m ≤ k
def ftB (w : List Nat) : Ft → Bool
  | .pl b p c => decide (decide (gz w p = c) = b)
  | .cn true c m => decide (m ≤ w.count c)
  | .cn false c m => decide (w.count c ≤ m)
theorem ixT0 {a b c : D} {S : Store} : ixD (.tup [a, b, c]) (.int 0) S = some a := rfl
theorem ixT1 {a b c : D} {S : Store} : ixD (.tup [a, b, c]) (.int 1) S = some b := rfl
theorem ixT2 {a b c : D} {S : Store} : ixD (.tup [a, b, c]) (.int 2) S = some c := rfl
theorem eqD_bl {a b : Bool} {S : Store} : eqD (.bl a) (.bl b) S = some (.bl (decide (a = b))) := by
  cases a <;> cases b <;> rfl
theorem count_chr {w : List Nat} {c : Nat} {S : Store} (h : w.length ≤ 1000) : strCount (.str w) [.str [c]] S = .ok (.int (w.count c : Int)) S := by
  rfl
section
variable (cont : IA → IE)
def hq1 : IS := (sIf (iTst (iOp inD (iOp ixD (iVar 1) (iC (.int 0))) (cont (iCons (iC (.str [97, 116])) (iCons (iC (.str [110, 111, 116])) iNil))))) (sRet (iOp eqD (iOp eqD (iOp ixD (iVar 0) (iOp ixD (iVar 1) (iC (.int 1)))) (iOp ixD (iVar 1) (iC (.int 2)))) (iOp eqD (iOp ixD (iVar 1) (iC (.int 0))) (iC (.str [97, 116]))))) sNext)
def hq2 : IS := (sAsg 2 (iBM .s strCount (iVar 0) (iCons (iOp ixD (iVar 1) (iC (.int 1))) iNil)))
def hq3 : IS := (sRet (iIf (iTst (iOp eqD (iOp ixD (iVar 1) (iC (.int 0))) (iC (.str [108, 101, 97, 115, 116])))) (iOp geI (iVar 2) (iOp ixD (iVar 1) (iC (.int 2)))) (iOp leI (iVar 2) (iOp ixD (iVar 1) (iC (.int 2))))))
def isHas : IS := sSeq (hq1 cont) (sSeq hq2 hq3)
def dHas : List D → M D := defJ 3 false (isHas cont)
/-- the container's value: at, not -/
def Cont2 : Prop := ∀ ρ S, ∃ d, cont (iCons (iC (.str [97, 116])) (iCons (iC (.str [110, 111, 116])) iNil)) ρ S = .ok d S ∧ inD (.str sAt) d S = some (.bl true) ∧ inD (.str sNot) d S = some (.bl true) ∧ inD (.str sLeast) d S = some (.bl false) ∧ inD (.str sMost) d S = some (.bl false)
theorem cont_tup : Cont2 iTup := fun _ _ => ⟨.tup [.str [97, 116], .str [110, 111, 116]], rfl, rfl, rfl, rfl, rfl⟩
theorem cont_lst : Cont2 iLst := fun _ _ => ⟨.lst [.str [97, 116], .str [110, 111, 116]], rfl, rfl, rfl, rfl, rfl⟩
variable {cont}
theorem has_ok (hc : Cont2 cont) {w l : List Nat} {k : Nat} {f : Ft} {S : Store} (hw : w.length = k) (hk : k ≤ 500) (hf : FtOk l k f) : dHas cont [.str w, ftD f] S = .ok (.bl (ftB w f)) (S.trim S.next) := by
  have e0 : startR 3 [.str w, ftD f] = [some (.str w), some (ftD f), none] := rfl
  obtain ⟨d, ed, i1, i2, i3, i4⟩ := hc [some (.str w), some (ftD f), none] S
  unfold dHas defJ isHas
  rw [e0]
  cases f with
  | pl b p c =>
    have hp : p < w.length := by rw [hw]; exact hf.1
    have ip : ixD (.str w) (.int (p : Int)) S = some (.str [gz w p]) := by rw [ixD_str hp (by omega), gz_get hp]
    have e1 : hq1 cont [some (.str w), some (ftD (.pl b p c)), none] S = .ok (.rt (.bl (ftB w (.pl b p c)))) S := by
      cases b with
      | true =>
        have q : eqD (.str sAt) (.str [97, 116]) S = some (.bl true) := rfl
        have fe : ftD (.pl true p c) = .tup [.str sAt, .int (p : Int), .str [c]] := rfl
        rw [fe] at ed ⊢
        unfold hq1
        simp only [sIf, sBind, iTst, iOp, M.bind, iVar, iC, M.ret, lift, List.getD_cons_zero, List.getD_cons_succ, ixT0, ixT1, ixT2, ed, i1, isB, if_true, sRet, ip, eqD_str, q, eqD_bl]
        simp [ftB]
      | false =>
        have q : eqD (.str sNot) (.str [97, 116]) S = some (.bl false) := rfl
        have fe : ftD (.pl false p c) = .tup [.str sNot, .int (p : Int), .str [c]] := rfl
        rw [fe] at ed ⊢
        unfold hq1
        simp only [sIf, sBind, iTst, iOp, M.bind, iVar, iC, M.ret, lift, List.getD_cons_zero, List.getD_cons_succ, ixT0, ixT1, ixT2, ed, i2, isB, if_true, sRet, ip, eqD_str, q, eqD_bl]
        simp [ftB]
    unfold sSeq
    rw [e1]
    rfl
  | cn b c m =>
    have ct := count_chr (w := w) (c := c) (S := S) (by omega)
    have kd : kindIs .s (.str w) S = true := rfl
    cases b with
    | true =>
      have fe : ftD (.cn true c m) = .tup [.str sLeast, .str [c], .int (m : Int)] := rfl
      rw [fe] at ed ⊢
      have e1 : hq1 cont [some (.str w), some (.tup [.str sLeast, .str [c], .int (m : Int)]), none] S = .ok (.nx [some (.str w), some (.tup [.str sLeast, .str [c], .int (m : Int)]), none]) S := by
        unfold hq1
        simp only [sIf, sBind, iTst, iOp, M.bind, iVar, iC, M.ret, lift, List.getD_cons_zero, List.getD_cons_succ, ixT0, ed, i3, isB, Bool.false_eq_true, if_false, sNext]
      have e2 : hq2 [some (.str w), some (.tup [.str sLeast, .str [c], .int (m : Int)]), none] S = .ok (.nx [some (.str w), some (.tup [.str sLeast, .str [c], .int (m : Int)]), some (.int (w.count c : Int))]) S := by
        unfold hq2
        simp only [sAsg, sBind, iBM, iOp, M.bind, iVar, iC, iCons, iNil, M.ret, lift, List.getD_cons_zero, List.getD_cons_succ, kd, if_true, ixT1, ct, List.set_cons_succ, List.set_cons_zero]
      have q : eqD (.str sLeast) (.str [108, 101, 97, 115, 116]) S = some (.bl true) := rfl
      rw [sSeq_nx e1, sSeq_nx e2]
      unfold hq3
      simp only [sRet, sBind, iIf, iTst, iOp, M.bind, iVar, iC, M.ret, lift, List.getD_cons_zero, List.getD_cons_succ, ixT0, ixT2, q, isB, if_true, geI_int, ftB]
      have z : decide ((m : Int) ≤ (w.count c : Int)) = decide (m ≤ w.count c) := by simp
      rw [z]
      rfl
    | false =>
      have fe : ftD (.cn false c m) = .tup [.str sMost, .str [c], .int (m : Int)] := rfl
      rw [fe] at ed ⊢
      have e1 : hq1 cont [some (.str w), some (.tup [.str sMost, .str [c], .int (m : Int)]), none] S = .ok (.nx [some (.str w), some (.tup [.str sMost, .str [c], .int (m : Int)]), none]) S := by
        unfold hq1
        simp only [sIf, sBind, iTst, iOp, M.bind, iVar, iC, M.ret, lift, List.getD_cons_zero, List.getD_cons_succ, ixT0, ed, i4, isB, Bool.false_eq_true, if_false, sNext]
      have e2 : hq2 [some (.str w), some (.tup [.str sMost, .str [c], .int (m : Int)]), none] S = .ok (.nx [some (.str w), some (.tup [.str sMost, .str [c], .int (m : Int)]), some (.int (w.count c : Int))]) S := by
        unfold hq2
        simp only [sAsg, sBind, iBM, iOp, M.bind, iVar, iC, iCons, iNil, M.ret, lift, List.getD_cons_zero, List.getD_cons_succ, kd, if_true, ixT1, ct, List.set_cons_succ, List.set_cons_zero]
      have q : eqD (.str sMost) (.str [108, 101, 97, 115, 116]) S = some (.bl false) := rfl
      rw [sSeq_nx e1, sSeq_nx e2]
      unfold hq3
      simp only [sRet, sBind, iIf, iTst, iOp, M.bind, iVar, iC, M.ret, lift, List.getD_cons_zero, List.getD_cons_succ, ixT0, ixT2, q, isB, Bool.false_eq_true, if_false, leI_int, ftB]
      have z : decide ((w.count c : Int) ≤ (m : Int)) = decide (w.count c ≤ m) := by simp
      rw [z]
end
/-! ### all([f(x) for x in xs]) -/
theorem lc_all {t : IT} {g : NG} {ie : IE} {ρ : Rho} {S : Store} {α : Type} (emb : α → D) (P : α → Bool) (xs : List α) (hl : xs.length ≤ 1000) (h : ∀ x ∈ xs, ∀ S1, Kq S S1 → ∃ ρ1 S2, ngD g (emb x) ρ = some ρ1 ∧ t ρ1 S1 = .ok true S1 ∧ ie ρ1 S1 = .ok (.bl (P x)) S2 ∧ Kq S1 S2) :
    ∃ rs S', lcL g t ie ρ (xs.map emb) S = .ok rs S' ∧ rs = xs.map (fun x => D.bl (P x)) ∧ Kq S S' := by
  have gen : ∀ (xs : List α) (S1 : Store), Kq S S1 → (∀ x ∈ xs, ∀ S1, Kq S S1 → ∃ ρ1 S2, ngD g (emb x) ρ = some ρ1 ∧ t ρ1 S1 = .ok true S1 ∧ ie ρ1 S1 = .ok (.bl (P x)) S2 ∧ Kq S1 S2) → ∃ S', lcL g t ie ρ (xs.map emb) S1 = .ok (xs.map fun x => D.bl (P x)) S' ∧ Kq S S' := by
    intro xs
    induction xs with
    | nil => exact fun S1 q _ => ⟨S1, rfl, q⟩
    | cons x xs ih =>
      intro S1 q h
      obtain ⟨ρ1, S2, e1, e2, e3, q2⟩ := h x (List.mem_cons_self ..) S1 q
      obtain ⟨S3, e4, q3⟩ := ih S2 (q.trans q2) fun y hy => h y (List.mem_cons_of_mem _ hy)
      refine ⟨S3, ?_, q3⟩
      rw [List.map_cons, lcL_cons_some e1]
      simp [M.bind, nox, e2, e3, e4, M.ret]
  obtain ⟨S', e, q⟩ := gen xs S (Kq.refl S) h
  exact ⟨_, S', e, rfl, q⟩
theorem all_lc {src : IA} {t : IT} {g : NG} {ie : IE} {vs : List Nat} {ρ : Rho} {S : Store} {α : Type} (emb : α → D) (P : α → Bool) (xs : List α) (hs : src ρ S = .ok (xs.map emb) S) (hl : xs.length ≤ 1000)
    (h : ∀ x ∈ xs, ∀ S1, Kq S S1 → ∃ ρ1 S2, ngD g (emb x) (wipeR ρ vs) = some ρ1 ∧ t ρ1 S1 = .ok true S1 ∧ ie ρ1 S1 = .ok (.bl (P x)) S2 ∧ Kq S1 S2) :
    ∃ S', iCB allD (iCons (iLc src g t ie vs) iNil) ρ S = .ok (.bl (xs.all P)) S' ∧ Kq S S' := by
  obtain ⟨rs, S', e, rfl, q⟩ := lc_all (t := t) (g := g) (ie := ie) (ρ := wipeR ρ vs) (S := S) emb P xs hl h
  refine ⟨S', ?_, q⟩
  have k : (xs.map emb).length < 100000 := by rw [List.length_map]; omega
  have al : allD [.lst (xs.map fun x => D.bl (P x))] S' = some (.bl (xs.all P)) := allD_map
  simp only [iCB, iCons, iNil, iLc, M.bind, hs, k, if_true, e, M.ret, lift, al]
section
variable (T : Tab) (cs : List Nat) (tb : List (Tg × Tg × Bool))
/-! ### is_word of anything -/
def wordB (l : List Nat) (k : Nat) (w : List Nat) : Bool := decide (w.length = k) && w.all fun c => decide (c ∈ l)
theorem isw_gen (hT : T.fs 0 = [0, 1]) {S : Store} {l w : List Nat} {k : Nat} (hw : w.length ≤ 1000) : dIsWord T cs tb [bd l k, .str w] S = .ok (.bl (wordB l k w)) (S.trim S.next) := by
  have e0 : startR 3 [bd l k, .str w] = [some (bd l k), some (.str w), none] := rfl
  by_cases h : w.length = k
  · have e1 := iw1_ok T cs tb hT (S := S) (l := l) hw h
    have lc := lcL_str (t := iYes) (ie := iOp inD (iVar 2) (iFld T [0] 0 (iVar 0))) (ρ := [some (bd l k), some (.str w), none]) (S := S) (i := 2) (w := w) (fun c => .bl (decide (c ∈ l))) (fun c hc => ⟨rfl, by
      have f0 : iFld T [0] 0 (iVar 0) [some (bd l k), some (.str w), some (.str [c])] S = .ok (.str l) S := fld0 T hT rfl
      show iOp inD (iVar 2) (iFld T [0] 0 (iVar 0)) [some (bd l k), some (.str w), some (.str [c])] S = _
      simp [sSeq, sSetI, sSetIN, sBind, iOp, M.bind, lift, iVar, iC, M.ret, sIf, iTst, isB, iCB, iCons, iNil, sRet, sNext, sAsg, sExpr, sPar, sPar3, iCall, iIf, iOr, iAnd, iNot, iNotV, iAndV, iOrV, M.no, iLstM, iLst, iTup, sAsgG, ngD, nsD, iSl, iPart, iNoPart, iBM, iCM, iYes, f0, inD_chr]⟩)
    have e2 : iw2 T [some (bd l k), some (.str w), none] S = .ok (.rt (.bl (wordB l k w))) S := by
      have hlen : (w.map fun c => D.str [c]).length < 100000 := by simp; omega
      have al : allD [.lst (w.map fun c => D.bl (decide (c ∈ l)))] S = some (.bl (w.all fun c => decide (c ∈ l))) := allD_map
      unfold iw2 wordB
      simp only [sRet, sBind, iCB, iCons, iNil, iLc, iItems, items, iVar, M.bind, M.ret, lift, List.getD_cons_zero, List.getD_cons_succ, hlen, if_true, wipeR, List.set_cons_succ, List.set_cons_zero, lc, al, h, decide_true, Bool.true_and]
    show defJ 3 false (isIsWord T cs tb) _ S = _
    unfold defJ isIsWord
    rw [e0, sSeq_nx e1, e2]
    rfl
  · have hs := isi_b (cs := cs) (tb := tb) (x := .str w) (S := S) (t := "str") rfl kit_ss
    have f1 : iFld T [0] 1 (iVar 0) [some (bd l k), some (.str w), none] S = .ok (.int (k : Int)) S := fld1 T hT rfl
    have h' : ¬ ((w.length : Int) = (k : Int)) := by omega
    have e1 : iw1 T cs tb [some (bd l k), some (.str w), none] S = .ok (.rt (.bl false)) S := by
      unfold iw1
      simp [sSeq, sSetI, sSetIN, sBind, iOp, M.bind, lift, iVar, iC, M.ret, sIf, iTst, isB, iCB, iCons, iNil, sRet, sNext, sAsg, sExpr, sPar, sPar3, iCall, iIf, iOr, iAnd, iNot, iNotV, iAndV, iOrV, M.no, iLstM, iLst, iTup, sAsgG, ngD, nsD, iSl, iPart, iNoPart, iBM, iCM, iYes, hs, f1, lenD_str (show w.length ≤ 100000 by omega), neD_int, h']
    have wb : wordB l k w = false := by unfold wordB; rw [decide_eq_false h, Bool.false_and]
    show defJ 3 false (isIsWord T cs tb) _ S = _
    unfold defJ isIsWord sSeq
    rw [e0, e1, wb]
    rfl
theorem isw_not {S : Store} {b d : D} (h : notK "str" d = true) : dIsWord T cs tb [b, d] S = .ok (.bl false) (S.trim S.next) := by
  have hs := isi_not cs tb (S := S) h
  have e0 : startR 3 [b, d] = [some b, some d, none] := rfl
  show defJ 3 false (isIsWord T cs tb) _ S = _
  unfold defJ isIsWord iw1
  rw [e0]
  simp [sSeq, sSetI, sSetIN, sBind, iOp, M.bind, lift, iVar, iC, M.ret, sIf, iTst, isB, iCB, iCons, iNil, sRet, sNext, sAsg, sExpr, sPar, sPar3, iCall, iIf, iOr, iAnd, iNot, iNotV, iAndV, iOrV, M.no, iLstM, iLst, iTup, sAsgG, ngD, nsD, iSl, iPart, iNoPart, iBM, iCM, iYes, hs]
/-! ### is_fact -/
def isLet : IS := (sRet (iAndV (iCB (isiD cs tb) (iCons (iVar 1) (iCons (iC (.ty "str")) iNil))) (iAndV (iOp eqD (iCB lenD (iCons (iVar 1) iNil)) (iC (.int 1))) (iOp inD (iVar 1) (iFld T [0] 0 (iVar 0))))))
def dLet : List D → M D := defJ 2 false (isLet T cs tb)
def isPlc : IS := (sRet (iAndV (iCall 1 (dInt cs tb) (iCons (iVar 1) iNil)) (iChain leI ltI (iC (.int 0)) (iVar 1) (iFld T [0] 1 (iVar 0)))))
def dPlc : List D → M D := defJ 2 false (isPlc T cs tb)
theorem let_ok (hT : T.fs 0 = [0, 1]) {S : Store} {l : List Nat} {k c : Nat} (h : c ∈ l) : dLet T cs tb [bd l k, .str [c]] S = .ok (.bl true) (S.trim S.next) := by
  have hs := isi_b (cs := cs) (tb := tb) (x := .str [c]) (S := S) (t := "str") rfl kit_ss
  have f0 : iFld T [0] 0 (iVar 0) [some (bd l k), some (.str [c])] S = .ok (.str l) S := fld0 T hT rfl
  have ln : lenD [.str [c]] S = some (.int 1) := rfl
  have e0 : startR 2 [bd l k, .str [c]] = [some (bd l k), some (.str [c])] := rfl
  unfold dLet defJ isLet
  rw [e0]
  simp [sSeq, sSetI, sSetIN, sBind, iOp, M.bind, lift, iVar, iC, M.ret, sIf, iTst, isB, iCB, iCons, iNil, sRet, sNext, sAsg, sExpr, sPar, sPar3, iCall, iIf, iOr, iAnd, iNot, iNotV, iAndV, iOrV, M.no, iLstM, iLst, iTup, sAsgG, ngD, nsD, iSl, iPart, iNoPart, iBM, iCM, iYes, hs, f0, ln, eqD_int, inD_chr, h]
theorem plc_ok (hT : T.fs 0 = [0, 1]) {S : Store} {l : List Nat} {k p : Nat} (h : p < k) : dPlc T cs tb [bd l k, .int (p : Int)] S = .ok (.bl true) ((S.trim S.next).trim S.next) := by
  have a := int_ok cs tb (S := S) (i := (p : Int))
  have f1 : ∀ S, iFld T [0] 1 (iVar 0) [some (bd l k), some (.int (p : Int))] S = .ok (.int (k : Int)) S := fun S => fld1 T hT rfl
  have e0 : startR 2 [bd l k, .int (p : Int)] = [some (bd l k), some (.int (p : Int))] := rfl
  have z1 : (0 : Int) ≤ (p : Int) := by omega
  have z2 : (p : Int) < (k : Int) := by omega
  unfold dPlc defJ isPlc
  rw [e0]
  simp [sSeq, sSetI, sSetIN, sBind, iOp, M.bind, lift, iVar, iC, M.ret, sIf, iTst, isB, iCB, iCons, iNil, sRet, sNext, sAsg, sExpr, sPar, sPar3, iCall, iIf, iOr, iAnd, iNot, iNotV, iAndV, iOrV, M.no, iLstM, iLst, iTup, sAsgG, ngD, nsD, iSl, iPart, iNoPart, iBM, iCM, iYes, a, iChain, leI_int, ltI_int, f1, z1, z2]
def if1 : IS := (sIf (iOr (iNot (iTst (iCB (isiD cs tb) (iCons (iVar 1) (iCons (iC (.ty "tuple")) iNil))))) (iOr (iTst (iOp neD (iCB lenD (iCons (iVar 1) iNil)) (iC (.int 3)))) (iNot (iTst (iCB (isiD cs tb) (iCons (iOp ixD (iVar 1) (iC (.int 0))) (iCons (iC (.ty "str")) iNil))))))) (sRet (iC (.bl false))) sNext)
def if2 : IS := (sIf (iTst (iOp inD (iOp ixD (iVar 1) (iC (.int 0))) (iTup (iCons (iC (.str [97, 116])) (iCons (iC (.str [110, 111, 116])) iNil))))) (sRet (iAndV (iCall 2 (dPlc T cs tb) (iCons (iVar 0) (iCons (iOp ixD (iVar 1) (iC (.int 1))) iNil))) (iCall 2 (dLet T cs tb) (iCons (iVar 0) (iCons (iOp ixD (iVar 1) (iC (.int 2))) iNil))))) sNext)
def if3 : IS := (sIf (iOr (iTst (iOp notInD (iOp ixD (iVar 1) (iC (.int 0))) (iTup (iCons (iC (.str [108, 101, 97, 115, 116])) (iCons (iC (.str [109, 111, 115, 116])) iNil))))) (iNot (iTst (iCall 2 (dLet T cs tb) (iCons (iVar 0) (iCons (iOp ixD (iVar 1) (iC (.int 1))) iNil)))))) (sRet (iC (.bl false))) sNext)
def if4 : IS := (sRet (iAndV (iCall 1 (dInt cs tb) (iCons (iOp ixD (iVar 1) (iC (.int 2))) iNil)) (iChain leI leI (iC (.int 0)) (iOp ixD (iVar 1) (iC (.int 2))) (iFld T [0] 1 (iVar 0)))))
def isFact : IS := sSeq (if1 cs tb) (sSeq (if2 T cs tb) (sSeq (if3 T cs tb) (if4 T cs tb)))
def dFact : List D → M D := defJ 2 false (isFact T cs tb)
theorem if1_ok {S : Store} {b x y : D} {s : List Nat} : if1 cs tb [some b, some (.tup [.str s, x, y])] S = .ok (.nx [some b, some (.tup [.str s, x, y])]) S := by
  have h1 := isi_b (cs := cs) (tb := tb) (x := .tup [.str s, x, y]) (S := S) (t := "tuple") rfl kit_tt
  have h2 := isi_b (cs := cs) (tb := tb) (x := .str s) (S := S) (t := "str") rfl kit_ss
  have ln : lenD [.tup [.str s, x, y]] S = some (.int 3) := rfl
  unfold if1
  simp [sSeq, sSetI, sSetIN, sBind, iOp, M.bind, lift, iVar, iC, M.ret, sIf, iTst, isB, iCB, iCons, iNil, sRet, sNext, sAsg, sExpr, sPar, sPar3, iCall, iIf, iOr, iAnd, iNot, iNotV, iAndV, iOrV, M.no, iLstM, iLst, iTup, sAsgG, ngD, nsD, iSl, iPart, iNoPart, iBM, iCM, iYes, h1, h2, ln, neD_int, ixT0]
theorem fact_ok (hT : T.fs 0 = [0, 1]) {S : Store} {l : List Nat} {k : Nat} {f : Ft} (hf : FtOk l k f) : ∃ S', dFact T cs tb [bd l k, ftD f] S = .ok (.bl true) S' ∧ Kq S S' := by
  have e0 : startR 2 [bd l k, ftD f] = [some (bd l k), some (ftD f)] := rfl
  cases f with
  | pl b p c =>
    obtain ⟨hp, hc⟩ := hf
    have a1 := plc_ok T cs tb hT (S := S) (l := l) hp
    have a2 := let_ok T cs tb hT (S := (S.trim S.next).trim S.next) (k := k) hc
    have n2 : ((S.trim S.next).trim S.next).next = S.next := rfl
    rw [n2] at a2
    refine ⟨(((S.trim S.next).trim S.next).trim S.next).trim S.next, ?_, (kq_t2 S).trans ((kq_trim (Kq.refl _)).trans (kq_trim (Kq.refl _)))⟩
    cases b with
    | true =>
      have fe : ftD (.pl true p c) = .tup [.str sAt, .int (p : Int), .str [c]] := rfl
      have e1 := if1_ok cs tb (S := S) (b := bd l k) (s := sAt) (x := .int (p : Int)) (y := .str [c])
      have i1 : inD (.str sAt) (.tup [.str [97, 116], .str [110, 111, 116]]) S = some (.bl true) := rfl
      unfold dFact defJ isFact
      rw [e0, fe, sSeq_nx e1]
      unfold if2 sSeq
      simp [sSeq, sSetI, sSetIN, sBind, iOp, M.bind, lift, iVar, iC, M.ret, sIf, iTst, isB, iCB, iCons, iNil, sRet, sNext, sAsg, sExpr, sPar, sPar3, iCall, iIf, iOr, iAnd, iNot, iNotV, iAndV, iOrV, M.no, iLstM, iLst, iTup, sAsgG, ngD, nsD, iSl, iPart, iNoPart, iBM, iCM, iYes, ixT0, ixT1, ixT2, i1, a1, a2]
    | false =>
      have fe : ftD (.pl false p c) = .tup [.str sNot, .int (p : Int), .str [c]] := rfl
      have e1 := if1_ok cs tb (S := S) (b := bd l k) (s := sNot) (x := .int (p : Int)) (y := .str [c])
      have i1 : inD (.str sNot) (.tup [.str [97, 116], .str [110, 111, 116]]) S = some (.bl true) := rfl
      unfold dFact defJ isFact
      rw [e0, fe, sSeq_nx e1]
      unfold if2 sSeq
      simp [sSeq, sSetI, sSetIN, sBind, iOp, M.bind, lift, iVar, iC, M.ret, sIf, iTst, isB, iCB, iCons, iNil, sRet, sNext, sAsg, sExpr, sPar, sPar3, iCall, iIf, iOr, iAnd, iNot, iNotV, iAndV, iOrV, M.no, iLstM, iLst, iTup, sAsgG, ngD, nsD, iSl, iPart, iNoPart, iBM, iCM, iYes, ixT0, ixT1, ixT2, i1, a1, a2]
  | cn b c m =>
    obtain ⟨hc, hm⟩ := hf
    have a2 := let_ok T cs tb hT (S := S) (k := k) hc
    have a3 := int_ok cs tb (S := S.trim S.next) (i := (m : Int))
    have n2 : (S.trim S.next).next = S.next := rfl
    rw [n2] at a3
    have z1 : (0 : Int) ≤ (m : Int) := by omega
    have z2 : (m : Int) ≤ (k : Int) := by omega
    refine ⟨((S.trim S.next).trim S.next).trim S.next, ?_, (kq_t2 S).trans (kq_trim (Kq.refl _))⟩
    cases b with
    | true =>
      have fe : ftD (.cn true c m) = .tup [.str sLeast, .str [c], .int (m : Int)] := rfl
      have e1 := if1_ok cs tb (S := S) (b := bd l k) (s := sLeast) (x := .str [c]) (y := .int (m : Int))
      have i1 : inD (.str sLeast) (.tup [.str [97, 116], .str [110, 111, 116]]) S = some (.bl false) := rfl
      have i2 : notInD (.str sLeast) (.tup [.str [108, 101, 97, 115, 116], .str [109, 111, 115, 116]]) S = some (.bl false) := rfl
      have f1 : ∀ S, iFld T [0] 1 (iVar 0) [some (bd l k), some (.tup [.str sLeast, .str [c], .int (m : Int)])] S = .ok (.int (k : Int)) S := fun S => fld1 T hT rfl
      unfold dFact defJ isFact
      rw [e0, fe, sSeq_nx e1]
      unfold if2 if3 if4 sSeq
      simp [sSeq, sSetI, sSetIN, sBind, iOp, M.bind, lift, iVar, iC, M.ret, sIf, iTst, isB, iCB, iCons, iNil, sRet, sNext, sAsg, sExpr, sPar, sPar3, iCall, iIf, iOr, iAnd, iNot, iNotV, iAndV, iOrV, M.no, iLstM, iLst, iTup, sAsgG, ngD, nsD, iSl, iPart, iNoPart, iBM, iCM, iYes, ixT0, ixT1, ixT2, i1, i2, a2, a3, iChain, leI_int, f1, z1, z2]
    | false =>
      have fe : ftD (.cn false c m) = .tup [.str sMost, .str [c], .int (m : Int)] := rfl
      have e1 := if1_ok cs tb (S := S) (b := bd l k) (s := sMost) (x := .str [c]) (y := .int (m : Int))
      have i1 : inD (.str sMost) (.tup [.str [97, 116], .str [110, 111, 116]]) S = some (.bl false) := rfl
      have i2 : notInD (.str sMost) (.tup [.str [108, 101, 97, 115, 116], .str [109, 111, 115, 116]]) S = some (.bl false) := rfl
      have f1 : ∀ S, iFld T [0] 1 (iVar 0) [some (bd l k), some (.tup [.str sMost, .str [c], .int (m : Int)])] S = .ok (.int (k : Int)) S := fun S => fld1 T hT rfl
      unfold dFact defJ isFact
      rw [e0, fe, sSeq_nx e1]
      unfold if2 if3 if4 sSeq
      simp [sSeq, sSetI, sSetIN, sBind, iOp, M.bind, lift, iVar, iC, M.ret, sIf, iTst, isB, iCB, iCons, iNil, sRet, sNext, sAsg, sExpr, sPar, sPar3, iCall, iIf, iOr, iAnd, iNot, iNotV, iAndV, iOrV, M.no, iLstM, iLst, iTup, sAsgG, ngD, nsD, iSl, iPart, iNoPart, iBM, iCM, iYes, ixT0, ixT1, ixT2, i1, i2, a2, a3, iChain, leI_int, f1, z1, z2]
end
end J

set_option Elab.async false
set_option linter.all false
set_option maxRecDepth 100000
set_option maxHeartbeats 1010000
/-! PV: plain laws: claims about words -/
namespace J
theorem Kq.t {S S' : Store} (h : Kq S S') : Kq S (S'.trim S.next) := kq_trim h
theorem isi_tup {cs : List Nat} {tb : List (Tg × Tg × Bool)} {xs : List D} {S : Store} : isiD cs tb [.tup xs, .ty "tuple"] S = some (.bl true) := isi_b rfl kit_tt
theorem isi_str {cs : List Nat} {tb : List (Tg × Tg × Bool)} {l : List Nat} {S : Store} : isiD cs tb [.str l, .ty "str"] S = some (.bl true) := isi_b rfl kit_ss
theorem andV_t {a b : IE} {ρ : Rho} {S S' : Store} (h : a ρ S = .ok (.bl true) S') : iAndV a b ρ S = b ρ S' := by
  simp only [iAndV, M.bind, h, lift, isB, if_true]
theorem andV_f {a b : IE} {ρ : Rho} {S S' : Store} (h : a ρ S = .ok (.bl false) S') : iAndV a b ρ S = .ok (.bl false) S' := by
  simp only [iAndV, M.bind, h, lift, isB, Bool.false_eq_true, if_false, M.ret]
theorem ret_of {a : IE} {ρ : Rho} {S S' : Store} {d : D} (h : a ρ S = .ok d S') : sRet a ρ S = .ok (.rt d) S' := by
  simp only [sRet, sBind, h, M.ret]
theorem asg_of {i : Nat} {a : IE} {ρ : Rho} {S S' : Store} {d : D} (h : a ρ S = .ok d S') : sAsg i a ρ S = .ok (.nx (ρ.set i (some d))) S' := by
  simp only [sAsg, sBind, h, M.ret]
theorem sSeq_rt {a b : IS} {ρ : Rho} {S S1 : Store} {d : D} (h : a ρ S = .ok (.rt d) S1) : sSeq a b ρ S = .ok (.rt d) S1 := by
  unfold sSeq
  rw [h]
theorem call_of {n : Nat} {f : List D → M D} {ia : IA} {ρ : Rho} {S S1 : Store} {xs : List D} (h : ia ρ S = .ok xs S1) (hl : xs.length = n) : iCall n f ia ρ S = f xs S1 := by
  simp only [iCall, M.bind, h, hl, if_true]
theorem defJ_rt {n : Nat} {b : IS} {ds : List D} {S S1 : Store} {d : D} (h : b (startR n ds) S = .ok (.rt d) S1) : defJ n false b ds S = .ok d (S1.trim S.next) := by
  unfold defJ
  rw [h]
  rfl
section
variable (T : Tab) (cs : List Nat) (tb : List (Tg × Tg × Bool))
def isRowsQ : IS := (sRet (iAndV (iCB (isiD cs tb) (iCons (iVar 1) (iCons (iC (.ty "tuple")) iNil))) (iAndV (iOp leI (iCB lenD (iCons (iVar 1) iNil)) (iC (.int 20))) (iCB allD (iCons (iLc (iItems (iVar 1)) (.n 2) iYes (iCall 2 (dIsRow T cs tb) (iCons (iVar 0) (iCons (iVar 2) iNil))) [2]) iNil)))))
def dRowsC : List D → M D := defJ 3 false (isRowsQ T cs tb)
def isFactsQ : IS := (sRet (iAndV (iCB (isiD cs tb) (iCons (iVar 1) (iCons (iC (.ty "tuple")) iNil))) (iAndV (iOp leI (iCB lenD (iCons (iVar 1) iNil)) (iC (.int 4))) (iCB allD (iCons (iLc (iItems (iVar 1)) (.n 2) iYes (iCall 2 (dFact T cs tb) (iCons (iVar 0) (iCons (iVar 2) iNil))) [2]) iNil)))))
def dFactsC : List D → M D := defJ 3 false (isFactsQ T cs tb)
theorem all_const {α : Type} (xs : List α) : (xs.all fun _ => true) = true := by simp
theorem rowsC_ok (hT : T.fs 0 = [0, 1]) {S : Store} {l : List Nat} {k : Nat} {rows : List (List Nat × List Nat)} (hk : k ≤ 1000) (hr : rows.length ≤ 20) (h : ∀ r ∈ rows, Row l k r) : ∃ S', dRowsC T cs tb [bd l k, .tup (rows.map rowD)] S = .ok (.bl true) S' ∧ Kq S S' := by
  obtain ⟨S1, e, q⟩ := all_lc (src := iItems (iVar 1)) (t := iYes) (g := .n 2) (ie := iCall 2 (dIsRow T cs tb) (iCons (iVar 0) (iCons (iVar 2) iNil))) (vs := [2]) (ρ := [some (bd l k), some (.tup (rows.map rowD)), none]) (S := S) rowD (fun _ => true) rows rfl (by omega) (fun r hr S1 _ => by
    obtain ⟨S2, e2, q2⟩ := isrow_ok T cs tb hT (S := S1) hk (h r hr)
    refine ⟨[some (bd l k), some (.tup (rows.map rowD)), some (rowD r)], S2, rfl, rfl, ?_, q2⟩
    rw [call_of (n := 2) (xs := [bd l k, rowD r]) rfl rfl]
    exact e2)
  rw [all_const] at e
  refine ⟨S1.trim S.next, defJ_rt (ret_of ?_), q.t⟩
  have e0 : startR 3 [bd l k, .tup (rows.map rowD)] = [some (bd l k), some (.tup (rows.map rowD)), none] := rfl
  have z : ((rows.length : Nat) : Int) ≤ 20 := by omega
  have a1 : iCB (isiD cs tb) (iCons (iVar 1) (iCons (iC (.ty "tuple")) iNil)) [some (bd l k), some (.tup (rows.map rowD)), none] S = .ok (.bl true) S := by
    simp only [iCB, iCons, iNil, iVar, iC, M.bind, M.ret, lift, List.getD_cons_zero, List.getD_cons_succ, isi_tup]
  have a2 : iOp leI (iCB lenD (iCons (iVar 1) iNil)) (iC (.int 20)) [some (bd l k), some (.tup (rows.map rowD)), none] S = .ok (.bl true) S := by
    simp only [iOp, iCB, iCons, iNil, iVar, iC, M.bind, M.ret, lift, List.getD_cons_zero, List.getD_cons_succ, lenD_tup, List.length_map, leI_int, z, decide_true]
  rw [e0, andV_t a1, andV_t a2, e]
theorem factsC_ok (hT : T.fs 0 = [0, 1]) {S : Store} {l : List Nat} {k : Nat} {fs : List Ft} (hr : fs.length ≤ 4) (h : ∀ f ∈ fs, FtOk l k f) : ∃ S', dFactsC T cs tb [bd l k, .tup (fs.map ftD)] S = .ok (.bl true) S' ∧ Kq S S' := by
  obtain ⟨S1, e, q⟩ := all_lc (src := iItems (iVar 1)) (t := iYes) (g := .n 2) (ie := iCall 2 (dFact T cs tb) (iCons (iVar 0) (iCons (iVar 2) iNil))) (vs := [2]) (ρ := [some (bd l k), some (.tup (fs.map ftD)), none]) (S := S) ftD (fun _ => true) fs rfl (by omega) (fun f hf S1 _ => by
    obtain ⟨S2, e2, q2⟩ := fact_ok T cs tb hT (S := S1) (h f hf)
    refine ⟨[some (bd l k), some (.tup (fs.map ftD)), some (ftD f)], S2, rfl, rfl, ?_, q2⟩
    rw [call_of (n := 2) (xs := [bd l k, ftD f]) rfl rfl]
    exact e2)
  rw [all_const] at e
  refine ⟨S1.trim S.next, defJ_rt (ret_of ?_), q.t⟩
  have e0 : startR 3 [bd l k, .tup (fs.map ftD)] = [some (bd l k), some (.tup (fs.map ftD)), none] := rfl
  have z : ((fs.length : Nat) : Int) ≤ 4 := by omega
  have a1 : iCB (isiD cs tb) (iCons (iVar 1) (iCons (iC (.ty "tuple")) iNil)) [some (bd l k), some (.tup (fs.map ftD)), none] S = .ok (.bl true) S := by
    simp only [iCB, iCons, iNil, iVar, iC, M.bind, M.ret, lift, List.getD_cons_zero, List.getD_cons_succ, isi_tup]
  have a2 : iOp leI (iCB lenD (iCons (iVar 1) iNil)) (iC (.int 4)) [some (bd l k), some (.tup (fs.map ftD)), none] S = .ok (.bl true) S := by
    simp only [iOp, iCB, iCons, iNil, iVar, iC, M.bind, M.ret, lift, List.getD_cons_zero, List.getD_cons_succ, lenD_tup, List.length_map, leI_int, z, decide_true]
  rw [e0, andV_t a1, andV_t a2, e]
/-! ### board_of -/
def bo1 : IS := (sIf (iOr (iNot (iTst (iCall 1 (dAre cs tb) (iCons (iVar 0) iNil)))) (iOr (iNot (iTst (iCall 1 (dInt cs tb) (iCons (iVar 1) iNil)))) (iNot (iTst (iChain leI leI (iC (.int 1)) (iVar 1) (iC (.int 6))))))) (sRet (iC .non)) sNext)
def bo2 : IS := (sRet (iMake T true 0 3 (dInit T cs tb) (iCons (iVar 0) (iCons (iVar 1) iNil))))
def isBoardOf : IS := sSeq (bo1 cs tb) (bo2 T cs tb)
def dBoardOf : List D → M D := defJ 2 false (isBoardOf T cs tb)
theorem boardOf_ok (hT : T.fs 0 = [0, 1]) {S : Store} {l : List Nat} {k : Int} (h : Sg l) (h2 : 2 ≤ l.length) (k1 : 1 ≤ k) (k2 : k ≤ 6) : ∃ S', dBoardOf T cs tb [.str l, .int k] S = .ok (bd l k) S' ∧ Kq S S' := by
  have a := are_ok cs tb (S := S) h h2
  have b := int_ok cs tb (S := S.trim S.next) (i := k)
  have n1 : (S.trim S.next).next = S.next := rfl
  rw [n1] at b
  obtain ⟨S1, e, q⟩ := make_ok T cs tb hT (S := (S.trim S.next).trim S.next) h h2 k1 k2
  have e1 : bo1 cs tb [some (.str l), some (.int k)] S = .ok (.nx [some (.str l), some (.int k)]) ((S.trim S.next).trim S.next) := by
    unfold bo1
    simp [sSeq, sSetI, sSetIN, sBind, iOp, M.bind, lift, iVar, iC, M.ret, sIf, iTst, isB, iCB, iCons, iNil, sRet, sNext, sAsg, sExpr, sPar, sPar3, iCall, iIf, iOr, iAnd, iNot, iNotV, iAndV, iOrV, M.no, iLstM, iLst, iTup, sAsgG, ngD, nsD, iSl, iPart, iNoPart, iBM, iCM, iYes, a, b, iChain, leI_int, k1, k2]
  have e2 : bo2 T cs tb [some (.str l), some (.int k)] ((S.trim S.next).trim S.next) = .ok (.rt (bd l k)) S1 := by
    unfold bo2
    refine ret_of ?_
    simp only [iMake, iCons, iNil, iVar, M.bind, M.ret, lift, List.getD_cons_zero, List.getD_cons_succ]
    exact e
  have e0 : startR 2 [.str l, .int k] = [some (.str l), some (.int k)] := rfl
  refine ⟨S1.trim S.next, defJ_rt ?_, ((kq_t2 S).trans q).t⟩
  rw [e0]
  unfold isBoardOf
  rw [sSeq_nx e1, e2]
/-! ### shows_word -/
def sv1 : IS := (sIf (iNot (iTst (iCall 2 (dIsWord T cs tb) (iCons (iVar 0) (iCons (iVar 3) iNil))))) (sRet (iC (.bl false))) sNext)
def sv2 : IS := (sAsg 4 (iCB allD (iCons (iLc (iItems (iVar 1)) (.t [5, 6]) iYes (iOp eqD (iCall 2 dMarks (iCons (iVar 5) (iCons (iVar 3) iNil))) (iVar 6)) [5, 6]) iNil)))
def sv3 : IS := (sRet (iAndV (iVar 4) (iCB allD (iCons (iLc (iItems (iVar 2)) (.n 7) iYes (iCall 2 (dHas iTup) (iCons (iVar 3) (iCons (iVar 7) iNil))) [7]) iNil))))
def isShowsW : IS := sSeq (sv1 T cs tb) (sSeq sv2 sv3)
def dShowsW : List D → M D := defJ 8 false (isShowsW T cs tb)
/-- a word fits rows and has facts -/
def judgeB (l : List Nat) (k : Nat) (rows : List (List Nat × List Nat)) (fs : List Ft) : D → Bool
  | .str w => wordB l k w && ((rows.all fun r => decide (marksL r.1 w = r.2)) && fs.all (ftB w))
  | _ => false
theorem wordB_iff {l : List Nat} {k : Nat} {w : List Nat} : wordB l k w = true ↔ w.length = k ∧ ∀ c ∈ w, c ∈ l := by
  simp [wordB, Bool.and_eq_true, List.all_eq_true]
/-- a paper: a short text, or something else -/
def Pap (d : D) : Prop := (∃ w : List Nat, d = .str w ∧ w.length ≤ 1000) ∨ notK "str" d = true
theorem judge_not {l : List Nat} {k : Nat} {rows : List (List Nat × List Nat)} {fs : List Ft} {d : D} (h : notK "str" d = true) : judgeB l k rows fs d = false := by
  cases d with
  | str w => simp [notK, knd, kit_ss] at h
  | _ => rfl
theorem showsW_ok (hT : T.fs 0 = [0, 1]) {S : Store} {l : List Nat} {k : Nat} {rows : List (List Nat × List Nat)} {fs : List Ft} {d : D} (hk : k ≤ 400) (hr : rows.length ≤ 20) (h : ∀ r ∈ rows, Row l k r) (hf : fs.length ≤ 4) (g : ∀ f ∈ fs, FtOk l k f) (hd : Pap d) :
    ∃ S', dShowsW T cs tb [bd l k, .tup (rows.map rowD), .tup (fs.map ftD), d] S = .ok (.bl (judgeB l k rows fs d)) S' ∧ Kq S S' := by
  have e0 : startR 8 [bd l k, .tup (rows.map rowD), .tup (fs.map ftD), d] = [some (bd l k), some (.tup (rows.map rowD)), some (.tup (fs.map ftD)), some d, none, none, none, none] := rfl
  have no : ∀ S1, dIsWord T cs tb [bd l k, d] S = .ok (.bl false) S1 → isShowsW T cs tb [some (bd l k), some (.tup (rows.map rowD)), some (.tup (fs.map ftD)), some d, none, none, none, none] S = .ok (.rt (.bl false)) S1 := fun S1 e => by
    unfold isShowsW
    refine sSeq_rt ?_
    unfold sv1
    simp [sSeq, sSetI, sSetIN, sBind, iOp, M.bind, lift, iVar, iC, M.ret, sIf, iTst, isB, iCB, iCons, iNil, sRet, sNext, sAsg, sExpr, sPar, sPar3, iCall, iIf, iOr, iAnd, iNot, iNotV, iAndV, iOrV, M.no, iLstM, iLst, iTup, sAsgG, ngD, nsD, iSl, iPart, iNoPart, iBM, iCM, iYes, e]
  rcases hd with ⟨w, rfl, hw⟩ | hd
  · have iw := isw_gen T cs tb hT (S := S) (l := l) (k := k) hw
    cases hb : wordB l k w with
    | false =>
      rw [hb] at iw
      refine ⟨(S.trim S.next).trim S.next, ?_, (kq_t1 S).t⟩
      have jb : judgeB l k rows fs (.str w) = false := by simp only [judgeB, hb, Bool.false_and]
      rw [jb]
      exact defJ_rt (by rw [e0]; exact no _ iw)
    | true =>
      rw [hb] at iw
      obtain ⟨w1, w2⟩ := wordB_iff.mp hb
      have e1 : sv1 T cs tb [some (bd l k), some (.tup (rows.map rowD)), some (.tup (fs.map ftD)), some (.str w), none, none, none, none] S = .ok (.nx [some (bd l k), some (.tup (rows.map rowD)), some (.tup (fs.map ftD)), some (.str w), none, none, none, none]) (S.trim S.next) := by
        unfold sv1
        simp [sSeq, sSetI, sSetIN, sBind, iOp, M.bind, lift, iVar, iC, M.ret, sIf, iTst, isB, iCB, iCons, iNil, sRet, sNext, sAsg, sExpr, sPar, sPar3, iCall, iIf, iOr, iAnd, iNot, iNotV, iAndV, iOrV, M.no, iLstM, iLst, iTup, sAsgG, ngD, nsD, iSl, iPart, iNoPart, iBM, iCM, iYes, iw]
      obtain ⟨S2, a2, q2⟩ := all_lc (src := iItems (iVar 1)) (t := iYes) (g := .t [5, 6]) (ie := iOp eqD (iCall 2 dMarks (iCons (iVar 5) (iCons (iVar 3) iNil))) (iVar 6)) (vs := [5, 6]) (ρ := [some (bd l k), some (.tup (rows.map rowD)), some (.tup (fs.map ftD)), some (.str w), none, none, none, none]) (S := S.trim S.next) rowD (fun r => decide (marksL r.1 w = r.2)) rows rfl (by omega) (fun r hr S1 _ => by
        obtain ⟨S3, e3, q3⟩ := marks_ok (S := S1) (g := r.1) (w := w) (by rw [(h r hr).len, w1]) (by rw [(h r hr).len]; omega)
        refine ⟨[some (bd l k), some (.tup (rows.map rowD)), some (.tup (fs.map ftD)), some (.str w), none, some (.str r.1), some (.str r.2), none], S3, rfl, rfl, ?_, q3⟩
        have c3 : iCall 2 dMarks (iCons (iVar 5) (iCons (iVar 3) iNil)) [some (bd l k), some (.tup (rows.map rowD)), some (.tup (fs.map ftD)), some (.str w), none, some (.str r.1), some (.str r.2), none] S1 = .ok (.str (marksL r.1 w)) S3 := by
          rw [call_of (n := 2) (xs := [.str r.1, .str w]) rfl rfl]
          exact e3
        simp only [iOp, M.bind, c3, iVar, lift, List.getD_cons_zero, List.getD_cons_succ, eqD_str])
      have e2 := asg_of (i := 4) a2
      obtain ⟨S4, a4, q4⟩ := all_lc (src := iItems (iVar 2)) (t := iYes) (g := .n 7) (ie := iCall 2 (dHas iTup) (iCons (iVar 3) (iCons (iVar 7) iNil))) (vs := [7]) (ρ := [some (bd l k), some (.tup (rows.map rowD)), some (.tup (fs.map ftD)), some (.str w), some (.bl (rows.all fun r => decide (marksL r.1 w = r.2))), none, none, none]) (S := S2) ftD (ftB w) fs rfl (by omega) (fun f hf S1 _ => by
        have e5 := has_ok cont_tup (S := S1) w1 (by omega) (g f hf)
        refine ⟨[some (bd l k), some (.tup (rows.map rowD)), some (.tup (fs.map ftD)), some (.str w), some (.bl (rows.all fun r => decide (marksL r.1 w = r.2))), none, none, some (ftD f)], S1.trim S1.next, rfl, rfl, ?_, kq_t1 S1⟩
        rw [call_of (n := 2) (xs := [.str w, ftD f]) rfl rfl]
        exact e5)
      have v4 : iVar 4 [some (bd l k), some (.tup (rows.map rowD)), some (.tup (fs.map ftD)), some (.str w), some (.bl (rows.all fun r => decide (marksL r.1 w = r.2))), none, none, none] S2 = .ok (.bl (rows.all fun r => decide (marksL r.1 w = r.2))) S2 := rfl
      have jb : judgeB l k rows fs (.str w) = ((rows.all fun r => decide (marksL r.1 w = r.2)) && fs.all (ftB w)) := by simp only [judgeB, hb, Bool.true_and]
      rw [jb]
      cases hm : (rows.all fun r => decide (marksL r.1 w = r.2)) with
      | false =>
        rw [hm] at v4 e2
        refine ⟨S2.trim S.next, defJ_rt ?_, ((kq_t1 S).trans q2).t⟩
        rw [e0]
        unfold isShowsW
        rw [sSeq_nx e1]
        refine (sSeq_nx e2).trans ?_
        exact ret_of (andV_f v4)
      | true =>
        rw [hm] at v4 e2 a4
        refine ⟨S4.trim S.next, defJ_rt ?_, (((kq_t1 S).trans q2).trans q4).t⟩
        rw [e0]
        unfold isShowsW
        rw [sSeq_nx e1]
        refine (sSeq_nx e2).trans ?_
        exact ret_of ((andV_t v4).trans a4)
  · have iw := isw_not T cs tb (S := S) (b := bd l k) hd
    refine ⟨(S.trim S.next).trim S.next, ?_, (kq_t1 S).t⟩
    rw [judge_not hd]
    exact defJ_rt (by rw [e0]; exact no _ iw)
end
end J

set_option Elab.async false
set_option linter.all false
set_option maxRecDepth 100000
set_option maxHeartbeats 1010000
/-! PW: plain laws: holds, the law's own due, drawn facts, all words -/
namespace J
def clm (s l : List Nat) (k : Int) (a b : D) : D := .tup [.str s, .str l, .int k, a, b]
section
variable {s l : List Nat} {k : Int} {a b : D} {S : Store}
theorem cl0 : ixD (clm s l k a b) (.int 0) S = some (.str s) := rfl
theorem cl1 : ixD (clm s l k a b) (.int 1) S = some (.str l) := rfl
theorem cl2 : ixD (clm s l k a b) (.int 2) S = some (.int k) := rfl
theorem cl3 : ixD (clm s l k a b) (.int 3) S = some a := rfl
theorem cl4 : ixD (clm s l k a b) (.int 4) S = some b := rfl
theorem cl_len : lenD [clm s l k a b] S = some (.int 5) := rfl
end
section
variable (T : Tab) (cs : List Nat) (tb : List (Tg × Tg × Bool)) (pa : IS) (dN : List D → M D)
def sPoss : List Nat := [112, 111, 115, 115, 105, 98, 108, 101]
def sImp : List Nat := [105, 109, 112, 111, 115, 115, 105, 98, 108, 101]
def ho1 : IS := (sIf (iOr (iNot (iTst (iCB (isiD cs tb) (iCons (iVar 0) (iCons (iC (.ty "tuple")) iNil))))) (iOr (iTst (iOp neD (iCB lenD (iCons (iVar 0) iNil)) (iC (.int 5)))) (iNot (iTst (iCB (isiD cs tb) (iCons (iOp ixD (iVar 0) (iC (.int 0))) (iCons (iC (.ty "str")) iNil))))))) (sRet (iC (.bl false))) sNext)
def ho2 : IS := (sAsg 2 (iCall 2 (dBoardOf T cs tb) (iCons (iOp ixD (iVar 0) (iC (.int 1))) (iCons (iOp ixD (iVar 0) (iC (.int 2))) iNil))))
def ho3 : IS := (sIf (iTst (iOp isN (iVar 2) (iC .non))) (sRet (iC (.bl false))) sNext)
def ho4 : IS := (sIf (iTst (iOp eqD (iOp ixD (iVar 0) (iC (.int 0))) (iC (.str [112, 97, 114, 116, 115])))) pa sNext)
def ho5 : IS := (sIf (iOr (iNot (iTst (iCall 2 (dRowsC T cs tb) (iCons (iVar 2) (iCons (iOp ixD (iVar 0) (iC (.int 3))) iNil))))) (iNot (iTst (iCall 2 (dFactsC T cs tb) (iCons (iVar 2) (iCons (iOp ixD (iVar 0) (iC (.int 4))) iNil)))))) (sRet (iC (.bl false))) sNext)
def ho6 : IS := (sIf (iTst (iOp eqD (iOp ixD (iVar 0) (iC (.int 0))) (iC (.str [112, 111, 115, 115, 105, 98, 108, 101])))) (sRet (iCall 4 (dShowsW T cs tb) (iCons (iVar 2) (iCons (iOp ixD (iVar 0) (iC (.int 3))) (iCons (iOp ixD (iVar 0) (iC (.int 4))) (iCons (iVar 1) iNil)))))) sNext)
def ho7 : IS := (sRet (iAndV (iOp eqD (iOp ixD (iVar 0) (iC (.int 0))) (iC (.str [105, 109, 112, 111, 115, 115, 105, 98, 108, 101]))) (iCall 4 dN (iCons (iVar 2) (iCons (iOp ixD (iVar 0) (iC (.int 3))) (iCons (iOp ixD (iVar 0) (iC (.int 4))) (iCons (iVar 1) iNil)))))))
def isHolds : IS := sSeq (ho1 cs tb) (sSeq (ho2 T cs tb) (sSeq ho3 (sSeq (ho4 pa) (sSeq (ho5 T cs tb) (sSeq (ho6 T cs tb) (ho7 dN))))))
def dHolds : List D → M D := defJ 4 false (isHolds T cs tb pa dN)
theorem holds_in (hT : T.fs 0 = [0, 1]) {S : Store} {l s : List Nat} {k : Nat} {rows : List (List Nat × List Nat)} {fs : List Ft} {d : D} (sg : Sg l) (h2 : 2 ≤ l.length) (k1 : 1 ≤ k) (k2 : k ≤ 6) (hr : rows.length ≤ 20) (h : ∀ r ∈ rows, Row l k r) (hf : fs.length ≤ 4) (g : ∀ f ∈ fs, FtOk l k f) (hp : s ≠ [112, 97, 114, 116, 115]) :
    ∃ S1, isHolds T cs tb pa dN [some (clm s l k (.tup (rows.map rowD)) (.tup (fs.map ftD))), some d, none, none] S = sSeq (ho6 T cs tb) (ho7 dN) [some (clm s l k (.tup (rows.map rowD)) (.tup (fs.map ftD))), some d, some (bd l k), none] S1 ∧ Kq S S1 := by
  obtain ⟨S1, b1, q1⟩ := boardOf_ok T cs tb hT (S := S) (k := (k : Int)) sg h2 (by omega) (by omega)
  obtain ⟨S2, b2, q2⟩ := rowsC_ok T cs tb hT (S := S1) (l := l) (k := k) (by omega) hr h
  obtain ⟨S3, b3, q3⟩ := factsC_ok T cs tb hT (S := S2) (l := l) (k := k) hf g
  have it : ∀ S, isiD cs tb [clm s l k (.tup (rows.map rowD)) (.tup (fs.map ftD)), .ty "tuple"] S = some (.bl true) := fun S => isi_tup
  have e1 : ho1 cs tb [some (clm s l k (.tup (rows.map rowD)) (.tup (fs.map ftD))), some d, none, none] S = .ok (.nx [some (clm s l k (.tup (rows.map rowD)) (.tup (fs.map ftD))), some d, none, none]) S := by
    unfold ho1
    simp [sSeq, sSetI, sSetIN, sBind, iOp, M.bind, lift, iVar, iC, M.ret, sIf, iTst, isB, iCB, iCons, iNil, sRet, sNext, sAsg, sExpr, sPar, sPar3, iCall, iIf, iOr, iAnd, iNot, iNotV, iAndV, iOrV, M.no, iLstM, iLst, iTup, sAsgG, ngD, nsD, iSl, iPart, iNoPart, iBM, iCM, iYes, it, cl_len, neD_int, cl0, isi_str]
  have e2 : ho2 T cs tb [some (clm s l k (.tup (rows.map rowD)) (.tup (fs.map ftD))), some d, none, none] S = .ok (.nx [some (clm s l k (.tup (rows.map rowD)) (.tup (fs.map ftD))), some d, some (bd l k), none]) S1 := by
    unfold ho2
    simp [sSeq, sSetI, sSetIN, sBind, iOp, M.bind, lift, iVar, iC, M.ret, sIf, iTst, isB, iCB, iCons, iNil, sRet, sNext, sAsg, sExpr, sPar, sPar3, iCall, iIf, iOr, iAnd, iNot, iNotV, iAndV, iOrV, M.no, iLstM, iLst, iTup, sAsgG, ngD, nsD, iSl, iPart, iNoPart, iBM, iCM, iYes, cl1, cl2, b1]
  have e3 : ho3 [some (clm s l k (.tup (rows.map rowD)) (.tup (fs.map ftD))), some d, some (bd l k), none] S1 = .ok (.nx [some (clm s l k (.tup (rows.map rowD)) (.tup (fs.map ftD))), some d, some (bd l k), none]) S1 := by
    unfold ho3
    simp [sSeq, sSetI, sSetIN, sBind, iOp, M.bind, lift, iVar, iC, M.ret, sIf, iTst, isB, iCB, iCons, iNil, sRet, sNext, sAsg, sExpr, sPar, sPar3, iCall, iIf, iOr, iAnd, iNot, iNotV, iAndV, iOrV, M.no, iLstM, iLst, iTup, sAsgG, ngD, nsD, iSl, iPart, iNoPart, iBM, iCM, iYes, isN, isNon]
  have e4 : ho4 pa [some (clm s l k (.tup (rows.map rowD)) (.tup (fs.map ftD))), some d, some (bd l k), none] S1 = .ok (.nx [some (clm s l k (.tup (rows.map rowD)) (.tup (fs.map ftD))), some d, some (bd l k), none]) S1 := by
    unfold ho4
    simp [sSeq, sSetI, sSetIN, sBind, iOp, M.bind, lift, iVar, iC, M.ret, sIf, iTst, isB, iCB, iCons, iNil, sRet, sNext, sAsg, sExpr, sPar, sPar3, iCall, iIf, iOr, iAnd, iNot, iNotV, iAndV, iOrV, M.no, iLstM, iLst, iTup, sAsgG, ngD, nsD, iSl, iPart, iNoPart, iBM, iCM, iYes, cl0, eqD_str, hp]
  have e5 : ho5 T cs tb [some (clm s l k (.tup (rows.map rowD)) (.tup (fs.map ftD))), some d, some (bd l k), none] S1 = .ok (.nx [some (clm s l k (.tup (rows.map rowD)) (.tup (fs.map ftD))), some d, some (bd l k), none]) S3 := by
    unfold ho5
    simp [sSeq, sSetI, sSetIN, sBind, iOp, M.bind, lift, iVar, iC, M.ret, sIf, iTst, isB, iCB, iCons, iNil, sRet, sNext, sAsg, sExpr, sPar, sPar3, iCall, iIf, iOr, iAnd, iNot, iNotV, iAndV, iOrV, M.no, iLstM, iLst, iTup, sAsgG, ngD, nsD, iSl, iPart, iNoPart, iBM, iCM, iYes, cl3, cl4, b2, b3]
  refine ⟨S3, ?_, (q1.trans q2).trans q3⟩
  unfold isHolds
  rw [sSeq_nx e1, sSeq_nx e2, sSeq_nx e3, sSeq_nx e4, sSeq_nx e5]
theorem holds_pos (hT : T.fs 0 = [0, 1]) {S : Store} {l : List Nat} {k : Nat} {rows : List (List Nat × List Nat)} {fs : List Ft} {d : D} (sg : Sg l) (h2 : 2 ≤ l.length) (k1 : 1 ≤ k) (k2 : k ≤ 6) (hr : rows.length ≤ 20) (h : ∀ r ∈ rows, Row l k r) (hf : fs.length ≤ 4) (g : ∀ f ∈ fs, FtOk l k f) (hd : Pap d) :
    ∃ S', dHolds T cs tb pa dN [clm sPoss l k (.tup (rows.map rowD)) (.tup (fs.map ftD)), d] S = .ok (.bl (judgeB l k rows fs d)) S' ∧ Kq S S' := by
  obtain ⟨S1, e, q⟩ := holds_in T cs tb pa dN hT (S := S) (s := sPoss) (d := d) sg h2 k1 k2 hr h hf g (by decide)
  obtain ⟨S2, e2, q2⟩ := showsW_ok T cs tb hT (S := S1) (l := l) (k := k) (by omega) hr h hf g hd
  refine ⟨S2.trim S.next, defJ_rt ?_, (q.trans q2).t⟩
  have e0 : startR 4 [clm sPoss l k (.tup (rows.map rowD)) (.tup (fs.map ftD)), d] = [some (clm sPoss l k (.tup (rows.map rowD)) (.tup (fs.map ftD))), some d, none, none] := rfl
  rw [e0, e]
  refine sSeq_rt ?_
  have q : ∀ S, eqD (.str sPoss) (.str [112, 111, 115, 115, 105, 98, 108, 101]) S = some (.bl true) := fun S => rfl
  unfold ho6
  simp [sSeq, sSetI, sSetIN, sBind, iOp, M.bind, lift, iVar, iC, M.ret, sIf, iTst, isB, iCB, iCons, iNil, sRet, sNext, sAsg, sExpr, sPar, sPar3, iCall, iIf, iOr, iAnd, iNot, iNotV, iAndV, iOrV, M.no, iLstM, iLst, iTup, sAsgG, ngD, nsD, iSl, iPart, iNoPart, iBM, iCM, iYes, cl0, cl3, cl4, q, e2]
theorem holds_neg (hT : T.fs 0 = [0, 1]) {S : Store} {l : List Nat} {k : Nat} {rows : List (List Nat × List Nat)} {fs : List Ft} {d : D} (sg : Sg l) (h2 : 2 ≤ l.length) (k1 : 1 ≤ k) (k2 : k ≤ 6) (hr : rows.length ≤ 20) (h : ∀ r ∈ rows, Row l k r) (hf : fs.length ≤ 4) (g : ∀ f ∈ fs, FtOk l k f)
    (hN : ∀ S, ∃ S', dN [bd l k, .tup (rows.map rowD), .tup (fs.map ftD), d] S = .ok (.bl false) S' ∧ Kq S S') :
    ∃ S', dHolds T cs tb pa dN [clm sImp l k (.tup (rows.map rowD)) (.tup (fs.map ftD)), d] S = .ok (.bl false) S' ∧ Kq S S' := by
  obtain ⟨S1, e, q⟩ := holds_in T cs tb pa dN hT (S := S) (s := sImp) (d := d) sg h2 k1 k2 hr h hf g (by decide)
  obtain ⟨S2, e2, q2⟩ := hN S1
  refine ⟨S2.trim S.next, defJ_rt ?_, (q.trans q2).t⟩
  have e0 : startR 4 [clm sImp l k (.tup (rows.map rowD)) (.tup (fs.map ftD)), d] = [some (clm sImp l k (.tup (rows.map rowD)) (.tup (fs.map ftD))), some d, none, none] := rfl
  rw [e0, e]
  have z1 : ∀ S, eqD (.str sImp) (.str [112, 111, 115, 115, 105, 98, 108, 101]) S = some (.bl false) := fun S => rfl
  have z2 : ∀ S, eqD (.str sImp) (.str [105, 109, 112, 111, 115, 115, 105, 98, 108, 101]) S = some (.bl true) := fun S => rfl
  have e6 : ho6 T cs tb [some (clm sImp l k (.tup (rows.map rowD)) (.tup (fs.map ftD))), some d, some (bd l k), none] S1 = .ok (.nx [some (clm sImp l k (.tup (rows.map rowD)) (.tup (fs.map ftD))), some d, some (bd l k), none]) S1 := by
    unfold ho6
    simp [sSeq, sSetI, sSetIN, sBind, iOp, M.bind, lift, iVar, iC, M.ret, sIf, iTst, isB, iCB, iCons, iNil, sRet, sNext, sAsg, sExpr, sPar, sPar3, iCall, iIf, iOr, iAnd, iNot, iNotV, iAndV, iOrV, M.no, iLstM, iLst, iTup, sAsgG, ngD, nsD, iSl, iPart, iNoPart, iBM, iCM, iYes, cl0, z1]
  rw [sSeq_nx e6]
  unfold ho7
  simp [sSeq, sSetI, sSetIN, sBind, iOp, M.bind, lift, iVar, iC, M.ret, sIf, iTst, isB, iCB, iCons, iNil, sRet, sNext, sAsg, sExpr, sPar, sPar3, iCall, iIf, iOr, iAnd, iNot, iNotV, iAndV, iOrV, M.no, iLstM, iLst, iTup, sAsgG, ngD, nsD, iSl, iPart, iNoPart, iBM, iCM, iYes, cl0, cl3, cl4, z2, e2]
/-! ### the law's own -/
def du1 : IS := (sIf (iOr (iNot (iTst (iCB (isiD cs tb) (iCons (iVar 4) (iCons (iC (.ty "str")) iNil))))) (iOr (iTst (iOp neD (iCB lenD (iCons (iVar 4) iNil)) (iVar 1))) (iNot (iTst (iCB allD (iCons (iLc (iItems (iVar 4)) (.n 6) iYes (iOp inD (iVar 6) (iVar 0)) [6]) iNil)))))) (sRet (iC (.bl false))) sNext)
def du2 : IS := (sIf (iNot (iTst (iCB allD (iCons (iLc (iItems (iVar 2)) (.t [7, 8]) iYes (iOp eqD (iCall 2 dReply (iCons (iVar 7) (iCons (iVar 4) iNil))) (iVar 8)) [7, 8]) iNil)))) (sRet (iC (.bl false))) sNext)
def du3 : IS := (sRet (iCB allD (iCons (iLc (iItems (iVar 3)) (.n 5) iYes (iCall 2 (dHas iLst) (iCons (iVar 4) (iCons (iVar 5) iNil))) [5]) iNil)))
def isDue : IS := sSeq (du1 cs tb) (sSeq du2 du3)
def dDue : List D → M D := defJ 9 false (isDue cs tb)
theorem due_ok {S : Store} {l : List Nat} {k : Nat} {rows : List (List Nat × List Nat)} {fs : List Ft} {d : D} (hk : k ≤ 400) (hr : rows.length ≤ 20) (h : ∀ r ∈ rows, Row l k r) (hf : fs.length ≤ 4) (g : ∀ f ∈ fs, FtOk l k f) (hd : Pap d) :
    ∃ S', dDue cs tb [.str l, .int k, .lst (rows.map rowD), .lst (fs.map ftD), d] S = .ok (.bl (judgeB l k rows fs d)) S' ∧ Kq S S' := by
  have e0 : startR 9 [.str l, .int k, .lst (rows.map rowD), .lst (fs.map ftD), d] = [some (.str l), some (.int k), some (.lst (rows.map rowD)), some (.lst (fs.map ftD)), some d, none, none, none, none] := rfl
  rcases hd with ⟨w, rfl, hw⟩ | hd
  · have lw : lenD [.str w] S = some (.int w.length) := lenD_str (by omega)
    by_cases h1 : w.length = k
    · have lc := lcL_str (t := iYes) (ie := iOp inD (iVar 6) (iVar 0)) (ρ := [some (.str l), some (.int k), some (.lst (rows.map rowD)), some (.lst (fs.map ftD)), some (.str w), none, none, none, none]) (S := S) (i := 6) (w := w) (fun c => .bl (decide (c ∈ l))) (fun c hc => ⟨rfl, by
        show iOp inD (iVar 6) (iVar 0) [some (.str l), some (.int k), some (.lst (rows.map rowD)), some (.lst (fs.map ftD)), some (.str w), none, some (.str [c]), none, none] S = _
        simp [sSeq, sSetI, sSetIN, sBind, iOp, M.bind, lift, iVar, iC, M.ret, sIf, iTst, isB, iCB, iCons, iNil, sRet, sNext, sAsg, sExpr, sPar, sPar3, iCall, iIf, iOr, iAnd, iNot, iNotV, iAndV, iOrV, M.no, iLstM, iLst, iTup, sAsgG, ngD, nsD, iSl, iPart, iNoPart, iBM, iCM, iYes, inD_chr]⟩)
      have hlen : (w.map fun c => D.str [c]).length < 100000 := by simp; omega
      have al : allD [.lst (w.map fun c => D.bl (decide (c ∈ l)))] S = some (.bl (w.all fun c => decide (c ∈ l))) := allD_map
      have a1 : iCB allD (iCons (iLc (iItems (iVar 4)) (.n 6) iYes (iOp inD (iVar 6) (iVar 0)) [6]) iNil) [some (.str l), some (.int k), some (.lst (rows.map rowD)), some (.lst (fs.map ftD)), some (.str w), none, none, none, none] S = .ok (.bl (w.all fun c => decide (c ∈ l))) S := by
        simp only [iCB, iCons, iNil, iLc, iItems, items, iVar, M.bind, M.ret, lift, List.getD_cons_zero, List.getD_cons_succ, hlen, if_true, wipeR, List.set_cons_succ, List.set_cons_zero, lc, al]
      have h1' : ((w.length : Nat) : Int) = (k : Int) := by omega
      have t1 : iOr (iNot (iTst (iCB (isiD cs tb) (iCons (iVar 4) (iCons (iC (.ty "str")) iNil))))) (iOr (iTst (iOp neD (iCB lenD (iCons (iVar 4) iNil)) (iVar 1))) (iNot (iTst (iCB allD (iCons (iLc (iItems (iVar 4)) (.n 6) iYes (iOp inD (iVar 6) (iVar 0)) [6]) iNil))))) [some (.str l), some (.int k), some (.lst (rows.map rowD)), some (.lst (fs.map ftD)), some (.str w), none, none, none, none] S = .ok (!(w.all fun c => decide (c ∈ l))) S := by
        have x1 : iTst (iCB (isiD cs tb) (iCons (iVar 4) (iCons (iC (.ty "str")) iNil))) [some (.str l), some (.int k), some (.lst (rows.map rowD)), some (.lst (fs.map ftD)), some (.str w), none, none, none, none] S = .ok true S := by
          simp only [iTst, iCB, iCons, iNil, iVar, iC, M.bind, M.ret, lift, List.getD_cons_zero, List.getD_cons_succ, isi_str, isB]
        have x2 : iTst (iOp neD (iCB lenD (iCons (iVar 4) iNil)) (iVar 1)) [some (.str l), some (.int k), some (.lst (rows.map rowD)), some (.lst (fs.map ftD)), some (.str w), none, none, none, none] S = .ok false S := by
          simp only [iTst, iOp, iCB, iCons, iNil, iVar, M.bind, M.ret, lift, List.getD_cons_zero, List.getD_cons_succ, lw, neD_int, h1', decide_true, Bool.not_true, isB]
        have x3 : iTst (iCB allD (iCons (iLc (iItems (iVar 4)) (.n 6) iYes (iOp inD (iVar 6) (iVar 0)) [6]) iNil)) [some (.str l), some (.int k), some (.lst (rows.map rowD)), some (.lst (fs.map ftD)), some (.str w), none, none, none, none] S = .ok (w.all fun c => decide (c ∈ l)) S := by
          simp only [iTst, M.bind, a1, lift, isB]
        simp only [iOr, iNot, M.bind, x1, M.ret, Bool.not_true, Bool.false_eq_true, if_false, x2, x3]
      cases hb : (w.all fun c => decide (c ∈ l)) with
      | false =>
        rw [hb] at t1
        refine ⟨S.trim S.next, ?_, kq_t1 S⟩
        have jb : judgeB l k rows fs (.str w) = false := by simp only [judgeB, wordB, hb, Bool.and_false, Bool.false_and]
        rw [jb]
        refine defJ_rt ?_
        rw [e0]
        unfold isDue
        refine sSeq_rt ?_
        unfold du1
        rw [sIf_t (S' := S) t1]
        rfl
      | true =>
        rw [hb] at t1
        have e1 : du1 cs tb [some (.str l), some (.int k), some (.lst (rows.map rowD)), some (.lst (fs.map ftD)), some (.str w), none, none, none, none] S = .ok (.nx [some (.str l), some (.int k), some (.lst (rows.map rowD)), some (.lst (fs.map ftD)), some (.str w), none, none, none, none]) S := by
          unfold du1
          rw [sIf_f (S' := S) t1]
          rfl
        obtain ⟨S2, a2, q2⟩ := all_lc (src := iItems (iVar 2)) (t := iYes) (g := .t [7, 8]) (ie := iOp eqD (iCall 2 dReply (iCons (iVar 7) (iCons (iVar 4) iNil))) (iVar 8)) (vs := [7, 8]) (ρ := [some (.str l), some (.int k), some (.lst (rows.map rowD)), some (.lst (fs.map ftD)), some (.str w), none, none, none, none]) (S := S) rowD (fun r => decide (marksL r.1 w = r.2)) rows rfl (by omega) (fun r hr S1 _ => by
          have e3 := reply_ok (S := S1) (g := r.1) (w := w) (by rw [(h r hr).len, h1]) (by rw [(h r hr).len]; omega)
          refine ⟨[some (.str l), some (.int k), some (.lst (rows.map rowD)), some (.lst (fs.map ftD)), some (.str w), none, none, some (.str r.1), some (.str r.2)], S1.trim S1.next, rfl, rfl, ?_, kq_t1 S1⟩
          have c3 : iCall 2 dReply (iCons (iVar 7) (iCons (iVar 4) iNil)) [some (.str l), some (.int k), some (.lst (rows.map rowD)), some (.lst (fs.map ftD)), some (.str w), none, none, some (.str r.1), some (.str r.2)] S1 = .ok (.str (marksL r.1 w)) (S1.trim S1.next) := by
            rw [call_of (n := 2) (xs := [.str r.1, .str w]) rfl rfl]
            exact e3
          simp only [iOp, M.bind, c3, iVar, lift, List.getD_cons_zero, List.getD_cons_succ, eqD_str])
        have t2 : iNot (iTst (iCB allD (iCons (iLc (iItems (iVar 2)) (.t [7, 8]) iYes (iOp eqD (iCall 2 dReply (iCons (iVar 7) (iCons (iVar 4) iNil))) (iVar 8)) [7, 8]) iNil))) [some (.str l), some (.int k), some (.lst (rows.map rowD)), some (.lst (fs.map ftD)), some (.str w), none, none, none, none] S = .ok (!(rows.all fun r => decide (marksL r.1 w = r.2))) S2 := by
          simp only [iNot, iTst, M.bind, a2, lift, isB, M.ret]
        have jb : judgeB l k rows fs (.str w) = ((rows.all fun r => decide (marksL r.1 w = r.2)) && fs.all (ftB w)) := by simp only [judgeB, wordB, hb, h1, decide_true, Bool.true_and]
        rw [jb]
        cases hm : (rows.all fun r => decide (marksL r.1 w = r.2)) with
        | false =>
          rw [hm] at t2
          refine ⟨S2.trim S.next, defJ_rt ?_, q2.t⟩
          rw [e0]
          unfold isDue
          rw [sSeq_nx e1]
          refine sSeq_rt ?_
          unfold du2
          rw [sIf_t (S' := S2) t2]
          rfl
        | true =>
          rw [hm] at t2
          have e2 : du2 [some (.str l), some (.int k), some (.lst (rows.map rowD)), some (.lst (fs.map ftD)), some (.str w), none, none, none, none] S = .ok (.nx [some (.str l), some (.int k), some (.lst (rows.map rowD)), some (.lst (fs.map ftD)), some (.str w), none, none, none, none]) S2 := by
            unfold du2
            rw [sIf_f (S' := S2) t2]
            rfl
          obtain ⟨S4, a4, q4⟩ := all_lc (src := iItems (iVar 3)) (t := iYes) (g := .n 5) (ie := iCall 2 (dHas iLst) (iCons (iVar 4) (iCons (iVar 5) iNil))) (vs := [5]) (ρ := [some (.str l), some (.int k), some (.lst (rows.map rowD)), some (.lst (fs.map ftD)), some (.str w), none, none, none, none]) (S := S2) ftD (ftB w) fs rfl (by omega) (fun f hf S1 _ => by
            have e5 := has_ok cont_lst (S := S1) h1 (by omega) (g f hf)
            refine ⟨[some (.str l), some (.int k), some (.lst (rows.map rowD)), some (.lst (fs.map ftD)), some (.str w), some (ftD f), none, none, none], S1.trim S1.next, rfl, rfl, ?_, kq_t1 S1⟩
            rw [call_of (n := 2) (xs := [.str w, ftD f]) rfl rfl]
            exact e5)
          refine ⟨S4.trim S.next, defJ_rt ?_, (q2.trans q4).t⟩
          rw [e0]
          unfold isDue
          rw [sSeq_nx e1, sSeq_nx e2]
          exact ret_of a4
    · refine ⟨S.trim S.next, ?_, kq_t1 S⟩
      have jb : judgeB l k rows fs (.str w) = false := by simp only [judgeB, wordB, h1, decide_false, Bool.false_and]
      have h1' : ¬ ((w.length : Nat) : Int) = (k : Int) := by omega
      rw [jb]
      refine defJ_rt ?_
      rw [e0]
      unfold isDue
      refine sSeq_rt ?_
      have t1 : iOr (iNot (iTst (iCB (isiD cs tb) (iCons (iVar 4) (iCons (iC (.ty "str")) iNil))))) (iOr (iTst (iOp neD (iCB lenD (iCons (iVar 4) iNil)) (iVar 1))) (iNot (iTst (iCB allD (iCons (iLc (iItems (iVar 4)) (.n 6) iYes (iOp inD (iVar 6) (iVar 0)) [6]) iNil))))) [some (.str l), some (.int k), some (.lst (rows.map rowD)), some (.lst (fs.map ftD)), some (.str w), none, none, none, none] S = .ok true S := by
        simp only [iOr, iNot, iTst, iOp, iCB, iCons, iNil, iVar, iC, M.bind, M.ret, lift, List.getD_cons_zero, List.getD_cons_succ, isi_str, isB, lw, neD_int, h1', decide_false, Bool.not_false, Bool.not_true, Bool.false_eq_true, if_false, if_true]
      unfold du1
      rw [sIf_t (S' := S) t1]
      rfl
  · refine ⟨S.trim S.next, ?_, kq_t1 S⟩
    rw [judge_not hd]
    refine defJ_rt ?_
    rw [e0]
    unfold isDue
    refine sSeq_rt ?_
    have hs := isi_not cs tb (S := S) hd
    have t1 : iOr (iNot (iTst (iCB (isiD cs tb) (iCons (iVar 4) (iCons (iC (.ty "str")) iNil))))) (iOr (iTst (iOp neD (iCB lenD (iCons (iVar 4) iNil)) (iVar 1))) (iNot (iTst (iCB allD (iCons (iLc (iItems (iVar 4)) (.n 6) iYes (iOp inD (iVar 6) (iVar 0)) [6]) iNil))))) [some (.str l), some (.int k), some (.lst (rows.map rowD)), some (.lst (fs.map ftD)), some d, none, none, none, none] S = .ok true S := by
      simp only [iOr, iNot, iTst, iCB, iCons, iNil, iVar, iC, M.bind, M.ret, lift, List.getD_cons_zero, List.getD_cons_succ, hs, isB, Bool.not_false, if_true]
    unfold du1
    rw [sIf_t (S' := S) t1]
    rfl
end
end J

set_option Elab.async false
set_option linter.all false
set_option maxRecDepth 100000
set_option maxHeartbeats 1010000
/-! PX: plain laws: drawn facts, all words of a small board -/
namespace J
def tr1 : IS := (sAsg 3 (iCall 2 dDraw (iCons (iVar 0) (iCons (iC (.int 4)) iNil))))
def tr2 : IS := (sIf (iTst (iOp ltI (iVar 3) (iC (.int 2)))) (sRet (iTup (iCons (iOp ixD (iLst (iCons (iC (.str [97, 116])) (iCons (iC (.str [110, 111, 116])) iNil))) (iVar 3)) (iCons (iCall 2 dDraw (iCons (iVar 0) (iCons (iVar 2) iNil))) (iCons (iCall 2 dOne (iCons (iVar 0) (iCons (iVar 1) iNil))) iNil))))) sNext)
def tr3 : IS := (sRet (iTup (iCons (iOp ixD (iLst (iCons (iC (.str [108, 101, 97, 115, 116])) (iCons (iC (.str [109, 111, 115, 116])) iNil))) (iOp subI (iVar 3) (iC (.int 2)))) (iCons (iCall 2 dOne (iCons (iVar 0) (iCons (iVar 1) iNil))) (iCons (iCall 2 dDraw (iCons (iVar 0) (iCons (iOp addD (iVar 2) (iC (.int 1))) iNil))) iNil)))))
def isTruth : IS := sSeq tr1 (sSeq tr2 tr3)
def dTruth : List D → M D := defJ 4 false isTruth
theorem truth_ok {S : Store} {n : Nat} {l : List Nat} {k : Nat} (b : Bw S n) (h : 0 < l.length) (h2 : l.length ≤ 500) (k1 : 1 ≤ k) (k2 : k ≤ 6) : ∃ f S', dTruth [.ref n, .str l, .int (k : Int)] S = .ok (ftD f) S' ∧ FtOk l k f ∧ Bw S' n ∧ Kp n S S' := by
  have hn := b.1
  obtain ⟨r, S1, d1, r0, r1, b1, q1⟩ := draw_ok (k := 4) b (by omega) (by omega)
  have e0 : startR 4 [.ref n, .str l, .int (k : Int)] = [some (.ref n), some (.str l), some (.int (k : Int)), none] := rfl
  have e1 : tr1 [some (.ref n), some (.str l), some (.int (k : Int)), none] S = .ok (.nx [some (.ref n), some (.str l), some (.int (k : Int)), some (.int r)]) S1 := by
    unfold tr1
    simp [sSeq, sSetI, sSetIN, sBind, iOp, M.bind, lift, iVar, iC, M.ret, sIf, iTst, isB, iCB, iCons, iNil, sRet, sNext, sAsg, sExpr, sPar, sPar3, iCall, iIf, iOr, iAnd, iNot, iNotV, iAndV, iOrV, M.no, iLstM, iLst, iTup, sAsgG, ngD, nsD, iSl, iPart, iNoPart, iBM, iCM, iYes, d1]
  by_cases hr : r < 2
  · obtain ⟨p, S2, d2, p0, p1, b2, q2⟩ := draw_ok (k := (k : Int)) b1 (by omega) (by omega)
    obtain ⟨p, rfl⟩ := Int.eq_ofNat_of_zero_le p0
    obtain ⟨c, S3, d3, hc, b3, q3⟩ := one_str b2 h (by omega)
    refine ⟨.pl (decide (r = 0)) p c, S3.trim S.next, defJ_rt ?_, ⟨by omega, hc⟩, bw_trim b3 hn, kp_trim ((q1.trans q2).trans q3)⟩
    rw [e0]
    unfold isTruth
    rw [sSeq_nx e1]
    refine sSeq_rt ?_
    have hr2 : r = 0 ∨ r = 1 := by omega
    unfold tr2
    rcases hr2 with rfl | rfl
    · have i0 : ixD (.lst [.str [97, 116], .str [110, 111, 116]]) (.int 0) S1 = some (.str sAt) := rfl
      simp [sSeq, sSetI, sSetIN, sBind, iOp, M.bind, lift, iVar, iC, M.ret, sIf, iTst, isB, iCB, iCons, iNil, sRet, sNext, sAsg, sExpr, sPar, sPar3, iCall, iIf, iOr, iAnd, iNot, iNotV, iAndV, iOrV, M.no, iLstM, iLst, iTup, sAsgG, ngD, nsD, iSl, iPart, iNoPart, iBM, iCM, iYes, ltI_int, i0, d2, d3, ftD]
    · have i0 : ixD (.lst [.str [97, 116], .str [110, 111, 116]]) (.int 1) S1 = some (.str sNot) := rfl
      simp [sSeq, sSetI, sSetIN, sBind, iOp, M.bind, lift, iVar, iC, M.ret, sIf, iTst, isB, iCB, iCons, iNil, sRet, sNext, sAsg, sExpr, sPar, sPar3, iCall, iIf, iOr, iAnd, iNot, iNotV, iAndV, iOrV, M.no, iLstM, iLst, iTup, sAsgG, ngD, nsD, iSl, iPart, iNoPart, iBM, iCM, iYes, ltI_int, i0, d2, d3, ftD]
  · obtain ⟨c, S2, d2, hc, b2, q2⟩ := one_str b1 h (by omega)
    obtain ⟨p, S3, d3, p0, p1, b3, q3⟩ := draw_ok (k := (k : Int) + 1) b2 (by omega) (by omega)
    obtain ⟨p, rfl⟩ := Int.eq_ofNat_of_zero_le p0
    refine ⟨.cn (decide (r = 2)) c p, S3.trim S.next, defJ_rt ?_, ⟨hc, by omega⟩, bw_trim b3 hn, kp_trim ((q1.trans q2).trans q3)⟩
    have e2 : tr2 [some (.ref n), some (.str l), some (.int (k : Int)), some (.int r)] S1 = .ok (.nx [some (.ref n), some (.str l), some (.int (k : Int)), some (.int r)]) S1 := by
      unfold tr2
      simp [sSeq, sSetI, sSetIN, sBind, iOp, M.bind, lift, iVar, iC, M.ret, sIf, iTst, isB, iCB, iCons, iNil, sRet, sNext, sAsg, sExpr, sPar, sPar3, iCall, iIf, iOr, iAnd, iNot, iNotV, iAndV, iOrV, M.no, iLstM, iLst, iTup, sAsgG, ngD, nsD, iSl, iPart, iNoPart, iBM, iCM, iYes, ltI_int, hr]
    rw [e0]
    unfold isTruth
    rw [sSeq_nx e1, sSeq_nx e2]
    have hr2 : r = 2 ∨ r = 3 := by omega
    unfold tr3
    rcases hr2 with rfl | rfl
    · have i0 : ixD (.lst [.str [108, 101, 97, 115, 116], .str [109, 111, 115, 116]]) (.int 0) S1 = some (.str sLeast) := rfl
      simp [sSeq, sSetI, sSetIN, sBind, iOp, M.bind, lift, iVar, iC, M.ret, sIf, iTst, isB, iCB, iCons, iNil, sRet, sNext, sAsg, sExpr, sPar, sPar3, iCall, iIf, iOr, iAnd, iNot, iNotV, iAndV, iOrV, M.no, iLstM, iLst, iTup, sAsgG, ngD, nsD, iSl, iPart, iNoPart, iBM, iCM, iYes, subI_int, addD_int, i0, d2, d3, ftD]
    · have i0 : ixD (.lst [.str [108, 101, 97, 115, 116], .str [109, 111, 115, 116]]) (.int 1) S1 = some (.str sMost) := rfl
      simp [sSeq, sSetI, sSetIN, sBind, iOp, M.bind, lift, iVar, iC, M.ret, sIf, iTst, isB, iCB, iCons, iNil, sRet, sNext, sAsg, sExpr, sPar, sPar3, iCall, iIf, iOr, iAnd, iNot, iNotV, iAndV, iOrV, M.no, iLstM, iLst, iTup, sAsgG, ngD, nsD, iSl, iPart, iNoPart, iBM, iCM, iYes, subI_int, addD_int, i0, d2, d3, ftD]
/-! ### all words -/
def ev2a : IS := (sAsg 4 (iLstM iNil))
def ev2c : IS := (sExpr (iBM .l lstExt (iVar 4) (iCons (iLc (iItems (iVar 0)) (.n 6) iYes (iOp addD (iVar 5) (iVar 6)) [6]) iNil)))
def ev2b : IS := (sFor (iItems (iVar 2)) (.n 5) ev2c)
def ev2 : IS := (sFor (iRange range1 (iCons (iVar 1) iNil)) (.n 3) (sSeq ev2a (sSeq ev2b (sSeq (sFrz 4) (sAsg 2 (iVar 4))))))
def isEvery : IS := sSeq (sAsg 2 (iLst (iCons (iC (.str [])) iNil))) (sSeq ev2 (sRet (iVar 2)))
def dEvery : List D → M D := defJ 7 false isEvery
theorem ev2c_ok {S : Store} {l w : List Nat} {m : Nat} {us : List (List Nat)} {x1 x2 x3 : Option D} (hm : S.get m = some (.lst (us.map D.str))) (hu : us.length ≤ 1000) (hl : l.length ≤ 3) (hw : w.length ≤ 100) :
    ev2c [some (.str l), x1, x2, x3, some (.ref m), some (.str w), none] S = .ok (.nx [some (.str l), x1, x2, x3, some (.ref m), some (.str w), none]) (S.set m (.lst ((us ++ l.map fun c => w ++ [c]).map D.str))) := by
  have lc := lcL_str (t := iYes) (ie := iOp addD (iVar 5) (iVar 6)) (ρ := [some (.str l), x1, x2, x3, some (.ref m), some (.str w), none]) (S := S) (i := 6) (w := l) (fun c => .str (w ++ [c])) (fun c hc => ⟨rfl, by
    show iOp addD (iVar 5) (iVar 6) [some (.str l), x1, x2, x3, some (.ref m), some (.str w), some (.str [c])] S = _
    have ad : addD (.str w) (.str [c]) S = some (.str (w ++ [c])) := addD_str (by simp; omega)
    simp only [iOp, M.bind, iVar, lift, List.getD_cons_zero, List.getD_cons_succ, ad]⟩)
  have hlen : (l.map fun c => D.str [c]).length < 100000 := by simp; omega
  have k : kindIs .l (.ref m) S = true := by simp [kindIs, hm]
  have ext : lstExt (.ref m) [.lst (l.map fun c => D.str (w ++ [c]))] S = .ok .non (S.set m (.lst ((us ++ l.map fun c => w ++ [c]).map D.str))) := by
    have z : (us.map D.str).length + (l.map fun c => D.str (w ++ [c])).length ≤ 100000 := by simp; omega
    simp only [lstExt, hm, seqL, if_pos z, List.map_append, List.map_map]
    rfl
  unfold ev2c
  simp only [sExpr, sBind, iBM, M.bind, iVar, lift, List.getD_cons_zero, List.getD_cons_succ, k, if_true, iCons, iNil, iLc, iItems, items, M.ret, hlen, wipeR, List.set_cons_succ, List.set_cons_zero, lc, ext]
theorem every_ok {S : Store} {l : List Nat} {k : Nat} (hl : l.length ≤ 3) (hk : k ≤ 3) : ∃ (ws : List (List Nat)) (S' : Store), dEvery [.str l, .int (k : Int)] S = .ok (.lst (ws.map D.str)) S' ∧ ws.length ≤ 27 ∧ (∀ w ∈ ws, w.length ≤ 3) ∧ Kq S S' := by
  have key := forL_inv (g := .n 3) (body := sSeq ev2a (sSeq ev2b (sSeq (sFrz 4) (sAsg 2 (iVar 4))))) (fun j ρ S' => Kq S S' ∧ ∃ (ws : List (List Nat)) (t y4 y5 : Option D), ws.length ≤ 3 ^ j ∧ (∀ w ∈ ws, w.length = j) ∧ ρ = [some (.str l), some (.int (k : Int)), some (.lst (ws.map D.str)), t, y4, y5, none]) (rng 0 k) 0 [some (.str l), some (.int (k : Int)), some (.lst [.str []]), none, none, none, none] S ⟨Kq.refl S, [[]], none, none, none, by simp, by simp, rfl⟩ (by
    rintro j x ρ S1 hx ⟨q1, ws, t, y4, y5, hw1, hw2, rfl⟩
    obtain ⟨hj, rfl⟩ := rng_get hx
    rw [Nat.zero_add] at hw1 hw2
    have p3 : 3 ^ j ≤ 3 ^ 3 := Nat.pow_le_pow_right (by omega) (by omega)
    have e1 : ev2a [some (.str l), some (.int (k : Int)), some (.lst (ws.map D.str)), some (.int (j : Int)), y4, y5, none] S1 = .ok (.nx [some (.str l), some (.int (k : Int)), some (.lst (ws.map D.str)), some (.int (j : Int)), some (.ref S1.next), y5, none]) (S1.alloc (.lst [])) := by
      unfold ev2a
      simp only [sAsg, sBind, iLstM, iNil, M.bind, M.ret, List.length_nil, Nat.zero_le, if_true, List.set_cons_succ, List.set_cons_zero]
    have inner := forL_inv (g := .n 5) (body := ev2c) (fun i ρ S' => Kq S1 S' ∧ S1.next < S'.next ∧ ∃ (us : List (List Nat)) (y : Option D), S'.get S1.next = some (.lst (us.map D.str)) ∧ us.length ≤ 3 * i ∧ (∀ u ∈ us, u.length = j + 1) ∧ ρ = [some (.str l), some (.int (k : Int)), some (.lst (ws.map D.str)), some (.int (j : Int)), some (.ref S1.next), y, none]) (ws.map D.str) 0 [some (.str l), some (.int (k : Int)), some (.lst (ws.map D.str)), some (.int (j : Int)), some (.ref S1.next), y5, none] (S1.alloc (.lst [])) ⟨kq_alloc, Nat.lt_succ_self _, [], y5, Store.get_alloc_self .., by simp, by simp, rfl⟩ (by
      rintro i x ρ S2 hx ⟨q2, nx2, us, y, g2, u1, u2, rfl⟩
      obtain ⟨hi, hx⟩ := List.getElem?_eq_some_iff.mp hx
      rw [List.getElem_map] at hx
      subst hx
      rw [List.length_map] at hi
      have wl : (ws[i]).length = j := hw2 _ (List.getElem_mem _)
      have e := ev2c_ok (S := S2) (l := l) (w := ws[i]) (m := S1.next) (us := us) (x1 := some (.int (k : Int))) (x2 := some (.lst (ws.map D.str))) (x3 := some (.int (j : Int))) g2 (by omega) hl (by omega)
      refine ⟨_, _, _, rfl, e, ⟨Nat.le_trans q2.next (Nat.le_refl _), fun m hm => ?_⟩, nx2, us ++ l.map fun c => ws[i] ++ [c], some (.str ws[i]), Store.get_set_self .., ?_, ?_, rfl⟩
      · rw [Store.get_set_ne _ _ (Nat.ne_of_lt hm)]
        exact q2.get m hm
      · rw [List.length_append, List.length_map]
        omega
      · intro u hu
        rcases List.mem_append.mp hu with z | hu
        · exact u2 u z
        · obtain ⟨c, _, rfl⟩ := List.mem_map.mp hu
          rw [List.length_append, wl]
          rfl)
    obtain ⟨ρ2, S2, e2, q2, nx2, us, y, g2, u1, u2, rfl⟩ := inner
    rw [List.length_map, Nat.zero_add] at u1
    have e2' : ev2b [some (.str l), some (.int (k : Int)), some (.lst (ws.map D.str)), some (.int (j : Int)), some (.ref S1.next), y5, none] (S1.alloc (.lst [])) = .ok (.nx [some (.str l), some (.int (k : Int)), some (.lst (ws.map D.str)), some (.int (j : Int)), some (.ref S1.next), y, none]) S2 := by
      rw [← e2]
      rfl
    have e3 := frz_seen (S := S2) (m := S1.next) (i := 4) (ρ := [some (.str l), some (.int (k : Int)), some (.lst (ws.map D.str)), some (.int (j : Int)), some (.ref S1.next), y, none]) rfl g2
    refine ⟨_, [some (.str l), some (.int (k : Int)), some (.lst (us.map D.str)), some (.int (j : Int)), some (.lst (us.map D.str)), y, none], S2.del S1.next, rfl, ?_, ?_, us, some (.int (j : Int)), some (.lst (us.map D.str)), y, ?_, ?_, rfl⟩
    · refine (sSeq_nx e1).trans ((sSeq_nx e2').trans ((sSeq_nx e3).trans ?_))
      rfl
    · refine ⟨Nat.le_trans q1.next q2.next, fun m hm => ?_⟩
      have hm1 := Nat.lt_of_lt_of_le hm q1.next
      rw [Store.get_del, if_neg (Nat.ne_of_lt hm1), q2.get m hm1]
      exact q1.get m hm
    · rw [Nat.zero_add, Nat.pow_succ]
      omega
    · rw [Nat.zero_add]
      exact u2)
  obtain ⟨ρ', S', e, q, ws, t, y4, y5, h1, h2, rfl⟩ := key
  rw [rng_len, Nat.zero_add] at h1 h2
  have p3 : 3 ^ k ≤ 3 ^ 3 := Nat.pow_le_pow_right (by omega) hk
  have e1 : ev2 [some (.str l), some (.int (k : Int)), some (.lst [.str []]), none, none, none, none] S = .ok (.nx [some (.str l), some (.int (k : Int)), some (.lst (ws.map D.str)), t, y4, y5, none]) S' := by
    rw [← e]
    unfold ev2 sFor
    simp only [sBind, iRange, iCons, iNil, iVar, M.bind, M.ret, lift, List.getD_cons_zero, List.getD_cons_succ, range1_nat (show k ≤ 1000 by omega)]
  have e0 : startR 7 [.str l, .int (k : Int)] = [some (.str l), some (.int (k : Int)), none, none, none, none, none] := rfl
  refine ⟨ws, S'.trim S.next, defJ_rt ?_, by omega, fun w hw => by rw [h2 w hw]; exact hk, q.t⟩
  rw [e0]
  unfold isEvery
  refine (sSeq_nx (ρ1 := [some (.str l), some (.int (k : Int)), some (.lst [.str []]), none, none, none, none]) rfl).trans ?_
  rw [sSeq_nx e1]
  rfl
end J

set_option Elab.async false
set_option linter.all false
set_option maxRecDepth 100000
set_option maxHeartbeats 1010000
/-! PY: plain laws: claims about pairs -/
namespace J
theorem anyD_map {α : Type} {f : α → Bool} {xs : List α} {S : Store} : anyD [.lst (xs.map fun x => D.bl (f x))] S = some (.bl (xs.any f)) := by
  simp [anyD, seqA, seqR, seqL, boolsOf_map, List.any_map]
theorem any_lc {src : IA} {t : IT} {g : NG} {ie : IE} {vs : List Nat} {ρ : Rho} {S : Store} {α : Type} (emb : α → D) (P : α → Bool) (xs : List α) (hs : src ρ S = .ok (xs.map emb) S) (hl : xs.length ≤ 1000)
    (h : ∀ x ∈ xs, ∀ S1, Kq S S1 → ∃ ρ1 S2, ngD g (emb x) (wipeR ρ vs) = some ρ1 ∧ t ρ1 S1 = .ok true S1 ∧ ie ρ1 S1 = .ok (.bl (P x)) S2 ∧ Kq S1 S2) :
    ∃ S', iCB anyD (iCons (iLc src g t ie vs) iNil) ρ S = .ok (.bl (xs.any P)) S' ∧ Kq S S' := by
  obtain ⟨rs, S', e, rfl, q⟩ := lc_all (t := t) (g := g) (ie := ie) (ρ := wipeR ρ vs) (S := S) emb P xs hl h
  refine ⟨S', ?_, q⟩
  have k : (xs.map emb).length < 100000 := by rw [List.length_map]; omega
  have al : anyD [.lst (xs.map fun x => D.bl (P x))] S' = some (.bl (xs.any P)) := anyD_map
  simp only [iCB, iCons, iNil, iLc, M.bind, hs, k, if_true, e, M.ret, lift, al]
section
variable (T : Tab) (cs : List Nat) (tb : List (Tg × Tg × Bool))
/-! ### check_guesses, are_guesses -/
def cg1 : IS := (sIf (iOr (iNot (iTst (iCB (isiD cs tb) (iCons (iVar 1) (iCons (iC (.ty "tuple")) iNil))))) (iTst (iOp gtI (iCB lenD (iCons (iVar 1) iNil)) (iC (.int 20))))) sNever sNext)
def cg2b : IS := (sIf (iNot (iTst (iCall 2 (dIsWord T cs tb) (iCons (iVar 0) (iCons (iVar 3) iNil))))) sNever sNext)
def cg2 : IS := (sFor (iEnumD (iCons (iVar 1) iNil)) (.t [2, 3]) (cg2b T cs tb))
def isCkG : IS := sSeq (cg1 cs tb) (cg2 T cs tb)
def dCkG : List D → M D := defJ 4 false (isCkG T cs tb)
def isAreG : IS := (sSeq (sThru (sExpr (iCall 2 (dCkG T cs tb) (iCons (iVar 0) (iCons (iVar 1) iNil))))) (sRet (iC (.bl true))))
def dAreG : List D → M D := defJ 2 false (isAreG T cs tb)
/-- a guess of the board -/
def Wd (l : List Nat) (k : Nat) (w : List Nat) : Prop := w.length = k ∧ ∀ c ∈ w, c ∈ l
theorem ckg_ok (hT : T.fs 0 = [0, 1]) {S : Store} {l : List Nat} {k : Nat} {gs : List (List Nat)} (hk : k ≤ 500) (hl : gs.length ≤ 20) (h : ∀ w ∈ gs, Wd l k w) : ∃ S', dCkG T cs tb [bd l k, .tup (gs.map D.str)] S = .ok .non S' ∧ Kq S S' := by
  have e0 : startR 4 [bd l k, .tup (gs.map D.str)] = [some (bd l k), some (.tup (gs.map D.str)), none, none] := rfl
  have z : ¬ ((20 : Int) < ((gs.length : Nat) : Int)) := by omega
  have e1 : cg1 cs tb [some (bd l k), some (.tup (gs.map D.str)), none, none] S = .ok (.nx [some (bd l k), some (.tup (gs.map D.str)), none, none]) S := by
    unfold cg1
    simp [sSeq, sSetI, sSetIN, sBind, iOp, M.bind, lift, iVar, iC, M.ret, sIf, iTst, isB, iCB, iCons, iNil, sRet, sNext, sAsg, sExpr, sPar, sPar3, iCall, iIf, iOr, iAnd, iNot, iNotV, iAndV, iOrV, M.no, iLstM, iLst, iTup, sAsgG, ngD, nsD, iSl, iPart, iNoPart, iBM, iCM, iYes, isi_tup, lenD_tup, gtI_int, z]
  have key := forL_inv (g := .t [2, 3]) (body := cg2b T cs tb) (fun j ρ S' => Kq S S' ∧ ∃ t u : Option D, ρ = [some (bd l k), some (.tup (gs.map D.str)), t, u]) (enumF 0 (gs.map D.str)) 0 [some (bd l k), some (.tup (gs.map D.str)), none, none] S ⟨Kq.refl S, none, none, rfl⟩ (by
    rintro j x ρ S1 hx ⟨q, t, u, rfl⟩
    obtain ⟨y, rfl, hy⟩ := enumF_get hx
    obtain ⟨w, hw, rfl⟩ := List.mem_map.mp (List.mem_of_getElem? hy)
    have iw := isw_ok T cs tb hT (S := S1) (l := l) (w := w) (by rw [(h w hw).1]; omega) (h w hw).1 (h w hw).2
    refine ⟨[some (bd l k), some (.tup (gs.map D.str)), some (.int ((0 + j : Nat) : Int)), some (.str w)], [some (bd l k), some (.tup (gs.map D.str)), some (.int ((0 + j : Nat) : Int)), some (.str w)], S1.trim S1.next, rfl, ?_, q.trans (kq_t1 S1), _, _, rfl⟩
    unfold cg2b
    simp [sSeq, sSetI, sSetIN, sBind, iOp, M.bind, lift, iVar, iC, M.ret, sIf, iTst, isB, iCB, iCons, iNil, sRet, sNext, sAsg, sExpr, sPar, sPar3, iCall, iIf, iOr, iAnd, iNot, iNotV, iAndV, iOrV, M.no, iLstM, iLst, iTup, sAsgG, ngD, nsD, iSl, iPart, iNoPart, iBM, iCM, iYes, iw])
  obtain ⟨ρ', S', e, q, t, u, rfl⟩ := key
  have e2 : cg2 T cs tb [some (bd l k), some (.tup (gs.map D.str)), none, none] S = .ok (.nx [some (bd l k), some (.tup (gs.map D.str)), t, u]) S' := by
    rw [← e]
    unfold cg2 sFor
    simp only [sBind, iEnumD, iCons, iNil, iVar, M.bind, M.ret, lift, List.getD_cons_zero, List.getD_cons_succ, enumOf]
  refine ⟨S'.trim S.next, ?_, q.t⟩
  show defJ 4 false (isCkG T cs tb) _ S = _
  unfold defJ isCkG
  rw [e0, sSeq_nx e1, e2]
  rfl
theorem areg_ok (hT : T.fs 0 = [0, 1]) {S : Store} {l : List Nat} {k : Nat} {gs : List (List Nat)} (hk : k ≤ 500) (hl : gs.length ≤ 20) (h : ∀ w ∈ gs, Wd l k w) : ∃ S', dAreG T cs tb [bd l k, .tup (gs.map D.str)] S = .ok (.bl true) S' ∧ Kq S S' := by
  obtain ⟨S1, e, q⟩ := ckg_ok T cs tb hT (S := S) hk hl h
  refine ⟨S1.trim S.next, defJ_rt ?_, q.t⟩
  have e0 : startR 2 [bd l k, .tup (gs.map D.str)] = [some (bd l k), some (.tup (gs.map D.str))] := rfl
  rw [e0]
  have e1 : sThru (sExpr (iCall 2 (dCkG T cs tb) (iCons (iVar 0) (iCons (iVar 1) iNil)))) [some (bd l k), some (.tup (gs.map D.str))] S = .ok (.nx [some (bd l k), some (.tup (gs.map D.str))]) S1 := by
    unfold sThru
    simp [sSeq, sSetI, sSetIN, sBind, iOp, M.bind, lift, iVar, iC, M.ret, sIf, iTst, isB, iCB, iCons, iNil, sRet, sNext, sAsg, sExpr, sPar, sPar3, iCall, iIf, iOr, iAnd, iNot, iNotV, iAndV, iOrV, M.no, iLstM, iLst, iTup, sAsgG, ngD, nsD, iSl, iPart, iNoPart, iBM, iCM, iYes, e]
  unfold isAreG
  rw [sSeq_nx e1]
  rfl
/-! ### shows_parts -/
def spE : IE := iOp neD (iCall 2 dMarks (iCons (iVar 4) (iCons (iOp ixD (iVar 3) (iC (.int 0))) iNil))) (iCall 2 dMarks (iCons (iVar 4) (iCons (iOp ixD (iVar 3) (iC (.int 1))) iNil)))
def sp1 : IS := (sIf (iOr (iNot (iTst (iCB (isiD cs tb) (iCons (iVar 3) (iCons (iC (.ty "tuple")) iNil))))) (iOr (iTst (iOp neD (iCB lenD (iCons (iVar 3) iNil)) (iC (.int 2)))) (iNot (iTst (iCB allD (iCons (iLc (iItems (iVar 3)) (.n 5) iYes (iCall 2 (dIsWord T cs tb) (iCons (iVar 0) (iCons (iVar 5) iNil))) [5]) iNil)))))) (sRet (iC (.bl false))) sNext)
def sp2 : IS := (sIf (iTst (iCB anyD (iCons (iLc (iItems (iVar 1)) (.n 4) iYes spE [4]) iNil))) (sRet (iC (.bl false))) sNext)
def sp3 : IS := (sRet (iCB anyD (iCons (iLc (iItems (iVar 2)) (.n 4) iYes spE [4]) iNil)))
def isShowsP : IS := sSeq (sp1 T cs tb) (sSeq sp2 sp3)
def dShowsP : List D → M D := defJ 6 false (isShowsP T cs tb)
/-- two words get unlike marks by a guess -/
def unB (u v g : List Nat) : Bool := !decide (marksL g u = marksL g v)
def partB (gs os : List (List Nat)) (u v : List Nat) : Bool := !gs.any (unB u v) && os.any (unB u v)
theorem spE_lc {S : Store} {k : Nat} {l u v : List Nat} {ρ0 : Rho} {gs : List (List Nat)} {b x1 x2 x5 : Option D} (hk : k ≤ 400) (hu : u.length = k) (hv : v.length = k) (i : Nat) (hi : ([b, x1, x2, some (.tup [.str u, .str v]), none, x5] : Rho).getD i none = some (.tup (gs.map D.str))) (hl : gs.length ≤ 20) (h : ∀ w ∈ gs, Wd l k w) :
    ∃ S', iCB anyD (iCons (iLc (iItems (iVar i)) (.n 4) iYes spE [4]) iNil) [b, x1, x2, some (.tup [.str u, .str v]), none, x5] S = .ok (.bl (gs.any (unB u v))) S' ∧ Kq S S' := by
  refine any_lc (emb := D.str) (P := unB u v) gs ?_ (by omega) (fun g hg S1 _ => ?_)
  · simp only [iItems, iVar, hi, M.bind, lift, items]
  · obtain ⟨S2, e2, q2⟩ := marks_ok (S := S1) (g := g) (w := u) (by rw [(h g hg).1, hu]) (by rw [(h g hg).1]; omega)
    obtain ⟨S3, e3, q3⟩ := marks_ok (S := S2) (g := g) (w := v) (by rw [(h g hg).1, hv]) (by rw [(h g hg).1]; omega)
    refine ⟨[b, x1, x2, some (.tup [.str u, .str v]), some (.str g), x5], S3, rfl, rfl, ?_, q2.trans q3⟩
    have i0 : ∀ S, ixD (.tup [.str u, .str v]) (.int 0) S = some (.str u) := fun S => rfl
    have i1 : ∀ S, ixD (.tup [.str u, .str v]) (.int 1) S = some (.str v) := fun S => rfl
    unfold spE unB
    simp only [iOp, iCall, iCons, iNil, iVar, iC, M.bind, M.ret, lift, List.getD_cons_zero, List.getD_cons_succ, i0, i1, List.length_cons, List.length_nil, if_true, e2, e3, neD_str]
theorem showsP_ok (hT : T.fs 0 = [0, 1]) {S : Store} {l u v : List Nat} {k : Nat} {gs os : List (List Nat)} (hk : k ≤ 400) (hl : gs.length ≤ 20) (h : ∀ w ∈ gs, Wd l k w) (hl2 : os.length ≤ 20) (h2 : ∀ w ∈ os, Wd l k w) (hu : Wd l k u) (hv : Wd l k v) :
    ∃ S', dShowsP T cs tb [bd l k, .tup (gs.map D.str), .tup (os.map D.str), .tup [.str u, .str v]] S = .ok (.bl (partB gs os u v)) S' ∧ Kq S S' := by
  have e0 : startR 6 [bd l k, .tup (gs.map D.str), .tup (os.map D.str), .tup [.str u, .str v]] = [some (bd l k), some (.tup (gs.map D.str)), some (.tup (os.map D.str)), some (.tup [.str u, .str v]), none, none] := rfl
  obtain ⟨S1, a1, q1⟩ := all_lc (src := iItems (iVar 3)) (t := iYes) (g := .n 5) (ie := iCall 2 (dIsWord T cs tb) (iCons (iVar 0) (iCons (iVar 5) iNil))) (vs := [5]) (ρ := [some (bd l k), some (.tup (gs.map D.str)), some (.tup (os.map D.str)), some (.tup [.str u, .str v]), none, none]) (S := S) D.str (fun _ => true) [u, v] rfl (by simp) (fun w hw S1 _ => by
    have wd : Wd l k w := by
      have : w = u ∨ w = v := by simpa using hw
      rcases this with rfl | rfl
      · exact hu
      · exact hv
    have iw := isw_ok T cs tb hT (S := S1) (l := l) (w := w) (by rw [wd.1]; omega) wd.1 wd.2
    refine ⟨[some (bd l k), some (.tup (gs.map D.str)), some (.tup (os.map D.str)), some (.tup [.str u, .str v]), none, some (.str w)], S1.trim S1.next, rfl, rfl, ?_, kq_t1 S1⟩
    rw [call_of (n := 2) (xs := [bd l k, .str w]) rfl rfl]
    exact iw)
  rw [all_const] at a1
  have ln : lenD [.tup [.str u, .str v]] S = some (.int 2) := rfl
  have e1 : sp1 T cs tb [some (bd l k), some (.tup (gs.map D.str)), some (.tup (os.map D.str)), some (.tup [.str u, .str v]), none, none] S = .ok (.nx [some (bd l k), some (.tup (gs.map D.str)), some (.tup (os.map D.str)), some (.tup [.str u, .str v]), none, none]) S1 := by
    unfold sp1
    refine (sIf_f (S' := S1) ?_).trans rfl
    have y1 : iTst (iCB (isiD cs tb) (iCons (iVar 3) (iCons (iC (.ty "tuple")) iNil))) [some (bd l k), some (.tup (gs.map D.str)), some (.tup (os.map D.str)), some (.tup [.str u, .str v]), none, none] S = .ok true S := by
      simp only [iTst, iCB, iCons, iNil, iVar, iC, M.bind, M.ret, lift, List.getD_cons_zero, List.getD_cons_succ, isi_tup, isB]
    have y2 : iTst (iOp neD (iCB lenD (iCons (iVar 3) iNil)) (iC (.int 2))) [some (bd l k), some (.tup (gs.map D.str)), some (.tup (os.map D.str)), some (.tup [.str u, .str v]), none, none] S = .ok false S := by
      simp only [iTst, iOp, iCB, iCons, iNil, iVar, iC, M.bind, M.ret, lift, List.getD_cons_zero, List.getD_cons_succ, ln, neD_int, decide_true, Bool.not_true, isB]
    have y3 : iTst (iCB allD (iCons (iLc (iItems (iVar 3)) (.n 5) iYes (iCall 2 (dIsWord T cs tb) (iCons (iVar 0) (iCons (iVar 5) iNil))) [5]) iNil)) [some (bd l k), some (.tup (gs.map D.str)), some (.tup (os.map D.str)), some (.tup [.str u, .str v]), none, none] S = .ok true S1 := by
      simp only [iTst, M.bind, a1, lift, isB]
    simp only [iOr, iNot, M.bind, y1, M.ret, Bool.not_true, Bool.false_eq_true, if_false, y2, y3]
  obtain ⟨S2, a2, q2⟩ := spE_lc (S := S1) (ρ0 := []) (l := l) (b := some (bd l k)) (x1 := some (.tup (gs.map D.str))) (x2 := some (.tup (os.map D.str))) (x5 := none) hk hu.1 hv.1 1 rfl hl h
  have t2 : iTst (iCB anyD (iCons (iLc (iItems (iVar 1)) (.n 4) iYes spE [4]) iNil)) [some (bd l k), some (.tup (gs.map D.str)), some (.tup (os.map D.str)), some (.tup [.str u, .str v]), none, none] S1 = .ok (gs.any (unB u v)) S2 := by
    simp only [iTst, M.bind, a2, lift, isB]
  cases hb : gs.any (unB u v) with
  | true =>
    rw [hb] at t2
    have pb : partB gs os u v = false := by simp only [partB, hb, Bool.not_true, Bool.false_and]
    rw [pb]
    refine ⟨S2.trim S.next, defJ_rt ?_, (q1.trans q2).t⟩
    rw [e0]
    unfold isShowsP
    rw [sSeq_nx e1]
    refine sSeq_rt ?_
    unfold sp2
    rw [sIf_t t2]
    rfl
  | false =>
    rw [hb] at t2
    have pb : partB gs os u v = os.any (unB u v) := by simp only [partB, hb, Bool.not_false, Bool.true_and]
    rw [pb]
    obtain ⟨S3, a3, q3⟩ := spE_lc (S := S2) (ρ0 := []) (l := l) (b := some (bd l k)) (x1 := some (.tup (gs.map D.str))) (x2 := some (.tup (os.map D.str))) (x5 := none) hk hu.1 hv.1 2 rfl hl2 h2
    have e2 : sp2 [some (bd l k), some (.tup (gs.map D.str)), some (.tup (os.map D.str)), some (.tup [.str u, .str v]), none, none] S1 = .ok (.nx [some (bd l k), some (.tup (gs.map D.str)), some (.tup (os.map D.str)), some (.tup [.str u, .str v]), none, none]) S2 := by
      unfold sp2
      rw [sIf_f t2]
      rfl
    refine ⟨S3.trim S.next, defJ_rt ?_, ((q1.trans q2).trans q3).t⟩
    rw [e0]
    unfold isShowsP
    rw [sSeq_nx e1, sSeq_nx e2]
    exact ret_of a3
/-- a paper that is no pair of words: what is asked of it -/
inductive NoPair (l : List Nat) (k : Nat) : D → Prop
  | kind {d : D} : notK "tuple" d = true → NoPair l k d
  | len {xs : List D} : xs.length ≠ 2 → NoPair l k (.tup xs)
  | one {w : List Nat} {d : D} : w.length ≤ 1000 → wordB l k w = false → (∃ v, d = .str v ∧ v.length ≤ 1000) → NoPair l k (.tup [.str w, d])
  | two {w : List Nat} {d : D} : Wd l k w → notK "str" d = true → NoPair l k (.tup [.str w, d])
theorem showsP_no (hT : T.fs 0 = [0, 1]) {S : Store} {l : List Nat} {k : Nat} {a b d : D} (hk : k ≤ 400) (h : NoPair l k d) : ∃ S', dShowsP T cs tb [bd l k, a, b, d] S = .ok (.bl false) S' ∧ Kq S S' := by
  have e0 : startR 6 [bd l k, a, b, d] = [some (bd l k), some a, some b, some d, none, none] := rfl
  have fin : ∀ S1, Kq S S1 → iOr (iNot (iTst (iCB (isiD cs tb) (iCons (iVar 3) (iCons (iC (.ty "tuple")) iNil))))) (iOr (iTst (iOp neD (iCB lenD (iCons (iVar 3) iNil)) (iC (.int 2)))) (iNot (iTst (iCB allD (iCons (iLc (iItems (iVar 3)) (.n 5) iYes (iCall 2 (dIsWord T cs tb) (iCons (iVar 0) (iCons (iVar 5) iNil))) [5]) iNil))))) [some (bd l k), some a, some b, some d, none, none] S = .ok true S1 → ∃ S', dShowsP T cs tb [bd l k, a, b, d] S = .ok (.bl false) S' ∧ Kq S S' := fun S1 q t => by
    refine ⟨S1.trim S.next, defJ_rt ?_, q.t⟩
    rw [e0]
    unfold isShowsP
    refine sSeq_rt ?_
    unfold sp1
    rw [sIf_t t]
    rfl
  cases h with
  | kind h =>
    have hs := isi_not cs tb (S := S) h
    refine fin S (Kq.refl S) ?_
    simp only [iOr, iNot, iTst, iCB, iCons, iNil, iVar, iC, M.bind, M.ret, lift, List.getD_cons_zero, List.getD_cons_succ, hs, isB, Bool.not_false, if_true]
  | @len xs h =>
    have z : ¬ ((xs.length : Nat) : Int) = 2 := by omega
    refine fin S (Kq.refl S) ?_
    simp only [iOr, iNot, iTst, iOp, iCB, iCons, iNil, iVar, iC, M.bind, M.ret, lift, List.getD_cons_zero, List.getD_cons_succ, isi_tup, isB, Bool.not_true, Bool.false_eq_true, if_false, lenD_tup, neD_int, z, decide_false, Bool.not_false, if_true]
  | @one w d hw hb hd =>
    obtain ⟨v, rfl, hv⟩ := hd
    obtain ⟨S1, a1, q1⟩ := all_lc (src := iItems (iVar 3)) (t := iYes) (g := .n 5) (ie := iCall 2 (dIsWord T cs tb) (iCons (iVar 0) (iCons (iVar 5) iNil))) (vs := [5]) (ρ := [some (bd l k), some a, some b, some (.tup [.str w, .str v]), none, none]) (S := S) D.str (wordB l k) [w, v] rfl (by simp) (fun y hy S1 _ => by
      have yl : y.length ≤ 1000 := by
        have : y = w ∨ y = v := by simpa using hy
        rcases this with rfl | rfl
        · exact hw
        · exact hv
      refine ⟨[some (bd l k), some a, some b, some (.tup [.str w, .str v]), none, some (.str y)], S1.trim S1.next, rfl, rfl, ?_, kq_t1 S1⟩
      rw [call_of (n := 2) (xs := [bd l k, .str y]) rfl rfl]
      exact isw_gen T cs tb hT yl)
    have al : [w, v].all (wordB l k) = false := by simp [hb]
    rw [al] at a1
    have ln : lenD [.tup [.str w, .str v]] S = some (.int 2) := rfl
    refine fin S1 q1 ?_
    have y1 : iTst (iCB (isiD cs tb) (iCons (iVar 3) (iCons (iC (.ty "tuple")) iNil))) [some (bd l k), some a, some b, some (.tup [.str w, .str v]), none, none] S = .ok true S := by
      simp only [iTst, iCB, iCons, iNil, iVar, iC, M.bind, M.ret, lift, List.getD_cons_zero, List.getD_cons_succ, isi_tup, isB]
    have y2 : iTst (iOp neD (iCB lenD (iCons (iVar 3) iNil)) (iC (.int 2))) [some (bd l k), some a, some b, some (.tup [.str w, .str v]), none, none] S = .ok false S := by
      simp only [iTst, iOp, iCB, iCons, iNil, iVar, iC, M.bind, M.ret, lift, List.getD_cons_zero, List.getD_cons_succ, ln, neD_int, decide_true, Bool.not_true, isB]
    have y3 : iTst (iCB allD (iCons (iLc (iItems (iVar 3)) (.n 5) iYes (iCall 2 (dIsWord T cs tb) (iCons (iVar 0) (iCons (iVar 5) iNil))) [5]) iNil)) [some (bd l k), some a, some b, some (.tup [.str w, .str v]), none, none] S = .ok false S1 := by
      simp only [iTst, M.bind, a1, lift, isB]
    simp only [iOr, iNot, M.bind, y1, M.ret, Bool.not_true, Bool.false_eq_true, if_false, y2, y3, Bool.not_false]
  | @two w d wd hd =>
    have iw := isw_ok T cs tb hT (S := S) (l := l) (w := w) (by rw [wd.1]; omega) wd.1 wd.2
    have iv := isw_not T cs tb (S := S.trim S.next) (b := bd l k) hd
    have ln : lenD [.tup [.str w, d]] S = some (.int 2) := rfl
    have lc : iLc (iItems (iVar 3)) (.n 5) iYes (iCall 2 (dIsWord T cs tb) (iCons (iVar 0) (iCons (iVar 5) iNil))) [5] [some (bd l k), some a, some b, some (.tup [.str w, d]), none, none] S = .ok (.lst [.bl true, .bl false]) ((S.trim S.next).trim S.next) := by
      have c1 : ∀ ρ5 S, iCall 2 (dIsWord T cs tb) (iCons (iVar 0) (iCons (iVar 5) iNil)) [some (bd l k), some a, some b, some (.tup [.str w, d]), none, some ρ5] S = dIsWord T cs tb [bd l k, ρ5] S := fun ρ5 S => call_of (n := 2) (xs := [bd l k, ρ5]) rfl rfl
      have s1 : lcL (.n 5) iYes (iCall 2 (dIsWord T cs tb) (iCons (iVar 0) (iCons (iVar 5) iNil))) [some (bd l k), some a, some b, some (.tup [.str w, d]), none, none] [d] (S.trim S.next) = .ok [.bl false] ((S.trim S.next).trim S.next) := by
        rw [lcL_cons_some (ρ1 := [some (bd l k), some a, some b, some (.tup [.str w, d]), none, some d]) rfl]
        simp only [M.bind, nox, iYes, M.ret, c1, iv, if_true, lcL]
        rfl
      have s2 : lcL (.n 5) iYes (iCall 2 (dIsWord T cs tb) (iCons (iVar 0) (iCons (iVar 5) iNil))) [some (bd l k), some a, some b, some (.tup [.str w, d]), none, none] [.str w, d] S = .ok [.bl true, .bl false] ((S.trim S.next).trim S.next) := by
        rw [lcL_cons_some (ρ1 := [some (bd l k), some a, some b, some (.tup [.str w, d]), none, some (.str w)]) rfl]
        simp only [M.bind, nox, iYes, M.ret, c1, iw, if_true, s1]
      simp only [iLc, iItems, iVar, items, M.bind, lift, List.getD_cons_zero, List.getD_cons_succ, List.length_cons, List.length_nil, Nat.reduceAdd, Nat.reduceLT, if_true, wipeR, List.set_cons_succ, List.set_cons_zero, s2, M.ret]
    have al : allD [.lst [.bl true, .bl false]] ((S.trim S.next).trim S.next) = some (.bl false) := rfl
    refine fin ((S.trim S.next).trim S.next) (kq_t2 S) ?_
    simp only [iOr, iNot, iTst, iOp, iCB, iCons, M.bind, lc, iNil, iVar, iC, M.ret, lift, List.getD_cons_zero, List.getD_cons_succ, isi_tup, isB, Bool.not_true, Bool.false_eq_true, if_false, ln, neD_int, decide_true, Bool.not_false, al]
theorem isn_bd {l : List Nat} {k : Int} {S : Store} : isN (bd l k) .non S = some (.bl false) := rfl
/-! ### holds, of pairs -/
variable (n1 n2 n3 : IS)
def sParts : List Nat := [112, 97, 114, 116, 115]
def hp4a : IS := (sAsg 3 (iAndV (iCall 2 (dAreG T cs tb) (iCons (iVar 2) (iCons (iOp ixD (iVar 0) (iC (.int 3))) iNil))) (iCall 2 (dAreG T cs tb) (iCons (iVar 2) (iCons (iOp ixD (iVar 0) (iC (.int 4))) iNil)))))
def hp4b : IS := (sRet (iAndV (iVar 3) (iCall 4 (dShowsP T cs tb) (iCons (iVar 2) (iCons (iOp ixD (iVar 0) (iC (.int 3))) (iCons (iOp ixD (iVar 0) (iC (.int 4))) (iCons (iVar 1) iNil)))))))
def isHoldsP : IS := sSeq (ho1 cs tb) (sSeq (ho2 T cs tb) (sSeq ho3 (sSeq (ho4 (sSeq (hp4a T cs tb) (hp4b T cs tb))) (sSeq n1 (sSeq n2 n3)))))
def dHoldsP : List D → M D := defJ 4 false (isHoldsP T cs tb n1 n2 n3)
abbrev prt (l : List Nat) (k : Nat) (gs os : List (List Nat)) : D := clm sParts l k (.tup (gs.map D.str)) (.tup (os.map D.str))
theorem holdsP_ok (hT : T.fs 0 = [0, 1]) {S : Store} {l : List Nat} {k : Nat} {gs os : List (List Nat)} {d : D} {b : Bool} (sg : Sg l) (h2 : 2 ≤ l.length) (k1 : 1 ≤ k) (k2 : k ≤ 6) (hg : gs.length ≤ 20) (g : ∀ w ∈ gs, Wd l k w) (ho : os.length ≤ 20) (o : ∀ w ∈ os, Wd l k w)
    (hd : ∀ S, ∃ S', dShowsP T cs tb [bd l k, .tup (gs.map D.str), .tup (os.map D.str), d] S = .ok (.bl b) S' ∧ Kq S S') : ∃ S', dHoldsP T cs tb n1 n2 n3 [prt l k gs os, d] S = .ok (.bl b) S' ∧ Kq S S' := by
  obtain ⟨S1, b1, q1⟩ := boardOf_ok T cs tb hT (S := S) (k := (k : Int)) sg h2 (by omega) (by omega)
  obtain ⟨S2, b2, q2⟩ := areg_ok T cs tb hT (S := S1) (l := l) (k := k) (by omega) hg g
  obtain ⟨S3, b3, q3⟩ := areg_ok T cs tb hT (S := S2) (l := l) (k := k) (by omega) ho o
  obtain ⟨S4, b4, q4⟩ := hd S3
  have it : ∀ S, isiD cs tb [prt l k gs os, .ty "tuple"] S = some (.bl true) := fun S => isi_tup
  have e1 : ho1 cs tb [some (prt l k gs os), some d, none, none] S = .ok (.nx [some (prt l k gs os), some d, none, none]) S := by
    unfold ho1
    simp [sSeq, sSetI, sSetIN, sBind, iOp, M.bind, lift, iVar, iC, M.ret, sIf, iTst, isB, iCB, iCons, iNil, sRet, sNext, sAsg, sExpr, sPar, sPar3, iCall, iIf, iOr, iAnd, iNot, iNotV, iAndV, iOrV, M.no, iLstM, iLst, iTup, sAsgG, ngD, nsD, iSl, iPart, iNoPart, iBM, iCM, iYes, it, cl_len, neD_int, cl0, isi_str]
  have e2 : ho2 T cs tb [some (prt l k gs os), some d, none, none] S = .ok (.nx [some (prt l k gs os), some d, some (bd l k), none]) S1 := by
    unfold ho2
    simp [sSeq, sSetI, sSetIN, sBind, iOp, M.bind, lift, iVar, iC, M.ret, sIf, iTst, isB, iCB, iCons, iNil, sRet, sNext, sAsg, sExpr, sPar, sPar3, iCall, iIf, iOr, iAnd, iNot, iNotV, iAndV, iOrV, M.no, iLstM, iLst, iTup, sAsgG, ngD, nsD, iSl, iPart, iNoPart, iBM, iCM, iYes, cl1, cl2, b1]
  have e3 : ho3 [some (prt l k gs os), some d, some (bd l k), none] S1 = .ok (.nx [some (prt l k gs os), some d, some (bd l k), none]) S1 := by
    unfold ho3
    simp [sSeq, sSetI, sSetIN, sBind, iOp, M.bind, lift, iVar, iC, M.ret, sIf, iTst, isB, iCB, iCons, iNil, sRet, sNext, sAsg, sExpr, sPar, sPar3, iCall, iIf, iOr, iAnd, iNot, iNotV, iAndV, iOrV, M.no, iLstM, iLst, iTup, sAsgG, ngD, nsD, iSl, iPart, iNoPart, iBM, iCM, iYes, isN, isNon]
  have q0 : ∀ S, eqD (.str sParts) (.str [112, 97, 114, 116, 115]) S = some (.bl true) := fun S => rfl
  have a4 : hp4a T cs tb [some (prt l k gs os), some d, some (bd l k), none] S1 = .ok (.nx [some (prt l k gs os), some d, some (bd l k), some (.bl true)]) S3 := by
    unfold hp4a
    simp [sSeq, sSetI, sSetIN, sBind, iOp, M.bind, lift, iVar, iC, M.ret, sIf, iTst, isB, iCB, iCons, iNil, sRet, sNext, sAsg, sExpr, sPar, sPar3, iCall, iIf, iOr, iAnd, iNot, iNotV, iAndV, iOrV, M.no, iLstM, iLst, iTup, sAsgG, ngD, nsD, iSl, iPart, iNoPart, iBM, iCM, iYes, cl3, cl4, b2, b3]
  have a5 : hp4b T cs tb [some (prt l k gs os), some d, some (bd l k), some (.bl true)] S3 = .ok (.rt (.bl b)) S4 := by
    unfold hp4b
    simp [sSeq, sSetI, sSetIN, sBind, iOp, M.bind, lift, iVar, iC, M.ret, sIf, iTst, isB, iCB, iCons, iNil, sRet, sNext, sAsg, sExpr, sPar, sPar3, iCall, iIf, iOr, iAnd, iNot, iNotV, iAndV, iOrV, M.no, iLstM, iLst, iTup, sAsgG, ngD, nsD, iSl, iPart, iNoPart, iBM, iCM, iYes, cl3, cl4, b4]
  have e4 : ho4 (sSeq (hp4a T cs tb) (hp4b T cs tb)) [some (prt l k gs os), some d, some (bd l k), none] S1 = .ok (.rt (.bl b)) S4 := by
    unfold ho4
    refine (sIf_t (S' := S1) ?_).trans ((sSeq_nx a4).trans a5)
    simp only [iTst, iOp, iVar, iC, M.bind, M.ret, lift, List.getD_cons_zero, cl0, q0, isB]
  have e0 : startR 4 [prt l k gs os, d] = [some (prt l k gs os), some d, none, none] := rfl
  refine ⟨S4.trim S.next, defJ_rt ?_, (((q1.trans q2).trans q3).trans q4).t⟩
  rw [e0]
  unfold isHoldsP
  rw [sSeq_nx e1, sSeq_nx e2, sSeq_nx e3]
  exact sSeq_rt e4
end
/-! ### the law's own due -/
def dpE : IE := iOp eqD (iCall 2 dReply (iCons (iVar 4) (iCons (iVar 2) iNil))) (iCall 2 dReply (iCons (iVar 4) (iCons (iVar 3) iNil)))
def dp1 : IS := (sIf (iNot (iTst (iCB allD (iCons (iLc (iItems (iVar 0)) (.n 4) iYes dpE [4]) iNil)))) (sRet (iC (.bl false))) sNext)
def dp2 : IS := (sRet (iNotV (iTst (iCB allD (iCons (iLc (iItems (iVar 1)) (.n 4) iYes dpE [4]) iNil)))))
def isDueP : IS := sSeq dp1 dp2
def dDueP : List D → M D := defJ 5 false isDueP
def eqB (u v g : List Nat) : Bool := decide (marksL g u = marksL g v)
theorem any_un (u v : List Nat) : ∀ gs : List (List Nat), gs.any (unB u v) = !gs.all (eqB u v)
  | [] => rfl
  | g :: gs => by rw [List.any_cons, List.all_cons, any_un u v gs, unB, eqB, Bool.not_and]
theorem part_eq (gs os : List (List Nat)) (u v : List Nat) : partB gs os u v = (gs.all (eqB u v) && !os.all (eqB u v)) := by
  rw [partB, any_un, any_un, Bool.not_not]
theorem eqB_symm (u v g : List Nat) : eqB u v g = eqB v u g := by
  unfold eqB
  exact decide_eq_decide.mpr ⟨Eq.symm, Eq.symm⟩
theorem part_symm (gs os : List (List Nat)) (u v : List Nat) : partB gs os u v = partB gs os v u := by
  have e : eqB u v = eqB v u := funext (eqB_symm u v)
  rw [part_eq, part_eq, e]
theorem dpE_lc {S : Store} {k : Nat} {l u v : List Nat} {gs : List (List Nat)} {x0 x1 : Option D} (hk : k ≤ 400) (hu : u.length = k) (hv : v.length = k) (i : Nat) (hi : ([x0, x1, some (.str u), some (.str v), none] : Rho).getD i none = some (.lst (gs.map D.str))) (hl : gs.length ≤ 20) (h : ∀ w ∈ gs, Wd l k w) :
    ∃ S', iCB allD (iCons (iLc (iItems (iVar i)) (.n 4) iYes dpE [4]) iNil) [x0, x1, some (.str u), some (.str v), none] S = .ok (.bl (gs.all (eqB u v))) S' ∧ Kq S S' := by
  refine all_lc (emb := D.str) (P := eqB u v) gs ?_ (by omega) (fun g hg S1 _ => ?_)
  · simp only [iItems, iVar, hi, M.bind, lift, items]
  · have e2 := reply_ok (S := S1) (g := g) (w := u) (by rw [(h g hg).1, hu]) (by rw [(h g hg).1]; omega)
    have e3 := reply_ok (S := S1.trim S1.next) (g := g) (w := v) (by rw [(h g hg).1, hv]) (by rw [(h g hg).1]; omega)
    refine ⟨[x0, x1, some (.str u), some (.str v), some (.str g)], (S1.trim S1.next).trim S1.next, rfl, rfl, ?_, kq_t2 S1⟩
    have n2 : (S1.trim S1.next).next = S1.next := rfl
    rw [n2] at e3
    unfold dpE eqB
    simp only [iOp, iCall, iCons, iNil, iVar, M.bind, M.ret, lift, List.getD_cons_zero, List.getD_cons_succ, List.length_cons, List.length_nil, if_true, e2, e3, eqD_str]
theorem dueP_ok {S : Store} {l u v : List Nat} {k : Nat} {gs os : List (List Nat)} (hk : k ≤ 400) (hl : gs.length ≤ 20) (h : ∀ w ∈ gs, Wd l k w) (hl2 : os.length ≤ 20) (h2 : ∀ w ∈ os, Wd l k w) (hu : u.length = k) (hv : v.length = k) :
    ∃ S', dDueP [.lst (gs.map D.str), .lst (os.map D.str), .str u, .str v] S = .ok (.bl (partB gs os u v)) S' ∧ Kq S S' := by
  have e0 : startR 5 [.lst (gs.map D.str), .lst (os.map D.str), .str u, .str v] = [some (.lst (gs.map D.str)), some (.lst (os.map D.str)), some (.str u), some (.str v), none] := rfl
  obtain ⟨S1, a1, q1⟩ := dpE_lc (S := S) (l := l) (x0 := some (.lst (gs.map D.str))) (x1 := some (.lst (os.map D.str))) hk hu hv 0 rfl hl h
  have t1 : iNot (iTst (iCB allD (iCons (iLc (iItems (iVar 0)) (.n 4) iYes dpE [4]) iNil))) [some (.lst (gs.map D.str)), some (.lst (os.map D.str)), some (.str u), some (.str v), none] S = .ok (!gs.all (eqB u v)) S1 := by
    simp only [iNot, iTst, M.bind, a1, lift, isB, M.ret]
  rw [part_eq]
  cases hb : gs.all (eqB u v) with
  | false =>
    rw [hb] at t1
    refine ⟨S1.trim S.next, defJ_rt ?_, q1.t⟩
    rw [e0]
    unfold isDueP
    refine sSeq_rt ?_
    unfold dp1
    rw [sIf_t (S' := S1) t1]
    rfl
  | true =>
    rw [hb] at t1
    obtain ⟨S2, a2, q2⟩ := dpE_lc (S := S1) (l := l) (x0 := some (.lst (gs.map D.str))) (x1 := some (.lst (os.map D.str))) hk hu hv 1 rfl hl2 h2
    have e1 : dp1 [some (.lst (gs.map D.str)), some (.lst (os.map D.str)), some (.str u), some (.str v), none] S = .ok (.nx [some (.lst (gs.map D.str)), some (.lst (os.map D.str)), some (.str u), some (.str v), none]) S1 := by
      unfold dp1
      rw [sIf_f (S' := S1) t1]
      rfl
    refine ⟨S2.trim S.next, defJ_rt ?_, (q1.trans q2).t⟩
    rw [e0]
    unfold isDueP
    rw [sSeq_nx e1]
    refine ret_of ?_
    simp only [iNotV, iTst, M.bind, a2, lift, isB, M.ret, Bool.true_and]
end J

set_option Elab.async false
set_option linter.all false
set_option maxRecDepth 100000
set_option maxHeartbeats 4100000
namespace K73
open PySem L2 J
def top (i : Nat) : Stmt := PySem.Challenge.pw_guessmarks_k73_pairs_judged.main.body.getD i (.Pass ⟨0, 0, 0, 0⟩)
def inClass : Stmt → Nat → Stmt
  | .ClassDef (body := b) .., i => b.getD i (.Pass ⟨0, 0, 0, 0⟩)
  | s, _ => s
def TFD : List He.Defn := []
def TT : Tab := mkTab ["Board"] ["letters", "length"] [[0, 1]] (by decide) (by decide) (fun K => [])
abbrev TBs (K : PySem.W.Frag) (mg : Str → Option Value) (base : Heap) : Prop := ∀ p ∈ TFD.map (He.cT K), LamX.TabB base mg p.1 p.2
theorem tab_of (K : PySem.W.Frag) : ∀ q ∈ TT.tabs K, ∃ p ∈ TFD.map (He.cT K), q.1 = p.2 := fun q hq => (List.not_mem_nil hq).elim
def CS : List Nat := [0]
def CT : List Nat := [0]
def TB : List (Tg × Tg × Bool) := [(.b "NoneType", .o 0, false), (.b "bool", .o 0, false), (.b "int", .o 0, false), (.b "str", .o 0, false), (.b "tuple", .o 0, false), (.b "list", .o 0, false), (.b "dict", .o 0, false), (.o 0, .o 0, true), (.o 0, .b "int", false), (.o 0, .b "str", false), (.o 0, .b "bool", false), (.o 0, .b "tuple", false), (.o 0, .b "list", false), (.o 0, .b "dict", false)]
def OG : List Tg := [.b "NoneType", .b "bool", .b "int", .b "str", .b "tuple", .b "list", .b "dict", .o 0]
abbrev s_well : Stmt := top 55
def df_well : Df := ⟨fun K => He.ga K "_law_well", "_law_well", "_law_well", defArgs s_well, defBody s_well, defScope s_well, [], []⟩
abbrev s_draw : Stmt := top 56
def df_draw : Df := ⟨fun K => He.ga K "_law_draw", "_law_draw", "_law_draw", defArgs s_draw, defBody s_draw, defScope s_draw, [], []⟩
abbrev s_signs : Stmt := top 58
def df_signs : Df := ⟨fun K => He.ga K "_law_signs", "_law_signs", "_law_signs", defArgs s_signs, defBody s_signs, defScope s_signs, [], []⟩
abbrev s_one : Stmt := top 57
def df_one : Df := ⟨fun K => He.ga K "_law_one", "_law_one", "_law_one", defArgs s_one, defBody s_one, defScope s_one, [], []⟩
abbrev s_text : Stmt := top 59
def df_text : Df := ⟨fun K => He.ga K "_law_text", "_law_text", "_law_text", defArgs s_text, defBody s_text, defScope s_text, [], []⟩
abbrev s_reply : Stmt := top 60
def df_reply : Df := ⟨fun K => He.ga K "_law_reply", "_law_reply", "_law_reply", defArgs s_reply, defBody s_reply, defScope s_reply, [], []⟩
abbrev s_due : Stmt := top 61
def df_due : Df := ⟨fun K => He.ga K "_law_due", "_law_due", "_law_due", defArgs s_due, defBody s_due, defScope s_due, [], []⟩
abbrev s_are_letters : Stmt := top 15
def df_are_letters : Df := ⟨fun K => He.ga K "are_letters", "are_letters", "are_letters", defArgs s_are_letters, defBody s_are_letters, defScope s_are_letters, [], []⟩
abbrev s_is_integer : Stmt := top 14
def df_is_integer : Df := ⟨fun K => He.ga K "is_integer", "is_integer", "is_integer", defArgs s_is_integer, defBody s_is_integer, defScope s_is_integer, [], []⟩
abbrev s_Board_init : Stmt := inClass (top 16) 0
def df_Board_init : Df := ⟨fun K => He.ma K (He.ga K "Board") "__init__", "__init__", "Board.__init__", defArgs s_Board_init, defBody s_Board_init, defScope s_Board_init, [], []⟩
abbrev s_board_of : Stmt := top 42
def df_board_of : Df := ⟨fun K => He.ga K "board_of", "board_of", "board_of", defArgs s_board_of, defBody s_board_of, defScope s_board_of, [], []⟩
abbrev s_is_word : Stmt := top 17
def df_is_word : Df := ⟨fun K => He.ga K "is_word", "is_word", "is_word", defArgs s_is_word, defBody s_is_word, defScope s_is_word, [], []⟩
abbrev s_check_guesses : Stmt := top 36
def df_check_guesses : Df := ⟨fun K => He.ga K "check_guesses", "check_guesses", "check_guesses", defArgs s_check_guesses, defBody s_check_guesses, defScope s_check_guesses, [], []⟩
abbrev s_are_guesses : Stmt := top 45
def df_are_guesses : Df := ⟨fun K => He.ga K "are_guesses", "are_guesses", "are_guesses", defArgs s_are_guesses, defBody s_are_guesses, defScope s_are_guesses, [], []⟩
abbrev s_marks_of : Stmt := top 31
def df_marks_of : Df := ⟨fun K => He.ga K "marks_of", "marks_of", "marks_of", defArgs s_marks_of, defBody s_marks_of, defScope s_marks_of, [], []⟩
abbrev s_shows_parts : Stmt := top 52
def df_shows_parts : Df := ⟨fun K => He.ga K "shows_parts", "shows_parts", "shows_parts", defArgs s_shows_parts, defBody s_shows_parts, defScope s_shows_parts, [], []⟩
abbrev s_holds : Stmt := top 53
def df_holds : Df := ⟨fun K => He.ga K "holds", "holds", "holds", defArgs s_holds, defBody s_holds, defScope s_holds, [], []⟩
abbrev s_right : Stmt := top 62
def df_right : Df := ⟨fun K => He.ga K "_law_right", "_law_right", "_law_right", defArgs s_right, defBody s_right, defScope s_right, [], []⟩
abbrev s_law : Stmt := top 63
def df_law : Df := ⟨fun K => He.ga K "law", "law", "law", defArgs s_law, defBody s_law, defScope s_law, [], []⟩
structure FX (K : PySem.W.Frag) (mg : Str → Option Value) : Prop where
  b_abs : mg "abs" = none
  b_all : mg "all" = none
  b_any : mg "any" = none
  b_bool : mg "bool" = none
  b_divmod : mg "divmod" = none
  b_enumerate : mg "enumerate" = none
  b_int : mg "int" = none
  b_isinstance : mg "isinstance" = none
  b_len : mg "len" = none
  b_max : mg "max" = none
  b_min : mg "min" = none
  b_range : mg "range" = none
  b_repr : mg "repr" = none
  b_str : mg "str" = none
  b_tuple : mg "tuple" = none
  b_zip : mg "zip" = none
  c_HIT : ∃ t, mg "HIT" = some (.str ⟨#[50]⟩ t)
  c_LETTERS : ∃ t, mg "LETTERS" = some (.str ⟨#[97, 98, 99, 100, 101, 102, 103, 104, 105, 106, 107, 108, 109, 110, 111, 112, 113, 114, 115, 116, 117, 118, 119, 120, 121, 122]⟩ t)
  c_MISS : ∃ t, mg "MISS" = some (.str ⟨#[48]⟩ t)
  c_MOST_GUESSES : ∃ t, mg "MOST_GUESSES" = some (.int 20 t)
  c_MOST_LENGTH : ∃ t, mg "MOST_LENGTH" = some (.int 6 t)
  c_MOST_LETTERS : ∃ t, mg "MOST_LETTERS" = some (.int 26 t)
  c_NEAR : ∃ t, mg "NEAR" = some (.str ⟨#[49]⟩ t)
  k_Board : mg (TT.cn 0) = some (.ref (He.ga K (TT.cn 0)))
  j_Board : ClsJ TT K 0
  f_letters : ∀ c ∈ ([0] : List Nat), ClsJ TT K c ∧ 0 ∈ TT.fs c
  f_length : ∀ c ∈ ([0] : List Nat), ClsJ TT K c ∧ 1 ∈ TT.fs c
  isk : IsK TT K CS TB
  tr : ∀ c ∈ CT, PlainTru K (He.ga K (TT.cn c))
  d_well : ∃ fd, df_well.Fun K fd
  m_well : mg "_law_well" = some (.ref (He.ga K "_law_well"))
  d_draw : ∃ fd, df_draw.Fun K fd
  m_draw : mg "_law_draw" = some (.ref (He.ga K "_law_draw"))
  d_signs : ∃ fd, df_signs.Fun K fd
  m_signs : mg "_law_signs" = some (.ref (He.ga K "_law_signs"))
  d_one : ∃ fd, df_one.Fun K fd
  m_one : mg "_law_one" = some (.ref (He.ga K "_law_one"))
  d_text : ∃ fd, df_text.Fun K fd
  m_text : mg "_law_text" = some (.ref (He.ga K "_law_text"))
  d_reply : ∃ fd, df_reply.Fun K fd
  m_reply : mg "_law_reply" = some (.ref (He.ga K "_law_reply"))
  d_due : ∃ fd, df_due.Fun K fd
  m_due : mg "_law_due" = some (.ref (He.ga K "_law_due"))
  d_are_letters : ∃ fd, df_are_letters.Fun K fd
  m_are_letters : mg "are_letters" = some (.ref (He.ga K "are_letters"))
  d_is_integer : ∃ fd, df_is_integer.Fun K fd
  m_is_integer : mg "is_integer" = some (.ref (He.ga K "is_integer"))
  d_Board_init : ∃ fd, df_Board_init.Fun K fd
  m_Board_init : Mk K (He.ga K "Board") (He.ma K (He.ga K "Board") "__init__")
  d_board_of : ∃ fd, df_board_of.Fun K fd
  m_board_of : mg "board_of" = some (.ref (He.ga K "board_of"))
  d_is_word : ∃ fd, df_is_word.Fun K fd
  m_is_word : mg "is_word" = some (.ref (He.ga K "is_word"))
  d_check_guesses : ∃ fd, df_check_guesses.Fun K fd
  m_check_guesses : mg "check_guesses" = some (.ref (He.ga K "check_guesses"))
  d_are_guesses : ∃ fd, df_are_guesses.Fun K fd
  m_are_guesses : mg "are_guesses" = some (.ref (He.ga K "are_guesses"))
  d_marks_of : ∃ fd, df_marks_of.Fun K fd
  m_marks_of : mg "marks_of" = some (.ref (He.ga K "marks_of"))
  d_shows_parts : ∃ fd, df_shows_parts.Fun K fd
  m_shows_parts : mg "shows_parts" = some (.ref (He.ga K "shows_parts"))
  d_holds : ∃ fd, df_holds.Fun K fd
  m_holds : mg "holds" = some (.ref (He.ga K "holds"))
  d_right : ∃ fd, df_right.Fun K fd
  m_right : mg "_law_right" = some (.ref (He.ga K "_law_right"))
  d_law : ∃ fd, df_law.Fun K fd
  m_law : mg "law" = some (.ref (He.ga K "law"))
abbrev N_well : List Str := ["_law_script", "_law_k", "_law_own", "_law_blend", "_law_entry", "_law_deep"]
theorem sc_well : FnScope N_well ["_law_script", "_law_k"] (defScope s_well) := ⟨rfl, rfl, rfl, by decide +kernel, rfl, by decide +kernel, by decide +kernel⟩
def is_well : IS := (sSeq (sAsg 2 (iIf (iTst (iOp ltI (iVar 1) (iCB lenD (iCons (iVar 0) iNil)))) (iCB intD (iCons (iOp ixD (iVar 0) (iVar 1)) iNil)) (iOp addD (iOp mulD (iC (.int 29)) (iVar 1)) (iC (.int 11))))) (sSeq (sAsg 3 (iOp addD (iC (.int 51001)) (iOp mulD (iC (.int 733)) (iVar 1)))) (sSeq (sFor (iItems (iSl slD (iVar 0) iNoPart (iPart (iC (.int 63))))) (.n 4) (sAsg 3 (iOp modI (iCB intD (iCons (iOp addD (iOp mulD (iVar 3) (iC (.int 39373))) (iOp modI (iCB intD (iCons (iVar 4) iNil)) (iC (.int 2147483629)))) iNil)) (iC (.int 2147483629))))) (sSeq (sAsg 5 (iIf (iOr (iTst (iOp ltI (iVar 2) (iC (.int 0)))) (iTst (iOp geI (iVar 2) (iOp powI (iC (.int 10)) (iC (.int 16)))))) (iCB absD (iCons (iVar 2) iNil)) (iC (.int 0)))) (sRet (iLstM (iCons (iOp modI (iCB intD (iCons (iOp addD (iVar 3) (iOp modI (iCB intD (iCons (iVar 2) iNil)) (iC (.int 2147483629)))) iNil)) (iC (.int 2147483629))) (iCons (iVar 5) (iCons (iC (.int 0)) iNil)))))))))
def d_well : List D → M D := defJ 6 true is_well
theorem w_well {P : Program} {w : World} {K : PySem.W.Frag} {mg : Str → Option Value} {base : Heap} (Fx : FX K mg) {fd : FuncData} (F : df_well.Fun K fd) : FnG P w K mg base 1 (df_well.at_ K) fd ["_law_script", "_law_k"] (spJ TT K 2 d_well) := by
  refine fn_j (T := TT) true F sc_well (fun cdv A fr s H E room gd => ?_)
  have hr : Rg 0 (cxOf (L2.CX P w) P w K mg base N_well "_law_well" (defScope s_well) (df_well.at_ K) cdv A fr s H E).A := ⟨room, gd⟩
  have tk : Takes (cxOf (L2.CX P w) P w K mg base N_well "_law_well" (defScope s_well) (df_well.at_ K) cdv A fr s H E) (fun c d _ H => E c d H) := takes_of rfl rfl rfl rfl
  have po : PassesOwn (model P w) (cxOf (L2.CX P w) P w K mg base N_well "_law_well" (defScope s_well) (df_well.at_ K) cdv A fr s H E).A (cxOf (L2.CX P w) P w K mg base N_well "_law_well" (defScope s_well) (df_well.at_ K) cdv A fr s H E).env (cxOf (L2.CX P w) P w K mg base N_well "_law_well" (defScope s_well) (df_well.at_ K) cdv A fr s H E).xe := passes_of rfl
  have S := sc_well
  exact (jss_cons (js_set (i := 2) S.nd rfl (Or.inl rfl) (je_if (jt_cmp op_lt ltI_ok (je_var 1) (je_callB call_len lenD_ok (by rfl) Fx.b_len (by decide +kernel) (ja_cons (je_var 0) ja_nil)) (nomark _)) (je_callTy call_int1 intD_ok (by rfl) Fx.b_int (by decide +kernel) (ja_cons (je_ix ix_seq ixD_ok (je_var 0) (je_var 1) (fun _ _ => rfl)) ja_nil)) (je_op op_addD addD_ok (je_op op_mulD mulD_ok je_int (je_var 1)) je_int))) (jss_cons (js_set (i := 3) S.nd rfl (Or.inl rfl) (je_op op_addD addD_ok je_int (je_op op_mulD mulD_ok je_int (je_var 1)))) (jss_cons (js_for po rfl (ji_items (je_slice sl_D slD_ok (je_var 0) jo_none (jo_some je_int))) (jg_name (i := 4) S.nd rfl (Or.inl rfl)) (jss_one (js_set (i := 3) S.nd rfl (Or.inl rfl) (je_op op_mod modI_ok (je_callTy call_int1 intD_ok (by rfl) Fx.b_int (by decide +kernel) (ja_cons (je_op op_addD addD_ok (je_op op_mulD mulD_ok (je_var 3) je_int) (je_op op_mod modI_ok (je_callTy call_int1 intD_ok (by rfl) Fx.b_int (by decide +kernel) (ja_cons (je_var 4) ja_nil)) je_int)) ja_nil)) je_int)))) (jss_cons (js_set (i := 5) S.nd rfl (Or.inl rfl) (je_if (jt_w (jw_or (jt_cmp op_lt ltI_ok (je_var 2) je_int (nomark _)) (jw_or1 (jt_cmp op_ge geI_ok (je_var 2) (je_op op_pow powI_ok je_int je_int) (nomark _))))) (je_callB call_abs absD_ok (by rfl) Fx.b_abs (by decide +kernel) (ja_cons (je_var 2) ja_nil)) je_int)) (jss_one (js_ret (je_lstM (ja_cons (je_op op_mod modI_ok (je_callTy call_int1 intD_ok (by rfl) Fx.b_int (by decide +kernel) (ja_cons (je_op op_addD addD_ok (je_var 3) (je_op op_mod modI_ok (je_callTy call_int1 intD_ok (by rfl) Fx.b_int (by decide +kernel) (ja_cons (je_var 2) ja_nil)) je_int)) ja_nil)) je_int) (ja_cons (je_var 5) (ja_cons je_int ja_nil))))))))))
theorem g_well {P : Program} {w : World} {K : PySem.W.Frag} {mg : Str → Option Value} {base : Heap} (Fx : FX K mg) : Good P w TT K mg base 1 "_law_well" ["_law_script", "_law_k"] d_well := Fx.d_well.elim fun fd F => ⟨fd, w_well Fx F, F.bindsN fun _ _ _ _ _ _ us hl => match us, hl with | [_, _], _ => rfl, Fx.m_well, F.kp⟩
abbrev N_draw : List Str := ["_law_well_here", "_law_many", "_law_digit"]
theorem sc_draw : FnScope N_draw ["_law_well_here", "_law_many"] (defScope s_draw) := ⟨rfl, rfl, rfl, by decide +kernel, rfl, by decide +kernel, by decide +kernel⟩
def is_draw : IS := (sSeq (sSetI setL (iOp addD (iOp ixD (iVar 0) (iC (.int 2))) (iC (.int 1))) (iVar 0) (iC (.int 2))) (sSeq (sIf (iTst (iOp gtI (iOp ixD (iVar 0) (iC (.int 1))) (iC (.int 0)))) (sSeq (sSetIN setL (iCB divmodD (iCons (iCB intD (iCons (iOp ixD (iVar 0) (iC (.int 1))) iNil)) (iCons (iVar 1) iNil))) (iVar 0) (iC (.int 1)) 2) (sRet (iVar 2))) sNext) (sSeq (sSetI setL (iOp modI (iCB intD (iCons (iOp addD (iOp addD (iOp mulD (iOp ixD (iVar 0) (iC (.int 0))) (iC (.int 48271))) (iOp mulD (iOp fdivI (iOp ixD (iVar 0) (iC (.int 0))) (iC (.int 65537))) (iC (.int 101)))) (iOp mulD (iOp ixD (iVar 0) (iC (.int 2))) (iC (.int 1000003)))) iNil)) (iC (.int 2147483629))) (iVar 0) (iC (.int 0))) (sRet (iOp modI (iCB intD (iCons (iOp fdivI (iOp ixD (iVar 0) (iC (.int 0))) (iC (.int 97))) iNil)) (iVar 1))))))
def d_draw : List D → M D := defJ 3 false is_draw
theorem w_draw {P : Program} {w : World} {K : PySem.W.Frag} {mg : Str → Option Value} {base : Heap} (Fx : FX K mg) {fd : FuncData} (F : df_draw.Fun K fd) : FnG P w K mg base 1 (df_draw.at_ K) fd ["_law_well_here", "_law_many"] (spJ TT K 2 d_draw) := by
  refine fn_j (T := TT) false F sc_draw (fun cdv A fr s H E room gd => ?_)
  have hr : Rg 0 (cxOf (L2.CX P w) P w K mg base N_draw "_law_draw" (defScope s_draw) (df_draw.at_ K) cdv A fr s H E).A := ⟨room, gd⟩
  have tk : Takes (cxOf (L2.CX P w) P w K mg base N_draw "_law_draw" (defScope s_draw) (df_draw.at_ K) cdv A fr s H E) (fun c d _ H => E c d H) := takes_of rfl rfl rfl rfl
  have po : PassesOwn (model P w) (cxOf (L2.CX P w) P w K mg base N_draw "_law_draw" (defScope s_draw) (df_draw.at_ K) cdv A fr s H E).A (cxOf (L2.CX P w) P w K mg base N_draw "_law_draw" (defScope s_draw) (df_draw.at_ K) cdv A fr s H E).env (cxOf (L2.CX P w) P w K mg base N_draw "_law_draw" (defScope s_draw) (df_draw.at_ K) cdv A fr s H E).xe := passes_of rfl
  have S := sc_draw
  exact (jss_cons (js_setI set_list setL_ok (je_op op_addD addD_ok (je_ix ix_seq ixD_ok (je_var 0) je_int (fun _ _ => rfl)) je_int) (je_var 0) je_int) (jss_cons (js_if (jt_cmp op_gt gtI_ok (je_ix ix_seq ixD_ok (je_var 0) je_int (fun _ _ => rfl)) je_int (nomark _)) (jss_cons (js_setIN (j := 2) rfl set_list setL_ok S.nd rfl (Or.inl rfl) (je_callB call_divmod divmodD_ok (by rfl) Fx.b_divmod (by decide +kernel) (ja_cons (je_callTy call_int1 intD_ok (by rfl) Fx.b_int (by decide +kernel) (ja_cons (je_ix ix_seq ixD_ok (je_var 0) je_int (fun _ _ => rfl)) ja_nil)) (ja_cons (je_var 1) ja_nil))) (je_var 0) je_int) (jss_one (js_ret (je_var 2)))) jss_nil) (jss_cons (js_setI set_list setL_ok (je_op op_mod modI_ok (je_callTy call_int1 intD_ok (by rfl) Fx.b_int (by decide +kernel) (ja_cons (je_op op_addD addD_ok (je_op op_addD addD_ok (je_op op_mulD mulD_ok (je_ix ix_seq ixD_ok (je_var 0) je_int (fun _ _ => rfl)) je_int) (je_op op_mulD mulD_ok (je_op op_fdiv fdivI_ok (je_ix ix_seq ixD_ok (je_var 0) je_int (fun _ _ => rfl)) je_int) je_int)) (je_op op_mulD mulD_ok (je_ix ix_seq ixD_ok (je_var 0) je_int (fun _ _ => rfl)) je_int)) ja_nil)) je_int) (je_var 0) je_int) (jss_one (js_ret (je_op op_mod modI_ok (je_callTy call_int1 intD_ok (by rfl) Fx.b_int (by decide +kernel) (ja_cons (je_op op_fdiv fdivI_ok (je_ix ix_seq ixD_ok (je_var 0) je_int (fun _ _ => rfl)) je_int) ja_nil)) (je_var 1)))))))
theorem g_draw {P : Program} {w : World} {K : PySem.W.Frag} {mg : Str → Option Value} {base : Heap} (Fx : FX K mg) : Good P w TT K mg base 1 "_law_draw" ["_law_well_here", "_law_many"] d_draw := Fx.d_draw.elim fun fd F => ⟨fd, w_draw Fx F, F.bindsN fun _ _ _ _ _ _ us hl => match us, hl with | [_, _], _ => rfl, Fx.m_draw, F.kp⟩
abbrev N_signs : List Str := ["_law_well_here", "_law_least", "_law_most", "_law_turn", "_law_many", "_law_rest", "_law_at"]
theorem sc_signs : FnScope N_signs ["_law_well_here", "_law_least", "_law_most"] (defScope s_signs) := ⟨rfl, rfl, rfl, by decide +kernel, rfl, by decide +kernel, by decide +kernel⟩
def is_signs : IS := (sSeq (sPar 4 5 (iCons (iOp addD (iVar 1) (iCall 2 d_draw (iCons (iVar 0) (iCons (iOp addD (iOp subI (iVar 2) (iVar 1)) (iC (.int 1))) iNil)))) (iCons (iC (.str [97, 98, 99, 100, 101, 102, 103, 104, 105, 106, 107, 108, 109, 110, 111, 112, 113, 114, 115, 116, 117, 118, 119, 120, 121, 122])) iNil))) (sSeq (sIf (iTst (iOp eqD (iCall 2 d_draw (iCons (iVar 0) (iCons (iC (.int 2)) iNil))) (iC (.int 0)))) (sRet (iSl slD (iVar 5) iNoPart (iPart (iVar 4)))) sNext) (sSeq (sFor (iRange range1 (iCons (iOp subI (iC (.int 26)) (iVar 4)) iNil)) (.n 3) (sSeq (sAsg 6 (iCall 2 d_draw (iCons (iVar 0) (iCons (iCB lenD (iCons (iVar 5) iNil)) iNil)))) (sAsg 5 (iOp addD (iSl slD (iVar 5) iNoPart (iPart (iVar 6))) (iSl slD (iVar 5) (iPart (iOp addD (iVar 6) (iC (.int 1)))) iNoPart))))) (sRet (iVar 5)))))
def d_signs : List D → M D := defJ 7 false is_signs
theorem w_signs {P : Program} {w : World} {K : PySem.W.Frag} {mg : Str → Option Value} {base : Heap} (Fx : FX K mg) {fd : FuncData} (F : df_signs.Fun K fd) : FnG P w K mg base 2 (df_signs.at_ K) fd ["_law_well_here", "_law_least", "_law_most"] (spJ TT K 3 d_signs) := by
  refine fn_j (T := TT) false F sc_signs (fun cdv A fr s H E room gd => ?_)
  have hr : Rg 1 (cxOf (L2.CX P w) P w K mg base N_signs "_law_signs" (defScope s_signs) (df_signs.at_ K) cdv A fr s H E).A := ⟨room, gd⟩
  have tk : Takes (cxOf (L2.CX P w) P w K mg base N_signs "_law_signs" (defScope s_signs) (df_signs.at_ K) cdv A fr s H E) (fun c d _ H => E c d H) := takes_of rfl rfl rfl rfl
  have po : PassesOwn (model P w) (cxOf (L2.CX P w) P w K mg base N_signs "_law_signs" (defScope s_signs) (df_signs.at_ K) cdv A fr s H E).A (cxOf (L2.CX P w) P w K mg base N_signs "_law_signs" (defScope s_signs) (df_signs.at_ K) cdv A fr s H E).env (cxOf (L2.CX P w) P w K mg base N_signs "_law_signs" (defScope s_signs) (df_signs.at_ K) cdv A fr s H E).xe := passes_of rfl
  have S := sc_signs
  exact (jss_cons (js_par (i := 4) (j := 5) rfl S.nd rfl rfl (by decide) rfl rfl (ja_cons (je_op op_addD addD_ok (je_var 1) (je_call (g_draw Fx) (hr.mono (by decide)) (by rfl) tk (ja_cons (je_var 0) (ja_cons (je_op op_addD addD_ok (je_op op_sub subI_ok (je_var 2) (je_var 1)) je_int) ja_nil)))) (ja_cons (je_str (l := [97, 98, 99, 100, 101, 102, 103, 104, 105, 106, 107, 108, 109, 110, 111, 112, 113, 114, 115, 116, 117, 118, 119, 120, 121, 122])) ja_nil))) (jss_cons (js_if (jt_cmp (op_eqJ hr) eqD_ok (je_call (g_draw Fx) (hr.mono (by decide)) (by rfl) tk (ja_cons (je_var 0) (ja_cons je_int ja_nil))) je_int (nomark _)) (jss_one (js_ret (je_slice sl_D slD_ok (je_var 5) jo_none (jo_some (je_var 4))))) jss_nil) (jss_cons (js_for po rfl (ji_range1 (by rfl) Fx.b_range (ja_cons (je_op op_sub subI_ok je_int (je_var 4)) ja_nil)) (jg_name (i := 3) S.nd rfl (Or.inl rfl)) (jss_cons (js_set (i := 6) S.nd rfl (Or.inl rfl) (je_call (g_draw Fx) (hr.mono (by decide)) (by rfl) tk (ja_cons (je_var 0) (ja_cons (je_callB call_len lenD_ok (by rfl) Fx.b_len (by decide +kernel) (ja_cons (je_var 5) ja_nil)) ja_nil)))) (jss_one (js_set (i := 5) S.nd rfl (Or.inl rfl) (je_op op_addD addD_ok (je_slice sl_D slD_ok (je_var 5) jo_none (jo_some (je_var 6))) (je_slice sl_D slD_ok (je_var 5) (jo_some (je_op op_addD addD_ok (je_var 6) je_int)) jo_none)))))) (jss_one (js_ret (je_var 5))))))
theorem g_signs {P : Program} {w : World} {K : PySem.W.Frag} {mg : Str → Option Value} {base : Heap} (Fx : FX K mg) : Good P w TT K mg base 2 "_law_signs" ["_law_well_here", "_law_least", "_law_most"] d_signs := Fx.d_signs.elim fun fd F => ⟨fd, w_signs Fx F, F.bindsN fun _ _ _ _ _ _ us hl => match us, hl with | [_, _, _], _ => rfl, Fx.m_signs, F.kp⟩
abbrev N_one : List Str := ["_law_well_here", "_law_things"]
theorem sc_one : FnScope N_one ["_law_well_here", "_law_things"] (defScope s_one) := ⟨rfl, rfl, rfl, by decide +kernel, rfl, by decide +kernel, by decide +kernel⟩
def is_one : IS := (sRet (iOp ixD (iVar 1) (iCall 2 d_draw (iCons (iVar 0) (iCons (iCB lenD (iCons (iVar 1) iNil)) iNil)))))
def d_one : List D → M D := defJ 2 false is_one
theorem w_one {P : Program} {w : World} {K : PySem.W.Frag} {mg : Str → Option Value} {base : Heap} (Fx : FX K mg) {fd : FuncData} (F : df_one.Fun K fd) : FnG P w K mg base 2 (df_one.at_ K) fd ["_law_well_here", "_law_things"] (spJ TT K 2 d_one) := by
  refine fn_j (T := TT) false F sc_one (fun cdv A fr s H E room gd => ?_)
  have hr : Rg 1 (cxOf (L2.CX P w) P w K mg base N_one "_law_one" (defScope s_one) (df_one.at_ K) cdv A fr s H E).A := ⟨room, gd⟩
  have tk : Takes (cxOf (L2.CX P w) P w K mg base N_one "_law_one" (defScope s_one) (df_one.at_ K) cdv A fr s H E) (fun c d _ H => E c d H) := takes_of rfl rfl rfl rfl
  have po : PassesOwn (model P w) (cxOf (L2.CX P w) P w K mg base N_one "_law_one" (defScope s_one) (df_one.at_ K) cdv A fr s H E).A (cxOf (L2.CX P w) P w K mg base N_one "_law_one" (defScope s_one) (df_one.at_ K) cdv A fr s H E).env (cxOf (L2.CX P w) P w K mg base N_one "_law_one" (defScope s_one) (df_one.at_ K) cdv A fr s H E).xe := passes_of rfl
  have S := sc_one
  exact (jss_one (js_ret (je_ix ix_seq ixD_ok (je_var 1) (je_call (g_draw Fx) (hr.mono (by decide)) (by rfl) tk (ja_cons (je_var 0) (ja_cons (je_callB call_len lenD_ok (by rfl) Fx.b_len (by decide +kernel) (ja_cons (je_var 1) ja_nil)) ja_nil))) (fun _ _ => rfl))))
theorem g_one {P : Program} {w : World} {K : PySem.W.Frag} {mg : Str → Option Value} {base : Heap} (Fx : FX K mg) : Good P w TT K mg base 2 "_law_one" ["_law_well_here", "_law_things"] d_one := Fx.d_one.elim fun fd F => ⟨fd, w_one Fx F, F.bindsN fun _ _ _ _ _ _ us hl => match us, hl with | [_, _], _ => rfl, Fx.m_one, F.kp⟩
abbrev N_text : List Str := ["_law_well_here", "_law_signs_here", "_law_size", "_law_few", "_law_k"]
theorem sc_text : FnScope N_text ["_law_well_here", "_law_signs_here", "_law_size"] (defScope s_text) := ⟨rfl, rfl, rfl, by decide +kernel, rfl, by decide +kernel, by decide +kernel⟩
def is_text : IS := (sSeq (sAsg 3 (iVar 1)) (sSeq (sIf (iTst (iOp eqD (iCall 2 d_draw (iCons (iVar 0) (iCons (iC (.int 3)) iNil))) (iC (.int 0)))) (sAsg 3 (iOp addD (iCall 2 d_one (iCons (iVar 0) (iCons (iVar 1) iNil))) (iCall 2 d_one (iCons (iVar 0) (iCons (iVar 1) iNil))))) sNext) (sRet (iBM .s strJoin (iC (.str [])) (iCons (iLc (iRange range1 (iCons (iVar 2) iNil)) (.n 4) iYes (iCall 2 d_one (iCons (iVar 0) (iCons (iVar 3) iNil))) [4]) iNil)))))
def d_text : List D → M D := defJ 5 false is_text
theorem w_text {P : Program} {w : World} {K : PySem.W.Frag} {mg : Str → Option Value} {base : Heap} (Fx : FX K mg) {fd : FuncData} (F : df_text.Fun K fd) : FnG P w K mg base 3 (df_text.at_ K) fd ["_law_well_here", "_law_signs_here", "_law_size"] (spJ TT K 3 d_text) := by
  refine fn_j (T := TT) false F sc_text (fun cdv A fr s H E room gd => ?_)
  have hr : Rg 2 (cxOf (L2.CX P w) P w K mg base N_text "_law_text" (defScope s_text) (df_text.at_ K) cdv A fr s H E).A := ⟨room, gd⟩
  have tk : Takes (cxOf (L2.CX P w) P w K mg base N_text "_law_text" (defScope s_text) (df_text.at_ K) cdv A fr s H E) (fun c d _ H => E c d H) := takes_of rfl rfl rfl rfl
  have po : PassesOwn (model P w) (cxOf (L2.CX P w) P w K mg base N_text "_law_text" (defScope s_text) (df_text.at_ K) cdv A fr s H E).A (cxOf (L2.CX P w) P w K mg base N_text "_law_text" (defScope s_text) (df_text.at_ K) cdv A fr s H E).env (cxOf (L2.CX P w) P w K mg base N_text "_law_text" (defScope s_text) (df_text.at_ K) cdv A fr s H E).xe := passes_of rfl
  have S := sc_text
  exact (jss_cons (js_set (i := 3) S.nd rfl (Or.inr rfl) (je_var 1)) (jss_cons (js_if (jt_cmp (op_eqJ hr) eqD_ok (je_call (g_draw Fx) (hr.mono (by decide)) (by rfl) tk (ja_cons (je_var 0) (ja_cons je_int ja_nil))) je_int (nomark _)) (jss_one (js_set (i := 3) S.nd rfl (Or.inr rfl) (je_op op_addD addD_ok (je_call (g_one Fx) (hr.mono (by decide)) (by rfl) tk (ja_cons (je_var 0) (ja_cons (je_var 1) ja_nil))) (je_call (g_one Fx) (hr.mono (by decide)) (by rfl) tk (ja_cons (je_var 0) (ja_cons (je_var 1) ja_nil)))))) jss_nil) (jss_one (js_ret (je_bm (Ty := .s) PySem.F.plainAttrs_str PySem.F.slot_str_join PySem.F.type_str_join mt_join strJoin_ok (je_str (l := [])) (ja_cons (je_lc (own := [("_law_k", 4)]) (g := (.n 4)) rfl S.nd (ji_range1 (by rfl) Fx.b_range (ja_cons (je_var 2) ja_nil)) (blkOk_by (by kernel_rfl)) (fun _ _ _ _ _ => (jg_name (i := 4) S.nd rfl (Or.inl rfl))) (fun _ _ _ _ _ => jts_nil) (fun _ _ _ _ _ => (je_call (g_one Fx) (hr.mono (by decide)) (by rfl) tk0 (ja_cons (je_var 0) (ja_cons (je_var 3) ja_nil))))) ja_nil))))))
theorem g_text {P : Program} {w : World} {K : PySem.W.Frag} {mg : Str → Option Value} {base : Heap} (Fx : FX K mg) : Good P w TT K mg base 3 "_law_text" ["_law_well_here", "_law_signs_here", "_law_size"] d_text := Fx.d_text.elim fun fd F => ⟨fd, w_text Fx F, F.bindsN fun _ _ _ _ _ _ us hl => match us, hl with | [_, _, _], _ => rfl, Fx.m_text, F.kp⟩
abbrev N_reply : List Str := ["_law_asked", "_law_hidden", "_law_found", "_law_k", "_law_own", "_law_mark", "_law_rank", "_law_free", "_law_j"]
theorem sc_reply : FnScope N_reply ["_law_asked", "_law_hidden"] (defScope s_reply) := ⟨rfl, rfl, rfl, by decide +kernel, rfl, by decide +kernel, by decide +kernel⟩
def is_reply : IS := (sSeq (sAsg 2 (iC (.str []))) (sSeq (sFor (iRange range1 (iCons (iCB lenD (iCons (iVar 0) iNil)) iNil)) (.n 3) (sSeq (sAsgG (.t [4, 5]) (iTup (iCons (iOp ixD (iVar 0) (iVar 3)) (iCons (iC (.str [50])) iNil)))) (sSeq (sIf (iTst (iOp neD (iOp ixD (iVar 1) (iVar 3)) (iVar 4))) (sSeq (sAsg 6 (iCB lenD (iCons (iLc (iRange range1 (iCons (iOp addD (iVar 3) (iC (.int 1))) iNil)) (.n 8) (iTst (iChain eqD neD (iOp ixD (iVar 0) (iVar 8)) (iVar 4) (iOp ixD (iVar 1) (iVar 8)))) (iVar 8) [8]) iNil))) (sSeq (sAsg 7 (iCB lenD (iCons (iLc (iRange range1 (iCons (iCB lenD (iCons (iVar 1) iNil)) iNil)) (.n 8) (iTst (iChain eqD neD (iOp ixD (iVar 1) (iVar 8)) (iVar 4) (iOp ixD (iVar 0) (iVar 8)))) (iVar 8) [8]) iNil))) (sAsg 5 (iIf (iTst (iOp leI (iVar 6) (iVar 7))) (iC (.str [49])) (iC (.str [48])))))) sNext) (sAsg 2 (iOp addD (iVar 2) (iVar 5)))))) (sRet (iVar 2))))
def d_reply : List D → M D := defJ 9 false is_reply
theorem w_reply {P : Program} {w : World} {K : PySem.W.Frag} {mg : Str → Option Value} {base : Heap} (Fx : FX K mg) {fd : FuncData} (F : df_reply.Fun K fd) : FnG P w K mg base 1 (df_reply.at_ K) fd ["_law_asked", "_law_hidden"] (spJ TT K 2 d_reply) := by
  refine fn_j (T := TT) false F sc_reply (fun cdv A fr s H E room gd => ?_)
  have hr : Rg 0 (cxOf (L2.CX P w) P w K mg base N_reply "_law_reply" (defScope s_reply) (df_reply.at_ K) cdv A fr s H E).A := ⟨room, gd⟩
  have tk : Takes (cxOf (L2.CX P w) P w K mg base N_reply "_law_reply" (defScope s_reply) (df_reply.at_ K) cdv A fr s H E) (fun c d _ H => E c d H) := takes_of rfl rfl rfl rfl
  have po : PassesOwn (model P w) (cxOf (L2.CX P w) P w K mg base N_reply "_law_reply" (defScope s_reply) (df_reply.at_ K) cdv A fr s H E).A (cxOf (L2.CX P w) P w K mg base N_reply "_law_reply" (defScope s_reply) (df_reply.at_ K) cdv A fr s H E).env (cxOf (L2.CX P w) P w K mg base N_reply "_law_reply" (defScope s_reply) (df_reply.at_ K) cdv A fr s H E).xe := passes_of rfl
  have S := sc_reply
  exact (jss_cons (js_set (i := 2) S.nd rfl (Or.inl rfl) (je_str (l := []))) (jss_cons (js_for po rfl (ji_range1 (by rfl) Fx.b_range (ja_cons (je_callB call_len lenD_ok (by rfl) Fx.b_len (by decide +kernel) (ja_cons (je_var 0) ja_nil)) ja_nil)) (jg_name (i := 3) S.nd rfl (Or.inl rfl)) (jss_cons (js_asg (je_tup (ja_cons (je_ix ix_seq ixD_ok (je_var 0) (je_var 3) (fun _ _ => rfl)) (ja_cons (je_str (l := [50])) ja_nil))) (jg_tup rfl (jgs_cons (i := 4) S.nd rfl (Or.inr rfl) (jgs_cons (i := 5) S.nd rfl (Or.inl rfl) jgs_nil)))) (jss_cons (js_if (jt_cmp (op_neJ hr) neD_ok (je_ix ix_seq ixD_ok (je_var 1) (je_var 3) (fun _ _ => rfl)) (je_var 4) (nomark _)) (jss_cons (js_set (i := 6) S.nd rfl (Or.inl rfl) (je_callB call_len lenD_ok (by rfl) Fx.b_len (by decide +kernel) (ja_cons (je_lc (own := [("_law_j", 8)]) (g := (.n 8)) rfl S.nd (ji_range1 (by rfl) Fx.b_range (ja_cons (je_op op_addD addD_ok (je_var 3) je_int) ja_nil)) (blkOk_by (by kernel_rfl)) (fun _ _ _ _ _ => (jg_name (i := 8) S.nd rfl (Or.inl rfl))) (fun _ _ _ _ _ => (jts_one (jt_chain (op_eqJ hr) (op_neJ hr) eqD_ok neD_ok (je_ix ix_seq ixD_ok (je_var 0) (je_var 8) (fun _ _ => rfl)) (je_var 4) (je_ix ix_seq ixD_ok (je_var 1) (je_var 8) (fun _ _ => rfl))))) (fun _ _ _ _ _ => (je_var 8))) ja_nil))) (jss_cons (js_set (i := 7) S.nd rfl (Or.inl rfl) (je_callB call_len lenD_ok (by rfl) Fx.b_len (by decide +kernel) (ja_cons (je_lc (own := [("_law_j", 8)]) (g := (.n 8)) rfl S.nd (ji_range1 (by rfl) Fx.b_range (ja_cons (je_callB call_len lenD_ok (by rfl) Fx.b_len (by decide +kernel) (ja_cons (je_var 1) ja_nil)) ja_nil)) (blkOk_by (by kernel_rfl)) (fun _ _ _ _ _ => (jg_name (i := 8) S.nd rfl (Or.inl rfl))) (fun _ _ _ _ _ => (jts_one (jt_chain (op_eqJ hr) (op_neJ hr) eqD_ok neD_ok (je_ix ix_seq ixD_ok (je_var 1) (je_var 8) (fun _ _ => rfl)) (je_var 4) (je_ix ix_seq ixD_ok (je_var 0) (je_var 8) (fun _ _ => rfl))))) (fun _ _ _ _ _ => (je_var 8))) ja_nil))) (jss_one (js_set (i := 5) S.nd rfl (Or.inl rfl) (je_if (jt_cmp op_le leI_ok (je_var 6) (je_var 7) (nomark _)) (je_str (l := [49])) (je_str (l := [48]))))))) jss_nil) (jss_one (js_set (i := 2) S.nd rfl (Or.inl rfl) (je_op op_addD addD_ok (je_var 2) (je_var 5))))))) (jss_one (js_ret (je_var 2)))))
theorem g_reply {P : Program} {w : World} {K : PySem.W.Frag} {mg : Str → Option Value} {base : Heap} (Fx : FX K mg) : Good P w TT K mg base 1 "_law_reply" ["_law_asked", "_law_hidden"] d_reply := Fx.d_reply.elim fun fd F => ⟨fd, w_reply Fx F, F.bindsN fun _ _ _ _ _ _ us hl => match us, hl with | [_, _], _ => rfl, Fx.m_reply, F.kp⟩
abbrev N_due : List Str := ["_law_some", "_law_others", "_law_one_here", "_law_two", "_law_asked"]
theorem sc_due : FnScope N_due ["_law_some", "_law_others", "_law_one_here", "_law_two"] (defScope s_due) := ⟨rfl, rfl, rfl, by decide +kernel, rfl, by decide +kernel, by decide +kernel⟩
def is_due : IS := (sSeq (sIf (iNot (iTst (iCB allD (iCons (iLc (iItems (iVar 0)) (.n 4) iYes (iOp eqD (iCall 2 d_reply (iCons (iVar 4) (iCons (iVar 2) iNil))) (iCall 2 d_reply (iCons (iVar 4) (iCons (iVar 3) iNil)))) [4]) iNil)))) (sRet (iC (.bl false))) sNext) (sRet (iNotV (iTst (iCB allD (iCons (iLc (iItems (iVar 1)) (.n 4) iYes (iOp eqD (iCall 2 d_reply (iCons (iVar 4) (iCons (iVar 2) iNil))) (iCall 2 d_reply (iCons (iVar 4) (iCons (iVar 3) iNil)))) [4]) iNil))))))
def d_due : List D → M D := defJ 5 false is_due
theorem w_due {P : Program} {w : World} {K : PySem.W.Frag} {mg : Str → Option Value} {base : Heap} (Fx : FX K mg) {fd : FuncData} (F : df_due.Fun K fd) : FnG P w K mg base 2 (df_due.at_ K) fd ["_law_some", "_law_others", "_law_one_here", "_law_two"] (spJ TT K 4 d_due) := by
  refine fn_j (T := TT) false F sc_due (fun cdv A fr s H E room gd => ?_)
  have hr : Rg 1 (cxOf (L2.CX P w) P w K mg base N_due "_law_due" (defScope s_due) (df_due.at_ K) cdv A fr s H E).A := ⟨room, gd⟩
  have tk : Takes (cxOf (L2.CX P w) P w K mg base N_due "_law_due" (defScope s_due) (df_due.at_ K) cdv A fr s H E) (fun c d _ H => E c d H) := takes_of rfl rfl rfl rfl
  have po : PassesOwn (model P w) (cxOf (L2.CX P w) P w K mg base N_due "_law_due" (defScope s_due) (df_due.at_ K) cdv A fr s H E).A (cxOf (L2.CX P w) P w K mg base N_due "_law_due" (defScope s_due) (df_due.at_ K) cdv A fr s H E).env (cxOf (L2.CX P w) P w K mg base N_due "_law_due" (defScope s_due) (df_due.at_ K) cdv A fr s H E).xe := passes_of rfl
  have S := sc_due
  exact (jss_cons (js_if (jt_not (jt_val (je_callB (cr_all rfl) allD_ok (by rfl) Fx.b_all (by decide +kernel) (ja_cons (je_lc (own := [("_law_asked", 4)]) (g := (.n 4)) rfl S.nd (ji_items (je_var 0)) (blkOk_by (by kernel_rfl)) (fun _ _ _ _ _ => (jg_name (i := 4) S.nd rfl (Or.inl rfl))) (fun _ _ _ _ _ => jts_nil) (fun _ _ _ _ _ => (je_cmp (op_eqJ hr) eqD_ok (je_call (g_reply Fx) (hr.mono (by decide)) (by rfl) tk0 (ja_cons (je_var 4) (ja_cons (je_var 2) ja_nil))) (je_call (g_reply Fx) (hr.mono (by decide)) (by rfl) tk0 (ja_cons (je_var 4) (ja_cons (je_var 3) ja_nil))) (nomark _)))) ja_nil)))) (jss_one (js_ret je_bl)) jss_nil) (jss_one (js_ret (je_not (je_callB (cr_all rfl) allD_ok (by rfl) Fx.b_all (by decide +kernel) (ja_cons (je_lc (own := [("_law_asked", 4)]) (g := (.n 4)) rfl S.nd (ji_items (je_var 1)) (blkOk_by (by kernel_rfl)) (fun _ _ _ _ _ => (jg_name (i := 4) S.nd rfl (Or.inl rfl))) (fun _ _ _ _ _ => jts_nil) (fun _ _ _ _ _ => (je_cmp (op_eqJ hr) eqD_ok (je_call (g_reply Fx) (hr.mono (by decide)) (by rfl) tk0 (ja_cons (je_var 4) (ja_cons (je_var 2) ja_nil))) (je_call (g_reply Fx) (hr.mono (by decide)) (by rfl) tk0 (ja_cons (je_var 4) (ja_cons (je_var 3) ja_nil))) (nomark _)))) ja_nil))))))
theorem g_due {P : Program} {w : World} {K : PySem.W.Frag} {mg : Str → Option Value} {base : Heap} (Fx : FX K mg) : Good P w TT K mg base 2 "_law_due" ["_law_some", "_law_others", "_law_one_here", "_law_two"] d_due := Fx.d_due.elim fun fd F => ⟨fd, w_due Fx F, F.bindsN fun _ _ _ _ _ _ us hl => match us, hl with | [_, _, _, _], _ => rfl, Fx.m_due, F.kp⟩
abbrev N_are_letters : List Str := ["value", "places", "letter", "one", "two"]
theorem sc_are_letters : FnScope N_are_letters ["value"] (defScope s_are_letters) := ⟨rfl, rfl, rfl, by decide +kernel, rfl, by decide +kernel, by decide +kernel⟩
def is_are_letters : IS := (sSeq (sIf (iOr (iNot (iTst (iCB (isiD CS TB) (iCons (iVar 0) (iCons (iC (.ty "str")) iNil))))) (iNot (iTst (iChain leI leI (iC (.int 2)) (iCB lenD (iCons (iVar 0) iNil)) (iC (.int 26)))))) (sRet (iC (.bl false))) sNext) (sSeq (sAsg 1 (iLc (iItems (iVar 0)) (.n 2) iYes (iBM .s strFind (iC (.str [97, 98, 99, 100, 101, 102, 103, 104, 105, 106, 107, 108, 109, 110, 111, 112, 113, 114, 115, 116, 117, 118, 119, 120, 121, 122])) (iCons (iVar 2) iNil)) [2])) (sRet (iAndV (iOp geI (iOp ixD (iVar 1) (iC (.int 0))) (iC (.int 0))) (iCB allD (iCons (iLc (iZip (iCons (iVar 1) (iCons (iSl slD (iVar 1) (iPart (iC (.int 1))) iNoPart) iNil))) (.t [3, 4]) iYes (iOp ltI (iVar 3) (iVar 4)) [3, 4]) iNil))))))
def d_are_letters : List D → M D := defJ 5 false is_are_letters
theorem w_are_letters {P : Program} {w : World} {K : PySem.W.Frag} {mg : Str → Option Value} {base : Heap} (Fx : FX K mg) {fd : FuncData} (F : df_are_letters.Fun K fd) : FnG P w K mg base 1 (df_are_letters.at_ K) fd ["value"] (spJ TT K 1 d_are_letters) := by
  refine fn_j (T := TT) false F sc_are_letters (fun cdv A fr s H E room gd => ?_)
  have hr : Rg 0 (cxOf (L2.CX P w) P w K mg base N_are_letters "are_letters" (defScope s_are_letters) (df_are_letters.at_ K) cdv A fr s H E).A := ⟨room, gd⟩
  have tk : Takes (cxOf (L2.CX P w) P w K mg base N_are_letters "are_letters" (defScope s_are_letters) (df_are_letters.at_ K) cdv A fr s H E) (fun c d _ H => E c d H) := takes_of rfl rfl rfl rfl
  have po : PassesOwn (model P w) (cxOf (L2.CX P w) P w K mg base N_are_letters "are_letters" (defScope s_are_letters) (df_are_letters.at_ K) cdv A fr s H E).A (cxOf (L2.CX P w) P w K mg base N_are_letters "are_letters" (defScope s_are_letters) (df_are_letters.at_ K) cdv A fr s H E).env (cxOf (L2.CX P w) P w K mg base N_are_letters "are_letters" (defScope s_are_letters) (df_are_letters.at_ K) cdv A fr s H E).xe := passes_of rfl
  have S := sc_are_letters
  exact (jss_cons (js_if (jt_w (jw_or (jt_not (jt_val (je_callB call_isi (isiD_ok Fx.isk) (by rfl) Fx.b_isinstance (by decide +kernel) (ja_cons (je_var 0) (ja_cons (je_ty (n := "str") rfl Fx.b_str (by decide +kernel)) ja_nil))))) (jw_or1 (jt_not (jt_chain op_le op_le leI_ok leI_ok je_int (je_callB call_len lenD_ok (by rfl) Fx.b_len (by decide +kernel) (ja_cons (je_var 0) ja_nil)) (je_gint rfl Fx.c_MOST_LETTERS)))))) (jss_one (js_ret je_bl)) jss_nil) (jss_cons (js_setLc (i := 1) (own := [("letter", 2)]) (g := (.n 2)) rfl S.nd rfl rfl (sw_true rfl rfl rfl (by decide +kernel)) (ji_items (je_var 0)) (blkOk_by (by kernel_rfl)) (fun _ _ _ _ _ => (jg_name (i := 2) S.nd rfl (Or.inl rfl))) (fun _ _ _ _ _ => jts_nil) (fun _ _ _ _ _ => (je_bm (Ty := .s) PySem.F.plainAttrs_str PySem.F.slot_str_find PySem.F.type_str_find mt_find strFind_ok (je_gstr rfl Fx.c_LETTERS) (ja_cons (je_var 2) ja_nil)))) (jss_one (js_ret (je_and (je_cmp op_ge geI_ok (je_ix ix_seq ixD_ok (je_var 1) je_int (fun _ _ => rfl)) je_int (nomark _)) (je_one (je_callB (cr_all rfl) allD_ok (by rfl) Fx.b_all (by decide +kernel) (ja_cons (je_lc (own := [("one", 3), ("two", 4)]) (g := (.t [3, 4])) rfl S.nd (ji_zip (by rfl) Fx.b_zip (ja_cons (je_var 1) (ja_cons (je_slice sl_D slD_ok (je_var 1) (jo_some je_int) jo_none) ja_nil))) (blkOk_by (by kernel_rfl)) (fun _ _ _ _ _ => (jg_tup rfl (jgs_cons (i := 3) S.nd rfl (Or.inl rfl) (jgs_cons (i := 4) S.nd rfl (Or.inl rfl) jgs_nil)))) (fun _ _ _ _ _ => jts_nil) (fun _ _ _ _ _ => (je_cmp op_lt ltI_ok (je_var 3) (je_var 4) (nomark _)))) ja_nil))))))))
theorem g_are_letters {P : Program} {w : World} {K : PySem.W.Frag} {mg : Str → Option Value} {base : Heap} (Fx : FX K mg) : Good P w TT K mg base 1 "are_letters" ["value"] d_are_letters := Fx.d_are_letters.elim fun fd F => ⟨fd, w_are_letters Fx F, F.bindsN fun _ _ _ _ _ _ us hl => match us, hl with | [_], _ => rfl, Fx.m_are_letters, F.kp⟩
abbrev N_is_integer : List Str := ["value"]
theorem sc_is_integer : FnScope N_is_integer ["value"] (defScope s_is_integer) := ⟨rfl, rfl, rfl, by decide +kernel, rfl, by decide +kernel, by decide +kernel⟩
def is_is_integer : IS := (sRet (iAndV (iCB (isiD CS TB) (iCons (iVar 0) (iCons (iC (.ty "int")) iNil))) (iNotV (iTst (iCB (isiD CS TB) (iCons (iVar 0) (iCons (iC (.ty "bool")) iNil)))))))
def d_is_integer : List D → M D := defJ 1 false is_is_integer
theorem w_is_integer {P : Program} {w : World} {K : PySem.W.Frag} {mg : Str → Option Value} {base : Heap} (Fx : FX K mg) {fd : FuncData} (F : df_is_integer.Fun K fd) : FnG P w K mg base 1 (df_is_integer.at_ K) fd ["value"] (spJ TT K 1 d_is_integer) := by
  refine fn_j (T := TT) false F sc_is_integer (fun cdv A fr s H E room gd => ?_)
  have hr : Rg 0 (cxOf (L2.CX P w) P w K mg base N_is_integer "is_integer" (defScope s_is_integer) (df_is_integer.at_ K) cdv A fr s H E).A := ⟨room, gd⟩
  have tk : Takes (cxOf (L2.CX P w) P w K mg base N_is_integer "is_integer" (defScope s_is_integer) (df_is_integer.at_ K) cdv A fr s H E) (fun c d _ H => E c d H) := takes_of rfl rfl rfl rfl
  have po : PassesOwn (model P w) (cxOf (L2.CX P w) P w K mg base N_is_integer "is_integer" (defScope s_is_integer) (df_is_integer.at_ K) cdv A fr s H E).A (cxOf (L2.CX P w) P w K mg base N_is_integer "is_integer" (defScope s_is_integer) (df_is_integer.at_ K) cdv A fr s H E).env (cxOf (L2.CX P w) P w K mg base N_is_integer "is_integer" (defScope s_is_integer) (df_is_integer.at_ K) cdv A fr s H E).xe := passes_of rfl
  have S := sc_is_integer
  exact (jss_one (js_ret (je_and (je_callB call_isi (isiD_ok Fx.isk) (by rfl) Fx.b_isinstance (by decide +kernel) (ja_cons (je_var 0) (ja_cons (je_ty (n := "int") rfl Fx.b_int (by decide +kernel)) ja_nil))) (je_one (je_not (je_callB call_isi (isiD_ok Fx.isk) (by rfl) Fx.b_isinstance (by decide +kernel) (ja_cons (je_var 0) (ja_cons (je_ty (n := "bool") rfl Fx.b_bool (by decide +kernel)) ja_nil))))))))
theorem g_is_integer {P : Program} {w : World} {K : PySem.W.Frag} {mg : Str → Option Value} {base : Heap} (Fx : FX K mg) : Good P w TT K mg base 1 "is_integer" ["value"] d_is_integer := Fx.d_is_integer.elim fun fd F => ⟨fd, w_is_integer Fx F, F.bindsN fun _ _ _ _ _ _ us hl => match us, hl with | [_], _ => rfl, Fx.m_is_integer, F.kp⟩
abbrev N_Board_init : List Str := ["self", "letters", "length"]
theorem sc_Board_init : FnScope N_Board_init ["self", "letters", "length"] (defScope s_Board_init) := ⟨rfl, rfl, rfl, by decide +kernel, rfl, by decide +kernel, by decide +kernel⟩
def is_Board_init : IS := (sSeq (sIf (iNot (iTst (iCall 1 d_are_letters (iCons (iVar 1) iNil)))) sNever sNext) (sSeq (sIf (iOr (iNot (iTst (iCall 1 d_is_integer (iCons (iVar 2) iNil)))) (iNot (iTst (iChain leI leI (iC (.int 1)) (iVar 2) (iC (.int 6)))))) sNever sNext) (sSeq (sSetA TT [0] 0 (iVar 1) (iVar 0)) (sSetA TT [0] 1 (iVar 2) (iVar 0)))))
def d_Board_init : List D → M D := defJ 3 true is_Board_init
theorem w_Board_init {P : Program} {w : World} {K : PySem.W.Frag} {mg : Str → Option Value} {base : Heap} (Fx : FX K mg) {fd : FuncData} (F : df_Board_init.Fun K fd) : FnG P w K mg base 2 (df_Board_init.at_ K) fd ["self", "letters", "length"] (spJ TT K 3 d_Board_init) := by
  refine fn_j (T := TT) true F sc_Board_init (fun cdv A fr s H E room gd => ?_)
  have hr : Rg 1 (cxOf (L2.CX P w) P w K mg base N_Board_init "Board.__init__" (defScope s_Board_init) (df_Board_init.at_ K) cdv A fr s H E).A := ⟨room, gd⟩
  have tk : Takes (cxOf (L2.CX P w) P w K mg base N_Board_init "Board.__init__" (defScope s_Board_init) (df_Board_init.at_ K) cdv A fr s H E) (fun c d _ H => E c d H) := takes_of rfl rfl rfl rfl
  have po : PassesOwn (model P w) (cxOf (L2.CX P w) P w K mg base N_Board_init "Board.__init__" (defScope s_Board_init) (df_Board_init.at_ K) cdv A fr s H E).A (cxOf (L2.CX P w) P w K mg base N_Board_init "Board.__init__" (defScope s_Board_init) (df_Board_init.at_ K) cdv A fr s H E).env (cxOf (L2.CX P w) P w K mg base N_Board_init "Board.__init__" (defScope s_Board_init) (df_Board_init.at_ K) cdv A fr s H E).xe := passes_of rfl
  have S := sc_Board_init
  exact (jss_cons (js_if (jt_not (jt_val (je_call (g_are_letters Fx) (hr.mono (by decide)) (by rfl) tk (ja_cons (je_var 1) ja_nil)))) (jss_one js_never) jss_nil) (jss_cons (js_if (jt_w (jw_or (jt_not (jt_val (je_call (g_is_integer Fx) (hr.mono (by decide)) (by rfl) tk (ja_cons (je_var 2) ja_nil)))) (jw_or1 (jt_not (jt_chain op_le op_le leI_ok leI_ok je_int (je_var 2) (je_gint rfl Fx.c_MOST_LENGTH)))))) (jss_one js_never) jss_nil) (jss_cons (js_setA (cs := [0]) (f := 0) (je_var 0) (je_var 1) Fx.f_letters (by rfl)) (jss_one (js_setA (cs := [0]) (f := 1) (je_var 0) (je_var 2) Fx.f_length (by rfl))))))
theorem g_Board_init {P : Program} {w : World} {K : PySem.W.Frag} {mg : Str → Option Value} {base : Heap} (Fx : FX K mg) : GoodI P w TT K mg base 2 0 ["self", "letters", "length"] d_Board_init := Fx.d_Board_init.elim fun fd F => ⟨_, fd, w_Board_init Fx F, F.bindsN fun _ _ _ _ _ _ us hl => match us, hl with | [_, _, _], _ => rfl, Fx.m_Board_init, Fx.k_Board⟩
abbrev N_board_of : List Str := ["letters", "length"]
theorem sc_board_of : FnScope N_board_of ["letters", "length"] (defScope s_board_of) := ⟨rfl, rfl, rfl, by decide +kernel, rfl, by decide +kernel, by decide +kernel⟩
def is_board_of : IS := (sSeq (sIf (iOr (iNot (iTst (iCall 1 d_are_letters (iCons (iVar 0) iNil)))) (iOr (iNot (iTst (iCall 1 d_is_integer (iCons (iVar 1) iNil)))) (iNot (iTst (iChain leI leI (iC (.int 1)) (iVar 1) (iC (.int 6))))))) (sRet (iC .non)) sNext) (sRet (iMake TT true 0 3 d_Board_init (iCons (iVar 0) (iCons (iVar 1) iNil)))))
def d_board_of : List D → M D := defJ 2 false is_board_of
theorem w_board_of {P : Program} {w : World} {K : PySem.W.Frag} {mg : Str → Option Value} {base : Heap} (Fx : FX K mg) {fd : FuncData} (F : df_board_of.Fun K fd) : FnG P w K mg base 4 (df_board_of.at_ K) fd ["letters", "length"] (spJ TT K 2 d_board_of) := by
  refine fn_j (T := TT) false F sc_board_of (fun cdv A fr s H E room gd => ?_)
  have hr : Rg 3 (cxOf (L2.CX P w) P w K mg base N_board_of "board_of" (defScope s_board_of) (df_board_of.at_ K) cdv A fr s H E).A := ⟨room, gd⟩
  have tk : Takes (cxOf (L2.CX P w) P w K mg base N_board_of "board_of" (defScope s_board_of) (df_board_of.at_ K) cdv A fr s H E) (fun c d _ H => E c d H) := takes_of rfl rfl rfl rfl
  have po : PassesOwn (model P w) (cxOf (L2.CX P w) P w K mg base N_board_of "board_of" (defScope s_board_of) (df_board_of.at_ K) cdv A fr s H E).A (cxOf (L2.CX P w) P w K mg base N_board_of "board_of" (defScope s_board_of) (df_board_of.at_ K) cdv A fr s H E).env (cxOf (L2.CX P w) P w K mg base N_board_of "board_of" (defScope s_board_of) (df_board_of.at_ K) cdv A fr s H E).xe := passes_of rfl
  have S := sc_board_of
  exact (jss_cons (js_if (jt_w (jw_or (jt_not (jt_val (je_call (g_are_letters Fx) (hr.mono (by decide)) (by rfl) tk (ja_cons (je_var 0) ja_nil)))) (jw_or (jt_not (jt_val (je_call (g_is_integer Fx) (hr.mono (by decide)) (by rfl) tk (ja_cons (je_var 1) ja_nil)))) (jw_or1 (jt_not (jt_chain op_le op_le leI_ok leI_ok je_int (je_var 1) (je_gint rfl Fx.c_MOST_LENGTH))))))) (jss_one (js_ret je_non)) jss_nil) (jss_one (js_ret (je_make (g_Board_init Fx) true (hr.mono (by decide)) (by rfl) (by rfl) tk (ja_cons (je_var 0) (ja_cons (je_var 1) ja_nil))))))
theorem g_board_of {P : Program} {w : World} {K : PySem.W.Frag} {mg : Str → Option Value} {base : Heap} (Fx : FX K mg) : Good P w TT K mg base 4 "board_of" ["letters", "length"] d_board_of := Fx.d_board_of.elim fun fd F => ⟨fd, w_board_of Fx F, F.bindsN fun _ _ _ _ _ _ us hl => match us, hl with | [_, _], _ => rfl, Fx.m_board_of, F.kp⟩
abbrev N_is_word : List Str := ["board", "value", "letter"]
theorem sc_is_word : FnScope N_is_word ["board", "value"] (defScope s_is_word) := ⟨rfl, rfl, rfl, by decide +kernel, rfl, by decide +kernel, by decide +kernel⟩
def is_is_word : IS := (sSeq (sIf (iOr (iNot (iTst (iCB (isiD CS TB) (iCons (iVar 1) (iCons (iC (.ty "str")) iNil))))) (iTst (iOp neD (iCB lenD (iCons (iVar 1) iNil)) (iFld TT [0] 1 (iVar 0))))) (sRet (iC (.bl false))) sNext) (sRet (iCB allD (iCons (iLc (iItems (iVar 1)) (.n 2) iYes (iOp inD (iVar 2) (iFld TT [0] 0 (iVar 0))) [2]) iNil))))
def d_is_word : List D → M D := defJ 3 false is_is_word
theorem w_is_word {P : Program} {w : World} {K : PySem.W.Frag} {mg : Str → Option Value} {base : Heap} (Fx : FX K mg) {fd : FuncData} (F : df_is_word.Fun K fd) : FnG P w K mg base 1 (df_is_word.at_ K) fd ["board", "value"] (spJ TT K 2 d_is_word) := by
  refine fn_j (T := TT) false F sc_is_word (fun cdv A fr s H E room gd => ?_)
  have hr : Rg 0 (cxOf (L2.CX P w) P w K mg base N_is_word "is_word" (defScope s_is_word) (df_is_word.at_ K) cdv A fr s H E).A := ⟨room, gd⟩
  have tk : Takes (cxOf (L2.CX P w) P w K mg base N_is_word "is_word" (defScope s_is_word) (df_is_word.at_ K) cdv A fr s H E) (fun c d _ H => E c d H) := takes_of rfl rfl rfl rfl
  have po : PassesOwn (model P w) (cxOf (L2.CX P w) P w K mg base N_is_word "is_word" (defScope s_is_word) (df_is_word.at_ K) cdv A fr s H E).A (cxOf (L2.CX P w) P w K mg base N_is_word "is_word" (defScope s_is_word) (df_is_word.at_ K) cdv A fr s H E).env (cxOf (L2.CX P w) P w K mg base N_is_word "is_word" (defScope s_is_word) (df_is_word.at_ K) cdv A fr s H E).xe := passes_of rfl
  have S := sc_is_word
  exact (jss_cons (js_if (jt_w (jw_or (jt_not (jt_val (je_callB call_isi (isiD_ok Fx.isk) (by rfl) Fx.b_isinstance (by decide +kernel) (ja_cons (je_var 1) (ja_cons (je_ty (n := "str") rfl Fx.b_str (by decide +kernel)) ja_nil))))) (jw_or1 (jt_cmp (op_neJ hr) neD_ok (je_callB call_len lenD_ok (by rfl) Fx.b_len (by decide +kernel) (ja_cons (je_var 1) ja_nil)) (je_fld (cs := [0]) (f := 1) (je_var 0) Fx.f_length (by rfl)) (nomark _))))) (jss_one (js_ret je_bl)) jss_nil) (jss_one (js_ret (je_callB (cr_all rfl) allD_ok (by rfl) Fx.b_all (by decide +kernel) (ja_cons (je_lc (own := [("letter", 2)]) (g := (.n 2)) rfl S.nd (ji_items (je_var 1)) (blkOk_by (by kernel_rfl)) (fun _ _ _ _ _ => (jg_name (i := 2) S.nd rfl (Or.inl rfl))) (fun _ _ _ _ _ => jts_nil) (fun _ _ _ _ _ => (je_cmp op_inD inD_ok (je_var 2) (je_fld (cs := [0]) (f := 0) (je_var 0) Fx.f_letters (by rfl)) (by rfl)))) ja_nil)))))
theorem g_is_word {P : Program} {w : World} {K : PySem.W.Frag} {mg : Str → Option Value} {base : Heap} (Fx : FX K mg) : Good P w TT K mg base 1 "is_word" ["board", "value"] d_is_word := Fx.d_is_word.elim fun fd F => ⟨fd, w_is_word Fx F, F.bindsN fun _ _ _ _ _ _ us hl => match us, hl with | [_, _], _ => rfl, Fx.m_is_word, F.kp⟩
abbrev N_check_guesses : List Str := ["board", "guesses", "index", "guess"]
theorem sc_check_guesses : FnScope N_check_guesses ["board", "guesses"] (defScope s_check_guesses) := ⟨rfl, rfl, rfl, by decide +kernel, rfl, by decide +kernel, by decide +kernel⟩
def is_check_guesses : IS := (sSeq (sIf (iOr (iNot (iTst (iCB (isiD CS TB) (iCons (iVar 1) (iCons (iC (.ty "tuple")) iNil))))) (iTst (iOp gtI (iCB lenD (iCons (iVar 1) iNil)) (iC (.int 20))))) sNever sNext) (sFor (iEnumD (iCons (iVar 1) iNil)) (.t [2, 3]) (sIf (iNot (iTst (iCall 2 d_is_word (iCons (iVar 0) (iCons (iVar 3) iNil))))) sNever sNext)))
def d_check_guesses : List D → M D := defJ 4 false is_check_guesses
theorem w_check_guesses {P : Program} {w : World} {K : PySem.W.Frag} {mg : Str → Option Value} {base : Heap} (Fx : FX K mg) {fd : FuncData} (F : df_check_guesses.Fun K fd) : FnG P w K mg base 2 (df_check_guesses.at_ K) fd ["board", "guesses"] (spJ TT K 2 d_check_guesses) := by
  refine fn_j (T := TT) false F sc_check_guesses (fun cdv A fr s H E room gd => ?_)
  have hr : Rg 1 (cxOf (L2.CX P w) P w K mg base N_check_guesses "check_guesses" (defScope s_check_guesses) (df_check_guesses.at_ K) cdv A fr s H E).A := ⟨room, gd⟩
  have tk : Takes (cxOf (L2.CX P w) P w K mg base N_check_guesses "check_guesses" (defScope s_check_guesses) (df_check_guesses.at_ K) cdv A fr s H E) (fun c d _ H => E c d H) := takes_of rfl rfl rfl rfl
  have po : PassesOwn (model P w) (cxOf (L2.CX P w) P w K mg base N_check_guesses "check_guesses" (defScope s_check_guesses) (df_check_guesses.at_ K) cdv A fr s H E).A (cxOf (L2.CX P w) P w K mg base N_check_guesses "check_guesses" (defScope s_check_guesses) (df_check_guesses.at_ K) cdv A fr s H E).env (cxOf (L2.CX P w) P w K mg base N_check_guesses "check_guesses" (defScope s_check_guesses) (df_check_guesses.at_ K) cdv A fr s H E).xe := passes_of rfl
  have S := sc_check_guesses
  exact (jss_cons (js_if (jt_w (jw_or (jt_not (jt_val (je_callB call_isi (isiD_ok Fx.isk) (by rfl) Fx.b_isinstance (by decide +kernel) (ja_cons (je_var 1) (ja_cons (je_ty (n := "tuple") rfl Fx.b_tuple (by decide +kernel)) ja_nil))))) (jw_or1 (jt_cmp op_gt gtI_ok (je_callB call_len lenD_ok (by rfl) Fx.b_len (by decide +kernel) (ja_cons (je_var 1) ja_nil)) (je_gint rfl Fx.c_MOST_GUESSES) (nomark _))))) (jss_one js_never) jss_nil) (jss_one (js_for po rfl (ji_enum (by rfl) Fx.b_enumerate (ja_cons (je_var 1) ja_nil)) (jg_tup rfl (jgs_cons (i := 2) S.nd rfl (Or.inl rfl) (jgs_cons (i := 3) S.nd rfl (Or.inl rfl) jgs_nil))) (jss_one (js_if (jt_not (jt_val (je_call (g_is_word Fx) (hr.mono (by decide)) (by rfl) tk (ja_cons (je_var 0) (ja_cons (je_var 3) ja_nil))))) (jss_one js_never) jss_nil)))))
theorem g_check_guesses {P : Program} {w : World} {K : PySem.W.Frag} {mg : Str → Option Value} {base : Heap} (Fx : FX K mg) : Good P w TT K mg base 2 "check_guesses" ["board", "guesses"] d_check_guesses := Fx.d_check_guesses.elim fun fd F => ⟨fd, w_check_guesses Fx F, F.bindsN fun _ _ _ _ _ _ us hl => match us, hl with | [_, _], _ => rfl, Fx.m_check_guesses, F.kp⟩
abbrev N_are_guesses : List Str := ["board", "value"]
theorem sc_are_guesses : FnScope N_are_guesses ["board", "value"] (defScope s_are_guesses) := ⟨rfl, rfl, rfl, by decide +kernel, rfl, by decide +kernel, by decide +kernel⟩
def is_are_guesses : IS := (sSeq (sThru (sExpr (iCall 2 d_check_guesses (iCons (iVar 0) (iCons (iVar 1) iNil))))) (sRet (iC (.bl true))))
def d_are_guesses : List D → M D := defJ 2 false is_are_guesses
theorem w_are_guesses {P : Program} {w : World} {K : PySem.W.Frag} {mg : Str → Option Value} {base : Heap} (Fx : FX K mg) {fd : FuncData} (F : df_are_guesses.Fun K fd) : FnG P w K mg base 3 (df_are_guesses.at_ K) fd ["board", "value"] (spJ TT K 2 d_are_guesses) := by
  refine fn_j (T := TT) false F sc_are_guesses (fun cdv A fr s H E room gd => ?_)
  have hr : Rg 2 (cxOf (L2.CX P w) P w K mg base N_are_guesses "are_guesses" (defScope s_are_guesses) (df_are_guesses.at_ K) cdv A fr s H E).A := ⟨room, gd⟩
  have tk : Takes (cxOf (L2.CX P w) P w K mg base N_are_guesses "are_guesses" (defScope s_are_guesses) (df_are_guesses.at_ K) cdv A fr s H E) (fun c d _ H => E c d H) := takes_of rfl rfl rfl rfl
  have po : PassesOwn (model P w) (cxOf (L2.CX P w) P w K mg base N_are_guesses "are_guesses" (defScope s_are_guesses) (df_are_guesses.at_ K) cdv A fr s H E).A (cxOf (L2.CX P w) P w K mg base N_are_guesses "are_guesses" (defScope s_are_guesses) (df_are_guesses.at_ K) cdv A fr s H E).env (cxOf (L2.CX P w) P w K mg base N_are_guesses "are_guesses" (defScope s_are_guesses) (df_are_guesses.at_ K) cdv A fr s H E).xe := passes_of rfl
  have S := sc_are_guesses
  exact (jss_cons (js_thru (jss_one (js_expr (je_call (g_check_guesses Fx) (hr.mono (by decide)) (by rfl) tk_nox (ja_cons (je_var 0) (ja_cons (je_var 1) ja_nil)))))) (jss_one (js_ret je_bl)))
theorem g_are_guesses {P : Program} {w : World} {K : PySem.W.Frag} {mg : Str → Option Value} {base : Heap} (Fx : FX K mg) : Good P w TT K mg base 3 "are_guesses" ["board", "value"] d_are_guesses := Fx.d_are_guesses.elim fun fd F => ⟨fd, w_are_guesses Fx F, F.bindsN fun _ _ _ _ _ _ us hl => match us, hl with | [_, _], _ => rfl, Fx.m_are_guesses, F.kp⟩
abbrev N_marks_of : List Str := ["guess", "word", "left", "found", "one", "other", "letter"]
theorem sc_marks_of : FnScope N_marks_of ["guess", "word"] (defScope s_marks_of) := ⟨rfl, rfl, rfl, by decide +kernel, rfl, by decide +kernel, by decide +kernel⟩
def is_marks_of : IS := (sSeq (sAsg 2 (iDc (iItems (iVar 0)) (.n 6) iYes (iVar 6) (iBM .s strCount (iVar 1) (iCons (iVar 6) iNil)) [6])) (sSeq (sFor (iZipA (iCons (iVar 0) (iCons (iVar 1) iNil))) (.t [4, 5]) (sIf (iTst (iOp eqD (iVar 4) (iVar 5))) (sDAugD subI (iVar 2) (iVar 4) (iC (.int 1))) sNext)) (sSeq (sAsg 3 (iLstM iNil)) (sSeq (sFor (iZipA (iCons (iVar 0) (iCons (iVar 1) iNil))) (.t [4, 5]) (sIf (iTst (iOp eqD (iVar 4) (iVar 5))) (sExpr (iBM .l lstApp (iVar 3) (iCons (iC (.str [50])) iNil))) (sIf (iTst (iOp gtI (iOp dgetD (iVar 2) (iVar 4)) (iC (.int 0)))) (sSeq (sDAugD subI (iVar 2) (iVar 4) (iC (.int 1))) (sExpr (iBM .l lstApp (iVar 3) (iCons (iC (.str [49])) iNil)))) (sExpr (iBM .l lstApp (iVar 3) (iCons (iC (.str [48])) iNil)))))) (sSeq (sFrz 3) (sSeq (sFrz 2) (sRet (iBM .s strJoin (iC (.str [])) (iCons (iVar 3) iNil)))))))))
def d_marks_of : List D → M D := defJ 7 false is_marks_of
theorem w_marks_of {P : Program} {w : World} {K : PySem.W.Frag} {mg : Str → Option Value} {base : Heap} (Fx : FX K mg) {fd : FuncData} (F : df_marks_of.Fun K fd) : FnG P w K mg base 1 (df_marks_of.at_ K) fd ["guess", "word"] (spJ TT K 2 d_marks_of) := by
  refine fn_j (T := TT) false F sc_marks_of (fun cdv A fr s H E room gd => ?_)
  have hr : Rg 0 (cxOf (L2.CX P w) P w K mg base N_marks_of "marks_of" (defScope s_marks_of) (df_marks_of.at_ K) cdv A fr s H E).A := ⟨room, gd⟩
  have tk : Takes (cxOf (L2.CX P w) P w K mg base N_marks_of "marks_of" (defScope s_marks_of) (df_marks_of.at_ K) cdv A fr s H E) (fun c d _ H => E c d H) := takes_of rfl rfl rfl rfl
  have po : PassesOwn (model P w) (cxOf (L2.CX P w) P w K mg base N_marks_of "marks_of" (defScope s_marks_of) (df_marks_of.at_ K) cdv A fr s H E).A (cxOf (L2.CX P w) P w K mg base N_marks_of "marks_of" (defScope s_marks_of) (df_marks_of.at_ K) cdv A fr s H E).env (cxOf (L2.CX P w) P w K mg base N_marks_of "marks_of" (defScope s_marks_of) (df_marks_of.at_ K) cdv A fr s H E).xe := passes_of rfl
  have S := sc_marks_of
  exact (jss_cons (js_setDc (i := 2) (own := [("letter", 6)]) (g := (.n 6)) rfl S.nd rfl rfl (sw_trueD rfl rfl rfl (by decide +kernel)) (ji_items (je_var 0)) (blkOk_by (by kernel_rfl)) (fun _ _ _ _ _ => (jg_name (i := 6) S.nd rfl (Or.inl rfl))) (fun _ _ _ _ _ => jts_nil) (fun _ _ _ _ _ => (je_var 6)) (fun _ _ _ _ _ => (je_bm (Ty := .s) PySem.F.plainAttrs_str PySem.F.slot_str_count PySem.F.type_str_count mt_count strCount_ok (je_var 1) (ja_cons (je_var 6) ja_nil)))) (jss_cons (js_for po rfl (ji_zipA (by rfl) Fx.b_zip (ja_cons (je_var 0) (ja_cons (je_var 1) ja_nil))) (jg_tup rfl (jgs_cons (i := 4) S.nd rfl (Or.inl rfl) (jgs_cons (i := 5) S.nd rfl (Or.inl rfl) jgs_nil))) (jss_one (js_if (jt_cmp (op_eqJ hr) eqD_ok (je_var 4) (je_var 5) (nomark _)) (jss_one (js_daug hr (je_var 2) (je_var 4) je_int in_sub sub_rd)) jss_nil))) (jss_cons (js_set (i := 3) S.nd rfl (Or.inl rfl) (je_lstM ja_nil)) (jss_cons (js_for po rfl (ji_zipA (by rfl) Fx.b_zip (ja_cons (je_var 0) (ja_cons (je_var 1) ja_nil))) (jg_tup rfl (jgs_cons (i := 4) S.nd rfl (Or.inl rfl) (jgs_cons (i := 5) S.nd rfl (Or.inl rfl) jgs_nil))) (jss_one (js_if (jt_cmp (op_eqJ hr) eqD_ok (je_var 4) (je_var 5) (nomark _)) (jss_one (js_expr (je_bm (Ty := .l) PySem.F.plainAttrs_list PySem.F.slot_list_append PySem.F.type_list_append mt_append lstApp_ok (je_var 3) (ja_cons (je_gstr rfl Fx.c_HIT) ja_nil)))) (jss_one (js_if (jt_cmp op_gt gtI_ok (je_dget hr (je_var 2) (je_var 4)) je_int (nomark _)) (jss_cons (js_daug hr (je_var 2) (je_var 4) je_int in_sub sub_rd) (jss_one (js_expr (je_bm (Ty := .l) PySem.F.plainAttrs_list PySem.F.slot_list_append PySem.F.type_list_append mt_append lstApp_ok (je_var 3) (ja_cons (je_gstr rfl Fx.c_NEAR) ja_nil))))) (jss_one (js_expr (je_bm (Ty := .l) PySem.F.plainAttrs_list PySem.F.slot_list_append PySem.F.type_list_append mt_append lstApp_ok (je_var 3) (ja_cons (je_gstr rfl Fx.c_MISS) ja_nil))))))))) (jss_frz (jss_frz (jss_one (js_ret (je_bm (Ty := .s) PySem.F.plainAttrs_str PySem.F.slot_str_join PySem.F.type_str_join mt_join strJoin_ok (je_str (l := [])) (ja_cons (je_var 3) ja_nil))))))))))
theorem g_marks_of {P : Program} {w : World} {K : PySem.W.Frag} {mg : Str → Option Value} {base : Heap} (Fx : FX K mg) : Good P w TT K mg base 1 "marks_of" ["guess", "word"] d_marks_of := Fx.d_marks_of.elim fun fd F => ⟨fd, w_marks_of Fx F, F.bindsN fun _ _ _ _ _ _ us hl => match us, hl with | [_, _], _ => rfl, Fx.m_marks_of, F.kp⟩
abbrev N_shows_parts : List Str := ["board", "guesses", "others", "paper", "guess", "word"]
theorem sc_shows_parts : FnScope N_shows_parts ["board", "guesses", "others", "paper"] (defScope s_shows_parts) := ⟨rfl, rfl, rfl, by decide +kernel, rfl, by decide +kernel, by decide +kernel⟩
def is_shows_parts : IS := (sSeq (sIf (iOr (iNot (iTst (iCB (isiD CS TB) (iCons (iVar 3) (iCons (iC (.ty "tuple")) iNil))))) (iOr (iTst (iOp neD (iCB lenD (iCons (iVar 3) iNil)) (iC (.int 2)))) (iNot (iTst (iCB allD (iCons (iLc (iItems (iVar 3)) (.n 5) iYes (iCall 2 d_is_word (iCons (iVar 0) (iCons (iVar 5) iNil))) [5]) iNil)))))) (sRet (iC (.bl false))) sNext) (sSeq (sIf (iTst (iCB anyD (iCons (iLc (iItems (iVar 1)) (.n 4) iYes (iOp neD (iCall 2 d_marks_of (iCons (iVar 4) (iCons (iOp ixD (iVar 3) (iC (.int 0))) iNil))) (iCall 2 d_marks_of (iCons (iVar 4) (iCons (iOp ixD (iVar 3) (iC (.int 1))) iNil)))) [4]) iNil))) (sRet (iC (.bl false))) sNext) (sRet (iCB anyD (iCons (iLc (iItems (iVar 2)) (.n 4) iYes (iOp neD (iCall 2 d_marks_of (iCons (iVar 4) (iCons (iOp ixD (iVar 3) (iC (.int 0))) iNil))) (iCall 2 d_marks_of (iCons (iVar 4) (iCons (iOp ixD (iVar 3) (iC (.int 1))) iNil)))) [4]) iNil)))))
def d_shows_parts : List D → M D := defJ 6 false is_shows_parts
theorem w_shows_parts {P : Program} {w : World} {K : PySem.W.Frag} {mg : Str → Option Value} {base : Heap} (Fx : FX K mg) {fd : FuncData} (F : df_shows_parts.Fun K fd) : FnG P w K mg base 2 (df_shows_parts.at_ K) fd ["board", "guesses", "others", "paper"] (spJ TT K 4 d_shows_parts) := by
  refine fn_j (T := TT) false F sc_shows_parts (fun cdv A fr s H E room gd => ?_)
  have hr : Rg 1 (cxOf (L2.CX P w) P w K mg base N_shows_parts "shows_parts" (defScope s_shows_parts) (df_shows_parts.at_ K) cdv A fr s H E).A := ⟨room, gd⟩
  have tk : Takes (cxOf (L2.CX P w) P w K mg base N_shows_parts "shows_parts" (defScope s_shows_parts) (df_shows_parts.at_ K) cdv A fr s H E) (fun c d _ H => E c d H) := takes_of rfl rfl rfl rfl
  have po : PassesOwn (model P w) (cxOf (L2.CX P w) P w K mg base N_shows_parts "shows_parts" (defScope s_shows_parts) (df_shows_parts.at_ K) cdv A fr s H E).A (cxOf (L2.CX P w) P w K mg base N_shows_parts "shows_parts" (defScope s_shows_parts) (df_shows_parts.at_ K) cdv A fr s H E).env (cxOf (L2.CX P w) P w K mg base N_shows_parts "shows_parts" (defScope s_shows_parts) (df_shows_parts.at_ K) cdv A fr s H E).xe := passes_of rfl
  have S := sc_shows_parts
  exact (jss_cons (js_if (jt_w (jw_or (jt_not (jt_val (je_callB call_isi (isiD_ok Fx.isk) (by rfl) Fx.b_isinstance (by decide +kernel) (ja_cons (je_var 3) (ja_cons (je_ty (n := "tuple") rfl Fx.b_tuple (by decide +kernel)) ja_nil))))) (jw_or (jt_cmp (op_neJ hr) neD_ok (je_callB call_len lenD_ok (by rfl) Fx.b_len (by decide +kernel) (ja_cons (je_var 3) ja_nil)) je_int (nomark _)) (jw_or1 (jt_not (jt_val (je_callB (cr_all rfl) allD_ok (by rfl) Fx.b_all (by decide +kernel) (ja_cons (je_lc (own := [("word", 5)]) (g := (.n 5)) rfl S.nd (ji_items (je_var 3)) (blkOk_by (by kernel_rfl)) (fun _ _ _ _ _ => (jg_name (i := 5) S.nd rfl (Or.inl rfl))) (fun _ _ _ _ _ => jts_nil) (fun _ _ _ _ _ => (je_call (g_is_word Fx) (hr.mono (by decide)) (by rfl) tk0 (ja_cons (je_var 0) (ja_cons (je_var 5) ja_nil))))) ja_nil)))))))) (jss_one (js_ret je_bl)) jss_nil) (jss_cons (js_if (jt_val (je_callB (cr_any rfl) anyD_ok (by rfl) Fx.b_any (by decide +kernel) (ja_cons (je_lc (own := [("guess", 4)]) (g := (.n 4)) rfl S.nd (ji_items (je_var 1)) (blkOk_by (by kernel_rfl)) (fun _ _ _ _ _ => (jg_name (i := 4) S.nd rfl (Or.inl rfl))) (fun _ _ _ _ _ => jts_nil) (fun _ _ _ _ _ => (je_cmp (op_neJ hr) neD_ok (je_call (g_marks_of Fx) (hr.mono (by decide)) (by rfl) tk0 (ja_cons (je_var 4) (ja_cons (je_ix ix_seq ixD_ok (je_var 3) je_int (fun _ _ => rfl)) ja_nil))) (je_call (g_marks_of Fx) (hr.mono (by decide)) (by rfl) tk0 (ja_cons (je_var 4) (ja_cons (je_ix ix_seq ixD_ok (je_var 3) je_int (fun _ _ => rfl)) ja_nil))) (nomark _)))) ja_nil))) (jss_one (js_ret je_bl)) jss_nil) (jss_one (js_ret (je_callB (cr_any rfl) anyD_ok (by rfl) Fx.b_any (by decide +kernel) (ja_cons (je_lc (own := [("guess", 4)]) (g := (.n 4)) rfl S.nd (ji_items (je_var 2)) (blkOk_by (by kernel_rfl)) (fun _ _ _ _ _ => (jg_name (i := 4) S.nd rfl (Or.inl rfl))) (fun _ _ _ _ _ => jts_nil) (fun _ _ _ _ _ => (je_cmp (op_neJ hr) neD_ok (je_call (g_marks_of Fx) (hr.mono (by decide)) (by rfl) tk0 (ja_cons (je_var 4) (ja_cons (je_ix ix_seq ixD_ok (je_var 3) je_int (fun _ _ => rfl)) ja_nil))) (je_call (g_marks_of Fx) (hr.mono (by decide)) (by rfl) tk0 (ja_cons (je_var 4) (ja_cons (je_ix ix_seq ixD_ok (je_var 3) je_int (fun _ _ => rfl)) ja_nil))) (nomark _)))) ja_nil))))))
theorem g_shows_parts {P : Program} {w : World} {K : PySem.W.Frag} {mg : Str → Option Value} {base : Heap} (Fx : FX K mg) : Good P w TT K mg base 2 "shows_parts" ["board", "guesses", "others", "paper"] d_shows_parts := Fx.d_shows_parts.elim fun fd F => ⟨fd, w_shows_parts Fx F, F.bindsN fun _ _ _ _ _ _ us hl => match us, hl with | [_, _, _, _], _ => rfl, Fx.m_shows_parts, F.kp⟩
abbrev N_holds : List Str := ["claim", "paper", "board", "fair"]
theorem sc_holds : FnScope N_holds ["claim", "paper"] (defScope s_holds) := ⟨rfl, rfl, rfl, by decide +kernel, rfl, by decide +kernel, by decide +kernel⟩
def is_holds : IS := (sSeq (sIf (iOr (iNot (iTst (iCB (isiD CS TB) (iCons (iVar 0) (iCons (iC (.ty "tuple")) iNil))))) (iOr (iTst (iOp neD (iCB lenD (iCons (iVar 0) iNil)) (iC (.int 5)))) (iNot (iTst (iCB (isiD CS TB) (iCons (iOp ixD (iVar 0) (iC (.int 0))) (iCons (iC (.ty "str")) iNil))))))) (sRet (iC (.bl false))) sNext) (sSeq (sAsg 2 (iCall 2 d_board_of (iCons (iOp ixD (iVar 0) (iC (.int 1))) (iCons (iOp ixD (iVar 0) (iC (.int 2))) iNil)))) (sSeq (sIf (iTst (iOp isN (iVar 2) (iC .non))) (sRet (iC (.bl false))) sNext) (sSeq (sIf (iTst (iOp eqD (iOp ixD (iVar 0) (iC (.int 0))) (iC (.str [112, 97, 114, 116, 115])))) (sSeq (sAsg 3 (iAndV (iCall 2 d_are_guesses (iCons (iVar 2) (iCons (iOp ixD (iVar 0) (iC (.int 3))) iNil))) (iCall 2 d_are_guesses (iCons (iVar 2) (iCons (iOp ixD (iVar 0) (iC (.int 4))) iNil))))) (sRet (iAndV (iVar 3) (iCall 4 d_shows_parts (iCons (iVar 2) (iCons (iOp ixD (iVar 0) (iC (.int 3))) (iCons (iOp ixD (iVar 0) (iC (.int 4))) (iCons (iVar 1) iNil)))))))) sNext) (sSeq sNever (sSeq sNever sNever))))))
def d_holds : List D → M D := defJ 4 false is_holds
theorem w_holds {P : Program} {w : World} {K : PySem.W.Frag} {mg : Str → Option Value} {base : Heap} (Fx : FX K mg) {fd : FuncData} (F : df_holds.Fun K fd) : FnG P w K mg base 5 (df_holds.at_ K) fd ["claim", "paper"] (spJ TT K 2 d_holds) := by
  refine fn_j (T := TT) false F sc_holds (fun cdv A fr s H E room gd => ?_)
  have hr : Rg 4 (cxOf (L2.CX P w) P w K mg base N_holds "holds" (defScope s_holds) (df_holds.at_ K) cdv A fr s H E).A := ⟨room, gd⟩
  have tk : Takes (cxOf (L2.CX P w) P w K mg base N_holds "holds" (defScope s_holds) (df_holds.at_ K) cdv A fr s H E) (fun c d _ H => E c d H) := takes_of rfl rfl rfl rfl
  have po : PassesOwn (model P w) (cxOf (L2.CX P w) P w K mg base N_holds "holds" (defScope s_holds) (df_holds.at_ K) cdv A fr s H E).A (cxOf (L2.CX P w) P w K mg base N_holds "holds" (defScope s_holds) (df_holds.at_ K) cdv A fr s H E).env (cxOf (L2.CX P w) P w K mg base N_holds "holds" (defScope s_holds) (df_holds.at_ K) cdv A fr s H E).xe := passes_of rfl
  have S := sc_holds
  exact (jss_cons (js_if (jt_w (jw_or (jt_not (jt_val (je_callB call_isi (isiD_ok Fx.isk) (by rfl) Fx.b_isinstance (by decide +kernel) (ja_cons (je_var 0) (ja_cons (je_ty (n := "tuple") rfl Fx.b_tuple (by decide +kernel)) ja_nil))))) (jw_or (jt_cmp (op_neJ hr) neD_ok (je_callB call_len lenD_ok (by rfl) Fx.b_len (by decide +kernel) (ja_cons (je_var 0) ja_nil)) je_int (nomark _)) (jw_or1 (jt_not (jt_val (je_callB call_isi (isiD_ok Fx.isk) (by rfl) Fx.b_isinstance (by decide +kernel) (ja_cons (je_ix ix_seq ixD_ok (je_var 0) je_int (fun _ _ => rfl)) (ja_cons (je_ty (n := "str") rfl Fx.b_str (by decide +kernel)) ja_nil))))))))) (jss_one (js_ret je_bl)) jss_nil) (jss_cons (js_set (i := 2) S.nd rfl (Or.inl rfl) (je_call (g_board_of Fx) (hr.mono (by decide)) (by rfl) tk (ja_cons (je_ix ix_seq ixD_ok (je_var 0) je_int (fun _ _ => rfl)) (ja_cons (je_ix ix_seq ixD_ok (je_var 0) je_int (fun _ _ => rfl)) ja_nil)))) (jss_cons (js_if (jt_cmp op_isN isN_ok (je_var 2) je_non (nomark _)) (jss_one (js_ret je_bl)) jss_nil) (jss_cons (js_if (jt_cmp (op_eqJ hr) eqD_ok (je_ix ix_seq ixD_ok (je_var 0) je_int (fun _ _ => rfl)) (je_str (l := [112, 97, 114, 116, 115])) (nomark _)) (jss_cons (js_set (i := 3) S.nd rfl (Or.inl rfl) (je_and (je_call (g_are_guesses Fx) (hr.mono (by decide)) (by rfl) tk (ja_cons (je_var 2) (ja_cons (je_ix ix_seq ixD_ok (je_var 0) je_int (fun _ _ => rfl)) ja_nil))) (je_one (je_call (g_are_guesses Fx) (hr.mono (by decide)) (by rfl) tk (ja_cons (je_var 2) (ja_cons (je_ix ix_seq ixD_ok (je_var 0) je_int (fun _ _ => rfl)) ja_nil)))))) (jss_one (js_ret (je_and (je_var 3) (je_one (je_call (g_shows_parts Fx) (hr.mono (by decide)) (by rfl) tk (ja_cons (je_var 2) (ja_cons (je_ix ix_seq ixD_ok (je_var 0) je_int (fun _ _ => rfl)) (ja_cons (je_ix ix_seq ixD_ok (je_var 0) je_int (fun _ _ => rfl)) (ja_cons (je_var 1) ja_nil)))))))))) jss_nil) (jss_cons js_never (jss_cons js_never (jss_one js_never)))))))
theorem g_holds {P : Program} {w : World} {K : PySem.W.Frag} {mg : Str → Option Value} {base : Heap} (Fx : FX K mg) : Good P w TT K mg base 5 "holds" ["claim", "paper"] d_holds := Fx.d_holds.elim fun fd F => ⟨fd, w_holds Fx F, F.bindsN fun _ _ _ _ _ _ us hl => match us, hl with | [_, _], _ => rfl, Fx.m_holds, F.kp⟩
abbrev N_right : List Str := ["_law_well_here", "_law_some", "_law_others", "_law_said", "_law_turn", "_law_signs_here", "_law_size", "_law_two", "_law_due_here", "_law_turned", "_law_wrong", "_law_k", "_law_one_here", "_law_way", "_law_at"]
theorem sc_right : FnScope N_right ["_law_well_here"] (defScope s_right) := ⟨rfl, rfl, rfl, by decide +kernel, rfl, by decide +kernel, by decide +kernel⟩
def is_right : IS := (sSeq (sAsgG (.t [5, 6]) (iTup (iCons (iCall 3 d_signs (iCons (iVar 0) (iCons (iC (.int 2)) (iCons (iOp ixD (iLst (iCons (iC (.int 4)) (iCons (iC (.int 26)) iNil))) (iCall 2 d_draw (iCons (iVar 0) (iCons (iC (.int 2)) iNil)))) iNil)))) (iCons (iOp addD (iC (.int 1)) (iCall 2 d_draw (iCons (iVar 0) (iCons (iC (.int 6)) iNil)))) iNil)))) (sSeq (sAsg 1 (iLc (iRange range1 (iCons (iCall 2 d_draw (iCons (iVar 0) (iCons (iC (.int 5)) iNil))) iNil)) (.n 11) iYes (iCall 3 d_text (iCons (iVar 0) (iCons (iVar 5) (iCons (iVar 6) iNil)))) [11])) (sSeq (sAsg 2 (iLc (iRange range1 (iCons (iCall 2 d_draw (iCons (iVar 0) (iCons (iC (.int 5)) iNil))) iNil)) (.n 11) iYes (iCall 3 d_text (iCons (iVar 0) (iCons (iVar 5) (iCons (iVar 6) iNil)))) [11])) (sSeq (sAsg 3 (iTup (iCons (iC (.str [112, 97, 114, 116, 115])) (iCons (iVar 5) (iCons (iVar 6) (iCons (iCB tupD (iCons (iVar 1) iNil)) (iCons (iCB tupD (iCons (iVar 2) iNil)) iNil))))))) (sSeq (sFor (iRange range1 (iCons (iC (.int 8)) iNil)) (.n 4) (sSeq (sPar3 12 13 14 (iCons (iCall 3 d_text (iCons (iVar 0) (iCons (iVar 5) (iCons (iVar 6) iNil)))) (iCons (iCall 2 d_draw (iCons (iVar 0) (iCons (iC (.int 5)) iNil))) (iCons (iCall 2 d_draw (iCons (iVar 0) (iCons (iVar 6) iNil))) iNil)))) (sSeq (sAsg 7 (iCall 3 d_text (iCons (iVar 0) (iCons (iVar 5) (iCons (iVar 6) iNil))))) (sSeq (sIf (iTst (iOp eqD (iVar 13) (iC (.int 1)))) (sAsg 7 (iVar 12)) sNext) (sSeq (sIf (iTst (iOp inD (iVar 13) (iLst (iCons (iC (.int 2)) (iCons (iC (.int 3)) iNil))))) (sAsg 7 (iOp addD (iOp addD (iSl slD (iVar 12) iNoPart (iPart (iVar 14))) (iCall 2 d_one (iCons (iVar 0) (iCons (iVar 5) iNil)))) (iSl slD (iVar 12) (iPart (iOp addD (iVar 14) (iC (.int 1)))) iNoPart))) sNext) (sSeq (sIf (iTst (iOp eqD (iVar 13) (iC (.int 4)))) (sAsg 7 (iOp addD (iSl slD (iVar 12) (iPart (iVar 14)) iNoPart) (iSl slD (iVar 12) iNoPart (iPart (iVar 14))))) sNext) (sSeq (sAsg 8 (iCall 4 d_due (iCons (iVar 1) (iCons (iVar 2) (iCons (iVar 12) (iCons (iVar 7) iNil)))))) (sSeq (sIf (iTst (iOp neD (iCB reprD (iCons (iLst (iCons (iCall 2 d_holds (iCons (iVar 3) (iCons (iTup (iCons (iVar 12) (iCons (iVar 7) iNil))) iNil))) (iCons (iCall 2 d_holds (iCons (iVar 3) (iCons (iTup (iCons (iVar 7) (iCons (iVar 12) iNil))) iNil))) iNil))) iNil)) (iCB reprD (iCons (iLst (iCons (iVar 8) (iCons (iVar 8) iNil))) iNil)))) (sRet (iC (.bl false))) sNext) (sSeq (sAsg 9 (iTup (iCons (iC (.str [112, 97, 114, 116, 115])) (iCons (iVar 5) (iCons (iVar 6) (iCons (iCB tupD (iCons (iVar 2) iNil)) (iCons (iCB tupD (iCons (iVar 1) iNil)) iNil))))))) (sSeq (sIf (iTst (iOp neD (iCB reprD (iCons (iCall 2 d_holds (iCons (iVar 9) (iCons (iTup (iCons (iVar 12) (iCons (iVar 7) iNil))) iNil))) iNil)) (iCB reprD (iCons (iCall 4 d_due (iCons (iVar 2) (iCons (iVar 1) (iCons (iVar 12) (iCons (iVar 7) iNil))))) iNil)))) (sRet (iC (.bl false))) sNext) (sSeq (sAsg 10 (iLstM (iCons (iLst (iCons (iVar 12) (iCons (iVar 7) iNil))) (iCons (iTup (iCons (iVar 12) iNil)) (iCons (iTup (iCons (iVar 12) (iCons (iVar 7) (iCons (iVar 7) iNil)))) (iCons (iTup (iCons (iVar 12) (iCons (iC .non) iNil))) (iCons (iTup (iCons (iOp addD (iVar 12) (iC (.str [97]))) (iCons (iVar 7) iNil))) (iCons (iTup (iCons (iSl slD (iVar 12) (iPart (iC (.int 1))) iNoPart) (iCons (iVar 7) iNil))) (iCons (iVar 12) (iCons (iC .non) iNil)))))))))) (sSeq (sExpr (iBM .l lstApp (iVar 10) (iCons (iTup (iCons (iVar 12) (iCons (iC (.int 5)) iNil))) iNil))) (sSeq (sFrz 10) (sIf (iTst (iOp neD (iCB reprD (iCons (iCall 2 d_holds (iCons (iVar 3) (iCons (iOp ixD (iVar 10) (iCall 2 d_draw (iCons (iVar 0) (iCons (iC (.int 9)) iNil)))) iNil))) iNil)) (iC (.str [70, 97, 108, 115, 101])))) (sRet (iC (.bl false))) sNext)))))))))))))) (sRet (iC (.bl true))))))))
def d_right : List D → M D := defJ 15 false is_right
theorem w_right {P : Program} {w : World} {K : PySem.W.Frag} {mg : Str → Option Value} {base : Heap} (Fx : FX K mg) {fd : FuncData} (F : df_right.Fun K fd) : FnG P w K mg base 6 (df_right.at_ K) fd ["_law_well_here"] (spJ TT K 1 d_right) := by
  refine fn_j (T := TT) false F sc_right (fun cdv A fr s H E room gd => ?_)
  have hr : Rg 5 (cxOf (L2.CX P w) P w K mg base N_right "_law_right" (defScope s_right) (df_right.at_ K) cdv A fr s H E).A := ⟨room, gd⟩
  have tk : Takes (cxOf (L2.CX P w) P w K mg base N_right "_law_right" (defScope s_right) (df_right.at_ K) cdv A fr s H E) (fun c d _ H => E c d H) := takes_of rfl rfl rfl rfl
  have po : PassesOwn (model P w) (cxOf (L2.CX P w) P w K mg base N_right "_law_right" (defScope s_right) (df_right.at_ K) cdv A fr s H E).A (cxOf (L2.CX P w) P w K mg base N_right "_law_right" (defScope s_right) (df_right.at_ K) cdv A fr s H E).env (cxOf (L2.CX P w) P w K mg base N_right "_law_right" (defScope s_right) (df_right.at_ K) cdv A fr s H E).xe := passes_of rfl
  have S := sc_right
  exact (jss_cons (js_asg (je_tup (ja_cons (je_call (g_signs Fx) (hr.mono (by decide)) (by rfl) tk (ja_cons (je_var 0) (ja_cons je_int (ja_cons (je_ix ix_seq ixD_ok (je_lst (ja_cons je_int (ja_cons je_int ja_nil))) (je_call (g_draw Fx) (hr.mono (by decide)) (by rfl) tk (ja_cons (je_var 0) (ja_cons je_int ja_nil))) (fun _ _ => rfl)) ja_nil)))) (ja_cons (je_op op_addD addD_ok je_int (je_call (g_draw Fx) (hr.mono (by decide)) (by rfl) tk (ja_cons (je_var 0) (ja_cons je_int ja_nil)))) ja_nil))) (jg_tup rfl (jgs_cons (i := 5) S.nd rfl (Or.inr rfl) (jgs_cons (i := 6) S.nd rfl (Or.inr rfl) jgs_nil)))) (jss_cons (js_setLc (i := 1) (own := [("_law_k", 11)]) (g := (.n 11)) rfl S.nd rfl rfl (sw_true rfl rfl rfl (by decide +kernel)) (ji_range1 (by rfl) Fx.b_range (ja_cons (je_call (g_draw Fx) (hr.mono (by decide)) (by rfl) tk (ja_cons (je_var 0) (ja_cons je_int ja_nil))) ja_nil)) (blkOk_by (by kernel_rfl)) (fun _ _ _ _ _ => (jg_name (i := 11) S.nd rfl (Or.inl rfl))) (fun _ _ _ _ _ => jts_nil) (fun _ _ _ _ _ => (je_call (g_text Fx) (hr.mono (by decide)) (by rfl) tk0 (ja_cons (je_var 0) (ja_cons (je_var 5) (ja_cons (je_var 6) ja_nil)))))) (jss_cons (js_setLc (i := 2) (own := [("_law_k", 11)]) (g := (.n 11)) rfl S.nd rfl rfl (sw_true rfl rfl rfl (by decide +kernel)) (ji_range1 (by rfl) Fx.b_range (ja_cons (je_call (g_draw Fx) (hr.mono (by decide)) (by rfl) tk (ja_cons (je_var 0) (ja_cons je_int ja_nil))) ja_nil)) (blkOk_by (by kernel_rfl)) (fun _ _ _ _ _ => (jg_name (i := 11) S.nd rfl (Or.inl rfl))) (fun _ _ _ _ _ => jts_nil) (fun _ _ _ _ _ => (je_call (g_text Fx) (hr.mono (by decide)) (by rfl) tk0 (ja_cons (je_var 0) (ja_cons (je_var 5) (ja_cons (je_var 6) ja_nil)))))) (jss_cons (js_set (i := 3) S.nd rfl (Or.inl rfl) (je_tup (ja_cons (je_str (l := [112, 97, 114, 116, 115])) (ja_cons (je_var 5) (ja_cons (je_var 6) (ja_cons (je_callTy call_tuple_of tupD_ok (by rfl) Fx.b_tuple (by decide +kernel) (ja_cons (je_var 1) ja_nil)) (ja_cons (je_callTy call_tuple_of tupD_ok (by rfl) Fx.b_tuple (by decide +kernel) (ja_cons (je_var 2) ja_nil)) ja_nil))))))) (jss_cons (js_for po rfl (ji_range1 (by rfl) Fx.b_range (ja_cons je_int ja_nil)) (jg_name (i := 4) S.nd rfl (Or.inl rfl)) (jss_cons (js_par3 (i := 12) (j := 13) (l := 14) rfl S.nd rfl rfl rfl (by decide) (by decide) (by decide) rfl rfl rfl (ja_cons (je_call (g_text Fx) (hr.mono (by decide)) (by rfl) tk (ja_cons (je_var 0) (ja_cons (je_var 5) (ja_cons (je_var 6) ja_nil)))) (ja_cons (je_call (g_draw Fx) (hr.mono (by decide)) (by rfl) tk (ja_cons (je_var 0) (ja_cons je_int ja_nil))) (ja_cons (je_call (g_draw Fx) (hr.mono (by decide)) (by rfl) tk (ja_cons (je_var 0) (ja_cons (je_var 6) ja_nil))) ja_nil)))) (jss_cons (js_set (i := 7) S.nd rfl (Or.inl rfl) (je_call (g_text Fx) (hr.mono (by decide)) (by rfl) tk (ja_cons (je_var 0) (ja_cons (je_var 5) (ja_cons (je_var 6) ja_nil))))) (jss_cons (js_if (jt_cmp (op_eqJ hr) eqD_ok (je_var 13) je_int (nomark _)) (jss_one (js_set (i := 7) S.nd rfl (Or.inl rfl) (je_var 12))) jss_nil) (jss_cons (js_if (jt_cmp op_inD inD_ok (je_var 13) (je_lst (ja_cons je_int (ja_cons je_int ja_nil))) (by rfl)) (jss_one (js_set (i := 7) S.nd rfl (Or.inl rfl) (je_op op_addD addD_ok (je_op op_addD addD_ok (je_slice sl_D slD_ok (je_var 12) jo_none (jo_some (je_var 14))) (je_call (g_one Fx) (hr.mono (by decide)) (by rfl) tk (ja_cons (je_var 0) (ja_cons (je_var 5) ja_nil)))) (je_slice sl_D slD_ok (je_var 12) (jo_some (je_op op_addD addD_ok (je_var 14) je_int)) jo_none)))) jss_nil) (jss_cons (js_if (jt_cmp (op_eqJ hr) eqD_ok (je_var 13) je_int (nomark _)) (jss_one (js_set (i := 7) S.nd rfl (Or.inl rfl) (je_op op_addD addD_ok (je_slice sl_D slD_ok (je_var 12) (jo_some (je_var 14)) jo_none) (je_slice sl_D slD_ok (je_var 12) jo_none (jo_some (je_var 14)))))) jss_nil) (jss_cons (js_set (i := 8) S.nd rfl (Or.inl rfl) (je_call (g_due Fx) (hr.mono (by decide)) (by rfl) tk (ja_cons (je_var 1) (ja_cons (je_var 2) (ja_cons (je_var 12) (ja_cons (je_var 7) ja_nil)))))) (jss_cons (js_if (jt_cmp (op_neJ hr) neD_ok (je_callB (call_reprD hr) reprD_ok (by rfl) Fx.b_repr (by decide +kernel) (ja_cons (je_lst (ja_cons (je_call (g_holds Fx) (hr.mono (by decide)) (by rfl) tk (ja_cons (je_var 3) (ja_cons (je_tup (ja_cons (je_var 12) (ja_cons (je_var 7) ja_nil))) ja_nil))) (ja_cons (je_call (g_holds Fx) (hr.mono (by decide)) (by rfl) tk (ja_cons (je_var 3) (ja_cons (je_tup (ja_cons (je_var 7) (ja_cons (je_var 12) ja_nil))) ja_nil))) ja_nil))) ja_nil)) (je_callB (call_reprD hr) reprD_ok (by rfl) Fx.b_repr (by decide +kernel) (ja_cons (je_lst (ja_cons (je_var 8) (ja_cons (je_var 8) ja_nil))) ja_nil)) (nomark _)) (jss_one (js_ret je_bl)) jss_nil) (jss_cons (js_set (i := 9) S.nd rfl (Or.inl rfl) (je_tup (ja_cons (je_str (l := [112, 97, 114, 116, 115])) (ja_cons (je_var 5) (ja_cons (je_var 6) (ja_cons (je_callTy call_tuple_of tupD_ok (by rfl) Fx.b_tuple (by decide +kernel) (ja_cons (je_var 2) ja_nil)) (ja_cons (je_callTy call_tuple_of tupD_ok (by rfl) Fx.b_tuple (by decide +kernel) (ja_cons (je_var 1) ja_nil)) ja_nil))))))) (jss_cons (js_if (jt_cmp (op_neJ hr) neD_ok (je_callB (call_reprD hr) reprD_ok (by rfl) Fx.b_repr (by decide +kernel) (ja_cons (je_call (g_holds Fx) (hr.mono (by decide)) (by rfl) tk (ja_cons (je_var 9) (ja_cons (je_tup (ja_cons (je_var 12) (ja_cons (je_var 7) ja_nil))) ja_nil))) ja_nil)) (je_callB (call_reprD hr) reprD_ok (by rfl) Fx.b_repr (by decide +kernel) (ja_cons (je_call (g_due Fx) (hr.mono (by decide)) (by rfl) tk (ja_cons (je_var 2) (ja_cons (je_var 1) (ja_cons (je_var 12) (ja_cons (je_var 7) ja_nil))))) ja_nil)) (nomark _)) (jss_one (js_ret je_bl)) jss_nil) (jss_cons (js_set (i := 10) S.nd rfl (Or.inl rfl) (je_lstM (ja_cons (je_lst (ja_cons (je_var 12) (ja_cons (je_var 7) ja_nil))) (ja_cons (je_tup (ja_cons (je_var 12) ja_nil)) (ja_cons (je_tup (ja_cons (je_var 12) (ja_cons (je_var 7) (ja_cons (je_var 7) ja_nil)))) (ja_cons (je_tup (ja_cons (je_var 12) (ja_cons je_non ja_nil))) (ja_cons (je_tup (ja_cons (je_op op_addD addD_ok (je_var 12) (je_str (l := [97]))) (ja_cons (je_var 7) ja_nil))) (ja_cons (je_tup (ja_cons (je_slice sl_D slD_ok (je_var 12) (jo_some je_int) jo_none) (ja_cons (je_var 7) ja_nil))) (ja_cons (je_var 12) (ja_cons je_non ja_nil)))))))))) (jss_cons (js_expr (je_bm (Ty := .l) PySem.F.plainAttrs_list PySem.F.slot_list_append PySem.F.type_list_append mt_append lstApp_ok (je_var 10) (ja_cons (je_tup (ja_cons (je_var 12) (ja_cons je_int ja_nil))) ja_nil))) (jss_frz (jss_one (js_if (jt_cmp (op_neJ hr) neD_ok (je_callB (call_reprD hr) reprD_ok (by rfl) Fx.b_repr (by decide +kernel) (ja_cons (je_call (g_holds Fx) (hr.mono (by decide)) (by rfl) tk (ja_cons (je_var 3) (ja_cons (je_ix ix_seq ixD_ok (je_var 10) (je_call (g_draw Fx) (hr.mono (by decide)) (by rfl) tk (ja_cons (je_var 0) (ja_cons je_int ja_nil))) (fun _ _ => rfl)) ja_nil))) ja_nil)) (je_str (l := [70, 97, 108, 115, 101])) (nomark _)) (jss_one (js_ret je_bl)) jss_nil))))))))))))))) (jss_one (js_ret je_bl)))))))
theorem g_right {P : Program} {w : World} {K : PySem.W.Frag} {mg : Str → Option Value} {base : Heap} (Fx : FX K mg) : Good P w TT K mg base 6 "_law_right" ["_law_well_here"] d_right := Fx.d_right.elim fun fd F => ⟨fd, w_right Fx F, F.bindsN fun _ _ _ _ _ _ us hl => match us, hl with | [_], _ => rfl, Fx.m_right, F.kp⟩
abbrev N_law : List Str := ["_law_script", "_law_k"]
theorem sc_law : FnScope N_law ["_law_script"] (defScope s_law) := ⟨rfl, rfl, rfl, by decide +kernel, rfl, by decide +kernel, by decide +kernel⟩
def is_law : IS := (sRet (iCB allD (iCons (iLc (iRange range1 (iCons (iCB max2 (iCons (iC (.int 2)) (iCons (iCB min2 (iCons (iCB lenD (iCons (iVar 0) iNil)) (iCons (iC (.int 5)) iNil))) iNil))) iNil)) (.n 1) iYes (iCall 1 d_right (iCons (iCall 2 d_well (iCons (iVar 0) (iCons (iVar 1) iNil))) iNil)) [1]) iNil)))
def d_law : List D → M D := defJ 2 false is_law
theorem w_law {P : Program} {w : World} {K : PySem.W.Frag} {mg : Str → Option Value} {base : Heap} (Fx : FX K mg) {fd : FuncData} (F : df_law.Fun K fd) : FnG P w K mg base 7 (df_law.at_ K) fd ["_law_script"] (spJ TT K 1 d_law) := by
  refine fn_j (T := TT) false F sc_law (fun cdv A fr s H E room gd => ?_)
  have hr : Rg 6 (cxOf (L2.CX P w) P w K mg base N_law "law" (defScope s_law) (df_law.at_ K) cdv A fr s H E).A := ⟨room, gd⟩
  have tk : Takes (cxOf (L2.CX P w) P w K mg base N_law "law" (defScope s_law) (df_law.at_ K) cdv A fr s H E) (fun c d _ H => E c d H) := takes_of rfl rfl rfl rfl
  have po : PassesOwn (model P w) (cxOf (L2.CX P w) P w K mg base N_law "law" (defScope s_law) (df_law.at_ K) cdv A fr s H E).A (cxOf (L2.CX P w) P w K mg base N_law "law" (defScope s_law) (df_law.at_ K) cdv A fr s H E).env (cxOf (L2.CX P w) P w K mg base N_law "law" (defScope s_law) (df_law.at_ K) cdv A fr s H E).xe := passes_of rfl
  have S := sc_law
  exact (jss_one (js_ret (je_callB (cr_all rfl) allD_ok (by rfl) Fx.b_all (by decide +kernel) (ja_cons (je_lc (own := [("_law_k", 1)]) (g := (.n 1)) rfl S.nd (ji_range1 (by rfl) Fx.b_range (ja_cons (je_callB (call_max2 rfl) max2_ok (by rfl) Fx.b_max (by decide +kernel) (ja_cons je_int (ja_cons (je_callB (call_min2 rfl) min2_ok (by rfl) Fx.b_min (by decide +kernel) (ja_cons (je_callB call_len lenD_ok (by rfl) Fx.b_len (by decide +kernel) (ja_cons (je_var 0) ja_nil)) (ja_cons je_int ja_nil))) ja_nil))) ja_nil)) (blkOk_by (by kernel_rfl)) (fun _ _ _ _ _ => (jg_name (i := 1) S.nd rfl (Or.inl rfl))) (fun _ _ _ _ _ => jts_nil) (fun _ _ _ _ _ => (je_call (g_right Fx) (hr.mono (by decide)) (by rfl) tk0 (ja_cons (je_call (g_well Fx) (hr.mono (by decide)) (by rfl) tk0 (ja_cons (je_var 0) (ja_cons (je_var 1) ja_nil))) ja_nil)))) ja_nil))))
theorem g_law {P : Program} {w : World} {K : PySem.W.Frag} {mg : Str → Option Value} {base : Heap} (Fx : FX K mg) : Good P w TT K mg base 7 "law" ["_law_script"] d_law := Fx.d_law.elim fun fd F => ⟨fd, w_law Fx F, F.bindsN fun _ _ _ _ _ _ us hl => match us, hl with | [_], _ => rfl, Fx.m_law, F.kp⟩
def fn : List Df := [df_well, df_draw, df_signs, df_one, df_text, df_reply, df_due, df_are_letters, df_is_integer, df_Board_init, df_board_of, df_is_word, df_check_guesses, df_are_guesses, df_marks_of, df_shows_parts, df_holds, df_right, df_law]
def fa : List He.Fa := [.free "abs", .free "all", .free "any", .free "bool", .free "divmod", .free "enumerate", .free "int", .free "isinstance", .free "len", .free "max", .free "min", .free "range", .free "repr", .free "str", .free "tuple", .free "zip", .str "HIT" ⟨#[50]⟩, .str "LETTERS" ⟨#[97, 98, 99, 100, 101, 102, 103, 104, 105, 106, 107, 108, 109, 110, 111, 112, 113, 114, 115, 116, 117, 118, 119, 120, 121, 122]⟩, .str "MISS" ⟨#[48]⟩, .int "MOST_GUESSES" (20), .int "MOST_LENGTH" (6), .int "MOST_LETTERS" (26), .str "NEAR" ⟨#[49]⟩, .glo "Board", .cls "Board", .noat "Board" "letters", .noat "Board" "length", .glo "_law_well", .glo "_law_draw", .glo "_law_signs", .glo "_law_one", .glo "_law_text", .glo "_law_reply", .glo "_law_due", .glo "are_letters", .glo "is_integer", .mkr "Board", .glo "board_of", .glo "is_word", .glo "check_guesses", .glo "are_guesses", .glo "marks_of", .glo "shows_parts", .glo "holds", .glo "_law_right", .glo "law"]
def ex (K : PySem.W.Frag) : Bool := (fa.all fun f => f.ok K) && ((CS.all fun c => clsTB K (He.ga K (TT.cn c))) && ((TB.all fun q => decide (PySem.W.kitOne K (q.1.v TT K) (q.2.1.v TT K) = some q.2.2)) && ((CT.all fun c => plainTB K (He.ga K (TT.cn c))))))
abbrev Rw : PySem.W.OpenRow := PySem.W.OpenLaw.row PySem.Challenge.rw_guessmarks_k73_pairs_judged
abbrev hk : PySem.W.Hook := hookY 5 ex fn TFD
def loose : List Str := (["InputError", "InvalidLetters", "InvalidLength", "InvalidWord", "InvalidNumber", "InvalidGuesses", "MOST_LENGTH", "MOST_LETTERS", "MOST_ROWS", "MOST_GUESSES", "MOST_FACTS", "LETTERS", "is_integer", "are_letters", "Board", "is_word", "check_word", "MISS", "NEAR", "HIT", "Bounds", "is_allowed", "copies_told", "least_of", "greatest_of", "bounds_of", "in_order", "marks_of", "are_marks", "is_row"] : List Str) ++ (["check_guesses", "is_place", "is_letter", "is_fact", "board_of", "are_rows", "are_facts", "are_guesses", "has_fact", "shows_word", "shows_row", "shows_letters", "shows_places", "shows_none", "shows_parts", "holds", "_law_well", "_law_draw", "_law_one", "_law_signs", "_law_text", "_law_reply", "_law_due", "_law_right"] : List Str)
theorem run (w : World) : HandSHeadRun.RunEq Rw (PySem.W.view Rw.prog [63]) hk (seeY 5 ex fn TFD) 6000 loose w := by
  intro os
  kernel_rfl
theorem facts {K : PySem.W.Frag} {h : Heap} {mg : Str → Option Value} (X : K.In h) (G : h.Ns mainGlobals mg) (says : SaysZ ex fn K) : FX K mg := by
  obtain ⟨e0, e1⟩ := Bool.and_eq_true_iff.mp says.fact
  obtain ⟨x0, e2⟩ := Bool.and_eq_true_iff.mp e1
  obtain ⟨x1, e3⟩ := Bool.and_eq_true_iff.mp e2
  have x2 := e3
  have at_ : ∀ (i : Nat) {f : He.Fa}, fa[i]? = some f → f.ok K = true := fun i f e => List.all_eq_true.mp e0 f (List.mem_of_getElem? e)
  have z_b_abs : mg "abs" = none := He.free_ok X G (at_ 0 rfl)
  have z_b_all : mg "all" = none := He.free_ok X G (at_ 1 rfl)
  have z_b_any : mg "any" = none := He.free_ok X G (at_ 2 rfl)
  have z_b_bool : mg "bool" = none := He.free_ok X G (at_ 3 rfl)
  have z_b_divmod : mg "divmod" = none := He.free_ok X G (at_ 4 rfl)
  have z_b_enumerate : mg "enumerate" = none := He.free_ok X G (at_ 5 rfl)
  have z_b_int : mg "int" = none := He.free_ok X G (at_ 6 rfl)
  have z_b_isinstance : mg "isinstance" = none := He.free_ok X G (at_ 7 rfl)
  have z_b_len : mg "len" = none := He.free_ok X G (at_ 8 rfl)
  have z_b_max : mg "max" = none := He.free_ok X G (at_ 9 rfl)
  have z_b_min : mg "min" = none := He.free_ok X G (at_ 10 rfl)
  have z_b_range : mg "range" = none := He.free_ok X G (at_ 11 rfl)
  have z_b_repr : mg "repr" = none := He.free_ok X G (at_ 12 rfl)
  have z_b_str : mg "str" = none := He.free_ok X G (at_ 13 rfl)
  have z_b_tuple : mg "tuple" = none := He.free_ok X G (at_ 14 rfl)
  have z_b_zip : mg "zip" = none := He.free_ok X G (at_ 15 rfl)
  have z_c_HIT : ∃ t, mg "HIT" = some (.str ⟨#[50]⟩ t) := He.str_ok X G (at_ 16 rfl)
  have z_c_LETTERS : ∃ t, mg "LETTERS" = some (.str ⟨#[97, 98, 99, 100, 101, 102, 103, 104, 105, 106, 107, 108, 109, 110, 111, 112, 113, 114, 115, 116, 117, 118, 119, 120, 121, 122]⟩ t) := He.str_ok X G (at_ 17 rfl)
  have z_c_MISS : ∃ t, mg "MISS" = some (.str ⟨#[48]⟩ t) := He.str_ok X G (at_ 18 rfl)
  have z_c_MOST_GUESSES : ∃ t, mg "MOST_GUESSES" = some (.int 20 t) := He.int_ok X G (at_ 19 rfl)
  have z_c_MOST_LENGTH : ∃ t, mg "MOST_LENGTH" = some (.int 6 t) := He.int_ok X G (at_ 20 rfl)
  have z_c_MOST_LETTERS : ∃ t, mg "MOST_LETTERS" = some (.int 26 t) := He.int_ok X G (at_ 21 rfl)
  have z_c_NEAR : ∃ t, mg "NEAR" = some (.str ⟨#[49]⟩ t) := He.str_ok X G (at_ 22 rfl)
  have z_k_Board : mg (TT.cn 0) = some (.ref (He.ga K (TT.cn 0))) := He.glo_ok X G (at_ 23 rfl)
  have z_j_Board : ClsJ TT K 0 := ⟨He.cls_ok (at_ 24 rfl), by intro f hf; exact noats TT [0, 1] (by rfl) (fun n hn => by simp only [List.mem_cons, List.not_mem_nil, or_false] at hn; rcases hn with rfl | rfl; exact He.noat_ok (at_ 25 rfl); exact He.noat_ok (at_ 26 rfl)) f hf⟩
  have z_isk : IsK TT K CS TB := ⟨fun c hc => clsTB_ok (List.all_eq_true.mp x0 c hc), fun q hq => of_decide_eq_true (List.all_eq_true.mp x1 q hq)⟩
  have z_tr : ∀ c ∈ CT, PlainTru K (He.ga K (TT.cn c)) := fun c hc => plainTB_ok (List.all_eq_true.mp x2 c hc)
  have z_d_well : ∃ fd, df_well.Fun K fd := says.defs _ (List.mem_of_getElem? (i := 0) rfl)
  have z_m_well : mg "_law_well" = some (.ref (He.ga K "_law_well")) := He.glo_ok X G (at_ 27 rfl)
  have z_d_draw : ∃ fd, df_draw.Fun K fd := says.defs _ (List.mem_of_getElem? (i := 1) rfl)
  have z_m_draw : mg "_law_draw" = some (.ref (He.ga K "_law_draw")) := He.glo_ok X G (at_ 28 rfl)
  have z_d_signs : ∃ fd, df_signs.Fun K fd := says.defs _ (List.mem_of_getElem? (i := 2) rfl)
  have z_m_signs : mg "_law_signs" = some (.ref (He.ga K "_law_signs")) := He.glo_ok X G (at_ 29 rfl)
  have z_d_one : ∃ fd, df_one.Fun K fd := says.defs _ (List.mem_of_getElem? (i := 3) rfl)
  have z_m_one : mg "_law_one" = some (.ref (He.ga K "_law_one")) := He.glo_ok X G (at_ 30 rfl)
  have z_d_text : ∃ fd, df_text.Fun K fd := says.defs _ (List.mem_of_getElem? (i := 4) rfl)
  have z_m_text : mg "_law_text" = some (.ref (He.ga K "_law_text")) := He.glo_ok X G (at_ 31 rfl)
  have z_d_reply : ∃ fd, df_reply.Fun K fd := says.defs _ (List.mem_of_getElem? (i := 5) rfl)
  have z_m_reply : mg "_law_reply" = some (.ref (He.ga K "_law_reply")) := He.glo_ok X G (at_ 32 rfl)
  have z_d_due : ∃ fd, df_due.Fun K fd := says.defs _ (List.mem_of_getElem? (i := 6) rfl)
  have z_m_due : mg "_law_due" = some (.ref (He.ga K "_law_due")) := He.glo_ok X G (at_ 33 rfl)
  have z_d_are_letters : ∃ fd, df_are_letters.Fun K fd := says.defs _ (List.mem_of_getElem? (i := 7) rfl)
  have z_m_are_letters : mg "are_letters" = some (.ref (He.ga K "are_letters")) := He.glo_ok X G (at_ 34 rfl)
  have z_d_is_integer : ∃ fd, df_is_integer.Fun K fd := says.defs _ (List.mem_of_getElem? (i := 8) rfl)
  have z_m_is_integer : mg "is_integer" = some (.ref (He.ga K "is_integer")) := He.glo_ok X G (at_ 35 rfl)
  have z_d_Board_init : ∃ fd, df_Board_init.Fun K fd := says.defs _ (List.mem_of_getElem? (i := 9) rfl)
  have z_m_Board_init : Mk K (He.ga K "Board") (He.ma K (He.ga K "Board") "__init__") := He.mkr_ok (at_ 36 rfl)
  have z_d_board_of : ∃ fd, df_board_of.Fun K fd := says.defs _ (List.mem_of_getElem? (i := 10) rfl)
  have z_m_board_of : mg "board_of" = some (.ref (He.ga K "board_of")) := He.glo_ok X G (at_ 37 rfl)
  have z_d_is_word : ∃ fd, df_is_word.Fun K fd := says.defs _ (List.mem_of_getElem? (i := 11) rfl)
  have z_m_is_word : mg "is_word" = some (.ref (He.ga K "is_word")) := He.glo_ok X G (at_ 38 rfl)
  have z_d_check_guesses : ∃ fd, df_check_guesses.Fun K fd := says.defs _ (List.mem_of_getElem? (i := 12) rfl)
  have z_m_check_guesses : mg "check_guesses" = some (.ref (He.ga K "check_guesses")) := He.glo_ok X G (at_ 39 rfl)
  have z_d_are_guesses : ∃ fd, df_are_guesses.Fun K fd := says.defs _ (List.mem_of_getElem? (i := 13) rfl)
  have z_m_are_guesses : mg "are_guesses" = some (.ref (He.ga K "are_guesses")) := He.glo_ok X G (at_ 40 rfl)
  have z_d_marks_of : ∃ fd, df_marks_of.Fun K fd := says.defs _ (List.mem_of_getElem? (i := 14) rfl)
  have z_m_marks_of : mg "marks_of" = some (.ref (He.ga K "marks_of")) := He.glo_ok X G (at_ 41 rfl)
  have z_d_shows_parts : ∃ fd, df_shows_parts.Fun K fd := says.defs _ (List.mem_of_getElem? (i := 15) rfl)
  have z_m_shows_parts : mg "shows_parts" = some (.ref (He.ga K "shows_parts")) := He.glo_ok X G (at_ 42 rfl)
  have z_d_holds : ∃ fd, df_holds.Fun K fd := says.defs _ (List.mem_of_getElem? (i := 16) rfl)
  have z_m_holds : mg "holds" = some (.ref (He.ga K "holds")) := He.glo_ok X G (at_ 43 rfl)
  have z_d_right : ∃ fd, df_right.Fun K fd := says.defs _ (List.mem_of_getElem? (i := 17) rfl)
  have z_m_right : mg "_law_right" = some (.ref (He.ga K "_law_right")) := He.glo_ok X G (at_ 44 rfl)
  have z_d_law : ∃ fd, df_law.Fun K fd := says.defs _ (List.mem_of_getElem? (i := 18) rfl)
  have z_m_law : mg "law" = some (.ref (He.ga K "law")) := He.glo_ok X G (at_ 45 rfl)
  have z_f_letters : ∀ c ∈ ([0] : List Nat), ClsJ TT K c ∧ 0 ∈ TT.fs c := by
    intro c hc
    simp only [List.mem_cons, List.not_mem_nil, or_false] at hc
    subst hc
    exact ⟨z_j_Board, by decide⟩
  have z_f_length : ∀ c ∈ ([0] : List Nat), ClsJ TT K c ∧ 1 ∈ TT.fs c := by
    intro c hc
    simp only [List.mem_cons, List.not_mem_nil, or_false] at hc
    subst hc
    exact ⟨z_j_Board, by decide⟩
  exact { b_abs := z_b_abs, b_all := z_b_all, b_any := z_b_any, b_bool := z_b_bool, b_divmod := z_b_divmod, b_enumerate := z_b_enumerate, b_int := z_b_int, b_isinstance := z_b_isinstance, b_len := z_b_len, b_max := z_b_max, b_min := z_b_min, b_range := z_b_range, b_repr := z_b_repr, b_str := z_b_str, b_tuple := z_b_tuple, b_zip := z_b_zip, c_HIT := z_c_HIT, c_LETTERS := z_c_LETTERS, c_MISS := z_c_MISS, c_MOST_GUESSES := z_c_MOST_GUESSES, c_MOST_LENGTH := z_c_MOST_LENGTH, c_MOST_LETTERS := z_c_MOST_LETTERS, c_NEAR := z_c_NEAR, k_Board := z_k_Board, j_Board := z_j_Board, f_letters := z_f_letters, f_length := z_f_length, isk := z_isk, tr := z_tr, d_well := z_d_well, m_well := z_m_well, d_draw := z_d_draw, m_draw := z_m_draw, d_signs := z_d_signs, m_signs := z_m_signs, d_one := z_d_one, m_one := z_m_one, d_text := z_d_text, m_text := z_m_text, d_reply := z_d_reply, m_reply := z_m_reply, d_due := z_d_due, m_due := z_m_due, d_are_letters := z_d_are_letters, m_are_letters := z_m_are_letters, d_is_integer := z_d_is_integer, m_is_integer := z_m_is_integer, d_Board_init := z_d_Board_init, m_Board_init := z_m_Board_init, d_board_of := z_d_board_of, m_board_of := z_m_board_of, d_is_word := z_d_is_word, m_is_word := z_m_is_word, d_check_guesses := z_d_check_guesses, m_check_guesses := z_m_check_guesses, d_are_guesses := z_d_are_guesses, m_are_guesses := z_m_are_guesses, d_marks_of := z_d_marks_of, m_marks_of := z_m_marks_of, d_shows_parts := z_d_shows_parts, m_shows_parts := z_m_shows_parts, d_holds := z_d_holds, m_holds := z_m_holds, d_right := z_d_right, m_right := z_m_right, d_law := z_d_law, m_law := z_m_law }
theorem k73_holds (plain : ∀ ns : List Int, ns.length ≤ 63 → ∃ S', d_law [.scr (ns.map D.int)] ⟨[], 0⟩ = .ok (.bl true) S') : PySem.Challenge.rw_guessmarks_k73_pairs_judged.Holds := by
  w_on; o_law
  refine HandSHeadRun.head_any (r := PySem.W.OpenLaw.row PySem.Challenge.rw_guessmarks_k73_pairs_judged) (q := PySem.W.view Rw.prog [63]) (H := hk) (ob := seeY 5 ex fn TFD) (M := 6000) (loose := loose) (d := HandSHeadRun.topDef Rw.prog 63) (kwd := []) seeY_eq
    (by kernel_rfl) (fun s => by kernel_rfl) run (by kernel_rfl) (by kernel_rfl) (by kernel_rfl) (by rfl) (by first | assumption | decide +kernel) (by decide +kernel) ⟨rfl, rfl, rfl, rfl, rfl, by decide +kernel⟩ ?hw ?hc
  case hw => w_witness2
  case hc =>
    refine walk_g (l := PySem.Challenge.rw_guessmarks_k73_pairs_judged) (n := 63) (k := 7) (x := "_law_script") rfl (by decide) (by kernel_rfl) ⟨rfl, by decide, by decide⟩ ?F
    intro w mg fa h Y G hmg0
    obtain ⟨K, KX, c⟩ := Y
    have Fx := facts KX G c.z
    have hmg : mg ("law" : Str) = some (.ref fa) := by
      have e : (HandSHeadRun.topDef Rw.prog 63).name = ("law" : Str) := by kernel_rfl
      rw [← e]
      exact hmg0
    obtain ⟨fd, F⟩ := Fx.d_law
    have e := hmg.symm.trans Fx.m_law
    cases e
    have b := FunD.bindsA (ps := ["_law_script"]) F fun _ _ _ _ _ _ us hl => match us, hl with | [_], _ => rfl
    exact ⟨K, fd, _, TFD.map (He.cT K), KX, c.t, fun s v => b s [v] rfl, fun H a ns hl st hS => law_sp (T := TT) st (tab_of K) hS ⟨[], 0⟩ rfl (plain ns hl), fun base _ _ Tb => w_law Fx F⟩
end K73

set_option Elab.async false
set_option linter.all false
set_option maxRecDepth 100000
set_option maxHeartbeats 1010000
namespace K73
open J
/-! ### the plain law of k73 -/
def r1 : IS := (sAsgG (.t [5, 6]) (iTup (iCons (iCall 3 d_signs (iCons (iVar 0) (iCons (iC (.int 2)) (iCons (iOp ixD (iLst (iCons (iC (.int 4)) (iCons (iC (.int 26)) iNil))) (iCall 2 d_draw (iCons (iVar 0) (iCons (iC (.int 2)) iNil)))) iNil)))) (iCons (iOp addD (iC (.int 1)) (iCall 2 d_draw (iCons (iVar 0) (iCons (iC (.int 6)) iNil)))) iNil))))
def r2 : IS := (sAsg 1 (iLc (iRange range1 (iCons (iCall 2 d_draw (iCons (iVar 0) (iCons (iC (.int 5)) iNil))) iNil)) (.n 11) iYes (iCall 3 d_text (iCons (iVar 0) (iCons (iVar 5) (iCons (iVar 6) iNil)))) [11]))
def r3 : IS := (sAsg 2 (iLc (iRange range1 (iCons (iCall 2 d_draw (iCons (iVar 0) (iCons (iC (.int 5)) iNil))) iNil)) (.n 11) iYes (iCall 3 d_text (iCons (iVar 0) (iCons (iVar 5) (iCons (iVar 6) iNil)))) [11]))
def r4 : IS := (sAsg 3 (iTup (iCons (iC (.str [112, 97, 114, 116, 115])) (iCons (iVar 5) (iCons (iVar 6) (iCons (iCB tupD (iCons (iVar 1) iNil)) (iCons (iCB tupD (iCons (iVar 2) iNil)) iNil)))))))
def r5 : IS := (sFor (iRange range1 (iCons (iC (.int 8)) iNil)) (.n 4) (sSeq (sPar3 12 13 14 (iCons (iCall 3 d_text (iCons (iVar 0) (iCons (iVar 5) (iCons (iVar 6) iNil)))) (iCons (iCall 2 d_draw (iCons (iVar 0) (iCons (iC (.int 5)) iNil))) (iCons (iCall 2 d_draw (iCons (iVar 0) (iCons (iVar 6) iNil))) iNil)))) (sSeq (sAsg 7 (iCall 3 d_text (iCons (iVar 0) (iCons (iVar 5) (iCons (iVar 6) iNil))))) (sSeq (sIf (iTst (iOp eqD (iVar 13) (iC (.int 1)))) (sAsg 7 (iVar 12)) sNext) (sSeq (sIf (iTst (iOp inD (iVar 13) (iLst (iCons (iC (.int 2)) (iCons (iC (.int 3)) iNil))))) (sAsg 7 (iOp addD (iOp addD (iSl slD (iVar 12) iNoPart (iPart (iVar 14))) (iCall 2 d_one (iCons (iVar 0) (iCons (iVar 5) iNil)))) (iSl slD (iVar 12) (iPart (iOp addD (iVar 14) (iC (.int 1)))) iNoPart))) sNext) (sSeq (sIf (iTst (iOp eqD (iVar 13) (iC (.int 4)))) (sAsg 7 (iOp addD (iSl slD (iVar 12) (iPart (iVar 14)) iNoPart) (iSl slD (iVar 12) iNoPart (iPart (iVar 14))))) sNext) (sSeq (sAsg 8 (iCall 4 d_due (iCons (iVar 1) (iCons (iVar 2) (iCons (iVar 12) (iCons (iVar 7) iNil)))))) (sSeq (sIf (iTst (iOp neD (iCB reprD (iCons (iLst (iCons (iCall 2 d_holds (iCons (iVar 3) (iCons (iTup (iCons (iVar 12) (iCons (iVar 7) iNil))) iNil))) (iCons (iCall 2 d_holds (iCons (iVar 3) (iCons (iTup (iCons (iVar 7) (iCons (iVar 12) iNil))) iNil))) iNil))) iNil)) (iCB reprD (iCons (iLst (iCons (iVar 8) (iCons (iVar 8) iNil))) iNil)))) (sRet (iC (.bl false))) sNext) (sSeq (sAsg 9 (iTup (iCons (iC (.str [112, 97, 114, 116, 115])) (iCons (iVar 5) (iCons (iVar 6) (iCons (iCB tupD (iCons (iVar 2) iNil)) (iCons (iCB tupD (iCons (iVar 1) iNil)) iNil))))))) (sSeq (sIf (iTst (iOp neD (iCB reprD (iCons (iCall 2 d_holds (iCons (iVar 9) (iCons (iTup (iCons (iVar 12) (iCons (iVar 7) iNil))) iNil))) iNil)) (iCB reprD (iCons (iCall 4 d_due (iCons (iVar 2) (iCons (iVar 1) (iCons (iVar 12) (iCons (iVar 7) iNil))))) iNil)))) (sRet (iC (.bl false))) sNext) (sSeq (sAsg 10 (iLstM (iCons (iLst (iCons (iVar 12) (iCons (iVar 7) iNil))) (iCons (iTup (iCons (iVar 12) iNil)) (iCons (iTup (iCons (iVar 12) (iCons (iVar 7) (iCons (iVar 7) iNil)))) (iCons (iTup (iCons (iVar 12) (iCons (iC .non) iNil))) (iCons (iTup (iCons (iOp addD (iVar 12) (iC (.str [97]))) (iCons (iVar 7) iNil))) (iCons (iTup (iCons (iSl slD (iVar 12) (iPart (iC (.int 1))) iNoPart) (iCons (iVar 7) iNil))) (iCons (iVar 12) (iCons (iC .non) iNil)))))))))) (sSeq (sExpr (iBM .l lstApp (iVar 10) (iCons (iTup (iCons (iVar 12) (iCons (iC (.int 5)) iNil))) iNil))) (sSeq (sFrz 10) (sIf (iTst (iOp neD (iCB reprD (iCons (iCall 2 d_holds (iCons (iVar 3) (iCons (iOp ixD (iVar 10) (iCall 2 d_draw (iCons (iVar 0) (iCons (iC (.int 9)) iNil)))) iNil))) iNil)) (iC (.str [70, 97, 108, 115, 101])))) (sRet (iC (.bl false))) sNext))))))))))))))
def r6 : IS := (sRet (iC (.bl true)))
theorem right_is : is_right = (sSeq r1 (sSeq r2 (sSeq r3 (sSeq r4 (sSeq r5 r6))))) := rfl
theorem law_is : d_law = dLawW 5 d_right := rfl
theorem hT : TT.fs 0 = [0, 1] := rfl
theorem holds_is : d_holds = dHoldsP TT CS TB sNever sNever sNever := rfl
theorem due_is : d_due = dDueP := rfl
section
variable {n : Nat} {S : Store} {l : List Nat} {k : Nat} {x1 x2 x3 x4 x5 x6 x7 x8 x9 x10 x11 x12 x13 x14 : Option D}
theorem r1_ok (b : Bw S n) : ∃ (l : List Nat) (k : Nat) (S' : Store), r1 [some (.ref n), x1, x2, x3, x4, x5, x6, x7, x8, x9, x10, x11, x12, x13, x14] S = .ok (.nx [some (.ref n), x1, x2, x3, x4, some (.str l), some (.int (k : Int)), x7, x8, x9, x10, x11, x12, x13, x14]) S' ∧ Sg l ∧ 2 ≤ l.length ∧ 1 ≤ k ∧ k ≤ 6 ∧ Bw S' n := by
  obtain ⟨q, S1, d1, q0, q1, b1, _⟩ := draw_ok (k := 2) b (by omega) (by omega)
  have ih : ∃ h : Nat, ixD (.lst [.int 4, .int 26]) (.int q) S1 = some (.int (h : Int)) ∧ 2 ≤ h ∧ h ≤ 26 := by
    have hq : q = 0 ∨ q = 1 := by omega
    rcases hq with rfl | rfl
    · exact ⟨4, rfl, by omega, by omega⟩
    · exact ⟨26, rfl, by omega, by omega⟩
  obtain ⟨h, ih, h1, h2⟩ := ih
  obtain ⟨l, S2, e2, sg, l1, l2, b2, _⟩ := signW_ok (lo := 2) (hi := h) b1 (by omega) h1 h2
  obtain ⟨p, S3, d3, p0, p1, b3, _⟩ := draw_ok (k := 6) b2 (by omega) (by omega)
  obtain ⟨m, hm⟩ := Int.eq_ofNat_of_zero_le (show 0 ≤ 1 + p by omega)
  refine ⟨l, m, S3, ?_, sg, l1, by omega, by omega, b3⟩
  have e2' : d_signs [.ref n, .int 2, .int (h : Int)] S1 = .ok (.str l) S2 := e2
  have d1' : d_draw [.ref n, .int 2] S = .ok (.int q) S1 := d1
  have d3' : d_draw [.ref n, .int 6] S2 = .ok (.int p) S3 := d3
  unfold r1
  simp only [sSeq, sSetI, sSetIN, sBind, iOp, M.bind, lift, iVar, iC, M.ret, sIf, iTst, isB, iCB, iCons, iNil, sRet, sNext, sAsg, sExpr, sPar, sPar3, iCall, iIf, iOr, iAnd, iNot, iNotV, iAndV, iOrV, M.no, iLstM, iLst, iTup, sAsgG, ngD, nsD, iSl, iPart, iNoPart, iBM, iCM, iYes, List.getD_cons_zero, List.getD_cons_succ, List.length_cons, List.length_nil, if_true, d1', ih, e2', d3', addD_int, hm, List.set_cons_succ, List.set_cons_zero]
  simp [M.ret, d1', ih, e2', d3', addD_int, hm, ngD, nsD]
abbrev txE : IE := iLc (iRange range1 (iCons (iCall 2 d_draw (iCons (iVar 0) (iCons (iC (.int 5)) iNil))) iNil)) (.n 11) iYes (iCall 3 d_text (iCons (iVar 0) (iCons (iVar 5) (iCons (iVar 6) iNil)))) [11]
theorem tx_ok (b : Bw S n) (h2 : 2 ≤ l.length) (hl : l.length ≤ 26) (k2 : k ≤ 6) : ∃ (gs : List (List Nat)) (S' : Store), txE [some (.ref n), x1, x2, x3, x4, some (.str l), some (.int (k : Int)), x7, x8, x9, x10, x11, x12, x13, x14] S = .ok (.lst (gs.map D.str)) S' ∧ gs.length ≤ 4 ∧ (∀ w ∈ gs, Wd l k w) ∧ Bw S' n := by
  obtain ⟨q, S1, d1, q0, q1, b1, _⟩ := draw_ok (k := 5) b (by omega) (by omega)
  obtain ⟨q, rfl⟩ := Int.eq_ofNat_of_zero_le q0
  have d1' : d_draw [.ref n, .int 5] S = .ok (.int (q : Int)) S1 := d1
  have key := lcL_inv (g := .n 11) (t := iYes) (ie := iCall 3 d_text (iCons (iVar 0) (iCons (iVar 5) (iCons (iVar 6) iNil)))) (ρ := [some (.ref n), x1, x2, x3, x4, some (.str l), some (.int (k : Int)), x7, x8, x9, x10, none, x12, x13, x14]) (fun _ S' => Bw S' n) (fun _ d => ∃ w : List Nat, d = .str w ∧ Wd l k w) (rng 0 q) 0 S1 b1 (by
    intro j x S2 hx b2
    obtain ⟨w, S3, e3, w1, w2, b3, _⟩ := text_ok (k := k) b2 (show 0 < l.length by omega) (by omega) (by omega)
    have e3' : d_text [.ref n, .str l, .int (k : Int)] S2 = .ok (.str w) S3 := e3
    refine ⟨[some (.ref n), x1, x2, x3, x4, some (.str l), some (.int (k : Int)), x7, x8, x9, x10, some x, x12, x13, x14], .str w, S2, S3, rfl, rfl, ?_, ⟨w, rfl, w1, w2⟩, b3⟩
    simp only [iCall, iCons, iNil, iVar, M.bind, M.ret, lift, List.getD_cons_zero, List.getD_cons_succ, List.length_cons, List.length_nil, if_true, e3'])
  obtain ⟨rs, S2, e2, l2, p2, b2⟩ := key
  have all : ∀ d ∈ rs, ∃ w : List Nat, d = .str w ∧ Wd l k w := fun d hd => by
    obtain ⟨j, hj⟩ := List.mem_iff_getElem?.mp hd
    exact p2 j d hj
  have hg : ∃ gs : List (List Nat), rs = gs.map D.str ∧ ∀ w ∈ gs, Wd l k w := by
    clear e2 l2 p2
    induction rs with
    | nil => exact ⟨[], rfl, by simp⟩
    | cons d rs ih =>
      obtain ⟨w, rfl, hw⟩ := all d (List.mem_cons_self ..)
      obtain ⟨gs, rfl, hgs⟩ := ih fun y hy => all y (List.mem_cons_of_mem _ hy)
      exact ⟨w :: gs, rfl, fun y hy => by rcases List.mem_cons.mp hy with rfl | z; exact hw; exact hgs y z⟩
  obtain ⟨gs, rfl, hw⟩ := hg
  rw [List.length_map, rng_len] at l2
  refine ⟨gs, S2, ?_, by omega, hw, b2⟩
  have kl : (rng 0 q).length < 100000 := by rw [rng_len]; omega
  simp only [iLc, iRange, iCons, iNil, iCall, iVar, iC, M.bind, M.ret, lift, List.getD_cons_zero, List.length_cons, List.length_nil, if_true, d1', range1_nat (show q ≤ 1000 by omega), kl, wipeR, List.set_cons_succ, List.set_cons_zero, e2]
abbrev clE (i j : Nat) : IE := iTup (iCons (iC (.str [112, 97, 114, 116, 115])) (iCons (iVar 5) (iCons (iVar 6) (iCons (iCB tupD (iCons (iVar i) iNil)) (iCons (iCB tupD (iCons (iVar j) iNil)) iNil)))))
theorem cl_ok {ρ : Rho} {i j : Nat} {gs os : List (List Nat)} (h5 : ρ.getD 5 none = some (.str l)) (h6 : ρ.getD 6 none = some (.int (k : Int))) (hi : ρ.getD i none = some (.lst (gs.map D.str))) (hj : ρ.getD j none = some (.lst (os.map D.str))) : clE i j ρ S = .ok (prt l k gs os) S := by
  have t1 : ∀ xs : List D, tupD [.lst xs] S = some (.tup xs) := fun xs => rfl
  simp only [iTup, iCons, iNil, iC, iVar, iCB, M.bind, M.ret, lift, h5, h6, hi, hj, t1, List.length_cons, List.length_nil, Nat.reduceAdd, Nat.reduceLeDiff, if_true]
  rfl
/-! one turn -/
def b1 : IS := (sPar3 12 13 14 (iCons (iCall 3 d_text (iCons (iVar 0) (iCons (iVar 5) (iCons (iVar 6) iNil)))) (iCons (iCall 2 d_draw (iCons (iVar 0) (iCons (iC (.int 5)) iNil))) (iCons (iCall 2 d_draw (iCons (iVar 0) (iCons (iVar 6) iNil))) iNil))))
def b2 : IS := (sAsg 7 (iCall 3 d_text (iCons (iVar 0) (iCons (iVar 5) (iCons (iVar 6) iNil)))))
def b3 : IS := (sIf (iTst (iOp eqD (iVar 13) (iC (.int 1)))) (sAsg 7 (iVar 12)) sNext)
def b4 : IS := (sIf (iTst (iOp inD (iVar 13) (iLst (iCons (iC (.int 2)) (iCons (iC (.int 3)) iNil))))) (sAsg 7 (iOp addD (iOp addD (iSl slD (iVar 12) iNoPart (iPart (iVar 14))) (iCall 2 d_one (iCons (iVar 0) (iCons (iVar 5) iNil)))) (iSl slD (iVar 12) (iPart (iOp addD (iVar 14) (iC (.int 1)))) iNoPart))) sNext)
def b5 : IS := (sIf (iTst (iOp eqD (iVar 13) (iC (.int 4)))) (sAsg 7 (iOp addD (iSl slD (iVar 12) (iPart (iVar 14)) iNoPart) (iSl slD (iVar 12) iNoPart (iPart (iVar 14))))) sNext)
def b6 : IS := (sAsg 8 (iCall 4 d_due (iCons (iVar 1) (iCons (iVar 2) (iCons (iVar 12) (iCons (iVar 7) iNil))))))
def b7 : IS := (sIf (iTst (iOp neD (iCB reprD (iCons (iLst (iCons (iCall 2 d_holds (iCons (iVar 3) (iCons (iTup (iCons (iVar 12) (iCons (iVar 7) iNil))) iNil))) (iCons (iCall 2 d_holds (iCons (iVar 3) (iCons (iTup (iCons (iVar 7) (iCons (iVar 12) iNil))) iNil))) iNil))) iNil)) (iCB reprD (iCons (iLst (iCons (iVar 8) (iCons (iVar 8) iNil))) iNil)))) (sRet (iC (.bl false))) sNext)
def b8 : IS := (sAsg 9 (clE 2 1))
def b9 : IS := (sIf (iTst (iOp neD (iCB reprD (iCons (iCall 2 d_holds (iCons (iVar 9) (iCons (iTup (iCons (iVar 12) (iCons (iVar 7) iNil))) iNil))) iNil)) (iCB reprD (iCons (iCall 4 d_due (iCons (iVar 2) (iCons (iVar 1) (iCons (iVar 12) (iCons (iVar 7) iNil))))) iNil)))) (sRet (iC (.bl false))) sNext)
def b10 : IS := (sAsg 10 (iLstM (iCons (iLst (iCons (iVar 12) (iCons (iVar 7) iNil))) (iCons (iTup (iCons (iVar 12) iNil)) (iCons (iTup (iCons (iVar 12) (iCons (iVar 7) (iCons (iVar 7) iNil)))) (iCons (iTup (iCons (iVar 12) (iCons (iC .non) iNil))) (iCons (iTup (iCons (iOp addD (iVar 12) (iC (.str [97]))) (iCons (iVar 7) iNil))) (iCons (iTup (iCons (iSl slD (iVar 12) (iPart (iC (.int 1))) iNoPart) (iCons (iVar 7) iNil))) (iCons (iVar 12) (iCons (iC .non) iNil))))))))))
def b11 : IS := (sExpr (iBM .l lstApp (iVar 10) (iCons (iTup (iCons (iVar 12) (iCons (iC (.int 5)) iNil))) iNil)))
def b13 : IS := (sIf (iTst (iOp neD (iCB reprD (iCons (iCall 2 d_holds (iCons (iVar 3) (iCons (iOp ixD (iVar 10) (iCall 2 d_draw (iCons (iVar 0) (iCons (iC (.int 9)) iNil)))) iNil))) iNil)) (iC (.str [70, 97, 108, 115, 101])))) (sRet (iC (.bl false))) sNext)
def turn : IS := sSeq b1 (sSeq b2 (sSeq b3 (sSeq b4 (sSeq b5 (sSeq b6 (sSeq b7 (sSeq b8 (sSeq b9 (sSeq b10 (sSeq b11 (sSeq (sFrz 10) b13)))))))))))
theorem r5_is : r5 = sFor (iRange range1 (iCons (iC (.int 8)) iNil)) (.n 4) turn := rfl
theorem b1_ok (b : Bw S n) (h2 : 2 ≤ l.length) (hl : l.length ≤ 26) (k1 : 1 ≤ k) (k2 : k ≤ 6) : ∃ (u : List Nat) (y p : Nat) (S' : Store), b1 [some (.ref n), x1, x2, x3, x4, some (.str l), some (.int (k : Int)), x7, x8, x9, x10, x11, x12, x13, x14] S = .ok (.nx [some (.ref n), x1, x2, x3, x4, some (.str l), some (.int (k : Int)), x7, x8, x9, x10, x11, some (.str u), some (.int (y : Int)), some (.int (p : Int))]) S' ∧ Wd l k u ∧ y < 5 ∧ p < k ∧ Bw S' n := by
  obtain ⟨u, S1, e1, u1, u2, b1, _⟩ := text_ok (k := k) b (show 0 < l.length by omega) (by omega) (by omega)
  obtain ⟨y, S2, e2, y0, y1, b2, _⟩ := draw_ok (k := 5) b1 (by omega) (by omega)
  obtain ⟨p, S3, e3, p0, p1, b3, _⟩ := draw_ok (k := (k : Int)) b2 (by omega) (by omega)
  obtain ⟨y, rfl⟩ := Int.eq_ofNat_of_zero_le y0
  obtain ⟨p, rfl⟩ := Int.eq_ofNat_of_zero_le p0
  have e1' : d_text [.ref n, .str l, .int (k : Int)] S = .ok (.str u) S1 := e1
  have e2' : d_draw [.ref n, .int 5] S1 = .ok (.int (y : Int)) S2 := e2
  have e3' : d_draw [.ref n, .int (k : Int)] S2 = .ok (.int (p : Int)) S3 := e3
  refine ⟨u, y, p, S3, ?_, ⟨u1, u2⟩, by omega, by omega, b3⟩
  unfold K73.b1
  simp [sSeq, sSetI, sSetIN, sBind, iOp, M.bind, lift, iVar, iC, M.ret, sIf, iTst, isB, iCB, iCons, iNil, sRet, sNext, sAsg, sExpr, sPar, sPar3, iCall, iIf, iOr, iAnd, iNot, iNotV, iAndV, iOrV, M.no, iLstM, iLst, iTup, sAsgG, ngD, nsD, iSl, iPart, iNoPart, iBM, iCM, iYes, e1', e2', e3']
theorem b2_ok (b : Bw S n) (h2 : 2 ≤ l.length) (hl : l.length ≤ 26) (k2 : k ≤ 6) : ∃ (v : List Nat) (S' : Store), b2 [some (.ref n), x1, x2, x3, x4, some (.str l), some (.int (k : Int)), x7, x8, x9, x10, x11, x12, x13, x14] S = .ok (.nx [some (.ref n), x1, x2, x3, x4, some (.str l), some (.int (k : Int)), some (.str v), x8, x9, x10, x11, x12, x13, x14]) S' ∧ Wd l k v ∧ Bw S' n := by
  obtain ⟨u, S1, e1, u1, u2, b1, _⟩ := text_ok (k := k) b (show 0 < l.length by omega) (by omega) (by omega)
  have e1' : d_text [.ref n, .str l, .int (k : Int)] S = .ok (.str u) S1 := e1
  refine ⟨u, S1, ?_, ⟨u1, u2⟩, b1⟩
  unfold b2
  simp [sSeq, sSetI, sSetIN, sBind, iOp, M.bind, lift, iVar, iC, M.ret, sIf, iTst, isB, iCB, iCons, iNil, sRet, sNext, sAsg, sExpr, sPar, sPar3, iCall, iIf, iOr, iAnd, iNot, iNotV, iAndV, iOrV, M.no, iLstM, iLst, iTup, sAsgG, ngD, nsD, iSl, iPart, iNoPart, iBM, iCM, iYes, e1']
section
variable {u v : List Nat} {y p : Nat}
theorem b3_ok (hu : Wd l k u) (hv : Wd l k v) : ∃ v', b3 [some (.ref n), x1, x2, x3, x4, x5, x6, some (.str v), x8, x9, x10, x11, some (.str u), some (.int (y : Int)), x14] S = .ok (.nx [some (.ref n), x1, x2, x3, x4, x5, x6, some (.str v'), x8, x9, x10, x11, some (.str u), some (.int (y : Int)), x14]) S ∧ Wd l k v' := by
  by_cases h : (y : Int) = 1
  · refine ⟨u, ?_, hu⟩
    unfold b3
    simp [sSeq, sSetI, sSetIN, sBind, iOp, M.bind, lift, iVar, iC, M.ret, sIf, iTst, isB, iCB, iCons, iNil, sRet, sNext, sAsg, sExpr, sPar, sPar3, iCall, iIf, iOr, iAnd, iNot, iNotV, iAndV, iOrV, M.no, iLstM, iLst, iTup, sAsgG, ngD, nsD, iSl, iPart, iNoPart, iBM, iCM, iYes, eqD_int, h]
  · refine ⟨v, ?_, hv⟩
    unfold b3
    simp [sSeq, sSetI, sSetIN, sBind, iOp, M.bind, lift, iVar, iC, M.ret, sIf, iTst, isB, iCB, iCons, iNil, sRet, sNext, sAsg, sExpr, sPar, sPar3, iCall, iIf, iOr, iAnd, iNot, iNotV, iAndV, iOrV, M.no, iLstM, iLst, iTup, sAsgG, ngD, nsD, iSl, iPart, iNoPart, iBM, iCM, iYes, eqD_int, h]
theorem in23 (S : Store) : ∃ c, inD (.int (y : Int)) (.lst [.int 2, .int 3]) S = some (.bl c) := by
  exact ⟨_, rfl⟩
theorem b4_ok (b : Bw S n) (h2 : 2 ≤ l.length) (hl : l.length ≤ 26) (k2 : k ≤ 6) (hp : p < k) (hu : Wd l k u) (hv : Wd l k v) : ∃ v' S', b4 [some (.ref n), x1, x2, x3, x4, some (.str l), x6, some (.str v), x8, x9, x10, x11, some (.str u), some (.int (y : Int)), some (.int (p : Int))] S = .ok (.nx [some (.ref n), x1, x2, x3, x4, some (.str l), x6, some (.str v'), x8, x9, x10, x11, some (.str u), some (.int (y : Int)), some (.int (p : Int))]) S' ∧ Wd l k v' ∧ Bw S' n := by
  obtain ⟨c, hc⟩ := in23 (y := y) S
  have tt : iTst (iOp inD (iVar 13) (iLst (iCons (iC (.int 2)) (iCons (iC (.int 3)) iNil)))) [some (.ref n), x1, x2, x3, x4, some (.str l), x6, some (.str v), x8, x9, x10, x11, some (.str u), some (.int (y : Int)), some (.int (p : Int))] S = .ok c S := by
    simp only [iTst, iOp, iLst, iCons, iNil, iVar, iC, M.bind, M.ret, lift, List.getD_cons_zero, List.getD_cons_succ, List.length_cons, List.length_nil, Nat.reduceAdd, Nat.reduceLeDiff, if_true, hc, isB]
  cases c with
  | false =>
    refine ⟨v, S, ?_, hv, b⟩
    unfold b4
    rw [sIf_f tt]
    rfl
  | true =>
    obtain ⟨c, S1, d1, hc, b1, _⟩ := one_str b (show 0 < l.length by omega) (by omega)
    have d1' : d_one [.ref n, .str l] S = .ok (.str [c]) S1 := d1
    have ul := hu.1
    have wl : u.length ≤ 100000 := by omega
    have s1 : ∀ S, slD (.str u) none (some (p : Int)) S = some (.str (u.take p)) := fun S => by rw [slD_str wl, cut_take]
    have s2 : ∀ S, slD (.str u) (some ((p : Int) + 1)) none S = some (.str (u.drop (p + 1))) := fun S => by
      have e : (p : Int) + 1 = ((p + 1 : Nat) : Int) := by omega
      rw [e, slD_str wl, cut_drop]
    have a1 : ∀ S, addD (.str (u.take p)) (.str [c]) S = some (.str (u.take p ++ [c])) := fun S => addD_str (by simp; omega)
    have a2 : ∀ S, addD (.str (u.take p ++ [c])) (.str (u.drop (p + 1))) S = some (.str (u.take p ++ [c] ++ u.drop (p + 1))) := fun S => addD_str (by simp; omega)
    refine ⟨u.take p ++ [c] ++ u.drop (p + 1), S1, ?_, ⟨?_, fun x hx => ?_⟩, b1⟩
    · unfold b4
      rw [sIf_t tt]
      simp only [sSeq, sSetI, sSetIN, sBind, iOp, M.bind, lift, iVar, iC, M.ret, sIf, iTst, isB, iCB, iCons, iNil, sRet, sNext, sAsg, sExpr, sPar, sPar3, iCall, iIf, iOr, iAnd, iNot, iNotV, iAndV, iOrV, M.no, iLstM, iLst, iTup, sAsgG, ngD, nsD, iSl, iPart, iNoPart, iBM, iCM, iYes, List.getD_cons_zero, List.getD_cons_succ, s1, d1', s2, a1, a2, addD_int, List.length_cons, List.length_nil, if_true, List.set_cons_succ, List.set_cons_zero]
    · simp
      omega
    · rcases List.mem_append.mp hx with front | back
      · rcases List.mem_append.mp front with old | new
        · exact hu.2 x (List.mem_of_mem_take old)
        · rw [List.mem_singleton.mp new]
          exact hc
      · exact hu.2 x (List.mem_of_mem_drop back)
theorem b5_ok (k2 : k ≤ 6) (hp : p < k) (hu : Wd l k u) (hv : Wd l k v) : ∃ v', b5 [some (.ref n), x1, x2, x3, x4, x5, x6, some (.str v), x8, x9, x10, x11, some (.str u), some (.int (y : Int)), some (.int (p : Int))] S = .ok (.nx [some (.ref n), x1, x2, x3, x4, x5, x6, some (.str v'), x8, x9, x10, x11, some (.str u), some (.int (y : Int)), some (.int (p : Int))]) S ∧ Wd l k v' := by
  have tt : iTst (iOp eqD (iVar 13) (iC (.int 4))) [some (.ref n), x1, x2, x3, x4, x5, x6, some (.str v), x8, x9, x10, x11, some (.str u), some (.int (y : Int)), some (.int (p : Int))] S = .ok (decide ((y : Int) = 4)) S := by
    simp only [iTst, iOp, iVar, iC, M.bind, M.ret, lift, List.getD_cons_zero, List.getD_cons_succ, eqD_int, isB]
  by_cases h : (y : Int) = 4
  · rw [decide_eq_true h] at tt
    have ul := hu.1
    have wl : u.length ≤ 100000 := by omega
    have s1 : ∀ S, slD (.str u) none (some (p : Int)) S = some (.str (u.take p)) := fun S => by rw [slD_str wl, cut_take]
    have s2 : ∀ S, slD (.str u) (some (p : Int)) none S = some (.str (u.drop p)) := fun S => by rw [slD_str wl, cut_drop]
    have a1 : ∀ S, addD (.str (u.drop p)) (.str (u.take p)) S = some (.str (u.drop p ++ u.take p)) := fun S => addD_str (by simp; omega)
    refine ⟨u.drop p ++ u.take p, ?_, ?_, fun x hx => ?_⟩
    · unfold b5
      rw [sIf_t tt]
      simp only [sSeq, sSetI, sSetIN, sBind, iOp, M.bind, lift, iVar, iC, M.ret, sIf, iTst, isB, iCB, iCons, iNil, sRet, sNext, sAsg, sExpr, sPar, sPar3, iCall, iIf, iOr, iAnd, iNot, iNotV, iAndV, iOrV, M.no, iLstM, iLst, iTup, sAsgG, ngD, nsD, iSl, iPart, iNoPart, iBM, iCM, iYes, List.getD_cons_zero, List.getD_cons_succ, s1, s2, a1, List.set_cons_succ, List.set_cons_zero]
    · simp
      omega
    · rcases List.mem_append.mp hx with front | back
      · exact hu.2 x (List.mem_of_mem_drop front)
      · exact hu.2 x (List.mem_of_mem_take back)
  · rw [decide_eq_false h] at tt
    refine ⟨v, ?_, hv⟩
    unfold b5
    rw [sIf_f tt]
    rfl
end
section
variable {u v : List Nat} {gs os : List (List Nat)}
theorem rep_b (b : Bool) : ∃ t, ∀ S, reprD [.bl b] S = some (.str t) := by
  cases b
  · exact ⟨_, fun S => rfl⟩
  · exact ⟨_, fun S => rfl⟩
theorem rep_b2 (b : Bool) : ∃ t, ∀ S, reprD [.lst [.bl b, .bl b]] S = some (.str t) := by
  cases b
  · exact ⟨_, fun S => rfl⟩
  · exact ⟨_, fun S => rfl⟩
theorem b6_ok (k2 : k ≤ 6) (hg : gs.length ≤ 4) (g : ∀ w ∈ gs, Wd l k w) (ho : os.length ≤ 4) (o : ∀ w ∈ os, Wd l k w) (hu : Wd l k u) (hv : Wd l k v) : ∃ S', b6 [some (.ref n), some (.lst (gs.map D.str)), some (.lst (os.map D.str)), x3, x4, x5, x6, some (.str v), x8, x9, x10, x11, some (.str u), x13, x14] S = .ok (.nx [some (.ref n), some (.lst (gs.map D.str)), some (.lst (os.map D.str)), x3, x4, x5, x6, some (.str v), some (.bl (partB gs os u v)), x9, x10, x11, some (.str u), x13, x14]) S' ∧ Kq S S' := by
  obtain ⟨S1, e, q⟩ := dueP_ok (S := S) (l := l) (k := k) (u := u) (v := v) (by omega) (by omega) g (by omega) o hu.1 hv.1
  have e' : d_due [.lst (gs.map D.str), .lst (os.map D.str), .str u, .str v] S = .ok (.bl (partB gs os u v)) S1 := e
  refine ⟨S1, ?_, q⟩
  unfold b6
  simp only [sSeq, sSetI, sSetIN, sBind, iOp, M.bind, lift, iVar, iC, M.ret, sIf, iTst, isB, iCB, iCons, iNil, sRet, sNext, sAsg, sExpr, sPar, sPar3, iCall, iIf, iOr, iAnd, iNot, iNotV, iAndV, iOrV, M.no, iLstM, iLst, iTup, sAsgG, ngD, nsD, iSl, iPart, iNoPart, iBM, iCM, iYes, List.getD_cons_zero, List.getD_cons_succ, List.length_cons, List.length_nil, Nat.reduceAdd, if_true, e', List.set_cons_succ, List.set_cons_zero]
theorem hold_ok (sg : Sg l) (h2 : 2 ≤ l.length) (k1 : 1 ≤ k) (k2 : k ≤ 6) (hg : gs.length ≤ 4) (g : ∀ w ∈ gs, Wd l k w) (ho : os.length ≤ 4) (o : ∀ w ∈ os, Wd l k w) (hu : Wd l k u) (hv : Wd l k v) : ∃ S', d_holds [prt l k gs os, .tup [.str u, .str v]] S = .ok (.bl (partB gs os u v)) S' ∧ Kq S S' :=
  holdsP_ok TT CS TB sNever sNever sNever hT sg h2 k1 k2 (by omega) g (by omega) o fun S => showsP_ok TT CS TB hT (by omega) (by omega) g (by omega) o hu hv
theorem hold_no {d : D} (sg : Sg l) (h2 : 2 ≤ l.length) (k1 : 1 ≤ k) (k2 : k ≤ 6) (hg : gs.length ≤ 4) (g : ∀ w ∈ gs, Wd l k w) (ho : os.length ≤ 4) (o : ∀ w ∈ os, Wd l k w) (hd : NoPair l k d) : ∃ S', d_holds [prt l k gs os, d] S = .ok (.bl false) S' ∧ Kq S S' :=
  holdsP_ok TT CS TB sNever sNever sNever hT sg h2 k1 k2 (by omega) g (by omega) o fun S => showsP_no TT CS TB hT (by omega) hd
theorem b7_ok (sg : Sg l) (h2 : 2 ≤ l.length) (k1 : 1 ≤ k) (k2 : k ≤ 6) (hg : gs.length ≤ 4) (g : ∀ w ∈ gs, Wd l k w) (ho : os.length ≤ 4) (o : ∀ w ∈ os, Wd l k w) (hu : Wd l k u) (hv : Wd l k v) : ∃ S', b7 [some (.ref n), x1, x2, some (prt l k gs os), x4, x5, x6, some (.str v), some (.bl (partB gs os u v)), x9, x10, x11, some (.str u), x13, x14] S = .ok (.nx [some (.ref n), x1, x2, some (prt l k gs os), x4, x5, x6, some (.str v), some (.bl (partB gs os u v)), x9, x10, x11, some (.str u), x13, x14]) S' ∧ Kq S S' := by
  obtain ⟨S1, e1, q1⟩ := hold_ok (S := S) sg h2 k1 k2 hg g ho o hu hv
  obtain ⟨S2, e2, q2⟩ := hold_ok (S := S1) sg h2 k1 k2 hg g ho o hv hu
  rw [part_symm gs os v u] at e2
  obtain ⟨t, ht⟩ := rep_b2 (partB gs os u v)
  refine ⟨S2, ?_, q1.trans q2⟩
  unfold b7
  simp only [sIf, sBind, iTst, iOp, iCB, iCall, iLst, iTup, iCons, iNil, iVar, M.bind, M.ret, lift, List.getD_cons_zero, List.getD_cons_succ, List.length_cons, List.length_nil, Nat.reduceAdd, Nat.reduceLeDiff, if_true, e1, e2, ht, ne_same, isB, Bool.false_eq_true, if_false, sNext]
theorem b9_ok (sg : Sg l) (h2 : 2 ≤ l.length) (k1 : 1 ≤ k) (k2 : k ≤ 6) (hg : gs.length ≤ 4) (g : ∀ w ∈ gs, Wd l k w) (ho : os.length ≤ 4) (o : ∀ w ∈ os, Wd l k w) (hu : Wd l k u) (hv : Wd l k v) : ∃ S', b9 [some (.ref n), some (.lst (gs.map D.str)), some (.lst (os.map D.str)), x3, x4, x5, x6, some (.str v), x8, some (prt l k os gs), x10, x11, some (.str u), x13, x14] S = .ok (.nx [some (.ref n), some (.lst (gs.map D.str)), some (.lst (os.map D.str)), x3, x4, x5, x6, some (.str v), x8, some (prt l k os gs), x10, x11, some (.str u), x13, x14]) S' ∧ Kq S S' := by
  obtain ⟨S1, e1, q1⟩ := hold_ok (S := S) (gs := os) (os := gs) sg h2 k1 k2 ho o hg g hu hv
  obtain ⟨S2, e2, q2⟩ := dueP_ok (S := S1) (l := l) (k := k) (u := u) (v := v) (gs := os) (os := gs) (by omega) (by omega) o (by omega) g hu.1 hv.1
  have e2' : d_due [.lst (os.map D.str), .lst (gs.map D.str), .str u, .str v] S1 = .ok (.bl (partB os gs u v)) S2 := e2
  obtain ⟨t, ht⟩ := rep_b (partB os gs u v)
  refine ⟨S2, ?_, q1.trans q2⟩
  unfold b9
  simp only [sIf, sBind, iTst, iOp, iCB, iCall, iTup, iCons, iNil, iVar, M.bind, M.ret, lift, List.getD_cons_zero, List.getD_cons_succ, List.length_cons, List.length_nil, Nat.reduceAdd, Nat.reduceLeDiff, if_true, e1, e2', ht, ne_same, isB, Bool.false_eq_true, if_false, sNext]
theorem notK_of {d : D} {t m : String} (h : knd d = some t) (q : L2.kitB t m = some false) : notK m d = true := by
  unfold notK
  rw [h]
  exact decide_eq_true q
def wrongs (u v : List Nat) : List D := [.lst [.str u, .str v], .tup [.str u], .tup [.str u, .str v, .str v], .tup [.str u, .non], .tup [.str (u ++ [97]), .str v], .tup [.str (u.drop 1), .str v], .str u, .non]
theorem wrongs_no (k1 : 1 ≤ k) (k2 : k ≤ 6) (hu : Wd l k u) (hv : Wd l k v) : ∀ d ∈ wrongs u v ++ [.tup [.str u, .int 5]], NoPair l k d := by
  have ul := hu.1
  have vl := hv.1
  intro d hd
  simp only [wrongs, List.cons_append, List.nil_append, List.mem_cons, List.not_mem_nil, or_false] at hd
  rcases hd with rfl | rfl | rfl | rfl | rfl | rfl | rfl | rfl | rfl
  · exact .kind (notK_of (t := "list") rfl (by decide +kernel))
  · exact .len (by simp)
  · exact .len (by simp)
  · exact .two hu (notK_of (t := "NoneType") rfl (by decide +kernel))
  · refine .one (by simp; omega) ?_ ⟨v, rfl, by omega⟩
    have : ¬ (u ++ [97]).length = k := by simp; omega
    simp only [wordB, this, decide_false, Bool.false_and]
  · refine .one (by simp; omega) ?_ ⟨v, rfl, by omega⟩
    have : ¬ (u.drop 1).length = k := by simp; omega
    simp only [wordB, this, decide_false, Bool.false_and]
  · exact .kind (notK_of (t := "str") rfl (by decide +kernel))
  · exact .kind (notK_of (t := "NoneType") rfl (by decide +kernel))
  · exact .two hu (notK_of (t := "int") rfl (by decide +kernel))
theorem b10_ok (b : Bw S n) (k2 : k ≤ 6) (hu : Wd l k u) : ∃ S', (sSeq b10 (sSeq b11 (sFrz 10))) [some (.ref n), x1, x2, x3, x4, x5, x6, some (.str v), x8, x9, x10, x11, some (.str u), x13, x14] S = .ok (.nx [some (.ref n), x1, x2, x3, x4, x5, x6, some (.str v), x8, x9, some (.lst (wrongs u v ++ [.tup [.str u, .int 5]])), x11, some (.str u), x13, x14]) S' ∧ Bw S' n := by
  have ul := hu.1
  have wl : u.length ≤ 100000 := by omega
  have s1 : ∀ S, slD (.str u) (some 1) none S = some (.str (u.drop 1)) := fun S => by
    have := cut_drop u 1
    rw [slD_str wl]
    exact congrArg (fun z => some (D.str z)) this
  have a1 : ∀ S, addD (.str u) (.str [97]) S = some (.str (u ++ [97])) := fun S => addD_str (by simp; omega)
  have e1 : b10 [some (.ref n), x1, x2, x3, x4, x5, x6, some (.str v), x8, x9, x10, x11, some (.str u), x13, x14] S = .ok (.nx [some (.ref n), x1, x2, x3, x4, x5, x6, some (.str v), x8, x9, some (.ref S.next), x11, some (.str u), x13, x14]) (S.alloc (.lst (wrongs u v))) := by
    unfold b10 wrongs
    simp only [sSeq, sSetI, sSetIN, sBind, iOp, M.bind, lift, iVar, iC, M.ret, sIf, iTst, isB, iCB, iCons, iNil, sRet, sNext, sAsg, sExpr, sPar, sPar3, iCall, iIf, iOr, iAnd, iNot, iNotV, iAndV, iOrV, M.no, iLstM, iLst, iTup, sAsgG, ngD, nsD, iSl, iPart, iNoPart, iBM, iCM, iYes, List.getD_cons_zero, List.getD_cons_succ, s1, a1, List.length_cons, List.length_nil, Nat.reduceAdd, Nat.reduceLeDiff, if_true, List.set_cons_succ, List.set_cons_zero]
  obtain ⟨S2, e2, g2, _, q2⟩ := app_seen (S := S.alloc (.lst (wrongs u v))) (S' := S.alloc (.lst (wrongs u v))) (m := S.next) (i := 10) (xs := wrongs u v) (g := .tup [.str u, .int 5]) (ρ := [some (.ref n), x1, x2, x3, x4, x5, x6, some (.str v), x8, x9, some (.ref S.next), x11, some (.str u), x13, x14]) (ie := iTup (iCons (iVar 12) (iCons (iC (.int 5)) iNil))) rfl (Nat.lt_succ_self _) (Store.get_alloc_self ..) rfl (Kq.refl _) (by simp [wrongs])
  have e3 := frz_seen (S := S2) (m := S.next) (i := 10) (ρ := [some (.ref n), x1, x2, x3, x4, x5, x6, some (.str v), x8, x9, some (.ref S.next), x11, some (.str u), x13, x14]) rfl g2
  have nn : n ≠ S.next := Nat.ne_of_lt b.1
  exact ⟨S2.del S.next, (sSeq_nx e1).trans ((sSeq_nx e2).trans e3), ((b.kq kq_alloc).kp q2 nn).del nn⟩
theorem b13_ok (b : Bw S n) (sg : Sg l) (h2 : 2 ≤ l.length) (k1 : 1 ≤ k) (k2 : k ≤ 6) (hg : gs.length ≤ 4) (g : ∀ w ∈ gs, Wd l k w) (ho : os.length ≤ 4) (o : ∀ w ∈ os, Wd l k w) (hu : Wd l k u) (hv : Wd l k v) : ∃ S', b13 [some (.ref n), x1, x2, some (prt l k gs os), x4, x5, x6, x7, x8, x9, some (.lst (wrongs u v ++ [.tup [.str u, .int 5]])), x11, x12, x13, x14] S = .ok (.nx [some (.ref n), x1, x2, some (prt l k gs os), x4, x5, x6, x7, x8, x9, some (.lst (wrongs u v ++ [.tup [.str u, .int 5]])), x11, x12, x13, x14]) S' ∧ Bw S' n := by
  obtain ⟨q, S1, d1, q0, q1, b1, _⟩ := draw_ok (k := 9) b (by omega) (by omega)
  obtain ⟨q, rfl⟩ := Int.eq_ofNat_of_zero_le q0
  have d1' : d_draw [.ref n, .int 9] S = .ok (.int (q : Int)) S1 := d1
  have hq : q < (wrongs u v ++ [D.tup [.str u, .int 5]]).length := by simp [wrongs]; omega
  have ix := ixD_lst (S := S1) hq
  obtain ⟨S2, e2, q2⟩ := hold_no (S := S1) (d := (wrongs u v ++ [D.tup [.str u, .int 5]])[q]) sg h2 k1 k2 hg g ho o (wrongs_no k1 k2 hu hv _ (List.getElem_mem _))
  have rp : reprD [.bl false] S2 = some (.str [70, 97, 108, 115, 101]) := rfl
  refine ⟨S2, ?_, b1.kq q2⟩
  unfold b13
  simp only [sIf, sBind, iTst, iOp, iCB, iCall, iCons, iNil, iVar, iC, M.bind, M.ret, lift, List.getD_cons_zero, List.getD_cons_succ, List.length_cons, List.length_nil, Nat.reduceAdd, if_true, d1', ix, e2, rp, ne_same, isB, Bool.false_eq_true, if_false, sNext]
theorem turn_ok (b : Bw S n) (sg : Sg l) (h2 : 2 ≤ l.length) (k1 : 1 ≤ k) (k2 : k ≤ 6) (hg : gs.length ≤ 4) (g : ∀ w ∈ gs, Wd l k w) (ho : os.length ≤ 4) (o : ∀ w ∈ os, Wd l k w) : ∃ (y7 y8 y9 y10 y12 y13 y14 : Option D) (S' : Store), turn [some (.ref n), some (.lst (gs.map D.str)), some (.lst (os.map D.str)), some (prt l k gs os), x4, some (.str l), some (.int (k : Int)), x7, x8, x9, x10, x11, x12, x13, x14] S = .ok (.nx [some (.ref n), some (.lst (gs.map D.str)), some (.lst (os.map D.str)), some (prt l k gs os), x4, some (.str l), some (.int (k : Int)), y7, y8, y9, y10, x11, y12, y13, y14]) S' ∧ Bw S' n := by
  have hl := sg.len
  obtain ⟨u, y, p, S1, e1, hu, _, hp, b1⟩ := b1_ok (k := k) (x1 := some (.lst (gs.map D.str))) (x2 := some (.lst (os.map D.str))) (x3 := some (prt l k gs os)) (x4 := x4) (x7 := x7) (x8 := x8) (x9 := x9) (x10 := x10) (x11 := x11) (x12 := x12) (x13 := x13) (x14 := x14) b h2 hl k1 k2
  obtain ⟨v, S2, e2, hv, b2⟩ := b2_ok (k := k) (x1 := some (.lst (gs.map D.str))) (x2 := some (.lst (os.map D.str))) (x3 := some (prt l k gs os)) (x4 := x4) (x7 := x7) (x8 := x8) (x9 := x9) (x10 := x10) (x11 := x11) (x12 := some (.str u)) (x13 := some (.int (y : Int))) (x14 := some (.int (p : Int))) b1 h2 hl k2
  obtain ⟨v, e3, hv⟩ := b3_ok (S := S2) (n := n) (y := y) (x1 := some (.lst (gs.map D.str))) (x2 := some (.lst (os.map D.str))) (x3 := some (prt l k gs os)) (x4 := x4) (x5 := some (.str l)) (x6 := some (.int (k : Int))) (x8 := x8) (x9 := x9) (x10 := x10) (x11 := x11) (x14 := some (.int (p : Int))) hu hv
  obtain ⟨v, S4, e4, hv, b4⟩ := b4_ok (y := y) (p := p) (x1 := some (.lst (gs.map D.str))) (x2 := some (.lst (os.map D.str))) (x3 := some (prt l k gs os)) (x4 := x4) (x6 := some (.int (k : Int))) (x8 := x8) (x9 := x9) (x10 := x10) (x11 := x11) b2 h2 hl k2 hp hu hv
  obtain ⟨v, e5, hv⟩ := b5_ok (S := S4) (n := n) (y := y) (p := p) (x1 := some (.lst (gs.map D.str))) (x2 := some (.lst (os.map D.str))) (x3 := some (prt l k gs os)) (x4 := x4) (x5 := some (.str l)) (x6 := some (.int (k : Int))) (x8 := x8) (x9 := x9) (x10 := x10) (x11 := x11) k2 hp hu hv
  obtain ⟨S6, e6, q6⟩ := b6_ok (S := S4) (n := n) (x3 := some (prt l k gs os)) (x4 := x4) (x5 := some (.str l)) (x6 := some (.int (k : Int))) (x8 := x8) (x9 := x9) (x10 := x10) (x11 := x11) (x13 := some (.int (y : Int))) (x14 := some (.int (p : Int))) k2 hg g ho o hu hv
  obtain ⟨S7, e7, q7⟩ := b7_ok (S := S6) (n := n) (x1 := some (.lst (gs.map D.str))) (x2 := some (.lst (os.map D.str))) (x4 := x4) (x5 := some (.str l)) (x6 := some (.int (k : Int))) (x9 := x9) (x10 := x10) (x11 := x11) (x13 := some (.int (y : Int))) (x14 := some (.int (p : Int))) sg h2 k1 k2 hg g ho o hu hv
  have e8 : b8 [some (.ref n), some (.lst (gs.map D.str)), some (.lst (os.map D.str)), some (prt l k gs os), x4, some (.str l), some (.int (k : Int)), some (.str v), some (.bl (partB gs os u v)), x9, x10, x11, some (.str u), some (.int (y : Int)), some (.int (p : Int))] S7 = .ok (.nx [some (.ref n), some (.lst (gs.map D.str)), some (.lst (os.map D.str)), some (prt l k gs os), x4, some (.str l), some (.int (k : Int)), some (.str v), some (.bl (partB gs os u v)), some (prt l k os gs), x10, x11, some (.str u), some (.int (y : Int)), some (.int (p : Int))]) S7 := asg_of (cl_ok (l := l) (k := k) (gs := os) (os := gs) rfl rfl rfl rfl)
  obtain ⟨S9, e9, q9⟩ := b9_ok (S := S7) (n := n) (x3 := some (prt l k gs os)) (x4 := x4) (x5 := some (.str l)) (x6 := some (.int (k : Int))) (x8 := some (.bl (partB gs os u v))) (x10 := x10) (x11 := x11) (x13 := some (.int (y : Int))) (x14 := some (.int (p : Int))) sg h2 k1 k2 hg g ho o hu hv
  have b9 := ((b4.kq q6).kq q7).kq q9
  obtain ⟨S12, e12, b12⟩ := b10_ok (v := v) (x1 := some (.lst (gs.map D.str))) (x2 := some (.lst (os.map D.str))) (x3 := some (prt l k gs os)) (x4 := x4) (x5 := some (.str l)) (x6 := some (.int (k : Int))) (x8 := some (.bl (partB gs os u v))) (x9 := some (prt l k os gs)) (x10 := x10) (x11 := x11) (x13 := some (.int (y : Int))) (x14 := some (.int (p : Int))) b9 k2 hu
  obtain ⟨S13, e13, b13⟩ := b13_ok (x1 := some (.lst (gs.map D.str))) (x2 := some (.lst (os.map D.str))) (x4 := x4) (x5 := some (.str l)) (x6 := some (.int (k : Int))) (x7 := some (.str v)) (x8 := some (.bl (partB gs os u v))) (x9 := some (prt l k os gs)) (x11 := x11) (x12 := some (.str u)) (x13 := some (.int (y : Int))) (x14 := some (.int (p : Int))) b12 sg h2 k1 k2 hg g ho o hu hv
  have assoc : ∀ (a b c d : IS) ρ S, sSeq (sSeq a (sSeq b c)) d ρ S = sSeq a (sSeq b (sSeq c d)) ρ S := fun a b c d ρ S => by
    unfold sSeq
    cases a ρ S with
    | ok fl S' =>
      cases fl with
      | nx ρ1 =>
        dsimp only
        cases b ρ1 S' with
        | ok fl S' => cases fl <;> rfl
        | _ => rfl
      | _ => rfl
    | _ => rfl
  refine ⟨some (.str v), some (.bl (partB gs os u v)), some (prt l k os gs), some (.lst (wrongs u v ++ [.tup [.str u, .int 5]])), some (.str u), some (.int (y : Int)), some (.int (p : Int)), S13, ?_, b13⟩
  unfold turn
  rw [sSeq_nx e1, sSeq_nx e2, sSeq_nx e3, sSeq_nx e4, sSeq_nx e5, sSeq_nx e6, sSeq_nx e7, sSeq_nx e8, sSeq_nx e9]
  exact (assoc _ _ _ _ _ _).symm.trans ((sSeq_nx e12).trans e13)
end
theorem right_ok (b : Bw S n) : ∃ S', d_right [.ref n] S = .ok (.bl true) S' := by
  obtain ⟨l, k, S1, e1, sg, h2, k1, k2, b1⟩ := r1_ok (S := S) (n := n) (x1 := none) (x2 := none) (x3 := none) (x4 := none) (x5 := none) (x6 := none) (x7 := none) (x8 := none) (x9 := none) (x10 := none) (x11 := none) (x12 := none) (x13 := none) (x14 := none) b
  have hl := sg.len
  obtain ⟨gs, S2, a2, hg, g, b2⟩ := tx_ok (k := k) (x1 := none) (x2 := none) (x3 := none) (x4 := none) (x7 := none) (x8 := none) (x9 := none) (x10 := none) (x11 := none) (x12 := none) (x13 := none) (x14 := none) b1 h2 hl k2
  have e2 : r2 [some (.ref n), none, none, none, none, some (.str l), some (.int (k : Int)), none, none, none, none, none, none, none, none] S1 = .ok (.nx [some (.ref n), some (.lst (gs.map D.str)), none, none, none, some (.str l), some (.int (k : Int)), none, none, none, none, none, none, none, none]) S2 := asg_of a2
  obtain ⟨os, S3, a3, ho, o, b3⟩ := tx_ok (k := k) (x1 := some (.lst (gs.map D.str))) (x2 := none) (x3 := none) (x4 := none) (x7 := none) (x8 := none) (x9 := none) (x10 := none) (x11 := none) (x12 := none) (x13 := none) (x14 := none) b2 h2 hl k2
  have e3 : r3 [some (.ref n), some (.lst (gs.map D.str)), none, none, none, some (.str l), some (.int (k : Int)), none, none, none, none, none, none, none, none] S2 = .ok (.nx [some (.ref n), some (.lst (gs.map D.str)), some (.lst (os.map D.str)), none, none, some (.str l), some (.int (k : Int)), none, none, none, none, none, none, none, none]) S3 := asg_of a3
  have e4 : r4 [some (.ref n), some (.lst (gs.map D.str)), some (.lst (os.map D.str)), none, none, some (.str l), some (.int (k : Int)), none, none, none, none, none, none, none, none] S3 = .ok (.nx [some (.ref n), some (.lst (gs.map D.str)), some (.lst (os.map D.str)), some (prt l k gs os), none, some (.str l), some (.int (k : Int)), none, none, none, none, none, none, none, none]) S3 := asg_of (cl_ok (l := l) (k := k) (gs := gs) (os := os) rfl rfl rfl rfl)
  have key := forL_inv (g := .n 4) (body := turn) (fun _ ρ S' => Bw S' n ∧ ∃ y4 y7 y8 y9 y10 y12 y13 y14 : Option D, ρ = [some (.ref n), some (.lst (gs.map D.str)), some (.lst (os.map D.str)), some (prt l k gs os), y4, some (.str l), some (.int (k : Int)), y7, y8, y9, y10, none, y12, y13, y14]) (rng 0 8) 0 [some (.ref n), some (.lst (gs.map D.str)), some (.lst (os.map D.str)), some (prt l k gs os), none, some (.str l), some (.int (k : Int)), none, none, none, none, none, none, none, none] S3 ⟨b3, none, none, none, none, none, none, none, none, rfl⟩ (by
    rintro j x ρ S4 hx ⟨b4, y4, y7, y8, y9, y10, y12, y13, y14, rfl⟩
    obtain ⟨z7, z8, z9, z10, z12, z13, z14, S5, e, b5⟩ := turn_ok (x4 := some x) (x7 := y7) (x8 := y8) (x9 := y9) (x10 := y10) (x11 := none) (x12 := y12) (x13 := y13) (x14 := y14) b4 sg h2 k1 k2 hg g ho o
    exact ⟨_, _, S5, rfl, e, b5, some x, z7, z8, z9, z10, z12, z13, z14, rfl⟩)
  obtain ⟨ρ', S5, e5, _, _⟩ := key
  refine ⟨S5.trim S.next, defJ_rt ?_⟩
  have e0 : startR 15 [.ref n] = [some (.ref n), none, none, none, none, none, none, none, none, none, none, none, none, none, none] := rfl
  have e5' : r5 [some (.ref n), some (.lst (gs.map D.str)), some (.lst (os.map D.str)), some (prt l k gs os), none, some (.str l), some (.int (k : Int)), none, none, none, none, none, none, none, none] S3 = .ok (.nx ρ') S5 := by
    rw [r5_is, ← e5]
    rfl
  rw [e0, right_is, sSeq_nx e1, sSeq_nx e2, sSeq_nx e3, sSeq_nx e4, sSeq_nx e5']
  rfl
end
theorem plain (ns : List Int) (h : ns.length ≤ 63) : ∃ S', d_law [.scr (ns.map D.int)] ⟨[], 0⟩ = .ok (.bl true) S' := by
  rw [law_is]
  exact law_genW 5 (by omega) (by omega) (fun b => right_ok b) ns h
end K73
theorem PySem.Challenge.cw_guessmarks_k73_pairs_judged_holds : PySem.Challenge.rw_guessmarks_k73_pairs_judged.Holds := by
  exact K73.k73_holds K73.plain
