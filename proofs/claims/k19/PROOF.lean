import PyProof.Rows.All
import Wide.All
import OpenK.AllK
import Wide.FinOn
import HandS.ForMost
import HandS.ForExc
import HandS.CallSlots
import HandS.HeadHook2
import HandS.HeadHook4
import HandS.Lambda
import HandS.IsInst
import HandS.TupAny
import HandS.TupMul
import HandS.Replace
import HandS.Head2
import HandS.HeadEnd
import KE.GoesNew
import HandS.Star
import HandS.DictComp
import HandS.ExcInit
import HandS.ExcField
import HandS.ExcIs
import HandS.TryMany
import KE.KExcIs
import KE.KRevSl
import KE.KDictWalk
import KE.KDictDisplayH
import HandS.Conv
import PyProof.SeqRoads2
import PyProof.Rows.SortShellAny
import PyProof.Rows.CountFlat
import HandS.HotCalls
import KE.KExcInit
import HandS.ExcOwn
import HandS.Strs
import HandS.Codes
import HandS.Property
import HandS.FStr
import HandS.Zip
import HandS.Style
import KE.GoesEnum
import KE.DatumOrd
import PyProof.Claim2Refuses
import HandS.Set
import HandS.SetFor
import PyProof.Rows.ReprOcc
import PySem.Challenge.RW_guessmarks_k19_whole_letters_tried
set_option Elab.async false
set_option linter.all false
set_option maxRecDepth 100000
set_option maxHeartbeats 4010000
/-! J0: values as trees, a small store, the monad, how they stand in the abstract heap -/
namespace J
open PySem PySem.Spec L2
inductive Ky where
  | i (n : Int) | s (x : List Nat)
  deriving DecidableEq
/-- a value: what never changes is a tree; ref n: the n-th object of the store -/
inductive D where
  | non | bl (b : Bool) | int (i : Int) | str (x : List Nat) | ty (n : String) | glo (c : Nat)
  | tup (xs : List D) | lst (xs : List D) | scr (xs : List D) | dct (ks : List Ky) (xs : List D) | dcu (ks : List (List Ky)) (xs : List D) | ins (c : Nat) (xs : List D) | exn (c : Nat) (fl : List Nat) (xs : List D) | ref (n : Nat)
inductive MO where
  | lst (xs : List D) | dct (kvs : List (Ky × D)) | dcT (kvs : List (List Ky × D)) | ins (c : Nat) (fs : List (Nat × D))
structure Store where
  objs : List (Nat × MO)
  next : Nat
def getO (n : Nat) : List (Nat × MO) → Option MO
  | [] => none
  | (m, o) :: r => if m = n then some o else getO n r
def putO (n : Nat) (o : MO) : List (Nat × MO) → List (Nat × MO)
  | [] => [(n, o)]
  | (m, u) :: r => if m = n then (n, o) :: r else (m, u) :: putO n o r
def Store.get (S : Store) (n : Nat) : Option MO := getO n S.objs
def Store.set (S : Store) (n : Nat) (o : MO) : Store := ⟨putO n o S.objs, S.next⟩
def Store.alloc (S : Store) (o : MO) : Store := ⟨(S.next, o) :: S.objs, S.next + 1⟩
def dropO (n : Nat) : List (Nat × MO) → List (Nat × MO)
  | [] => []
  | (m, u) :: r => if m = n then dropO n r else (m, u) :: dropO n r
def trimO (N : Nat) : List (Nat × MO) → List (Nat × MO)
  | [] => []
  | (m, u) :: r => if m < N then (m, u) :: trimO N r else trimO N r
def Store.del (S : Store) (n : Nat) : Store := ⟨dropO n S.objs, S.next⟩
def Store.trim (S : Store) (N : Nat) : Store := ⟨trimO N S.objs, S.next⟩
theorem getO_put_self {n : Nat} {o : MO} : ∀ l, getO n (putO n o l) = some o
  | [] => by simp [putO, getO]
  | (m, u) :: r => by
    unfold putO
    split
    · simp [getO]
    · rename_i h
      simp only [getO, if_neg h]
      exact getO_put_self r
theorem getO_put_ne {n m : Nat} {o : MO} (h : m ≠ n) : ∀ l, getO m (putO n o l) = getO m l
  | [] => by simp [putO, getO, Ne.symm h]
  | (k, u) :: r => by
    unfold putO
    split
    · rename_i e
      subst e
      simp only [getO, if_neg (Ne.symm h)]
    · simp only [getO]
      rw [getO_put_ne h r]
theorem getO_drop {n m : Nat} : ∀ l, getO m (dropO n l) = if m = n then none else getO m l
  | [] => by simp [dropO, getO]
  | (k, u) :: r => by
    unfold dropO
    split
    · rename_i e
      subst e
      rw [getO_drop r]
      by_cases h : m = k
      · simp [h]
      · simp [h, getO, Ne.symm h]
    · rename_i e
      simp only [getO]
      rw [getO_drop r]
      by_cases h : m = n
      · subst h
        simp [e]
      · simp [h]
theorem getO_trim {N m : Nat} : ∀ l, getO m (trimO N l) = if m < N then getO m l else none
  | [] => by simp [trimO, getO]
  | (k, u) :: r => by
    unfold trimO
    split
    · rename_i e
      simp only [getO]
      rw [getO_trim r]
      by_cases h : k = m
      · subst h; simp [e]
      · simp [h]
    · rename_i e
      rw [getO_trim r]
      by_cases h : k = m
      · subst h; simp [e]
      · simp [getO, h]
@[simp] theorem Store.get_set_self (S : Store) (n : Nat) (o : MO) : (S.set n o).get n = some o := getO_put_self _
theorem Store.get_set_ne (S : Store) {n m : Nat} (o : MO) (h : m ≠ n) : (S.set n o).get m = S.get m := getO_put_ne h _
@[simp] theorem Store.next_set (S : Store) (n : Nat) (o : MO) : (S.set n o).next = S.next := rfl
@[simp] theorem Store.next_alloc (S : Store) (o : MO) : (S.alloc o).next = S.next + 1 := rfl
@[simp] theorem Store.next_del (S : Store) (n : Nat) : (S.del n).next = S.next := rfl
@[simp] theorem Store.next_trim (S : Store) (n : Nat) : (S.trim n).next = S.next := rfl
@[simp] theorem Store.get_alloc_self (S : Store) (o : MO) : (S.alloc o).get S.next = some o := by simp [Store.alloc, Store.get, getO]
theorem Store.get_alloc_ne (S : Store) (o : MO) {n : Nat} (h : n ≠ S.next) : (S.alloc o).get n = S.get n := by
  simp [Store.alloc, Store.get, getO, Ne.symm h]
theorem Store.get_del (S : Store) (n m : Nat) : (S.del n).get m = if m = n then none else S.get m := getO_drop _
theorem Store.get_trim (S : Store) (N m : Nat) : (S.trim N).get m = if m < N then S.get m else none := getO_trim _
/-! ### the monad -/
inductive R (α : Type) where
  | ok (a : α) (S : Store) | ex (c : Nat) (fs : List (Nat × D)) (S : Store) | no
abbrev M (α : Type) := Store → R α
def M.ret {α : Type} (a : α) : M α := fun S => .ok a S
def M.bind {α β : Type} (m : M α) (k : α → M β) : M β := fun S => match m S with
  | .ok a S' => k a S'
  | .ex c fs S' => .ex c fs S'
  | .no => .no
def M.no {α : Type} : M α := fun _ => .no
instance : Monad M where
  pure := M.ret
  bind := M.bind
abbrev Rho := List (Option D)
abbrev IE := Rho → M D
abbrev IT := Rho → M Bool
abbrev IA := Rho → M (List D)
/-- what a statement does -/
inductive Fl where
  | nx (ρ : Rho) | rt (d : D) | bk (ρ : Rho) | ct (ρ : Rho) | xx (c : Nat) (fs : List (Nat × D)) (ρ : Rho)
abbrev IS := Rho → M Fl
/-! ### how values stand -/
structure Tab where
  cn : Nat → Str
  fn : Nat → Str
  fs : Nat → List Nat
  inj : ∀ i j, fn i = fn j → i = j
  /-- the tables of code objects, and the name that their code objects bear -/
  tabs : PySem.W.Frag → List (Addr × Str) := fun _ => []
def kyK : Ky → Key
  | .i n => .inl n
  | .s x => .inr ⟨x.toArray⟩
def named (T : Tab) : List Nat → List V → List (Str × V)
  | f :: fs, v :: vs => (T.fn f, v) :: named T fs vs
  | _, _ => []
def keyed : List Ky → List V → List (Key × V)
  | k :: ks, v :: vs => (kyK k, v) :: keyed ks vs
  | _, _ => []
def keyedT : List (List Ky) → List V → List (List Key × V)
  | k :: ks, v :: vs => (k.map kyK, v) :: keyedT ks vs
  | _, _ => []
/-- at a: a caught exception of the class at C, its dict at d -/
def exL (a C : Addr) (d : Option Addr) : HO := .ext fun h => ∃ (o : Obj) (vs : Array Value), h.get? a = some o ∧ Zc (.ref C) d o ∧ o.data = .fields vs
mutual
def DR (T : Tab) (K : PySem.W.Frag) (G : Hp) (ι : List Addr) : D → V → Prop
  | .non, v => v = .non
  | .bl b, v => v = .bl b
  | .int i, v => v = .int i
  | .str x, v => v = .str ⟨x.toArray⟩
  | .ty n, v => v = .ty n
  | .glo c, v => v = .ref (He.ga K (T.cn c))
  | .tup xs, v => ∃ a vs, v = .ref a ∧ G a = some (.tup vs) ∧ DRs T K G ι xs vs
  | .lst xs, v => ∃ a vs, v = .ref a ∧ G a = some (.lst vs) ∧ DRs T K G ι xs vs
  | .scr xs, v => ∃ a vs, v = .ref a ∧ SqL K G a vs ∧ DRs T K G ι xs vs
  | .dct ks xs, v => ∃ a vs, v = .ref a ∧ ks.length = vs.length ∧ ((ks = [] ∧ G a = some (.dK [])) ∨ (ks ≠ [] ∧ ∃ o, G a = some (.frz o (.dK (keyed ks vs))))) ∧ DRs T K G ι xs vs
  | .dcu ks xs, v => ∃ a o vs, v = .ref a ∧ ks.length = vs.length ∧ G a = some (.frz o (.dT (keyedT ks vs))) ∧ DRs T K G ι xs vs
  | .ins c xs, v => ∃ a dx vs, v = .ref a ∧ (T.fs c).length = vs.length ∧ G a = some (.ins (He.ga K (T.cn c)) dx (named T (T.fs c) vs)) ∧ DRs T K G ι xs vs
  | .exn c fl xs, v => ∃ a dd vs, v = .ref a ∧ fl.length = vs.length ∧ G a = some (exL a (He.ga K (T.cn c)) dd) ∧ ((fl = [] ∧ dd = none) ∨ ∃ d, dd = some d ∧ G d = some (.xd (named T fl vs))) ∧ DRs T K G ι xs vs
  | .ref n, v => ∃ a, ι[n]? = some a ∧ v = .ref a
def DRs (T : Tab) (K : PySem.W.Frag) (G : Hp) (ι : List Addr) : List D → List V → Prop
  | [], vs => vs = []
  | x :: xs, vs => ∃ v r, vs = v :: r ∧ DR T K G ι x v ∧ DRs T K G ι xs r
end
def Ipre (ι ι' : List Addr) : Prop := ∀ (n : Nat) (a : Addr), ι[n]? = some a → ι'[n]? = some a
theorem Ipre.refl (ι : List Addr) : Ipre ι ι := fun _ _ h => h
theorem Ipre.trans {a b c : List Addr} (h : Ipre a b) (k : Ipre b c) : Ipre a c := fun n x e => k n x (h n x e)
theorem Ipre.snoc (ι : List Addr) (p : Addr) : Ipre ι (ι ++ [p]) := fun n a e => by
  rw [List.getElem?_append_left (List.getElem?_eq_some_iff.mp e).1]
  exact e
mutual
theorem DR.mono {T : Tab} {K : PySem.W.Frag} {G G' : Hp} {ι ι' : List Addr} (hG : Same G G') (hι : Ipre ι ι') : ∀ {d : D} {v : V}, DR T K G ι d v → DR T K G' ι' d v
  | .non, _, h => by simpa only [DR] using h
  | .bl _, _, h => by simpa only [DR] using h
  | .int _, _, h => by simpa only [DR] using h
  | .str _, _, h => by simpa only [DR] using h
  | .ty _, _, h => by simpa only [DR] using h
  | .glo _, _, h => by simpa only [DR] using h
  | .tup xs, v, h => by
    simp only [DR] at h ⊢
    obtain ⟨a, vs, e, q, r⟩ := h
    exact ⟨a, vs, e, hG _ _ q, DRs.mono hG hι r⟩
  | .lst xs, v, h => by
    simp only [DR] at h ⊢
    obtain ⟨a, vs, e, q, r⟩ := h
    exact ⟨a, vs, e, hG _ _ q, DRs.mono hG hι r⟩
  | .scr xs, v, h => by
    simp only [DR] at h ⊢
    obtain ⟨a, vs, e, q, r⟩ := h
    exact ⟨a, vs, e, Same.seq hG q, DRs.mono hG hι r⟩
  | .dct ks xs, v, h => by
    simp only [DR] at h ⊢
    obtain ⟨a, vs, e, l, q, r⟩ := h
    exact ⟨a, vs, e, l, q.elim (fun q => .inl ⟨q.1, hG _ _ q.2⟩) (fun ⟨n, o, q⟩ => .inr ⟨n, o, hG _ _ q⟩), DRs.mono hG hι r⟩
  | .dcu ks xs, v, h => by
    simp only [DR] at h ⊢
    obtain ⟨a, o, vs, e, l, q, r⟩ := h
    exact ⟨a, o, vs, e, l, hG _ _ q, DRs.mono hG hι r⟩
  | .ins c xs, v, h => by
    simp only [DR] at h ⊢
    obtain ⟨a, dx, vs, e, l, q, r⟩ := h
    exact ⟨a, dx, vs, e, l, hG _ _ q, DRs.mono hG hι r⟩
  | .exn c fl xs, v, h => by
    simp only [DR] at h ⊢
    obtain ⟨a, dd, vs, e, l, q, m, r⟩ := h
    exact ⟨a, dd, vs, e, l, hG _ _ q, m.imp id fun ⟨d, e, q⟩ => ⟨d, e, hG _ _ q⟩, DRs.mono hG hι r⟩
  | .ref n, v, h => by
    simp only [DR] at h ⊢
    obtain ⟨a, e, q⟩ := h
    exact ⟨a, hι _ _ e, q⟩
theorem DRs.mono {T : Tab} {K : PySem.W.Frag} {G G' : Hp} {ι ι' : List Addr} (hG : Same G G') (hι : Ipre ι ι') : ∀ {d : List D} {v : List V}, DRs T K G ι d v → DRs T K G' ι' d v
  | [], _, h => by simpa only [DRs] using h
  | x :: xs, _, h => by
    simp only [DRs] at h ⊢
    obtain ⟨v, r, e, q, k⟩ := h
    exact ⟨v, r, e, DR.mono hG hι q, DRs.mono hG hι k⟩
end
theorem DRs.length {T : Tab} {K : PySem.W.Frag} {G : Hp} {ι : List Addr} : ∀ {d : List D} {v : List V}, DRs T K G ι d v → d.length = v.length
  | [], _, h => by simp only [DRs] at h; subst h; rfl
  | x :: xs, _, h => by
    simp only [DRs] at h
    obtain ⟨v, r, e, q, k⟩ := h
    subst e
    simp [k.length]
theorem DRs.get {T : Tab} {K : PySem.W.Frag} {G : Hp} {ι : List Addr} : ∀ {ds : List D} {vs : List V} {i : Nat} {d : D}, DRs T K G ι ds vs → ds[i]? = some d → ∃ v, vs[i]? = some v ∧ DR T K G ι d v
  | [], _, _, _, _, e => by simp at e
  | x :: xs, _, 0, d, h, e => by
    simp only [DRs] at h
    obtain ⟨v, r, e1, q, k⟩ := h
    subst e1
    simp at e
    subst e
    exact ⟨v, rfl, q⟩
  | x :: xs, _, i + 1, d, h, e => by
    simp only [DRs] at h
    obtain ⟨v, r, e1, q, k⟩ := h
    subst e1
    simpa using k.get (i := i) (by simpa using e)
theorem DRs.append {T : Tab} {K : PySem.W.Frag} {G : Hp} {ι : List Addr} : ∀ {ds : List D} {vs : List V} {es : List D} {ws : List V}, DRs T K G ι ds vs → DRs T K G ι es ws → DRs T K G ι (ds ++ es) (vs ++ ws)
  | [], _, _, _, h, k => by
    simp only [DRs] at h
    subst h
    exact k
  | x :: xs, _, _, _, h, k => by
    simp only [DRs] at h
    obtain ⟨v, r, e1, q, j⟩ := h
    subst e1
    simp only [List.cons_append, DRs]
    exact ⟨v, _, rfl, q, j.append k⟩
theorem DRs.nil {T : Tab} {K : PySem.W.Frag} {G : Hp} {ι : List Addr} : DRs T K G ι [] [] := by simp only [DRs]
theorem DRs.cons {T : Tab} {K : PySem.W.Frag} {G : Hp} {ι : List Addr} {d : D} {v : V} {ds : List D} {vs : List V} (h : DR T K G ι d v) (k : DRs T K G ι ds vs) : DRs T K G ι (d :: ds) (v :: vs) := by
  simp only [DRs]
  exact ⟨v, vs, rfl, h, k⟩
theorem DRs.take {T : Tab} {K : PySem.W.Frag} {G : Hp} {ι : List Addr} : ∀ {ds : List D} {vs : List V} (n : Nat), DRs T K G ι ds vs → DRs T K G ι (ds.take n) (vs.take n)
  | _, _, 0, _ => by simpa using DRs.nil
  | [], _, n + 1, h => by
    simp only [DRs] at h
    subst h
    simpa using DRs.nil
  | x :: xs, _, n + 1, h => by
    simp only [DRs] at h
    obtain ⟨v, r, e1, q, j⟩ := h
    subst e1
    simpa using DRs.cons q (j.take n)
theorem DRs.drop {T : Tab} {K : PySem.W.Frag} {G : Hp} {ι : List Addr} : ∀ {ds : List D} {vs : List V} (n : Nat), DRs T K G ι ds vs → DRs T K G ι (ds.drop n) (vs.drop n)
  | _, _, 0, h => by simpa using h
  | [], _, n + 1, h => by
    simp only [DRs] at h
    subst h
    simpa using DRs.nil
  | x :: xs, _, n + 1, h => by
    simp only [DRs] at h
    obtain ⟨v, r, e1, q, j⟩ := h
    subst e1
    simpa using j.drop n
theorem DRs.set {T : Tab} {K : PySem.W.Frag} {G : Hp} {ι : List Addr} {d : D} {v : V} (hd : DR T K G ι d v) : ∀ {ds : List D} {vs : List V} (n : Nat), DRs T K G ι ds vs → DRs T K G ι (ds.set n d) (vs.set n v)
  | [], _, n, h => by
    simp only [DRs] at h
    subst h
    simpa using DRs.nil
  | x :: xs, _, 0, h => by
    simp only [DRs] at h
    obtain ⟨w, r, e1, q, j⟩ := h
    subst e1
    simpa using DRs.cons hd j
  | x :: xs, _, n + 1, h => by
    simp only [DRs] at h
    obtain ⟨w, r, e1, q, j⟩ := h
    subst e1
    simpa using DRs.cons q (j.set hd n)
/-! ### an object of the store -/
def FRs (T : Tab) (K : PySem.W.Frag) (G : Hp) (ι : List Addr) : List (Nat × D) → List (Str × V) → Prop
  | [], vs => vs = []
  | (f, x) :: xs, vs => ∃ v r, vs = (T.fn f, v) :: r ∧ DR T K G ι x v ∧ FRs T K G ι xs r
def KRs (T : Tab) (K : PySem.W.Frag) (G : Hp) (ι : List Addr) : List (Ky × D) → List (Key × V) → Prop
  | [], vs => vs = []
  | (k, x) :: xs, vs => ∃ v r, vs = (kyK k, v) :: r ∧ DR T K G ι x v ∧ KRs T K G ι xs r
def TRs (T : Tab) (K : PySem.W.Frag) (G : Hp) (ι : List Addr) : List (List Ky × D) → List (List Key × V) → Prop
  | [], vs => vs = []
  | (k, x) :: xs, vs => ∃ v r, vs = (k.map kyK, v) :: r ∧ DR T K G ι x v ∧ TRs T K G ι xs r
def OR (T : Tab) (K : PySem.W.Frag) (G : Hp) (ι : List Addr) : MO → HO → Prop
  | .lst xs, h => ∃ vs, h = .lst vs ∧ DRs T K G ι xs vs
  | .dct kvs, h => ∃ vs, h = .dK vs ∧ KRs T K G ι kvs vs
  | .dcT kvs, h => ∃ vs, h = .dT vs ∧ TRs T K G ι kvs vs
  | .ins c fs, h => ∃ dx vs, h = .ins (He.ga K (T.cn c)) dx vs ∧ FRs T K G ι fs vs
theorem FRs.mono {T : Tab} {K : PySem.W.Frag} {G G' : Hp} {ι ι' : List Addr} (hG : Same G G') (hι : Ipre ι ι') : ∀ {d : List (Nat × D)} {v : List (Str × V)}, FRs T K G ι d v → FRs T K G' ι' d v
  | [], _, h => h
  | (f, x) :: xs, _, ⟨v, r, e, q, k⟩ => ⟨v, r, e, q.mono hG hι, k.mono hG hι⟩
theorem KRs.mono {T : Tab} {K : PySem.W.Frag} {G G' : Hp} {ι ι' : List Addr} (hG : Same G G') (hι : Ipre ι ι') : ∀ {d : List (Ky × D)} {v : List (Key × V)}, KRs T K G ι d v → KRs T K G' ι' d v
  | [], _, h => h
  | (f, x) :: xs, _, ⟨v, r, e, q, k⟩ => ⟨v, r, e, q.mono hG hι, k.mono hG hι⟩
theorem TRs.mono {T : Tab} {K : PySem.W.Frag} {G G' : Hp} {ι ι' : List Addr} (hG : Same G G') (hι : Ipre ι ι') : ∀ {d : List (List Ky × D)} {v : List (List Key × V)}, TRs T K G ι d v → TRs T K G' ι' d v
  | [], _, h => h
  | (f, x) :: xs, _, ⟨v, r, e, q, k⟩ => ⟨v, r, e, q.mono hG hι, k.mono hG hι⟩
theorem OR.mono {T : Tab} {K : PySem.W.Frag} {G G' : Hp} {ι ι' : List Addr} (hG : Same G G') (hι : Ipre ι ι') : ∀ {o : MO} {h : HO}, OR T K G ι o h → OR T K G' ι' o h
  | .lst _, _, ⟨vs, e, r⟩ => ⟨vs, e, r.mono hG hι⟩
  | .dct _, _, ⟨vs, e, r⟩ => ⟨vs, e, r.mono hG hι⟩
  | .dcT _, _, ⟨vs, e, r⟩ => ⟨vs, e, r.mono hG hι⟩
  | .ins _ _, _, ⟨dx, vs, e, r⟩ => ⟨dx, vs, e, r.mono hG hι⟩
/-- no table -/
def noTab : HO → Bool
  | .tbl _ => false
  | _ => true
/-- no table, nothing told by a property -/
def plainO : HO → Bool
  | .tbl _ => false
  | .tup _ => false
  | .ext _ => false
  | _ => true
theorem noTab_of {o : HO} (h : plainO o = true) : noTab o = true := by
  cases o <;> first | rfl | cases h
theorem OR.plain {T : Tab} {K : PySem.W.Frag} {G : Hp} {ι : List Addr} : ∀ {o : MO} {h : HO}, OR T K G ι o h → plainO h = true
  | .lst _, _, ⟨_, e, _⟩ => e ▸ rfl
  | .dct _, _, ⟨_, e, _⟩ => e ▸ rfl
  | .dcT _, _, ⟨_, e, _⟩ => e ▸ rfl
  | .ins _ _, _, ⟨_, _, e, _⟩ => e ▸ rfl
/-- tables do not see a change elsewhere -/
theorem tabs_upd {L : List (Addr × Str)} {H : Hp} {p : Addr} {o u : HO} (h : LamX.Tabs L H) (e : H p = some o) (pl : plainO o = true) : LamX.Tabs L (upd H p u) := by
  intro q hq
  obtain ⟨ps, h1, h2, h3⟩ := h q hq
  have ne : ∀ {b : Addr} {x : HO}, H b = some x → plainO x = false → b ≠ p := fun hb hx z => by
    subst z
    rw [e] at hb
    cases hb
    rw [pl] at hx
    cases hx
  refine ⟨ps, by rw [upd_ne (ne h1 rfl)]; exact h1, h2, fun pos cv hc => ?_⟩
  obtain ⟨c, isC, atC⟩ := h3 pos cv hc
  exact ⟨c, isC, by rw [upd_ne (ne atC rfl)]; exact atC⟩
theorem tabs_new {L : List (Addr × Str)} {H : Hp} {p : Addr} {u : HO} (h : LamX.Tabs L H) (e : H p = none) : LamX.Tabs L (upd H p u) := h.ext fun b o q => by
  rw [upd_ne (ne_of_none q e)]
  exact q
/-! ### the state: G what is frozen, F what is somebody else's, S the store at ι -/
structure Em (T : Tab) (K : PySem.W.Frag) (F : Hp) (S : Store) (ι : List Addr) (G H : Hp) : Prop where
  sub : Same G H
  fr : Same F H
  len : ι.length = S.next
  nd : ι.Nodup
  old : ∀ a ∈ ι, H a ≠ none
  oldP : ∀ a ∈ ι, ∀ o, H a = some o → noTab o = true
  obj : ∀ n o, S.get n = some o → ∃ a h, ι[n]? = some a ∧ G a = none ∧ F a = none ∧ H a = some h ∧ OR T K G ι o h
  dis : ∀ a o, F a = some o → G a = none
  tb : LamX.Tabs (T.tabs K) H
  noG : ∀ a o, G a = some o → noTab o = true
  noF : ∀ a o, F a = some o → plainO o = true
def Ext (G : Hp) (ι : List Addr) (G' : Hp) (ι' : List Addr) : Prop := Same G G' ∧ Ipre ι ι'
theorem Ext.refl (G : Hp) (ι : List Addr) : Ext G ι G ι := ⟨Same.refl G, Ipre.refl ι⟩
theorem Ext.trans {G G1 G2 : Hp} {ι ι1 ι2 : List Addr} (a : Ext G ι G1 ι1) (b : Ext G1 ι1 G2 ι2) : Ext G ι G2 ι2 := ⟨a.1.trans b.1, a.2.trans b.2⟩
theorem same_new {H : Hp} {p : Addr} {o : HO} (h : H p = none) : Same H (upd H p o) := fun b u e => by
  rw [upd_ne (ne_of_none e h)]
  exact e
theorem same_up {G H : Hp} {p : Addr} {o : HO} (e : Same G H) : Same (upd G p o) (upd H p o) := fun b u q => by
  by_cases hb : b = p
  · subst hb
    rw [upd_same] at q ⊢
    exact q
  · rw [upd_ne hb] at q ⊢
    exact e b u q
theorem same_out {G H : Hp} {p : Addr} {o : HO} (e : Same G H) (h : G p = none) : Same G (upd H p o) := fun b u q => by
  rw [upd_ne (ne_of_none q h)]
  exact e b u q
section
variable {T : Tab} {K : PySem.W.Frag} {F : Hp} {S : Store} {ι : List Addr} {G H : Hp}
/-- a new object that never changes -/
theorem old_new {ι : List Addr} {H : Hp} {p : Addr} {o : HO} (h : ∀ a ∈ ι, H a ≠ none) (hP : ∀ a ∈ ι, ∀ o, H a = some o → noTab o = true) (hp : H p = none) : ∀ a ∈ ι, ∀ u, upd H p o a = some u → noTab u = true := fun a ha u q => by
  have ne : a ≠ p := fun z => h a ha (by rw [z]; exact hp)
  rw [upd_ne ne] at q
  exact hP a ha u q
theorem old_put {ι : List Addr} {H : Hp} {p : Addr} {o : HO} (hP : ∀ a ∈ ι, ∀ o, H a = some o → noTab o = true) (ho : plainO o = true) : ∀ a ∈ ι, ∀ u, upd H p o a = some u → noTab u = true := fun a ha u q => by
  by_cases z : a = p
  · subst z
    rw [upd_same] at q
    cases q
    exact noTab_of ho
  · rw [upd_ne z] at q
    exact hP a ha u q
theorem put_all {G : Hp} {p : Addr} {o : HO} {f : HO → Bool} (h : ∀ a u, G a = some u → f u = true) (ho : f o = true) : ∀ a u, upd G p o a = some u → f u = true := fun a u q => by
  by_cases z : a = p
  · subst z
    rw [upd_same] at q
    cases q
    exact ho
  · rw [upd_ne z] at q
    exact h a u q
theorem Em.frz (E : Em T K F S ι G H) {p : Addr} {o : HO} (hp : H p = none) (no : noTab o = true := by rfl) : Em T K F S ι (upd G p o) (upd H p o) ∧ Ext G ι (upd G p o) ι := by
  have gp : G p = none := E.sub.free hp
  have hx : Same G (upd G p o) := same_new gp
  refine ⟨⟨same_up E.sub, same_out E.fr (E.fr.free hp), E.len, E.nd, fun a ha => ?_, old_new E.old E.oldP hp, fun n m e => ?_, fun a u q => ?_, tabs_new E.tb hp, put_all E.noG no, E.noF⟩, hx, Ipre.refl _⟩
  · by_cases h : a = p
    · subst h
      rw [upd_same]
      exact fun z => by cases z
    · rw [upd_ne h]
      exact E.old a ha
  · obtain ⟨a, h, h1, h2, h3, h4, h5⟩ := E.obj n m e
    have na : a ≠ p := ne_of_none h4 hp
    exact ⟨a, h, h1, by rw [upd_ne na]; exact h2, h3, by rw [upd_ne na]; exact h4, h5.mono hx (Ipre.refl _)⟩
  · rw [upd_ne (ne_of_none (E.fr a u q) hp)]
    exact E.dis a u q
/-- a new object that nobody tells of (garbage) -/
theorem Em.junk (E : Em T K F S ι G H) {p : Addr} {o : HO} (hp : H p = none) : Em T K F S ι G (upd H p o) := by
  refine ⟨same_out E.sub (E.sub.free hp), same_out E.fr (E.fr.free hp), E.len, E.nd, fun a ha => ?_, old_new E.old E.oldP hp, fun n m e => ?_, E.dis, tabs_new E.tb hp, E.noG, E.noF⟩
  · by_cases h : a = p
    · subst h
      rw [upd_same]
      exact fun z => by cases z
    · rw [upd_ne h]
      exact E.old a ha
  · obtain ⟨a, h, h1, h2, h3, h4, h5⟩ := E.obj n m e
    have na : a ≠ p := ne_of_none h4 hp
    exact ⟨a, h, h1, h2, h3, by rw [upd_ne na]; exact h4, h5⟩
/-- a new object of the store -/
theorem Em.alloc (E : Em T K F S ι G H) {p : Addr} {o : MO} {u : HO} (hp : H p = none) (ho : OR T K G ι o u) : Em T K F (S.alloc o) (ι ++ [p]) G (upd H p u) ∧ Ext G ι G (ι ++ [p]) ∧ (ι ++ [p])[S.next]? = some p := by
  have hx : Ipre ι (ι ++ [p]) := Ipre.snoc ι p
  have hn : (ι ++ [p])[S.next]? = some p := by rw [← E.len]; simp
  have np : p ∉ ι := fun h => E.old p h hp
  refine ⟨⟨same_out E.sub (E.sub.free hp), same_out E.fr (E.fr.free hp), by simp [E.len], ?_, fun a ha => ?_, fun a ha => ?_, fun n m e => ?_, E.dis, tabs_new E.tb hp, E.noG, E.noF⟩, ⟨Same.refl _, hx⟩, hn⟩
  · exact List.nodup_append.mpr ⟨E.nd, by simp, fun a h1 b h2 => by
      simp at h2
      subst h2
      exact fun e => np (e ▸ h1)⟩
  · by_cases h : a = p
    · subst h
      rw [upd_same]
      exact fun z => by cases z
    · rw [upd_ne h]
      rcases List.mem_append.mp ha with h1 | h1
      · exact E.old a h1
      · simp at h1
        exact absurd h1 h
  · rcases List.mem_append.mp ha with h1 | h1
    · exact old_new E.old E.oldP hp a h1
    · simp at h1
      subst h1
      intro x q
      rw [upd_same] at q
      cases q
      exact noTab_of ho.plain
  · by_cases hm : n = S.next
    · subst hm
      rw [Store.get_alloc_self] at e
      cases e
      exact ⟨p, u, hn, E.sub.free hp, E.fr.free hp, upd_same, ho.mono (Same.refl _) hx⟩
    · rw [Store.get_alloc_ne _ _ hm] at e
      obtain ⟨a, h, h1, h2, h3, h4, h5⟩ := E.obj n m e
      have na : a ≠ p := ne_of_none h4 hp
      exact ⟨a, h, hx _ _ h1, h2, h3, by rw [upd_ne na]; exact h4, h5.mono (Same.refl _) hx⟩
/-- an object of the store changes -/
theorem Em.set (E : Em T K F S ι G H) {n : Nat} {a : Addr} {o : MO} {u : HO} (hn : (S.get n).isSome) (ha : ι[n]? = some a) (ho : OR T K G ι o u) : Em T K F (S.set n o) ι G (upd H a u) := by
  obtain ⟨o0, e0⟩ := Option.isSome_iff_exists.mp hn
  obtain ⟨a', h', q1, q2, q3, q4, q5⟩ := E.obj n o0 e0
  rw [ha] at q1
  cases q1
  refine ⟨same_out E.sub q2, same_out E.fr q3, E.len, E.nd, fun b hb => ?_, old_put E.oldP ho.plain, fun m x e => ?_, E.dis, tabs_upd E.tb q4 q5.plain, E.noG, E.noF⟩
  · by_cases h : b = a
    · subst h
      rw [upd_same]
      exact fun z => by cases z
    · rw [upd_ne h]
      exact E.old b hb
  · by_cases hm : m = n
    · subst hm
      rw [Store.get_set_self] at e
      cases e
      exact ⟨a, u, ha, q2, q3, upd_same, ho⟩
    · rw [Store.get_set_ne _ _ hm] at e
      obtain ⟨b, h, h1, h2, h3, h4, h5⟩ := E.obj m x e
      have nb : b ≠ a := fun z => by
        subst z
        obtain ⟨l1, e1⟩ := List.getElem?_eq_some_iff.mp h1
        obtain ⟨l2, e2⟩ := List.getElem?_eq_some_iff.mp ha
        exact hm ((List.getElem_inj E.nd).mp (e1.trans e2.symm))
      exact ⟨b, h, h1, h2, h3, by rw [upd_ne nb]; exact h4, h5⟩
/-- objects of the store are forgotten -/
theorem Em.sub_store (E : Em T K F S ι G H) {S' : Store} (hn : S'.next = S.next) (hs : ∀ n o, S'.get n = some o → S.get n = some o) : Em T K F S' ι G H :=
  ⟨E.sub, E.fr, E.len.trans hn.symm, E.nd, E.old, E.oldP, fun n o e => E.obj n o (hs n o e), E.dis, E.tb, E.noG, E.noF⟩
theorem Em.trim (E : Em T K F S ι G H) (N : Nat) : Em T K F (S.trim N) ι G H := E.sub_store rfl fun n o e => by
  rw [Store.get_trim] at e
  split at e
  · exact e
  · cases e
/-- an object of the store is frozen -/
theorem Em.freeze (E : Em T K F S ι G H) {n : Nat} {o : MO} (hn : S.get n = some o) : ∃ a h, ι[n]? = some a ∧ H a = some h ∧ OR T K G ι o h ∧ Em T K F (S.del n) ι (upd G a h) H ∧ Ext G ι (upd G a h) ι := by
  obtain ⟨a, h, q1, q2, q3, q4, q5⟩ := E.obj n o hn
  have hx : Same G (upd G a h) := same_new q2
  refine ⟨a, h, q1, q4, q5, ⟨fun b u q => ?_, E.fr, E.len, E.nd, E.old, E.oldP, fun m x e => ?_, fun b u q => ?_, E.tb, put_all E.noG (noTab_of q5.plain), E.noF⟩, hx, Ipre.refl _⟩
  · by_cases hb : b = a
    · subst hb
      rw [upd_same] at q
      rw [q4]
      exact q
    · rw [upd_ne hb] at q
      exact E.sub b u q
  · rw [Store.get_del] at e
    split at e
    · cases e
    · rename_i hm
      obtain ⟨b, k, h1, h2, h3, h4, h5⟩ := E.obj m x e
      have nb : b ≠ a := fun z => by
        subst z
        obtain ⟨l1, e1⟩ := List.getElem?_eq_some_iff.mp h1
        obtain ⟨l2, e2⟩ := List.getElem?_eq_some_iff.mp q1
        exact hm ((List.getElem_inj E.nd).mp (e1.trans e2.symm))
      exact ⟨b, k, h1, by rw [upd_ne nb]; exact h2, h3, h4, h5.mono hx (Ipre.refl _)⟩
  · rw [upd_ne (ne_of_none q q3)]
    exact E.dis b u q
/-- an object of the store is frozen and locked -/
theorem Em.freezeL (E : Em T K F S ι G H) {n : Nat} {o : MO} (hn : S.get n = some o) : ∃ a h, ι[n]? = some a ∧ H a = some h ∧ OR T K G ι o h ∧ ∀ x, noTab x = true → Em T K F (S.del n) ι (upd G a x) (upd H a x) ∧ Ext G ι (upd G a x) ι := by
  obtain ⟨a, h, q1, q2, q3, q4, q5⟩ := E.obj n o hn
  refine ⟨a, h, q1, q4, q5, fun x hx => ?_⟩
  have ext : Same G (upd G a x) := same_new q2
  refine ⟨⟨same_up E.sub, same_out E.fr q3, E.len, E.nd, fun b hb => ?_, fun b hb u q => ?_, fun m y e => ?_, fun b u q => ?_, tabs_upd E.tb q4 q5.plain, put_all E.noG hx, E.noF⟩, ext, Ipre.refl _⟩
  · by_cases hb2 : b = a
    · subst hb2
      rw [upd_same]
      exact fun z => by cases z
    · rw [upd_ne hb2]
      exact E.old b hb
  · by_cases hb2 : b = a
    · subst hb2
      rw [upd_same] at q
      cases q
      exact hx
    · rw [upd_ne hb2] at q
      exact E.oldP b hb u q
  · rw [Store.get_del] at e
    split at e
    · cases e
    · rename_i hm
      obtain ⟨b, k, h1, h2, h3, h4, h5⟩ := E.obj m y e
      have nb : b ≠ a := fun z => by
        subst z
        obtain ⟨l1, e1⟩ := List.getElem?_eq_some_iff.mp h1
        obtain ⟨l2, e2⟩ := List.getElem?_eq_some_iff.mp q1
        exact hm ((List.getElem_inj E.nd).mp (e1.trans e2.symm))
      exact ⟨b, k, h1, by rw [upd_ne nb]; exact h2, h3, by rw [upd_ne nb]; exact h4, h5.mono ext (Ipre.refl _)⟩
  · rw [upd_ne (ne_of_none q q3)]
    exact E.dis b u q
/-- somebody's own object, put aside -/
theorem Em.aside (E : Em T K F S ι G H) {p : Addr} {o : HO} (hp : H p = none) (no : plainO o = true := by rfl) : Em T K (upd F p o) S ι G (upd H p o) := by
  refine ⟨same_out E.sub (E.sub.free hp), same_up E.fr, E.len, E.nd, fun a ha => ?_, old_new E.old E.oldP hp, fun n m e => ?_, fun a u q => ?_, tabs_new E.tb hp, E.noG, put_all E.noF no⟩
  · by_cases h : a = p
    · subst h
      rw [upd_same]
      exact fun z => by cases z
    · rw [upd_ne h]
      exact E.old a ha
  · obtain ⟨a, h, h1, h2, h3, h4, h5⟩ := E.obj n m e
    have na : a ≠ p := ne_of_none h4 hp
    exact ⟨a, h, h1, h2, by rw [upd_ne na]; exact h3, by rw [upd_ne na]; exact h4, h5⟩
  · by_cases h : a = p
    · subst h
      exact E.sub.free hp
    · rw [upd_ne h] at q
      exact E.dis a u q
/-- .. changed by its owner -/
theorem Em.reaside {p : Addr} {o o' : HO} (E : Em T K (upd F p o) S ι G H) (no : plainO o' = true := by rfl) : Em T K (upd F p o') S ι G (upd H p o') := by
  have gp : G p = none := E.dis p o upd_same
  refine ⟨same_out E.sub gp, fun b u q => ?_, E.len, E.nd, fun a ha => ?_, old_put E.oldP no, fun n m e => ?_, fun a u q => ?_, tabs_upd E.tb (E.fr p o upd_same) (E.noF p o upd_same), E.noG, fun a u q => ?_⟩
  · by_cases hb : b = p
    · subst hb
      rw [upd_same] at q ⊢
      exact q
    · rw [upd_ne hb] at q ⊢
      exact E.fr b u (by rw [upd_ne hb]; exact q)
  · by_cases h : a = p
    · subst h
      rw [upd_same]
      exact fun z => by cases z
    · rw [upd_ne h]
      exact E.old a ha
  · obtain ⟨a, h, h1, h2, h3, h4, h5⟩ := E.obj n m e
    have na : a ≠ p := fun z => by
      subst z
      rw [upd_same] at h3
      cases h3
    exact ⟨a, h, h1, h2, by rw [upd_ne na] at h3 ⊢; exact h3, by rw [upd_ne na]; exact h4, h5⟩
  · by_cases h : a = p
    · subst h
      exact gp
    · rw [upd_ne h] at q
      exact E.dis a u (by rw [upd_ne h]; exact q)
  · by_cases h : a = p
    · subst h
      rw [upd_same] at q
      cases q
      exact no
    · rw [upd_ne h] at q
      exact E.noF a u (by rw [upd_ne h]; exact q)
/-- .. given to all, never to change again -/
theorem Em.adopt {p : Addr} {o : HO} (E : Em T K (upd F p o) S ι G H) (hF : F p = none) : Em T K F S ι (upd G p o) H ∧ Ext G ι (upd G p o) ι := by
  have gp : G p = none := E.dis p o upd_same
  have hx : Same G (upd G p o) := same_new gp
  refine ⟨⟨fun b u q => ?_, fun b u q => E.fr b u (by rw [upd_ne (ne_of_none q hF)]; exact q), E.len, E.nd, E.old, E.oldP, fun n m e => ?_, fun a u q => ?_, E.tb, put_all E.noG (noTab_of (E.noF p o upd_same)), fun a u q => E.noF a u (by rw [upd_ne (ne_of_none q hF)]; exact q)⟩, hx, Ipre.refl _⟩
  · by_cases hb : b = p
    · subst hb
      rw [upd_same] at q
      exact E.fr b u (by rw [upd_same]; exact q)
    · rw [upd_ne hb] at q
      exact E.sub b u q
  · obtain ⟨a, h, h1, h2, h3, h4, h5⟩ := E.obj n m e
    have na : a ≠ p := fun z => by
      subst z
      rw [upd_same] at h3
      cases h3
    exact ⟨a, h, h1, by rw [upd_ne na]; exact h2, by rw [upd_ne na] at h3; exact h3, h4, h5.mono hx (Ipre.refl _)⟩
  · have na : a ≠ p := ne_of_none q hF
    rw [upd_ne na]
    exact E.dis a u (by rw [upd_ne na]; exact q)
end
/-- the slots -/
structure SR (T : Tab) (K : PySem.W.Frag) (G : Hp) (ι : List Addr) (ρ : Rho) (σ : St) : Prop where
  len : ρ.length = σ.length
  at_ : ∀ (i : Nat) (d : D), ρ[i]? = some (some d) → ∃ v, σ[i]? = some (some v) ∧ DR T K G ι d v
theorem SR.mono {T : Tab} {K : PySem.W.Frag} {G G' : Hp} {ι ι' : List Addr} {ρ : Rho} {σ : St} (r : SR T K G ι ρ σ) (x : Ext G ι G' ι') : SR T K G' ι' ρ σ :=
  ⟨r.len, fun i d e => let ⟨v, q, h⟩ := r.at_ i d e; ⟨v, q, h.mono x.1 x.2⟩⟩
theorem SR.set {T : Tab} {K : PySem.W.Frag} {G : Hp} {ι : List Addr} {ρ : Rho} {σ : St} (r : SR T K G ι ρ σ) {d : D} {v : V} (h : DR T K G ι d v) (j : Nat) : SR T K G ι (ρ.set j (some d)) (σ.set j (some v)) := by
  refine ⟨by simp [r.len], fun i e q => ?_⟩
  by_cases hj : j = i
  · subst hj
    rw [List.getElem?_set] at q ⊢
    by_cases hl : j < ρ.length
    · have hl' : j < σ.length := r.len ▸ hl
      simp [hl] at q
      subst q
      simp [hl', h]
    · simp [hl] at q
  · rw [List.getElem?_set_ne hj] at q ⊢
    exact r.at_ i e q
end J
set_option Elab.async false
set_option linter.all false
set_option maxRecDepth 100000
set_option maxHeartbeats 4010000
/-! J1: judgements -/
namespace J
open PySem PySem.Spec L2
def Runs {α : Type} (m : R α) (ok : α → Store → Prop) (ex : Nat → List (Nat × D) → Store → Prop) : Prop := match m with
  | .ok a S => ok a S
  | .ex c fs S => ex c fs S
  | .no => False
theorem Runs.imp {α : Type} {m : R α} {ok ok' : α → Store → Prop} {ex ex' : Nat → List (Nat × D) → Store → Prop} (h : Runs m ok ex) (h1 : ∀ a S, ok a S → ok' a S) (h2 : ∀ c fs S, ex c fs S → ex' c fs S) : Runs m ok' ex' := by
  cases m with
  | ok a S => exact h1 a S h
  | ex c fs S => exact h2 c fs S h
  | no => exact h
/-- an exception's own dict -/
def XR (T : Tab) (K : PySem.W.Frag) (G : Hp) (ι : List Addr) (fs : List (Nat × D)) (dd : Option Addr) : Prop :=
  (fs = [] ∧ dd = none) ∨ ∃ d vs, dd = some d ∧ G d = some (.xd vs) ∧ FRs T K G ι fs vs
/-- what is wanted of a run at (G, ι) -/
def Thn {α β : Type} (T : Tab) (K : PySem.W.Frag) (F : Hp) (W : WX) (σ : L2.St) (G : Hp) (ι : List Addr) (rel : Hp → List Addr → α → β → Prop) (m : R α) (Q : β → Hp → Prop) : Prop :=
  Runs m (fun d S' => ∀ v ι' G' H', Em T K F S' ι' G' H' → Ext G ι G' ι' → rel G' ι' d v → Q v H')
    (fun c fs S' => ∀ dd ι' G' H', Em T K F S' ι' G' H' → Ext G ι G' ι' → XR T K G' ι' fs dd → W (.ref (He.ga K (T.cn c))) dd σ H')
def tG {α β : Type} (T : Tab) (K : PySem.W.Frag) (W : WX) (rel : Hp → List Addr → α → β → Prop) (m : Rho → M α) : L2.St → Hp → (β → Hp → Prop) → Prop := fun σ H Q =>
  ∃ ρ F S ι G, Em T K F S ι G H ∧ SR T K G ι ρ σ ∧ Thn T K F W σ G ι rel (m ρ S) Q
abbrev tE (T : Tab) (K : PySem.W.Frag) (W : WX) (ie : IE) : TE := tG T K W (DR T K) ie
abbrev tT (T : Tab) (K : PySem.W.Frag) (W : WX) (it : IT) : TT := tG T K W (fun _ _ (a b : Bool) => a = b) it
abbrev tA (T : Tab) (K : PySem.W.Frag) (W : WX) (ia : IA) : TA := tG T K W (DRs T K) ia
abbrev JE (T : Tab) (X : Cx) (W : WX) (e : Expr) (ie : IE) : Prop := PE X e (tE T X.K W ie)
abbrev JT (T : Tab) (X : Cx) (W : WX) (e : Expr) (it : IT) : Prop := PT X e (tT T X.K W it)
abbrev JW (T : Tab) (X : Cx) (W : WX) (e : Expr) (it : IT) : Prop := PW X e (tT T X.K W it)
abbrev JA (T : Tab) (X : Cx) (W : WX) (es : List Expr) (ia : IA) : Prop := PA X es (tA T X.K W ia)
theorem PE.mono {X : Cx} {e : Expr} {t t' : TE} (h : PE X e t) (k : ∀ σ H Q, t' σ H Q → t σ H Q) : PE X e t' := ⟨fun pins s σ H Q I q => h.run pins s σ H Q I (k σ H Q q)⟩
theorem PT.mono {X : Cx} {e : Expr} {t t' : TT} (h : PT X e t) (k : ∀ σ H Q, t' σ H Q → t σ H Q) : PT X e t' := ⟨fun pins s σ H Q I q => h.run pins s σ H Q I (k σ H Q q)⟩
theorem PW.mono {X : Cx} {e : Expr} {t t' : TT} (h : PW X e t) (k : ∀ σ H Q, t' σ H Q → t σ H Q) : PW X e t' := ⟨fun wh pins s σ H Q I q => h.run wh pins s σ H Q I (k σ H Q q)⟩
theorem PA.mono {X : Cx} {e : List Expr} {t t' : TA} (h : PA X e t) (k : ∀ σ H Q, t' σ H Q → t σ H Q) : PA X e t' := ⟨fun pos pins s σ H Q I q => h.run pos pins s σ H Q I (k σ H Q q)⟩
section
variable {T : Tab} {K : PySem.W.Frag} {F : Hp} {W : WX} {σ : L2.St} {G G1 : Hp} {ι ι1 : List Addr} {α β γ δ : Type} {rel : Hp → List Addr → α → β → Prop} {rel2 : Hp → List Addr → γ → δ → Prop}
theorem Thn.ext {m : R α} {Q : β → Hp → Prop} (h : Thn T K F W σ G ι rel m Q) (x : Ext G ι G1 ι1) : Thn T K F W σ G1 ι1 rel m Q :=
  Runs.imp h (fun _ _ k v ι' G' H' em y r => k v ι' G' H' em (x.trans y) r) fun _ _ _ k dd ι' G' H' em y r => k dd ι' G' H' em (x.trans y) r
theorem Thn.imp {m : R α} {Q Q' : β → Hp → Prop} (h : Thn T K F W σ G ι rel m Q) (k : ∀ v H, Q v H → Q' v H) : Thn T K F W σ G ι rel m Q' :=
  Runs.imp h (fun _ _ q v ι' G' H' em y r => k v H' (q v ι' G' H' em y r)) fun _ _ _ q => q
/-- the first part of a run -/
theorem Thn.bind {m : M γ} {k : γ → M α} {S : Store} {Q : β → Hp → Prop} {Q2 : δ → Hp → Prop} (h : Thn T K F W σ G ι rel (M.bind m k S) Q)
    (go : ∀ a S1 v ι1 G1 H1, Em T K F S1 ι1 G1 H1 → Ext G ι G1 ι1 → rel2 G1 ι1 a v → Thn T K F W σ G1 ι1 rel (k a S1) Q → Q2 v H1) : Thn T K F W σ G ι rel2 (m S) Q2 := by
  unfold M.bind at h
  cases e : m S with
  | ok a S1 =>
    rw [e] at h
    exact fun v ι' G' H' em y r => go a S1 v ι' G' H' em y r (Thn.ext h y)
  | ex c fs S1 =>
    rw [e] at h
    exact h
  | no =>
    rw [e] at h
    exact h
theorem Thn.ok {a : α} {S : Store} {Q : β → Hp → Prop} (h : Thn T K F W σ G ι rel (.ok a S) Q) {H : Hp} (em : Em T K F S ι G H) {v : β} (r : rel G ι a v) : Q v H := h v ι G H em (Ext.refl _ _) r
end
/-- a partial value -/
def lift {α : Type} (o : Option α) : M α := fun S => match o with
  | some a => .ok a S
  | none => .no
theorem Thn.lift {T : Tab} {K : PySem.W.Frag} {F : Hp} {W : WX} {σ : L2.St} {G : Hp} {ι : List Addr} {α β : Type} {rel : Hp → List Addr → α → β → Prop} {o : Option α} {S : Store} {Q : β → Hp → Prop} (h : Thn T K F W σ G ι rel (J.lift o S) Q) :
    ∃ a, o = some a ∧ Thn T K F W σ G ι rel (.ok a S) Q := by
  cases o with
  | none => exact h.elim
  | some a => exact ⟨a, rfl, h⟩
theorem bind_lift {α β : Type} {o : Store → Option α} {k : α → M β} {S : Store} : M.bind (fun S => lift (o S) S) k S = (match o S with
    | some a => k a S
    | none => .no) := by
  unfold M.bind lift
  dsimp only
  cases o S <;> rfl
/-! ### names, constants -/
def iVar (i : Nat) : IE := fun ρ => lift (ρ.getD i none)
def iC (d : D) : IE := fun _ => M.ret d
section
variable {T : Tab} {X : Cx} {W : WX}
theorem je_var (i : Nat) {x : Str} {pos : Pos} (hN : X.N[i]? = some x := by rfl) (hv : Vis X.env.scope x := by first | exact Or.inl rfl | exact Or.inr (Or.inl rfl) | exact Or.inr (Or.inr rfl))
    (hd : (x == ("__debug__" : Str)) = false := by decide) (hcd : (x == ("__classdict__" : Str)) = false := by decide) : JE T X W (.Name x pos) (iVar i) := by
  refine PE.mono (pe_var hN hv hd hcd) fun σ H Q ⟨ρ, F, S, ι, G, em, sr, h⟩ => ?_
  obtain ⟨d, e, h⟩ := Thn.lift h
  have e2 : ρ[i]? = some (some d) := by
    rw [List.getD_eq_getElem?_getD] at e
    cases q : ρ[i]? with
    | none => (rw [q] at e); exact nomatch e
    | some o => rw [q] at e; rw [show o = some d from e]
  obtain ⟨v, q, r⟩ := sr.at_ i d e2
  exact ⟨v, q, h.ok em r⟩
theorem je_c {e : Expr} {d : D} {v : V} (h : PE X e (tC v)) (r : ∀ G ι, DR T X.K G ι d v) : JE T X W e (iC d) :=
  PE.mono h fun σ H Q ⟨ρ, F, S, ι, G, em, sr, h⟩ => Thn.ok h em (r G ι)
theorem je_int {i j pos} : JE T X W (.Constant (.int i) j pos) (iC (.int i)) := je_c pe_int fun _ _ => by simp only [DR]
theorem je_bl {b j pos} : JE T X W (.Constant (.bool b) j pos) (iC (.bl b)) := je_c pe_bl fun _ _ => by simp only [DR]
theorem je_str {x : Str} {l : List Nat} {j pos} (h : x = ⟨l.toArray⟩ := by rfl) : JE T X W (.Constant (.str x) j pos) (iC (.str l)) := je_c pe_str fun _ _ => by simp only [DR]; rw [h]
end
/-! ### operators: no change of the store -/
abbrev Op2 := D → D → Store → Option D
def iOp (f : Op2) (ia ib : IE) : IE := fun ρ => M.bind (ia ρ) fun x => M.bind (ib ρ) fun y => fun S => lift (f x y S) S
/-- r serves f -/
def OpS (T : Tab) (K : PySem.W.Frag) (r : R2) (f : Op2) : Prop := ∀ F S ι G H x y d vx vy (Q : VK), Em T K F S ι G H → DR T K G ι x vx → DR T K G ι y vy → f x y S = some d →
  (∀ v G' H', Em T K F S ι G' H' → Ext G ι G' ι → DR T K G' ι d v → Q v H') → r vx vy H Q
theorem OpS.or {T : Tab} {K : PySem.W.Frag} {r r' : R2} {f g k : Op2} (h : OpS T K r f) (h' : OpS T K r' g) (hk : ∀ x y S d, k x y S = some d → f x y S = some d ∨ g x y S = some d) : OpS T K (fun x y H Q => r x y H Q ∨ r' x y H Q) k :=
  fun F S ι G H x y d vx vy Q em dx dy e q => (hk x y S d e).elim (fun z => .inl (h F S ι G H x y d vx vy Q em dx dy z q)) fun z => .inr (h' F S ι G H x y d vx vy Q em dx dy z q)
section
variable {T : Tab} {X : Cx} {W : WX} {a b c : Expr} {ia ib ic : IE} {pos : Pos} {r r' : R2} {f g : Op2}
theorem op_go (hf : OpS T X.K r f) {σ : L2.St} {H : Hp} {Q : VK} (h : tE T X.K W (iOp f ia ib) σ H Q) : tOp r (tE T X.K W ia) (tE T X.K W ib) σ H Q := by
  obtain ⟨ρ, F, S, ι, G, em, sr, h⟩ := h
  refine ⟨ρ, F, S, ι, G, em, sr, Thn.bind (rel2 := DR T X.K) h fun x S1 vx ι1 G1 H1 em1 x1 dx h1 => ?_⟩
  refine ⟨ρ, F, S1, ι1, G1, em1, sr.mono x1, Thn.bind (rel2 := DR T X.K) h1 fun y S2 vy ι2 G2 H2 em2 x2 dy h2 => ?_⟩
  obtain ⟨d, e, h3⟩ := Thn.lift h2
  exact hf F S2 ι2 G2 H2 x y d vx vy Q em2 (dx.mono x2.1 x2.2) dy e fun v G' H' em' x' r' => h3 v ι2 G' H' em' x' r'
theorem je_op {op : Operator} (ho : OpR X (binaryOp op) r) (hf : OpS T X.K r f) (ha : JE T X W a ia) (hb : JE T X W b ib) : JE T X W (.BinOp a op b pos) (iOp f ia ib) :=
  PE.mono (pe_op ho ha hb) fun σ H Q h => op_go hf h
theorem je_cmp {op : CmpOp} (ho : OpR X (compareOp op) r) (hf : OpS T X.K r f) (ha : JE T X W a ia) (hb : JE T X W b ib) (hm : behindInMarks op b = false) : JE T X W (.Compare a [op] [b] pos) (iOp f ia ib) :=
  PE.mono (pe_cmpR ho ha hb hm) fun σ H Q h => op_go hf h
theorem je_ix (ho : IxR X r) (hf : OpS T X.K r f) (ha : JE T X W a ia) (hb : JE T X W b ib) (hs : PlainIx b) : JE T X W (.Subscript a b pos) (iOp f ia ib) :=
  PE.mono (pe_ix ho ha hb hs) fun σ H Q h => op_go hf h
/-! ### tests -/
def isB : D → Option Bool
  | .bl b => some b
  | _ => none
/-- a bool's value as a test -/
def iTst (ie : IE) : IT := fun ρ => M.bind (ie ρ) fun d => lift (isB d)
theorem tst_go {te : TE} (h : ∀ σ H Q, tE T X.K W ia σ H Q → te σ H Q) {σ : L2.St} {H : Hp} {Q : Bool → Hp → Prop} (k : tT T X.K W (iTst ia) σ H Q) : te σ H fun x H' => ∃ c, x = .bl c ∧ Q c H' := by
  obtain ⟨ρ, F, S, ι, G, em, sr, k⟩ := k
  refine h σ H _ ⟨ρ, F, S, ι, G, em, sr, Thn.bind (rel2 := DR T X.K) k fun x S1 vx ι1 G1 H1 em1 x1 dx h1 => ?_⟩
  obtain ⟨d, e, h3⟩ := Thn.lift h1
  cases x with
  | bl q =>
    have eq : q = d := Option.some.inj e
    subst eq
    simp only [DR] at dx
    exact ⟨q, dx, h3.ok em1 rfl⟩
  | _ => cases e
theorem jt_cmp {op : CmpOp} (ho : OpR X (compareOp op) r) (hf : OpS T X.K r f) (ha : JE T X W a ia) (hb : JE T X W b ib) (hm : behindInMarks op b = false) : JT T X W (.Compare a [op] [b] pos) (iTst (iOp f ia ib)) :=
  PT.mono (pt_cmpR ho ha hb hm) fun σ H Q h => tst_go (te := tOp r (tE T X.K W ia) (tE T X.K W ib)) (fun _ _ _ h => op_go hf h) h
theorem jt_val {e : Expr} (h : JE T X W e ia) (he : ∀ whole, isTrue e X.env whole = (do let v ← whole; standAt e.pos; holding [v] (truthy v)) := by intro _; rfl) : JT T X W e (iTst ia) :=
  PT.mono (pt_val h he) fun σ H Q h => tst_go (te := tE T X.K W ia) (fun _ _ _ h => h) h
/-- a chain of two comparisons -/
def iChain (f g : Op2) (ia ib ic : IE) : IE := fun ρ => M.bind (ia ρ) fun x => M.bind (ib ρ) fun y => M.bind (fun S => lift ((f x y S).bind isB) S) fun k => if k = true then M.bind (ic ρ) fun z => fun S => lift (g y z S) S else M.ret (.bl false)
theorem chain_go (hf : OpS T X.K r f) (hg : OpS T X.K r' g) {σ : L2.St} {H : Hp} {Q : VK} (h : tE T X.K W (iChain f g ia ib ic) σ H Q) : tChain r r' (tE T X.K W ia) (tE T X.K W ib) (tE T X.K W ic) σ H Q := by
  obtain ⟨ρ, F, S, ι, G, em, sr, h⟩ := h
  refine ⟨ρ, F, S, ι, G, em, sr, Thn.bind (rel2 := DR T X.K) h fun x S1 vx ι1 G1 H1 em1 x1 dx h1 => ?_⟩
  refine ⟨ρ, F, S1, ι1, G1, em1, sr.mono x1, Thn.bind (rel2 := DR T X.K) h1 fun y S2 vy ι2 G2 H2 em2 x2 dy h2 => ?_⟩
  rw [bind_lift] at h2
  cases e : f x y S2 with
  | none => rw [e] at h2; exact h2.elim
  | some d =>
    rw [e] at h2
    cases d with
    | bl k =>
      refine hf F S2 ι2 G2 H2 x y (.bl k) vx vy _ em2 (dx.mono x2.1 x2.2) dy e fun v G' H' em' x' r' => ?_
      simp only [DR] at r'
      refine ⟨k, r', ?_⟩
      have h3 := Thn.ext h2 x'
      cases k with
      | false => exact Thn.ok h3 em' (by simp only [DR])
      | true =>
        refine iteT ⟨ρ, F, S2, ι2, G', em', (sr.mono x1).mono (x2.trans x'), Thn.bind (rel2 := DR T X.K) (k := fun z => fun S => lift (g y z S) S) h3 fun z S3 vz ι3 G3 H3 em3 x3 dz h4 => ?_⟩
        obtain ⟨d, e2, h5⟩ := Thn.lift h4
        exact hg F S3 ι3 G3 H3 y z d vy vz Q em3 ((dy.mono x'.1 x'.2).mono x3.1 x3.2) dz e2 fun v G' H' em' x' r' => h5 v ι3 G' H' em' x' r'
    | _ => exact h2.elim
theorem jt_chain {op op' : CmpOp} (ho : OpR X (compareOp op) r) (ho' : OpR X (compareOp op') r') (hf : OpS T X.K r f) (hg : OpS T X.K r' g) (ha : JE T X W a ia) (hb : JE T X W b ib) (hc : JE T X W c ic)
    (hm : lastMarks [op, op'] [b, c] = false := by with_unfolding_all rfl) : JT T X W (.Compare a [op, op'] [b, c] pos) (iTst (iChain f g ia ib ic)) :=
  PT.mono (pt_chain ho ho' ha hb hc hm) fun σ H Q h => tst_go (te := tChain r r' (tE T X.K W ia) (tE T X.K W ib) (tE T X.K W ic)) (fun _ _ _ h => chain_go hf hg h) h
end
end J
set_option Elab.async false
set_option linter.all false
set_option maxRecDepth 100000
set_option maxHeartbeats 410000
/-! J2: and, or, not, conditional expressions, argument lists, displays, calls of built-ins, methods of built-ins -/
namespace J
open PySem PySem.Spec L2
section
variable {T : Tab} {X : Cx} {W : WX} {a b c e : Expr} {es rest : List Expr} {ia ib ic : IE} {ta tb : IT} {pos : Pos}
def iAnd (ta tb : IT) : IT := fun ρ => M.bind (ta ρ) fun c => if c = true then tb ρ else M.ret false
def iOr (ta tb : IT) : IT := fun ρ => M.bind (ta ρ) fun c => if c = true then M.ret true else tb ρ
def iNot (ta : IT) : IT := fun ρ => M.bind (ta ρ) fun c => M.ret (!c)
def iAndV (ia ib : IE) : IE := fun ρ => M.bind (ia ρ) fun x => M.bind (lift (isB x)) fun c => if c = true then ib ρ else M.ret (.bl false)
def iOrV (ia ib : IE) : IE := fun ρ => M.bind (ia ρ) fun x => M.bind (lift (isB x)) fun c => if c = true then M.ret (.bl true) else ib ρ
def iNotV (ta : IT) : IE := fun ρ => M.bind (ta ρ) fun c => M.ret (.bl (!c))
def iIf (t : IT) (ia ib : IE) : IE := fun ρ => M.bind (t ρ) fun c => if c = true then ia ρ else ib ρ
theorem jw_or1 (ha : JT T X W a ta) : JW T X W (.BoolOp .Or [a] pos) ta := pw_or1 ha
theorem jw_or (ha : JT T X W a ta) (hb : JW T X W (.BoolOp .Or (b :: rest) pos) tb) : JW T X W (.BoolOp .Or (a :: b :: rest) pos) (iOr ta tb) := by
  refine PW.mono (pw_or ha hb) fun σ H Q ⟨ρ, F, S, ι, G, em, sr, h⟩ => ?_
  refine ⟨ρ, F, S, ι, G, em, sr, Thn.bind (rel2 := fun _ _ (a b : Bool) => a = b) h fun x S1 vx ι1 G1 H1 em1 x1 dx h1 => ?_⟩
  subst dx
  cases x with
  | false => exact iteF ⟨ρ, F, S1, ι1, G1, em1, sr.mono x1, h1⟩
  | true => exact iteT (Thn.ok h1 em1 rfl)
theorem jt_w (h : JW T X W e ta) : JT T X W e ta := PW.pt h
theorem jt_not (ha : JT T X W a ta) : JT T X W (.UnaryOp .Not a pos) (iNot ta) := by
  refine PT.mono (pt_not ha) fun σ H Q ⟨ρ, F, S, ι, G, em, sr, h⟩ => ?_
  refine ⟨ρ, F, S, ι, G, em, sr, Thn.bind (rel2 := fun _ _ (a b : Bool) => a = b) h fun x S1 vx ι1 G1 H1 em1 x1 dx h1 => ?_⟩
  subst dx
  exact Thn.ok h1 em1 rfl
theorem je_one {op} (h : JE T X W a ia) : JE T X W (.BoolOp op [a] pos) ia := pe_one h
theorem je_and (ha : JE T X W a ia) (hb : JE T X W (.BoolOp .And (b :: rest) pos) ib) : JE T X W (.BoolOp .And (a :: b :: rest) pos) (iAndV ia ib) := by
  refine PE.mono (pe_and ha hb) fun σ H Q ⟨ρ, F, S, ι, G, em, sr, h⟩ => ?_
  refine ⟨ρ, F, S, ι, G, em, sr, Thn.bind (rel2 := DR T X.K) h fun x S1 vx ι1 G1 H1 em1 x1 dx h1 => ?_⟩
  cases x with
  | bl q =>
    simp only [DR] at dx
    refine ⟨q, dx, ?_⟩
    cases q with
    | true => exact iteT ⟨ρ, F, S1, ι1, G1, em1, sr.mono x1, h1⟩
    | false => exact iteF (Thn.ok h1 em1 (by simp only [DR]))
  | _ => exact h1.elim
theorem je_not (ha : JE T X W a ia) : JE T X W (.UnaryOp .Not a pos) (iNotV (iTst ia)) := by
  refine PE.mono (pe_not ha) fun σ H Q ⟨ρ, F, S, ι, G, em, sr, h⟩ => ?_
  have h' : Thn T X.K F W σ G ι (DR T X.K) (M.bind (ia ρ) (fun d => M.bind (lift (isB d)) fun c => M.ret (.bl (!c))) S) Q := by
    have e : M.bind (ia ρ) (fun d => M.bind (lift (isB d)) fun c => M.ret (.bl (!c))) S = iNotV (iTst ia) ρ S := by
      unfold iNotV iTst M.bind
      cases ia ρ S <;> rfl
    rw [e]
    exact h
  refine ⟨ρ, F, S, ι, G, em, sr, Thn.bind (rel2 := DR T X.K) h' fun x S1 vx ι1 G1 H1 em1 x1 dx h1 => ?_⟩
  cases x with
  | bl q =>
    simp only [DR] at dx
    exact ⟨q, dx, Thn.ok h1 em1 (by simp only [DR])⟩
  | _ => exact h1.elim
theorem je_if (hc : JT T X W c ta) (ha : JE T X W a ia) (hb : JE T X W b ib) : JE T X W (.IfExp c a b pos) (iIf ta ia ib) := by
  refine PE.mono (pe_ifExp hc ha hb) fun σ H Q ⟨ρ, F, S, ι, G, em, sr, h⟩ => ?_
  refine ⟨ρ, F, S, ι, G, em, sr, Thn.bind (rel2 := fun _ _ (a b : Bool) => a = b) h fun x S1 vx ι1 G1 H1 em1 x1 dx h1 => ?_⟩
  subst dx
  cases x with
  | true => exact iteT ⟨ρ, F, S1, ι1, G1, em1, sr.mono x1, h1⟩
  | false => exact iteF ⟨ρ, F, S1, ι1, G1, em1, sr.mono x1, h1⟩
/-! ### argument lists -/
def iNil : IA := fun _ => M.ret []
def iCons (ia : IE) (ir : IA) : IA := fun ρ => M.bind (ia ρ) fun x => M.bind (ir ρ) fun xs => M.ret (x :: xs)
theorem ja_nil : JA T X W [] iNil := PA.mono pa_nil fun σ H Q ⟨ρ, F, S, ι, G, em, sr, h⟩ => Thn.ok h em DRs.nil
theorem cons_go {ir : IA} {σ : L2.St} {H : Hp} {Q : List V → Hp → Prop} (h : tA T X.K W (iCons ia ir) σ H Q) : tCons (tE T X.K W ia) (tA T X.K W ir) σ H Q := by
  obtain ⟨ρ, F, S, ι, G, em, sr, h⟩ := h
  refine ⟨ρ, F, S, ι, G, em, sr, Thn.bind (rel2 := DR T X.K) h fun x S1 vx ι1 G1 H1 em1 x1 dx h1 => ?_⟩
  refine ⟨ρ, F, S1, ι1, G1, em1, sr.mono x1, Thn.bind (rel2 := DRs T X.K) h1 fun y S2 vy ι2 G2 H2 em2 x2 dy h2 => ?_⟩
  exact Thn.ok h2 em2 (DRs.cons (dx.mono x2.1 x2.2) dy)
theorem ja_cons {ir : IA} (ha : JE T X W e ia) (hr : JA T X W es ir) (hs : starEach (e :: es) X.env = (false, eval e X.env) :: starEach es X.env := by rfl) : JA T X W (e :: es) (iCons ia ir) :=
  PA.mono (pa_cons ha hr hs) fun σ H Q h => cons_go h
/-! ### displays -/
def iTup (ia : IA) : IE := fun ρ => M.bind (ia ρ) fun xs => if xs.length ≤ 100000 then M.ret (.tup xs) else M.no
def iLst (ia : IA) : IE := fun ρ => M.bind (ia ρ) fun xs => if xs.length ≤ 100000 then M.ret (.lst xs) else M.no
/-- a list that will change -/
def iLstM (ia : IA) : IE := fun ρ => M.bind (ia ρ) fun xs => if xs.length ≤ 100000 then fun S => .ok (.ref S.next) (S.alloc (.lst xs)) else M.no
theorem sz_of {n : Nat} (hn : n ≤ 100000) : n ≤ sizeLine := Nat.le_trans hn (show (100000 : Nat) ≤ sizeLine by decide)
theorem je_tup {x1} {ia : IA} (h : JA T X W es ia) : JE T X W (.Tuple es x1 pos) (iTup ia) := by
  refine PE.mono (pe_tup h) fun σ H Q ⟨ρ, F, S, ι, G, em, sr, h⟩ => ?_
  refine ⟨ρ, F, S, ι, G, em, sr, Thn.bind (rel2 := DRs T X.K) h fun xs S1 vx ι1 G1 H1 em1 x1 dx h1 => ?_⟩
  by_cases hl : xs.length ≤ 100000
  · rw [if_pos hl] at h1
    refine ⟨by rw [← dx.length]; exact sz_of hl, fun p hp => ?_⟩
    obtain ⟨em2, x2⟩ := em1.frz (o := .tup vx) hp
    exact h1 _ _ _ _ em2 x2 (by simp only [DR]; exact ⟨p, vx, rfl, upd_same, dx.mono x2.1 x2.2⟩)
  · rw [if_neg hl] at h1
    exact h1.elim
theorem je_lst {ia : IA} (h : JA T X W es ia) : JE T X W (.List es pos) (iLst ia) := by
  refine PE.mono (pe_lst h) fun σ H Q ⟨ρ, F, S, ι, G, em, sr, h⟩ => ?_
  refine ⟨ρ, F, S, ι, G, em, sr, Thn.bind (rel2 := DRs T X.K) h fun xs S1 vx ι1 G1 H1 em1 x1 dx h1 => ?_⟩
  by_cases hl : xs.length ≤ 100000
  · rw [if_pos hl] at h1
    refine ⟨by rw [← dx.length]; exact sz_of hl, fun p hp => ?_⟩
    obtain ⟨em2, x2⟩ := em1.frz (o := .lst vx) hp
    exact h1 _ _ _ _ em2 x2 (by simp only [DR]; exact ⟨p, vx, rfl, upd_same, dx.mono x2.1 x2.2⟩)
  · rw [if_neg hl] at h1
    exact h1.elim
theorem je_lstM {ia : IA} (h : JA T X W es ia) : JE T X W (.List es pos) (iLstM ia) := by
  refine PE.mono (pe_lst h) fun σ H Q ⟨ρ, F, S, ι, G, em, sr, h⟩ => ?_
  refine ⟨ρ, F, S, ι, G, em, sr, Thn.bind (rel2 := DRs T X.K) h fun xs S1 vx ι1 G1 H1 em1 x1 dx h1 => ?_⟩
  by_cases hl : xs.length ≤ 100000
  · rw [if_pos hl] at h1
    refine ⟨by rw [← dx.length]; exact sz_of hl, fun p hp => ?_⟩
    obtain ⟨em2, x2, hn⟩ := em1.alloc (o := .lst xs) (u := .lst vx) hp ⟨vx, rfl, dx⟩
    exact h1 _ _ _ _ em2 x2 (by simp only [DR]; exact ⟨p, hn, rfl⟩)
  · rw [if_neg hl] at h1
    exact h1.elim
end
/-! ### calls of built-ins -/
abbrev OpN := List D → Store → Option D
def iCB (f : OpN) (ia : IA) : IE := fun ρ => M.bind (ia ρ) fun xs => fun S => lift (f xs S) S
def CaS (T : Tab) (K : PySem.W.Frag) (r : List V → Hp → VK → Prop) (f : OpN) : Prop := ∀ F S ι G H xs d vs (Q : VK), Em T K F S ι G H → DRs T K G ι xs vs → f xs S = some d →
  (∀ v G' H', Em T K F S ι G' H' → Ext G ι G' ι → DR T K G' ι d v → Q v H') → r vs H Q
theorem CaS.or {T : Tab} {K : PySem.W.Frag} {r r' : List V → Hp → VK → Prop} {f g k : OpN} (h : CaS T K r f) (h' : CaS T K r' g) (hk : ∀ x S d, k x S = some d → f x S = some d ∨ g x S = some d) : CaS T K (fun x H Q => r x H Q ∨ r' x H Q) k :=
  fun F S ι G H x d vx Q em dx e q => (hk x S d e).elim (fun z => .inl (h F S ι G H x d vx Q em dx z q)) fun z => .inr (h' F S ι G H x d vx Q em dx z q)
section
variable {T : Tab} {X : Cx} {W : WX} {a b c e : Expr} {es rest : List Expr} {ia : IA} {pos p : Pos} {r : List V → Hp → VK → Prop} {f : OpN} {id Ty : String} {x : Str}
theorem cb_go (hf : CaS T X.K r f) {σ : L2.St} {H : Hp} {Q : VK} (h : tE T X.K W (iCB f ia) σ H Q) : tCB r (tA T X.K W ia) σ H Q := by
  obtain ⟨ρ, F, S, ι, G, em, sr, h⟩ := h
  refine ⟨ρ, F, S, ι, G, em, sr, Thn.bind (rel2 := DRs T X.K) h fun x S1 vx ι1 G1 H1 em1 x1 dx h1 => ?_⟩
  obtain ⟨d, e, h3⟩ := Thn.lift h1
  exact hf F S1 ι1 G1 H1 x d vx Q em1 dx e fun v G' H' em' x' r' => h3 v ι1 G' H' em' x' r'
theorem je_callB (hc : CallR X (.builtin id) r) (hf : CaS T X.K r f) (hg : Gl X x) (hm : X.mg x = none) (hv : bootBuiltins x = some (.builtin id)) (ha : JA T X W (e :: es) ia) (hn : x ≠ "__name__" := by decide) (hdb : (x == ("__debug__" : Str)) = false := by decide)
    (he : starEach (e :: es) X.env = (false, eval e X.env) :: starEach es X.env := by rfl) (hpl : (backTo pos (starEach es X.env)).any (·.1) = false := by rfl) : JE T X W (.Call (.Name x p) (e :: es) [] pos) (iCB f ia) :=
  PE.mono (pe_callB hc hg hm hv ha hn hdb he hpl) fun σ H Q h => cb_go hf h
theorem je_callTy (hc : CallR X (.type Ty) r) (hf : CaS T X.K r f) (hg : Gl X x) (hm : X.mg x = none) (hv : bootBuiltins x = some (.type Ty)) (ha : JA T X W (e :: es) ia) (hn : x ≠ "__name__" := by decide) (hdb : (x == ("__debug__" : Str)) = false := by decide)
    (he : starEach (e :: es) X.env = (false, eval e X.env) :: starEach es X.env := by rfl) (hpl : (backTo pos (starEach es X.env)).any (·.1) = false := by rfl) : JE T X W (.Call (.Name x p) (e :: es) [] pos) (iCB f ia) :=
  PE.mono (pe_callTy hc hg hm hv ha hn hdb he hpl) fun σ H Q h => cb_go hf h
end
/-! ### methods of built-ins -/
abbrev OpM := D → List D → M D
inductive Kd where
  | s | l | d
def Kd.nm : Kd → String
  | .s => "str"
  | .l => "list"
  | .d => "dict"
def kindIs : Kd → D → Store → Bool
  | .s, .str _, _ => true
  | .l, .lst _, _ => true
  | .l, .scr _, _ => true
  | k, .ref n, S => match k, S.get n with
    | .l, some (.lst _) => true
    | .d, some (.dct _) => true
    | .d, some (.dcT _) => true
    | _, _ => false
  | _, _, _ => false
def iBM (Ty : Kd) (f : OpM) (io : IE) (ia : IA) : IE := fun ρ => M.bind (io ρ) fun x => fun S => if kindIs Ty x S = true then M.bind (ia ρ) (fun xs => f x xs) S else .no
def MtS (T : Tab) (K : PySem.W.Frag) (r : V → List V → Hp → VK → Prop) (f : OpM) : Prop := ∀ F S ι G H x xs vx vs W σ (Q : VK), Em T K F S ι G H → DR T K G ι x vx → DRs T K G ι xs vs → Thn T K F W σ G ι (DR T K) (f x xs S) Q → r vx vs H Q
theorem kind_ty {T : Tab} {K : PySem.W.Frag} {F : Hp} {S : Store} {ι : List Addr} {G H : Hp} {Ty : Kd} {x : D} {v : V} (em : Em T K F S ι G H) (h : DR T K G ι x v) (k : kindIs Ty x S = true) : tyV K Ty.nm v H := by
  cases x with
  | str l =>
    simp only [DR] at h
    subst h
    cases Ty with
    | s => exact rfl
    | _ => cases k
  | lst l =>
    simp only [DR] at h
    obtain ⟨a, vs, rfl, q, _⟩ := h
    cases Ty with
    | l => exact .inl ⟨rfl, vs, SqL.of (em.sub _ _ q)⟩
    | _ => cases k
  | scr l =>
    simp only [DR] at h
    obtain ⟨a, vs, rfl, q, _⟩ := h
    cases Ty with
    | l => exact .inl ⟨rfl, vs, Same.seq em.sub q⟩
    | _ => cases k
  | dct ks l => cases Ty <;> cases k
  | ref n =>
    simp only [DR] at h
    obtain ⟨a, ha, rfl⟩ := h
    cases e : S.get n with
    | none =>
      cases Ty <;> simp [kindIs, e] at k
    | some o =>
      obtain ⟨a', u, h1, _, _, h4, h5⟩ := em.obj n o e
      rw [ha] at h1
      cases h1
      cases o with
      | lst xs =>
        obtain ⟨vs, rfl, _⟩ := h5
        cases Ty with
        | l => exact .inl ⟨rfl, vs, SqL.of h4⟩
        | _ => simp [kindIs, e] at k
      | dct xs =>
        obtain ⟨vs, rfl, _⟩ := h5
        cases Ty with
        | d => exact .inr (.inr (.inl ⟨rfl, .inl ⟨_, h4⟩⟩))
        | _ => simp [kindIs, e] at k
      | dcT xs =>
        obtain ⟨vs, rfl, _⟩ := h5
        cases Ty with
        | d => exact .inr (.inr (.inl ⟨rfl, .inr ⟨_, h4⟩⟩))
        | _ => simp [kindIs, e] at k
      | ins c fs => cases Ty <;> simp [kindIs, e] at k
  | _ => cases Ty <;> cases k
section
variable {T : Tab} {X : Cx} {W : WX} {o e : Expr} {es : List Expr} {io : IE} {ia : IA} {name : Str} {apos cpos : Pos} {Ty : Kd} {id : String} {r : V → List V → Hp → VK → Prop} {f : OpM}
/-- few plain arguments, no keywords -/
abbrev fewA (X : Cx) (cpos : Pos) (e : Expr) (es : List Expr) : Bool := (backTo cpos (starEach (e :: es) X.env)).all (fun q => !q.1) && (backToKw cpos (keywordEach [] X.env)).all (fun q => q.1.isSome) && decide ((e :: es).length + ([] : List Keyword).length + (if ([] : List Keyword).isEmpty then 0 else 1) < 30)
theorem je_bm (pa : PlainAttrs Ty.nm) (slot : Slot Ty.nm name id) (hty : typeOf (.builtin id) = pure (.type "method_descriptor")) (hm : MtR X id r) (hf : MtS T X.K r f) (ho : JE T X W o io) (ha : JA T X W (e :: es) ia)
    (h0 : attributeBase o name X.env (eval o X.env) = eval o X.env := by rfl)
    (few : fewA X cpos e es = true := by rfl) (ln : (apos.endLine == cpos.line) = true := by rfl) (st : starEach (e :: es) X.env = (false, eval e X.env) :: starEach es X.env := by rfl) (hplain : (backTo cpos (starEach es X.env)).any (·.1) = false := by rfl) :
    JE T X W (.Call (.Attribute o name apos) (e :: es) [] cpos) (iBM Ty f io ia) := by
  refine PE.mono (pe_bm pa slot hty hm ho ha h0 few ln st hplain) fun σ H Q ⟨ρ, F, S, ι, G, em, sr, h⟩ => ?_
  refine ⟨ρ, F, S, ι, G, em, sr, Thn.bind (rel2 := DR T X.K) h fun x S1 vx ι1 G1 H1 em1 x1 dx h1 => ?_⟩
  by_cases hk : kindIs Ty x S1 = true
  · rw [if_pos hk] at h1
    refine ⟨kind_ty em1 dx hk, ρ, F, S1, ι1, G1, em1, sr.mono x1, Thn.bind (rel2 := DRs T X.K) h1 fun y S2 vy ι2 G2 H2 em2 x2 dy h2 => ?_⟩
    exact hf F S2 ι2 G2 H2 x y vx vy W σ Q em2 (dx.mono x2.1 x2.2) dy h2
  · rw [if_neg hk] at h1
    exact h1.elim
def iBM0 (Ty : Kd) (f : OpM) (io : IE) : IE := fun ρ => M.bind (io ρ) fun x => fun S => if kindIs Ty x S = true then f x [] S else .no
end
/-! ### slices -/
def cutD {α : Type} (xs : List α) (lo hi : Option Int) : List α := (xs.drop (HT.sIx xs.length 0 lo)).take (HT.sIx xs.length xs.length hi - HT.sIx xs.length 0 lo)
abbrev OpC := D → Option Int → Option Int → Store → Option D
abbrev IO := Rho → M (Option Int)
def iPart (ie : IE) : IO := fun ρ => M.bind (ie ρ) fun d => match d with
  | .int i => M.ret (some i)
  | _ => M.no
def iNoPart : IO := fun _ => M.ret none
def iSl (f : OpC) (ie : IE) (il ih : IO) : IE := fun ρ => M.bind (ie ρ) fun x => M.bind (il ρ) fun l => M.bind (ih ρ) fun u => fun S => lift (f x l u S) S
abbrev tO (T : Tab) (K : PySem.W.Frag) (W : WX) (io : IO) : TO := tG T K W (fun _ _ (a b : Option Int) => a = b) io
def SlS (T : Tab) (K : PySem.W.Frag) (r : V → Option Int → Option Int → Hp → VK → Prop) (f : OpC) : Prop := ∀ F S ι G H x l u d vx (Q : VK), Em T K F S ι G H → DR T K G ι x vx → f x l u S = some d →
  (∀ v G' H', Em T K F S ι G' H' → Ext G ι G' ι → DR T K G' ι d v → Q v H') → r vx l u H Q
theorem SlS.or {T : Tab} {K : PySem.W.Frag} {r r' : V → Option Int → Option Int → Hp → VK → Prop} {f g k : OpC} (h : SlS T K r f) (h' : SlS T K r' g) (hk : ∀ x l u S d, k x l u S = some d → f x l u S = some d ∨ g x l u S = some d) : SlS T K (fun x l u H Q => r x l u H Q ∨ r' x l u H Q) k :=
  fun F S ι G H x l u d vx Q em dx e q => (hk x l u S d e).elim (fun z => .inl (h F S ι G H x l u d vx Q em dx z q)) fun z => .inr (h' F S ι G H x l u d vx Q em dx z q)
section
variable {T : Tab} {X : Cx} {W : WX} {e : Expr} {lo hi : Option Expr} {ie : IE} {il ih : IO} {pos p2 : Pos} {r : V → Option Int → Option Int → Hp → VK → Prop} {f : OpC}
theorem jo_none : PO X none (tO T X.K W iNoPart) := ⟨fun pins s σ H Q I h => by
  obtain ⟨ρ, F, S, ι, G, em, sr, h⟩ := h
  exact po_none.run pins s σ H Q I (Thn.ok h em rfl)⟩
theorem jo_some (h : JE T X W e ie) : PO X (some e) (tO T X.K W (iPart ie)) := ⟨fun pins s σ H Q I k => by
  refine (po_some h).run pins s σ H Q I ?_
  obtain ⟨ρ, F, S, ι, G, em, sr, k⟩ := k
  refine ⟨ρ, F, S, ι, G, em, sr, Thn.bind (rel2 := DR T X.K) k fun x S1 vx ι1 G1 H1 em1 x1 dx h1 => ?_⟩
  cases x with
  | int i =>
    simp only [DR] at dx
    exact ⟨i, dx, Thn.ok h1 em1 rfl⟩
  | _ => exact h1.elim⟩
theorem je_slice (hr : SlR X r) (hf : SlS T X.K r f) (he : JE T X W e ie) (hl : PO X lo (tO T X.K W il)) (hu : PO X hi (tO T X.K W ih)) : JE T X W (.Subscript e (.Slice lo hi none p2) pos) (iSl f ie il ih) := by
  refine PE.mono (pe_slice hr he hl hu) fun σ H Q ⟨ρ, F, S, ι, G, em, sr, h⟩ => ?_
  refine ⟨ρ, F, S, ι, G, em, sr, Thn.bind (rel2 := DR T X.K) h fun x S1 vx ι1 G1 H1 em1 x1 dx h1 => ?_⟩
  refine ⟨ρ, F, S1, ι1, G1, em1, sr.mono x1, Thn.bind (rel2 := fun _ _ (a b : Option Int) => a = b) h1 fun l S2 vl ι2 G2 H2 em2 x2 dl h2 => ?_⟩
  subst dl
  refine ⟨ρ, F, S2, ι2, G2, em2, (sr.mono x1).mono x2, Thn.bind (rel2 := fun _ _ (a b : Option Int) => a = b) h2 fun u S3 vu ι3 G3 H3 em3 x3 du h3 => ?_⟩
  subst du
  obtain ⟨d, e, h4⟩ := Thn.lift h3
  exact hf F S3 ι3 G3 H3 x l u d vx Q em3 ((dx.mono x2.1 x2.2).mono x3.1 x3.2) e fun v G' H' em' x' r' => h4 v ι3 G' H' em' x' r'
end
end J
set_option Elab.async false
set_option linter.all false
set_option maxRecDepth 100000
set_option maxHeartbeats 410000
/-! J3: statements, loops, comprehensions, defs -/
namespace J
open PySem PySem.Spec L2
def ThnS (T : Tab) (K : PySem.W.Frag) (F : Hp) (W : WX) (G : Hp) (ι : List Addr) (m : R Fl) (E : Ends) : Prop := Runs m (fun fl S' => match fl with
    | .nx ρ => ∀ σ' ι' G' H', Em T K F S' ι' G' H' → Ext G ι G' ι' → SR T K G' ι' ρ σ' → E.nx σ' H'
    | .rt d => ∀ v ι' G' H', Em T K F S' ι' G' H' → Ext G ι G' ι' → DR T K G' ι' d v → E.rt v H'
    | .bk ρ => ∀ σ' ι' G' H', Em T K F S' ι' G' H' → Ext G ι G' ι' → SR T K G' ι' ρ σ' → E.bk σ' H'
    | .ct ρ => ∀ σ' ι' G' H', Em T K F S' ι' G' H' → Ext G ι G' ι' → SR T K G' ι' ρ σ' → E.ct σ' H'
    | .xx c fs ρ => ∀ dd σ' ι' G' H', Em T K F S' ι' G' H' → Ext G ι G' ι' → SR T K G' ι' ρ σ' → XR T K G' ι' fs dd → W (.ref (He.ga K (T.cn c))) dd σ' H') (fun _ _ _ => False)
def tS (T : Tab) (K : PySem.W.Frag) (W : WX) (is : IS) : TS := fun E σ H => ∃ ρ F S ι G, Em T K F S ι G H ∧ SR T K G ι ρ σ ∧ ThnS T K F W G ι (is ρ S) E
abbrev JS (T : Tab) (X : Cx) (W : WX) (st : Stmt) (is : IS) : Prop := PS X st (tS T X.K W is)
abbrev JSs (T : Tab) (X : Cx) (W : WX) (st : List Stmt) (is : IS) : Prop := PSs X st (tS T X.K W is)
theorem PS.mono {X : Cx} {e : Stmt} {t t' : TS} (h : PS X e t) (k : ∀ D σ H, t' D σ H → t D σ H) : PS X e t' := ⟨fun pins s σ H D I q => h.run pins s σ H D I (k D σ H q)⟩
theorem PSs.mono {X : Cx} {e : List Stmt} {t t' : TS} (h : PSs X e t) (k : ∀ D σ H, t' D σ H → t D σ H) : PSs X e t' := ⟨fun pins s σ H D I q => h.run pins s σ H D I (k D σ H q)⟩
/-- an expression within a statement -/
def sBind {α : Type} (m : M α) (ρ : Rho) (k : α → M Fl) : M Fl := fun S => match m S with
  | .ok a S' => k a S'
  | .ex c fs S' => .ok (.xx c fs ρ) S'
  | .no => .no
section
variable {T : Tab} {K : PySem.W.Frag} {F : Hp} {W : WX} {σ : L2.St} {G G1 : Hp} {ι ι1 : List Addr}
theorem ThnS.ext {m : R Fl} {E : Ends} (h : ThnS T K F W G ι m E) (x : Ext G ι G1 ι1) : ThnS T K F W G1 ι1 m E := by
  refine Runs.imp h (fun fl S' q => ?_) fun _ _ _ q => q
  cases fl with
  | xx c fs ρ => exact fun dd σ' ι' G' H' em y r => q dd σ' ι' G' H' em (x.trans y) r
  | _ => exact fun v ι' G' H' em y r => q v ι' G' H' em (x.trans y) r
theorem ThnS.bind {α β : Type} {rel : Hp → List Addr → α → β → Prop} {m : M α} {k : α → M Fl} {ρ : Rho} {S : Store} {E : Ends} {Q : β → Hp → Prop} (h : ThnS T K F W G ι (sBind m ρ k S) E) (sr : SR T K G ι ρ σ)
    (go : ∀ a S1 v ι1 G1 H1, Em T K F S1 ι1 G1 H1 → Ext G ι G1 ι1 → rel G1 ι1 a v → ThnS T K F W G1 ι1 (k a S1) E → Q v H1) : Thn T K F W σ G ι rel (m S) Q := by
  unfold sBind at h
  cases e : m S with
  | ok a S1 =>
    rw [e] at h
    exact fun v ι' G' H' em y r => go a S1 v ι' G' H' em y r (ThnS.ext h y)
  | ex c fs S1 =>
    rw [e] at h
    exact fun dd ι' G' H' em y r => h dd σ ι' G' H' em y (sr.mono y) r
  | no =>
    rw [e] at h
    exact h.elim
theorem ThnS.nx {ρ : Rho} {S : Store} {E : Ends} (h : ThnS T K F W G ι (.ok (.nx ρ) S) E) {H : Hp} (em : Em T K F S ι G H) (r : SR T K G ι ρ σ) : E.nx σ H := h σ ι G H em (Ext.refl _ _) r
/-- an end that wants more -/
theorem ThnS.imp {m : R Fl} {E E' : Ends} (h : ThnS T K F W G ι m E) (h1 : ∀ σ H, E.nx σ H → E'.nx σ H) (h2 : ∀ v H, E.rt v H → E'.rt v H) (h3 : ∀ σ H, E.bk σ H → E'.bk σ H) (h4 : ∀ σ H, E.ct σ H → E'.ct σ H) : ThnS T K F W G ι m E' := by
  refine Runs.imp h (fun fl S' q => ?_) fun _ _ _ q => q
  cases fl with
  | nx ρ => exact fun v ι' G' H' em y r => h1 _ _ (q v ι' G' H' em y r)
  | rt ρ => exact fun v ι' G' H' em y r => h2 _ _ (q v ι' G' H' em y r)
  | bk ρ => exact fun v ι' G' H' em y r => h3 _ _ (q v ι' G' H' em y r)
  | ct ρ => exact fun v ι' G' H' em y r => h4 _ _ (q v ι' G' H' em y r)
  | xx c fs ρ => exact q
end
def sSeq (a b : IS) : IS := fun ρ S => match a ρ S with
  | .ok (.nx ρ') S' => b ρ' S'
  | r => r
def sNext : IS := fun ρ => M.ret (.nx ρ)
def sExpr (ie : IE) : IS := fun ρ => sBind (ie ρ) ρ fun _ => M.ret (.nx ρ)
def sAsg (i : Nat) (ie : IE) : IS := fun ρ => sBind (ie ρ) ρ fun d => M.ret (.nx (ρ.set i (some d)))
def sRet (ie : IE) : IS := fun ρ => sBind (ie ρ) ρ fun d => M.ret (.rt d)
def sRetN : IS := fun _ => M.ret (.rt .non)
def sIf (t : IT) (a b : IS) : IS := fun ρ => sBind (t ρ) ρ fun c => if c = true then a ρ else b ρ
section
variable {T : Tab} {X : Cx} {W : WX} {st : Stmt} {rest : List Stmt} {is ir : IS} {e c : Expr} {ie : IE} {t : IT} {pos : Pos}
theorem jss_nil : JSs T X W [] sNext := PSs.mono pss_nil fun D σ H ⟨ρ, F, S, ι, G, em, sr, h⟩ => h.nx em sr
theorem jss_cons (h1 : JS T X W st is) (h2 : JSs T X W rest ir) : JSs T X W (st :: rest) (sSeq is ir) := by
  refine PSs.mono (pss_cons h1 h2) fun D σ H ⟨ρ, F, S, ι, G, em, sr, h⟩ => ?_
  refine ⟨ρ, F, S, ι, G, em, sr, ?_⟩
  unfold sSeq at h
  cases q : is ρ S with
  | ok fl S1 =>
    rw [q] at h
    cases fl with
    | nx ρ' => exact fun σ' ι' G' H' em' y r => ⟨ρ', F, S1, ι', G', em', r, ThnS.ext h y⟩
    | _ => exact h
  | ex _ _ _ => rw [q] at h; exact h.elim
  | no => rw [q] at h; exact h.elim
theorem jss_one (h1 : JS T X W st is) : JSs T X W [st] is := pss_one h1
theorem js_expr (he : JE T X W e ie) (hs : swapsWith e none pos.line X.env = pure false := by rfl) : JS T X W (.Expr e pos) (sExpr ie) :=
  PS.mono (ps_expr he hs) fun D σ H ⟨ρ, F, S, ι, G, em, sr, h⟩ => ⟨ρ, F, S, ι, G, em, sr, ThnS.bind (rel := DR T X.K) h sr fun a S1 v ι1 G1 H1 em1 x1 r h1 => h1.nx em1 (sr.mono x1)⟩
theorem js_ret (he : JE T X W e ie) : JS T X W (.Return (some e) pos) (sRet ie) :=
  PS.mono (ps_ret he) fun D σ H ⟨ρ, F, S, ι, G, em, sr, h⟩ => ⟨ρ, F, S, ι, G, em, sr, ThnS.bind (rel := DR T X.K) h sr fun a S1 v ι1 G1 H1 em1 x1 r h1 => h1 v ι1 G1 H1 em1 (Ext.refl _ _) r⟩
theorem js_set {i : Nat} {x : Str} {pos' : Pos} (hN : X.N.Nodup) (hi : X.N[i]? = some x) (hx : Loc X.env.scope x) (he : JE T X W e ie) (hs : swapsWith e (some (.Name x pos')) pos.line X.env = pure false := by rfl)
    (hf : X.fn x = true ∨ X.env.scope.names.lookup x = some .local := by first | exact .inl rfl | exact .inr rfl | assumption) : JS T X W (.Assign [.Name x pos'] e pos) (sAsg i ie) :=
  PS.mono (ps_set hN hi hx he hs hf) fun D σ H ⟨ρ, F, S, ι, G, em, sr, h⟩ => ⟨ρ, F, S, ι, G, em, sr, ThnS.bind (rel := DR T X.K) h sr fun a S1 v ι1 G1 H1 em1 x1 r h1 => h1.nx em1 ((sr.mono x1).set r i)⟩
theorem js_if {a b : List Stmt} {ia ib : IS} (hc : JT T X W c t) (ha : JSs T X W a ia) (hb : JSs T X W b ib) : JS T X W (.If c a b pos) (sIf t ia ib) := by
  refine PS.mono (ps_if hc ha hb) fun D σ H ⟨ρ, F, S, ι, G, em, sr, h⟩ => ⟨ρ, F, S, ι, G, em, sr, ThnS.bind (rel := fun _ _ (a b : Bool) => a = b) h sr fun q S1 v ι1 G1 H1 em1 x1 r h1 => ?_⟩
  subst r
  cases q with
  | true => exact iteT ⟨ρ, F, S1, ι1, G1, em1, sr.mono x1, h1⟩
  | false => exact iteF ⟨ρ, F, S1, ι1, G1, em1, sr.mono x1, h1⟩
end
/-! ### targets that are names -/
inductive NG where
  | n (i : Nat) | t (is : List Nat)
def gNames : List Nat → TGs
  | [] => gNil
  | i :: is => gCons (gName i) (gNames is)
def ngV (K : PySem.W.Frag) : NG → TG
  | .n i => gName i
  | .t is => gTup K is.length (gNames is)
def nsD : List Nat → List D → Rho → Option Rho
  | [], [], ρ => some ρ
  | i :: is, d :: ds, ρ => nsD is ds (ρ.set i (some d))
  | _, _, _ => none
def ngD : NG → D → Rho → Option Rho
  | .n i, d, ρ => some (ρ.set i (some d))
  | .t is, .tup ds, ρ => nsD is ds ρ
  | .t _, _, _ => none
def NG.slots : NG → List Nat
  | .n i => [i]
  | .t is => is
theorem wipe_set {σ : L2.St} {i : Nat} {x : Option V} : ∀ {vs : List Nat}, i ∈ vs → wipe (σ.set i x) vs = wipe σ vs
  | v :: vs, h => by
    unfold wipe
    by_cases hi : i ∈ vs
    · rw [wipe_set hi]
    · have e : v = i := by
        rcases List.mem_cons.mp h with h | h
        · exact h.symm
        · exact absurd h hi
      subst e
      have key : ∀ (ws : List Nat) (τ : L2.St), v ∉ ws → wipe (τ.set v x) ws = (wipe τ ws).set v x := by
        intro ws
        induction ws with
        | nil => intro τ _; rfl
        | cons w ws ih =>
          intro τ hv
          unfold wipe
          rw [ih τ fun z => hv (List.mem_cons_of_mem _ z)]
          exact List.set_comm _ _ fun z => hv (z ▸ List.mem_cons_self)
      rw [key vs σ hi, List.set_set]
theorem ns_ok {T : Tab} {K : PySem.W.Frag} {G H : Hp} {ι : List Addr} {Q : L2.St → Hp → Prop} : ∀ {is : List Nat} {ds : List D} {vs : List V} {ρ ρ' : Rho} {σ : L2.St}, SR T K G ι ρ σ → DRs T K G ι ds vs → nsD is ds ρ = some ρ' →
    (∀ σ', SR T K G ι ρ' σ' → (∀ ws, (∀ i ∈ is, i ∈ ws) → wipe σ' ws = wipe σ ws) → Q σ' H) → gNames is vs σ H Q
  | [], [], vs, ρ, ρ', σ, sr, dr, e, k => by
    simp only [DRs] at dr
    cases e
    exact ⟨dr, k σ sr fun _ _ => rfl⟩
  | i :: is, d :: ds, vs, ρ, ρ', σ, sr, dr, e, k => by
    simp only [DRs] at dr
    obtain ⟨v, r, rfl, h1, h2⟩ := dr
    refine ⟨v, r, rfl, ns_ok (is := is) (ds := ds) (sr.set h1 i) h2 e fun σ' sr' hw => k σ' sr' fun ws hs => ?_⟩
    rw [hw ws fun j hj => hs j (List.mem_cons_of_mem _ hj)]
    exact wipe_set (hs i List.mem_cons_self)
  | [], _ :: _, _, _, _, _, _, _, e, _ => by cases e
  | _ :: _, [], _, _, _, _, _, _, e, _ => by cases e
theorem nsD_len : ∀ {is : List Nat} {ds : List D} {ρ ρ' : Rho}, nsD is ds ρ = some ρ' → is.length = ds.length
  | [], [], _, _, _ => rfl
  | i :: is, d :: ds, ρ, ρ', e => by simp [nsD_len (is := is) (ds := ds) e]
  | [], _ :: _, _, _, e => by cases e
  | _ :: _, [], _, _, e => by cases e
theorem ng_ok {T : Tab} {K : PySem.W.Frag} {F : Hp} {S : Store} {G H : Hp} {ι : List Addr} {Q : L2.St → Hp → Prop} {g : NG} {d : D} {v : V} {ρ ρ' : Rho} {σ : L2.St} (em : Em T K F S ι G H) (sr : SR T K G ι ρ σ) (dr : DR T K G ι d v) (e : ngD g d ρ = some ρ')
    (k : ∀ σ', SR T K G ι ρ' σ' → (∀ ws, (∀ i ∈ g.slots, i ∈ ws) → wipe σ' ws = wipe σ ws) → Q σ' H) : ngV K g v σ H Q := by
  cases g with
  | n i =>
    cases e
    exact k _ (sr.set dr i) fun ws hs => wipe_set (hs i (by simp [NG.slots]))
  | t is =>
    cases d with
    | tup ds =>
      simp only [DR] at dr
      obtain ⟨a, vs, rfl, h1, h2⟩ := dr
      exact ⟨a, vs, rfl, SqT.of (em.sub _ _ h1), by rw [← h2.length]; exact (nsD_len (show nsD is ds ρ = some ρ' from e)).symm, ns_ok sr h2 e k⟩
    | _ => cases e
theorem jg_name {X : Cx} {i : Nat} {x : Str} {pos : Pos} (hN : X.N.Nodup) (hi : X.N[i]? = some x) (hx : Loc X.env.scope x) (hf : X.fn x = true ∨ X.env.scope.names.lookup x = some .local := by first | exact .inl rfl | exact .inr rfl | assumption) : PG X (.Name x pos) (ngV X.K (.n i)) := pg_name hN hi hx hf
theorem jgs_nil {X : Cx} : PGs X [] (gNames []) := pgs_nil
theorem jgs_cons {X : Cx} {i : Nat} {is : List Nat} {x : Str} {pos : Pos} {es : List Expr} (hN : X.N.Nodup) (hi : X.N[i]? = some x) (hx : Loc X.env.scope x) (h2 : PGs X es (gNames is))
    (hf : X.fn x = true ∨ X.env.scope.names.lookup x = some .local := by first | exact .inl rfl | exact .inr rfl | assumption) (hs : (assignEach (.Name x pos :: es) X.env).map (·.2) = assign (.Name x pos) X.env :: (assignEach es X.env).map (·.2) := by rfl) : PGs X (.Name x pos :: es) (gNames (i :: is)) := pgs_cons (pg_name hN hi hx hf) h2 hs
theorem jg_tup {X : Cx} {es : List Expr} {k : Nat} {is : List Nat} {pos : Pos} (hc : X.calm = true) (h : PGs X es (gNames is)) (hn : (assignEach es X.env).length = is.length := by rfl) (hst : (assignEach es X.env).findIdx? (·.1) = none := by rfl) : PG X (.Tuple es k pos) (ngV X.K (.t is)) := pg_tup hc h hn hst
/-! ### what is walked -/
def Walk (T : Tab) (K : PySem.W.Frag) (ι : List Addr) (G : Hp) (J : It) (xs : List D) : Prop := ∀ (i : Nat) F S ι1 G1 H1, Em T K F S ι1 G1 H1 → Ext G ι G1 ι1 →
  (∀ x, xs[i]? = some x → J.go i H1 ∧ ∀ v H2, J.yld i H1 v H2 → ∃ G2, Em T K F S ι1 G2 H2 ∧ Ext G1 ι1 G2 ι1 ∧ DR T K G2 ι1 x v) ∧ (i = xs.length → J.stop i H1)
def tI (T : Tab) (K : PySem.W.Frag) (W : WX) (src : IA) : TI := fun σ H R => ∃ ρ F S ι G, Em T K F S ι G H ∧ SR T K G ι ρ σ ∧
  Runs (src ρ S) (fun xs S' => ∀ J ι' G' H', Em T K F S' ι' G' H' → Ext G ι G' ι' → Walk T K ι' G' J xs → R J H')
    (fun c fs S' => ∀ dd ι' G' H', Em T K F S' ι' G' H' → Ext G ι G' ι' → XR T K G' ι' fs dd → W (.ref (He.ga K (T.cn c))) dd σ H')
abbrev JI (T : Tab) (X : Cx) (W : WX) (tg iter : Expr) (src : IA) : Prop := PI X tg iter (tI T X.K W src)
theorem PI.mono {X : Cx} {tg e : Expr} {t t' : TI} (h : PI X tg e t) (k : ∀ σ H R, t' σ H R → t σ H R) : PI X tg e t' := ⟨fun pins s σ H R I q => h.run pins s σ H R I (k σ H R q)⟩
/-! ### for -/
def forL (g : NG) (body : IS) : List D → IS
  | [] => fun ρ => M.ret (.nx ρ)
  | x :: xs => fun ρ S => match ngD g x ρ with
    | some ρ1 => (match body ρ1 S with
      | .ok (.nx ρ2) S2 => forL g body xs ρ2 S2
      | .ok (.ct ρ2) S2 => forL g body xs ρ2 S2
      | .ok (.bk ρ2) S2 => .ok (.nx ρ2) S2
      | r => r)
    | none => .no
def sFor (src : IA) (g : NG) (body : IS) : IS := fun ρ => sBind (src ρ) ρ fun xs => forL g body xs ρ
section
variable {T : Tab} {X : Cx} {W : WX}
theorem js_for {tg iter : Expr} {body : List Stmt} {src : IA} {g : NG} {ib : IS} {pos : Pos} (hp : PassesOwn (model X.prog X.w) X.A X.env X.xe) (hc : X.calm = true) (hi : JI T X W tg iter src) (hg : PG X tg (ngV X.K g)) (hb : JSs T X W body ib)
    (hs : ∀ x, foldedSetIterable iter X.env x = pure x := by intro _; rfl) : JS T X W (.For tg iter body [] pos) (sFor src g ib) := by
  refine PS.mono (ps_for hp hc hi hg hb hs) fun D σ H ⟨ρ, F, S, ι, G, em, sr, h⟩ => ?_
  refine ⟨ρ, F, S, ι, G, em, sr, ?_⟩
  unfold sFor sBind at h
  cases q : src ρ S with
  | no => rw [q] at h; exact h.elim
  | ex c fs S1 =>
    rw [q] at h
    exact fun dd ι' G' H' em y r => h dd σ ι' G' H' em y (sr.mono y) r
  | ok xs S1 =>
    rw [q] at h
    intro J ι1 G1 H1 em1 x1 wk
    refine ⟨fun i m σ H => i + m = xs.length ∧ ∃ ρ S ι' G', Em T X.K F S ι' G' H ∧ Ext G1 ι1 G' ι' ∧ SR T X.K G' ι' ρ σ ∧ ThnS T X.K F W G' ι' (forL g ib (xs.drop i) ρ S) D,
      ⟨xs.length, by simp, ρ, S1, ι1, G1, em1, Ext.refl _ _, sr.mono x1, ThnS.ext h x1⟩, ?_⟩
    rintro i m σ H ⟨him, ρ, S, ι', G', em', x', sr', h'⟩
    obtain ⟨wg, ws⟩ := wk i F S ι' G' H em' x'
    by_cases hl : i = xs.length
    · left
      refine ⟨ws hl, ?_⟩
      rw [hl, List.drop_length] at h'
      exact h'.nx em' sr'
    · right
      have hlt : i < List.length xs := by omega
      obtain ⟨wgo, wy⟩ := wg xs[i] (List.getElem?_eq_getElem hlt)
      refine ⟨wgo, fun σ' H' => ∃ ρ S ι' G', Em T X.K F S ι' G' H' ∧ Ext G1 ι1 G' ι' ∧ SR T X.K G' ι' ρ σ' ∧ ThnS T X.K F W G' ι' (forL g ib (xs.drop (i + 1)) ρ S) D, fun σ' H' hN => ⟨m - 1, by omega, by omega, hN⟩, fun v H2 hy => ?_⟩
      obtain ⟨G2, em2, x2, dr⟩ := wy v H2 hy
      rw [List.drop_eq_getElem_cons hlt] at h'
      unfold forL at h'
      cases qg : ngD g xs[i] ρ with
      | none => rw [qg] at h'; exact h'.elim
      | some ρ1 =>
        rw [qg] at h'
        refine ng_ok em2 (sr'.mono x2) dr qg fun σ2 sr2 _ => ⟨ρ1, F, S, ι', G2, em2, sr2, ?_⟩
        have h2 := ThnS.ext h' x2
        dsimp only at h2
        cases qb : ib ρ1 S with
        | no => rw [qb] at h2; exact h2.elim
        | ex _ _ _ => rw [qb] at h2; exact h2.elim
        | ok fl S2 =>
          rw [qb] at h2
          cases fl with
          | nx ρ2 => exact fun σ3 ι3 G3 H3 em3 x3 sr3 => ⟨ρ2, S2, ι3, G3, em3, (x'.trans x2).trans x3, sr3, ThnS.ext h2 x3⟩
          | ct ρ2 => exact fun σ3 ι3 G3 H3 em3 x3 sr3 => ⟨ρ2, S2, ι3, G3, em3, (x'.trans x2).trans x3, sr3, ThnS.ext h2 x3⟩
          | bk ρ2 => exact fun σ3 ι3 G3 H3 em3 x3 sr3 => h2 σ3 ι3 G3 H3 em3 x3 sr3
          | rt d => exact h2
          | xx c fs ρ2 => exact h2
end
/-! ### list comprehensions -/
/-- nothing is raised here -/
def nox {α : Type} (m : M α) : M α := fun S => match m S with
  | .ex _ _ _ => .no
  | r => r
abbrev W0 : WX := fun _ _ _ _ => False
def wipeR (ρ : Rho) : List Nat → Rho
  | [] => ρ
  | v :: vs => (wipeR ρ vs).set v none
theorem SR.wipe {T : Tab} {K : PySem.W.Frag} {G : Hp} {ι : List Addr} {ρ : Rho} {σ : L2.St} (sr : SR T K G ι ρ σ) : ∀ vs : List Nat, SR T K G ι (wipeR ρ vs) (L2.wipe σ vs)
  | [] => sr
  | v :: vs => by
    have h := SR.wipe sr vs
    refine ⟨by simp [wipeR, L2.wipe, h.len], fun i d e => ?_⟩
    unfold wipeR at e
    unfold L2.wipe
    by_cases hi : v = i
    · subst hi
      rw [List.getElem?_set] at e
      split at e
      · split at e <;> cases e
      · rename_i hh; exact absurd rfl hh
    · rw [List.getElem?_set_ne hi] at e ⊢
      exact h.at_ i d e
def lcL (g : NG) (t : IT) (ie : IE) (ρ : Rho) : List D → M (List D)
  | [] => M.ret []
  | x :: xs => fun S => match ngD g x ρ with
    | some ρ1 => M.bind (nox (t ρ1)) (fun c => if c = true then M.bind (nox (ie ρ1)) fun d => M.bind (lcL g t ie ρ xs) fun r => M.ret (d :: r) else lcL g t ie ρ xs) S
    | none => .no
def iLc (src : IA) (g : NG) (t : IT) (ie : IE) (vs : List Nat) : IE := fun ρ => M.bind (src ρ) fun xs => if xs.length < 100000 then M.bind (lcL g t ie (wipeR ρ vs) xs) fun r => M.ret (.lst r) else M.no
end J
set_option Elab.async false
set_option linter.all false
set_option maxRecDepth 100000
set_option maxHeartbeats 410000
/-! J4: list comprehensions, defs, calls -/
namespace J
open PySem PySem.Spec L2
open PyProof.Rows (envOfC)
theorem Thn.nox {α β : Type} {T : Tab} {K : PySem.W.Frag} {F F' : Hp} {W : WX} {σ σ' : L2.St} {G : Hp} {ι : List Addr} {γ δ : Type} {rel : Hp → List Addr → α → β → Prop} {rel2 : Hp → List Addr → γ → δ → Prop} {m : M γ} {k : γ → M α} {S : Store} {Q : β → Hp → Prop} {Q2 : δ → Hp → Prop}
    (h : Thn T K F W σ G ι rel (M.bind (J.nox m) k S) Q)
    (go : ∀ a S1 v ι1 G1 H1, Em T K F' S1 ι1 G1 H1 → Ext G ι G1 ι1 → rel2 G1 ι1 a v → Thn T K F W σ G1 ι1 rel (k a S1) Q → Q2 v H1) : Thn T K F' W0 σ' G ι rel2 (m S) Q2 := by
  unfold M.bind J.nox at h
  cases e : m S with
  | ok a S1 =>
    rw [e] at h
    exact fun v ι' G' H' em y r => go a S1 v ι' G' H' em y r (Thn.ext h y)
  | ex c fs S1 =>
    rw [e] at h
    exact h.elim
  | no =>
    rw [e] at h
    exact h
section
variable {T : Tab} {X : Cx} {W : WX} {elt tg iter : Expr} {ifs : List Expr} {scope : Scope} {own : List (Str × Nat)} {pos spos : Pos} {src : IA} {g : NG} {t : IT} {ie : IE}
theorem M.bind_assoc {α β γ : Type} (m : M α) (k : α → M β) (l : β → M γ) : M.bind (M.bind m k) l = M.bind m fun a => M.bind (k a) l := by
  funext S
  unfold M.bind
  cases m S <;> rfl
theorem lcL_cons_some {x : D} {xs : List D} {ρ ρ1 : Rho} (q : ngD g x ρ = some ρ1) : lcL g t ie ρ (x :: xs) = M.bind (nox (t ρ1)) (fun c => if c = true then M.bind (nox (ie ρ1)) fun d => M.bind (lcL g t ie ρ xs) fun r => M.ret (d :: r) else lcL g t ie ρ xs) := by
  funext S
  conv => lhs; unfold lcL
  rw [q]
theorem lcL_cons_none {α : Type} {k : List D → M α} {x : D} {xs : List D} {ρ : Rho} {S : Store} (q : ngD g x ρ = none) : M.bind (lcL g t ie ρ (x :: xs)) k S = .no := by
  unfold M.bind lcL
  rw [q]
theorem wipe_get (σ : L2.St) (i : Nat) : ∀ vs : List Nat, (L2.wipe σ vs)[i]? = if i ∈ vs then (σ[i]?).map (fun _ => none) else σ[i]?
  | [] => by simp [L2.wipe]
  | v :: vs => by
    unfold L2.wipe
    rw [List.getElem?_set, L2.wipe_length, wipe_get σ i vs]
    by_cases hv : v = i
    · subst hv
      by_cases hl : v < σ.length
      · simp [hl]
      · simp [hl]
    · have h2 : ¬ i = v := fun z => hv z.symm
      simp [hv, h2]
theorem wipe_idem (σ : L2.St) (vs : List Nat) : L2.wipe (L2.wipe σ vs) vs = L2.wipe σ vs := by
  apply List.ext_getElem?
  intro i
  rw [wipe_get, wipe_get]
  by_cases h : i ∈ vs
  · simp only [h, if_true, Option.map_map]
    rfl
  · simp [h]
theorem lc_go {vs : List Nat} (hv : ∀ i ∈ g.slots, i ∈ vs) {σ : L2.St} {H : Hp} {Q : VK} (h : tE T X.K W (iLc src g t ie vs) σ H Q) : tLc (tI T X.K W src) (ngV X.K g) (tT T X.K W0 t) (tE T X.K W0 ie) vs σ H Q := by
  obtain ⟨ρ, F, S, ι, G, em, sr, h⟩ := h
  refine ⟨ρ, F, S, ι, G, em, sr, ?_⟩
  unfold iLc M.bind at h
  cases q : src ρ S with
  | no => rw [q] at h; exact h.elim
  | ex c fs S1 => rw [q] at h; exact h
  | ok xs S1 =>
    rw [q] at h
    dsimp only at h
    by_cases hlen : xs.length < 100000
    case neg => rw [if_neg hlen] at h; exact h.elim
    rw [if_pos hlen] at h
    intro J ι1 G1 H1 em1 x1 wk Dl hD
    have h1 : Thn T X.K F W σ G1 ι1 (DR T X.K) (M.bind (lcL g t ie (wipeR ρ vs) xs) (fun r => M.ret (.lst r)) S1) Q := Thn.ext h x1
    refine ⟨fun i m H => i + m = xs.length ∧ ∃ acc av S ι' G', Em T X.K (upd F Dl (.lst av)) S ι' G' H ∧ Ext G1 ι1 G' ι' ∧ DRs T X.K G' ι' acc av ∧ acc.length ≤ i ∧ Thn T X.K F W σ G' ι' (DR T X.K) (M.bind (lcL g t ie (wipeR ρ vs) (xs.drop i)) (fun r => M.ret (.lst (acc ++ r))) S) Q,
      ⟨xs.length, by simp, [], [], S1, ι1, G1, em1.aside hD, Ext.refl _ _, DRs.nil, Nat.le_refl _, h1⟩, ?_⟩
    rintro i m H ⟨him, acc, av, S, ι', G', em', x', da, hal, h'⟩
    obtain ⟨wg, ws⟩ := wk i _ S ι' G' H em' x'
    by_cases hl : i = xs.length
    · left
      refine ⟨ws hl, ?_⟩
      rw [hl, List.drop_length] at h'
      obtain ⟨em2, x2⟩ := em'.adopt (em1.fr.free hD)
      refine h' _ _ _ _ em2 x2 ?_
      simp only [DR]
      exact ⟨Dl, av, rfl, upd_same, by rw [List.append_nil]; exact da.mono x2.1 x2.2⟩
    · right
      have hlt : i < List.length xs := by omega
      obtain ⟨wgo, wy⟩ := wg xs[i] (List.getElem?_eq_getElem hlt)
      refine ⟨wgo, fun H => ∃ acc av S ι' G', Em T X.K (upd F Dl (.lst av)) S ι' G' H ∧ Ext G1 ι1 G' ι' ∧ DRs T X.K G' ι' acc av ∧ acc.length ≤ i + 1 ∧ Thn T X.K F W σ G' ι' (DR T X.K) (M.bind (lcL g t ie (wipeR ρ vs) (xs.drop (i + 1))) (fun r => M.ret (.lst (acc ++ r))) S) Q, fun H' hN => ⟨m - 1, by omega, by omega, hN⟩, fun v H2 hy => ?_⟩
      obtain ⟨G2, em2, x2, dr⟩ := wy v H2 hy
      rw [List.drop_eq_getElem_cons hlt] at h'
      have h2 := Thn.ext h' x2
      have sr2 : SR T X.K G2 ι' (wipeR ρ vs) (L2.wipe σ vs) := (((sr.mono x1).mono x').mono x2).wipe vs
      cases qg : ngD g xs[i] (wipeR ρ vs) with
      | none =>
        rw [lcL_cons_none qg] at h2
        exact h2.elim
      | some ρ1 =>
        have e : M.bind (lcL g t ie (wipeR ρ vs) (xs[i] :: xs.drop (i + 1))) (fun r => M.ret (D.lst (acc ++ r))) S =
            M.bind (nox (t ρ1)) (fun c => if c = true then M.bind (nox (ie ρ1)) (fun d => M.bind (lcL g t ie (wipeR ρ vs) (xs.drop (i + 1))) fun r => M.ret (D.lst ((acc ++ [d]) ++ r))) else M.bind (lcL g t ie (wipeR ρ vs) (xs.drop (i + 1))) fun r => M.ret (D.lst (acc ++ r))) S := by
          rw [lcL_cons_some qg, M.bind_assoc]
          congr 1
          funext c
          cases c with
          | false => rfl
          | true =>
            rw [if_pos rfl, if_pos rfl, M.bind_assoc]
            congr 1
            funext d
            rw [M.bind_assoc]
            congr 1
            funext r
            show M.ret (D.lst (acc ++ d :: r)) = M.ret (D.lst ((acc ++ [d]) ++ r))
            rw [List.append_assoc]
            rfl
        rw [e] at h2
        refine ng_ok em2 sr2 dr qg fun σ2 sr3 hw => ⟨(hw vs hv).trans (wipe_idem σ vs), ?_⟩
        refine ⟨ρ1, _, S, ι', G2, em2, sr3, Thn.nox (rel2 := fun _ _ (a b : Bool) => a = b) h2 fun c S3 cv ι3 G3 H3 em3 x3 dc h3 => ?_⟩
        subst dc
        cases c with
        | false =>
          refine iteF ⟨acc, av, S3, ι3, G3, em3, (x'.trans x2).trans x3, (da.mono x2.1 x2.2).mono x3.1 x3.2, Nat.le_succ_of_le hal, ?_⟩
          exact h3
        | true =>
          refine iteT ⟨ρ1, _, S3, ι3, G3, em3, sr3.mono x3, Thn.nox (rel2 := DR T X.K) h3 fun d S4 dv ι4 G4 H4 em4 x4 dd h4 => ?_⟩
          have dal : DRs T X.K G4 ι4 acc av := ((da.mono x2.1 x2.2).mono x3.1 x3.2).mono x4.1 x4.2
          refine ⟨av, em4.fr _ _ upd_same, ?_, acc ++ [d], av ++ [dv], S4, ι4, G4, em4.reaside, ((x'.trans x2).trans x3).trans x4, dal.append (DRs.cons dd DRs.nil), by simp; omega, h4⟩
          have hl2 := dal.length
          exact Nat.lt_of_lt_of_le (show av.length < 100000 by omega) (by decide)
theorem je_lc (hc : X.calm = true) (hN : X.N.Nodup) (hi : JI T X W tg iter src) (ok : BlkOk X.N X.env.scope scope own)
    (hg : ∀ (s : Shared) (H : Hp) (C : Addr) (cl : List (Str × Addr)) (fp : List Addr), PG (X.blk s H scope (compEnvC scope cl C X.env) fp) tg (ngV X.K g)) (ht : ∀ (s : Shared) (H : Hp) (C : Addr) (cl : List (Str × Addr)) (fp : List Addr), PTs (X.blk s H scope (compEnvC scope cl C X.env) fp) ifs (tT T X.K W0 t))
    (he : ∀ (s : Shared) (H : Hp) (C : Addr) (cl : List (Str × Addr)) (fp : List Addr), JE T (X.blk s H scope (compEnvC scope cl C X.env) fp) W0 elt ie) (hv : ∀ i ∈ g.slots, i ∈ own.map (·.2) := by decide) (hs : ∀ x, foldedSetIterable iter X.env x = pure x := by intro _; rfl) :
    JE T X W (.ListComp elt [⟨tg, iter, ifs, 0⟩] scope pos) (iLc src g t ie (own.map (·.2))) :=
  PE.mono (pe_lc hc hN hi ok hg ht he hs) fun σ H Q h => lc_go hv h
theorem js_setLc {i : Nat} {y : Str} {py : Pos} (hc : X.calm = true) (hN : X.N.Nodup) (hy : X.N[i]? = some y) (hyl : X.env.scope.names.lookup y = some .local)
    (hsw : swapsWith (.ListComp elt [⟨tg, iter, ifs, 0⟩] scope pos) (some (.Name y py)) spos.line X.env = pure true) (hi : JI T X W tg iter src) (ok : BlkOk X.N X.env.scope scope own)
    (hg : ∀ (s : Shared) (H : Hp) (C : Addr) (cl : List (Str × Addr)) (fp : List Addr), PG (X.blk s H scope (compEnvC scope cl C X.env) fp) tg (ngV X.K g)) (ht : ∀ (s : Shared) (H : Hp) (C : Addr) (cl : List (Str × Addr)) (fp : List Addr), PTs (X.blk s H scope (compEnvC scope cl C X.env) fp) ifs (tT T X.K W0 t))
    (he : ∀ (s : Shared) (H : Hp) (C : Addr) (cl : List (Str × Addr)) (fp : List Addr), JE T (X.blk s H scope (compEnvC scope cl C X.env) fp) W0 elt ie) (hv : ∀ i ∈ g.slots, i ∈ own.map (·.2) := by decide) (hs : ∀ x, foldedSetIterable iter X.env x = pure x := by intro _; rfl) :
    JS T X W (.Assign [.Name y py] (.ListComp elt [⟨tg, iter, ifs, 0⟩] scope pos) spos) (sAsg i (iLc src g t ie (own.map (·.2)))) :=
  PS.mono (ps_setLc hc hN hy hyl hsw hi ok hg ht he hs) fun D σ H ⟨ρ, F, S, ι, G, em, sr, h⟩ =>
    lc_go (T := T) (X := X) (W := W) hv ⟨ρ, F, S, ι, G, em, sr, ThnS.bind (rel := DR T X.K) h sr fun a S1 v ι1 G1 H1 em1 x1 r h1 => h1.nx em1 ((sr.mono x1).set r i)⟩
def iYes : IT := fun _ => M.ret true
theorem jts_nil : PTs X [] (tT T X.K W iYes) := ⟨fun pins s σ H Q I ⟨ρ, F, S, ι, G, em, sr, h⟩ => pts_nil.run pins s σ H Q I (Thn.ok h em rfl)⟩
theorem jts_one {c : Expr} (h : JT T X W c t) : PTs X [c] (tT T X.K W t) := pts_one h
end
/-! ### defs -/
def startR (n : Nat) (ds : List D) : Rho := ds.map some ++ List.replicate (n - ds.length) none
/-- a def: n slots; keep: what it made stays -/
def defJ (n : Nat) (keep : Bool) (body : IS) : List D → M D := fun ds S => match body (startR n ds) S with
  | .ok (.nx _) S' => .ok .non (if keep = true then S' else S'.trim S.next)
  | .ok (.rt d) S' => .ok d (if keep = true then S' else S'.trim S.next)
  | .ok (.xx c fs _) S' => .ex c fs (if keep = true then S' else S'.trim S.next)
  | _ => .no
def spJ (T : Tab) (K : PySem.W.Frag) (n : Nat) (f : List D → M D) : Sp := fun vs H Q E => vs.length = n ∧ ∃ ds F S ι G, Em T K F S ι G H ∧ DRs T K G ι ds vs ∧ Thn T K F (fun c d _ H => E c d H) [] G ι (DR T K) (f ds S) Q
theorem SR.start {T : Tab} {K : PySem.W.Frag} {G : Hp} {ι : List Addr} {ds : List D} {vs : List V} {N : List Str} (h : DRs T K G ι ds vs) : SR T K G ι (startR N.length ds) (L2.start N vs) := by
  have hl := h.length
  refine ⟨by simp [startR, L2.start, hl], fun i d e => ?_⟩
  unfold startR at e
  unfold L2.start
  by_cases hi : i < ds.length
  · rw [List.getElem?_append_left (by simpa using hi)] at e
    rw [List.getElem?_append_left (by simpa [← hl] using hi)]
    rw [List.getElem?_map] at e ⊢
    cases q : ds[i]? with
    | none => (rw [q] at e); exact nomatch e
    | some d' =>
      rw [q] at e
      cases e
      obtain ⟨v, e1, r⟩ := h.get q
      exact ⟨v, by rw [e1]; rfl, r⟩
  · rw [List.getElem?_append_right (by simpa using hi)] at e
    rw [List.getElem?_replicate] at e
    split at e <;> cases e
section
variable {P : Program} {w : World} {T : Tab} {K : PySem.W.Frag} {mg : Str → Option Value} {base : Heap} {x qual : Str} {params : Arguments} {body : List Stmt} {scope : Scope} {dvs : List V} {kws : List (Str × V)} {f : Addr} {fd : FuncData}
theorem fin_em {F : Hp} {S' : Store} {ι' : List Addr} {G' H' : Hp} {keep : Bool} {N : Nat} (em : Em T K F S' ι' G' H') : Em T K F (if keep = true then S' else S'.trim N) ι' G' H' := by
  cases keep with
  | true => exact em
  | false => exact em.trim N
/-- the promise of a def, called where no repr is going on -/
structure FnG (P : Program) (w : World) (K : PySem.W.Frag) (mg : Str → Option Value) (base : Heap) (k : Nat) (f : Addr) (fd : FuncData) (ps : List Str) (sp : Sp) : Prop where
  len : ∀ (vs : List V) H Q E, sp vs H Q E → vs.length = ps.length
  run : ∀ (A : Around) (fr : List Env) (s : Shared) (H : Hp) (ar : Args) (us : List Value) (vs : List V) (Q : VK) (E : XK), Room k A → A.guards = some [] →
    Env0 P w K mg base A fr s H → BindsTo s fd ar (ps.zip us) → Vals vs us → sp vs H Q E → codeAny (model P w) A (.call (.ref f) ar) (CR (L2.CX P w) fr P w H s Q E) s
theorem FnG.mono {k j : Nat} {ps : List Str} {sp : Sp} (F : FnG P w K mg base j f fd ps sp) (h : j ≤ k) : FnG P w K mg base k f fd ps sp :=
  ⟨F.len, fun A fr s H ar us vs Q E r => F.run A fr s H ar us vs Q E (r.mono h)⟩
theorem fng_of {N ps : List Str} {k : Nat} {sp : Sp} (F : FunD K x qual params body scope dvs kws f fd) (S : FnScope N ps scope) (len : ∀ vs H Q E, sp vs H Q E → vs.length = ps.length)
    (hb : ∀ (cdv : Value) (A : Around) (fr : List Env) (s : Shared) (H : Hp) (vs : List V) (Q : VK) (E : XK), Room k (A.deeper (envOfC qual scope s.heap.objs.size f cdv)) → A.guards = some [] → sp vs H Q E →
      ∃ t, PSs (cxOf (L2.CX P w) P w K mg base N qual scope f cdv A fr s H E) body t ∧ t { nx := fun _ H' => Q .non H', rt := Q } (L2.start N vs) H) : FnG P w K mg base (k + 1) f fd ps sp := by
  rcases F.ex with ⟨oc, od, dV, kV, doc, pm, an, cdv, ct, osl, rfl, lk, hcd, _, _⟩
  constructor
  · exact len
  intro A fr s H ar us vs Q E room gd en bd rel want
  have old : ∀ b o, base.get? b = some o → s.heap.get? b = some o := fun b o q => (en.bs b o q).1
  have KI := en.mod.kin.keeps old
  have NL := en.mod.nolimit.keeps old
  have kinds : ∀ y ∈ ps.zip us, scope.names.lookup y.1 = some .local ∨
      (scope.names.lookup y.1 = some .cell ∧ ((cellsFrom (s.heap.objs.size + 1) scope.names []).lookup y.1).isSome = true) := by
    rintro ⟨n, v⟩ hm
    rcases S.par n (List.of_mem_zip hm).1 with q | q
    · left; exact q
    · right; exact ⟨q, PySem.W.cellsFrom_some _ _ _ (.inl q)⟩
  refine codeAny_call_function room.depth (KI _ _ lk) rfl S.co S.gen rfl (PySem.W.codeRec_of KI hcd) (bd _ _ _ _ ?_)
  refine wpAny_newFunctionEnv_cells S.kind kinds ?_
  intro env henv s1 ic
  subst henv
  refine ⟨NL.keeps ic.toInCall.keep, codeAny_func ?_⟩
  obtain ⟨t, ht, hq⟩ := hb cdv A fr s H vs Q E (room.deeper _) gd want
  have I := inv_start (CX := L2.CX P w) (E := E) S room.hd en (len _ _ _ _ want) rel ic
  refine wpAny_mono (ht.run [] s1 _ H _ I hq) ?_ (fun e s' z => z)
  intro fl s' z
  cases fl with
  | ret u => exact let ⟨v, σ', H', J, rv, q⟩ := z; ⟨v, H', J.os, J.bare, J.base, J.hok, rv, q⟩
  | next => exact let ⟨σ', H', J, q⟩ := z; ⟨V.non, H', J.os, J.bare, J.base, J.hok, rfl, q⟩
  | brk => exact let ⟨_, _, _, q⟩ := z; q.elim
  | cont => exact let ⟨_, _, _, q⟩ := z; q.elim
theorem fn_j {N ps : List Str} {k : Nat} {is : IS} (keep : Bool) (F : FunD K x qual params body scope dvs kws f fd) (S : FnScope N ps scope)
    (hb : ∀ (cdv : Value) (A : Around) (fr : List Env) (s : Shared) (H : Hp) (E : XK), Room k (A.deeper (envOfC qual scope s.heap.objs.size f cdv)) → A.guards = some [] →
      JSs T (cxOf (L2.CX P w) P w K mg base N qual scope f cdv A fr s H E) (fun c d _ H => E c d H) body is) : FnG P w K mg base (k + 1) f fd ps (spJ T K ps.length (defJ N.length keep is)) := by
  refine fng_of F S (fun vs H Q E h => h.1) (fun cdv A fr s H vs Q E hr gd h => ⟨_, hb cdv A fr s H E hr gd, ?_⟩)
  obtain ⟨_, ds, Fr, S0, ι, G, em, dr, h⟩ := h
  refine ⟨startR N.length ds, Fr, S0, ι, G, em, SR.start dr, ?_⟩
  unfold defJ at h
  cases q : is (startR N.length ds) S0 with
  | no => rw [q] at h; exact h.elim
  | ex c fs S1 => rw [q] at h; exact h.elim
  | ok fl S1 =>
    rw [q] at h
    cases fl with
    | nx ρ => exact fun σ' ι' G' H' em' x' sr' => h .non ι' G' H' (fin_em em') x' (by simp only [DR])
    | rt d => exact fun v ι' G' H' em' x' r' => h v ι' G' H' (fin_em em') x' r'
    | xx c fs ρ => exact fun dd σ' ι' G' H' em' x' sr' xr => h dd ι' G' H' (fin_em em') x' xr
    | bk ρ => exact h.elim
    | ct ρ => exact h.elim
/-- a def of the module by its name -/
def Good (P : Program) (w : World) (T : Tab) (K : PySem.W.Frag) (mg : Str → Option Value) (base : Heap) (k : Nat) (x : Str) (ps : List Str) (sem : List D → M D) : Prop :=
  ∃ fd, FnG P w K mg base k (He.ga K x) fd ps (spJ T K ps.length sem) ∧ Binds K fd ps [] ∧ mg x = some (.ref (He.ga K x)) ∧ PySem.W.keepIn K (.ref (He.ga K x)) = true
end
/-- room and no repr going on -/
structure Rg (k : Nat) (A : Around) : Prop where
  r : Room k A
  g : A.guards = some []
theorem Rg.mono {j k : Nat} {A : Around} (r : Rg k A) (h : j ≤ k) : Rg j A := ⟨r.r.mono h, r.g⟩
section
variable {T : Tab} {X : Cx} {W : WX} {k : Nat} {f : Addr} {fd : FuncData} {ps : List Str} {sp : Sp}
/-- a def is called with values -/
theorem run_g {pins : List (Addr × Obj)} {σ : L2.St} {H : Hp} {s : Shared} {Q : VK} {ar : Args} {us : List Value} {vs : List V} (F : FnG X.prog X.w X.K X.mg X.base k f fd ps sp) (hr : Rg k X.A) (tk : Takes X W) (I : Inv X pins σ H s)
    (hb : BindsTo s fd ar (ps.zip us)) (r : Vals vs us) (h : sp vs H Q (fun c d H => W c d σ H)) : codeAny (model X.prog X.w) X.A (.call (.ref f) ar) (fun rs s' => match rs with
      | .ok (.ret u) => EP X pins σ Q u s'
      | .ok _ => False
      | .error e => X.xe e s') s := by
  refine codeAny_mono (F.run X.A X.stack s H ar us vs Q _ hr.r hr.g I.env0 hb r h) fun rs s' z => ?_
  cases rs with
  | error e => exact tk e s' (XE.of_call (W := W) I (fun _ _ _ h => h) z)
  | ok fl =>
    cases fl with
    | ret u => exact I.after z
    | _ => exact False.elim z
theorem call_g {pins : List (Addr × Obj)} {σ : L2.St} {H : Hp} {s : Shared} {Q : VK} {us : List Value} {vs : List V} (F : FnG X.prog X.w X.K X.mg X.base k f fd ps sp) (hr : Rg k X.A) (tk : Takes X W) (hb : Binds X.K fd ps []) (I : Inv X pins σ H s)
    (r : Vals vs us) (h : sp vs H Q (fun c d H => W c d σ H)) : wpAny (model X.prog X.w) X.A (call (.ref f) us) (EP X pins σ Q) X.xe s := by
  have hl : (us ++ []).length = ps.length := by rw [List.append_nil, ← r.length]; exact F.len _ _ _ _ h
  have bt := hb s us I.kIn hl
  rw [List.append_nil] at bt
  refine wpAny_call (codeAny_mono (run_g F hr tk I bt r h) fun rs s' z => ?_)
  cases rs with
  | error e => exact z
  | ok fl =>
    cases fl with
    | ret u => exact z
    | _ => exact z.elim
end
/-! ### calls of defs by name, positional -/
def iCall (n : Nat) (sem : List D → M D) (ia : IA) : IE := fun ρ => M.bind (ia ρ) fun xs => if xs.length = n then sem xs else M.no
section
variable {T : Tab} {X : Cx} {W : WX} {e : Expr} {es : List Expr} {ia : IA} {pos p : Pos} {sem : List D → M D} {x : Str} {ps : List Str} {k : Nat}
theorem Thn.slots {α β : Type} {T : Tab} {K : PySem.W.Frag} {F : Hp} {W W' : WX} {σ σ' : L2.St} {G : Hp} {ι : List Addr} {rel : Hp → List Addr → α → β → Prop} {m : R α} {Q : β → Hp → Prop} (h : Thn T K F W σ G ι rel m Q) (k : ∀ c d H, W c d σ H → W' c d σ' H) : Thn T K F W' σ' G ι rel m Q :=
  Runs.imp h (fun _ _ q => q) fun _ _ _ q dd ι' G' H' em y r => k _ _ _ (q dd ι' G' H' em y r)
/-- f(e, ..) -/
theorem je_call (g : Good X.prog X.w T X.K X.mg X.base k x ps sem) (hr : Rg k X.A) (hg : Gl X x) (tk : Takes X W) (ha : JA T X W (e :: es) ia) (hdb : (x == ("__debug__" : Str)) = false := by decide)
    (he : starEach (e :: es) X.env = (false, eval e X.env) :: starEach es X.env := by rfl) (hpl : (backTo pos (starEach es X.env)).any (·.1) = false := by rfl) : JE T X W (.Call (.Name x p) (e :: es) [] pos) (iCall ps.length sem ia) := by
  obtain ⟨fd, Fg, b, m, kp⟩ := g
  constructor; intro pins s σ H Q I hq
  have key : tA T X.K W ia σ H fun vs H1 => spJ T X.K ps.length sem vs H1 Q fun c d H => W c d σ H := by
    obtain ⟨ρ, F, S, ι, G, em, sr, h⟩ := hq
    refine ⟨ρ, F, S, ι, G, em, sr, Thn.bind (rel2 := DRs T X.K) h fun xs S1 vs ι1 G1 H1 em1 x1 dr h1 => ?_⟩
    by_cases hl : xs.length = ps.length
    · rw [if_pos hl] at h1
      exact ⟨dr.length.symm.trans hl, xs, F, S1, ι1, G1, em1, dr, h1.slots fun _ _ _ z => z⟩
    · rw [if_neg hl] at h1
      exact h1.elim
  refine wpAny_Call_Name_kw (ld_glob I hg m ?_ hdb)
  refine PySem.W.callWith_K (h₀ := X.base) I.ok.mod.kin kp (thn (ha.run pos pins s σ H _ I key) ?_) he hpl
  rintro us s1 ⟨vs, H1, I1, r, q⟩
  exact ⟨I1.kIn, call_g Fg hr tk b I1 r q⟩
end
end J
set_option Elab.async false
set_option linter.all false
set_option maxRecDepth 100000
set_option maxHeartbeats 410000
/-! J5: operators, comparisons, subscripts, slices -/
namespace J
open PySem PySem.Spec L2
/-- one or the other -/
def op2 (f g : Op2) : Op2 := fun x y S => (f x y S).or (g x y S)
theorem or_some {α : Type} {a b : Option α} {d : α} (h : a.or b = some d) : a = some d ∨ b = some d := by
  cases a with
  | none => right; simpa using h
  | some x => left; simpa using h
theorem OpS.or2 {T : Tab} {K : PySem.W.Frag} {r r' : R2} {f g : Op2} (h : OpS T K r f) (h' : OpS T K r' g) : OpS T K (fun x y H Q => r x y H Q ∨ r' x y H Q) (op2 f g) := h.or h' fun _ _ _ _ e => or_some e
/-- what stands in a list: a tree or an object of the store -/
def seqL : D → Store → Option (List D)
  | .lst xs, _ => some xs
  | .ref n, S => match S.get n with
    | some (.lst xs) => some xs
    | _ => none
  | _, _ => none
/-- .. or the script -/
def seqR : D → Store → Option (List D)
  | .scr xs, _ => some xs
  | x, S => seqL x S
def seqT : D → Option (List D)
  | .tup xs => some xs
  | _ => none
section
variable {T : Tab} {K : PySem.W.Frag} {F : Hp} {S : Store} {ι : List Addr} {G H : Hp} {x : D} {v : V} {xs : List D}
theorem seqL_ok (em : Em T K F S ι G H) (h : DR T K G ι x v) (e : seqL x S = some xs) : ∃ a vs, v = .ref a ∧ H a = some (.lst vs) ∧ DRs T K G ι xs vs := by
  cases x with
  | lst l =>
    cases e
    simp only [DR] at h
    obtain ⟨a, vs, rfl, q, r⟩ := h
    exact ⟨a, vs, rfl, em.sub _ _ q, r⟩
  | ref n =>
    simp only [DR] at h
    obtain ⟨a, ha, rfl⟩ := h
    simp only [seqL] at e
    cases q : S.get n with
    | none => (rw [q] at e); exact nomatch e
    | some o =>
      rw [q] at e
      cases o with
      | lst l =>
        cases e
        obtain ⟨a', u, h1, _, _, h4, vs, rfl, h5⟩ := em.obj n _ q
        rw [ha] at h1
        cases h1
        exact ⟨a, vs, rfl, h4, h5⟩
      | _ => cases e
  | _ => cases e
theorem seqR_ok (em : Em T K F S ι G H) (h : DR T K G ι x v) (e : seqR x S = some xs) : ∃ a vs, v = .ref a ∧ SqL K H a vs ∧ DRs T K G ι xs vs := by
  cases x with
  | scr l =>
    cases e
    simp only [DR] at h
    obtain ⟨a, vs, rfl, q, r⟩ := h
    exact ⟨a, vs, rfl, Same.seq em.sub q, r⟩
  | lst l =>
    obtain ⟨a, vs, e1, e2, e3⟩ := seqL_ok em h e
    exact ⟨a, vs, e1, SqL.of e2, e3⟩
  | ref n =>
    obtain ⟨a, vs, e1, e2, e3⟩ := seqL_ok em h e
    exact ⟨a, vs, e1, SqL.of e2, e3⟩
  | _ => cases e
theorem seqT_ok (em : Em T K F S ι G H) (h : DR T K G ι x v) (e : seqT x = some xs) : ∃ a vs, v = .ref a ∧ H a = some (.tup vs) ∧ DRs T K G ι xs vs := by
  cases x with
  | tup l =>
    cases e
    simp only [DR] at h
    obtain ⟨a, vs, rfl, q, r⟩ := h
    exact ⟨a, vs, rfl, em.sub _ _ q, r⟩
  | _ => cases e
end
/-! ### ints -/
def opI (C : Int → Int → Bool) (g : Int → Int → D) : Op2
  | .int i, .int j, _ => if C i j = true then some (g i j) else none
  | _, _, _ => none
theorem opI_ok {T : Tab} {K : PySem.W.Frag} {C : Int → Int → Bool} {C' : Int → Int → Prop} {g : Int → Int → D} {g' : Int → Int → V} (hC : ∀ i j, C i j = true → C' i j) (hg : ∀ G ι i j, DR T K G ι (g i j) (g' i j)) : OpS T K (rI C' g') (opI C g) := by
  intro F S ι G H x y d vx vy Q em dx dy e q
  unfold opI at e
  split at e
  · simp only [DR] at dx dy
    split at e
    · rename_i hc
      cases e
      exact ⟨_, _, dx, dy, hC _ _ hc, q _ G H em (Ext.refl _ _) (hg _ _ _ _)⟩
    · cases e
  · cases e
def opI0 (g : Int → Int → D) : Op2
  | .int i, .int j, _ => some (g i j)
  | _, _, _ => none
theorem opI0_ok {T : Tab} {K : PySem.W.Frag} {g : Int → Int → D} {g' : Int → Int → V} (hg : ∀ G ι i j, DR T K G ι (g i j) (g' i j)) : OpS T K (rI0 g') (opI0 g) := by
  intro F S ι G H x y d vx vy Q em dx dy e q
  unfold opI0 at e
  split at e
  · simp only [DR] at dx dy
    cases e
    exact ⟨_, _, dx, dy, q _ G H em (Ext.refl _ _) (hg _ _ _ _)⟩
  · cases e
def addI : Op2 := opI0 fun i j => .int (i + j)
def subI : Op2 := opI0 fun i j => .int (i - j)
def mulI : Op2 := opI (fun i j => decide (-(2 ^ 64) < i ∧ i < 2 ^ 64) || decide (-(2 ^ 64) < j ∧ j < 2 ^ 64)) fun i j => .int (i * j)
def fdivI : Op2 := opI (fun _ j => decide (0 < j ∧ j < 1073741824)) fun i j => .int (i / j)
def modI : Op2 := opI (fun _ j => decide (0 < j)) fun i j => .int (i % j)
def powI : Op2 := opI (fun i j => decide (0 ≤ j ∧ j ≤ 1000) && decide (-(2 ^ 32) < i ∧ i < 2 ^ 32)) fun i j => .int (i ^ j.toNat)
def ltI : Op2 := opI0 fun i j => .bl (decide (i < j))
def leI : Op2 := opI0 fun i j => .bl (decide (i ≤ j))
def gtI : Op2 := opI0 fun i j => .bl (decide (j < i))
def geI : Op2 := opI0 fun i j => .bl (decide (j ≤ i))
section
variable {T : Tab} {K : PySem.W.Frag}
theorem addI_ok : OpS T K (rI0 fun i j => .int (i + j)) addI := opI0_ok fun _ _ _ _ => by simp only [DR]
theorem subI_ok : OpS T K (rI0 fun i j => .int (i - j)) subI := opI0_ok fun _ _ _ _ => by simp only [DR]
theorem mulI_ok : OpS T K (rI CMul fun i j => .int (i * j)) mulI := opI_ok (fun i j h => by simpa [CMul] using h) fun _ _ _ _ => by simp only [DR]
theorem fdivI_ok : OpS T K (rI CDiv fun i j => .int (i / j)) fdivI := opI_ok (fun i j h => by simpa [CDiv] using h) fun _ _ _ _ => by simp only [DR]
theorem modI_ok : OpS T K (rI (fun _ j => 0 < j) fun i j => .int (i % j)) modI := opI_ok (fun i j h => by simpa using h) fun _ _ _ _ => by simp only [DR]
theorem powI_ok : OpS T K (rI CPow fun i j => .int (i ^ j.toNat)) powI := opI_ok (fun i j h => by
  simp only [decide_eq_true_eq, Bool.and_eq_true] at h
  exact ⟨h.1.1, by omega, by omega⟩) fun _ _ _ _ => by simp only [DR]
theorem ltI_ok : OpS T K (rI0 fun i j => .bl (decide (i < j))) ltI := opI0_ok fun _ _ _ _ => by simp only [DR]
theorem leI_ok : OpS T K (rI0 fun i j => .bl (decide (i ≤ j))) leI := opI0_ok fun _ _ _ _ => by simp only [DR]
theorem gtI_ok : OpS T K (rI0 fun i j => .bl (decide (j < i))) gtI := opI0_ok fun _ _ _ _ => by simp only [DR]
theorem geI_ok : OpS T K (rI0 fun i j => .bl (decide (j ≤ i))) geI := opI0_ok fun _ _ _ _ => by simp only [DR]
/-! ### texts, lists -/
theorem str_app (a b : List Nat) : (⟨a.toArray⟩ : Str) ++ ⟨b.toArray⟩ = ⟨(a ++ b).toArray⟩ := TL.ext_tl (by rw [TL.tl_append])
theorem str_len (a : List Nat) : (⟨a.toArray⟩ : Str).length = a.length := by simp [Str.length]
def addS : Op2
  | .str a, .str b, _ => if a.length + b.length ≤ 100000 then some (.str (a ++ b)) else none
  | _, _, _ => none
theorem addS_ok : OpS T K (fun x y H Q => ∃ i j, x = .str i ∧ y = .str j ∧ i.length + j.length ≤ sizeLine ∧ Q (.str (i ++ j)) H) addS := by
  intro F S ι G H x y d vx vy Q em dx dy e q
  unfold addS at e
  split at e
  · simp only [DR] at dx dy
    split at e
    · rename_i a b _ hc
      cases e
      refine ⟨_, _, dx, dy, by rw [str_len, str_len]; exact sz_of hc, q _ G H em (Ext.refl _ _) ?_⟩
      simp only [DR]
      rw [str_app]
    · cases e
  · cases e
def addL : Op2 := fun x y S => match seqL x S, seqL y S with
  | some xs, some ys => if xs.length + ys.length ≤ 100000 then some (.lst (xs ++ ys)) else none
  | _, _ => none
theorem addL_ok : OpS T K rCat addL := by
  intro F S ι G H x y d vx vy Q em dx dy e q
  unfold addL at e
  split at e
  · rename_i xs ys ex ey
    split at e
    · rename_i hc
      cases e
      obtain ⟨a, va, rfl, ha, ra⟩ := seqL_ok em dx ex
      obtain ⟨b, vb, rfl, hb, rb⟩ := seqL_ok em dy ey
      refine ⟨a, b, va, vb, rfl, rfl, ha, hb, by rw [← ra.length, ← rb.length]; exact sz_of hc, fun p hp => ?_⟩
      obtain ⟨em2, x2⟩ := em.frz (o := .lst (va ++ vb)) hp
      refine q _ _ _ em2 x2 ?_
      simp only [DR]
      exact ⟨p, _, rfl, upd_same, (ra.mono x2.1 x2.2).append (rb.mono x2.1 x2.2)⟩
    · cases e
  · cases e
/-! ### subscripts -/
def ixL : Op2 := fun x y S => match seqR x S, y with
  | some xs, .int i => atI xs i
  | _, _ => none
def ixT : Op2
  | .tup xs, .int i, _ => atI xs i
  | _, _, _ => none
def ixS : Op2
  | .str a, .int i, _ => if a.length ≤ 100000 then (atI a i).map fun c => .str [c] else none
  | _, _, _ => none
theorem atI_dr {G : Hp} {ι : List Addr} {ds : List D} {vs : List V} {i : Int} {d : D} (h : DRs T K G ι ds vs) (e : atI ds i = some d) : ∃ v, atI vs i = some v ∧ DR T K G ι d v := by
  unfold atI at e ⊢
  rw [← h.length]
  cases q : ixN ds.length i with
  | none => (rw [q] at e); exact nomatch e
  | some j =>
    rw [q] at e
    exact h.get e
theorem ixL_ok : OpS T K (rIxL K) ixL := by
  intro F S ι G H x y d vx vy Q em dx dy e q
  unfold ixL at e
  split at e
  · rename_i xs i ex
    simp only [DR] at dy
    obtain ⟨a, va, rfl, ha, ra⟩ := seqR_ok em dx ex
    obtain ⟨v, e2, r⟩ := atI_dr ra e
    exact ⟨a, va, i, v, rfl, dy, ha, e2, q _ G H em (Ext.refl _ _) r⟩
  · cases e
theorem ixT_ok : OpS T K (rIxT K) ixT := by
  intro F S ι G H x y d vx vy Q em dx dy e q
  unfold ixT at e
  split at e
  · simp only [DR] at dx dy
    obtain ⟨a, va, rfl, ha, ra⟩ := dx
    obtain ⟨v, e2, r⟩ := atI_dr ra e
    exact ⟨a, va, _, v, rfl, dy, SqT.of (em.sub _ _ ha), e2, q _ G H em (Ext.refl _ _) r⟩
  · cases e
theorem ixS_ok : OpS T K rIxS ixS := by
  intro F S ι G H x y d vx vy Q em dx dy e q
  unfold ixS at e
  split at e
  · simp only [DR] at dx dy
    split at e
    · rename_i _ a i hl
      cases e2 : atI a i with
      | none => rw [e2] at e; cases e
      | some c =>
        rw [e2] at e
        cases e
        refine ⟨_, i, c, dx, dy, by rw [str_len]; exact sz_of hl, e2, q _ G H em (Ext.refl _ _) ?_⟩
        simp only [DR]
    · cases e
  · cases e
def ixD : Op2 := op2 ixL (op2 ixT ixS)
theorem ixD_ok : OpS T K (rIx K) ixD := ixL_ok.or2 (ixT_ok.or2 ixS_ok)
/-! ### slices -/
def slL : OpC := fun x l u S => match seqR x S with
  | some xs => some (.lst (cutD xs l u))
  | none => none
def slS : OpC
  | .str a, l, u, _ => if a.length ≤ 100000 then some (.str (cutD a l u)) else none
  | _, _, _, _ => none
def slT : OpC
  | .tup xs, l, u, _ => some (.tup (cutD xs l u))
  | _, _, _, _ => none
theorem cutD_dr {G : Hp} {ι : List Addr} {ds : List D} {vs : List V} {l u : Option Int} (h : DRs T K G ι ds vs) : DRs T K G ι (cutD ds l u) (cutV vs l u) := by
  unfold cutD cutV
  rw [← h.length]
  exact (h.drop _).take _
theorem slL_ok : SlS T K (rSlL K) slL := by
  intro F S ι G H x l u d vx Q em dx e q
  unfold slL at e
  split at e
  · rename_i xs ex
    cases e
    obtain ⟨a, va, rfl, ha, ra⟩ := seqR_ok em dx ex
    refine ⟨a, va, rfl, ha, fun p hp => ?_⟩
    obtain ⟨em2, x2⟩ := em.frz (o := .lst (cutV va l u)) hp
    refine q _ _ _ em2 x2 ?_
    simp only [DR]
    exact ⟨p, _, rfl, upd_same, cutD_dr (ra.mono x2.1 x2.2)⟩
  · cases e
theorem slS_ok : SlS T K rSlS slS := by
  intro F S ι G H x l u d vx Q em dx e q
  unfold slS at e
  split at e
  · split at e
    · rename_i hl
      cases e
      simp only [DR] at dx
      refine ⟨_, dx, by rw [str_len]; exact sz_of hl, q _ G H em (Ext.refl _ _) ?_⟩
      simp only [DR, cutS, cutD, str_len]
    · cases e
  · cases e
theorem slT_ok : SlS T K (rSlA K) slT := by
  intro F S ι G H x l u d vx Q em dx e q
  unfold slT at e
  split at e
  · rename_i xs
    cases e
    simp only [DR] at dx
    obtain ⟨a, va, rfl, ha, ra⟩ := dx
    refine ⟨a, va, rfl, SqT.of (em.sub _ _ ha), fun hw => q _ G H em (Ext.refl _ _) ?_, fun hw p hp => ?_⟩
    · simp only [DR]
      refine ⟨a, va, rfl, ha, ?_⟩
      have e : cutD xs l u = xs := by
        unfold cutD
        rw [ra.length, hw.1, hw.2, List.drop_zero, Nat.sub_zero, ← ra.length, List.take_length]
      rw [e]
      exact ra
    · obtain ⟨em2, x2⟩ := em.frz (o := .tup (cutV va l u)) hp
      refine q _ _ _ em2 x2 ?_
      simp only [DR]
      exact ⟨p, _, rfl, upd_same, cutD_dr (ra.mono x2.1 x2.2)⟩
  · cases e
def opc2 (f g : OpC) : OpC := fun x l u S => (f x l u S).or (g x l u S)
theorem SlS.or2 {r r' : V → Option Int → Option Int → Hp → VK → Prop} {f g : OpC} (h : SlS T K r f) (h' : SlS T K r' g) : SlS T K (fun x l u H Q => r x l u H Q ∨ r' x l u H Q) (opc2 f g) := h.or h' fun _ _ _ _ _ e => or_some e
def slD : OpC := opc2 slL (opc2 slS slT)
theorem slD_ok : SlS T K (fun x l u H Q => rSlL K x l u H Q ∨ (rSlS x l u H Q ∨ rSlA K x l u H Q)) slD := slL_ok.or2 (slS_ok.or2 slT_ok)
def addT : Op2
  | .tup xs, .tup ys, _ => if xs.length + ys.length ≤ 100000 then some (.tup (xs ++ ys)) else none
  | _, _, _ => none
theorem addT_ok : OpS T K (rCatA K) addT := by
  intro F S ι G H x y d vx vy Q em dx dy e q
  unfold addT at e
  split at e
  · split at e
    · rename_i _ xs ys hc
      cases e
      simp only [DR] at dx dy
      obtain ⟨a, va, rfl, ha, ra⟩ := dx
      obtain ⟨b, vb, rfl, hb, rb⟩ := dy
      refine ⟨a, b, va, vb, rfl, rfl, SqT.of (em.sub _ _ ha), SqT.of (em.sub _ _ hb), by rw [← ra.length, ← rb.length]; exact sz_of hc, fun h0 => ?_, fun _ h0 => ?_, fun _ _ p hp => ?_⟩
      · subst h0
        have ex : xs = [] := List.eq_nil_of_length_eq_zero ra.length
        refine q _ G H em (Ext.refl _ _) ?_
        simp only [DR, ex, List.nil_append]
        exact ⟨b, vb, rfl, hb, rb⟩
      · subst h0
        have ex : ys = [] := List.eq_nil_of_length_eq_zero rb.length
        refine q _ G H em (Ext.refl _ _) ?_
        simp only [DR, ex, List.append_nil]
        exact ⟨a, va, rfl, ha, ra⟩
      · obtain ⟨em2, x2⟩ := em.frz (o := .tup (va ++ vb)) hp
        refine q _ _ _ em2 x2 ?_
        simp only [DR]
        exact ⟨p, _, rfl, upd_same, (ra.mono x2.1 x2.2).append (rb.mono x2.1 x2.2)⟩
    · cases e
  · cases e
def addD : Op2 := op2 addI (op2 addS (op2 addL addT))
theorem addD_ok : OpS T K (fun x y H Q => (rI0 fun i j => .int (i + j)) x y H Q ∨ ((∃ i j, x = .str i ∧ y = .str j ∧ i.length + j.length ≤ sizeLine ∧ Q (.str (i ++ j)) H) ∨ (rCat x y H Q ∨ rCatA K x y H Q))) addD := addI_ok.or2 (addS_ok.or2 (addL_ok.or2 addT_ok))
end
theorem op_addD {X : Cx} : OpR X (binaryOp .Add) (fun x y H Q => (rI0 fun i j => .int (i + j)) x y H Q ∨ ((∃ i j, x = .str i ∧ y = .str j ∧ i.length + j.length ≤ sizeLine ∧ Q (.str (i ++ j)) H) ∨ (rCat x y H Q ∨ rCatA X.K x y H Q))) := OpR.or op_add (OpR.or op_add_str (OpR.or op_cat op_catA))
theorem sl_D {X : Cx} : SlR X (fun x l u H Q => rSlL X.K x l u H Q ∨ (rSlS x l u H Q ∨ rSlA X.K x l u H Q)) := SlR.or sl_list (SlR.or sl_str sl_tupA)
/-! ### products of texts and lists -/
def repS (a : List Nat) (n : Nat) : List Nat := (List.replicate n a).flatten
theorem fold_rep (a : List Nat) : ∀ (n : Nat) (acc : Array Nat), ((List.replicate n a.toArray).foldl (· ++ ·) acc) = acc ++ (repS a n).toArray
  | 0, acc => by simp [repS]
  | n + 1, acc => by
    rw [List.replicate_succ, List.foldl_cons, fold_rep a n]
    simp [repS, List.replicate_succ]
def rMulS : R2 := fun x y H Q => ∃ (a : List Nat) (n : Int), x = .str ⟨a.toArray⟩ ∧ y = .int n ∧ 0 ≤ n ∧ n ≤ 1000 ∧ a.length ≤ 1000 ∧ Q (.str ⟨(repS a n.toNat).toArray⟩) H
theorem op_mulS {X : Cx} : OpR X (binaryOp .Mult) rMulS := by
  rintro pins s σ H x y v u Q I rx ry h
  obtain ⟨a, n, rfl, rfl, h0, h1, hl, q⟩ := h
  obtain ⟨t, rfl⟩ := rx
  obtain ⟨t', rfl⟩ := ry
  refine PySem.P.mul_str (by rw [decide_eq_false (by omega), decide_eq_false (by omega)]; rfl) (fun h2 _ => ?_) (fun h2 _ => ?_) ?_
  · rw [str_len]
    have : (2 ^ 63 - 1 : Int) / n ≥ (2 ^ 63 - 1) / 1000 := by
      apply Int.le_ediv_of_mul_le (by omega)
      have : (2 ^ 63 - 1 : Int) / 1000 * n ≤ (2 ^ 63 - 1) / 1000 * 1000 := Int.mul_le_mul_of_nonneg_left h1 (by decide)
      have e : ((2 ^ 63 - 1 : Int) / 1000 * 1000) ≤ 2 ^ 63 - 1 := by decide
      omega
    have e2 : ((2 ^ 63 - 1 : Int) / 1000) = 9223372036854775 := by decide
    omega
  · rw [str_len]
    unfold Builtin.Str.tooLong
    have : a.length * n.toNat ≤ 1000 * 1000 := Nat.mul_le_mul hl (by omega)
    rw [decide_eq_false_iff_not]
    have hz : (1000000 : Nat) ≤ sizeLine := by decide
    omega
  · have key : ∀ t'' k, EP X pins σ Q (.str ⟨(repS a n.toNat).toArray⟩ t'') { s with toks := k } := fun t'' k => ⟨.str _, H, I.tok k, ⟨_, rfl⟩, q⟩
    by_cases hn : n < 1
    · rw [if_pos hn]
      have e : Int.toNat n = 0 := by omega
      rw [e] at key
      exact ⟨by decide, key _ _⟩
    · rw [if_neg hn]
      by_cases h2 : (n == 1 || (⟨a.toArray⟩ : Str).length == 0) = true
      · rw [if_pos h2]
        have e : repS a n.toNat = a := by
          rcases Bool.or_eq_true_iff.mp h2 with z | z
          · have z' : n = 1 := eq_of_beq z
            subst z'
            simp [repS]
          · have z' : a.length = 0 := by
              rw [str_len] at z
              exact eq_of_beq z
            have z2 : a = [] := List.eq_nil_of_length_eq_zero z'
            subst z2
            simp [repS]
        rw [e] at key
        exact key _ _
      · rw [if_neg h2]
        have e : (⟨(List.replicate n.toNat (⟨a.toArray⟩ : Str).cps).foldl (· ++ ·) #[]⟩ : Str) = ⟨(repS a n.toNat).toArray⟩ := by
          show (⟨(List.replicate n.toNat a.toArray).foldl (· ++ ·) #[]⟩ : Str) = _
          rw [fold_rep]
          simp
        rw [e]
        refine ⟨?_, key _ _⟩
        show (⟨(repS a n.toNat).toArray⟩ : Str).length ≤ sizeLine
        rw [str_len]
        have hl2 : (repS a n.toNat).length = n.toNat * a.length := by simp [repS]
        have : n.toNat * a.length ≤ 1000 * 1000 := Nat.mul_le_mul (by omega) hl
        have hz : (1000000 : Nat) ≤ sizeLine := by decide
        omega
def mulS : Op2
  | .str a, .int n, _ => if 0 ≤ n ∧ n ≤ 1000 ∧ a.length ≤ 1000 then some (.str (repS a n.toNat)) else none
  | _, _, _ => none
def repD (xs : List D) (n : Nat) : List D := (List.replicate n xs).flatten
def mulL : Op2 := fun x y S => match seqL x S, y with
  | some xs, .int n => if 0 ≤ n ∧ n ≤ 1000 ∧ xs.length ≤ 1000 then some (.lst (repD xs n.toNat)) else none
  | _, _ => none
section
variable {T : Tab} {K : PySem.W.Frag}
theorem mulS_ok : OpS T K rMulS mulS := by
  intro F S ι G H x y d vx vy Q em dx dy e q
  unfold mulS at e
  split at e
  · split at e
    · rename_i hc
      cases e
      simp only [DR] at dx dy
      exact ⟨_, _, dx, dy, hc.1, hc.2.1, hc.2.2, q _ G H em (Ext.refl _ _) (by simp only [DR])⟩
    · cases e
  · cases e
theorem repD_dr {G : Hp} {ι : List Addr} {ds : List D} {vs : List V} (h : DRs T K G ι ds vs) : ∀ n, DRs T K G ι (repD ds n) (List.replicate n vs).flatten
  | 0 => by simpa [repD] using DRs.nil
  | n + 1 => by
    have := repD_dr h n
    unfold repD at this ⊢
    simp only [List.replicate_succ, List.flatten_cons]
    exact h.append this
theorem mulL_ok : OpS T K rRep mulL := by
  intro F S ι G H x y d vx vy Q em dx dy e q
  unfold mulL at e
  split at e
  · split at e
    · rename_i xs n ex hc
      cases e
      simp only [DR] at dy
      obtain ⟨a, va, rfl, ha, ra⟩ := seqL_ok em dx ex
      refine ⟨a, n, va, rfl, dy, ha, by omega, by omega, ?_, fun p hp => ?_⟩
      · rw [← ra.length]
        have : xs.length * n.toNat ≤ 1000 * 1000 := Nat.mul_le_mul hc.2.2 (by omega)
        have hz : (1000000 : Nat) ≤ sizeLine := by decide
        omega
      · obtain ⟨em2, x2⟩ := em.frz (o := .lst (List.replicate n.toNat va).flatten) hp
        refine q _ _ _ em2 x2 ?_
        simp only [DR]
        exact ⟨p, _, rfl, upd_same, repD_dr (ra.mono x2.1 x2.2) _⟩
    · cases e
  · cases e
def mulD : Op2 := op2 mulI (op2 mulS mulL)
theorem mulD_ok : OpS T K (fun x y H Q => (rI CMul fun i j => .int (i * j)) x y H Q ∨ (rMulS x y H Q ∨ rRep x y H Q)) mulD := mulI_ok.or2 (mulS_ok.or2 mulL_ok)
end
theorem op_mulD {X : Cx} : OpR X (binaryOp .Mult) (fun x y H Q => (rI CMul fun i j => .int (i * j)) x y H Q ∨ (rMulS x y H Q ∨ rRep x y H Q)) := OpR.or op_mul (OpR.or op_mulS op_rep)
/-! ### == -/
def eqS : Op2
  | .int i, .int j, _ => some (.bl (decide (i = j)))
  | .str a, .str b, _ => some (.bl (decide (a = b)))
  | .bl a, .bl b, _ => some (.bl (decide (a = b)))
  | .non, .non, _ => some (.bl true)
  | .non, .int _, _ => some (.bl false)
  | .int _, .non, _ => some (.bl false)
  | .non, .bl _, _ => some (.bl false)
  | .bl _, .non, _ => some (.bl false)
  | .non, .str _, _ => some (.bl false)
  | .str _, .non, _ => some (.bl false)
  | .int _, .str _, _ => some (.bl false)
  | .str _, .int _, _ => some (.bl false)
  | .bl _, .str _, _ => some (.bl false)
  | .str _, .bl _, _ => some (.bl false)
  | _, _, _ => none
mutual
def toPy : D → Option PyData
  | .non => some .none
  | .bl b => some (.bool b)
  | .int i => some (.int i)
  | .str x => some (.str ⟨x.toArray⟩)
  | .lst xs => (toPys xs).map .list
  | .tup xs => (toPys xs).map .tuple
  | _ => none
def toPys : List D → Option (List PyData)
  | [] => some []
  | x :: xs => match toPy x, toPys xs with
    | some a, some b => some (a :: b)
    | _, _ => none
end
def deref : D → Store → D
  | .ref n, S => match S.get n with
    | some (.lst xs) => .lst xs
    | _ => .ref n
  | x, _ => x
def eqP (x y : D) : Option Bool := match toPy x, toPy y with
  | some a, some b => if (SeqAt.shaped a && SeqAt.shaped b) = true then some (PyData.eqv a b) else none
  | _, _ => none
def eqG : Op2 := fun x y S => (eqP (deref x S) (deref y S)).map .bl
def neG : Op2 := fun x y S => (eqP (deref x S) (deref y S)).map fun b => .bl (!b)
def neS : Op2 := fun x y S => match eqS x y S with
  | some (.bl b) => some (.bl (!b))
  | _ => none
section
variable {T : Tab} {K : PySem.W.Frag}
theorem str_inj {a b : List Nat} : ((⟨a.toArray⟩ : Str) = ⟨b.toArray⟩) ↔ a = b := by
  constructor
  · intro h
    have := congrArg (fun z : Str => z.cps.toList) h
    simpa using this
  · intro h; rw [h]
theorem eqS_val {G : Hp} {ι : List Addr} {S : Store} {x y d : D} {vx vy : V} (dx : DR T K G ι x vx) (dy : DR T K G ι y vy) (e : eqS x y S = some d) : scal vx vy = true ∧ d = .bl (decide (vx = vy)) := by
  unfold eqS at e
  split at e <;> first
    | (simp only [DR] at dx dy; cases e; subst dx; subst dy; first
        | exact ⟨rfl, congrArg D.bl (by rw [decide_eq_decide]; simp only [V.str.injEq]; exact str_inj.symm)⟩
        | exact ⟨rfl, congrArg D.bl (by simp)⟩)
    | cases e
theorem eqS_ok : OpS T K rEq eqS := by
  intro F S ι G H x y d vx vy Q em dx dy e q
  obtain ⟨h1, h2⟩ := eqS_val dx dy e
  exact ⟨h1, q _ G H em (Ext.refl _ _) (by rw [h2]; simp only [DR])⟩
theorem neS_ok : OpS T K rNe neS := by
  intro F S ι G H x y d vx vy Q em dx dy e q
  unfold neS at e
  split at e
  · rename_i b eb
    cases e
    obtain ⟨h1, h2⟩ := eqS_val dx dy eb
    exact ⟨h1, q _ G H em (Ext.refl _ _) (by injection h2 with h2; rw [h2]; simp only [DR])⟩
  · cases e
mutual
theorem toPy_ok {F : Hp} {S : Store} {ι : List Addr} {G H : Hp} (em : Em T K F S ι G H) : ∀ {x : D} {v : V} {p : PyData}, DR T K G ι x v → toPy x = some p → Dp K H v p
  | .non, _, _, h, e => by simp only [DR] at h; simp only [toPy] at e; cases e; subst h; exact .non
  | .bl b, _, _, h, e => by simp only [DR] at h; simp only [toPy] at e; cases e; subst h; exact .bl b
  | .int b, _, _, h, e => by simp only [DR] at h; simp only [toPy] at e; cases e; subst h; exact .int b
  | .str b, _, _, h, e => by simp only [DR] at h; simp only [toPy] at e; cases e; subst h; exact .str _
  | .lst xs, _, _, h, e => by
    simp only [DR] at h
    simp only [toPy] at e
    obtain ⟨a, vs, rfl, q, r⟩ := h
    cases e1 : toPys xs with
    | none => rw [e1] at e; cases e
    | some ps =>
      rw [e1] at e
      cases e
      exact .lst (SqL.of (em.sub _ _ q)) (toPys_ok em r e1)
  | .tup xs, _, _, h, e => by
    simp only [DR] at h
    simp only [toPy] at e
    obtain ⟨a, vs, rfl, q, r⟩ := h
    cases e1 : toPys xs with
    | none => rw [e1] at e; cases e
    | some ps =>
      rw [e1] at e
      cases e
      exact .tup (SqT.of (em.sub _ _ q)) (toPys_ok em r e1)
  | .ty _, _, _, _, e => by simp only [toPy] at e; cases e
  | .glo _, _, _, _, e => by simp only [toPy] at e; cases e
  | .scr _, _, _, _, e => by simp only [toPy] at e; cases e
  | .dct _ _, _, _, _, e => by simp only [toPy] at e; cases e
  | .dcu _ _, _, _, _, e => by simp only [toPy] at e; cases e
  | .ins _ _, _, _, _, e => by simp only [toPy] at e; cases e
  | .exn _ _ _, _, _, _, e => by simp only [toPy] at e; cases e
  | .ref _, _, _, _, e => by simp only [toPy] at e; cases e
theorem toPys_ok {F : Hp} {S : Store} {ι : List Addr} {G H : Hp} (em : Em T K F S ι G H) : ∀ {x : List D} {v : List V} {p : List PyData}, DRs T K G ι x v → toPys x = some p → DpAll K H v p
  | [], _, _, h, e => by simp only [DRs] at h; simp only [toPys] at e; cases e; subst h; exact .nil
  | x :: xs, _, _, h, e => by
    simp only [DRs] at h
    obtain ⟨v, r, rfl, h1, h2⟩ := h
    simp only [toPys] at e
    cases e1 : toPy x with
    | none => rw [e1] at e; cases e
    | some a =>
      cases e2 : toPys xs with
      | none => rw [e1, e2] at e; cases e
      | some b =>
        rw [e1, e2] at e
        cases e
        exact .cons (toPy_ok em h1 e1) (toPys_ok em h2 e2)
end
theorem deref_ok {F : Hp} {S : Store} {ι : List Addr} {G H : Hp} (em : Em T K F S ι G H) {x : D} {v : V} {p : PyData} (h : DR T K G ι x v) (e : toPy (deref x S) = some p) : Dp K H v p := by
  cases x with
  | ref n =>
    simp only [deref] at e
    cases q : S.get n with
    | none => rw [q] at e; simp only [toPy] at e; cases e
    | some o =>
      rw [q] at e
      cases o with
      | lst xs =>
        obtain ⟨a, vs, e1, h1, h2⟩ := seqL_ok (xs := xs) em h (by simp only [seqL, q])
        subst e1
        simp only [toPy] at e
        cases e1 : toPys xs with
        | none => rw [e1] at e; cases e
        | some ps =>
          rw [e1] at e
          cases e
          exact .lst (SqL.of h1) (toPys_ok em h2 e1)
      | _ => simp only [toPy] at e; cases e
  | _ => exact toPy_ok em h e
theorem eqP_ok {F : Hp} {S : Store} {ι : List Addr} {G H : Hp} (em : Em T K F S ι G H) {x y : D} {vx vy : V} {b : Bool} (dx : DR T K G ι x vx) (dy : DR T K G ι y vy) (e : eqP (deref x S) (deref y S) = some b) :
    ∃ d e, Dp K H vx d ∧ Dp K H vy e ∧ SeqAt.shaped d = true ∧ SeqAt.shaped e = true ∧ b = PyData.eqv d e := by
  unfold eqP at e
  split at e
  · rename_i p q ep eq
    split at e
    · rename_i hs
      obtain ⟨h1, h2⟩ := Bool.and_eq_true_iff.mp hs
      cases e
      exact ⟨p, q, deref_ok em dx ep, deref_ok em dy eq, h1, h2, rfl⟩
    · cases e
  · cases e
theorem eqG_ok : OpS T K (rEqD K) eqG := by
  intro F S ι G H x y d vx vy Q em dx dy e q
  unfold eqG at e
  cases eb : eqP (deref x S) (deref y S) with
  | none => rw [eb] at e; cases e
  | some b =>
    rw [eb] at e
    cases e
    obtain ⟨p, r, h1, h2, h3, h4, h5⟩ := eqP_ok em dx dy eb
    exact ⟨p, r, h1, h2, h3, h4, q _ G H em (Ext.refl _ _) (by simp only [DR]; rw [h5])⟩
theorem neG_ok : OpS T K (rNeD K) neG := by
  intro F S ι G H x y d vx vy Q em dx dy e q
  unfold neG at e
  cases eb : eqP (deref x S) (deref y S) with
  | none => rw [eb] at e; cases e
  | some b =>
    rw [eb] at e
    cases e
    obtain ⟨p, r, h1, h2, h3, h4, h5⟩ := eqP_ok em dx dy eb
    exact ⟨p, r, h1, h2, h3, h4, q _ G H em (Ext.refl _ _) (by simp only [DR]; rw [h5])⟩
def eqD : Op2 := op2 eqS eqG
def neD : Op2 := op2 neS neG
theorem eqD_ok : OpS T K (fun x y H Q => rEq x y H Q ∨ rEqD K x y H Q) eqD := eqS_ok.or2 eqG_ok
theorem neD_ok : OpS T K (fun x y H Q => rNe x y H Q ∨ rNeD K x y H Q) neD := neS_ok.or2 neG_ok
end
theorem op_eqJ {X : Cx} {k : Nat} (hr : Rg k X.A) : OpR X (compareOp .Eq) (fun x y H Q => rEq x y H Q ∨ rEqD X.K x y H Q) := OpR.or op_eq (op_eqD hr.r.units)
theorem op_neJ {X : Cx} {k : Nat} (hr : Rg k X.A) : OpR X (compareOp .NotEq) (fun x y H Q => rNe x y H Q ∨ rNeD X.K x y H Q) := OpR.or op_ne (op_neD hr.r.units)
end J
set_option Elab.async false
set_option linter.all false
set_option maxRecDepth 100000
set_option maxHeartbeats 410000
/-! J6: in, is, calls of built-ins, what is walked -/
namespace J
open PySem PySem.Spec L2
/-! ### in -/
def inS : Op2
  | .str [c], .str z, _ => some (.bl (decide (c ∈ z)))
  | _, _, _ => none
def flatD : D → Bool
  | .non => true
  | .bl _ => true
  | .int _ => true
  | .str _ => true
  | _ => false
def eqF : D → D → Bool
  | .non, .non => true
  | .bl a, .bl b => a == b
  | .bl p, .int n => (if p then 1 else 0) == n
  | .int n, .bl p => n == (if p then 1 else 0)
  | .int a, .int b => a == b
  | .str a, .str b => decide (a = b)
  | _, _ => false
def seqA (x : D) (S : Store) : Option (List D) := (seqR x S).or (seqT x)
def inQ : Op2 := fun x y S => match seqA y S with
  | some ys => if (flatD x && ys.all flatD) = true then some (.bl (ys.any fun z => eqF z x)) else none
  | none => none
section
variable {T : Tab} {K : PySem.W.Frag}
theorem inS_ok : OpS T K (fun x y H Q => ∃ (c : Nat) (z : Str), x = .str ⟨#[c]⟩ ∧ y = .str z ∧ Q (.bl (decide (c ∈ z.cps.toList))) H) inS := by
  intro F S ι G H x y d vx vy Q em dx dy e q
  unfold inS at e
  split at e
  · cases e
    simp only [DR] at dx dy
    exact ⟨_, _, dx, dy, q _ G H em (Ext.refl _ _) (by simp only [DR])⟩
  · cases e
theorem flat_ok {G : Hp} {ι : List Addr} {x : D} {v : V} (h : DR T K G ι x v) (f : flatD x = true) : flatV v = true := by
  cases x <;> simp only [flatD] at f <;> first | (simp only [DR] at h; subst h; rfl) | cases f
theorem eqF_ok {G : Hp} {ι : List Addr} {x y : D} {v u : V} (h : DR T K G ι x v) (k : DR T K G ι y u) (f : flatD x = true) (g : flatD y = true) : eqF x y = eqV v u := by
  cases x <;> simp only [flatD] at f <;> first | (cases f; done) | skip
  all_goals (cases y <;> simp only [flatD] at g <;> first | (cases g; done) | skip)
  all_goals (simp only [DR] at h k; subst h; subst k; first | rfl | skip)
  rename_i a b
  show decide (a = b) = ((⟨a.toArray⟩ : Str) == ⟨b.toArray⟩)
  by_cases e : a = b
  · subst e; simp
  · rw [decide_eq_false e]
    symm
    exact beq_eq_false_iff_ne.mpr fun z => e (str_inj.mp z)
theorem flats_ok {G : Hp} {ι : List Addr} {x : D} {v : V} (h : DR T K G ι x v) (f : flatD x = true) : ∀ {ds : List D} {vs : List V}, DRs T K G ι ds vs → ds.all flatD = true → vs.all flatV = true ∧ (ds.any fun z => eqF z x) = inV v vs
  | [], _, r, _ => by simp only [DRs] at r; subst r; exact ⟨rfl, rfl⟩
  | y :: ys, _, r, a => by
    simp only [DRs] at r
    obtain ⟨u, us, rfl, r1, r2⟩ := r
    rw [List.all_cons, Bool.and_eq_true_iff] at a
    obtain ⟨h1, h2⟩ := flats_ok h f r2 a.2
    refine ⟨by rw [List.all_cons, flat_ok r1 a.1, h1]; rfl, ?_⟩
    unfold inV at h2 ⊢
    rw [List.any_cons, List.any_cons, h2, eqF_ok r1 h a.1 f]
theorem seqA_ok {F : Hp} {S : Store} {ι : List Addr} {G H : Hp} (em : Em T K F S ι G H) {x : D} {v : V} {xs : List D} (h : DR T K G ι x v) (e : seqA x S = some xs) : ∃ a vs, v = .ref a ∧ (SqL K H a vs ∨ SqT K H a vs) ∧ DRs T K G ι xs vs := by
  rcases or_some e with e | e
  · obtain ⟨a, vs, h1, h2, h3⟩ := seqR_ok em h e
    exact ⟨a, vs, h1, .inl h2, h3⟩
  · obtain ⟨a, vs, h1, h2, h3⟩ := seqT_ok em h e
    exact ⟨a, vs, h1, .inr (SqT.of h2), h3⟩
theorem inQ_ok : OpS T K (rIn K false) inQ := by
  intro F S ι G H x y d vx vy Q em dx dy e q
  unfold inQ at e
  split at e
  · rename_i ys ey
    split at e
    · rename_i hf
      cases e
      obtain ⟨f1, f2⟩ := Bool.and_eq_true_iff.mp hf
      obtain ⟨a, vs, rfl, hs, r⟩ := seqA_ok em dy ey
      obtain ⟨h1, h2⟩ := flats_ok dx f1 r f2
      exact ⟨a, vs, rfl, hs, flat_ok dx f1, h1, q _ G H em (Ext.refl _ _) (by simp only [DR]; rw [h2]; rfl)⟩
    · cases e
  · cases e
def inD : Op2 := op2 inS inQ
theorem inD_ok : OpS T K (fun x y H Q => (∃ (c : Nat) (z : Str), x = .str ⟨#[c]⟩ ∧ y = .str z ∧ Q (.bl (decide (c ∈ z.cps.toList))) H) ∨ rIn K false x y H Q) inD := inS_ok.or2 inQ_ok
/-! ### is None -/
/-! ### calls -/
def lenD : OpN
  | [.str a], _ => if a.length ≤ 100000 then some (.int a.length) else none
  | [x], S => (seqA x S).map fun xs => .int xs.length
  | _, _ => none
theorem DRs.one {G : Hp} {ι : List Addr} {x : D} {vs : List V} (h : DRs T K G ι [x] vs) : ∃ v, vs = [v] ∧ DR T K G ι x v := by
  simp only [DRs] at h
  obtain ⟨v, r, rfl, h1, rfl⟩ := h
  exact ⟨v, rfl, h1⟩
theorem DRs.two {G : Hp} {ι : List Addr} {x y : D} {vs : List V} (h : DRs T K G ι [x, y] vs) : ∃ v w, vs = [v, w] ∧ DR T K G ι x v ∧ DR T K G ι y w := by
  simp only [DRs] at h
  obtain ⟨v, r, rfl, h1, w, r2, rfl, h2, rfl⟩ := h
  exact ⟨v, w, rfl, h1, h2⟩
theorem lenD_ok : CaS T K (fun xs H Q => ∃ x n, xs = [x] ∧ LenV K x H n ∧ Q (.int n) H) lenD := by
  intro F S ι G H xs d vs Q em dr e q
  unfold lenD at e
  split at e
  · split at e
    · rename_i hl
      cases e
      obtain ⟨v, rfl, r⟩ := dr.one
      simp only [DR] at r
      subst r
      exact ⟨_, _, rfl, ⟨by rw [str_len]; exact sz_of hl, rfl⟩, q _ G H em (Ext.refl _ _) (by simp only [DR, str_len])⟩
    · cases e
  · rename_i _ x _
    obtain ⟨v, rfl, r⟩ := dr.one
    cases e2 : seqA x S with
    | none => rw [e2] at e; cases e
    | some xs =>
      rw [e2] at e
      cases e
      obtain ⟨a, vs, rfl, hs, r2⟩ := seqA_ok em r e2
      refine ⟨_, vs.length, rfl, ?_, q _ G H em (Ext.refl _ _) (by simp only [DR]; rw [r2.length])⟩
      exact hs.elim (fun z => .inl ⟨vs, z, rfl⟩) fun z => .inr ⟨vs, z, rfl⟩
  · cases e
def intD : OpN
  | [.int i], _ => some (.int i)
  | [.bl b], _ => some (.int (if b then 1 else 0))
  | _, _ => none
theorem intD_ok : CaS T K (fun xs H Q => (∃ i, xs = [.int i] ∧ Q (.int i) H) ∨ ∃ k, xs = [.bl k] ∧ Q (.int (if k then 1 else 0)) H) intD := by
  intro F S ι G H xs d vs Q em dr e q
  unfold intD at e
  split at e
  · cases e
    obtain ⟨v, rfl, r⟩ := dr.one
    simp only [DR] at r
    subst r
    exact .inl ⟨_, rfl, q _ G H em (Ext.refl _ _) (by simp only [DR])⟩
  · cases e
    obtain ⟨v, rfl, r⟩ := dr.one
    simp only [DR] at r
    subst r
    exact .inr ⟨_, rfl, q _ G H em (Ext.refl _ _) (by simp only [DR])⟩
  · cases e
def absD : OpN
  | [.int i], _ => some (.int (if i < 0 then -i else i))
  | _, _ => none
theorem absD_ok : CaS T K (fun xs H Q => ∃ i, xs = [.int i] ∧ Q (.int (if i < 0 then -i else i)) H) absD := by
  intro F S ι G H xs d vs Q em dr e q
  unfold absD at e
  split at e
  · cases e
    obtain ⟨v, rfl, r⟩ := dr.one
    simp only [DR] at r
    subst r
    exact ⟨_, rfl, q _ G H em (Ext.refl _ _) (by simp only [DR])⟩
  · cases e
def max2 : OpN
  | [.int i, .int j], _ => some (.int (if j > i then j else i))
  | _, _ => none
def min2 : OpN
  | [.int i, .int j], _ => some (.int (if j < i then j else i))
  | _, _ => none
theorem max2_ok : CaS T K (fun xs H Q => ∃ i j, xs = [.int i, .int j] ∧ Q (.int (if j > i then j else i)) H) max2 := by
  intro F S ι G H xs d vs Q em dr e q
  unfold max2 at e
  split at e
  · cases e
    obtain ⟨v, w, rfl, r, r2⟩ := dr.two
    simp only [DR] at r r2
    subst r; subst r2
    exact ⟨_, _, rfl, q _ G H em (Ext.refl _ _) (by simp only [DR])⟩
  · cases e
theorem min2_ok : CaS T K (fun xs H Q => ∃ i j, xs = [.int i, .int j] ∧ Q (.int (if j < i then j else i)) H) min2 := by
  intro F S ι G H xs d vs Q em dr e q
  unfold min2 at e
  split at e
  · cases e
    obtain ⟨v, w, rfl, r, r2⟩ := dr.two
    simp only [DR] at r r2
    subst r; subst r2
    exact ⟨_, _, rfl, q _ G H em (Ext.refl _ _) (by simp only [DR])⟩
  · cases e
def divmodD : OpN
  | [.int i, .int j], _ => if 0 < j ∧ j < 1073741824 then some (.tup [.int (i / j), .int (i % j)]) else none
  | _, _ => none
theorem divmodD_ok : CaS T K (fun xs H Q => ∃ i j, xs = [.int i, .int j] ∧ CDiv i j ∧ ∀ p, H p = none → Q (.ref p) (upd H p (.tup [.int (i / j), .int (i % j)]))) divmodD := by
  intro F S ι G H xs d vs Q em dr e q
  unfold divmodD at e
  split at e
  · split at e
    · rename_i hc
      cases e
      obtain ⟨v, w, rfl, r, r2⟩ := dr.two
      simp only [DR] at r r2
      subst r; subst r2
      refine ⟨_, _, rfl, hc, fun p hp => ?_⟩
      obtain ⟨em2, x2⟩ := em.frz (o := .tup [.int (_ / _), .int (_ % _)]) hp
      refine q _ _ _ em2 x2 ?_
      simp only [DR]
      exact ⟨p, _, rfl, upd_same, DRs.cons (by simp only [DR]) (DRs.cons (by simp only [DR]) DRs.nil)⟩
    · cases e
  · cases e
def boolsOf : List D → Option (List Bool)
  | [] => some []
  | .bl b :: xs => (boolsOf xs).map (b :: ·)
  | _ :: _ => none
def intsOf : List D → Option (List Int)
  | [] => some []
  | .int b :: xs => (intsOf xs).map (b :: ·)
  | _ :: _ => none
def strsOf : List D → Option (List (List Nat))
  | [] => some []
  | .str b :: xs => (strsOf xs).map (b :: ·)
  | _ :: _ => none
theorem boolsOf_ok {G : Hp} {ι : List Addr} : ∀ {xs : List D} {vs : List V} {bs : List Bool}, DRs T K G ι xs vs → boolsOf xs = some bs → vs = bs.map V.bl
  | [], _, _, r, e => by simp only [DRs] at r; cases e; exact r
  | x :: xs, _, bs, r, e => by
    simp only [DRs] at r
    obtain ⟨v, u, rfl, r1, r2⟩ := r
    cases x with
    | bl b =>
      simp only [boolsOf] at e
      cases e1 : boolsOf xs with
      | none => rw [e1] at e; cases e
      | some cs =>
        rw [e1] at e
        cases e
        simp only [DR] at r1
        rw [r1, boolsOf_ok r2 e1]
        rfl
    | _ => cases e
theorem intsOf_ok {G : Hp} {ι : List Addr} : ∀ {xs : List D} {vs : List V} {bs : List Int}, DRs T K G ι xs vs → intsOf xs = some bs → vs = bs.map V.int
  | [], _, _, r, e => by simp only [DRs] at r; cases e; exact r
  | x :: xs, _, bs, r, e => by
    simp only [DRs] at r
    obtain ⟨v, u, rfl, r1, r2⟩ := r
    cases x with
    | int b =>
      simp only [intsOf] at e
      cases e1 : intsOf xs with
      | none => rw [e1] at e; cases e
      | some cs =>
        rw [e1] at e
        cases e
        simp only [DR] at r1
        rw [r1, intsOf_ok r2 e1]
        rfl
    | _ => cases e
theorem strsOf_ok {G : Hp} {ι : List Addr} : ∀ {xs : List D} {vs : List V} {bs : List (List Nat)}, DRs T K G ι xs vs → strsOf xs = some bs → vs = (bs.map fun l => (⟨l.toArray⟩ : Str)).map V.str
  | [], _, _, r, e => by simp only [DRs] at r; cases e; exact r
  | x :: xs, _, bs, r, e => by
    simp only [DRs] at r
    obtain ⟨v, u, rfl, r1, r2⟩ := r
    cases x with
    | str b =>
      simp only [strsOf] at e
      cases e1 : strsOf xs with
      | none => rw [e1] at e; cases e
      | some cs =>
        rw [e1] at e
        cases e
        simp only [DR] at r1
        rw [r1, strsOf_ok r2 e1]
        rfl
    | _ => cases e
def allD : OpN
  | [x], S => ((seqR x S).bind boolsOf).map fun bs => .bl (bs.all id)
  | _, _ => none
def anyD : OpN
  | [x], S => ((seqR x S).bind boolsOf).map fun bs => .bl (bs.any id)
  | _, _ => none
theorem one_list {F : Hp} {S : Store} {ι : List Addr} {G H : Hp} {α : Type} {f : List D → Option α} {g : α → D} {x d : D} {vs : List V} (em : Em T K F S ι G H) (dr : DRs T K G ι [x] vs) (e : ((seqR x S).bind f).map g = some d) :
    ∃ a us ds y, vs = [.ref a] ∧ SqL K H a us ∧ DRs T K G ι ds us ∧ f ds = some y ∧ d = g y := by
  obtain ⟨v, rfl, r⟩ := dr.one
  cases e1 : seqR x S with
  | none => rw [e1] at e; cases e
  | some ds =>
    rw [e1] at e
    obtain ⟨a, us, rfl, h1, h2⟩ := seqR_ok em r e1
    cases e2 : f ds with
    | none => simp only [Option.bind_some, e2] at e; cases e
    | some y =>
      simp only [Option.bind_some, e2, Option.map_some] at e
      cases e
      exact ⟨a, us, ds, y, rfl, h1, h2, e2, rfl⟩
theorem allD_ok : CaS T K (rAll K) allD := by
  intro F S ι G H xs d vs Q em dr e q
  unfold allD at e
  split at e
  · obtain ⟨a, us, ds, bs, rfl, h1, h2, h3, rfl⟩ := one_list em dr e
    rw [boolsOf_ok h2 h3] at h1
    exact ⟨a, bs, rfl, h1, q _ G H em (Ext.refl _ _) (by simp only [DR])⟩
  · cases e
theorem anyD_ok : CaS T K (rAny K) anyD := by
  intro F S ι G H xs d vs Q em dr e q
  unfold anyD at e
  split at e
  · obtain ⟨a, us, ds, bs, rfl, h1, h2, h3, rfl⟩ := one_list em dr e
    rw [boolsOf_ok h2 h3] at h1
    exact ⟨a, bs, rfl, h1, q _ G H em (Ext.refl _ _) (by simp only [DR])⟩
  · cases e
end
end J
set_option Elab.async false
set_option linter.all false
set_option maxRecDepth 100000
set_option maxHeartbeats 410000
/-! J7: methods of texts and lists, stores into lists, what is walked -/
namespace J
open PySem PySem.Spec L2
open PySem.StrLaws (occBody occ_eq subAt_one occ_head At)
/-! ### one sign in a text: count, find, index -/
theorem occ_count (a : List Nat) (c lim : Nat) : ∀ (m k : Nat) (st : Array Nat × Nat), k + m = a.length + 1 → st.2 ≤ k → st.1.size ≤ k → a.length < lim →
    (forIn (List.range' k m) st (occBody ⟨a.toArray⟩ ⟨#[c]⟩ (⟨a.toArray⟩ : Str).length lim)).run.fst.size = st.1.size + (a.drop k).count c
  | 0, k, st, hk, _, _, _ => by
    have : a.drop k = [] := List.drop_eq_nil_of_le (by omega)
    simp [this]
  | m + 1, k, st, hk, h1, h2, hl => by
    rw [List.range'_succ]; rw [List.forIn_cons]
    unfold occBody
    have hs := subAt_one ⟨a.toArray⟩ c k
    by_cases hc : a[k]? = some c
    · have hc' : (⟨a.toArray⟩ : Str).cps.toList[k]? = some c := by simpa using hc
      obtain ⟨h3, h4⟩ := hs.mpr hc'
      have cond : ((st.fst.size < lim ∧ st.snd ≤ k) ∧ k + (⟨#[c]⟩ : Str).length ≤ (⟨a.toArray⟩ : Str).length) ∧ Builtin.Str.subAt ⟨a.toArray⟩ ⟨#[c]⟩ k = true := ⟨⟨⟨by omega, h1⟩, h3⟩, h4⟩
      rw [if_pos cond]
      have ih := occ_count a c lim m (k + 1) (st.fst.push k, k + (⟨#[c]⟩ : Str).length) (by omega) (Nat.le_refl _) (by simp; omega) hl
      unfold occBody at ih
      obtain ⟨hlt, e⟩ := List.getElem?_eq_some_iff.mp hc
      rw [List.drop_eq_getElem_cons hlt, e, List.count_cons_self]
      refine Eq.trans ih ?_
      simp
      omega
    · have nc : ¬ (((st.fst.size < lim ∧ st.snd ≤ k) ∧ k + (⟨#[c]⟩ : Str).length ≤ (⟨a.toArray⟩ : Str).length) ∧ Builtin.Str.subAt ⟨a.toArray⟩ ⟨#[c]⟩ k = true) := fun z => hc (by simpa using hs.mp ⟨z.1.2, z.2⟩)
      rw [if_neg nc]
      have ih := occ_count a c lim m (k + 1) st (by omega) (by omega) (by omega) hl
      unfold occBody at ih
      refine Eq.trans ih ?_
      by_cases hlt : k < a.length
      · rw [List.drop_eq_getElem_cons hlt, List.count_cons_of_ne]
        intro z
        exact hc (by rw [List.getElem?_eq_getElem hlt, z])
      · rw [List.drop_eq_nil_of_le (by omega), List.drop_eq_nil_of_le (by omega)]
theorem count_one (a : List Nat) (c : Nat) : Txt.count ⟨a.toArray⟩ ⟨#[c]⟩ = ((a.count c : Nat) : Int) := by
  unfold Txt.count
  rw [occ_eq, Nat.sub_zero]
  have h := occ_count a c ((⟨a.toArray⟩ : Str).length + 1) (a.length + 1) 0 (#[], 0) (by omega) (Nat.le_refl _) (by simp) (by rw [str_len]; omega)
  have e : (⟨a.toArray⟩ : Str).length + 1 = a.length + 1 := by rw [str_len]
  rw [Array.length_toList]
  rw [← e] at h
  rw [h]
  simp
theorem at_one {a : List Nat} {c i : Nat} : At ⟨a.toArray⟩ ⟨#[c]⟩ (⟨a.toArray⟩ : Str).length i ↔ a[i]? = some c := by
  have := subAt_one ⟨a.toArray⟩ c i
  simpa [At] using this
/-- where a sign first stands -/
def fstAt (c : Nat) : List Nat → Option Nat
  | [] => none
  | x :: xs => if x = c then some 0 else (fstAt c xs).map (· + 1)
theorem fstAt_none {c : Nat} : ∀ {a : List Nat}, (∀ i : Nat, a[i]? ≠ some c) → fstAt c a = none
  | [], _ => rfl
  | x :: xs, h => by
    unfold fstAt
    rw [if_neg fun z => h 0 (by simp [z]), fstAt_none (a := xs) fun i => by simpa using h (i + 1)]
    rfl
theorem fstAt_some {c : Nat} : ∀ {a : List Nat} {i : Nat}, a[i]? = some c → (∀ k, k < i → a[k]? ≠ some c) → fstAt c a = some i
  | x :: xs, 0, h, _ => by
    unfold fstAt
    rw [if_pos (by simpa using h)]
  | x :: xs, i + 1, h, n => by
    unfold fstAt
    rw [if_neg fun z => n 0 (by omega) (by simp [z]), fstAt_some (a := xs) (i := i) (by simpa using h) fun k hk => by simpa using n (k + 1) (by omega)]
    rfl
theorem occ_one (a : List Nat) (c lim : Nat) (hl : 1 ≤ lim) : match Builtin.Str.occurrences ⟨a.toArray⟩ ⟨#[c]⟩ 0 (⟨a.toArray⟩ : Str).length lim with
    | i :: _ => fstAt c a = some i
    | [] => fstAt c a = none := by
  rcases occ_head ⟨a.toArray⟩ ⟨#[c]⟩ lim hl with ⟨e, h⟩ | ⟨i, r, e, h1, h2⟩
  · rw [e]
    exact fstAt_none fun i z => h i (at_one.mpr z)
  · rw [e]
    exact fstAt_some (at_one.mp h1) fun k hk z => h2 k hk (at_one.mpr z)
theorem find_one (a : List Nat) (c : Nat) : Txt.find ⟨a.toArray⟩ ⟨#[c]⟩ = (match fstAt c a with | some i => (i : Int) | none => -1) := by
  unfold Txt.find
  have h := occ_one a c 1 (Nat.le_refl _)
  split at h
  · rename_i i _ e
    rw [e, h]
  · rename_i e
    rw [e, h]
def strCount : OpM
  | .str a, [.str [c]] => M.ret (.int (a.count c))
  | _, _ => M.no
def strFind : OpM
  | .str a, [.str [c]] => M.ret (.int (match fstAt c a with | some i => (i : Int) | none => -1))
  | _, _ => M.no
def joinL : List Nat → List (List Nat) → List Nat := TL.joinL
def strJoin : OpM
  | .str a, [x] => fun S => match (seqA x S).bind strsOf with
    | some ys => if ys.length ≤ 1000 ∧ a.length ≤ 1000 ∧ (ys.all fun y => decide (y.length ≤ 1000)) = true then .ok (.str (TL.joinL a ys)) S else .no
    | none => .no
  | _, _ => M.no
section
variable {T : Tab} {K : PySem.W.Frag}
theorem strCount_ok : MtS T K (fun x xs H Q => ∃ a b, x = .str a ∧ xs = [.str b] ∧ Q (.int (Txt.count a b)) H) strCount := by
  intro F S ι G H x xs vx vs W σ Q em dx dr h
  unfold strCount at h
  split at h
  · obtain ⟨v, rfl, r⟩ := dr.one
    simp only [DR] at dx r
    refine ⟨_, _, dx, by rw [r], ?_⟩
    exact Thn.ok h em (by simp only [DR]; rw [count_one])
  · exact h.elim
theorem strFind_ok : MtS T K (fun x xs H Q => ∃ a b, x = .str a ∧ xs = [.str b] ∧ Q (.int (Txt.find a b)) H) strFind := by
  intro F S ι G H x xs vx vs W σ Q em dx dr h
  unfold strFind at h
  split at h
  · obtain ⟨v, rfl, r⟩ := dr.one
    simp only [DR] at dx r
    refine ⟨_, _, dx, by rw [r], ?_⟩
    exact Thn.ok h em (by simp only [DR]; rw [find_one])
  · exact h.elim
theorem join_mk (a : List Nat) (ys : List (List Nat)) : Txt.join ⟨a.toArray⟩ (ys.map fun l => (⟨l.toArray⟩ : Str)) = ⟨(TL.joinL a ys).toArray⟩ := by
  rw [TL.join_eq]
  apply TL.ext_tl
  rw [TL.tl_join]
  show TL.joinL a ((ys.map fun l => (⟨l.toArray⟩ : Str)).map TL.tl) = TL.joinL a ys
  congr 1
  rw [List.map_map]
  conv => rhs; rw [← List.map_id ys]
  apply List.map_congr_left
  intro l _
  simp [TL.tl]
theorem join_fits {a : List Nat} {ys : List (List Nat)} (h1 : ys.length ≤ 1000) (h2 : a.length ≤ 1000) (h3 : (ys.all fun y => decide (y.length ≤ 1000)) = true) : (((ys.map fun l => (⟨l.toArray⟩ : Str)).map (·.length)).sum + (ys.map fun l => (⟨l.toArray⟩ : Str)).length * (⟨a.toArray⟩ : Str).length) ≤ 16777216 := by
  have key : ∀ zs : List (List Nat), (zs.all fun y => decide (y.length ≤ 1000)) = true → ((zs.map fun l => (⟨l.toArray⟩ : Str)).map (·.length)).sum ≤ zs.length * 1000 := by
    intro zs
    induction zs with
    | nil => intro _; simp
    | cons z zs ih =>
      intro h
      rw [List.all_cons, Bool.and_eq_true_iff] at h
      have := ih h.2
      have hz : z.length ≤ 1000 := of_decide_eq_true h.1
      simp only [List.sum_cons, List.length_cons, List.map_cons]
      rw [str_len]
      omega
  have h4 := key ys h3
  rw [List.length_map, str_len]
  have h5 : ys.length * 1000 ≤ 1000 * 1000 := Nat.mul_le_mul h1 (Nat.le_refl _)
  have h6 : ys.length * a.length ≤ 1000 * 1000 := Nat.mul_le_mul h1 h2
  omega
theorem strJoin_ok : MtS T K (fun x xs H Q => ∃ a p, ∃ ys : List Str, x = .str a ∧ xs = [.ref p] ∧ (SqL K H p (ys.map V.str) ∨ SqT K H p (ys.map V.str)) ∧
    (ys.map (·.length)).sum + ys.length * a.length ≤ 16777216 ∧ Q (.str (Txt.join a ys)) H) strJoin := by
  intro F S ι G H x xs vx vs W σ Q em dx dr h
  unfold strJoin at h
  split at h
  · rename_i a y
    obtain ⟨v, rfl, r⟩ := dr.one
    simp only [DR] at dx
    cases e1 : seqA y S with
    | none => rw [e1] at h; exact h.elim
    | some ds =>
      rw [e1] at h
      dsimp only [Option.bind_some] at h
      cases e2 : strsOf ds with
      | none => rw [e2] at h; exact h.elim
      | some ys =>
        rw [e2] at h
        dsimp only at h
        split at h
        · rename_i hc
          obtain ⟨p, us, rfl, hs, r2⟩ := seqA_ok em r e1
          rw [strsOf_ok r2 e2] at hs
          refine ⟨_, p, ys.map fun l => (⟨l.toArray⟩ : Str), dx, rfl, hs, join_fits hc.1 hc.2.1 hc.2.2, ?_⟩
          rw [join_mk]
          exact Thn.ok h em (by simp only [DR])
        · exact h.elim
  · exact h.elim
/-! ### xs.append(e) -/
def lstApp : OpM
  | .ref n, [y] => fun S => match S.get n with
    | some (.lst xs) => if xs.length < 100000 then .ok .non (S.set n (.lst (xs ++ [y]))) else .no
    | _ => .no
  | _, _ => M.no
theorem obj_at {F : Hp} {S : Store} {ι : List Addr} {G H : Hp} {n : Nat} {v : V} {o : MO} (em : Em T K F S ι G H) (h : DR T K G ι (.ref n) v) (e : S.get n = some o) : ∃ a u, v = .ref a ∧ ι[n]? = some a ∧ H a = some u ∧ OR T K G ι o u := by
  simp only [DR] at h
  obtain ⟨a, ha, rfl⟩ := h
  obtain ⟨a', u, h1, _, _, h4, h5⟩ := em.obj n o e
  rw [ha] at h1
  cases h1
  exact ⟨a, u, rfl, ha, h4, h5⟩
theorem lstApp_ok : MtS T K rAppend lstApp := by
  intro F S ι G H x xs vx vs W σ Q em dx dr h
  unfold lstApp at h
  split at h
  · rename_i n y
    obtain ⟨v, rfl, r⟩ := dr.one
    cases e : S.get n with
    | none => rw [e] at h; exact h.elim
    | some o =>
      rw [e] at h
      cases o with
      | lst ds =>
        dsimp only at h
        split at h
        · rename_i hl
          obtain ⟨a, u, rfl, ha, hu, us, rfl, hr⟩ := obj_at em dx e
          refine ⟨a, us, v, rfl, rfl, hu, by rw [← hr.length]; exact Nat.lt_of_lt_of_le hl (by decide), ?_⟩
          exact h _ _ _ _ (em.set (by rw [e]; rfl) ha ⟨_, rfl, hr.append (DRs.cons r DRs.nil)⟩) (Ext.refl _ _) (by simp only [DR])
        · exact h.elim
      | _ => exact h.elim
  · exact h.elim
end
end J
set_option Elab.async false
set_option linter.all false
set_option maxRecDepth 100000
set_option maxHeartbeats 410000
/-! J8: assignments, what is walked -/
namespace J
open PySem PySem.Spec L2
/-! ### target = value, the target names -/
def sAsgG (g : NG) (ie : IE) : IS := fun ρ => sBind (ie ρ) ρ fun d => match ngD g d ρ with
  | some ρ' => M.ret (.nx ρ')
  | none => M.no
section
variable {T : Tab} {X : Cx} {W : WX} {e tg : Expr} {ie : IE} {g : NG} {pos : Pos}
theorem js_asg (he : JE T X W e ie) (hg : PG X tg (ngV X.K g)) (hs : swapsWithSole [tg] e pos.line X.env = pure false := by rfl) (hw : swappedStores [tg] e X.env = pure none := by rfl)
    (h1 : (assignEach [tg] X.env).map (·.2) = [assign tg X.env] := by rfl) : JS T X W (.Assign [tg] e pos) (sAsgG g ie) := by
  refine PS.mono (ps_asg he hg hs hw h1) fun D σ H ⟨ρ, F, S, ι, G, em, sr, h⟩ => ⟨ρ, F, S, ι, G, em, sr, ThnS.bind (rel := DR T X.K) h sr fun a S1 v ι1 G1 H1 em1 x1 r h1 => ?_⟩
  cases q : ngD g a ρ with
  | none => rw [q] at h1; exact h1.elim
  | some ρ' =>
    rw [q] at h1
    exact ng_ok em1 (sr.mono x1) r q fun σ' sr' _ => h1.nx em1 sr'
/-- a, b = x, y -/
def sPar (i j : Nat) (ia : IA) : IS := fun ρ => sBind (ia ρ) ρ fun xs => match xs with
  | [x, y] => M.ret (.nx ((ρ.set i (some x)).set j (some y)))
  | _ => M.no
theorem js_par {i j : Nat} {x y : Str} {a b : Expr} {ia : IA} {px py pt : Pos} {kt k2 pt2} (hc : X.calm = true) (hN : X.N.Nodup) (hi : X.N[i]? = some x) (hj : X.N[j]? = some y) (hij : i ≠ j)
    (hx : X.env.scope.names.lookup x = some .local) (hy : X.env.scope.names.lookup y = some .local) (ha : JA T X W [a, b] ia)
    (hw : swappedStores [.Tuple [.Name x px, .Name y py] kt pt] (.Tuple [a, b] k2 pt2) X.env = pure (some [x, y]) := by rfl)
    (sole : swapsWithSole [.Tuple [.Name x px, .Name y py] kt pt] (.Tuple [a, b] k2 pt2) pos.line X.env = pure false := by rfl) :
    JS T X W (.Assign [.Tuple [.Name x px, .Name y py] kt pt] (.Tuple [a, b] k2 pt2) pos) (sPar i j ia) := by
  refine PS.mono (ps_par hc hN hi hj hij hx hy ha hw sole) fun D σ H ⟨ρ, F, S, ι, G, em, sr, h⟩ => ⟨ρ, F, S, ι, G, em, sr, ThnS.bind (rel := DRs T X.K) h sr fun xs S1 vs ι1 G1 H1 em1 x1 r h1 => ?_⟩
  match xs, r, h1 with
  | [d1, d2], r, h1 =>
    obtain ⟨v, w, rfl, r1, r2⟩ := r.two
    exact ⟨v, w, rfl, h1.nx em1 (((sr.mono x1).set r1 i).set r2 j)⟩
  | [], _, h1 => exact h1.elim
  | [_], _, h1 => exact h1.elim
  | _ :: _ :: _ :: _, _, h1 => exact h1.elim
end
/-! ### o[i] = v -/
abbrev OpSet := D → D → D → Store → Option Store
def setL : OpSet
  | .ref n, .int k, v, S => match S.get n with
    | some (.lst xs) => (ixN xs.length k).map fun j => S.set n (.lst (xs.set j v))
    | _ => none
  | _, _, _, _ => none
def SetS (T : Tab) (K : PySem.W.Frag) (r : TSet) (f : OpSet) : Prop := ∀ F S S' ι G H o i v vo vi vv (Q : Hp → Prop), Em T K F S ι G H → DR T K G ι o vo → DR T K G ι i vi → DR T K G ι v vv → f o i v S = some S' →
  (∀ G' H', Em T K F S' ι G' H' → Ext G ι G' ι → Q H') → r vo vi vv H Q
theorem setL_ok {T : Tab} {K : PySem.W.Frag} : SetS T K rSetL setL := by
  intro F S S' ι G H o i v vo vi vv Q em d1 d2 d3 e q
  cases o with
  | ref n =>
    cases i with
    | int k =>
      simp only [setL] at e
      cases e1 : S.get n with
      | none => rw [e1] at e; cases e
      | some ob =>
        rw [e1] at e
        cases ob with
        | lst xs =>
          dsimp only at e
          cases e2 : ixN xs.length k with
          | none => rw [e2] at e; cases e
          | some j =>
            rw [e2] at e
            cases e
            obtain ⟨a, u, rfl, ha, hu, us, rfl, hr⟩ := obj_at em d1 e1
            simp only [DR] at d2
            exact ⟨a, us, k, j, rfl, d2, hu, by rw [← hr.length]; exact e2, q G _ (em.set (by rw [e1]; rfl) ha ⟨_, rfl, hr.set d3 j⟩) (Ext.refl _ _)⟩
        | _ => cases e
    | _ => cases e
  | _ => cases e
def sSetI (f : OpSet) (ie io ii : IE) : IS := fun ρ => sBind (ie ρ) ρ fun v => sBind (io ρ) ρ fun o => sBind (ii ρ) ρ fun i => fun S => match f o i v S with
  | some S' => .ok (.nx ρ) S'
  | none => .no
section
variable {T : Tab} {X : Cx} {W : WX} {e o i : Expr} {ie io ii : IE} {pos p1 : Pos} {r : TSet} {f : OpSet}
theorem js_setI (hp : PSet X r) (hf : SetS T X.K r f) (he : JE T X W e ie) (ho : JE T X W o io) (hi : JE T X W i ii)
    (ha : ∀ v, assign (.Subscript o i p1) X.env v = (do
      let obv ← holding [v] (eval o X.env)
      let idx ← holding [v, obv] (eval i X.env)
      standAt p1
      holding [v, obv, idx] (setItem obv idx v)
      release [v, obv, idx] []) := by intro _; rfl)
    (hs : swapsWithSole [.Subscript o i p1] e pos.line X.env = pure false := by rfl) (hw : swappedStores [.Subscript o i p1] e X.env = pure none := by rfl)
    (h1 : (assignEach [.Subscript o i p1] X.env).map (·.2) = [assign (.Subscript o i p1) X.env] := by rfl) : JS T X W (.Assign [.Subscript o i p1] e pos) (sSetI f ie io ii) := by
  refine PS.mono (ps_asg he (pg_sub ho hi hp ha) hs hw h1) fun D σ H ⟨ρ, F, S, ι, G, em, sr, h⟩ => ⟨ρ, F, S, ι, G, em, sr, ThnS.bind (rel := DR T X.K) h sr fun v S1 vv ι1 G1 H1 em1 x1 d1 h1 => ?_⟩
  refine ⟨ρ, F, S1, ι1, G1, em1, sr.mono x1, ThnS.bind (rel := DR T X.K) h1 (sr.mono x1) fun ob S2 vo ι2 G2 H2 em2 x2 d2 h2 => ?_⟩
  refine ⟨ρ, F, S2, ι2, G2, em2, (sr.mono x1).mono x2, ThnS.bind (rel := DR T X.K) h2 ((sr.mono x1).mono x2) fun iv S3 vi ι3 G3 H3 em3 x3 d3 h3 => ?_⟩
  cases q : f ob iv v S3 with
  | none => rw [q] at h3; exact h3.elim
  | some S4 =>
    rw [q] at h3
    exact hf F S3 S4 ι3 G3 H3 ob iv v vo vi vv _ em3 (d2.mono x3.1 x3.2) d3 ((d1.mono x2.1 x2.2).mono x3.1 x3.2) q fun G' H' em' x' => h3 _ _ _ _ em' x' (((sr.mono x1).mono x2).mono (x3.trans x'))
/-- o[i], name = a tuple -/
def sSetIN (f : OpSet) (ie io ii : IE) (j : Nat) : IS := fun ρ => sBind (ie ρ) ρ fun d => match d with
  | .tup [v, w] => sBind (io ρ) ρ fun o => sBind (ii ρ) ρ fun i => fun S => match f o i v S with
    | some S' => .ok (.nx (ρ.set j (some w))) S'
    | none => .no
  | _ => M.no
theorem js_setIN {j : Nat} {x : Str} {pt p2 : Pos} {kt : Nat} (hc : X.calm = true) (hp : PSet X r) (hf : SetS T X.K r f) (hN : X.N.Nodup) (hj : X.N[j]? = some x) (hx : Loc X.env.scope x) (he : JE T X W e ie) (ho : JE T X W o io) (hi : JE T X W i ii)
    (ha : ∀ v, assign (.Subscript o i p1) X.env v = (do
      let obv ← holding [v] (eval o X.env)
      let idx ← holding [v, obv] (eval i X.env)
      standAt p1
      holding [v, obv, idx] (setItem obv idx v)
      release [v, obv, idx] []) := by intro _; rfl)
    (hfn : X.fn x = true ∨ X.env.scope.names.lookup x = some .local := by first | exact .inl rfl | exact .inr rfl | assumption)
    (hs : swapsWithSole [.Tuple [.Subscript o i p1, .Name x p2] kt pt] e pos.line X.env = pure false := by rfl) (hw : swappedStores [.Tuple [.Subscript o i p1, .Name x p2] kt pt] e X.env = pure none := by rfl)
    (h1 : (assignEach [.Tuple [.Subscript o i p1, .Name x p2] kt pt] X.env).map (·.2) = [assign (.Tuple [.Subscript o i p1, .Name x p2] kt pt) X.env] := by rfl)
    (ht : (assignEach [.Subscript o i p1, .Name x p2] X.env).map (·.2) = assign (.Subscript o i p1) X.env :: (assignEach [.Name x p2] X.env).map (·.2) := by rfl)
    (hn : (assignEach [.Subscript o i p1, .Name x p2] X.env).length = 2 := by rfl) (hst : (assignEach [.Subscript o i p1, .Name x p2] X.env).findIdx? (·.1) = none := by rfl) :
    JS T X W (.Assign [.Tuple [.Subscript o i p1, .Name x p2] kt pt] e pos) (sSetIN f ie io ii j) := by
  refine PS.mono (ps_asg he (pg_tup (n := 2) hc (pgs_cons (pg_sub ho hi hp ha) (pgs_cons (pg_name (i := j) hN hj hx hfn) pgs_nil) ht) hn hst) hs hw h1) fun D σ H ⟨ρ, F, S, ι, G, em, sr, h⟩ => ⟨ρ, F, S, ι, G, em, sr, ThnS.bind (rel := DR T X.K) h sr fun d S1 vd ι1 G1 H1 em1 x1 d1 h1 => ?_⟩
  match d, d1, h1 with
  | .tup [v, w], d1, h1 =>
    simp only [DR] at d1
    obtain ⟨a, vs, rfl, hG, rs⟩ := d1
    obtain ⟨vv, vw, rfl, r1, r2⟩ := rs.two
    refine ⟨a, _, rfl, SqT.of (em1.sub _ _ hG), rfl, vv, [vw], rfl, ?_⟩
    refine ⟨ρ, F, S1, ι1, G1, em1, sr.mono x1, ThnS.bind (rel := DR T X.K) h1 (sr.mono x1) fun ob S2 vo ι2 G2 H2 em2 x2 d2 h2 => ?_⟩
    refine ⟨ρ, F, S2, ι2, G2, em2, (sr.mono x1).mono x2, ThnS.bind (rel := DR T X.K) h2 ((sr.mono x1).mono x2) fun iv S3 vi ι3 G3 H3 em3 x3 d3 h3 => ?_⟩
    cases q : f ob iv v S3 with
    | none => rw [q] at h3; exact h3.elim
    | some S4 =>
      rw [q] at h3
      refine hf F S3 S4 ι3 G3 H3 ob iv v vo vi vv _ em3 (d2.mono x3.1 x3.2) d3 ((r1.mono x2.1 x2.2).mono x3.1 x3.2) q fun G' H' em' x' => ?_
      refine ⟨vw, [], rfl, rfl, ?_⟩
      exact h3 _ _ _ _ em' x' ((((sr.mono x1).mono x2).mono (x3.trans x')).set (r2.mono (x2.trans (x3.trans x')).1 (x2.trans (x3.trans x')).2) j)
  | .tup [], _, h1 => exact h1.elim
  | .tup [_], _, h1 => exact h1.elim
  | .tup (_ :: _ :: _ :: _), _, h1 => exact h1.elim
  | .non, _, h1 => exact h1.elim
  | .bl _, _, h1 => exact h1.elim
  | .int _, _, h1 => exact h1.elim
  | .str _, _, h1 => exact h1.elim
  | .ty _, _, h1 => exact h1.elim
  | .glo _, _, h1 => exact h1.elim
  | .lst _, _, h1 => exact h1.elim
  | .scr _, _, h1 => exact h1.elim
  | .dct _ _, _, h1 => exact h1.elim
  | .dcu _ _, _, h1 => exact h1.elim
  | .ins _ _, _, h1 => exact h1.elim
  | .exn _ _ _, _, h1 => exact h1.elim
  | .ref _, _, h1 => exact h1.elim
end
/-! ### name op= e -/
/-! ### what is walked: lists, tuples, texts -/
def items : D → Option (List D)
  | .lst xs => some xs
  | .scr xs => some xs
  | .tup xs => some xs
  | .str a => some (a.map fun c => .str [c])
  | _ => none
def iItems (ie : IE) : IA := fun ρ => M.bind (ie ρ) fun d => lift (items d)
theorem PI.or {X : Cx} {tg e : Expr} {t u : TI} (h : PI X tg e t) (k : PI X tg e u) : PI X tg e (fun σ H R => t σ H R ∨ u σ H R) := ⟨fun pins s σ H R I q => q.elim (h.run pins s σ H R I) (k.run pins s σ H R I)⟩
section
variable {T : Tab} {K : PySem.W.Frag} {ι : List Addr} {G : Hp}
theorem walk_list {a : Addr} {xs : List D} {vs : List V} (h : SqL K G a vs) (r : DRs T K G ι xs vs) : Walk T K ι G (Itl K a) xs := by
  intro i F S ι1 G1 H1 em x
  have hs := Same.seq em.sub (Same.seq x.1 h)
  refine ⟨fun d e => ?_, fun e => ⟨vs, hs, by rw [e, r.length]; exact Nat.le_refl _⟩⟩
  obtain ⟨v, hv, dv⟩ := r.get e
  refine ⟨⟨vs, v, hs, hv⟩, fun w H2 hy => ?_⟩
  obtain ⟨rfl, hw⟩ := hy
  have e2 := hw vs hs
  rw [hv] at e2
  cases e2
  exact ⟨G1, em, Ext.refl _ _, dv.mono x.1 x.2⟩
theorem walk_tup {a : Addr} {xs : List D} {vs : List V} (h : G a = some (.tup vs)) (r : DRs T K G ι xs vs) : Walk T K ι G (Itt K a) xs := by
  intro i F S ι1 G1 H1 em x
  have hs : SqT K H1 a vs := SqT.of (em.sub _ _ (x.1 _ _ h))
  refine ⟨fun d e => ?_, fun e => ⟨vs, hs, by rw [e, r.length]; exact Nat.le_refl _⟩⟩
  obtain ⟨v, hv, dv⟩ := r.get e
  refine ⟨⟨vs, v, hs, hv⟩, fun w H2 hy => ?_⟩
  obtain ⟨rfl, hw⟩ := hy
  have e2 := hw vs hs
  rw [hv] at e2
  cases e2
  exact ⟨G1, em, Ext.refl _ _, dv.mono x.1 x.2⟩
theorem walk_str {l : List Nat} : Walk T K ι G (Its ⟨l.toArray⟩) (l.map fun c => .str [c]) := by
  intro i F S ι1 G1 H1 em x
  refine ⟨fun d e => ?_, fun e => ?_⟩
  · rw [List.getElem?_map] at e
    cases q : l[i]? with
    | none => (rw [q] at e); exact nomatch e
    | some c =>
      rw [q] at e
      cases e
      have hl := (List.getElem?_eq_some_iff.mp q).1
      refine ⟨by show i < l.toArray.size; simpa using hl, fun w H2 hy => ?_⟩
      obtain ⟨rfl, c', hc, rfl⟩ := hy
      have hc2 : l[i]? = some c' := by simpa using hc
      rw [q] at hc2
      cases hc2
      exact ⟨G1, em, Ext.refl _ _, by simp only [DR]⟩
  · show l.toArray.size ≤ i
    rw [e]
    simp
theorem walk_range {lo : Int} {n : Nat} : Walk T K ι G (Itr lo n) ((List.range n).map fun i : Nat => .int (lo + (i : Int))) := by
  intro i F S ι1 G1 H1 em x
  refine ⟨fun d e => ?_, fun e => ?_⟩
  · rw [List.getElem?_map] at e
    cases q : (List.range n)[i]? with
    | none => (rw [q] at e); exact nomatch e
    | some c =>
      rw [q] at e
      cases e
      obtain ⟨hl, e2⟩ := List.getElem?_eq_some_iff.mp q
      rw [List.getElem_range] at e2
      subst e2
      refine ⟨by show i < n; simpa using hl, fun w H2 hy => ?_⟩
      obtain ⟨rfl, rfl⟩ := hy
      exact ⟨G1, em, Ext.refl _ _, by simp only [DR]⟩
  · show n ≤ i
    rw [e]
    simp
end
section
variable {T : Tab} {X : Cx} {W : WX} {e tg : Expr} {ie : IE} {ia : IA} {p pos : Pos}
theorem ji_items (he : JE T X W e ie) : JI T X W tg e (iItems ie) := by
  refine PI.mono (PI.or (pi_list he) (PI.or (pi_tup he) (pi_str he))) fun σ H R ⟨ρ, F, S, ι, G, em, sr, h⟩ => ?_
  unfold iItems M.bind at h
  cases q : ie ρ S with
  | no => rw [q] at h; exact h.elim
  | ex c fs S1 =>
    rw [q] at h
    exact .inl ⟨ρ, F, S, ι, G, em, sr, by rw [q]; exact h⟩
  | ok d S1 =>
    rw [q] at h
    dsimp only at h
    cases d with
    | lst xs =>
      refine .inl ⟨ρ, F, S, ι, G, em, sr, ?_⟩
      rw [q]
      intro v ι1 G1 H1 em1 x1 dr
      simp only [DR] at dr
      obtain ⟨a, vs, rfl, hG, r⟩ := dr
      exact ⟨a, rfl, ⟨vs, SqL.of (em1.sub _ _ hG)⟩, h _ _ _ _ em1 x1 (walk_list (SqL.of hG) r)⟩
    | scr xs =>
      refine .inl ⟨ρ, F, S, ι, G, em, sr, ?_⟩
      rw [q]
      intro v ι1 G1 H1 em1 x1 dr
      simp only [DR] at dr
      obtain ⟨a, vs, rfl, hG, r⟩ := dr
      exact ⟨a, rfl, ⟨vs, Same.seq em1.sub hG⟩, h _ _ _ _ em1 x1 (walk_list hG r)⟩
    | tup xs =>
      refine .inr (.inl ⟨ρ, F, S, ι, G, em, sr, ?_⟩)
      rw [q]
      intro v ι1 G1 H1 em1 x1 dr
      simp only [DR] at dr
      obtain ⟨a, vs, rfl, hG, r⟩ := dr
      exact ⟨a, rfl, ⟨vs, SqT.of (em1.sub _ _ hG)⟩, h _ _ _ _ em1 x1 (walk_tup hG r)⟩
    | str l =>
      refine .inr (.inr ⟨ρ, F, S, ι, G, em, sr, ?_⟩)
      rw [q]
      intro v ι1 G1 H1 em1 x1 dr
      simp only [DR] at dr
      exact ⟨_, dr, h _ _ _ _ em1 x1 walk_str⟩
    | _ => exact h.elim
/-- range(n) -/
def rng (lo : Int) (n : Nat) : List D := (List.range n).map fun i : Nat => .int (lo + (i : Int))
def range1 : List D → Option (List D)
  | [.int n] => if -100000 ≤ n ∧ n ≤ 100000 then some (rng 0 n.toNat) else none
  | _ => none
theorem range1_some {xs ys : List D} (h : range1 xs = some ys) : ∃ n : Int, xs = [.int n] ∧ -100000 ≤ n ∧ n ≤ 100000 ∧ ys = rng 0 n.toNat := by
  unfold range1 at h
  split at h
  · split at h
    · rename_i hn
      cases h
      exact ⟨_, rfl, hn.1, hn.2, rfl⟩
    · cases h
  · cases h
def iRange (f : List D → Option (List D)) (ia : IA) : IA := fun ρ => M.bind (ia ρ) fun xs => lift (f xs)
theorem src_go {f : List D → Option (List D)} {σ : L2.St} {H : Hp} {R : It → Hp → Prop} {Q : List V → Hp → Prop} (h : tI T X.K W (iRange f ia) σ H R)
    (k : ∀ xs ys F S vs ι1 G1 H1, Em T X.K F S ι1 G1 H1 → DRs T X.K G1 ι1 xs vs → f xs = some ys → (∀ J, Walk T X.K ι1 G1 J ys → R J H1) → Q vs H1) : tA T X.K W ia σ H Q := by
  obtain ⟨ρ, F, S, ι, G, em, sr, h⟩ := h
  refine ⟨ρ, F, S, ι, G, em, sr, ?_⟩
  unfold iRange M.bind at h
  cases q : ia ρ S with
  | no => rw [q] at h; exact h.elim
  | ex c fs S1 => rw [q] at h; exact h
  | ok xs S1 =>
    rw [q] at h
    intro vs ι1 G1 H1 em1 x1 dr
    cases e : f xs with
    | none => simp only [e] at h; exact h.elim
    | some ys =>
      simp only [e] at h
      exact k xs ys F S1 vs ι1 G1 H1 em1 dr e fun J wk => h J ι1 G1 H1 em1 x1 wk
theorem ji_range1 {a : Expr} (hg : Gl X "range") (hm : X.mg "range" = none) (ha : JA T X W [a] ia) (hs : starEach [a] X.env = [(false, eval a X.env)] := by rfl) : JI T X W tg (.Call (.Name "range" p) [a] [] pos) (iRange range1 ia) := by
  refine PI.mono (pi_range1 hg hm ha hs) fun σ H R h => src_go h fun xs ys F S vs ι1 G1 H1 em dr e k => ?_
  obtain ⟨n, rfl, h1, h2, rfl⟩ := range1_some e
  obtain ⟨v, rfl, r⟩ := dr.one
  simp only [DR] at r
  subst r
  exact ⟨n, rfl, by omega, by omega, k _ walk_range⟩
end
end J
set_option Elab.async false
set_option linter.all false
set_option maxRecDepth 100000
set_option maxHeartbeats 410000
/-! J9: instances of own classes -/
namespace J
open PySem PySem.Spec L2
def pick (f : Nat) : List Nat → List D → Option D
  | g :: gs, x :: xs => if g = f then some x else pick f gs xs
  | _, _ => none
def getF (f : Nat) : List (Nat × D) → Option D
  | [] => none
  | (g, x) :: r => if g = f then some x else getF f r
def putD (f : Nat) (d : D) : List (Nat × D) → List (Nat × D)
  | [] => [(f, d)]
  | (g, x) :: r => if g = f then (g, d) :: r else (g, x) :: putD f d r
section
variable {T : Tab} {K : PySem.W.Frag} {ι : List Addr} {G : Hp}
theorem lk_hit {f : Str} {v : V} {r : List (Str × V)} : List.lookup f ((f, v) :: r) = some v := by simp [List.lookup]
theorem lk_miss {f g : Str} {v : V} {r : List (Str × V)} (h : g ≠ f) : List.lookup f ((g, v) :: r) = List.lookup f r := by
  have : (f == g) = false := by simpa using fun z => h z.symm
  simp [List.lookup, this]
theorem getF_ok {f : Nat} {d : D} : ∀ {fs : List (Nat × D)} {vs : List (Str × V)}, FRs T K G ι fs vs → getF f fs = some d → ∃ v, vs.lookup (T.fn f) = some v ∧ DR T K G ι d v
  | [], _, _, e => by cases e
  | (g, x) :: r, _, ⟨v, us, h, r1, r2⟩, e => by
    subst h
    unfold getF at e
    by_cases h : g = f
    · subst h
      rw [if_pos rfl] at e
      cases e
      exact ⟨v, lk_hit, r1⟩
    · rw [if_neg h] at e
      rw [lk_miss fun z => h (T.inj _ _ z)]
      exact getF_ok r2 e
theorem FRs.none {m : Str} : ∀ {fs : List (Nat × D)} {vs : List (Str × V)}, FRs T K G ι fs vs → (∀ p ∈ fs, T.fn p.1 ≠ m) → vs.lookup m = none
  | [], _, h, _ => by
    have h' : _ = [] := h
    subst h'
    rfl
  | (g, x) :: r, _, ⟨v, us, h, r1, r2⟩, n => by
    subst h
    rw [lk_miss (n (g, x) List.mem_cons_self)]
    exact FRs.none r2 fun p hp => n p (List.mem_cons_of_mem _ hp)
theorem putD_ok {f : Nat} {d : D} {v : V} (hd : DR T K G ι d v) : ∀ {fs : List (Nat × D)} {vs : List (Str × V)}, FRs T K G ι fs vs → FRs T K G ι (putD f d fs) (putF (T.fn f) v vs)
  | [], _, h => by
    have h' : _ = [] := h
    subst h'
    exact ⟨v, [], rfl, hd, rfl⟩
  | (g, x) :: r, _, ⟨u, us, h, r1, r2⟩ => by
    subst h
    unfold putD putF
    by_cases hg : g = f
    · subst hg
      rw [if_pos rfl, if_pos rfl]
      exact ⟨v, us, rfl, hd, r2⟩
    · rw [if_neg hg, if_neg fun z => hg (T.inj _ _ z)]
      exact ⟨u, _, rfl, r1, putD_ok hd r2⟩
theorem FRs.length : ∀ {fs : List (Nat × D)} {vs : List (Str × V)}, FRs T K G ι fs vs → fs.length = vs.length
  | [], _, h => by
    have h' : _ = [] := h
    subst h'
    rfl
  | (g, x) :: r, _, ⟨u, us, h, r1, r2⟩ => by
    subst h
    simp [FRs.length r2]
/-- an object's fields become a tree -/
theorem FRs.named : ∀ {fs : List (Nat × D)} {vs : List (Str × V)}, FRs T K G ι fs vs → ∃ us, vs = J.named T (fs.map (·.1)) us ∧ us.length = fs.length ∧ DRs T K G ι (fs.map (·.2)) us
  | [], _, h => by
    have h' : _ = [] := h
    subst h'
    exact ⟨[], rfl, rfl, DRs.nil⟩
  | (g, x) :: r, _, ⟨u, us, h, r1, r2⟩ => by
    subst h
    obtain ⟨ws, e, l, dr⟩ := FRs.named r2
    subst e
    exact ⟨u :: ws, rfl, by simp [l], DRs.cons r1 dr⟩
end
/-- what the text says of a class -/
structure ClsJ (T : Tab) (K : PySem.W.Frag) (c : Nat) : Prop where
  cl : Cls K (He.ga K (T.cn c))
  no : ∀ f ∈ T.fs c, NoAttr K (He.ga K (T.cn c)) (T.fn f)
/-- the class and the fields of an instance -/
def insOf (T : Tab) : D → Store → Option (Nat × List (Nat × D))
  | .ins c xs, _ => if xs.length = (T.fs c).length then some (c, (T.fs c).zip xs) else none
  | .ref n, S => match S.get n with
    | some (.ins c fs) => some (c, fs)
    | _ => none
  | _, _ => none
section
variable {T : Tab} {K : PySem.W.Frag} {ι : List Addr} {G : Hp}
theorem FRs.zip : ∀ {fs : List Nat} {xs : List D} {vs : List V}, DRs T K G ι xs vs → fs.length = xs.length → FRs T K G ι (fs.zip xs) (J.named T fs vs)
  | [], [], _, r, _ => by simp only [DRs] at r; subst r; rfl
  | f :: fs, x :: xs, _, r, h => by
    simp only [DRs] at r
    obtain ⟨v, us, rfl, r1, r2⟩ := r
    exact ⟨v, _, rfl, r1, FRs.zip r2 (by simpa using h)⟩
  | [], _ :: _, _, _, h => by simp at h
  | _ :: _, [], _, _, h => by simp at h
theorem insOf_ok {F : Hp} {S : Store} {H : Hp} {x : D} {v : V} {c : Nat} {fs : List (Nat × D)} (em : Em T K F S ι G H) (h : DR T K G ι x v) (e : insOf T x S = some (c, fs)) : ∃ a dx vs, v = .ref a ∧ H a = some (.ins (He.ga K (T.cn c)) dx vs) ∧ FRs T K G ι fs vs := by
  cases x with
  | ins c' xs =>
    simp only [insOf] at e
    split at e
    · rename_i hl
      cases e
      simp only [DR] at h
      obtain ⟨a, dx, vs, rfl, l, q, r⟩ := h
      exact ⟨a, dx, _, rfl, em.sub _ _ q, FRs.zip r hl.symm⟩
    · cases e
  | ref n =>
    simp only [insOf] at e
    cases q : S.get n with
    | none => (rw [q] at e); exact nomatch e
    | some o =>
      rw [q] at e
      cases o with
      | ins c' fs' =>
        cases e
        obtain ⟨a, u, rfl, ha, hu, dx, vs, rfl, r⟩ := obj_at em h q
        exact ⟨a, dx, vs, rfl, hu, r⟩
      | _ => cases e
  | _ => cases e
end
/-! ### e.f -/
def iFld (T : Tab) (cs : List Nat) (f : Nat) (ie : IE) : IE := fun ρ => M.bind (ie ρ) fun d => fun S => match insOf T d S with
  | some (c, fs) => if cs.contains c = true then lift (getF f fs) S else .no
  | none => .no
section
variable {T : Tab} {X : Cx} {W : WX} {e : Expr} {ie : IE} {cs : List Nat} {f : Nat} {x : Str} {pos : Pos}
theorem je_fld (he : JE T X W e ie) (hc : ∀ c ∈ cs, ClsJ T X.K c ∧ f ∈ T.fs c) (hx : x = T.fn f) (hb : attributeBase e x X.env (eval e X.env) = eval e X.env := by rfl) : JE T X W (.Attribute e x pos) (iFld T cs f ie) := by
  refine PE.mono (pe_fld he hb) fun σ H Q ⟨ρ, F, S, ι, G, em, sr, h⟩ => ?_
  refine ⟨ρ, F, S, ι, G, em, sr, Thn.bind (rel2 := DR T X.K) h fun d S1 v ι1 G1 H1 em1 x1 dr h1 => ?_⟩
  cases q : insOf T d S1 with
  | none => simp only [q] at h1; exact h1.elim
  | some p =>
    obtain ⟨c, fs⟩ := p
    simp only [q] at h1
    split at h1
    · rename_i hm
      obtain ⟨y, e2, h2⟩ := Thn.lift h1
      obtain ⟨a, dx, vs, rfl, ha, r⟩ := insOf_ok em1 dr q
      obtain ⟨u, hu, ru⟩ := getF_ok r e2
      obtain ⟨C, hf⟩ := hc c (by simpa using hm)
      subst hx
      exact ⟨a, _, dx, vs, u, rfl, ha, C.cl, C.no f hf, hu, Thn.ok h2 em1 ru⟩
    · exact h1.elim
end
/-! ### e.f = v -/
def sSetA (T : Tab) (cs : List Nat) (f : Nat) (ie io : IE) : IS := fun ρ => sBind (ie ρ) ρ fun v => sBind (io ρ) ρ fun o => fun S => match o with
  | .ref n => (match S.get n with
    | some (.ins c fs) => if (cs.contains c && decide (fs.length < 100)) = true then .ok (.nx ρ) (S.set n (.ins c (putD f v fs))) else .no
    | _ => .no)
  | _ => .no
section
variable {T : Tab} {X : Cx} {W : WX} {o value : Expr} {io ie : IE} {cs : List Nat} {f : Nat} {x : Str} {pos pos' : Pos}
theorem js_setA (ho : JE T X W o io) (hv : JE T X W value ie) (hc : ∀ c ∈ cs, ClsJ T X.K c ∧ f ∈ T.fs c) (hx : x = T.fn f) (hs : swapsWith value (some (.Attribute o x pos')) pos.line X.env = pure false := by rfl) : JS T X W (.Assign [.Attribute o x pos'] value pos) (sSetA T cs f ie io) := by
  refine PS.mono (ps_fld ho hv hs) fun D σ H ⟨ρ, F, S, ι, G, em, sr, h⟩ => ⟨ρ, F, S, ι, G, em, sr, ThnS.bind (rel := DR T X.K) h sr fun d S1 v ι1 G1 H1 em1 x1 dr h1 => ?_⟩
  refine ⟨ρ, F, S1, ι1, G1, em1, sr.mono x1, ThnS.bind (rel := DR T X.K) h1 (sr.mono x1) fun ob S2 vo ι2 G2 H2 em2 x2 d2 h2 => ?_⟩
  cases ob with
  | ref n =>
    cases q : S2.get n with
    | none => simp only [q] at h2; exact h2.elim
    | some u =>
      cases u with
      | ins c fs =>
        simp only [q] at h2
        split at h2
        · rename_i hm
          rw [Bool.and_eq_true_iff] at hm
          obtain ⟨a, u, rfl, ha, hu, dx, vs, rfl, r⟩ := obj_at em2 d2 q
          obtain ⟨C, hf⟩ := hc c (by simpa using hm.1)
          have hl : fs.length < 100 := of_decide_eq_true hm.2
          subst hx
          refine ⟨a, _, dx, vs, rfl, hu, C.cl, C.no f hf, by rw [← r.length]; omega, ?_⟩
          exact h2 _ _ _ _ (em2.set (by rw [q]; rfl) ha ⟨dx, _, rfl, putD_ok (dr.mono x2.1 x2.2) r⟩) (Ext.refl _ _) ((sr.mono x1).mono x2)
        · exact h2.elim
      | _ => simp only [q] at h2; exact h2.elim
  | _ => exact h2.elim
end
/-! ### C(..) -/
/-- __init__ of a class -/
def GoodI (P : Program) (w : World) (T : Tab) (K : PySem.W.Frag) (mg : Str → Option Value) (base : Heap) (k : Nat) (c : Nat) (ps : List Str) (sem : List D → M D) : Prop :=
  ∃ f fd, FnG P w K mg base k f fd ps (spJ T K ps.length sem) ∧ Binds K fd ps [] ∧ Mk K (He.ga K (T.cn c)) f ∧ mg (T.cn c) = some (.ref (He.ga K (T.cn c)))
/-- what is made: a tree (frz) or an object of the store -/
def madeD (T : Tab) (frz : Bool) (c n : Nat) : M D := fun S => if frz = true then (match S.get n with
    | some (.ins c' fs) => if c' = c ∧ fs.map (·.1) = T.fs c then .ok (.ins c (fs.map (·.2))) (S.del n) else .no
    | _ => .no) else .ok (.ref n) S
def makeD (T : Tab) (frz : Bool) (c k : Nat) (sem : List D → M D) (xs : List D) : M D := fun S => if xs.length + 1 = k then (match sem (.ref S.next :: xs) (S.alloc (.ins c [])) with
    | .ok .non S' => madeD T frz c S.next S'
    | .ex c fs S' => .ex c fs S'
    | _ => .no) else .no
def iMake (T : Tab) (frz : Bool) (c k : Nat) (sem : List D → M D) (ia : IA) : IE := fun ρ => M.bind (ia ρ) (makeD T frz c k sem)
theorem made_ok {T : Tab} {K : PySem.W.Frag} {F : Hp} {S : Store} {ι : List Addr} {G H : Hp} {W : WX} {σ : L2.St} {Q : VK} {frz : Bool} {c n : Nat} {a : Addr} (em : Em T K F S ι G H) (ha : ι[n]? = some a) (h : Thn T K F W σ G ι (DR T K) (madeD T frz c n S) Q) : Q (.ref a) H := by
  unfold madeD at h
  cases frz with
  | false => exact Thn.ok h em (by simp only [DR]; exact ⟨a, ha, rfl⟩)
  | true =>
    rw [if_pos rfl] at h
    cases q : S.get n with
    | none => rw [q] at h; exact h.elim
    | some o =>
      rw [q] at h
      cases o with
      | ins c' fs =>
        dsimp only at h
        split at h
        · rename_i hc
          obtain ⟨a', u, h1, h2, ⟨dx, vs, rfl, r⟩, em2, x2⟩ := em.freeze q
          rw [ha] at h1
          cases h1
          obtain ⟨us, e1, e2, dr⟩ := (r.mono x2.1 x2.2).named
          refine h _ _ _ _ em2 x2 ?_
          simp only [DR]
          refine ⟨a, dx, us, rfl, ?_, ?_, dr⟩
          · rw [← hc.2, List.length_map]
            exact e2.symm
          · rw [upd_same, ← hc.2, ← e1, hc.1]
        · exact h.elim
      | _ => exact h.elim
section
variable {T : Tab} {X : Cx} {W : WX} {e : Expr} {es : List Expr} {ia : IA} {pos p : Pos} {sem : List D → M D} {x : Str} {ps : List Str} {k c : Nat} {frz : Bool}
theorem make_g {pins : List (Addr × Obj)} {σ : L2.St} {H : Hp} {s : Shared} {Q : VK} {us : List Value} {vs : List V} {f : Addr} {fd : FuncData} {F : Hp} {S : Store} {ι : List Addr} {G : Hp} {xs : List D}
    (Fg : FnG X.prog X.w X.K X.mg X.base k f fd ps (spJ T X.K ps.length sem)) (hb : Binds X.K fd ps []) (mk : Mk X.K (He.ga X.K (T.cn c)) f) (hr : Rg (k + 1) X.A) (tk : Takes X W) (I : Inv X pins σ H s) (r : Vals vs us)
    (em : Em T X.K F S ι G H) (dr : DRs T X.K G ι xs vs) (h : Thn T X.K F W σ G ι (DR T X.K) (makeD T frz c ps.length sem xs S) Q) : wpAny (model X.prog X.w) X.A (call (.ref (He.ga X.K (T.cn c))) us) (EP X pins σ Q) X.xe s := by
  unfold makeD at h
  by_cases hl : xs.length + 1 = ps.length
  case neg => rw [if_neg hl] at h; exact h.elim
  rw [if_pos hl] at h
  have I2 := Inv.made (C := He.ga X.K (T.cn c)) I
  have n0 : H s.heap.objs.size = none := I.hok.fresh (Nat.le_refl _)
  have n1 : (upd H s.heap.objs.size (.own (s.heap.objs.size + 1))) (s.heap.objs.size + 1) = none := by
    rw [upd_ne (Nat.succ_ne_self _)]
    exact I.hok.fresh (Nat.le_succ _)
  obtain ⟨em2, x2, hn⟩ := (em.junk (o := .own (s.heap.objs.size + 1)) n0).alloc (o := .ins c []) (u := .ins (He.ga X.K (T.cn c)) s.heap.objs.size []) n1 ⟨_, _, rfl, rfl⟩
  have want : spJ T X.K ps.length sem (.ref (s.heap.objs.size + 1) :: vs) (upd (upd H s.heap.objs.size (.own (s.heap.objs.size + 1))) (s.heap.objs.size + 1) (.ins (He.ga X.K (T.cn c)) s.heap.objs.size []))
      (fun v H2 => v = .non ∧ Q (.ref (s.heap.objs.size + 1)) H2) (fun cl d H => W cl d σ H) := by
    refine ⟨by rw [List.length_cons, ← dr.length]; exact hl, .ref S.next :: xs, F, _, _, G, em2, DRs.cons (by simp only [DR]; exact ⟨_, hn, rfl⟩) (dr.mono x2.1 x2.2), ?_⟩
    cases q : sem (.ref S.next :: xs) (S.alloc (.ins c [])) with
    | no => rw [q] at h; exact h.elim
    | ex c' fs S' =>
      rw [q] at h
      exact fun dd ι' G' H' em' y xr => h dd ι' G' H' em' (x2.trans y) xr
    | ok d S' =>
      rw [q] at h
      cases d with
      | non =>
        intro v ι' G' H' em' y dv
        simp only [DR] at dv
        exact ⟨dv, made_ok em' (y.2 _ _ hn) (Thn.ext h (x2.trans y))⟩
      | _ => exact h.elim
  have r2 : Vals (V.ref (s.heap.objs.size + 1) :: vs) (Value.ref (s.heap.objs.size + 1) :: us) := by exact .cons rfl r
  have ll : (Value.ref (s.heap.objs.size + 1) :: us ++ []).length = ps.length := by
    have e := r2.length
    rw [Fg.len _ _ _ _ want] at e
    rw [List.append_nil]
    exact e.symm
  have bt := hb _ (Value.ref (s.heap.objs.size + 1) :: us) I2.kIn ll
  rw [List.append_nil] at bt
  have gd : (X.A.under (.builtin "type.__call__" ⟨.ref (He.ga X.K (T.cn c)) :: us, []⟩)).guards = some [] := by
    first | exact hr.g | (simpa [Around.under, Code.guards, Code.isGuard, guardIds, pushGuards] using hr.g)
  refine wpAny_call (make_map (f := f) I.kIn mk.makes mk.init (beq_iff_eq.mp mk.fn) (codeAny_mono (Fg.run _ X.stack _ _ _ _ _ _ _ (hr.r.make _ us []) gd (I2.env0.make _ us []) bt r2 want) fun rs s' z => ?_))
  cases rs with
  | error e => exact tk e s' (XE.of_call (W := W) I2 (fun _ _ _ h => h) z)
  | ok fl =>
    cases fl with
    | ret u =>
      obtain ⟨v, H', I3, rv, ev, q3⟩ := I2.after z
      subst ev
      exact ⟨rv, V.ref (s.heap.objs.size + 1), H', I3, rfl, q3⟩
    | _ => exact False.elim z
/-- C(e, ..) -/
theorem je_make (g : GoodI X.prog X.w T X.K X.mg X.base k c ps sem) (frz : Bool) (hr : Rg (k + 1) X.A) (hx : x = T.cn c) (hg : Gl X x) (tk : Takes X W) (ha : JA T X W (e :: es) ia) (hdb : (x == ("__debug__" : Str)) = false := by decide)
    (he : starEach (e :: es) X.env = (false, eval e X.env) :: starEach es X.env := by rfl) (hpl : (backTo pos (starEach es X.env)).any (·.1) = false := by rfl) : JE T X W (.Call (.Name x p) (e :: es) [] pos) (iMake T frz c ps.length sem ia) := by
  obtain ⟨f, fd, Fg, b, mk, m⟩ := g
  subst hx
  constructor; intro pins s σ H Q I hq
  have key : tA T X.K W ia σ H fun vs H1 => ∃ xs F S ι G, Em T X.K F S ι G H1 ∧ DRs T X.K G ι xs vs ∧ Thn T X.K F W σ G ι (DR T X.K) (makeD T frz c ps.length sem xs S) Q := by
    obtain ⟨ρ, F, S, ι, G, em, sr, h⟩ := hq
    exact ⟨ρ, F, S, ι, G, em, sr, Thn.bind (rel2 := DRs T X.K) h fun xs S1 vs ι1 G1 H1 em1 x1 dr h1 => ⟨xs, F, S1, ι1, G1, em1, dr, h1⟩⟩
  refine wpAny_Call_Name_kw (ld_glob I hg m ?_ hdb)
  refine PySem.W.callWith_K (h₀ := X.base) I.ok.mod.kin mk.kp (thn (ha.run pos pins s σ H _ I key) ?_) he hpl
  rintro us s1 ⟨vs, H1, I1, r, xs, F, S, ι, G, em, dr, h⟩
  exact ⟨I1.kIn, make_g Fg b mk hr tk I1 r em dr h⟩
end
end J
set_option Elab.async false
set_option linter.all false
set_option maxRecDepth 100000
set_option maxHeartbeats 410000
/-! JA: ghosts, constants of the module, small things -/
namespace J
open PySem PySem.Spec L2
def sNever : IS := fun _ => M.no
section
variable {T : Tab} {X : Cx} {W : WX} {st : Stmt} {rest : List Stmt} {ir : IS} {pos : Pos}
theorem js_never : JS T X W st sNever := PS.mono ps_never fun D σ H ⟨ρ, F, S, ι, G, em, sr, h⟩ => h.elim
/-- a list (a dict) that will not change any more -/
def frzO : MO → Option D
  | .lst xs => some (.lst xs)
  | .dct kvs => some (.dct (kvs.map (·.1)) (kvs.map (·.2)))
  | .dcT kvs => some (.dcu (kvs.map (·.1)) (kvs.map (·.2)))
  | _ => none
def sFrz (i : Nat) : IS := fun ρ S => match ρ.getD i none with
  | some (.ref n) => (match (S.get n).bind frzO with
    | some d => .ok (.nx (ρ.set i (some d))) (S.del n)
    | none => .no)
  | _ => .no
theorem keyed_of {K : PySem.W.Frag} {G : Hp} {ι : List Addr} : ∀ {kvs : List (Ky × D)} {vs : List (Key × V)}, KRs T K G ι kvs vs → ∃ us, vs = keyed (kvs.map (·.1)) us ∧ us.length = kvs.length ∧ DRs T K G ι (kvs.map (·.2)) us
  | [], _, h => by
    have h' : _ = [] := h
    subst h'
    exact ⟨[], rfl, rfl, DRs.nil⟩
  | (g, x) :: r, _, ⟨u, us, h, r1, r2⟩ => by
    subst h
    obtain ⟨ws, e, l, dr⟩ := keyed_of r2
    subst e
    exact ⟨u :: ws, rfl, by simp [l], DRs.cons r1 dr⟩
theorem keyedT_of {K : PySem.W.Frag} {G : Hp} {ι : List Addr} : ∀ {kvs : List (List Ky × D)} {vs : List (List Key × V)}, TRs T K G ι kvs vs → ∃ us, vs = keyedT (kvs.map (·.1)) us ∧ us.length = kvs.length ∧ DRs T K G ι (kvs.map (·.2)) us
  | [], _, h => by
    have h' : _ = [] := h
    subst h'
    exact ⟨[], rfl, rfl, DRs.nil⟩
  | (g, x) :: r, _, ⟨u, us, h, r1, r2⟩ => by
    subst h
    obtain ⟨ws, e, l, dr⟩ := keyedT_of r2
    subst e
    exact ⟨u :: ws, rfl, by simp [l], DRs.cons r1 dr⟩
theorem pss_lock {X : Cx} {sts : List Stmt} {t : TS} (h : PSs X sts t) : PSs X sts (fun D σ H => t D σ H ∨ ∃ d u, H d = some u ∧ Mut (some u) ∧ ∀ od, t D σ (upd H d (.frz od u))) := by
  refine ⟨fun pins sh σ H D I hw => ?_⟩
  rcases hw with hw | ⟨d, u, hd, mu, hw⟩
  · exact h.run pins sh σ H D I hw
  · obtain ⟨od, I1⟩ := I.lock hd mu
    exact h.run pins sh σ _ D I1 (hw od)
theorem set_self {σ : L2.St} {i : Nat} {v : V} (hv : σ[i]? = some (some v)) : σ.set i (some v) = σ := by
  apply List.ext_getElem?
  intro j
  rw [List.getElem?_set]
  by_cases hj : i = j
  · subst hj
    rw [if_pos rfl, hv]
    split
    · rfl
    · rename_i hl
      rw [List.getElem?_eq_none (by omega)] at hv
      cases hv
  · rw [if_neg hj]
theorem jss_frz {i : Nat} (h : JSs T X W rest ir) : JSs T X W rest (sSeq (sFrz i) ir) := by
  refine PSs.mono (pss_lock h) fun E σ H ⟨ρ, F, S, ι, G, em, sr, h⟩ => ?_
  unfold sSeq sFrz at h
  rw [List.getD_eq_getElem?_getD] at h
  cases q : ρ[i]? with
  | none => rw [q] at h; exact h.elim
  | some ox =>
    rw [q] at h
    cases ox with
    | none => exact h.elim
    | some d =>
      cases d with
      | ref n =>
        dsimp only [Option.getD] at h
        cases q2 : S.get n with
        | none => rw [q2] at h; exact h.elim
        | some o =>
          rw [q2] at h
          dsimp only [Option.bind_some] at h
          obtain ⟨v, hv, dv⟩ := sr.at_ i _ q
          simp only [DR] at dv
          obtain ⟨a, ha, rfl⟩ := dv
          cases o with
          | lst xs =>
            obtain ⟨a', u, h1, h2, ⟨vs, rfl, r⟩, em2, x2⟩ := em.freeze q2
            rw [ha] at h1
            cases h1
            refine .inl ⟨_, _, _, _, _, em2, ?_, ThnS.ext h x2⟩
            have k := (sr.mono x2).set (d := .lst xs) (v := .ref a) (by simp only [DR]; exact ⟨a, vs, rfl, upd_same, r.mono x2.1 x2.2⟩) i
            rw [set_self hv] at k
            exact k
          | dct kvs =>
            by_cases hk : kvs = []
            · subst hk
              obtain ⟨a', u, h1, h2, ⟨vs, rfl, r⟩, em2, x2⟩ := em.freeze q2
              rw [ha] at h1
              cases h1
              obtain rfl : vs = [] := r
              refine .inl ⟨_, _, _, _, _, em2, ?_, ThnS.ext h x2⟩
              have k := (sr.mono x2).set (d := .dct [] []) (v := .ref a) (by simp only [DR]; exact ⟨a, [], rfl, rfl, .inl ⟨trivial, upd_same⟩, DRs.nil⟩) i
              rw [set_self hv] at k
              exact k
            · obtain ⟨a', u, h1, h2, ⟨vs, rfl, r⟩, lk⟩ := em.freezeL q2
              rw [ha] at h1
              cases h1
              obtain ⟨us, rfl, l, dr⟩ := keyed_of r
              refine .inr ⟨a, _, h2, trivial, fun od => ?_⟩
              obtain ⟨em2, x2⟩ := lk (.frz od (.dK (keyed (kvs.map (·.1)) us))) rfl
              refine ⟨_, _, _, _, _, em2, ?_, ThnS.ext h x2⟩
              have k := (sr.mono x2).set (d := .dct (kvs.map (·.1)) (kvs.map (·.2))) (v := .ref a) (by
                simp only [DR]
                exact ⟨a, us, rfl, by rw [List.length_map]; exact l.symm, .inr ⟨by simpa using hk, od, upd_same⟩, dr.mono x2.1 x2.2⟩) i
              rw [set_self hv] at k
              exact k
          | dcT kvs =>
            obtain ⟨a', u, h1, h2, ⟨vs, rfl, r⟩, lk⟩ := em.freezeL q2
            rw [ha] at h1
            cases h1
            obtain ⟨us, rfl, l, dr⟩ := keyedT_of r
            refine .inr ⟨a, _, h2, trivial, fun od => ?_⟩
            obtain ⟨em2, x2⟩ := lk (.frz od (.dT (keyedT (kvs.map (·.1)) us))) rfl
            refine ⟨_, _, _, _, _, em2, ?_, ThnS.ext h x2⟩
            have k := (sr.mono x2).set (d := .dcu (kvs.map (·.1)) (kvs.map (·.2))) (v := .ref a) (by
              simp only [DR]
              exact ⟨a, od, us, rfl, by rw [List.length_map]; exact l.symm, upd_same, dr.mono x2.1 x2.2⟩) i
            rw [set_self hv] at k
            exact k
          | _ => exact h.elim
      | _ => exact h.elim
/-! ### constants of the module -/
theorem je_gint {x : Str} {i : Int} (hg : Gl X x) (hm : ∃ t, X.mg x = some (.int i t)) (hd : (x == ("__debug__" : Str)) = false := by decide) : JE T X W (.Name x pos) (iC (.int i)) := by
  obtain ⟨t, e⟩ := hm
  exact je_c (pe_glob (v := .int i) hg e ⟨t, rfl⟩ hd) fun _ _ => by simp only [DR]
theorem je_gstr {x : Str} {l : List Nat} (hg : Gl X x) (hm : ∃ t, X.mg x = some (.str ⟨l.toArray⟩ t)) (hd : (x == ("__debug__" : Str)) = false := by decide) : JE T X W (.Name x pos) (iC (.str l)) := by
  obtain ⟨t, e⟩ := hm
  exact je_c (pe_glob (v := .str ⟨l.toArray⟩) hg e ⟨t, rfl⟩ hd) fun _ _ => by simp only [DR]
end
theorem op_inD {X : Cx} : OpR X (compareOp .In) (fun x y H Q => (∃ (c : Nat) (z : Str), x = .str ⟨#[c]⟩ ∧ y = .str z ∧ Q (.bl (decide (c ∈ z.cps.toList))) H) ∨ rIn X.K false x y H Q) := OpR.or op_in_sign op_in_seq
end J
set_option Elab.async false
set_option linter.all false
set_option maxRecDepth 100000
set_option maxHeartbeats 410000
/-! JB: classes as values, isinstance, truth, sorted, str of an int, f-strings, zip -/
namespace J
open PySem PySem.Spec L2
section
variable {T : Tab} {X : Cx} {W : WX} {pos : Pos}
theorem je_ty {x : Str} {n : String} (hg : Gl X x) (hm : X.mg x = none) (hv : bootBuiltins x = some (.type n)) (hn : x ≠ "__name__" := by decide) (hd : (x == ("__debug__" : Str)) = false := by decide) : JE T X W (.Name x pos) (iC (.ty n)) :=
  je_c (pe_bltn (v := .ty n) hg hm hv rfl hn hd) fun _ _ => by simp only [DR]
theorem je_cls {x : Str} {c : Nat} (hg : Gl X x) (hm : X.mg (T.cn c) = some (.ref (He.ga X.K (T.cn c)))) (hx : x = T.cn c) (hd : (x == ("__debug__" : Str)) = false := by decide) : JE T X W (.Name x pos) (iC (.glo c)) := by
  subst hx
  exact je_c (pe_glob (v := .ref (He.ga X.K (T.cn c))) hg hm rfl hd) fun _ _ => by simp only [DR]
end
/-! ### isinstance -/
inductive Tg where
  | b (n : String) | o (c : Nat)
  deriving DecidableEq
def tagD : D → Store → Option Tg
  | .non, _ => some (.b "NoneType")
  | .bl _, _ => some (.b "bool")
  | .int _, _ => some (.b "int")
  | .str _, _ => some (.b "str")
  | .tup _, _ => some (.b "tuple")
  | .lst _, _ => some (.b "list")
  | .scr _, _ => some (.b "list")
  | .dct [] _, _ => some (.b "dict")
  | .ins c _, _ => some (.o c)
  | .ref n, S => (match S.get n with
    | some (.lst _) => some (.b "list")
    | some (.dct _) => some (.b "dict")
    | some (.dcT _) => some (.b "dict")
    | some (.ins c _) => some (.o c)
    | none => none)
  | _, _ => none
def Tg.v (T : Tab) (K : PySem.W.Frag) : Tg → Value
  | .b n => .type n
  | .o c => .ref (He.ga K (T.cn c))
/-- what isinstance asks of a class -/
structure ClsT (K : PySem.W.Frag) (C : Addr) : Prop where
  cl : Cls K C
  asks : PySem.W.findIn K (.ref C) "__class__" = some (some (.builtin "object.__class__")) ∧ PySem.W.specialIn K (.builtin "object.__class__") "__get__" = some (some (.builtin "getset_descriptor.__get__")) ∧
    PySem.W.takesIn K (.builtin "object.__class__") = some true ∧ PySem.W.mroIn K C (.type "object") = some true
def clsTB (K : PySem.W.Frag) (C : Addr) : Bool := PySem.W.plainGet K C Str.empty && (PySem.W.hasDictIn K C && (PySem.W.plainOver K C && (decide (PySem.W.findIn K (.ref C) "__setattr__" = some (some (.builtin "object.__setattr__"))) &&
  (decide (PySem.W.findIn K (.ref C) "__class__" = some (some (.builtin "object.__class__"))) && (decide (PySem.W.specialIn K (.builtin "object.__class__") "__get__" = some (some (.builtin "getset_descriptor.__get__"))) &&
    (decide (PySem.W.takesIn K (.builtin "object.__class__") = some true) && decide (PySem.W.mroIn K C (.type "object") = some true)))))))
theorem clsTB_ok {K : PySem.W.Frag} {C : Addr} (h : clsTB K C = true) : ClsT K C := by
  unfold clsTB at h
  simp only [decide_eq_true_eq, Bool.and_eq_true] at h
  obtain ⟨h1, h2, h3, h4, h5, h6, h7, h8⟩ := h
  exact ⟨⟨h1, h2, h3, h4⟩, h5, h6, h7, h8⟩
/-- cs: the classes whose instances are asked; tb: the answers that are not of two built-in types -/
structure IsK (T : Tab) (K : PySem.W.Frag) (cs : List Nat) (tb : List (Tg × Tg × Bool)) : Prop where
  cls : ∀ c ∈ cs, ClsT K (He.ga K (T.cn c))
  ans : ∀ p ∈ tb, PySem.W.kitOne K (p.1.v T K) (p.2.1.v T K) = some p.2.2
def lookT (t u : Tg) : List (Tg × Tg × Bool) → Option Bool
  | [] => none
  | p :: r => if p.1 = t ∧ p.2.1 = u then some p.2.2 else lookT t u r
theorem lookT_ok {t u : Tg} {b : Bool} : ∀ {tb : List (Tg × Tg × Bool)}, lookT t u tb = some b → (t, u, b) ∈ tb
  | [], h => nomatch h
  | p :: r, h => by
    unfold lookT at h
    split at h
    · rename_i e
      obtain ⟨x, y, z⟩ := p
      obtain ⟨rfl, rfl⟩ := e
      cases h
      exact List.mem_cons_self
    · exact List.mem_cons_of_mem _ (lookT_ok h)
def isiT (tb : List (Tg × Tg × Bool)) (t u : Tg) : Option Bool := match t, u with
  | .b a, .b c => kitB a c
  | _, _ => lookT t u tb
def okTg (cs : List Nat) : Tg → Bool
  | .b _ => true
  | .o c => cs.contains c
def clsOf : D → Option Tg
  | .ty n => some (.b n)
  | .glo c => some (.o c)
  | _ => none
def isiD (cs : List Nat) (tb : List (Tg × Tg × Bool)) : OpN := fun xs S => match xs with
  | [x, c] => (match tagD x S, clsOf c with
    | some t, some u => if okTg cs t = true then (isiT tb t u).map .bl else none
    | _, _ => none)
  | _ => none
section
variable {T : Tab} {K : PySem.W.Frag} {F : Hp} {S : Store} {ι : List Addr} {G H : Hp} {cs : List Nat} {tb : List (Tg × Tg × Bool)}
theorem isiT_ok (k : IsK T K cs tb) {t u : Tg} {b : Bool} (h : isiT tb t u = some b) : PySem.W.kitOne K (t.v T K) (u.v T K) = some b := by
  unfold isiT at h
  split at h
  · exact kit_ty h
  · exact k.ans _ (lookT_ok h)
theorem tag_ins {a dx : Addr} {fs : List (Str × V)} {c : Nat} (k : IsK T K cs tb) (h : cs.contains c = true) (e : H a = some (.ins (He.ga K (T.cn c)) dx fs)) : TyX K H (.ref a) (Tg.v T K (.o c)) := by
  have z := k.cls c (by simpa using h)
  exact .base (.ins e z.cl z.asks.1 z.asks.2.1 z.asks.2.2.1 z.asks.2.2.2)
theorem tag_ok (k : IsK T K cs tb) (em : Em T K F S ι G H) {x : D} {v : V} {t : Tg} (dx : DR T K G ι x v) (h : tagD x S = some t) (o : okTg cs t = true) : TyX K H v (t.v T K) := by
  cases x with
  | non => simp only [DR] at dx; subst dx; cases h; exact .base .non
  | bl b => simp only [DR] at dx; subst dx; cases h; exact .base (.bl _)
  | int i => simp only [DR] at dx; subst dx; cases h; exact .base (.int _)
  | str i => simp only [DR] at dx; subst dx; cases h; exact .base (.str _)
  | ty n => cases h
  | glo n => cases h
  | tup xs =>
    simp only [DR] at dx
    obtain ⟨a, vs, rfl, q, _⟩ := dx
    cases h
    exact .base (.tup (em.sub _ _ q))
  | lst xs =>
    simp only [DR] at dx
    obtain ⟨a, vs, rfl, q, _⟩ := dx
    cases h
    exact .base (.lst (em.sub _ _ q))
  | scr xs =>
    simp only [DR] at dx
    obtain ⟨a, vs, rfl, q, _⟩ := dx
    cases h
    rcases Same.seq em.sub q with (q | ⟨ob, q⟩) | ⟨ob, its, n, q, c, _⟩
    · exact .base (.lst q)
    · exact .base (.frz q)
    · exact .kList q c
  | dct ks xs =>
    simp only [DR] at dx
    obtain ⟨a, vs, rfl, _, q, _⟩ := dx
    cases ks with
    | nil =>
      cases h
      rcases q with ⟨_, q⟩ | ⟨n, _⟩
      · exact .base (.dK (em.sub _ _ q))
      · exact absurd rfl n
    | cons k ks => cases h
  | dcu ks xs => cases h
  | exn c fl xs => cases h
  | ins c xs =>
    simp only [DR] at dx
    obtain ⟨a, dd, vs, rfl, _, q, _⟩ := dx
    cases h
    exact tag_ins k o (em.sub _ _ q)
  | ref n =>
    unfold tagD at h
    dsimp only at h
    cases q : S.get n with
    | none => rw [q] at h; cases h
    | some ob =>
      rw [q] at h
      cases ob with
      | lst xs =>
        obtain ⟨a, u, rfl, ha, hu, vs, rfl, r⟩ := obj_at em dx q
        cases h
        exact .base (.lst hu)
      | dct xs =>
        obtain ⟨a, u, rfl, ha, hu, vs, rfl, r⟩ := obj_at em dx q
        cases h
        exact .base (.dK hu)
      | dcT xs =>
        obtain ⟨a, u, rfl, ha, hu, vs, rfl, r⟩ := obj_at em dx q
        cases h
        exact .base (.dT hu)
      | ins c fs =>
        obtain ⟨a, u, rfl, ha, hu, dd, vs, rfl, r⟩ := obj_at em dx q
        cases h
        exact tag_ins k o hu
theorem isiD_ok (k : IsK T K cs tb) : CaS T K (rIsi K) (isiD cs tb) := by
  intro F S ι G H xs d vs Q em dr e q
  match xs, dr, e with
  | [x, c], dr, e =>
    obtain ⟨v, w, rfl, r1, r2⟩ := dr.two
    unfold isiD at e
    dsimp only at e
    split at e
    · rename_i t u ht hu
      split at e
      · rename_i ok
        cases hb : isiT tb t u with
        | none => rw [hb] at e; cases e
        | some b =>
          rw [hb] at e
          cases e
          have hk := isiT_ok k hb
          have ty := tag_ok k em r1 ht ok
          have cv : ClsV w (u.v T K) := by
            cases c with
            | ty n => cases hu; simp only [DR] at r2; subst r2; exact .ty n
            | glo n => cases hu; simp only [DR] at r2; subst r2; exact .own _
            | _ => cases hu
          exact ⟨v, w, _, _, b, rfl, cv, ty, hk, q _ G H em (Ext.refl _ _) (by simp only [DR])⟩
      · cases e
    · cases e
  | [], _, e => cases e
  | [_], _, e => cases e
  | _ :: _ :: _ :: _, _, e => cases e
end
/-! ### truth -/
def truD : D → Store → Option Bool
  | .non, _ => some false
  | .bl b, _ => some b
  | .int i, _ => some (i != 0)
  | .str x, _ => if x.length ≤ 100000 then some (!x.isEmpty) else none
  | .lst xs, _ => some (!xs.isEmpty)
  | .scr xs, _ => some (!xs.isEmpty)
  | .tup xs, _ => some (!xs.isEmpty)
  | .dct [] [], _ => some false
  | .ref n, S => (match S.get n with
    | some (.lst xs) => some (!xs.isEmpty)
    | some (.dct xs) => some (!xs.isEmpty)
    | _ => none)
  | _, _ => none
theorem DRs.emp {T : Tab} {K : PySem.W.Frag} {G : Hp} {ι : List Addr} {xs : List D} {vs : List V} (r : DRs T K G ι xs vs) : (!xs.isEmpty) = !vs.isEmpty := by
  have := r.length
  cases xs <;> cases vs <;> simp_all
/-! ### str of an int, of a text -/
def digits (i : Int) : List Nat := (Str.ofString (toString i)).cps.toList
end J
set_option Elab.async false
set_option linter.all false
set_option maxRecDepth 100000
set_option maxHeartbeats 410000
/-! JC: what a class's own defs answer: properties, str, repr, ==, != ; a method by its class -/
namespace J
open PySem PySem.Spec L2
section
variable {T : Tab} {X : Cx} {W : WX} {k : Nat} {f : Addr} {fd : FuncData} {ps : List Str} {sem : List D → M D}
theorem Rg.in1 {k : Nat} {A : Around} (r : Rg (k + 1) A) : Rg k A.in1 := ⟨r.r.in1, r.g⟩
end
/-! ### built-ins that call -/
def iCM (f : List D → M D) (ia : IA) : IE := fun ρ => M.bind (ia ρ) f
def CaM (T : Tab) (K : PySem.W.Frag) (r : List V → Hp → VK → Prop) (f : List D → M D) : Prop := ∀ F S ι G H xs vs W σ (Q : VK), Em T K F S ι G H → DRs T K G ι xs vs → Thn T K F W σ G ι (DR T K) (f xs S) Q → r vs H Q
theorem CallR.or {X : Cx} {c : Value} {r r' : List V → Hp → VK → Prop} (h : CallR X c r) (h' : CallR X c r') : CallR X c (fun xs H Q => r xs H Q ∨ r' xs H Q) :=
  fun pins s σ H xs us Q I rv z => z.elim (h pins s σ H xs us Q I rv) (h' pins s σ H xs us Q I rv)
/-! ### str(x), repr(x), x an instance -/
/-! ### e.f, a property -/
def iProp (T : Tab) (c : Nat) (sem : List D → M D) (ie : IE) : IE := fun ρ => M.bind (ie ρ) fun d S => match insOf T d S with
  | some (c', _) => if c' = c then nox (sem [d]) S else .no
  | none => .no
end J
set_option Elab.async false
set_option linter.all false
set_option maxRecDepth 100000
set_option maxHeartbeats 410000
/-! JD: == and != by the class's own def; an instance's truth; zip, f-strings, three names at once, sorted texts -/
namespace J
open PySem PySem.Spec L2
/-! ### the machine's side of != -/
/-! ### operators that call -/
abbrev OpB := D → D → M D
def iOpM (f : OpB) (ia ib : IE) : IE := fun ρ => M.bind (ia ρ) fun x => M.bind (ib ρ) fun y => f x y
end J
set_option Elab.async false
set_option linter.all false
set_option maxRecDepth 100000
set_option maxHeartbeats 410000
/-! JE: an instance's truth; zip, f-strings, three names at once, sorted texts, keywords -/
namespace J
open PySem PySem.Spec L2 PyProof.Rows
/-! ### truth, instances among the values -/
structure PlainTru (K : PySem.W.Frag) (C : Addr) : Prop where
  b : PySem.W.findIn K (.ref C) "__bool__" = some none
  l : PySem.W.findIn K (.ref C) "__len__" = some none
def truO (T : Tab) (cs : List Nat) (d : D) (S : Store) : Option Bool := match insOf T d S with
  | some (c, _) => if cs.contains c = true then some true else none
  | none => truD d S
def iTr (T : Tab) (cs : List Nat) (ie : IE) : IT := fun ρ => M.bind (ie ρ) fun d => fun S => lift (truO T cs d S) S
/-! ### zip of two lists, of two tuples -/
def zipD : List D → List D → List D
  | x :: xs, y :: ys => .tup [x, y] :: zipD xs ys
  | _, _ => []
def zipOf : List D → Option (List D)
  | [.lst xs, .lst ys] => some (zipD xs ys)
  | [.tup xs, .tup ys] => some (zipD xs ys)
  | _ => none
def iZip (ia : IA) : IA := fun ρ => M.bind (ia ρ) fun xs => lift (zipOf xs)
theorem zipD_get : ∀ {xs ys : List D} {i : Nat} {d : D}, (zipD xs ys)[i]? = some d → ∃ x y, d = .tup [x, y] ∧ xs[i]? = some x ∧ ys[i]? = some y
  | [], _, i, d, h => by simp [zipD] at h
  | _ :: _, [], i, d, h => by simp [zipD] at h
  | x :: xs, y :: ys, 0, d, h => by
    have e : D.tup [x, y] = d := by simpa [zipD] using h
    exact ⟨x, y, e.symm, rfl, rfl⟩
  | x :: xs, y :: ys, i + 1, d, h => by
    have h' : (zipD xs ys)[i]? = some d := by simpa [zipD] using h
    simpa using zipD_get h'
theorem zipD_len : ∀ xs ys : List D, (zipD xs ys).length = min xs.length ys.length
  | [], ys => by simp [zipD]
  | _ :: _, [] => by simp [zipD]
  | x :: xs, y :: ys => by
    simp only [zipD, List.length_cons, zipD_len xs ys]
    omega
section
variable {T : Tab} {X : Cx} {W : WX} {ia : IA} {e e2 : Expr} {p pos tpos : Pos} {elts : List Expr} {kk : Nat}
theorem pair_dr {K : PySem.W.Frag} {F : Hp} {S : Store} {ι : List Addr} {G H : Hp} {q : Addr} {x y : D} {vx vy : V} (em : Em T K F S ι G H) (hq : H q = none) (dx : DR T K G ι x vx) (dy : DR T K G ι y vy) :
    ∃ G2, Em T K F S ι G2 (upd H q (.tup [vx, vy])) ∧ Ext G ι G2 ι ∧ DR T K G2 ι (.tup [x, y]) (.ref q) := by
  obtain ⟨em2, x2⟩ := em.frz (o := .tup [vx, vy]) hq
  exact ⟨_, em2, x2, by simp only [DR]; exact ⟨q, _, rfl, upd_same, DRs.cons (dx.mono x2.1 x2.2) (DRs.cons (dy.mono x2.1 x2.2) DRs.nil)⟩⟩
theorem walk_zipL {K : PySem.W.Frag} {ι : List Addr} {G : Hp} {a b : Addr} {xs ys : List D} {vs ws : List V} (ha : G a = some (.lst vs)) (hb : G b = some (.lst ws)) (r : DRs T K G ι xs vs) (r2 : DRs T K G ι ys ws) : Walk T K ι G (Itz K a b) (zipD xs ys) := by
  intro i F S ι1 G1 H1 em x
  have h1 : SqL K H1 a vs := SqL.of (em.sub _ _ (x.1 _ _ ha))
  have h2 : SqL K H1 b ws := SqL.of (em.sub _ _ (x.1 _ _ hb))
  refine ⟨fun d e => ?_, fun e => ⟨vs, ws, h1, h2, ?_⟩⟩
  · obtain ⟨dx, dy, rfl, ex, ey⟩ := zipD_get e
    obtain ⟨v, hv, dv⟩ := r.get ex
    obtain ⟨w, hw, dw⟩ := r2.get ey
    refine ⟨⟨vs, ws, v, w, h1, h2, hv, hw⟩, fun u H2 hy => ?_⟩
    obtain ⟨q, vx, vy, rfl, hq, rfl, f1, f2⟩ := hy
    have e1 := f1 vs h1
    have e2 := f2 ws h2
    rw [hv] at e1
    rw [hw] at e2
    cases e1
    cases e2
    exact pair_dr em hq (dv.mono x.1 x.2) (dw.mono x.1 x.2)
  · have := zipD_len xs ys
    have l1 := r.length
    have l2 := r2.length
    omega
theorem walk_zipT {K : PySem.W.Frag} {ι : List Addr} {G : Hp} {a b : Addr} {xs ys : List D} {vs ws : List V} (ha : G a = some (.tup vs)) (hb : G b = some (.tup ws)) (r : DRs T K G ι xs vs) (r2 : DRs T K G ι ys ws) : Walk T K ι G (RZ.ItzT K a b) (zipD xs ys) := by
  intro i F S ι1 G1 H1 em x
  have h1 : SqT K H1 a vs := SqT.of (em.sub _ _ (x.1 _ _ ha))
  have h2 : SqT K H1 b ws := SqT.of (em.sub _ _ (x.1 _ _ hb))
  refine ⟨fun d e => ?_, fun e => ⟨vs, ws, h1, h2, ?_⟩⟩
  · obtain ⟨dx, dy, rfl, ex, ey⟩ := zipD_get e
    obtain ⟨v, hv, dv⟩ := r.get ex
    obtain ⟨w, hw, dw⟩ := r2.get ey
    refine ⟨⟨vs, ws, v, w, h1, h2, hv, hw⟩, fun u H2 hy => ?_⟩
    obtain ⟨q, vx, vy, rfl, hq, rfl, f1, f2⟩ := hy
    have e1 := f1 vs h1
    have e2 := f2 ws h2
    rw [hv] at e1
    rw [hw] at e2
    cases e1
    cases e2
    exact pair_dr em hq (dv.mono x.1 x.2) (dw.mono x.1 x.2)
  · have := zipD_len xs ys
    have l1 := r.length
    have l2 := r2.length
    omega
theorem ji_zip (hg : Gl X "zip") (hm : X.mg "zip" = none) (ha : JA T X W [e, e2] ia) (hs : starEach [e, e2] X.env = (false, eval e X.env) :: starEach [e2] X.env := by rfl) (hpl : (backTo pos (starEach [e2] X.env)).any (·.1) = false := by rfl) :
    JI T X W (.Tuple elts kk tpos) (.Call (.Name "zip" p) [e, e2] [] pos) (iZip ia) := by
  refine PI.mono (RZ.pi_zipA hg hm ha hs hpl) fun σ H R ⟨ρ, F, S, ι, G, em, sr, h⟩ => ⟨ρ, F, S, ι, G, em, sr, ?_⟩
  unfold iZip M.bind at h
  cases q : ia ρ S with
  | no => rw [q] at h; exact h.elim
  | ex c fs S1 => rw [q] at h; exact h
  | ok xs S1 =>
    rw [q] at h
    intro vs ι1 G1 H1 em1 x1 dr
    dsimp only at h
    unfold lift at h
    unfold zipOf at h
    split at h
    · rename_i zs hz
      split at hz
      · rename_i xs ys
        cases hz
        obtain ⟨v, w, rfl, r1, r2⟩ := dr.two
        simp only [DR] at r1 r2
        obtain ⟨a, us, rfl, ha, ra⟩ := r1
        obtain ⟨b, ws, rfl, hb, rb⟩ := r2
        exact ⟨a, b, us, ws, rfl, .inl ⟨SqL.of (em1.sub _ _ ha), SqL.of (em1.sub _ _ hb), h _ ι1 G1 H1 em1 x1 (walk_zipL ha hb ra rb)⟩⟩
      · rename_i xs ys
        cases hz
        obtain ⟨v, w, rfl, r1, r2⟩ := dr.two
        simp only [DR] at r1 r2
        obtain ⟨a, us, rfl, ha, ra⟩ := r1
        obtain ⟨b, ws, rfl, hb, rb⟩ := r2
        exact ⟨a, b, us, ws, rfl, .inr ⟨SqT.of (em1.sub _ _ ha), SqT.of (em1.sub _ _ hb), h _ ι1 G1 H1 em1 x1 (walk_zipT ha hb ra rb)⟩⟩
      · cases hz
    · exact h.elim
end
/-! ### f-strings -/
def fmtOf : D → Option (List Nat)
  | .str l => if l.length ≤ 100000 then some l else none
  | .int i => if i.natAbs.log2 < 1920 then some (digits i) else none
  | _ => none
def iFmt (ie : IE) : IE := fun ρ => M.bind (ie ρ) fun d => lift ((fmtOf d).map .str)
def joinF : List IE → List Nat → Rho → M (List Nat)
  | [], acc, _ => M.ret acc
  | i :: is, acc, ρ => M.bind (i ρ) fun d => match d with
    | .str l => if (acc ++ l).length ≤ 100000 then joinF is (acc ++ l) ρ else M.no
    | _ => M.no
def iJoin (is : List IE) : IE := fun ρ => M.bind (joinF is [] ρ) fun l => M.ret (.str l)
/-! ### three names at once -/
def sPar3 (i j l : Nat) (ia : IA) : IS := fun ρ => sBind (ia ρ) ρ fun xs => match xs with
  | [x, y, z] => M.ret (.nx (((ρ.set i (some x)).set j (some y)).set l (some z)))
  | _ => M.no
section
variable {T : Tab} {X : Cx} {W : WX} {pos : Pos}
theorem DRs.three {K : PySem.W.Frag} {G : Hp} {ι : List Addr} {x y z : D} {vs : List V} (h : DRs T K G ι [x, y, z] vs) : ∃ u v w, vs = [u, v, w] ∧ DR T K G ι x u ∧ DR T K G ι y v ∧ DR T K G ι z w := by
  simp only [DRs] at h
  obtain ⟨u, _, rfl, h1, v, _, rfl, h2, w, _, rfl, h3, rfl⟩ := h
  exact ⟨u, v, w, rfl, h1, h2, h3⟩
theorem js_par3 {i j l : Nat} {x y z : Str} {a b c : Expr} {ia : IA} {px py pz pt : Pos} {kt k2 pt2} (hc : X.calm = true) (hN : X.N.Nodup) (hi : X.N[i]? = some x) (hj : X.N[j]? = some y) (hl : X.N[l]? = some z) (hij : i ≠ j) (hil : i ≠ l) (hjl : j ≠ l)
    (hx : X.env.scope.names.lookup x = some .local) (hy : X.env.scope.names.lookup y = some .local) (hz : X.env.scope.names.lookup z = some .local) (ha : JA T X W [a, b, c] ia)
    (hw : swappedStores [.Tuple [.Name x px, .Name y py, .Name z pz] kt pt] (.Tuple [a, b, c] k2 pt2) X.env = pure (some [x, y, z]) := by rfl)
    (sole : swapsWithSole [.Tuple [.Name x px, .Name y py, .Name z pz] kt pt] (.Tuple [a, b, c] k2 pt2) pos.line X.env = pure false := by rfl) :
    JS T X W (.Assign [.Tuple [.Name x px, .Name y py, .Name z pz] kt pt] (.Tuple [a, b, c] k2 pt2) pos) (sPar3 i j l ia) := by
  refine PS.mono (L2.ps_par3 hc hN hi hj hl hij hil hjl hx hy hz ha hw sole) fun D σ H ⟨ρ, F, S, ι, G, em, sr, h⟩ => ⟨ρ, F, S, ι, G, em, sr, ThnS.bind (rel := DRs T X.K) h sr fun xs S1 vs ι1 G1 H1 em1 x1 r h1 => ?_⟩
  rcases xs with _ | ⟨d1, _ | ⟨d2, _ | ⟨d3, _ | ⟨d4, rest⟩⟩⟩⟩
  · exact h1.elim
  · exact h1.elim
  · exact h1.elim
  · obtain ⟨u, v, w, rfl, r1, r2, r3⟩ := r.three
    exact ⟨u, v, w, rfl, h1.nx em1 ((((sr.mono x1).set r1 i).set r2 j).set r3 l)⟩
  · exact h1.elim
end
end J
set_option Elab.async false
set_option linter.all false
set_option maxRecDepth 100000
set_option maxHeartbeats 410000
/-! JF: sorted texts, keywords -/
namespace J
open PySem PySem.Spec L2 PyProof.Rows
/-! ### texts in order -/
def insS (x : List Nat) : List (List Nat) → List (List Nat)
  | [] => [x]
  | y :: r => if ltCps y x = true then y :: insS x r else x :: y :: r
def sortS : List (List Nat) → List (List Nat)
  | [] => []
  | x :: r => insS x (sortS r)
theorem insS_perm (x : List Nat) : ∀ l, (insS x l).Perm (x :: l)
  | [] => .refl _
  | y :: r => by
    unfold insS
    split
    · exact ((insS_perm x r).cons y).trans (.swap x y r)
    · exact .refl _
theorem sortS_perm : ∀ l, (sortS l).Perm l
  | [] => .refl _
  | x :: r => (insS_perm x (sortS r)).trans ((sortS_perm r).cons x)
def LeS (a b : List Nat) : Prop := ltCps b a = false
theorem le_iff (a b : List Nat) : LeS a b ↔ ¬ b < a := by
  unfold LeS
  rw [ltCps_eq]
  simp
theorem lt_tri : ∀ a b : List Nat, a < b ∨ a = b ∨ b < a
  | [], [] => .inr (.inl rfl)
  | [], _ :: _ => .inl (List.nil_lt_cons ..)
  | _ :: _, [] => .inr (.inr (List.nil_lt_cons ..))
  | x :: a, y :: b => by
    rcases Nat.lt_trichotomy x y with h | h | h
    · exact .inl (List.cons_lt_cons_iff.mpr (.inl h))
    · subst h
      rcases lt_tri a b with k | k | k
      · exact .inl (List.cons_lt_cons_iff.mpr (.inr ⟨rfl, k⟩))
      · exact .inr (.inl (by rw [k]))
      · exact .inr (.inr (List.cons_lt_cons_iff.mpr (.inr ⟨rfl, k⟩)))
    · exact .inr (.inr (List.cons_lt_cons_iff.mpr (.inl h)))
theorem LeS.antisymm {a b : List Nat} (h : LeS a b) (k : LeS b a) : a = b := by
  rw [le_iff] at h k
  rcases lt_tri a b with z | z | z
  · exact absurd z k
  · exact z
  · exact absurd z h
theorem LeS.trans {a b c : List Nat} (h : LeS a b) (k : LeS b c) : LeS a c := by
  rw [le_iff] at *
  intro z
  rcases lt_tri a b with y | y | y
  · exact k (List.lt_trans z y)
  · subst y; exact k z
  · exact h y
theorem insS_sorted (x : List Nat) : ∀ l : List (List Nat), l.Pairwise LeS → (insS x l).Pairwise LeS
  | [], _ => List.pairwise_singleton ..
  | y :: r, h => by
    have ⟨h1, h2⟩ := List.pairwise_cons.mp h
    unfold insS
    split
    · rename_i lt
      refine List.pairwise_cons.mpr ⟨fun z hz => ?_, insS_sorted x r h2⟩
      rcases List.mem_cons.mp ((insS_perm x r).mem_iff.mp hz) with e | e
      · subst e
        rw [le_iff]
        rw [ltCps_eq] at lt
        exact List.lt_asymm (of_decide_eq_true lt)
      · exact h1 z e
    · rename_i lt
      have le : LeS x y := by simpa [LeS] using lt
      exact List.pairwise_cons.mpr ⟨fun z hz => (List.mem_cons.mp hz).elim (fun e => e ▸ le) fun e => le.trans (h1 z e), h⟩
theorem sortS_sorted : ∀ l : List (List Nat), (sortS l).Pairwise LeS
  | [] => .nil
  | x :: r => insS_sorted x _ (sortS_sorted r)
theorem sorted_eq : ∀ {l m : List (List Nat)}, l.Pairwise LeS → m.Pairwise LeS → l.Perm m → l = m
  | [], m, _, _, p => (List.nil_perm.mp p).symm
  | x :: l, [], _, _, p => absurd p (by simp)
  | x :: l, y :: m, h, k, p => by
    have ⟨h1, h2⟩ := List.pairwise_cons.mp h
    obtain ⟨k1, k2⟩ := List.pairwise_cons.mp k
    have e : x = y := by
      have a : x ∈ y :: m := p.mem_iff.mp (List.mem_cons_self ..)
      have b : y ∈ x :: l := p.mem_iff.mpr (List.mem_cons_self ..)
      rcases List.mem_cons.mp a with e | a
      · exact e
      · rcases List.mem_cons.mp b with e | b
        · exact e.symm
        · exact (h1 y b).antisymm (k1 x a)
    subst e
    rw [sorted_eq h2 k2 (List.Perm.cons_inv p)]
theorem rising_pw : ∀ (r : List Str) (p : Str), risingS p r = true → (p :: r).Pairwise fun a b => LeS a.cps.toList b.cps.toList
  | [], p, _ => List.pairwise_singleton ..
  | x :: r, p, h => by
    have h' : (!ltCps x.cps.toList p.cps.toList && risingS x r) = true := h
    have ⟨h1, h2⟩ := Bool.and_eq_true_iff.mp h'
    have ih := rising_pw r x h2
    have le : LeS p.cps.toList x.cps.toList := by simpa [LeS] using h1
    refine List.pairwise_cons.mpr ⟨fun z hz => ?_, ih⟩
    rcases List.mem_cons.mp hz with e | e
    · subst e; exact le
    · exact le.trans ((List.pairwise_cons.mp ih).1 z e)
theorem sortedS_pw : ∀ l : List Str, sortedS l = true → l.Pairwise fun a b => LeS a.cps.toList b.cps.toList
  | [], _ => .nil
  | x :: r, h => rising_pw r x h
def sortD : OpN := fun xs S => match xs with
  | [d] => (match seqL d S with
    | some l => (match strsOf l with
      | some ss => if ss.length < 64 then some (.lst ((sortS ss).map .str)) else none
      | none => none)
    | none => none)
  | _ => none
theorem str_of_cps (y : Str) : (⟨(y.cps.toList).toArray⟩ : Str) = y := by
  cases y
  simp
theorem strs_dr {T : Tab} {K : PySem.W.Frag} {G : Hp} {ι : List Addr} : ∀ ss : List (List Nat), DRs T K G ι (ss.map .str) ((ss.map fun l => (⟨l.toArray⟩ : Str)).map V.str)
  | [] => DRs.nil
  | x :: r => DRs.cons (by simp only [DR]) (strs_dr r)
theorem sort_same {ss : List (List Nat)} {ys : List Str} (p : ys.Perm (ss.map fun l => (⟨l.toArray⟩ : Str))) (h : sortedS ys = true) : ys = (sortS ss).map fun l => (⟨l.toArray⟩ : Str) := by
  have e : ys.map (fun y => y.cps.toList) = sortS ss := by
    refine sorted_eq (List.pairwise_map.mpr (sortedS_pw ys h)) (sortS_sorted ss) (((p.map _).trans ?_).trans (sortS_perm ss).symm)
    rw [List.map_map]
    exact List.Perm.of_eq ((List.map_congr_left fun l _ => by simp).trans (List.map_id ss))
  rw [← e, List.map_map]
  exact ((List.map_congr_left fun y _ => str_of_cps y).trans (List.map_id ys)).symm
theorem sortD_ok {T : Tab} {K : PySem.W.Frag} : CaS T K (rSortedS K) sortD := by
  intro F S ι G H xs d vs Q em dr e q
  rcases xs with _ | ⟨x, _ | ⟨y, r⟩⟩
  · cases e
  · obtain ⟨v, rfl, r⟩ := dr.one
    unfold sortD at e
    dsimp only at e
    cases h1 : seqL x S with
    | none => rw [h1] at e; cases e
    | some l =>
      rw [h1] at e
      dsimp only at e
      cases h2 : strsOf l with
      | none => rw [h2] at e; cases e
      | some ss =>
        rw [h2] at e
        dsimp only at e
        split at e
        · rename_i hl
          cases e
          obtain ⟨a, ws, rfl, ha, ra⟩ := seqL_ok em r h1
          have hw := strsOf_ok ra h2
          refine ⟨a, ss.map fun l => (⟨l.toArray⟩ : Str), rfl, by rw [← hw]; exact SqL.of ha, by rw [List.length_map]; exact hl, fun ys p perm so hp => ?_⟩
          have ey := sort_same perm so
          obtain ⟨em2, x2⟩ := em.frz (o := .lst (ys.map V.str)) hp
          refine q _ _ _ em2 x2 ?_
          simp only [DR]
          refine ⟨p, ys.map V.str, rfl, upd_same, ?_⟩
          rw [ey]
          exact strs_dr _
        · cases e
  · cases e
/-! ### keywords -/
def pickL {α : Type} (pm : List Nat) (l : List α) : List α := pm.filterMap fun i => l[i]?
theorem pick_vals {vs : List V} {us : List Value} (r : Vals vs us) : ∀ pm : List Nat, Vals (pickL pm vs) (pickL pm us)
  | [] => .nil
  | i :: pm => by
    have ih := pick_vals r pm
    unfold pickL at ih ⊢
    cases q : vs[i]? with
    | none =>
      have z : us[i]? = none := by
        rw [List.getElem?_eq_none_iff] at q ⊢
        rw [← r.length]
        exact q
      simp only [List.filterMap_cons, q, z]
      exact ih
    | some v =>
      obtain ⟨u, e, ru⟩ := r.get q
      simp only [List.filterMap_cons, q, e]
      exact .cons ru ih
theorem pick_drs {T : Tab} {K : PySem.W.Frag} {G : Hp} {ι : List Addr} {xs : List D} {vs : List V} (r : DRs T K G ι xs vs) : ∀ pm : List Nat, DRs T K G ι (pickL pm xs) (pickL pm vs)
  | [] => DRs.nil
  | i :: pm => by
    have ih := pick_drs r pm
    unfold pickL at ih ⊢
    cases q : xs[i]? with
    | none =>
      have z : vs[i]? = none := by
        rw [List.getElem?_eq_none_iff] at q ⊢
        rw [← r.length]
        exact q
      simp only [List.filterMap_cons, q, z]
      exact ih
    | some v =>
      obtain ⟨u, e, ru⟩ := r.get q
      simp only [List.filterMap_cons, q, e]
      exact DRs.cons ru ih
/-- a call of n values and the keywords ks: the parameters are found at the places pm -/
def BindsW (K : PySem.W.Frag) (fd : FuncData) (ps : List Str) (n : Nat) (ks : List Str) (pm : List Nat) : Prop := ∀ (s : Shared) (us ws : List Value), K.In s.heap → us.length = n → ws.length = ks.length → BindsTo s fd ⟨us, ks.zip ws⟩ (ps.zip (pickL pm (us ++ ws)))
theorem bindsW_of {K : PySem.W.Frag} {x qual : Str} {params : Arguments} {body : List Stmt} {scope : Scope} {kws : List (Str × V)} {f : Addr} {fd : FuncData} {ps : List Str} (F : FunD K x qual params body scope [] kws f fd) {n : Nat} {ks : List Str} {pm : List Nat}
    (h : ∀ (kV doc pm' : Value) (an : Option Addr) (cdv ct : Value) (us ws : List Value), us.length = n → ws.length = ks.length → bindArgs (PySem.W.fnOf x qual params body scope .none kV doc pm' an cdv ct) ⟨us, ks.zip ws⟩ = pure (ps.zip (pickL pm (us ++ ws)))) : BindsW K fd ps n ks pm := by
  obtain ⟨oc, od, dV, kV, doc, pm', an, cdv, ct, osl, rfl, lk, hcd, hD, hK⟩ := F.ex
  obtain ⟨_, rfl⟩ | ⟨e, _⟩ := hD
  · intro s us ws X l1 l2
    exact BindsTo.of_looks fun M => .of_pure (h kV doc pm' an cdv ct us ws l1 l2)
  · exact absurd rfl e
abbrev JK (T : Tab) (X : Cx) (W : WX) (ks : List Keyword) (ia : IA) : Prop := PK X ks (tA T X.K W ia)
theorem PK.mono {X : Cx} {e : List Keyword} {t t' : TA} (h : PK X e t) (k : ∀ σ H Q, t' σ H Q → t σ H Q) : PK X e t' := ⟨fun pos pins s σ H Q I q => h.run pos pins s σ H Q I (k σ H Q q)⟩
def GoodK (P : Program) (w : World) (T : Tab) (K : PySem.W.Frag) (mg : Str → Option Value) (base : Heap) (k : Nat) (x : Str) (ps : List Str) (sem : List D → M D) (n : Nat) (ks : List Str) (pm : List Nat) : Prop :=
  ∃ fd, FnG P w K mg base k (He.ga K x) fd ps (spJ T K ps.length sem) ∧ BindsW K fd ps n ks pm ∧ mg x = some (.ref (He.ga K x)) ∧ PySem.W.keepIn K (.ref (He.ga K x)) = true
section
variable {T : Tab} {X : Cx} {W : WX} {e : Expr} {ie : IE} {ik : IA} {kws : List Keyword} {nm : Option Str} {kpos p pos : Pos} {x : Str} {ps ks : List Str} {k n c : Nat} {pm : List Nat} {sem : List D → M D}
theorem jk_nil : JK T X W [] iNil := PK.mono pk_nil fun σ H Q ⟨ρ, F, S, ι, G, em, sr, h⟩ => Thn.ok h em DRs.nil
theorem jk_cons (ha : JE T X W e ie) (hr : JK T X W kws ik) : JK T X W (⟨nm, e, kpos⟩ :: kws) (iCons ie ik) := PK.mono (pk_cons ha hr) fun σ H Q h => cons_go (T := T) (X := X) (W := W) h
/-- f(k = v, ..) -/
def iCallK (n : Nat) (pm : List Nat) (sem : List D → M D) (ik : IA) : IE := fun ρ => M.bind (ik ρ) fun xs => if xs.length = n ∧ (pickL pm xs).length = pm.length then sem (pickL pm xs) else M.no
theorem je_callK0 (g : GoodK X.prog X.w T X.K X.mg X.base k x ps sem 0 ks pm) (hpm : pm.length = ps.length) (hr : Rg k X.A) (hg : Gl X x) (tk : Takes X W) (hkw : JK T X W kws ik)
    (named : (backToKw pos (keywordEach kws X.env)).all (·.1.isSome) = true := by rfl) (names : (backToKw pos (keywordEach kws X.env)).filterMap (·.1) = ks := by rfl) (hdb : (x == ("__debug__" : Str)) = false := by decide)
    (hpl : ((backTo pos (starEach [] X.env)).any (·.1) || (backToKw pos (keywordEach kws X.env)).any (·.1.isNone)) = false := by rfl) : JE T X W (.Call (.Name x p) [] kws pos) (iCallK ks.length pm sem ik) := by
  obtain ⟨fd, Fg, b, m, kp⟩ := g
  constructor; intro pins s σ H Q I hq
  have key : tA T X.K W ik σ H fun vs H1 => vs.length = ks.length ∧ spJ T X.K ps.length sem (pickL pm vs) H1 Q fun c d H => W c d σ H := by
    obtain ⟨ρ, F, S, ι, G, em, sr, h⟩ := hq
    refine ⟨ρ, F, S, ι, G, em, sr, Thn.bind (rel2 := DRs T X.K) h fun xs S1 vs ι1 G1 H1 em1 x1 dr h1 => ?_⟩
    by_cases hl : xs.length = ks.length ∧ (pickL pm xs).length = pm.length
    · rw [if_pos hl] at h1
      have dp := pick_drs dr pm
      exact ⟨dr.length.symm.trans hl.1, by rw [← dp.length, hl.2]; exact hpm, _, F, S1, ι1, G1, em1, dp, h1.slots fun _ _ _ z => z⟩
    · rw [if_neg hl] at h1
      exact h1.elim
  refine wpAny_Call_Name_kw (ld_glob I hg m ?_ hdb)
  refine PySem.W.callWith_KW0 (h₀ := X.base) I.ok.mod.kin kp named ?_ hpl
  refine thn (hkw.run pos pins s σ H _ I key) ?_
  rintro us s1 ⟨vs, H1, I1, r, hl, q⟩
  refine ⟨I1.kIn, ?_⟩
  rw [names]
  refine wpAny_call (codeAny_mono (run_g Fg hr tk I1 (b s1 [] us I1.kIn rfl (r.length.symm.trans hl)) (pick_vals r pm) q) fun rs s' z => ?_)
  cases rs with
  | error e => exact z
  | ok fl =>
    cases fl with
    | ret u => exact z
    | _ => exact z.elim
/-- C(k = v, ..): pm tells the places of __init__'s parameters behind self -/
def iMakeK (T : Tab) (frz : Bool) (c k n : Nat) (pm : List Nat) (sem : List D → M D) (ik : IA) : IE := fun ρ => M.bind (ik ρ) fun xs => if xs.length = n ∧ (pickL pm xs).length = pm.length then makeD T frz c k sem (pickL pm xs) else M.no
end
end J
set_option Elab.async false
set_option linter.all false
set_option maxRecDepth 100000
set_option maxHeartbeats 410000
/-! JG: one of two ways, methods of instances -/
namespace J
open PySem PySem.Spec L2 PyProof.Rows
theorem tk0 {X : Cx} : Takes X W0 := fun _ _ h => by
  obtain ⟨_, _, _, _, _, _, _, _, _, _, _, _, _, _, _, _, h⟩ := h
  exact h.elim
def orM (f g : List D → M D) : List D → M D := fun xs S => match f xs S with
  | .no => g xs S
  | r => r
theorem CaM.or {T : Tab} {K : PySem.W.Frag} {r r' : List V → Hp → VK → Prop} {f g : List D → M D} (h : CaM T K r f) (h' : CaM T K r' g) : CaM T K (fun xs H Q => r xs H Q ∨ r' xs H Q) (orM f g) := by
  intro F S ι G H xs vs W σ Q em dr t
  unfold orM at t
  cases q : f xs S with
  | no => rw [q] at t; exact .inr (h' F S ι G H xs vs W σ Q em dr t)
  | ok a S' => rw [q] at t; exact .inl (h F S ι G H xs vs W σ Q em dr (by rw [q]; exact t))
  | ex c fs S' => rw [q] at t; exact .inl (h F S ι G H xs vs W σ Q em dr (by rw [q]; exact t))
/-! ### o.m(e, ..) -/
/-- o is an instance of c; the def is called with it and the arguments -/
def iMeth (T : Tab) (c m n : Nat) (sem : List D → M D) (io : IE) (ia : IA) : IE := fun ρ => M.bind (io ρ) fun o => fun S => match insOf T o S with
  | some (c', fs) => if c' = c ∧ getF m fs = none then M.bind (ia ρ) (fun xs => if xs.length + 1 = n then sem (o :: xs) else M.no) S else .no
  | none => .no
end J
set_option Elab.async false
set_option linter.all false
set_option maxRecDepth 100000
set_option maxHeartbeats 410000
/-! JH: the head's facts by one Bool, the law's end -/
namespace J
open PySem PySem.Spec L2 PyProof.Rows
/-! ### the facts of the top -/
abbrev AlZ : Type := Bool × List He.FnW
/-- one def: where its function stands, what the text says of it -/
structure Df where
  at_ : PySem.W.Frag → Addr
  name : Str
  qual : Str
  params : Arguments
  body : List Stmt
  scope : Scope
  dfl : List He.Dv := []
  kwd : List (Str × He.Dv) := []
def Df.val (d : Df) : He.FnW := some (d.name, d.qual, d.params, .stmts d.body, d.scope, mainGlobals, [], builtinsNs)
def Df.dvs (K : PySem.W.Frag) (d : Df) : List V := d.dfl.map (He.Dv.v K)
def Df.kws (K : PySem.W.Frag) (d : Df) : List (Str × V) := d.kwd.map fun q => (q.1, q.2.v K)
def fdAt (K : PySem.W.Frag) (a : Addr) : Option FuncData := match K.lookup a with
  | some ⟨_, _, .func fd, _⟩ => some fd
  | _ => none
def seenF (K : PySem.W.Frag) (a : Addr) : He.FnW := (fdAt K a).map fun fd => (fd.name, fd.qualname, fd.params, fd.body, fd.scope, fd.globals, fd.closure, fd.builtins)
def Df.ok (K : PySem.W.Frag) (d : Df) : Bool := PySem.W.keepIn K (.ref (d.at_ K)) && (match fdAt K (d.at_ K) with
  | some fd => PySem.W.codeIn K fd.code d.qual && (He.dflB K fd.defaults (d.dvs K) && He.kwdB K fd.kwdefaults (d.kws K))
  | none => false)
abbrev Df.Fun (K : PySem.W.Frag) (d : Df) (fd : FuncData) : Prop := FunD K d.name d.qual d.params d.body d.scope (d.dvs K) (d.kws K) (d.at_ K) fd
theorem Df.fun_of {K : PySem.W.Frag} {d : Df} (e : seenF K (d.at_ K) = d.val) (c : d.ok K = true) : ∃ fd, d.Fun K fd := by
  obtain ⟨kp, c⟩ := Bool.and_eq_true_iff.mp c
  cases q : (K.lookup (d.at_ K)) with
  | none =>
    have z : fdAt K (d.at_ K) = none := by simp only [fdAt, q]
    rw [z] at c
    cases c
  | some o =>
    obtain ⟨oc, od, dt, osl⟩ := o
    cases dt with
    | func fd =>
      have z : fdAt K (d.at_ K) = some fd := by simp only [fdAt, q]
      unfold seenF at e
      rw [z] at c e
      obtain ⟨a1, a2, a3, a4, a5, a6, a7, a8, a9, a10, a11, a12, a13, a14, a15⟩ := fd
      have e2 : (some (a1, a2, a3, a4, a5, a6, a7, a15) : He.FnW) = d.val := e
      unfold Df.val at e2
      simp only [Prod.mk.injEq, Option.some.injEq] at e2
      obtain ⟨e1, e2, e3, e4, e5, e6, e7, e8⟩ := e2
      subst e1 e2 e3 e4 e5 e6 e7 e8
      obtain ⟨k1, k2⟩ := Bool.and_eq_true_iff.mp c
      obtain ⟨k3, k4⟩ := Bool.and_eq_true_iff.mp k2
      exact ⟨_, ⟨oc, od, a8, a9, a10, a11, a12, a13, a14, osl, rfl, q, k1, He.dflB_ok k3, He.kwdB_ok k4⟩, kp⟩
    | _ =>
      have z : fdAt K (d.at_ K) = none := by simp only [fdAt, q]
      rw [z] at c
      cases c
/-- the getter of a property -/
def pa (K : PySem.W.Frag) (C : Addr) (m : Str) : Addr := match PySem.W.recIn K (He.ma K C m) "property" with
  | some (.ref g :: _) => g
  | _ => 0
def obsZ (ex : PySem.W.Frag → Bool) (fn : List Df) (K : PySem.W.Frag) : AlZ := (ex K && fn.all (fun d => d.ok K), fn.map fun d => seenF K (d.at_ K))
structure SaysZ (ex : PySem.W.Frag → Bool) (fn : List Df) (K : PySem.W.Frag) : Prop where
  fact : ex K = true
  defs : ∀ d ∈ fn, ∃ fd, d.Fun K fd
theorem saysZ_of {ex : PySem.W.Frag → Bool} {fn : List Df} {K : PySem.W.Frag} (h : obsZ ex fn K = (true, fn.map Df.val)) : SaysZ ex fn K := by
  obtain ⟨h1, h2⟩ := Prod.mk.inj h
  obtain ⟨h3, h4⟩ := Bool.and_eq_true_iff.mp h1
  refine ⟨h3, fun d hd => ?_⟩
  exact Df.fun_of (List.map_inj_left.mp h2 d hd) (List.all_eq_true.mp h4 d hd)
/-! ### the law's end -/
section
variable {P : Program} {w : World} {K : PySem.W.Frag} {mg mb : Str → Option Value} {k : Nat} {fa a : Addr} {fd : FuncData} {x : Str} {sp : Sp} {s1 : Shared} {vs : List Value} {ns : List Int}
/-- what is wanted of the call -/
abbrev Told (s1 : Shared) : Result → Shared → Prop := fun r s' => r = .ok (.ret (.bool true)) ∧ OldK s1.heap s'.heap ∧ s'.os = s1.os ∧ AllBare s'.gens
/-- the tables of code objects: c a code object, P its table, empty, not told in K -/
structure TabFacts (K : PySem.W.Frag) (h : Heap) (cs : List (Addr × Addr)) : Prop where
  empty : ∀ p ∈ cs, h.get? p.2 = some { cls := .none, data := .fields #[] }
  out : ∀ p ∈ cs, K.lookup p.2 = none
  code : ∀ p ∈ cs, PySem.W.CodeHd h p.1 p.2
/-- the module that __builtins__ names -/
abbrev BmAt (mg : Str → Option Value) (h : Heap) : Prop := ∃ (bm : Addr) (ob : Obj), mg "__builtins__" = some (.ref bm) ∧ bm ≠ builtinsNs ∧ h.get? bm = some ob ∧ ob.cls = .type "module" ∧ ob.dict = some builtinsNs ∧ ob.data = .plain
/-- what stands in the abstract heap at the law's call -/
structure Start (K : PySem.W.Frag) (cs : List (Addr × Addr)) (a : Addr) (H : Hp) : Prop where
  tab : ∀ p ∈ cs, H p.2 = some (.tbl #[])
  one : ∀ b u, H b = some u → (b = a ∧ ∃ o xs, u = .frz o (.lst xs)) ∨ ((∃ p ∈ cs, b = p.2) ∧ u = .tbl #[])
  out : H a ≠ none → K.lookup a = none
theorem law_from {H : Hp} {cs : List (Addr × Addr)} (KX : K.In s1.heap) (gl : s1.heap.Ns mainGlobals mg) (bl : s1.heap.Ns builtinsNs mb) (bb : ∀ y : Str, y ≠ "__name__" → mb y = bootBuiltins y) (nl : s1.heap.NoLimit) (gn : s1.gens = #[]) (tf : TabFacts K s1.heap cs) (bmA : BmAt mg s1.heap)
    (ha : s1.heap.get? a = some { cls := .type "list", data := .seq vs.toArray }) (hr : Room k callerA)
    (F : ∀ base : Heap, K.In base → base.Ns mainGlobals mg → (∀ p ∈ cs, LamX.TabB base mg p.1 p.2) → FnG P w K mg base k fa fd [x] sp) (bd : ∀ (s : Shared) (u : Value), BindsTo s fd ⟨[u], []⟩ [(x, u)])
    (want : sp [.ref a] H (fun v _ => v = .bl true) fun _ _ _ => False) (st : Start K cs a H) (hok : HOk P w H s1.heap) :
    codeAny (model P w) callerA (.call (.ref fa) ⟨[.ref a], []⟩) (Told s1) s1 := by
  -- an object that is neither a list nor an empty record is not tracked
  have free : ∀ {b : Addr} {o : Obj}, s1.heap.get? b = some o → (∀ l n, o.data ≠ .seq l n) → o.data ≠ .fields #[] → H b = none := by
    intro b o e n1 n2
    rcases Option.eq_none_or_eq_some (H b) with q | ⟨u, q⟩
    · exact q
    · rcases st.one b u q with ⟨z, _⟩ | ⟨⟨p, hp, z⟩, _⟩
      · rw [z, ha] at e
        cases e
        exact absurd rfl (n1 _ _)
      · rw [z, tf.empty p hp] at e
        cases e
        exact absurd rfl n2
  have space : ∀ {b : Addr} {m : Str → Option Value}, s1.heap.Ns b m → (hidT s1.heap H).Ns b m := by
    rintro b m ⟨o, es, n, e, d, r⟩
    exact ⟨o, es, n, hidT_get e (free e (fun _ _ z => by rw [d] at z; cases z) (fun z => by rw [d] at z; cases z)), d, r⟩
  have KB : K.In (hidT s1.heap H) := by
    intro b o e
    refine hidT_get (KX b o e) ?_
    rcases Option.eq_none_or_eq_some (H b) with q | ⟨u, q⟩
    · exact q
    · rcases st.one b u q with ⟨z, _⟩ | ⟨⟨p, hp, z⟩, _⟩
      · rw [z] at e q
        rw [st.out (fun y => by rw [q] at y; cases y)] at e
        cases e
      · rw [z, tf.out p hp] at e
        cases e
  have TBs : ∀ p ∈ cs, LamX.TabB (hidT s1.heap H) mg p.1 p.2 := by
    intro p hp
    have hP := tf.empty p hp
    constructor
    · obtain ⟨o, us, r0, r1, r2, r3, r4, r5, r6, g, c1, c2, rest⟩ := tf.code p hp
      refine ⟨o, us, r0, r1, r2, r3, r4, r5, r6, hidT_get g (free g (fun _ _ z => by rw [c2] at z; cases z) (fun z => ?_)), c1, c2, rest⟩
      rw [c2] at z
      cases z
      have := rest.1
      simp at this
    · obtain ⟨bm, ob, y1, y2, y3, y4, y5, y6⟩ := bmA
      refine ⟨bm, ob, y1, y2, fun z => ?_, fun z => ?_, hidT_get y3 (free y3 (fun _ _ z => by rw [y6] at z; cases z) (fun z => by rw [y6] at z; cases z)), y4, y5, y6⟩
      · obtain ⟨o, es, n, g, d, _⟩ := gl
        rw [z, g] at y3
        cases y3
        rw [y6] at d
        cases d
      · rw [z, hP] at y3
        cases y3
        cases y6
    · intro z
      obtain ⟨o, es, n, g, d, _⟩ := gl
      rw [z, hP] at g
      cases g
      cases d
  obtain ⟨mc, l1, l2⟩ := nl
  have E0 : Env0 P w K mg (hidT s1.heap H) callerA [] s1 H := {
    frames := rfl, mod := ⟨KB, space gl, ⟨mb, space bl, bb⟩, ⟨mc, space l1, l2⟩⟩, bs := fun b o e => of_hidT e, bsz := Nat.le_of_eq (hidT_size _ _), funs := trivial,
    frf := fun b z => (List.not_mem_nil z).elim, hok := hok, bare := .of_eq gn }
  refine codeAny_mono ((F _ KB (space gl) TBs).run callerA [] s1 H ⟨[.ref a], []⟩ [.ref a] [.ref a] _ _ hr rfl E0 (bd s1 (.ref a)) (.cons rfl .nil) want) ?_
  intro r s' z
  match r, z with
  | .error e, z =>
    obtain ⟨_, _, _, _, _, _, _, _, _, _, _, _, f⟩ := z
    exact f.elim
  | .ok (.ret u), ⟨v, H', os, bare, un, hok', rv, q⟩ =>
    cases (show v = .bl true from q)
    cases (show u = Value.bool true from rv)
    -- a table grows, all else stays
    have end_ : ∀ b o, s1.heap.get? b = some o → s'.heap.get? b = some o ∨ (∃ p ∈ cs, b = p.2 ∧ o = { cls := .none, data := .fields #[] } ∧ ∃ more : Array Value, s'.heap.get? b = some { cls := .none, data := .fields more }) := by
      intro b o e
      rcases Option.eq_none_or_eq_some (H b) with q | ⟨w', q⟩
      · exact .inl (un.keep b o e q (fun z => by cases z) (fun z => by cases z))
      · rcases st.one b w' q with ⟨_, ob, xs, rfl⟩ | ⟨⟨p, hp, rfl⟩, rfl⟩
        · have e1 := (hok b _ q).1
          rw [e] at e1
          cases e1
          exact .inl (hok' b _ (un.frzs b o _ q)).1
        · obtain ⟨more, g⟩ := un.tbls p.2 #[] q
          have e1 := tf.empty p hp
          rw [e] at e1
          exact .inr ⟨p, hp, rfl, Option.some.inj e1, _, hok' p.2 _ g⟩
    refine ⟨rfl, ⟨fun b o at1 => ?_, fun b o at1 => ?_⟩, os, bare⟩
    · rcases end_ b o at1 with g | ⟨p, hp, rfl, rfl, more, g⟩
      · exact .inl g
      · exact .inr (.inl ⟨((tf.code p hp).tab at1).isCodeTable, rfl, #[], more, rfl, by simpa using g⟩)
    · rcases end_ b o at1 with g | ⟨p, hp, rfl, rfl, more, g⟩
      · exact ⟨_, g⟩
      · exact ⟨_, g⟩
theorem law_to {cs : List (Addr × Addr)} (KX : K.In s1.heap) (gl : s1.heap.Ns mainGlobals mg) (bl : s1.heap.Ns builtinsNs mb) (bb : ∀ y : Str, y ≠ "__name__" → mb y = bootBuiltins y) (nl : s1.heap.NoLimit) (gn : s1.gens = #[]) (tf : TabFacts K s1.heap cs) (bmA : BmAt mg s1.heap)
    (ha : s1.heap.get? a = some { cls := .type "list", data := .seq vs.toArray }) (hi : IntsAre vs ns) (hl : ns.length ≤ sizeLine) (hr : Room k callerA)
    (F : ∀ base : Heap, K.In base → base.Ns mainGlobals mg → (∀ p ∈ cs, LamX.TabB base mg p.1 p.2) → FnG P w K mg base k fa fd [x] sp) (bd : ∀ (s : Shared) (u : Value), BindsTo s fd ⟨[u], []⟩ [(x, u)])
    (want : ∀ H : Hp, Start K cs a H → SqL K H a (ns.map V.int) → sp [.ref a] H (fun v _ => v = .bl true) fun _ _ _ => False) :
    codeAny (model P w) callerA (.call (.ref fa) ⟨[.ref a], []⟩) (Told s1) s1 := by
  have rv := vals_ints hi
  have sz : vs.length = ns.length := hi.length
  let tabs : List Addr := cs.map (·.2)
  have inT : ∀ {b : Addr}, b ∈ tabs → ∃ p ∈ cs, b = p.2 := fun hb => by
    obtain ⟨p, hp, same⟩ := List.mem_map.mp hb
    exact ⟨p, hp, same.symm⟩
  have ofT : ∀ {p : Addr × Addr}, p ∈ cs → p.2 ∈ tabs := fun hp => List.mem_map.mpr ⟨_, hp, rfl⟩
  have na : a ∉ tabs := fun z => by
    obtain ⟨p, hp, e⟩ := inT z
    rw [e, tf.empty p hp] at ha
    cases ha
  cases hk : K.lookup a with
  | some o =>
    have e := KX a o hk
    rw [ha] at e
    cases e
    let H : Hp := fun b => if b ∈ tabs then some (.tbl #[]) else none
    have get : ∀ b u, H b = some u → b ∈ tabs ∧ u = .tbl #[] := fun b u q => by
      by_cases hb : b ∈ tabs
      · rw [show H b = some (.tbl #[]) from if_pos hb] at q
        cases q
        exact ⟨hb, rfl⟩
      · rw [show H b = none from if_neg hb] at q
        cases q
    have st : Start K cs a H := ⟨fun p hp => if_pos (ofT hp), fun b u q => .inr ⟨inT (get b u q).1, (get b u q).2⟩, fun z => absurd (show H a = none from if_neg na) z⟩
    refine law_from (H := H) KX gl bl bb nl gn tf bmA ha hr F bd (want _ st (.inr ⟨_, vs.toArray, _, hk, rfl, rfl, rfl, by simpa [sz] using hl, by simpa using rv⟩)) st (fun b u q => ?_)
    obtain ⟨hb, rfl⟩ := get b u q
    obtain ⟨p, hp, rfl⟩ := inT hb
    exact tf.empty p hp
  | none =>
    let ob : Obj := { cls := .type "list", data := .seq vs.toArray }
    let H : Hp := fun b => if b ∈ tabs then some (.tbl #[]) else if b = a then some (.frz ob (.lst (ns.map V.int))) else none
    have Ha : H a = some (.frz ob (.lst (ns.map V.int))) := (if_neg na).trans (if_pos rfl)
    have get : ∀ b u, H b = some u → (b = a ∧ u = .frz ob (.lst (ns.map V.int))) ∨ (b ∈ tabs ∧ u = .tbl #[]) := fun b u q => by
      by_cases hb : b ∈ tabs
      · rw [show H b = some (.tbl #[]) from if_pos hb] at q
        cases q
        exact .inr ⟨hb, rfl⟩
      · by_cases hc : b = a
        · rw [hc, Ha] at q
          cases q
          exact .inl ⟨hc, rfl⟩
        · rw [show H b = none from (if_neg hb).trans (if_neg hc)] at q
          cases q
    have st : Start K cs a H := ⟨fun p hp => if_pos (ofT hp), fun b u q => (get b u q).imp (fun z => ⟨z.1, ob, _, z.2⟩) (fun z => ⟨inT z.1, z.2⟩), fun _ => hk⟩
    refine law_from (H := H) KX gl bl bb nl gn tf bmA ha hr F bd (want H st (.inl (.inr ⟨ob, Ha⟩))) st (fun b u q => ?_)
    rcases get b u q with ⟨rfl, rfl⟩ | ⟨hb, rfl⟩
    · exact ⟨ha, (List.length_map ..).symm ▸ hl, vs, _, rv, ha⟩
    · obtain ⟨p, hp, rfl⟩ := inT hb
      exact tf.empty p hp
end
/-- the law's call, from the facts of the top -/
theorem walk_g {l : PySem.W.OpenLaw} {n k : Nat} {q : Program} {loose : List Str} {XP : (Str → Option Value) → Heap → Prop} {YP : World → Heap → Prop} {d : DefRec} {x : Str} (hn : l.most = some n) (hn2 : n ≤ sizeLine) (hdf : d.params.defaults = []) (hr : Room k callerA)
    (F : ∀ (wd : World) (mg : Str → Option Value) (at_ : Addr) (hp : Heap), YP wd hp → hp.Ns mainGlobals mg → mg d.name = some (.ref at_) → ∃ (K : PySem.W.Frag) (fd : FuncData) (sp : Sp) (cs : List (Addr × Addr)), K.In hp ∧ TabFacts K hp cs ∧ (∀ (st : Shared) (u : Value), BindsTo st fd ⟨[u], []⟩ [(x, u)]) ∧
      (∀ (H : Hp) (p : Addr) (script : List Int), script.length ≤ n → Start K cs p H → SqL K H p (script.map V.int) → sp [.ref p] H (fun v _ => v = .bl true) fun _ _ _ => False) ∧ ∀ base : Heap, K.In base → base.Ns mainGlobals mg → (∀ p ∈ cs, LamX.TabB base mg p.1 p.2) → FnG l.prog wd K mg base k at_ fd [x] sp) : PySem.W.WalkO q loose XP YP l.row.toRowW d [] (fun f vs => PySem.call f vs) := by
  refine Att.attach_call hn hdf ?_
  intro w s0 s1 mg mb fa o pm cd doc a vs ns G Y ho hd hcd hmg hobj hints hlen hg
  rcases F w mg fa _ Y G.T.g hmg with ⟨K, fd, sp, cs, KX, tf, hb, hsp, hF⟩
  exact law_to KX G.T.g G.T.b G.T.builtins G.T.nolimit hg tf G.T.bmain hobj hints (Nat.le_trans hlen hn2) hr hF hb fun H st hS => hsp H a ns hlen st hS
theorem ints_dr {T : Tab} {K : PySem.W.Frag} {G : Hp} {ι : List Addr} : ∀ ns : List Int, DRs T K G ι (ns.map D.int) (ns.map V.int)
  | [] => DRs.nil
  | n :: r => DRs.cons (by simp only [DR]) (ints_dr r)
/-- no table -/
def offT (H : Hp) : Hp := fun b => match H b with
  | some (.tbl _) => none
  | o => o
theorem offT_sub (H : Hp) : Same (offT H) H := fun b u q => by
  unfold offT at q
  split at q
  · cases q
  · exact q
theorem offT_of {H : Hp} {b : Addr} {o : HO} (h : H b = some o) (n : noTab o = true) : offT H b = some o := by
  unfold offT
  rw [h]
  cases o <;> first | rfl | cases n
theorem offT_no (H : Hp) : ∀ b o, offT H b = some o → noTab o = true := fun b o q => by
  have e := offT_sub H b o q
  cases o with
  | tbl ps =>
    unfold offT at q
    rw [e] at q
    cases q
  | _ => rfl
theorem sq_off {K : PySem.W.Frag} {H : Hp} {a : Addr} {vs : List V} (h : SqL K H a vs) : SqL K (offT H) a vs := by
  rcases h with (told | ⟨o, told⟩) | inK
  · exact .inl (.inl (offT_of told rfl))
  · exact .inl (.inr ⟨o, offT_of told rfl⟩)
  · exact .inr inK
/-- the law's def, at the script -/
theorem law_sp {T : Tab} {K : PySem.W.Frag} {sem : List D → M D} {H : Hp} {a : Addr} {ns : List Int} {cs : List (Addr × Addr)} (st : Start K cs a H) (hT : ∀ q ∈ T.tabs K, ∃ p ∈ cs, q.1 = p.2) (hS : SqL K H a (ns.map V.int)) (S0 : Store) (hS0 : S0 = ⟨[], 0⟩) (h : ∃ S', sem [.scr (ns.map D.int)] S0 = .ok (.bl true) S') :
    spJ T K 1 sem [.ref a] H (fun v _ => v = .bl true) fun _ _ _ => False := by
  obtain ⟨S', h⟩ := h
  subst hS0
  refine ⟨rfl, [.scr (ns.map D.int)], fun _ => none, ⟨[], 0⟩, [], offT H, ?em, DRs.cons (by simp only [DR]; exact ⟨a, _, rfl, sq_off hS, ints_dr ns⟩) DRs.nil, ?th⟩
  case em =>
    refine { sub := offT_sub H, fr := (fun _ _ e => by cases e), len := rfl, nd := List.nodup_nil, old := (fun _ z => (List.not_mem_nil z).elim), oldP := (fun _ z => (List.not_mem_nil z).elim), obj := (fun n o e => by cases e), dis := (fun _ _ e => by cases e), tb := fun q hq => ?_, noG := offT_no H, noF := fun _ _ e => by cases e }
    obtain ⟨p, hp, e⟩ := hT q hq
    exact LamX.TabS.nil (by rw [e]; exact st.tab p hp)
  case th =>
    rw [h]
    intro v ι' G' H' em x r
    simpa only [DR] using r
/-! ### the facts of the top, the tables left out of K -/
def obsY (ex : PySem.W.Frag → Bool) (fn : List Df) (tf : List He.Defn) (g : Addr → Option Obj) (K : PySem.W.Frag) : AlZ := ((obsZ ex fn K).1 && He.tabsB g tf K, (obsZ ex fn K).2)
structure SaysY (ex : PySem.W.Frag → Bool) (fn : List Df) (tf : List He.Defn) (h : Heap) (K : PySem.W.Frag) : Prop where
  z : SaysZ ex fn K
  t : TabFacts K h (tf.map (He.cT K))
end J
set_option Elab.async false
set_option linter.all false
set_option maxRecDepth 100000
set_option maxHeartbeats 410000
/-! JI: tables of names, the facts' Bools -/
namespace J
open PySem PySem.Spec L2 PyProof.Rows
def nameAt (l : List Str) (i : Nat) : Str := match l[i]? with
  | some x => x
  | none => ⟨#[i]⟩
theorem nameAt_inj {l : List Str} (nd : l.Nodup) (no : ∀ x ∈ l, x.cps.size ≠ 1) (i j : Nat) (h : nameAt l i = nameAt l j) : i = j := by
  unfold nameAt at h
  cases a : l[i]? with
  | none =>
    cases b : l[j]? with
    | none =>
      rw [a, b] at h
      have h' : (#[i] : Array Nat) = #[j] := congrArg Str.cps h
      simpa using h'
    | some y =>
      rw [a, b] at h
      have h' : (⟨#[i]⟩ : Str) = y := h
      exact absurd (by rw [← h']; rfl) (no y (List.mem_of_getElem? b))
  | some x =>
    cases b : l[j]? with
    | none =>
      rw [a, b] at h
      have h' : x = (⟨#[j]⟩ : Str) := h
      exact absurd (by rw [h']; rfl) (no x (List.mem_of_getElem? a))
    | some y =>
      rw [a, b] at h
      have h' : x = y := h
      obtain ⟨hi, ei⟩ := List.getElem?_eq_some_iff.mp a
      obtain ⟨hj, ej⟩ := List.getElem?_eq_some_iff.mp b
      exact (List.getElem_inj nd).mp (by rw [ei, ej, h'])
def mkTab (cn fn : List Str) (fs : List (List Nat)) (nd : fn.Nodup) (no : ∀ x ∈ fn, x.cps.size ≠ 1) (tabs : PySem.W.Frag → List (Addr × Str) := fun _ => []) : Tab where
  cn := fun c => cn.getD c ⟨#[]⟩
  fn := nameAt fn
  fs := fun c => fs.getD c []
  inj := nameAt_inj nd no
  tabs := tabs
theorem noats {K : PySem.W.Frag} {C : Addr} (T : Tab) {c : Nat} (ids : List Nat) (e : T.fs c = ids) (h : ∀ n ∈ ids, NoAttr K C (T.fn n)) : ∀ f ∈ T.fs c, NoAttr K C (T.fn f) := by
  rw [e]
  exact h
def plainTB (K : PySem.W.Frag) (C : Addr) : Bool := decide (PySem.W.findIn K (.ref C) "__bool__" = some none) && decide (PySem.W.findIn K (.ref C) "__len__" = some none)
theorem plainTB_ok {K : PySem.W.Frag} {C : Addr} (h : plainTB K C = true) : PlainTru K C := by
  unfold plainTB at h
  simp only [decide_eq_true_eq, Bool.and_eq_true] at h
  exact ⟨h.1, h.2⟩
end J
set_option Elab.async false
set_option linter.all false
set_option maxRecDepth 100000
set_option maxHeartbeats 1010000
/-! JIr: the facts of the top over all its objects (no reaching from the globals) -/
namespace J
open PySem PySem.Spec L2
def seeA (n : Nat) (g : Addr → Option Obj) : PySem.W.Frag := He.frT g (List.range n)
theorem saysA_of {as : List Addr} {ex : PySem.W.Frag → Bool} {fn : List Df} {tf : List He.Defn} {h : Heap} (e : obsY ex fn tf h.get? (He.frT h.get? as) = (true, fn.map Df.val)) : (He.frT h.get? as).In h ∧ SaysY ex fn tf h (He.frT h.get? as) := by
  have inH : (He.frT h.get? as).In h := He.frT_in
  obtain ⟨e1, vals⟩ := Prod.mk.inj e
  obtain ⟨e3, e4⟩ := Bool.and_eq_true_iff.mp e1
  have each : ∀ d ∈ tf, PySem.W.codeHdIn (He.frT h.get? as) (He.cT (He.frT h.get? as) d).1 (He.cT (He.frT h.get? as) d).2 = true ∧ ∃ o, h.get? (He.cT (He.frT h.get? as) d).2 = some o ∧ He.emptyTab o = true := by
    intro d hd
    obtain ⟨y1, y2⟩ := Bool.and_eq_true_iff.mp (List.all_eq_true.mp e4 d hd)
    refine ⟨y1, ?_⟩
    rcases Option.eq_none_or_eq_some (h.get? (He.cT (He.frT h.get? as) d).2) with q | ⟨o, q⟩
    · rw [q] at y2
      cases y2
    · rw [q] at y2
      exact ⟨o, q, y2⟩
  refine ⟨inH, saysZ_of (Prod.ext e3 vals), fun p hp => ?_, fun p hp => ?_, fun p hp => ?_⟩
  · obtain ⟨d, hd, rfl⟩ := List.mem_map.mp hp
    obtain ⟨_, o, q, y⟩ := each d hd
    rw [q, He.emptyTab_eq y]
  · obtain ⟨d, hd, rfl⟩ := List.mem_map.mp hp
    obtain ⟨_, o, q, y⟩ := each d hd
    exact He.frT_none q y
  · obtain ⟨d, hd, rfl⟩ := List.mem_map.mp hp
    exact PySem.W.codeHd_of_K inH (each d hd).1
def hookA (ex : PySem.W.Frag → Bool) (fn : List Df) (tf : List He.Defn) : PySem.W.Hook where
  α := AlZ
  obs := fun s => obsY ex fn tf s.heap.get? (seeA s.heap.objs.size s.heap.get?)
  val := fun _ => (true, fn.map Df.val)
  says := fun _ h => ∃ K : PySem.W.Frag, K.In h ∧ SaysY ex fn tf h K
  of := fun _ _ e => ⟨_, saysA_of e⟩
  keeps := fun _ _ _ z k => z.elim fun K y => ⟨K, PySem.W.Frag.In.keeps y.1 k, y.2.z, fun p hp => k _ _ (y.2.t.empty p hp), y.2.t.out, fun p hp => (y.2.t.code p hp).keeps k⟩
def seeB (ex : PySem.W.Frag → Bool) (fn : List Df) (tf : List He.Defn) (s : PySem.W.SharedT) : AlZ := obsY ex fn tf (HandSHeadRun.getT s) (seeA s.n (HandSHeadRun.getT s))
theorem seeB_eq {ex : PySem.W.Frag → Bool} {fn : List Df} {tf : List He.Defn} (s : PySem.W.SharedT) : seeB ex fn tf s = (hookA ex fn tf).obs s.abs := by
  have q : HandSHeadRun.getT s = s.abs.heap.get? := funext (HandSHeadRun.getT_eq s)
  have z : s.n = s.abs.heap.objs.size := (PySem.W.absHeap_size s.tree s.n s.life).symm
  unfold seeB
  rw [q, z]
  rfl
end J
set_option Elab.async false
set_option linter.all false
set_option maxRecDepth 100000
set_option maxHeartbeats 4100000
namespace K19
open PySem L2 J
def top (i : Nat) : Stmt := PySem.Challenge.pw_guessmarks_k19_whole_letters_tried.main.body.getD i (.Pass ⟨0, 0, 0, 0⟩)
def inClass : Stmt → Nat → Stmt
  | .ClassDef (body := b) .., i => b.getD i (.Pass ⟨0, 0, 0, 0⟩)
  | s, _ => s
def TFD : List He.Defn := []
def TT : Tab := mkTab ["Board"] ["letters", "length", "board", "rows", "then", "without", "fits", "size", "word", "number"] [[0, 1]] (by decide) (by decide) (fun K => [])
theorem tab_of (K : PySem.W.Frag) : ∀ q ∈ TT.tabs K, ∃ p ∈ TFD.map (He.cT K), q.1 = p.2 := fun q hq => (List.not_mem_nil hq).elim
def CS : List Nat := [0]
def CT : List Nat := [0]
def TB : List (Tg × Tg × Bool) := [(.b "NoneType", .o 0, false), (.b "bool", .o 0, false), (.b "int", .o 0, false), (.b "str", .o 0, false), (.b "tuple", .o 0, false), (.b "list", .o 0, false), (.b "dict", .o 0, false), (.o 0, .o 0, true), (.o 0, .b "int", false), (.o 0, .b "str", false), (.o 0, .b "bool", false), (.o 0, .b "tuple", false), (.o 0, .b "list", false), (.o 0, .b "dict", false)]
abbrev s_bowl : Stmt := top 26
def df_bowl : Df := ⟨fun K => He.ga K "_law_bowl", "_law_bowl", "_law_bowl", defArgs s_bowl, defBody s_bowl, defScope s_bowl, [], []⟩
abbrev s_dip : Stmt := top 27
def df_dip : Df := ⟨fun K => He.ga K "_law_dip", "_law_dip", "_law_dip", defArgs s_dip, defBody s_dip, defScope s_dip, [], []⟩
abbrev s_signs : Stmt := top 29
def df_signs : Df := ⟨fun K => He.ga K "_law_signs", "_law_signs", "_law_signs", defArgs s_signs, defBody s_signs, defScope s_signs, [], []⟩
abbrev s_are_letters : Stmt := top 14
def df_are_letters : Df := ⟨fun K => He.ga K "are_letters", "are_letters", "are_letters", defArgs s_are_letters, defBody s_are_letters, defScope s_are_letters, [], []⟩
abbrev s_is_integer : Stmt := top 13
def df_is_integer : Df := ⟨fun K => He.ga K "is_integer", "is_integer", "is_integer", defArgs s_is_integer, defBody s_is_integer, defScope s_is_integer, [], []⟩
abbrev s_Board_init : Stmt := inClass (top 15) 0
def df_Board_init : Df := ⟨fun K => He.ma K (He.ga K "Board") "__init__", "__init__", "Board.__init__", defArgs s_Board_init, defBody s_Board_init, defScope s_Board_init, [], []⟩
abbrev s_of : Stmt := top 28
def df_of : Df := ⟨fun K => He.ga K "_law_of", "_law_of", "_law_of", defArgs s_of, defBody s_of, defScope s_of, [], []⟩
abbrev s_word : Stmt := top 30
def df_word : Df := ⟨fun K => He.ga K "_law_word", "_law_word", "_law_word", defArgs s_word, defBody s_word, defScope s_word, [], []⟩
abbrev s_guesses : Stmt := top 31
def df_guesses : Df := ⟨fun K => He.ga K "_law_guesses", "_law_guesses", "_law_guesses", defArgs s_guesses, defBody s_guesses, defScope s_guesses, [], []⟩
abbrev s_check_board : Stmt := top 17
def df_check_board : Df := ⟨fun K => He.ga K "check_board", "check_board", "check_board", defArgs s_check_board, defBody s_check_board, defScope s_check_board, [], []⟩
abbrev s_is_word : Stmt := top 16
def df_is_word : Df := ⟨fun K => He.ga K "is_word", "is_word", "is_word", defArgs s_is_word, defBody s_is_word, defScope s_is_word, [], []⟩
abbrev s_check_guesses : Stmt := top 20
def df_check_guesses : Df := ⟨fun K => He.ga K "check_guesses", "check_guesses", "check_guesses", defArgs s_check_guesses, defBody s_check_guesses, defScope s_check_guesses, [], []⟩
abbrev s_letters_tried : Stmt := top 21
def df_letters_tried : Df := ⟨fun K => He.ga K "letters_tried", "letters_tried", "letters_tried", defArgs s_letters_tried, defBody s_letters_tried, defScope s_letters_tried, [], []⟩
abbrev s_number_tried : Stmt := top 22
def df_number_tried : Df := ⟨fun K => He.ga K "number_tried", "number_tried", "number_tried", defArgs s_number_tried, defBody s_number_tried, defScope s_number_tried, [], []⟩
abbrev s_tried_of : Stmt := top 24
def df_tried_of : Df := ⟨fun K => He.ga K "tried_of", "tried_of", "tried_of", defArgs s_tried_of, defBody s_tried_of, defScope s_tried_of, [], []⟩
abbrev s_tried : Stmt := top 23
def df_tried : Df := ⟨fun K => He.ga K "tried", "tried", "tried", defArgs s_tried, defBody s_tried, defScope s_tried, [], []⟩
abbrev s_right : Stmt := top 32
def df_right : Df := ⟨fun K => He.ga K "_law_right", "_law_right", "_law_right", defArgs s_right, defBody s_right, defScope s_right, [], []⟩
abbrev s_law : Stmt := top 33
def df_law : Df := ⟨fun K => He.ga K "law", "law", "law", defArgs s_law, defBody s_law, defScope s_law, [], []⟩
def fn : List Df := [df_bowl, df_dip, df_signs, df_are_letters, df_is_integer, df_Board_init, df_of, df_word, df_guesses, df_check_board, df_is_word, df_check_guesses, df_letters_tried, df_number_tried, df_tried_of, df_tried, df_right, df_law]
def fa : List He.Fa := [.free "abs", .free "all", .free "any", .free "bool", .free "divmod", .free "enumerate", .free "int", .free "isinstance", .free "len", .free "max", .free "min", .free "range", .free "repr", .free "set", .free "sorted", .free "str", .free "tuple", .free "zip", .str "LETTERS" ⟨#[97, 98, 99, 100, 101, 102, 103, 104, 105, 106, 107, 108, 109, 110, 111, 112, 113, 114, 115, 116, 117, 118, 119, 120, 121, 122]⟩, .int "MOST_GUESSES" (20), .int "MOST_LENGTH" (6), .int "MOST_LETTERS" (26), .glo "Board", .cls "Board", .noat "Board" "letters", .noat "Board" "length", .glo "_law_bowl", .glo "_law_dip", .glo "_law_signs", .glo "are_letters", .glo "is_integer", .mkr "Board", .glo "_law_of", .glo "_law_word", .glo "_law_guesses", .glo "check_board", .glo "is_word", .glo "check_guesses", .glo "letters_tried", .glo "number_tried", .glo "tried_of", .glo "tried", .glo "_law_right", .glo "law"]
def ex (K : PySem.W.Frag) : Bool := (fa.all fun f => f.ok K) && ((CS.all fun c => clsTB K (He.ga K (TT.cn c))) && ((TB.all fun q => decide (PySem.W.kitOne K (q.1.v TT K) (q.2.1.v TT K) = some q.2.2)) && ((CT.all fun c => plainTB K (He.ga K (TT.cn c))))))
abbrev Rw : PySem.W.OpenRow := PySem.W.OpenLaw.row PySem.Challenge.rw_guessmarks_k19_whole_letters_tried
abbrev hk : PySem.W.Hook := hookA ex fn TFD
def loose : List Str := (["InputError", "NotABoard", "InvalidLetters", "InvalidLength", "InvalidWord", "InvalidNumber", "InvalidGuesses", "MOST_LENGTH", "MOST_LETTERS", "MOST_GUESSES", "LETTERS", "is_integer", "are_letters", "Board", "is_word", "check_board", "check_word", "check_guesses", "letters_tried", "number_tried", "tried", "tried_of", "_law_bowl", "_law_dip", "_law_of", "_law_signs", "_law_word", "_law_guesses", "_law_right"] : List Str)
theorem run (w : World) : HandSHeadRun.RunEq Rw (PySem.W.view Rw.prog [33]) hk (seeB ex fn TFD) 9000 loose w := by
  intro os
  kernel_rfl
end K19
set_option Elab.async false
set_option linter.all false
set_option maxRecDepth 100000
set_option maxHeartbeats 410000
/-! JK: methods of instances, called -/
namespace J
open PySem PySem.Spec L2 PyProof.Rows
end J
set_option Elab.async false
set_option linter.all false
set_option maxRecDepth 100000
set_option maxHeartbeats 410000
/-! JL: repr of data, tuple(..), list(..), max and min of a list -/
namespace J
open PySem PySem.Spec L2 PyProof.Rows
open Builtin in
/-- the built-in repr, by the type's own slot -/
theorem repr_slot {prog : Program} {w : World} {A : Around} {E : Value → Shared → Prop} {s : Shared} {T id : String} {v : Value} {Q : Value → Shared → Prop} (hu : A.in1.units < cLine) (hT : s.TypeIs v T) (slot : SlotG T "__repr__" id)
    (h : wpAny (model prog w) A.in1 (call (.builtin id) [v]) (fun r s' => ∃ x u, r = .str x u ∧ Q r s') E s) : wpAny (model prog w) A (call (.builtin "repr") [v]) Q E s := by
  apply Calls.call_function_entry F.kind_repr F.plain_repr F.entry_repr (F.args_repr1 _)
  unfold Builtin.«repr»
  apply wpAny_bind (m := oneArg "repr" _); apply wpAny_pure
  apply wpAny_bind; refine wpAny_cRoomFor hu ?_
  apply wpAny_bind; refine wpAny_specialOf (name := Str.ofString "__repr__") hT slot.lookup ?_
  refine wpAny_bind (m := callSpecialIfBound? v (Str.ofString "__repr__")) (wpAny_callSpecialIfBound?_slotG (name := Str.ofString "__repr__") hT slot (wpAny_mono h ?_ fun _ _ z => z))
  rintro r s' ⟨x, u, rfl, q⟩
  apply wpAny_bind; refine wpAny_isInstance (T := "str") (b := true) rfl isSubtype_str_str ?_
  exact wpAny_pure ⟨_, rfl, q⟩
theorem repr_reads {prog : Program} {w : World} {s : Shared} : ∀ {v : Value} {d : PyData} {as : List Addr}, Reads s.heap v d as → d.showable = true → d.hasDict = false → d.shown.length ≤ sizeLine →
    ∀ (A : Around) (E : Value → Shared → Prop) (Q : Value → Shared → Prop), A.guards = some [] → A.units + 66 < cLine → d.depth ≤ 64 →
    (∀ h' u tk, (∀ b o, s.heap.get? b = some o → h'.get? b = some o) → Q (.str d.shown u) { s with heap := h', toks := tk }) → wpAny (model prog w) A (call (.builtin "repr") [v]) Q E s
  | _, _, _, .none, _, _, _, A, E, Q, _, _, _, hQ => by
    rw [PyData.shown] at hQ
    exact P.repr_of_none (hQ s.heap _ _ fun _ _ e => e)
  | _, _, _, .bool b, _, _, _, A, E, Q, _, _, _, hQ => by
    rw [PyData.shown] at hQ
    exact P.repr_of_bool (by cases b <;> exact hQ s.heap _ _ fun _ _ e => e)
  | _, _, _, .int i t, hs, _, _, A, E, Q, _, _, _, hQ => by
    rw [PyData.shown] at hQ
    exact P.repr_of_int (by simpa [PyData.showable] using hs) (hQ s.heap _ _ fun _ _ e => e)
  | _, _, _, .str x t, _, _, hz, A, E, Q, _, _, _, hQ => by
    rw [PyData.shown] at hQ
    exact P.repr_of_str (hQ s.heap _ _ fun _ _ e => e) (by simpa only [PyData.shown] using hz)
  | _, _, _, .list (a := a) (vs := vs) (xs := xs) h1 h2 h3 h4, hs, hd, hz, A, E, Q, hg, hu, hdp, hQ => by
    have hz' : (listText (PyData.shownAll xs)).length ≤ sizeLine := by rw [PyData.shown] at hz; exact hz
    have hd' : PyData.hasDictAll xs = false := by simpa [PyData.hasDict] using hd
    obtain ⟨bs, hb, hk⟩ := ReprAllK.of_readsAll (prog := prog) (w := w) h4 (by simpa [PyData.showable] using hs) (fun hx => by rw [hd'] at hx; cases hx) (fun t ht => Nat.le_trans (listText_mem_le ht) hz')
    have hna : a ∉ bs := not_mem_of_deeper (Reads.list h1 h2 h3 h4) (by simp only [PyData.depth]; omega) hb
    simp only [PyData.depth] at hdp
    rw [PyData.shown] at hQ
    have hTy : s.TypeIs (.ref a) "list" := ⟨_, h1, h2⟩
    have hu1 : A.in1.units = A.units + 1 := rfl
    refine repr_slot (by omega) hTy F.slot_list_repr.toG ?_
    obtain ⟨l⟩ := vs
    cases l with
    | nil =>
      have h5 : ReadsAll s.heap [] xs _ := h4
      cases h5
      simp only [listText_nil, PyData.shownAll] at hQ
      exact call_list_repr_empty hTy h1 h3 ⟨_, _, rfl, hQ s.heap _ _ fun _ _ e => e⟩
    | cons x l => exact call_list_reprK h1 h2 h3 hna (by simpa using hk.length_eq) (fun i y e => hk.item i y (by simpa using e)) hg (fun b _ => Clear.nil b) (by omega) (fun _ _ e => e) (fun h' u tk k => ⟨_, _, rfl, hQ h' u tk k⟩) hz'
  | _, _, _, .tuple (a := a) (xs := xs) h1 h2 h3 h4, hs, hd, hz, A, E, Q, hg, hu, hdp, hQ => by
    have hz' : (tupleText (PyData.shownAll xs)).length ≤ sizeLine := by rw [PyData.shown] at hz; exact hz
    have hd' : PyData.hasDictAll xs = false := by simpa [PyData.hasDict] using hd
    obtain ⟨bs, hb, hk⟩ := ReprAllK.of_readsAll (prog := prog) (w := w) h4 (by simpa [PyData.showable] using hs) (fun hx => by rw [hd'] at hx; cases hx) (fun t ht => Nat.le_trans (tupleText_mem_le ht) hz')
    have hna : a ∉ bs := not_mem_of_deeper (Reads.tuple h1 h2 h3 h4) (by simp only [PyData.depth]; omega) hb
    simp only [PyData.depth] at hdp
    rw [PyData.shown] at hQ
    have hTy : s.TypeIs (.ref a) "tuple" := ⟨_, h1, h2⟩
    have hu1 : A.in1.units = A.units + 1 := rfl
    refine repr_slot (by omega) hTy F.slot_tuple_repr ?_
    exact call_tuple_reprK h1 h2 h3 hna hk hg (fun b _ => Clear.nil b) (by omega) (fun _ _ e => e) (fun h' u tk k => ⟨_, _, rfl, hQ h' u tk k⟩) hz'
  | _, _, _, .dict .., _, hd, _, _, _, _, _, _, _, _ => by simp [PyData.hasDict] at hd
end J
set_option Elab.async false
set_option linter.all false
set_option maxRecDepth 100000
set_option maxHeartbeats 410000
/-! JLz: repr of data that hold empty dicts -/
namespace J
open PySem PySem.Spec L2 PyProof.Rows
mutual
/-- read off the heap: data whose dicts are empty and none of them the modules' own -/
inductive Rz (h : Heap) : Value → PyData → Prop
  | non : Rz h .none .none
  | bl (b) : Rz h (.bool b) (.bool b)
  | num (i t) : Rz h (.int i t) (.int i)
  | txt (x t) : Rz h (.str x t) (.str x)
  | lst {a o vs n xs} : h.get? a = some o → o.cls = .type "list" → o.data = .seq vs n → RzAll h vs.toList xs → Rz h (.ref a) (.list xs)
  | tup {a o vs n xs} : h.get? a = some o → o.cls = .type "tuple" → o.data = .seq vs n → RzAll h vs.toList xs → Rz h (.ref a) (.tuple xs)
  | emp {a o n} : h.get? a = some o → o.cls = .type "dict" → o.data = .dict #[] n → (a == sysModules) = false → Rz h (.ref a) (.dict [])
inductive RzAll (h : Heap) : List Value → List PyData → Prop
  | nil : RzAll h [] []
  | cons {v vs d ds} : Rz h v d → RzAll h vs ds → RzAll h (v :: vs) (d :: ds)
end
mutual
theorem Rz.reads {h : Heap} : ∀ {v : Value} {d : PyData}, Rz h v d → ∃ as, Reads h v d as
  | _, _, .non => ⟨_, .none⟩
  | _, _, .bl b => ⟨_, .bool b⟩
  | _, _, .num i t => ⟨_, .int i t⟩
  | _, _, .txt x t => ⟨_, .str x t⟩
  | _, _, .lst h1 h2 h3 h4 => let ⟨_, r⟩ := RzAll.reads h4; ⟨_, .list h1 h2 h3 r⟩
  | _, _, .tup h1 h2 h3 h4 => let ⟨_, r⟩ := RzAll.reads h4; ⟨_, .tuple h1 h2 h3 r⟩
  | _, _, .emp h1 h2 h3 _ => ⟨_, .dict (kvs := []) h1 h2 h3 .nil .nil⟩
theorem RzAll.reads {h : Heap} : ∀ {v : List Value} {d : List PyData}, RzAll h v d → ∃ as, ReadsAll h v d as
  | _, _, .nil => ⟨_, .nil⟩
  | _, _, .cons h1 h2 => let ⟨_, r⟩ := Rz.reads h1; let ⟨_, q⟩ := RzAll.reads h2; ⟨_, .cons r q⟩
end
theorem empty_text : dictText [] = PyData.shown (.dict []) := by simp only [PyData.shown, PyData.shownKv]
variable {h₀ : Heap} {w : World} {prog : Program}
mutual
theorem Rz.says : ∀ {v : Value} {d : PyData}, Rz h₀ v d → d.showable = true → d.shown.length ≤ sizeLine → ∃ bs, ReadAtMost h₀ d.depth bs ∧ ReprK prog w bs h₀ d.depth v d.shown
  | _, _, .non, s, z => ReprK.of_reads .none s (by simp [PyData.hasDict]) z
  | _, _, .bl b, s, z => ReprK.of_reads (.bool b) s (by simp [PyData.hasDict]) z
  | _, _, .num i t, s, z => ReprK.of_reads (.int i t) s (by simp [PyData.hasDict]) z
  | _, _, .txt x t, s, z => ReprK.of_reads (.str x t) s (by simp [PyData.hasDict]) z
  | _, _, .emp (a := a) h1 h2 h3 h4, _, z => by
    have r : Reads h₀ (.ref a) (.dict []) _ := .dict (kvs := []) h1 h2 h3 .nil .nil
    refine ⟨[a], ReadAtMost.cons (n := 0) r (Nat.zero_le _) (fun _ q => nomatch q), ?_⟩
    rw [← empty_text]
    exact ReprK.dict (as := []) h1 h2 h3 h4 (by simp) .nil
  | _, _, .lst (a := a) (vs := vs) (xs := xs) h1 h2 h3 h4, s, z => by
    have z1 : (listText (PyData.shownAll xs)).length ≤ sizeLine := by rw [PyData.shown] at z; exact z
    obtain ⟨bs, k1, k2⟩ := RzAll.says h4 (by simpa only [PyData.showable] using s) fun t m => Nat.le_trans (listText_mem_le m) z1
    obtain ⟨_, r⟩ := RzAll.reads h4
    have r1 := Reads.list h1 h2 h3 r
    have na : a ∉ bs := not_mem_of_deeper r1 (Nat.lt_succ_of_le (Nat.le_of_eq (by rfl))) k1
    refine ⟨a :: bs, ReadAtMost.cons r1 (Nat.le_succ_of_le (Nat.le_of_eq (by rfl))) k1, ?_⟩
    rw [PyData.shown, PyData.depth]
    rcases vs with ⟨_ | ⟨x, l⟩⟩
    · cases (show RzAll h₀ [] xs from h4)
      rw [PyData.shownAll, listText_nil]
      exact (ReprK.listEmpty h1 h2 h3 :)
    · exact ReprK.list h1 h2 h3 na (by simpa using k2.length_eq) fun i y e => k2.item i y (by simpa using e)
  | _, _, .tup (a := a) (vs := vs) (xs := xs) h1 h2 h3 h4, s, z => by
    have z1 : (tupleText (PyData.shownAll xs)).length ≤ sizeLine := by rw [PyData.shown] at z; exact z
    obtain ⟨bs, k1, k2⟩ := RzAll.says h4 (by simpa only [PyData.showable] using s) fun t m => Nat.le_trans (tupleText_mem_le m) z1
    obtain ⟨_, r⟩ := RzAll.reads h4
    have r1 := Reads.tuple h1 h2 h3 r
    have na : a ∉ bs := not_mem_of_deeper r1 (Nat.lt_succ_of_le (Nat.le_of_eq (by rfl))) k1
    refine ⟨a :: bs, ReadAtMost.cons r1 (Nat.le_succ_of_le (Nat.le_of_eq (by rfl))) k1, ?_⟩
    rw [PyData.shown, PyData.depth]
    exact ReprK.tuple h1 h2 h3 na k2
theorem RzAll.says : ∀ {v : List Value} {d : List PyData}, RzAll h₀ v d → PyData.showableAll d = true → (∀ t ∈ PyData.shownAll d, t.length ≤ sizeLine) →
    ∃ bs, ReadAtMost h₀ (PyData.depthAll d) bs ∧ ReprAllK prog w bs h₀ (PyData.depthAll d) v (PyData.shownAll d)
  | _, _, .nil, _, _ => ⟨[], (fun _ q => nomatch q), by rw [PyData.shownAll]; exact .nil⟩
  | _, _, .cons (d := d) (ds := ds) h1 h2, s, z => by
    rw [PyData.showableAll, Bool.and_eq_true] at s
    rw [PyData.shownAll] at z ⊢
    obtain ⟨b1, m1, k1⟩ := Rz.says h1 s.1 (z _ (List.mem_cons_self ..))
    obtain ⟨b2, m2, k2⟩ := RzAll.says h2 s.2 fun t q => z t (List.mem_cons_of_mem _ q)
    rw [PyData.depthAll]
    refine ⟨b1 ++ b2, (m1.mono (Nat.le_max_left _ _)).append (m2.mono (Nat.le_max_right _ _)), ?_⟩
    exact .cons ((k1.more fun _ q => List.mem_append_left _ q).level_le (Nat.le_max_left _ _)) (k2.more_le (fun _ q => List.mem_append_right _ q) (Nat.le_max_right _ _))
end
theorem repr_z {s : Shared} {v : Value} {d : PyData} (rz : Rz s.heap v d) (hs : d.showable = true) (hz : d.shown.length ≤ sizeLine) (A : Around) (E : Value → Shared → Prop) (Q : Value → Shared → Prop) (hg : A.guards = some []) (hu : A.units + 66 < cLine) (hdp : d.depth ≤ 64)
    (hQ : ∀ h' u tk, (∀ b o, s.heap.get? b = some o → h'.get? b = some o) → Q (.str d.shown u) { s with heap := h', toks := tk }) : wpAny (model prog w) A (call (.builtin "repr") [v]) Q E s := by
  have hu1 : A.in1.units = A.units + 1 := rfl
  cases rz with
  | non => exact repr_reads .none hs (by simp [PyData.hasDict]) hz A E Q hg hu hdp hQ
  | bl b => exact repr_reads (.bool b) hs (by simp [PyData.hasDict]) hz A E Q hg hu hdp hQ
  | num i t => exact repr_reads (.int i t) hs (by simp [PyData.hasDict]) hz A E Q hg hu hdp hQ
  | txt x t => exact repr_reads (.str x t) hs (by simp [PyData.hasDict]) hz A E Q hg hu hdp hQ
  | @emp a o n h1 h2 h3 h4 =>
    rw [← empty_text] at hQ hz
    refine repr_slot (by omega) ⟨_, h1, h2⟩ F.slot_dict_repr ?_
    exact call_dict_reprK (d := 0) (as := []) h1 h2 h3 h4 (by simp) .nil hg (fun b _ => Clear.nil b) (by omega) (fun _ _ e => e) (fun h' u tk k => ⟨_, _, rfl, hQ h' u tk k⟩) hz
  | @lst a o vs n xs h1 h2 h3 h4 =>
    rw [PyData.shown] at hz hQ
    obtain ⟨bs, k1, k2⟩ := RzAll.says (prog := prog) (w := w) h4 (by simpa only [PyData.showable] using hs) fun t m => Nat.le_trans (listText_mem_le m) hz
    obtain ⟨_, r⟩ := RzAll.reads h4
    have na : a ∉ bs := not_mem_of_deeper (Reads.list h1 h2 h3 r) (Nat.lt_succ_of_le (Nat.le_of_eq (by rfl))) k1
    rw [PyData.depth] at hdp
    refine repr_slot (by omega) ⟨_, h1, h2⟩ F.slot_list_repr.toG ?_
    rcases vs with ⟨_ | ⟨x, l⟩⟩
    · cases (show RzAll s.heap [] xs from h4)
      rw [PyData.shownAll, listText_nil] at hQ
      exact call_list_repr_empty ⟨_, h1, h2⟩ h1 h3 ⟨_, _, rfl, hQ s.heap _ _ fun _ _ e => e⟩
    · exact call_list_reprK h1 h2 h3 na (by simpa using k2.length_eq) (fun i y e => k2.item i y (by simpa using e)) hg (fun b _ => Clear.nil b) (by omega) (fun _ _ e => e) (fun h' u tk k => ⟨_, _, rfl, hQ h' u tk k⟩) hz
  | @tup a o vs n xs h1 h2 h3 h4 =>
    rw [PyData.shown] at hz hQ
    obtain ⟨bs, k1, k2⟩ := RzAll.says (prog := prog) (w := w) h4 (by simpa only [PyData.showable] using hs) fun t m => Nat.le_trans (tupleText_mem_le m) hz
    obtain ⟨_, r⟩ := RzAll.reads h4
    have na : a ∉ bs := not_mem_of_deeper (Reads.tuple h1 h2 h3 r) (Nat.lt_succ_of_le (Nat.le_of_eq (by rfl))) k1
    rw [PyData.depth] at hdp
    refine repr_slot (by omega) ⟨_, h1, h2⟩ F.slot_tuple_repr ?_
    exact call_tuple_reprK h1 h2 h3 na k2 hg (fun b _ => Clear.nil b) (by omega) (fun _ _ e => e) (fun h' u tk k => ⟨_, _, rfl, hQ h' u tk k⟩) hz
mutual
/-- data in the abstract heap, empty dicts among them -/
inductive Dz (K : PySem.W.Frag) (H : Hp) : V → PyData → Prop
  | non : Dz K H .non .none
  | bl (b : Bool) : Dz K H (.bl b) (.bool b)
  | num (i : Int) : Dz K H (.int i) (.int i)
  | txt (x : Str) : Dz K H (.str x) (.str x)
  | lst {a : Addr} {xs : List V} {ds : List PyData} : SqL K H a xs → DzAll K H xs ds → Dz K H (.ref a) (.list ds)
  | tup {a : Addr} {xs : List V} {ds : List PyData} : SqT K H a xs → DzAll K H xs ds → Dz K H (.ref a) (.tuple ds)
  | emp {a : Addr} : H a = some (.dK []) → Dz K H (.ref a) (.dict [])
inductive DzAll (K : PySem.W.Frag) (H : Hp) : List V → List PyData → Prop
  | nil : DzAll K H [] []
  | cons {v : V} {vs : List V} {d : PyData} {ds : List PyData} : Dz K H v d → DzAll K H vs ds → DzAll K H (v :: vs) (d :: ds)
end
section
variable {s : Shared} {H : Hp} {X : Cx} {σ : L2.St} {pins : List (Addr × Obj)}
mutual
theorem Dz.rz (I : Inv X pins σ H s) : ∀ {d : PyData} {v : V} {u : Value}, Dz X.K H v d → RelV v u → Rz s.heap u d
  | _, _, _, .non, r => by cases r; exact .non
  | _, _, _, .bl b, r => by cases r; exact .bl b
  | _, _, _, .num i, r => by obtain ⟨t, rfl⟩ := r; exact .num i t
  | _, _, _, .txt x, r => by obtain ⟨t, rfl⟩ := r; exact .txt x t
  | _, _, _, .lst hs ha, r => by
    cases r
    obtain ⟨us, ru, ⟨ob, m, a1, a2, _, a3⟩, _⟩ := I.list hs
    exact .lst a1 a2 a3 (DzAll.rz I ha ru)
  | _, _, _, .tup hs ha, r => by
    cases r
    obtain ⟨us, ru, ⟨ob, a1, a2, m, a3⟩, _⟩ := I.tuple hs
    exact .tup a1 a2 a3 (DzAll.rz I ha ru)
  | _, _, _, .emp he, r => by
    cases r
    obtain ⟨_, hm, vs, kv, o, es, ep, ho, hx, hd, _, hes, _⟩ := dk_of I.hok he
    cases kv
    have : es = #[] := by
      rcases es with ⟨l⟩
      cases l with
      | nil => rfl
      | cons x l => cases hes
    subst this
    exact .emp ho hx.1 hd hm
theorem DzAll.rz (I : Inv X pins σ H s) : ∀ {d : List PyData} {v : List V} {u : List Value}, DzAll X.K H v d → Vals v u → RzAll s.heap u d
  | _, _, _, .nil, r => by cases r; exact .nil
  | _, _, _, .cons h1 h2, r => by cases r with | cons r1 r2 => exact .cons (Dz.rz I h1 r1) (DzAll.rz I h2 r2)
end
end
mutual
def toPz : D → Option PyData
  | .non => some .none
  | .bl b => some (.bool b)
  | .int i => some (.int i)
  | .str x => some (.str ⟨x.toArray⟩)
  | .lst xs => (toPzs xs).map .list
  | .tup xs => (toPzs xs).map .tuple
  | .dct [] [] => some (.dict [])
  | _ => none
def toPzs : List D → Option (List PyData)
  | [] => some []
  | x :: xs => match toPz x, toPzs xs with
    | some a, some b => some (a :: b)
    | _, _ => none
end
section
variable {T : Tab} {K : PySem.W.Frag}
mutual
theorem toPz_ok {F : Hp} {S : Store} {ι : List Addr} {G H : Hp} (em : Em T K F S ι G H) : ∀ {x : D} {v : V} {p : PyData}, DR T K G ι x v → toPz x = some p → Dz K H v p
  | .non, _, _, h, e => by simp only [DR] at h; rw [toPz] at e; cases e; subst h; exact .non
  | .bl b, _, _, h, e => by simp only [DR] at h; rw [toPz] at e; cases e; subst h; exact .bl b
  | .int b, _, _, h, e => by simp only [DR] at h; rw [toPz] at e; cases e; subst h; exact .num b
  | .str b, _, _, h, e => by simp only [DR] at h; rw [toPz] at e; cases e; subst h; exact .txt _
  | .lst xs, _, _, h, e => by
    simp only [DR] at h
    rw [toPz, Option.map_eq_some_iff] at e
    obtain ⟨a, vs, rfl, q, r⟩ := h
    obtain ⟨ps, e1, rfl⟩ := e
    exact .lst (SqL.of (em.sub _ _ q)) (toPzs_ok em r e1)
  | .tup xs, _, _, h, e => by
    simp only [DR] at h
    rw [toPz, Option.map_eq_some_iff] at e
    obtain ⟨a, vs, rfl, q, r⟩ := h
    obtain ⟨ps, e1, rfl⟩ := e
    exact .tup (SqT.of (em.sub _ _ q)) (toPzs_ok em r e1)
  | .dct [] [], _, _, h, e => by
    simp only [DR, DRs] at h
    rw [toPz] at e
    cases e
    obtain ⟨a, vs, rfl, _, q, rfl⟩ := h
    rcases q with ⟨_, q⟩ | ⟨n, _⟩
    · exact .emp (em.sub _ _ q)
    · exact absurd rfl n
  | .dct (_ :: _) _, _, _, _, e => by simp [toPz] at e
  | .dct [] (_ :: _), _, _, _, e => by simp [toPz] at e
  | .dcu _ _, _, _, _, e => by simp [toPz] at e
  | .ty _, _, _, _, e => by simp [toPz] at e
  | .glo _, _, _, _, e => by simp [toPz] at e
  | .scr _, _, _, _, e => by simp [toPz] at e
  | .ins _ _, _, _, _, e => by simp [toPz] at e
  | .exn _ _ _, _, _, _, e => by simp [toPz] at e
  | .ref _, _, _, _, e => by simp [toPz] at e
theorem toPzs_ok {F : Hp} {S : Store} {ι : List Addr} {G H : Hp} (em : Em T K F S ι G H) : ∀ {x : List D} {v : List V} {p : List PyData}, DRs T K G ι x v → toPzs x = some p → DzAll K H v p
  | [], _, _, h, e => by simp only [DRs] at h; rw [toPzs] at e; cases e; subst h; exact .nil
  | x :: xs, _, _, h, e => by
    simp only [DRs] at h
    obtain ⟨v, r, rfl, h1, h2⟩ := h
    rw [toPzs] at e
    split at e
    · rename_i a b e1 e2
      cases e
      exact .cons (toPz_ok em h1 e1) (toPzs_ok em h2 e2)
    · cases e
end
theorem derefz_ok {F : Hp} {S : Store} {ι : List Addr} {G H : Hp} (em : Em T K F S ι G H) {x : D} {v : V} {p : PyData} (h : DR T K G ι x v) (e : toPz (deref x S) = some p) : Dz K H v p := by
  cases x with
  | ref n =>
    rw [deref] at e
    split at e
    · rename_i xs q
      obtain ⟨a, vs, e1, h1, h2⟩ := seqL_ok (xs := xs) em h (by simp only [seqL, q])
      subst e1
      rw [toPz, Option.map_eq_some_iff] at e
      obtain ⟨ps, e1, rfl⟩ := e
      exact .lst (SqL.of h1) (toPzs_ok em h2 e1)
    · simp [toPz] at e
  | _ => exact toPz_ok em h e
end
end J
set_option Elab.async false
set_option linter.all false
set_option maxRecDepth 100000
set_option maxHeartbeats 410000
/-! JM: repr(x), tuple(..), list(..), max and min of a list -/
namespace J
open PySem PySem.Spec L2 PyProof.Rows
def rReprD (K : PySem.W.Frag) : List V → Hp → VK → Prop := fun vs H Q => ∃ v d, vs = [v] ∧ Dz K H v d ∧ d.showable = true ∧ d.depth ≤ 64 ∧ d.shown.length ≤ sizeLine ∧ Q (.str d.shown) H
theorem call_reprD {X : Cx} {k : Nat} (hr : Rg k X.A) : CallR X (.builtin "repr") (rReprD X.K) := by
  rintro pins s σ H xs us Q I r h
  obtain ⟨v, d, rfl, dp, h1, h3, h4, q⟩ := h
  rcases vals1 r with ⟨u, rfl, ru⟩
  have hu := hr.r.un
  exact repr_z (Dz.rz I dp ru) h1 h4 X.A _ _ hr.g (by omega) h3 fun h' u tk hk => ⟨.str d.shown, H, I.kept (t' := tk) hk, ⟨_, rfl⟩, q⟩
/-- the text of a value -/
def repOf (d : D) (S : Store) : Option (List Nat) := match toPz (deref d S) with
  | some p => if (p.showable && (decide (p.depth ≤ 64) && decide (p.shown.length ≤ 100000))) = true then some p.shown.cps.toList else none
  | none => none
def reprD : OpN := fun xs S => match xs with
  | [x] => (repOf x S).map .str
  | _ => none
theorem reprD_ok {T : Tab} {K : PySem.W.Frag} : CaS T K (rReprD K) reprD := by
  intro F S ι G H xs d vs Q em dr e q
  rcases xs with _ | ⟨x, _ | ⟨y, r⟩⟩
  · cases e
  · obtain ⟨v, rfl, r⟩ := dr.one
    unfold reprD repOf at e
    dsimp only at e
    cases hp : toPz (deref x S) with
    | none => rw [hp] at e; cases e
    | some p =>
      rw [hp] at e
      dsimp only at e
      split at e
      · rename_i hc
        simp only [decide_eq_true_eq, Bool.and_eq_true] at hc
        cases e
        refine ⟨v, p, rfl, derefz_ok em r hp, hc.1, hc.2.1, sz_of hc.2.2, q _ G H em (Ext.refl _ _) ?_⟩
        simp only [DR, str_of_cps]
      · cases e
  · cases e
end J
set_option Elab.async false
set_option linter.all false
set_option maxRecDepth 100000
set_option maxHeartbeats 1010000
/-! JN: zip of texts, enumerate of tuples, lists and texts -/
namespace J
open PySem PySem.Spec L2 PyProof.Rows
/-! ### iterators that hand out new pairs, by what the library's GoesN says of them -/
/-- the pairs f i, g i for i below n, while `seen` stands -/
def ItP (seen : Hp → Prop) (n : Nat) (f g : Nat → V) : It where
  go i H := seen H ∧ i < n
  yld i H v H' := ∃ p, v = .ref p ∧ H p = none ∧ H' = upd H p (.tup [f i, g i])
  stop i H := seen H ∧ i = n
/-- GoesN, at one state, as a walk of pairs -/
structure Pairs (P : Program) (w : World) (A : Around) (tg : Expr) (I : Addr) (fp : List Addr) (n : Nat) (f g : Nat → V) (tn : Nat → Heap → Prop) (i : Nat) (h : Heap) : Prop where
  ex : ∃ (fp' wr : List Addr) (Y : Nat → Heap → Value → Heap → Prop) (St : Nat → Heap → Prop), GoesN P w A tg I fp' wr n Y St ∧ St i h ∧ (∀ b ∈ wr, b ∈ fp) ∧ (∀ j h1, St j h1 → tn j h1) ∧
    ∀ j h0 v h1, j < n → Y j h0 v h1 → ∃ p a b, v = .ref p ∧ h0.objs.size ≤ p ∧ RelV (f j) a ∧ RelV (g j) b ∧ h1.IsTuple p #[a, b]
theorem turn_pairs {P : Program} {w : World} {K : PySem.W.Frag} {tg : Expr} {I : Addr} {fp : List Addr} {n : Nat} {f g : Nat → V} {seen : Hp → Prop} {tn : Nat → Heap → Prop} (mem : I ∈ fp) (ob : ∀ i h, tn i h → ∀ c ∈ fp, ∃ o, h.get? c = some o ∧ ∀ v, o.data ≠ .cell v)
    (kp : ∀ i h h', tn i h → (∀ c ∈ fp, ∀ o, h.get? c = some o → h'.get? c = some o) → tn i h') (sf : ∀ (A : Around) (i : Nat) (s : Shared) (Q : Value → Shared → Prop) (E : Value → Shared → Prop), tn i s.heap → Q (.ref I) s → wpAny (model P w) A (pyIter (.ref I)) Q E s)
    (pr : ∀ (X : Cx), X.prog = P → X.w = w → X.K = K → X.calm = true → ∀ (i : Nat) (pins : List (Addr × Obj)) (s : Shared) (σ : L2.St) (H : Hp), Inv X pins σ H s → seen H → tn i s.heap → Pairs P w X.A tg I fp n f g tn i s.heap) : Turn P w K tg (ItP seen n f g) fp I tn := by
  refine ⟨mem, ob, kp, fun X hP hw hK hc i pins s σ H E inv hf st hg => ?_, fun X hP hw hK hc i pins s σ H E inv hf st hg => ?_, sf⟩
  · obtain ⟨fp', wr, Y, St, gn, st0, sub, back, pair⟩ := (pr X hP hw hK hc i pins s σ H inv hg.1 st).ex
    subst hP hw hK
    refine gn.goes i s (fun u s2 => ∃ x H', Inv X pins σ H' s2 ∧ RelV x u ∧ (ItP seen n f g).yld i H x H' ∧ tn (i + 1) s2.heap ∧ ∀ c ∈ fp, H' c = none) E hg.2 st0 fun v h1 tk hY st1 old _ => ?_
    obtain ⟨p, a, b, rfl, fresh, ra, rb, tup⟩ := pair i s.heap v h1 hg.2 hY
    have laid : ObjOk X.prog X.w (upd H p (.tup [f i, g i])) h1 p (.tup [f i, g i]) := ⟨show (2 : Nat) ≤ sizeLine from by decide, [a, b], .cons ra (.cons rb .nil), tup⟩
    have keepAll : ∀ c o, c ∉ fp → s.heap.get? c = some o → h1.get? c = some o := fun c o hcf => old c o fun hw => hcf (sub c hw)
    refine ⟨.ref p, _, Inv.turnedNew inv keepAll hf fresh laid, rfl, ⟨p, rfl, inv.hok.fresh fresh, rfl⟩, back _ _ st1, fun c hcf => ?_⟩
    obtain ⟨o, ho, _⟩ := ob i s.heap st c hcf
    have below : c < p := Nat.lt_of_lt_of_le (Heap.lt_size ho) fresh
    exact (upd_ne (Nat.ne_of_lt below)).trans (hf c hcf).1
  · obtain ⟨fp', wr, Y, St, gn, st0, sub, back, pair⟩ := (pr X hP hw hK hc i pins s σ H inv hg.1 st).ex
    subst hP hw hK
    rw [hg.2] at st0
    exact gn.stops s (fun s1 => Inv X pins σ H s1) E st0 fun h1 tk old _ => Inv.turnedL inv (fun c o hcf => old c o fun hw => hcf (sub c hw)) hf
/-- a letter of a text, as a value; a member of a list of values -/
def chV (x : Str) (i : Nat) : V := .str ⟨#[x.cps.getD i 0]⟩
def nthV (xs : List V) (i : Nat) : V := xs.getD i .non
theorem chV_rel {x : Str} {i c : Nat} {u : Tok} (h : x.cps[i]? = some c) : RelV (chV x i) (.str ⟨#[c]⟩ u) := by
  refine ⟨u, ?_⟩
  have e : x.cps.getD i 0 = c := by rw [Array.getD_eq_getD_getElem?, h]; rfl
  rw [e]
/-! ### zip of two texts -/
/-! ### enumerate of a tuple, of a text -/
theorem enum_meets {v : Value} {o : Obj} {ok : Heap → Prop} (B : Begins v o ok) : Meets (Builtin.«enumerate.__new__» ⟨[.type "enumerate", v], []⟩) (fun _ R s => ok s.heap ∧
    R (.ok (.ret (.ref (s.heap.push o).objs.size))) { s with heap := (s.heap.push o).push { cls := .type "enumerate", data := .fields #[.none, .bool false, .ref s.heap.objs.size, rawInt 0, .none, .none] } }) := by
  refine Meets.of_wp ?_
  rintro prog w A R ⟨hp, g, d, tk, os⟩ ⟨good, fin⟩
  have sub := sub_enumerate
  have start : ∀ {A' : Around} {E : Value → Shared → Prop} {Q : Value → Shared → Prop}, Q (.ref hp.objs.size) ⟨hp.push o, g, d, tk, os⟩ → wpAny (model prog w) A' (pyIter v) Q E ⟨hp, g, d, tk, os⟩ := fun z => B.iter prog w _ _ _ _ good z
  wp_walk using start
  apply wpAny_stack_any
  intro st
  apply wpAny_pure
  split
  case h_1 c _ _ _ _ _ => cases (c == Value.type "enumerate") <;> (wp_walk using start; exact ⟨_, rfl, fin⟩)
  all_goals (wp_walk using start; exact ⟨_, rfl, fin⟩)
theorem enum_made {prog : Program} {w : World} {A : Around} {E : Value → Shared → Prop} {s : Shared} {v : Value} {o : Obj} {ok : Heap → Prop} {Q : Value → Shared → Prop} (B : Begins v o ok) (good : ok s.heap)
    (fin : ∀ h1, IsEnum h1 (s.heap.objs.size + 1) s.heap.objs.size 0 .none → h1.get? s.heap.objs.size = some o → (∀ b x, s.heap.get? b = some x → h1.get? b = some x) → Q (.ref (s.heap.objs.size + 1)) { s with heap := h1 }) : wpAny (model prog w) A (call (.type "enumerate") [v]) Q E s := by
  have size : (s.heap.push o).objs.size = s.heap.objs.size + 1 := Heap.size_push ..
  have en := Heap.get?_push_size (s.heap.push o) (o := { cls := .type "enumerate", data := .fields #[.none, .bool false, .ref s.heap.objs.size, rawInt 0, .none, .none] }) rfl
  rw [size] at en
  refine callType_new F.called_enumerate (by decide) (F.typeCall_enumerate_1 _) (F.newCall_enumerate_1 _) (fun obj => F.args_object_init_2 obj _) F.entry_enumerate_new (enum_meets B) ⟨good, show _ ∧ _ from ?_⟩
  rw [size]
  exact ⟨⟨_, en, rfl⟩, fin _ en (Heap.get?_push_of_some _ (Heap.get?_push_size _ B.free)) fun b x z => Heap.get?_push_of_some _ (Heap.get?_push_of_some _ z)⟩
abbrev efp (N : Nat) : List Addr := [N + 1, N]
theorem efp_fresh {X : Cx} {pins : List (Addr × Obj)} {σ : L2.St} {H : Hp} {s : Shared} (inv : Inv X pins σ H s) : ∀ c ∈ efp s.heap.objs.size, FpOk X pins H c := by
  intro c hcf
  have above : s.heap.objs.size ≤ c := by
    simp only [efp, List.mem_cons, List.not_mem_nil, or_false] at hcf
    have e : ∀ N c : Nat, (c = N + 1 ∨ c = N) → N ≤ c := by omega
    exact e _ _ hcf
  exact inv.fpOk above (inv.hok.fresh above)
def intV (i : Nat) : V := .int (0 + (i : Int))
theorem enum_tuple {X : Cx} {pins : List (Addr × Obj)} {σ : L2.St} {H : Hp} {s : Shared} {R : It → Hp → Prop} {a : Addr} {xs : List V} {elts : List Expr} {kk : Nat} {tpos : Pos} (inv : Inv X pins σ H s) (sq : SqT X.K H a xs) (q : R (ItP (fun H1 => SqT X.K H1 a xs) xs.length intV (nthV xs)) H) :
    wpAny (model X.prog X.w) X.A (call (.type "enumerate") [.ref a]) (fun v s1 => wpAny (model X.prog X.w) X.A (pyIter v) (PIE X pins σ (.Tuple elts kk tpos) R) X.xe s1) X.xe s := by
  obtain ⟨its, _, isT, _⟩ := inv.tuple sq
  have la : a < s.heap.objs.size := by
    obtain ⟨o0, ho0, _⟩ := isT
    exact Heap.lt_size ho0
  have ne1 : s.heap.objs.size + 1 ≠ s.heap.objs.size := Nat.succ_ne_self _
  have ne2 : a ≠ s.heap.objs.size := Nat.ne_of_lt la
  have ne3 : s.heap.objs.size + 1 ≠ a := Nat.ne_of_gt (Nat.lt_succ_of_lt la)
  refine enum_made (begins_tuple a its.toArray) isT fun h1 en it old => wpAny_pyIter_enum en ?_
  let tn : Nat → Heap → Prop := fun i h => (∃ o, IsEnum h (s.heap.objs.size + 1) s.heap.objs.size (0 + (i : Int)) o) ∧ h.IsTupleIter s.heap.objs.size a i
  have T : Turn X.prog X.w X.K (.Tuple elts kk tpos) (ItP (fun H1 => SqT X.K H1 a xs) xs.length intV (nthV xs)) (efp s.heap.objs.size) (s.heap.objs.size + 1) tn := by
    refine turn_pairs (by simp) ?_ ?_ (fun A i s1 Q E st h => st.1.elim fun _ z => wpAny_pyIter_enum z h) fun X' hP hw hK hc i pins' s' σ' H' inv' sq' st => ?_
    · rintro i h ⟨⟨_, a1⟩, ⟨o1, b1, _, c1⟩⟩ c hcf
      simp only [efp, List.mem_cons, List.not_mem_nil, or_false] at hcf
      rcases hcf with rfl | rfl
      · exact ⟨_, a1, fun _ => nofun⟩
      · exact ⟨o1, b1, fun v e => by rw [c1] at e; cases e⟩
    · rintro i h h' ⟨⟨_, a1⟩, ⟨o1, b1, r1⟩⟩ k
      exact ⟨⟨_, k _ (by simp) _ a1⟩, ⟨o1, k _ (by simp) _ b1, r1⟩⟩
    · rw [← hK] at sq'
      obtain ⟨us, rel, isT', _⟩ := inv'.tuple sq'
      have len : us.toArray.size = xs.length := by rw [List.size_toArray]; exact rel.length.symm
      have gn := GoesN.enumFrom (elts := elts) (x1 := kk) (pos := tpos) 0 (Draws.tuple (prog := X.prog) (w := X.w) (A := X'.A.in1) (inv'.ok.hd hc) s.heap.objs.size a ne2 us.toArray) (s.heap.objs.size + 1) ne1 (by simp [ne1, ne3]) (by simp)
      rw [len] at gn
      refine ⟨_, _, _, _, gn, ⟨st.1, st.2, isT'⟩, fun b hb => hb, fun j h2 z => ⟨z.1, z.2.1⟩, ?_⟩
      rintro j h0 v h2 hj ⟨p, t, u, rfl, fresh, hu, tup⟩
      refine ⟨p, _, u, rfl, fresh, ⟨t, rfl⟩, ?_, tup⟩
      obtain ⟨u', hu', ru⟩ := rel.get (List.getElem?_eq_getElem hj)
      have eu : u' = u := by
        have z : us[j]? = some u := by simpa using hu
        rw [hu'] at z
        exact Option.some.inj z
      have en : nthV xs j = xs[j] := by unfold nthV; rw [List.getD_eq_getElem?_getD, List.getElem?_eq_getElem hj]; rfl
      rw [en, ← eu]
      exact ru
  exact ⟨_, _, tn, _, H, rfl, inv.kept (t' := s.toks) old, T, ⟨⟨_, en⟩, ⟨_, it, rfl, rfl⟩⟩, efp_fresh inv, q⟩
theorem enum_text {X : Cx} {pins : List (Addr × Obj)} {σ : L2.St} {H : Hp} {s : Shared} {R : It → Hp → Prop} {x : Str} {t : Tok} {elts : List Expr} {kk : Nat} {tpos : Pos} (inv : Inv X pins σ H s) (q : R (ItP (fun _ => True) x.cps.size intV (chV x)) H) :
    wpAny (model X.prog X.w) X.A (call (.type "enumerate") [.str x t]) (fun v s1 => wpAny (model X.prog X.w) X.A (pyIter v) (PIE X pins σ (.Tuple elts kk tpos) R) X.xe s1) X.xe s := by
  have ne1 : s.heap.objs.size + 1 ≠ s.heap.objs.size := Nat.succ_ne_self _
  refine enum_made (begins_text x t) trivial fun h1 en it old => wpAny_pyIter_enum en ?_
  let tn : Nat → Heap → Prop := fun i h => (∃ o, IsEnum h (s.heap.objs.size + 1) s.heap.objs.size (0 + (i : Int)) o) ∧ h.IsStrIter s.heap.objs.size (strIterType x) x t i
  have T : Turn X.prog X.w X.K (.Tuple elts kk tpos) (ItP (fun _ => True) x.cps.size intV (chV x)) (efp s.heap.objs.size) (s.heap.objs.size + 1) tn := by
    refine turn_pairs (by simp) ?_ ?_ (fun A i s1 Q E st h => st.1.elim fun _ z => wpAny_pyIter_enum z h) fun X' hP hw hK hc i pins' s' σ' H' inv' _ st => ?_
    · rintro i h ⟨⟨_, a1⟩, ⟨o1, b1, _, c1⟩⟩ c hcf
      simp only [efp, List.mem_cons, List.not_mem_nil, or_false] at hcf
      rcases hcf with rfl | rfl
      · exact ⟨_, a1, fun _ => nofun⟩
      · exact ⟨o1, b1, fun v e => by rw [c1] at e; cases e⟩
    · rintro i h h' ⟨⟨_, a1⟩, ⟨o1, b1, r1⟩⟩ k
      exact ⟨⟨_, k _ (by simp) _ a1⟩, ⟨o1, k _ (by simp) _ b1, r1⟩⟩
    · have gn := GoesN.enumFrom (elts := elts) (x1 := kk) (pos := tpos) 0 (Draws.text (prog := X.prog) (w := X.w) (A := X'.A.in1) (inv'.ok.hd hc) s.heap.objs.size x t) (s.heap.objs.size + 1) ne1 (by simp [ne1]) (by simp)
      refine ⟨_, _, _, _, gn, st, fun b hb => hb, fun _ _ z => z, ?_⟩
      rintro j h0 v h2 hj ⟨p, t', u, rfl, fresh, ⟨c, k1, hc1, rfl⟩, tup⟩
      exact ⟨p, _, _, rfl, fresh, ⟨t', rfl⟩, chV_rel hc1, tup⟩
  exact ⟨_, _, tn, _, H, rfl, inv.kept (t' := s.toks) old, T, ⟨⟨_, en⟩, ⟨_, it, rfl, rfl⟩⟩, efp_fresh inv, q⟩
def iEnumA (K : PySem.W.Frag) (ta : TA) : TI := fun σ H R => ta σ H fun vs H1 => (∃ a xs, vs = [.ref a] ∧ SqT K H1 a xs ∧ R (ItP (fun H2 => SqT K H2 a xs) xs.length intV (nthV xs)) H1) ∨ ∃ x, vs = [.str x] ∧ R (ItP (fun _ => True) x.cps.size intV (chV x)) H1
theorem pi_enumA {X : Cx} {e : Expr} {ta : TA} {p pos tpos : Pos} {elts : List Expr} {kk : Nat} (hg : Gl X "enumerate") (hm : X.mg "enumerate" = none) (ha : PA X [e] ta) (h1 : starEach [e] X.env = [(false, eval e X.env)]) : PI X (.Tuple elts kk tpos) (.Call (.Name "enumerate" p) [e] [] pos) (iEnumA X.K ta) := by
  constructor
  intro pins s σ H R inv want
  refine Call_ (ld_blt inv hg hm boot_enumerate (PyProof.Rows.callWith_type1 (thn (ha.run pos pins s σ H _ inv want) ?_) h1 rfl))
  rintro us s1 ⟨_, H1, inv1, rel, ⟨a, xs, rfl, sq, q⟩ | ⟨x, rfl, q⟩⟩
  · obtain ⟨u, rfl, ru⟩ := vals1 rel
    obtain rfl : u = .ref a := ru
    exact enum_tuple inv1 sq q
  · obtain ⟨u, rfl, t, rfl⟩ := vals1 rel
    exact enum_text inv1 q
/-! ### zip and enumerate as they are walked -/
def zipOfA : List D → Option (List D)
  | [.lst xs, .lst ys] => some (zipD xs ys)
  | [.tup xs, .tup ys] => some (zipD xs ys)
  | [.str a, .str b] => some (zipD (a.map fun c => .str [c]) (b.map fun c => .str [c]))
  | _ => none
def iZipA (ia : IA) : IA := fun ρ => M.bind (ia ρ) fun xs => lift (zipOfA xs)
def enumF : Nat → List D → List D
  | _, [] => []
  | n, x :: xs => .tup [.int (n : Nat), x] :: enumF (n + 1) xs
def enumOf : List D → Option (List D)
  | [.lst xs] => some (enumF 0 xs)
  | [.tup xs] => some (enumF 0 xs)
  | [.str a] => some (enumF 0 (a.map fun c => .str [c]))
  | _ => none
def iEnumD (ia : IA) : IA := fun ρ => M.bind (ia ρ) fun xs => lift (enumOf xs)
theorem enumF_get : ∀ {xs : List D} {n i : Nat} {d : D}, (enumF n xs)[i]? = some d → ∃ x, d = .tup [.int ((n + i : Nat) : Int), x] ∧ xs[i]? = some x
  | [], n, i, d, h => by simp [enumF] at h
  | x :: xs, n, 0, d, h => by
    have e : D.tup [.int (n : Nat), x] = d := by simpa [enumF] using h
    exact ⟨x, e.symm, rfl⟩
  | x :: xs, n, i + 1, d, h => by
    have h' : (enumF (n + 1) xs)[i]? = some d := by simpa [enumF] using h
    obtain ⟨y, e, q⟩ := enumF_get h'
    exact ⟨y, by rw [e, show n + 1 + i = n + (i + 1) by omega], by simpa using q⟩
theorem enumF_len : ∀ (xs : List D) (n : Nat), (enumF n xs).length = xs.length
  | [], n => rfl
  | x :: xs, n => by simp [enumF, enumF_len xs]
theorem chr_at {l : List Nat} {i : Nat} {d : D} (h : (l.map fun c => D.str [c])[i]? = some d) : ∃ c, l[i]? = some c ∧ d = .str [c] := by
  rw [List.getElem?_map] at h
  cases q : l[i]? with
  | none => rw [q] at h; cases h
  | some c => rw [q] at h; cases h; exact ⟨c, rfl, rfl⟩
section
variable {T : Tab} {X : Cx} {W : WX} {ia : IA} {e e2 : Expr} {p pos tpos : Pos} {elts : List Expr} {kk : Nat}
theorem chV_str {l : List Nat} {i c : Nat} (h : l[i]? = some c) : chV ⟨l.toArray⟩ i = .str ⟨#[c]⟩ := by
  have e : (⟨l.toArray⟩ : Str).cps.getD i 0 = c := by rw [Array.getD_eq_getD_getElem?]; simp [h]
  unfold chV
  rw [e]
/-- the walk of pairs, by its members -/
theorem walk_pairs {K : PySem.W.Frag} {ι : List Addr} {G : Hp} {seen : Hp → Prop} {n : Nat} {f g : Nat → V} {ps : List D} (hs : ∀ F S ι1 G1 H1, Em T K F S ι1 G1 H1 → Ext G ι G1 ι1 → seen H1) (hn : ps.length = n)
    (hp : ∀ i d, ps[i]? = some d → ∃ x y, d = .tup [x, y] ∧ DR T K G ι x (f i) ∧ DR T K G ι y (g i)) : Walk T K ι G (ItP seen n f g) ps := by
  intro i F S ι1 G1 H1 em ext
  refine ⟨fun d hd => ⟨⟨hs F S ι1 G1 H1 em ext, hn ▸ (List.getElem?_eq_some_iff.mp hd).1⟩, ?_⟩, fun z => ⟨hs F S ι1 G1 H1 em ext, z.trans hn⟩⟩
  rintro v H2 ⟨p, rfl, free, rfl⟩
  obtain ⟨x, y, rfl, rx, ry⟩ := hp i d hd
  exact pair_dr em free (rx.mono ext.1 ext.2) (ry.mono ext.1 ext.2)
theorem walk_enumL {K : PySem.W.Frag} {ι : List Addr} {G : Hp} {a : Addr} {xs : List D} {vs : List V} (ha : G a = some (.lst vs)) (r : DRs T K G ι xs vs) : Walk T K ι G (Ite K a) (enumF 0 xs) := by
  intro i F S ι1 G1 H1 em x
  have h1 : SqL K H1 a vs := SqL.of (em.sub _ _ (x.1 _ _ ha))
  refine ⟨fun d e => ?_, fun e => ⟨vs, h1, ?_⟩⟩
  · obtain ⟨dx, rfl, ex⟩ := enumF_get e
    obtain ⟨v, hv, dv⟩ := r.get ex
    refine ⟨⟨vs, v, h1, hv⟩, fun u H2 hy => ?_⟩
    obtain ⟨q, vx, rfl, hq, rfl, f1⟩ := hy
    have e1 := f1 vs h1
    rw [hv] at e1
    cases e1
    exact pair_dr em hq (by simp only [DR]; rw [Nat.zero_add]) (dv.mono x.1 x.2)
  · rw [e, enumF_len, r.length]
    exact Nat.le_refl _
theorem walk_enumT {K : PySem.W.Frag} {ι : List Addr} {G : Hp} {a : Addr} {xs : List D} {vs : List V} (ha : G a = some (.tup vs)) (r : DRs T K G ι xs vs) : Walk T K ι G (ItP (fun H2 => SqT K H2 a vs) vs.length intV (nthV vs)) (enumF 0 xs) := by
  refine walk_pairs (fun F S ι1 G1 H1 em ext => SqT.of (em.sub _ _ (ext.1 _ _ ha))) (by rw [enumF_len, r.length]) fun i d hd => ?_
  obtain ⟨x, rfl, hx⟩ := enumF_get hd
  obtain ⟨v, hv, dv⟩ := r.get hx
  have e : nthV vs i = v := by unfold nthV; rw [List.getD_eq_getElem?_getD, hv]; rfl
  exact ⟨_, _, rfl, by simp only [DR, intV]; simp, e ▸ dv⟩
theorem walk_enumS {K : PySem.W.Frag} {ι : List Addr} {G : Hp} {a : List Nat} : Walk T K ι G (ItP (fun _ => True) (⟨a.toArray⟩ : Str).cps.size intV (chV ⟨a.toArray⟩)) (enumF 0 (a.map fun c => .str [c])) := by
  refine walk_pairs (fun _ _ _ _ _ _ _ => trivial) (by rw [enumF_len]; simp) fun i d hd => ?_
  obtain ⟨x, rfl, hx⟩ := enumF_get hd
  obtain ⟨c, hc, rfl⟩ := chr_at hx
  exact ⟨_, _, rfl, by simp only [DR, intV]; simp, by simp only [DR, chV_str hc]⟩
theorem ji_enum (hg : Gl X "enumerate") (hm : X.mg "enumerate" = none) (ha : JA T X W [e] ia) (hs : starEach [e] X.env = [(false, eval e X.env)] := by rfl) : JI T X W (.Tuple elts kk tpos) (.Call (.Name "enumerate" p) [e] [] pos) (iEnumD ia) := by
  refine PI.mono (PI.or (pi_enum hg hm ha hs) (pi_enumA hg hm ha hs)) fun σ H R ⟨ρ, F, S, ι, G, em, sr, h⟩ => ?_
  unfold iEnumD M.bind at h
  cases q : ia ρ S with
  | no => rw [q] at h; exact h.elim
  | ex c fs S1 => rw [q] at h; exact .inl ⟨ρ, F, S, ι, G, em, sr, by rw [q]; exact h⟩
  | ok xs S1 =>
    rw [q] at h
    dsimp only at h
    unfold lift at h
    unfold enumOf at h
    split at h
    · rename_i zs hz
      split at hz
      · rename_i xs
        cases hz
        refine .inl ⟨ρ, F, S, ι, G, em, sr, ?_⟩
        rw [q]
        intro vs ι1 G1 H1 em1 x1 dr
        obtain ⟨v, rfl, r1⟩ := dr.one
        simp only [DR] at r1
        obtain ⟨a, us, rfl, ha, ra⟩ := r1
        exact ⟨a, us, rfl, SqL.of (em1.sub _ _ ha), h _ ι1 G1 H1 em1 x1 (walk_enumL ha ra)⟩
      · rename_i xs
        cases hz
        refine .inr ⟨ρ, F, S, ι, G, em, sr, ?_⟩
        rw [q]
        intro vs ι1 G1 H1 em1 x1 dr
        obtain ⟨v, rfl, r1⟩ := dr.one
        simp only [DR] at r1
        obtain ⟨a, us, rfl, ha, ra⟩ := r1
        exact .inl ⟨a, us, rfl, SqT.of (em1.sub _ _ ha), h _ ι1 G1 H1 em1 x1 (walk_enumT ha ra)⟩
      · rename_i a
        cases hz
        refine .inr ⟨ρ, F, S, ι, G, em, sr, ?_⟩
        rw [q]
        intro vs ι1 G1 H1 em1 x1 dr
        obtain ⟨v, rfl, r1⟩ := dr.one
        simp only [DR] at r1
        exact .inr ⟨_, by rw [r1], h _ ι1 G1 H1 em1 x1 walk_enumS⟩
      · cases hz
    · exact h.elim
end
end J
set_option Elab.async false
set_option linter.all false
set_option maxRecDepth 100000
set_option maxHeartbeats 1010000
/-! JO: dicts (int and text keys), comprehensions that make a thing of the store -/
namespace J
open PySem PySem.Spec L2 PyProof.Rows
def kyOf : D → Option Ky
  | .int i => some (.i i)
  | .str x => some (.s x)
  | _ => none
theorem kyK_inj {a b : Ky} (h : kyK a = kyK b) : a = b := by
  cases a <;> cases b <;> simp only [kyK] at h
  · cases h; rfl
  · cases h
  · cases h
  · have e := Sum.inr.inj h
    have e2 := str_inj.mp e
    rw [e2]
def getKy (k : Ky) : List (Ky × D) → Option D
  | [] => none
  | (j, d) :: r => if j = k then some d else getKy k r
section
variable {T : Tab} {K : PySem.W.Frag} {G : Hp} {ι : List Addr}
theorem KRs.any {k : Ky} : ∀ {kvs : List (Ky × D)} {vs : List (Key × V)}, KRs T K G ι kvs vs → (kvs.any fun q => decide (q.1 = k)) = vs.any fun q => decide (q.1 = kyK k)
  | [], _, h => by cases h; rfl
  | (j, x) :: r, _, ⟨v, w, rfl, dr, rr⟩ => by
    simp only [List.any_cons, KRs.any rr]
    congr 1
    by_cases h : j = k
    · simp [h]
    · have h2 : ¬ kyK j = kyK k := fun z => h (kyK_inj z)
      simp [h, h2]
theorem KRs.length : ∀ {kvs : List (Ky × D)} {vs : List (Key × V)}, KRs T K G ι kvs vs → kvs.length = vs.length
  | [], _, h => by cases h; rfl
  | (j, x) :: r, _, ⟨u, w, rfl, dr, rr⟩ => by simp [KRs.length rr]
end
/-- a dict's entries -/
def dctOf : D → Store → Option (List (Ky × D))
  | .dct ks xs, _ => some (ks.zip xs)
  | .ref n, S => match S.get n with
    | some (.dct kvs) => some kvs
    | _ => none
  | _, _ => none
/-- d[k] -/
def dgetD : Op2 := fun x y S => match dctOf x S, kyOf y with
  | some kvs, some k => getKy k kvs
  | _, _ => none
/-! ### comprehensions that lay a thing of the store -/
end J
set_option Elab.async false
set_option linter.all false
set_option maxRecDepth 100000
set_option maxHeartbeats 1010000
/-! JP: star arguments, defs with *args, methods by keyword, tuple(..), list(..), max and min of a list -/
namespace J
open PySem PySem.Spec L2 PyProof.Rows
def iStar (ie : IE) (ir : IA) : IA := fun ρ => M.bind (ie ρ) fun x => M.bind (fun S => lift (seqA x S) S) fun xs => M.bind (ir ρ) fun ys => M.ret (xs ++ ys)
theorem ja_star {T : Tab} {X : Cx} {W : WX} {e : Expr} {es : List Expr} {ie : IE} {ir : IA} {p : Pos} (he : JE T X W e ie) (hr : JA T X W es ir) (hs : starEach (.Starred e p :: es) X.env = (true, eval e X.env) :: starEach es X.env := by rfl) : JA T X W (.Starred e p :: es) (iStar ie ir) := by
  refine PA.mono (StX.pa_star he hr hs) fun σ H Q ⟨ρ, F, S, ι, G, em, sr, h⟩ => ?_
  refine ⟨ρ, F, S, ι, G, em, sr, Thn.bind (rel2 := DR T X.K) h fun x S1 vx ι1 G1 H1 em1 x1 dx h1 => ?_⟩
  rw [bind_lift] at h1
  cases q : seqA x S1 with
  | none => rw [q] at h1; exact h1.elim
  | some xs =>
    rw [q] at h1
    obtain ⟨a, vs, rfl, hs, dr⟩ := seqA_ok em1 dx q
    refine ⟨a, vs, rfl, hs.symm, ρ, F, S1, ι1, G1, em1, sr.mono x1, Thn.bind (rel2 := DRs T X.K) h1 fun ys S2 vy ι2 G2 H2 em2 x2 dy h2 => ?_⟩
    exact Thn.ok h2 em2 ((dr.mono x2.1 x2.2).append dy)
/-! ### defs with *args -/
/-- the arguments as they are bound: n by name, the rest in a tuple -/
def packV (n : Nat) (ds : List D) : List D := ds.take n ++ [.tup (ds.drop n)]
def iCallV (n : Nat) (sem : List D → M D) (ia : IA) : IE := fun ρ => M.bind (ia ρ) fun xs => if n ≤ xs.length ∧ xs.length ≤ 100000 then sem (packV n xs) else M.no
/-- n: the parameters behind self -/
def makeV (T : Tab) (frz : Bool) (c n : Nat) (sem : List D → M D) (xs : List D) : M D := fun S => if n ≤ xs.length ∧ xs.length < 100000 then (match sem (.ref S.next :: packV n xs) (S.alloc (.ins c [])) with
    | .ok .non S' => madeD T frz c S.next S'
    | .ex c fs S' => .ex c fs S'
    | _ => .no) else .no
def iMakeV (T : Tab) (frz : Bool) (c n : Nat) (sem : List D → M D) (ia : IA) : IE := fun ρ => M.bind (ia ρ) (makeV T frz c n sem)
/-! ### methods by keyword, methods without arguments -/
def iMethK (T : Tab) (c m n : Nat) (pm : List Nat) (sem : List D → M D) (io : IE) (ik : IA) : IE := fun ρ => M.bind (io ρ) fun o => fun S => match insOf T o S with
  | some (c', fs) => if c' = c ∧ getF m fs = none then M.bind (ik ρ) (fun xs => if xs.length = n ∧ (pickL pm xs).length = pm.length then sem (o :: pickL pm xs) else M.no) S else .no
  | none => .no
/-! ### tuple(x), list(x), max, min -/
def tupD : OpN := fun xs S => match xs with
  | [x] => (match x with
    | .tup ys => some (.tup ys)
    | _ => (seqR x S).map .tup)
  | _ => none
theorem tupD_ok {T : Tab} {X : Cx} : CaS T X.K (fun xs H Q => ∃ p ys, xs = [.ref p] ∧ ((SqL X.K H p ys ∧ ∀ l, H l = none → Q (.ref l) (upd H l (.tup ys))) ∨ (SqT X.K H p ys ∧ Q (.ref p) H))) tupD := by
  intro F S ι G H xs d vs Q em dr e q
  rcases xs with _ | ⟨x, _ | ⟨y, r⟩⟩
  · cases e
  · obtain ⟨v, rfl, r⟩ := dr.one
    unfold tupD at e
    dsimp only at e
    split at e
    · rename_i ys
      cases e
      have r' := r
      simp only [DR] at r
      obtain ⟨a, us, rfl, hg, _⟩ := r
      exact ⟨a, us, rfl, .inr ⟨SqT.of (em.sub _ _ hg), q _ G H em (Ext.refl _ _) r'⟩⟩
    · cases hs : seqR x S with
      | none => rw [hs] at e; cases e
      | some ys =>
        rw [hs] at e
        cases e
        obtain ⟨a, us, rfl, hg, d2⟩ := seqR_ok em r hs
        refine ⟨a, us, rfl, .inl ⟨hg, fun l hl => ?_⟩⟩
        obtain ⟨em2, x2⟩ := em.frz (o := .tup us) hl
        exact q _ _ _ em2 x2 (by simp only [DR]; exact ⟨l, us, rfl, upd_same, d2.mono x2.1 x2.2⟩)
  · cases e
end J
set_option Elab.async false
set_option linter.all false
set_option maxRecDepth 100000
set_option maxHeartbeats 1010000
/-! JQ: len(x) and bool(x) of an instance with its own __len__; max and min of a list; bool of plain things -/
namespace J
open PySem PySem.Spec L2 PyProof.Rows
/-! ### max and min of a list of whole numbers -/
def maxI : List Int → Option Int
  | [] => none
  | [n] => some n
  | n :: r => (maxI r).map fun m => if n < m then m else n
theorem maxI_ok : ∀ {l : List Int} {m : Int}, maxI l = some m → m ∈ l ∧ ∀ y ∈ l, y ≤ m
  | [], _, h => nomatch h
  | [n], m, h => by
    have e : n = m := Option.some.inj h
    subst e
    simp
  | n :: p :: r, m, h => by
    have h' : (maxI (p :: r)).map (fun m => if n < m then m else n) = some m := h
    cases q : maxI (p :: r) with
    | none => rw [q] at h'; exact nomatch h'
    | some k =>
      rw [q] at h'
      obtain ⟨i1, i2⟩ := maxI_ok q
      have e : (if n < k then k else n) = m := Option.some.inj h'
      by_cases c : n < k
      · rw [if_pos c] at e
        subst e
        exact ⟨List.mem_cons_of_mem _ i1, fun y hy => (List.mem_cons.mp hy).elim (fun z => by omega) (i2 y)⟩
      · rw [if_neg c] at e
        subst e
        exact ⟨List.mem_cons_self .., fun y hy => (List.mem_cons.mp hy).elim (fun z => by omega) fun z => by have := i2 y z; omega⟩
def maxL : OpN := fun xs S => match xs with
  | [x] => (((seqR x S).bind intsOf).bind maxI).map .int
  | _ => none
theorem ext_ok {T : Tab} {K : PySem.W.Frag} {F : Hp} {S : Store} {ι : List Addr} {G H : Hp} {pick : List Int → Option Int} {x d : D} {vs : List V} (em : Em T K F S ι G H) (dr : DRs T K G ι [x] vs) (e : (((seqR x S).bind intsOf).bind pick).map D.int = some d) :
    ∃ (a : Addr) (ns : List Int) (m : Int), vs = [.ref a] ∧ SqL K H a (ns.map V.int) ∧ pick ns = some m ∧ d = .int m := by
  obtain ⟨v, rfl, r⟩ := dr.one
  cases q1 : seqR x S with
  | none => rw [q1] at e; exact nomatch e
  | some ds =>
    rw [q1] at e
    cases q2 : intsOf ds with
    | none => rw [Option.bind_some, q2] at e; exact nomatch e
    | some ns =>
      rw [Option.bind_some, q2, Option.bind_some] at e
      cases q3 : pick ns with
      | none => rw [q3] at e; exact nomatch e
      | some m =>
        rw [q3] at e
        obtain ⟨a, us, rfl, sq, dd⟩ := seqR_ok em r q1
        rw [intsOf_ok dd q2] at sq
        exact ⟨a, ns, m, rfl, sq, q3, (Option.some.inj e).symm⟩
theorem maxL_ok {T : Tab} {K : PySem.W.Frag} : CaS T K (rMax K) maxL := by
  intro F S ι G H xs d vs Q em dr e q
  rcases xs with _ | ⟨x, _ | ⟨y, r⟩⟩
  · exact nomatch e
  · obtain ⟨a, ns, m, rfl, sq, pm, rfl⟩ := ext_ok em dr e
    obtain ⟨i1, i2⟩ := maxI_ok pm
    refine ⟨a, ns, rfl, sq, List.length_pos_of_mem i1, fun k hk up => ?_⟩
    have ek : k = m := by have := i2 k hk; have := up m i1; omega
    subst ek
    exact q _ G H em (Ext.refl _ _) (by simp only [DR])
  · exact nomatch e
end J
set_option Elab.async false
set_option linter.all false
set_option maxRecDepth 100000
set_option maxHeartbeats 1010000
/-! JR: bool(x), x an instance whose class has __len__ and no __bool__ -/
namespace J
open PySem PySem.Spec L2 PyProof.Rows
open PySem.W (InstAt findIn isFn looks_findIn special_fn)
end J
set_option Elab.async false
set_option linter.all false
set_option maxRecDepth 100000
set_option maxHeartbeats 1010000
/-! JS: raise of an own exception that keeps one value -/
namespace J
open PySem PySem.Spec L2
/-! ### what the text says of the class -/
end J
set_option Elab.async false
set_option linter.all false
set_option maxRecDepth 100000
set_option maxHeartbeats 1010000
/-! JT: several clauses 'except C as e' -/
namespace J
open PySem PySem.Spec L2 PyProof.Rows
end J
set_option Elab.async false
set_option linter.all false
set_option maxRecDepth 100000
set_option maxHeartbeats 1010000
/-! JU: what the law's clauses say of a caught error -/
namespace J
open PySem PySem.Spec L2 PyProof.Rows
/-- a clause of the law: except x as e: return [nm, e.f, isinstance(e, b1) and isinstance(e, b2)] -/
structure Cl where
  x : Str
  f : Str
  nm : Str
  b1 : Str
  b2 : Str
structure ClPos where
  p0 : Pos
  p1 : Pos
  p2 : Pos
  p3 : Pos
  p4 : Pos
  p5 : Pos
  p6 : Pos
  p7 : Pos
  p8 : Pos
  p9 : Pos
  p10 : Pos
  p11 : Pos
  p12 : Pos
  p13 : Pos
  p14 : Pos
  p15 : Pos
  j : Nat
def Cl.hd (q : Cl) (p : ClPos) : ExceptHandler := .ExceptHandler (some (.Name q.x p.p0)) (some "e") [.Return (some (.List [.Constant (.str q.nm) p.j p.p1, .Attribute (.Name "e" p.p2) q.f p.p3,
  .BoolOp .And [.Call (.Name "isinstance" p.p4) [.Name "e" p.p5, .Name q.b1 p.p6] [] p.p7, .Call (.Name "isinstance" p.p8) [.Name "e" p.p9, .Name q.b2 p.p10] [] p.p11] p.p12] p.p13)) p.p14] p.p15
end J
set_option Elab.async false
set_option linter.all false
set_option maxRecDepth 100000
set_option maxHeartbeats 1010000
/-! JV: the law's def that calls what it gets and tells what came -/
namespace J
open PySem PySem.Spec L2 PyProof.Rows LamX
end J
set_option Elab.async false
set_option linter.all false
set_option maxRecDepth 100000
set_option maxHeartbeats 1010000
/-! JW: a lambda handed to such a def -/
namespace J
open PySem PySem.Spec L2 PyProof.Rows LamX
end J
set_option Elab.async false
set_option linter.all false
set_option maxRecDepth 100000
set_option maxHeartbeats 1010000
/-! JX: the law's got(lambda: e), as one expression -/
namespace J
open PySem PySem.Spec L2 PyProof.Rows LamX
/-- a clause: the class, the field, the text, the two bases -/
structure GC where
  c : Nat
  f : Nat
  nm : List Nat
  b1 : Str
  b2 : Str
def GC.cl (T : Tab) (q : GC) : Cl := { x := T.cn q.c, f := T.fn q.f, nm := ⟨q.nm.toArray⟩, b1 := q.b1, b2 := q.b2 }
end J
set_option Elab.async false
set_option linter.all false
set_option maxRecDepth 100000
set_option maxHeartbeats 1010000
/-! JY: a def that makes lambdas: its code object is known -/
namespace J
open PySem PySem.Spec L2 PyProof.Rows LamX
/-! ### facts of the clauses -/
/-! ### facts of a class that is raised -/
end J
set_option Elab.async false
set_option linter.all false
set_option maxRecDepth 100000
set_option maxHeartbeats 1010000
/-! JZ: {} -/
namespace J
open PySem PySem.Spec L2
end J
set_option Elab.async false
set_option linter.all false
set_option maxRecDepth 100000
set_option maxHeartbeats 1010000
/-! JZa: a list that is a sum and changes; extend; upper -/
namespace J
open PySem PySem.Spec L2
end J
set_option Elab.async false
set_option linter.all false
set_option maxRecDepth 100000
set_option maxHeartbeats 1010000
/-! JZb: try: body / except ..: .., where the body raises nothing -/
namespace J
open PySem PySem.Spec L2
end J
set_option Elab.async false
set_option linter.all false
set_option maxRecDepth 100000
set_option maxHeartbeats 1010000
/-! JZe: texts by order; how often a text is in a list -/
namespace J
open PySem PySem.Spec L2
end J
set_option Elab.async false
set_option linter.all false
set_option maxRecDepth 100000
set_option maxHeartbeats 1010000
/-! JZf: the keys and the pairs of a dict that never changes -/
namespace J
open PySem PySem.Spec L2
end J
set_option Elab.async false
set_option linter.all false
set_option maxRecDepth 100000
set_option maxHeartbeats 1010000
/-! JZg: a repeated list that changes; own methods without arguments; [e for k, x in enumerate(xs)] of a list of the store -/
namespace J
open PySem PySem.Spec L2
/-! ### what leaves the store alone -/
end J
set_option Elab.async false
set_option linter.all false
set_option maxRecDepth 100000
set_option maxHeartbeats 1010000
/-! JZh: is True, is False -/
namespace J
open PySem PySem.Spec L2
end J
set_option Elab.async false
set_option linter.all false
set_option maxRecDepth 100000
set_option maxHeartbeats 1010000
/-! JZi: xs[::-1] -/
namespace J
open PySem PySem.Spec L2
theorem vals_app {xs ys : List V} {us ws : List Value} (r : Vals xs us) (q : Vals ys ws) : Vals (xs ++ ys) (us ++ ws) := by
  induction r with
  | nil => exact q
  | cons h _ ih => exact .cons h ih
theorem vals_rev {xs : List V} {us : List Value} (r : Vals xs us) : Vals xs.reverse us.reverse := by
  induction r with
  | nil => exact .nil
  | cons h _ ih =>
    simp only [List.reverse_cons]
    exact vals_app ih (.cons h .nil)
theorem DRs.rev {T : Tab} {K : PySem.W.Frag} {G : Hp} {ι : List Addr} : ∀ {ds : List D} {vs : List V}, DRs T K G ι ds vs → DRs T K G ι ds.reverse vs.reverse
  | [], _, h => by
    simp only [DRs] at h
    subst h
    exact DRs.nil
  | x :: xs, _, h => by
    simp only [DRs] at h
    obtain ⟨v, r, e1, q, j⟩ := h
    subst e1
    simp only [List.reverse_cons]
    exact j.rev.append (DRs.cons q DRs.nil)
end J
set_option Elab.async false
set_option linter.all false
set_option maxRecDepth 100000
set_option maxHeartbeats 1010000
/-! JZj: dicts whose keys are tuples: d.items() of one that never changes; get, put, {} of one that does -/
namespace J
open PySem PySem.Spec L2
end J
set_option Elab.async false
set_option linter.all false
set_option maxRecDepth 100000
set_option maxHeartbeats 1010000
/-! JZk: dicts whose keys are tuples, over the store -/
namespace J
open PySem PySem.Spec L2
def getT (k : List Ky) : List (List Ky × D) → Option D
  | [] => none
  | (j, x) :: r => if j = k then some x else getT k r
theorem kys_inj : ∀ {a b : List Ky}, a.map kyK = b.map kyK → a = b
  | [], [], _ => rfl
  | [], _ :: _, h => by cases h
  | _ :: _, [], h => by cases h
  | x :: a, y :: b, h => by
    have h1 := (List.cons.inj h).1
    rw [J.kyK_inj h1, kys_inj (List.cons.inj h).2]
section
variable {T : Tab} {K : PySem.W.Frag} {G : Hp} {ι : List Addr}
theorem TRs.length : ∀ {kvs : List (List Ky × D)} {vs : List (List Key × V)}, TRs T K G ι kvs vs → kvs.length = vs.length
  | [], _, h => by
    have h' : _ = [] := h
    subst h'
    rfl
  | (k, x) :: r, _, ⟨v, us, e, _, h⟩ => by
    subst e
    simp [h.length]
theorem TRs.any {k : List Ky} : ∀ {kvs : List (List Ky × D)} {vs : List (List Key × V)}, TRs T K G ι kvs vs → (kvs.any fun q => decide (q.1 = k)) = vs.any fun q => decide (q.1 = k.map kyK)
  | [], _, z => by cases z; rfl
  | (j, x) :: r, _, ⟨v, w, rfl, dr, rr⟩ => by
    rw [List.any_cons, List.any_cons, TRs.any rr]
    by_cases h : j = k
    · simp only [h, decide_true, Bool.true_or]
    · have ne : ¬ j.map kyK = k.map kyK := fun z => h (kys_inj z)
      simp only [h, ne, decide_false, Bool.false_or]
end
end J
set_option Elab.async false
set_option linter.all false
set_option maxRecDepth 100000
set_option maxHeartbeats 1010000
/-! JZl: the pairs of a dict whose keys are tuples; a display with one such pair -/
namespace J
open PySem PySem.Spec L2
/-! ### {k: v} with a tuple as its one key -/
end J
set_option Elab.async false
set_option linter.all false
set_option maxRecDepth 100000
set_option maxHeartbeats 1010000
/-! JZm: list(text), list(xs) as lists that change; l.pop(i), l.remove(text); tuple(range(n)), list(range(n)) -/
namespace J
open PySem PySem.Spec L2
section
variable {T : Tab} {X : Cx} {K : PySem.W.Frag}
def toS (l : List Nat) : Str := ⟨l.toArray⟩
end
end J
set_option Elab.async false
set_option linter.all false
set_option maxRecDepth 100000
set_option maxHeartbeats 1010000
/-! JZn: zip of a text and a list, of a text and a tuple -/
namespace J
open PySem PySem.Spec L2 PyProof.Rows
end J
set_option Elab.async false
set_option linter.all false
set_option maxRecDepth 100000
set_option maxHeartbeats 1010000
/-! JZo: list(range(a, b)) -/
namespace J
open PySem PySem.Spec L2 PyProof.Rows
end J
set_option Elab.async false
set_option linter.all false
set_option maxRecDepth 100000
set_option maxHeartbeats 1010000
/-! JZp: {}, d.get(k, x), list(d) of a dict with texts or numbers as keys; zip of a tuple and a list -/
namespace J
open PySem PySem.Spec L2 PyProof.Rows
/-! ### zip of a tuple and a list -/
end J
set_option Elab.async false
set_option linter.all false
set_option maxRecDepth 100000
set_option maxHeartbeats 1010000
/-! JZq: list comprehensions of two clauses -/
namespace J
open PySem PySem.Spec L2
end J
set_option Elab.async false
set_option linter.all false
set_option maxRecDepth 100000
set_option maxHeartbeats 1010000
namespace J
open PySem PySem.Spec L2 PyProof.Rows
/-! ### sorted(xs) of texts, at any length up to a line -/
end J
set_option Elab.async false
set_option linter.all false
set_option maxRecDepth 100000
set_option maxHeartbeats 3210000
/-! JZs: len(set(texts)) -/
namespace J
open PySem PySem.Spec L2 PyProof.Rows
/-- how many different texts stand among the first -/
def difN (xs : List Str) : Nat → Nat
  | 0 => 0
  | i + 1 => if (xs.take i).any (· == xs.getD i Str.empty) then difN xs i else difN xs i + 1
theorem difN_le (xs : List Str) : ∀ i, difN xs i ≤ i
  | 0 => Nat.le_refl 0
  | i + 1 => by
    have := difN_le xs i
    unfold difN
    split <;> omega
abbrev amid (xs : List Str) (i : Nat) : Str → Bool := fun t => (xs.take i).any (· == t)
theorem amid_succ {xs : List Str} {i : Nat} (h : i < xs.length) (t : Str) : (amid xs i t || decide (t = xs.getD i Str.empty)) = amid xs (i + 1) t := by
  have e : xs.getD i Str.empty = xs[i] := by simp [h]
  show ((xs.take i).any (· == t) || _) = (xs.take (i + 1)).any (· == t)
  rw [e, List.take_succ_eq_append_getElem h, List.any_append]
  congr 1
  by_cases z : t = xs[i]
  · subst z; simp
  · have : (xs[i] == t) = false := by simpa using fun y : xs[i] = t => z y.symm
    simp [z, this]
end J
namespace J
open PySem PySem.Spec L2 PyProof.Rows PySem.Calls
abbrev emptyS (led : Bool) : Obj := { cls := .type "set", dict := none, data := .set #[] 0 (.fresh 0 0 led) }
end J
set_option Elab.async false
set_option linter.all false
set_option maxRecDepth 100000
set_option maxHeartbeats 1010000
/-! JZc: raise of an own exception that keeps one value, over any built-in base -/
namespace J
open PySem PySem.Spec L2 PyProof.Rows
end J
set_option Elab.async false
set_option linter.all false
set_option maxRecDepth 100000
set_option maxHeartbeats 1010000
/-! JZd: raise of an own exception over any built-in base, as a statement -/
namespace J
open PySem PySem.Spec L2 PyProof.Rows
end J
set_option Elab.async false
set_option linter.all false
set_option maxRecDepth 100000
set_option maxHeartbeats 1010000
/-! JZt: a caught error as a value; one clause that names three classes -/
namespace J
open PySem PySem.Spec L2 PyProof.Rows
/-! ### the value -/
end J
set_option Elab.async false
set_option linter.all false
set_option maxRecDepth 100000
set_option maxHeartbeats 1010000
/-! JZu: defs that are called while an error is handled; what they ask of it -/
namespace J
open PySem PySem.Spec L2 PyProof.Rows
/-- room, whatever is handled -/
structure RgH (k : Nat) (A : Around) : Prop where
  r : L2H.RoomH k A
  g : A.guards = some []
theorem RgH.mono {j k : Nat} {A : Around} (r : RgH k A) (h : j ≤ k) : RgH j A := ⟨r.r.mono h, r.g⟩
theorem RgH.of {k : Nat} {A : Around} (r : Rg k A) : RgH k A := ⟨L2H.roomH_of r.r, r.g⟩
theorem RgH.suite {k : Nat} {X : Cx} (r : RgH k X.A) (a : Addr) (pn : List (Addr × Obj)) : RgH k (X.suite a pn).A := ⟨⟨r.r.dp, r.r.un⟩, r.g⟩
abbrev WN : WX := fun _ _ _ _ => False
structure FnGH (P : Program) (w : World) (K : PySem.W.Frag) (mg : Str → Option Value) (base : Heap) (k : Nat) (f : Addr) (fd : FuncData) (ps : List Str) (sp : Sp) : Prop where
  len : ∀ (vs : List V) H Q E, sp vs H Q E → vs.length = ps.length
  run : ∀ (A : Around) (fr : List Env) (s : Shared) (H : Hp) (ar : Args) (us : List Value) (vs : List V) (Q : VK), RgH k A →
    Env0 P w K mg base A fr s H → BindsTo s fd ar (ps.zip us) → Vals vs us → sp vs H Q C8.E0 → codeAny (model P w) A (.call (.ref f) ar) (CR C8.CX0 fr P w H s Q C8.E0) s
theorem FnGH.mono {P : Program} {w : World} {K : PySem.W.Frag} {mg : Str → Option Value} {base : Heap} {f : Addr} {fd : FuncData} {k j : Nat} {ps : List Str} {sp : Sp} (F : FnGH P w K mg base j f fd ps sp) (h : j ≤ k) : FnGH P w K mg base k f fd ps sp :=
  ⟨F.len, fun A fr s H ar us vs Q r => F.run A fr s H ar us vs Q (r.mono h)⟩
/-! ### isinstance of a caught error -/
/-! ### e.f of a caught error -/
/-! ### xs.count(True), xs.index(True) -/
/-! ### facts of the classes that are caught -/
end J
set_option Elab.async false
set_option linter.all false
set_option maxRecDepth 100000
set_option maxHeartbeats 1010000
/-! JZv: the law's def that calls what it gets and hands a caught error on -/
namespace J
open PySem PySem.Spec L2 PyProof.Rows LamX
/-- one slot alone -/
def only {α : Type} (n i : Nat) (x : α) : List (Option α) := (List.replicate n none).set i (some x)
theorem pss_len {X : Cx} {st : List Stmt} {t : TS} (h : PSs X st t) : PSs X st (fun D σ H => σ.length = X.N.length → t D σ H) := ⟨fun pins s σ H D I q => h.run pins s σ H D I (q I.len)⟩
end J
set_option Elab.async false
set_option linter.all false
set_option maxRecDepth 100000
set_option maxHeartbeats 1010000
/-! JZw: raise of an own exception that keeps nothing -/
namespace J
open PySem PySem.Spec L2 PyProof.Rows
end J
set_option Elab.async false
set_option linter.all false
set_option maxRecDepth 100000
set_option maxHeartbeats 1010000
/-! JZx: xs.index(text) -/
namespace J
open PySem PySem.Spec L2 PyProof.Rows
/-! ### list(xs), never changed -/
end J
set_option Elab.async false
set_option linter.all false
set_option maxRecDepth 100000
set_option maxHeartbeats 1010000
/-! JZy: t < u of pairs, the least of a list of pairs, a key not in a dict -/
namespace J
open PySem PySem.Spec L2 PyProof.Rows
/-! ### t < u of pairs; the least of a list of pairs; a key not in a dict -/
end J
set_option Elab.async false
set_option linter.all false
set_option maxRecDepth 100000
set_option maxHeartbeats 1010000
/-! JYb: t < u of pairs of a number and a tuple of numbers -/
namespace J
open PySem PySem.Spec L2 PyProof.Rows
end J
set_option Elab.async false
set_option linter.all false
set_option maxRecDepth 100000
set_option maxHeartbeats 1010000
/-! JYc: a target within a target -/
namespace J
open PySem PySem.Spec L2 PyProof.Rows
end J
set_option Elab.async false
set_option linter.all false
set_option maxRecDepth 100000
set_option maxHeartbeats 1010000
/-! JZz: try: body / except (A, B, C) as e: suite, as a statement -/
namespace J
open PySem PySem.Spec L2 PyProof.Rows
end J
set_option Elab.async false
set_option linter.all false
set_option maxRecDepth 100000
set_option maxHeartbeats 1010000
/-! JYd: several clauses 'except C as e', each with a suite of its own over the error as a value -/
namespace J
open PySem PySem.Spec L2 PyProof.Rows LamX
inductive HdY (X : Cx) (n : Str) : List ExceptHandler → List (Value × TS) → Prop
  | nil : HdY X n [] []
  | cons {x : Str} {c : Value} {ts : TS} {st : Stmt} {more : List Stmt} {p1 p2 : Pos} {hds : List ExceptHandler} {l : List (Value × TS)} (nm : Names X x c)
      (su : ∀ (a : Addr) (pn : List (Addr × Obj)), PSs (X.suite a pn) (st :: more) ts) (tl : HdY X n hds l) : HdY X n (.ExceptHandler (some (.Name x p1)) (some n) (st :: more) p2 :: hds) ((c, ts) :: l)
/-! ### the clauses, told -/
/-- the suites of the clauses -/
inductive HdJ (T : Tab) (X : Cx) (n : Str) : List ExceptHandler → List (Value × IS) → Prop
  | nil : HdJ T X n [] []
  | cons {x : Str} {c : Value} {is : IS} {st : Stmt} {more : List Stmt} {p1 p2 : Pos} {hds : List ExceptHandler} {l : List (Value × IS)} (nm : Names X x c)
      (su : ∀ (a : Addr) (pn : List (Addr × Obj)), JSs T (X.suite a pn) WN (st :: more) is) (tl : HdJ T X n hds l) : HdJ T X n (.ExceptHandler (some (.Name x p1)) (some n) (st :: more) p2 :: hds) ((c, is) :: l)
/-! ### the law's def that calls what it gets, with such clauses -/
theorem HdY.len {X : Cx} {n : Str} {hds : List ExceptHandler} {T : Tab} {l : List (Value × IS)} {k : Nat} (hk : X.N.length = k) (h : HdJ T X n hds l) : HdY X n hds (l.map fun q => (q.1, fun D σ H => σ.length = k → tS T X.K WN q.2 D σ H)) := by
  induction h with
  | nil => exact .nil
  | cons nm su tl ih => exact .cons nm (fun a pn => PSs.mono (pss_len (su a pn)) fun D σ H z l => z (by rw [l]; exact hk)) ih
end J
set_option Elab.async false
set_option linter.all false
set_option maxRecDepth 100000
set_option maxHeartbeats 1010000
/-! JYe: data that does not stand in a tuple of data -/
namespace J
open PySem PySem.Spec L2 PyProof.Rows
end J
set_option Elab.async false
set_option linter.all false
set_option maxRecDepth 100000
set_option maxHeartbeats 1010000
/-! JYg: sorted(set(texts)) -/
namespace J
open PySem PySem.Spec L2 PyProof.Rows PySem.Calls
abbrev Ruled (w : World) (tab : SetTable) : Prop := w.params.followText "set-order" = true ∨ tab.led = true
def Apart (prog : Program) (w : World) (x y : Int × Value) : Prop := ∀ t, (PySem.strKind prog w).is t x.2 = true → (PySem.strKind prog w).is t y.2 = false
theorem apart_symm {prog : Program} {w : World} {x y : Int × Value} (h : Apart prog w x y) : Apart prog w y x := fun t hy => by
  rcases Bool.eq_false_or_eq_true ((PySem.strKind prog w).is t x.2) with z | z
  · rw [h t z] at hy
    cases hy
  · exact z
/-- a set of texts whose walk has a rule -/
def SetL (prog : Program) (w : World) (h : Heap) (a : Addr) (f : Str → Bool) (c : Nat) : Prop :=
  ∃ ob els ver tab, h.get? a = some ob ∧ ob.ExactSet ∧ ob.data = .set els ver tab ∧ ElemsOf (PySem.strKind prog w) els.toList ∧ (∀ t, f t = true ↔ ∃ e ∈ els.toList, (PySem.strKind prog w).is t e.2 = true) ∧
    els.size < scanBound ∧ tab.fits els.size = true ∧ els.size = c ∧ Ris tab.place.toList ∧ Ruled w tab ∧ els.toList.Pairwise (Apart prog w)
section
variable {prog : Program} {w : World} {A : Around} {E : Value → Shared → Prop} {s : Shared} {a : Addr} {f : Str → Bool} {c : Nat}
theorem setL_congr {h : Heap} {f2 : Str → Bool} (z : SetL prog w h a f c) (e : ∀ t, f t = f2 t) : SetL prog w h a f2 c := funext e ▸ z
theorem setL_tail {say : Bool → Sem Unit} (quiet : ∀ (b : Bool) (s1 : Shared) (Z : Unit → Shared → Prop), Z () s1 → wpAny (model prog w) A (say b) Z E s1)
    {ob : Obj} {els : Array (Int × Value)} {ver : Nat} {tab : SetTable} (at_ : s.heap.get? a = some ob) (ex : ob.ExactSet) (da : ob.data = .set els ver tab)
    {more : Array (Int × Value)} {tab2 : SetTable} {f2 : Str → Bool} (el : ElemsOf (PySem.strKind prog w) more.toList) (me : ∀ t, f2 t = true ↔ ∃ e ∈ more.toList, (PySem.strKind prog w).is t e.2 = true)
    (lt : more.size < scanBound) (fi : tab2.fits more.size = true) (ri : Ris tab2.place.toList) (ru : Ruled w tab2) (pw : more.toList.Pairwise (Apart prog w)) {dummy : Bool} {Z : Option Bool → Shared → Prop}
    (fin : ∀ h2, Heap.SameBut a s.heap h2 → SetL prog w h2 a f2 more.size → Z (some true) { s with heap := h2 }) :
    wpAny (model prog w) A (do
        storeSet a more tab2
        if (!dummy && tab2.tooFull) = true then do
            say (relayAll tab2 more (SetTable.grown more.size)).2.2
            storeSet a (relayAll tab2 more (SetTable.grown more.size)).1 (relayAll tab2 more (SetTable.grown more.size)).2.1
            pure (some true)
          else pure (some true)) Z E s := by
  refine wpAny_bind (wpAny_storeSet_of at_ da ?_ (fits_of_scanBound lt))
  have at2 := store_at (es' := more) (t' := tab2) at_ da
  have but := Heap.SameBut.update s.heap a (Obj.putSet more tab2)
  split
  · have p1 := relayAll_perm tab2 more (SetTable.grown more.size)
    have p2 := relayAll_fits tab2 more (SetTable.grown more.size)
    have p3 := relayAll_ris tab2 more (SetTable.grown more.size)
    have p4 := relayAll_led tab2 more (SetTable.grown more.size)
    generalize relayAll tab2 more (SetTable.grown more.size) = laid at p1 p2 p3 p4 ⊢
    obtain ⟨els3, tab3, gave⟩ := laid
    dsimp only at p1 p2 p3 p4 ⊢
    have size3 : els3.size = more.size := by simpa using p1.length_eq
    have lt3 : els3.size < scanBound := size3 ▸ lt
    refine wpAny_bind (quiet _ _ _ ?_)
    refine wpAny_bind (wpAny_storeSet_of at2 rfl ?_ (fits_of_scanBound lt3))
    have at3 := store_at (es' := els3) (t' := tab3) at2 rfl
    exact wpAny_pure (fin _ (but.trans (Heap.SameBut.update _ a _)) ⟨_, els3, _, tab3, at3, ex, rfl, el.perm p1, fun t => (me t).trans ⟨fun ⟨e, x, y⟩ => ⟨e, p1.mem_iff.mpr x, y⟩, fun ⟨e, x, y⟩ => ⟨e, p1.mem_iff.mp x, y⟩⟩, lt3, p2, size3, p3, ru.imp id fun y => p4.trans y, (p1.pairwise_iff apart_symm).mpr pw⟩)
  · exact wpAny_pure (fin _ but ⟨_, more, _, tab2, at2, ex, rfl, el, me, lt, fi, rfl, ri, ru, pw⟩)
theorem setL_add {k : Str} {tk : Tok} {Z : Bool → Shared → Prop} (z : SetL prog w s.heap a f c) (room : c + 1 < scanBound)
    (fin : ∀ h2, Heap.SameBut a s.heap h2 → SetL prog w h2 a (fun t => f t || decide (t = k)) (if f k then c else c + 1) → Z (!f k) { s with heap := h2 }) :
    wpAny (model prog w) A (setAddHashed a (.str k tk) ((PySem.strKind prog w).hash k)) Z E s := by
  obtain ⟨ob, els, ver, tab, at_, ex, da, el, me, lt, fi, sz, ri, ru, pw⟩ := z
  have key : (PySem.strKind prog w).is k (.str k tk) = true := strKind_is _ _ _ _
  have sc : (Value.str k tk).scannable = true := rfl
  unfold setAddHashed
  unfold setAddHashedIn
  refine wpAny_holding (wpAny_bind (wpAny_setState_of at_ da fi ?_))
  dsimp only
  rw [byScan_of sc lt el]
  simp only [↓reduceIte]
  unfold setAddByScan
  refine wpAny_bind ?_
  refine wpAny_bind (wpAny_rule (?_ : _))
  refine wpAny_bind (wpAny_setScan_of key at_ da fi el ?_)
  cases seen : List.findIdx? (fun e => (PySem.strKind prog w).is k e.2) els.toList with
  | some j =>
    dsimp only
    obtain ⟨jl, jk, _⟩ := List.findIdx?_eq_some_iff_getElem.mp seen
    have has : f k = true := (me k).mpr ⟨_, List.getElem_mem jl, jk⟩
    have y := fin s.heap (Heap.SameBut.refl a s.heap) ⟨ob, els, ver, tab, at_, ex, da, el, fun t => by
      rw [← me t, Bool.or_eq_true, decide_eq_true_eq]
      exact ⟨fun h => h.elim id fun e => by rw [e]; exact has, .inl⟩, lt, fi, by rw [has]; exact sz, ri, ru, pw⟩
    rw [has] at y
    exact wpAny_pure (wpAny_pure y)
  | none =>
    dsimp only
    have has : f k = false := by
      rcases Bool.eq_false_or_eq_true (f k) with y | y
      · obtain ⟨e, x, p⟩ := (me k).mp y
        have := List.findIdx?_eq_none_iff.mp seen e x
        rw [p] at this
        cases this
      · exact y
    have p1 := layNew_perm tab els ((PySem.strKind prog w).hash k) (.str k tk)
    have p2 := layNew_fits tab els ((PySem.strKind prog w).hash k) (.str k tk)
    have p3 := layNew_ris tab els ((PySem.strKind prog w).hash k) (.str k tk) ri
    have p4 := layNew_led tab els ((PySem.strKind prog w).hash k) (.str k tk)
    generalize layNew tab els ((PySem.strKind prog w).hash k) (.str k tk) = laid at p1 p2 p3 p4 ⊢
    obtain ⟨els1, tab1, dummy, gave⟩ := laid
    dsimp only at p1 p2 p3 p4 ⊢
    rw [Array.toList_push] at p1
    have el1 : ElemsOf (PySem.strKind prog w) els1.toList := (el.push key sc).perm p1
    have me1 : ∀ t, (f t || decide (t = k)) = true ↔ ∃ e ∈ els1.toList, (PySem.strKind prog w).is t e.2 = true := mem_push_iff key me p1
    have size1 : els1.size = c + 1 := by have := p1.length_eq; simp at this; omega
    have lt1 : els1.size < scanBound := by omega
    have pw1 : els1.toList.Pairwise (Apart prog w) := (p1.pairwise_iff apart_symm).mpr (List.pairwise_append.mpr ⟨pw, List.pairwise_singleton _ _, fun e he e2 he2 t ht => by
      rw [List.mem_singleton.mp he2]
      rcases Bool.eq_false_or_eq_true ((PySem.strKind prog w).is t (Value.str k tk)) with y | y
      · have same : t = k := (PySem.strKind prog w).inj _ t k y key
        rw [same] at ht
        have := List.findIdx?_eq_none_iff.mp seen e he
        rw [ht] at this
        cases this
      · exact y⟩)
    have ru1 : Ruled w tab1 := ru.imp id fun y => p4.trans y
    have last : ∀ h2, Heap.SameBut a s.heap h2 → SetL prog w h2 a (fun t => f t || decide (t = k)) els1.size → Z true { s with heap := h2 } := fun h2 but y => by
      have x := fin h2 but
      rw [has] at x
      exact x (size1 ▸ y)
    have quiet : ∀ (b : Bool) (s1 : Shared) (Y : Unit → Shared → Prop), Y () s1 → wpAny (model prog w) A (match b with | true => rule "set.scan.the-table-gave-way" | false => pure ()) Y E s1 := fun b s1 Y y => by
      cases b
      · exact wpAny_pure y
      · exact wpAny_rule y
    refine wpAny_bind (quiet _ _ _ ?_)
    split
    · refine wpAny_bind ?_
      rw [hashByValue_scannable 8 sc]
      refine wpAny_pure ?_
      refine setL_tail quiet at_ ex da el1 me1 lt1 ?_ ?_ ?_ pw1 ?_
      · first | exact p2 | (split <;> first | exact p2 | exact SetTable.fits_plain_off p2)
      · first | exact p3 | (split <;> exact p3)
      · first | exact ru1 | (split <;> exact ru1)
      · intro h2 but y
        exact wpAny_pure (last h2 but y)
    · refine wpAny_bind (wpAny_pure (?_ : _))
      simp only [↓reduceIte]
      refine setL_tail quiet at_ ex da el1 me1 lt1 p2 p3 ru1 pw1 ?_
      intro h2 but y
      exact wpAny_pure (last h2 but y)
end
section
variable {A : Around} {prog : Program} {w : World} {I : Addr} {R : Result → Shared → Prop} {fp wr : List Addr} {G : Array GenState → Array GenState → Prop} {n : Nat} {P : Nat → Value → Prop} {St : Nat → Shared → Prop}
theorem fill_ruled (W : WalksS prog w A.in1 I fp wr G n P St) {S : Addr} (out : S ∉ fp) {xs : List Str} (len : xs.length = n) (few : n < 4000) (txt : ∀ i v, P i v → ∃ t, v = .str (xs.getD i Str.empty) t)
    : ∀ (m i : Nat) (s : Shared), i + m = n → St i s → SetL prog w s.heap S (amid xs i) (difN xs i) → (∀ s', Moved (S :: wr) G s s' → SetL prog w s'.heap S (amid xs n) (difN xs n) → R (.ok (.ret .none)) s') → codeAny (model prog w) A (.builtin "set.update.loop" ⟨[.ref S, .ref I], []⟩) R s := by
  have outw : S ∉ wr := fun z => out (W.sub _ z)
  have more : ∀ b ∈ wr, b ∈ S :: wr := fun b z => .tail _ z
  have keep : ∀ {a b : Shared} {f : Str → Bool} {c : Nat}, Moved wr G a b → SetL prog w a.heap S f c → SetL prog w b.heap S f c := fun mv z => by
    obtain ⟨o, es, ep, tb, at_, rest⟩ := z
    exact ⟨o, es, ep, tb, mv.heap S _ outw at_, rest⟩
  intro m
  induction m with
  | zero =>
    rintro i s e st sets fin
    obtain rfl : i = n := by omega
    refine codeAny_builtin PyProof.Rows.F.entry_set_update_loop (?_ : _)
    rw [Around.under_plainId (PyProof.Rows.F.plain_set_update_loop) _]
    refine wpAny_bind (m := pyNext (.ref I)) (W.done s _ _ st fun s' mv' => ?_)
    exact wpAny_pure (fin s' (mv'.mono more) (keep mv' sets))
  | succ m ih =>
    rintro i s e st sets fin
    have lt : i < n := by omega
    refine codeAny_builtin PyProof.Rows.F.entry_set_update_loop (?_ : _)
    rw [Around.under_plainId (PyProof.Rows.F.plain_set_update_loop) _]
    refine wpAny_bind (m := pyNext (.ref I)) (W.item i s _ _ lt st fun v s' hv st' mv' => ?_)
    obtain ⟨t, rfl⟩ := txt i v hv
    refine wpAny_bind (m := holding [Value.str (xs.getD i Str.empty) t] (setAdd S (.str (xs.getD i Str.empty) t))) (wpAny_holding ?_)
    unfold setAdd
    refine wpAny_holding (wpAny_bind ((PySem.strKind prog w).pyHash (k := xs.getD i Str.empty) (strKind_is _ _ _ _) ?_))
    have sets1 := keep mv' sets
    have room : difN xs i + 1 < scanBound := by
      have := difN_le xs i
      unfold scanBound
      omega
    refine setL_add (s := { s' with toks := s'.toks + 1 }) sets1 room fun h' but sets2 => ?_
    have next : SetL prog w h' S (amid xs (i + 1)) (difN xs (i + 1)) := setL_congr sets2 (amid_succ (by omega))
    refine wpAny_pure ⟨plainId_quiet PyProof.Rows.F.plain_set_update_loop _, ih (i + 1) _ (by omega) (W.frame _ s' _ _ st' (Nat.le_succ _) fun b hb o z => ?_) next fun s2 mv2 sets3 => fin s2 (Moved.trans W.gtrans ((mv'.mono more).then_heap (Nat.le_succ _) fun b o hb z => ?_) mv2) sets3⟩
    · rw [but.2 b fun y : b = S => out (y ▸ hb)]
      exact z
    · rw [but.2 b fun y : b = S => hb (y ▸ List.mem_cons_self)]
      exact z
end
end J
namespace J
open PySem PySem.Spec L2 PyProof.Rows PySem.Calls
abbrev ledOf (w : World) : Bool := !w.params.followText "set-order"
theorem ledOf_ruled {w : World} : Ruled w (.fresh 0 0 (ledOf w)) := by
  show _ ∨ ledOf w = true
  unfold ledOf
  cases told : w.params.followText "set-order"
  · exact .inr rfl
  · exact .inl rfl
section
variable {s : Shared} {prog : Program} {w : World} {E : Value → Shared → Prop} {A : Around}
theorem set_ruled {l : Addr} {items : Array Value} {xs : List Str} {Q : Value → Shared → Prop} (calm : A.handled = none) (isL : s.heap.IsList l items) (txt : StrsAre items.toList xs) (few : xs.length < 4000)
    (go : ∀ (h1 : Heap) (tk : Nat), SetL prog w h1 s.heap.objs.size (amid xs xs.length) (difN xs xs.length) → (∀ b o, b < s.heap.objs.size → s.heap.get? b = some o → h1.get? b = some o) → Q (.ref s.heap.objs.size) { s with heap := h1, toks := tk }) : wpAny (model prog w) A (call (.type "set") [.ref l]) Q E s := by
  obtain ⟨mc, mt, mro⟩ := PySem.F.called_set.mro
  have made := PySem.F.called_set.made
  have sub := PySem.F.called_set.sub
  have no1 := PySem.F.called_set.notType
  have can := PySem.F.called_set.canCreate
  have one := PySem.F.typeCall_set_1 (.ref l)
  have size : xs.length = items.size := by rw [← StrsAre.len_eq txt, Array.length_toList]
  refine wpAny_call (codeAny_of_tree (?_ : _))
  change wpAny _ _ (callAny (.type "set") _) _ _ _
  refine wpAny_pure ⟨Code.quiet_builtin _ (by decide +kernel), codeAny_builtin PySem.F.entry_type_call (?_ : _)⟩
  rw [Around.under_plain (weight_type_call_type "set" [.ref l] []) (by rfl)]
  repeat (any_goals (first | assumption | (wp_step)))
  refine codeAny_mono (code_set_led1 (.ref l) (E := E) (Q₁ := fun v s1 => v = .ref s.heap.objs.size ∧ s1 = { s with heap := s.heap.push (emptyS (ledOf w)) }) ⟨rfl, rfl⟩) fun r s1 hr => ?_
  rcases r with e | fl
  · exact hr
  cases fl with
  | ret v =>
    obtain ⟨rfl, rfl⟩ := hr
    have at_ : (s.heap.push (emptyS (ledOf w))).get? s.heap.objs.size = some (emptyS (ledOf w)) := Heap.get?_push_size _ (by rfl)
    have ty : Shared.TypeIs { s with heap := s.heap.push (emptyS (ledOf w)) } (.ref s.heap.objs.size) "set" := ⟨_, at_, rfl⟩
    have look := PySem.F.called_set.init.lookup
    have bind := PySem.F.called_set.init.bind (.ref s.heap.objs.size)
    repeat (any_goals (first | assumption | (wp_step)))
    refine codeAny_mono (codeAny_call_builtin (R := wants (fun r s2 => r = .none ∧ ∃ h1 tk, s2 = { s with heap := h1, toks := tk } ∧ SetL prog w h1 s.heap.objs.size (amid xs xs.length) (difN xs xs.length) ∧ ∀ b o, b < s.heap.objs.size → s.heap.get? b = some o → h1.get? b = some o) E) PySem.F.called_set.init.plain PySem.F.entry_set_init (check_set_init_1 ty ?_)) fun r2 s2 hr2 => ?_
    · obtain ⟨⟨lc, ld, la, lsl⟩, lget, lcls, ln, ldata⟩ := isL
      dsimp only at lcls ldata
      subst lcls ldata
      have lget1 := Heap.get?_push_of_some (emptyS (ledOf w)) lget
      have isL1 : (s.heap.push (emptyS (ledOf w))).IsList l items := ⟨_, lget1, rfl, ln, rfl⟩
      have ls := PySem.F.sub_list_set
      have lf := PySem.F.sub_list_frozenset
      have ld0 : (Value.type "list" == Value.type "dict") = false := by decide
      unfold Builtin.«set.__init__»
      unfold noKeywords Builtin.Frozenset.updateFrom
      generalize iter : pyIter = pi_
      wp_walk
      subst iter
      refine wpAny_pyIter_list isL1 (wpAny_bind (wpAny_runValue ?_))
      have low : l < s.heap.objs.size := Heap.lt_size lget
      have up : (s.heap.push (emptyS (ledOf w))).objs.size = s.heap.objs.size + 1 := Heap.size_push ..
      refine fill_ruled (S := s.heap.objs.size) (xs := xs) ((Walks.list (by simp [calm]) _ l (by rw [up]; exact Nat.ne_of_lt (Nat.lt_succ_of_lt low)) items).toS) (by rw [up]; exact fun z => (List.mem_cons.mp z).elim (Nat.ne_of_lt (Nat.lt_succ_self _)) fun y => Nat.ne_of_gt low (List.mem_singleton.mp y)) size (by omega) (fun i v hv => SS.strs_at txt i v (by rw [Array.getElem?_toList]; exact hv)) items.size 0 _ (Nat.zero_add _) ⟨⟨_, Heap.get?_push_size _ (by rfl), rfl, rfl⟩, isL1.push _⟩ ?_ ?_
      · exact setL_congr (f := fun _ => false) ⟨_, #[], 0, _, Heap.get?_push_of_some _ at_, ⟨rfl, rfl, rfl⟩, rfl, fun e he => by simp at he, fun t => by simp, by unfold scanBound; decide, rfl, rfl, List.Pairwise.nil, ledOf_ruled, List.Pairwise.nil⟩ (fun _ => rfl)
      · rintro ⟨h1, g1, d1, tk1, os1⟩ mv sets
        obtain rfl : g1 = s.gens := mv.gens
        obtain rfl : d1 = s.drawn := mv.drawn
        obtain rfl : os1 = s.os := mv.os
        refine wpAny_pure (wpAny_pure ⟨rfl, h1, tk1, rfl, by rw [size]; exact sets, fun b o hb z => ?_⟩)
        exact mv.heap b o (by rw [up]; exact fun z => (List.mem_cons.mp z).elim (Nat.ne_of_lt hb) fun y => Nat.ne_of_lt (Nat.lt_succ_of_lt hb) (List.mem_singleton.mp y)) (Heap.get?_push_of_some _ (Heap.get?_push_of_some _ z))
    · rcases r2 with e | fl2
      · exact hr2
      cases fl2 with
      | ret v2 =>
        obtain ⟨rfl, h1, tk, rfl, sets, old⟩ := hr2
        repeat (any_goals (first | assumption | (wp_step)))
        exact go _ _ sets old
      | _ => exact hr2.elim
  | _ => exact hr.elim
end
theorem texts_out {prog : Program} {w : World} : ∀ {els : List (Int × Value)}, ElemsOf (PySem.strKind prog w) els → ∃ ts : List Str, StrsAre (els.map (·.2)) ts ∧ (∀ t, t ∈ ts ↔ ∃ e ∈ els, (PySem.strKind prog w).is t e.2 = true) ∧ (els.Pairwise (Apart prog w) → ts.Nodup)
  | [], _ => ⟨[], .nil, by simp, fun _ => List.nodup_nil⟩
  | x :: els, h => by
    obtain ⟨ts, h1, h2, h3⟩ := texts_out h.tail
    obtain ⟨⟨k, hk, _⟩, _⟩ := h.head
    obtain ⟨hx, v⟩ := x
    obtain ⟨tk, rfl⟩ := Value.isStrOf_shape hk
    have one : ∀ t, (PySem.strKind prog w).is t (.str k tk) = true ↔ t = k := fun t => ⟨fun z => (PySem.strKind prog w).inj _ t k z (strKind_is _ _ _ _), fun z => by rw [z]; exact strKind_is _ _ _ _⟩
    refine ⟨k :: ts, .cons k tk h1, fun t => ?_, fun pw => ?_⟩
    · rw [List.mem_cons, h2 t]
      constructor
      · rintro (rfl | ⟨e, x, y⟩)
        · exact ⟨_, List.mem_cons_self, strKind_is _ _ _ _⟩
        · exact ⟨e, List.mem_cons_of_mem _ x, y⟩
      · rintro ⟨e, x, y⟩
        rcases List.mem_cons.mp x with rfl | x
        · exact .inl ((one t).mp y)
        · exact .inr ⟨e, x, y⟩
    · obtain ⟨q1, q2⟩ := List.pairwise_cons.mp pw
      refine List.nodup_cons.mpr ⟨fun z => ?_, h3 q2⟩
      obtain ⟨e, x, y⟩ := (h2 k).mp z
      have := q1 e x k (strKind_is _ _ _ _)
      rw [y] at this
      cases this
theorem strs_perm : ∀ {vs us : List Value}, vs.Perm us → ∀ {ts : List Str}, StrsAre us ts → ∃ rs : List Str, StrsAre vs rs ∧ rs.Perm ts := by
  intro vs us p
  induction p with
  | nil => exact fun h => ⟨_, h, .refl _⟩
  | cons x _ ih =>
    intro ts h
    cases h with
    | cons y t h =>
      obtain ⟨rs, h1, h2⟩ := ih h
      exact ⟨y :: rs, .cons y t h1, h2.cons y⟩
  | swap x y l =>
    intro ts h
    cases h with
    | cons a t h => cases h with
      | cons b u h => exact ⟨b :: a :: _, .cons b u (.cons a t h), .swap ..⟩
  | trans _ _ ih1 ih2 =>
    intro ts h
    obtain ⟨rs, h1, h2⟩ := ih2 h
    obtain ⟨qs, h3, h4⟩ := ih1 h1
    exact ⟨qs, h3, h4.trans h2⟩
theorem sorted_ruled {s : Shared} {prog : Program} {w : World} {E : Value → Shared → Prop} {A : Around} {a : Addr} {f : Str → Bool} {c : Nat} {Q : Value → Shared → Prop} (calm : A.handled = none) (z : SetL prog w s.heap a f c) (few : c < 4000)
    (go : ∀ (s2 : Shared) (p : Addr) (out : Array Value) (n : Nat) (ts : List Str), (∀ b o, s.heap.get? b = some o → s2.heap.get? b = some o) → s2.gens = s.gens → s2.os = s.os → s.heap.objs.size ≤ p →
      s2.heap.get? p = some (seqObj "list" out n) → StrsAre out.toList ts → sortedS ts = true → ts.Nodup → (∀ t, t ∈ ts ↔ f t = true) → ts.length = c → Q (.ref p) s2) : wpAny (model prog w) A (call (.builtin "sorted") [.ref a]) Q E s := by
  obtain ⟨ob, els, ver, tab, at_, ex, da, el, me, lt, fi, sz, ri, ru, pw⟩ := z
  refine Calls.call_function_entry kind_sorted plain_sorted entry_sorted (args_sorted1 _) (?_ : _)
  unfold Builtin.«sorted»
  refine wpAny_bind (m := checkCount "sorted" 1 1 _) (wpAny_pure (?_ : _))
  refine wpAny_bind (collect_set (A := A.in1) calm ⟨ob, at_, ex.1, da⟩ fi lt ri ru fun s1 vs k1 hz g1 o1 pm => ?_)
  obtain ⟨us, u1, u2, u3⟩ := texts_out el
  obtain ⟨ts, t1, t2⟩ := strs_perm pm u1
  have vl : vs.length = c := by rw [pm.length_eq, List.length_map, Array.length_toList]; exact sz
  have line : vs.length ≤ sizeLine := by rw [vl, sizeLine_eq]; omega
  refine wpAny_bind (wpAny_newList ?_ line)
  have oL : (s1.heap.push (seqObj "list" vs.toArray 0)).get? s1.heap.objs.size = some (seqObj "list" vs.toArray 0) := Heap.get?_push_size _ (by rfl)
  refine wpAny_bind (wpAny_holding (wpAny_call_entry slot_list_sort ⟨_, oL, by rfl⟩ entry_list_sort (list_sort_treeKAny strKind_oneLt oL t1.keysOf (fun v1 v2 rest e => keyKind_strs (by rw [← e]; exact t1)) line fun st hp hs => ⟨_, rfl, ?_⟩) (args_list_sort _)))
  obtain ⟨rs, r1, r2, r3⟩ := sorted_out_str t1 hp hs
  obtain ⟨n, hn⟩ := sortedHeap_at (vs := vs) (out := (arrOf st).map (·.2)) oL
  have pr := r2.trans t2
  refine wpAny_pure ⟨_, rfl, go _ s1.heap.objs.size _ n rs (fun b o e => ?_) g1 o1 hz hn r1 r3 (pr.nodup_iff.mpr (u3 pw)) (fun t => by rw [pr.mem_iff, u2 t, me t]) ?_⟩
  · have old := k1 b o e
    have low := Heap.lt_size old
    exact ((sortedHeap_old (Nat.ne_of_lt low) (by rw [size_push']; exact Nat.lt_succ_of_lt low)).trans (Heap.get?_push_of_some _ old))
  · rw [← StrsAre.len_eq r1, ← vl, Array.length_toList, Array.size_map]
    have := hp.size_eq
    rw [pairsOf_size] at this
    exact this
end J
namespace J
open PySem PySem.Spec L2 PyProof.Rows
/-- sorted(set(xs)), xs a list of texts -/
def tSrtS (K : PySem.W.Frag) (ta : TE) : TE := fun σ H Q => ta σ H fun x H1 => ∃ l, ∃ xs : List Str, x = .ref l ∧ SqL K H1 l (xs.map V.str) ∧ xs.length < 4000 ∧
  ∀ (ys : List Str) (q : Addr), H1 q = none → sortedS ys = true → ys.Nodup → (∀ t, t ∈ ys ↔ t ∈ xs) → Q (.ref q) (upd H1 q (.lst (ys.map V.str)))
theorem pe_srtS {X : Cx} {a : Expr} {ta : TE} {p p2 q pos : Pos} (calm : X.calm = true) (hg : Gl X "sorted") (hm : X.mg "sorted" = none) (hg2 : Gl X "set") (hm2 : X.mg "set" = none) (ha : PE X a ta) (na : starEach [a] X.env = (false, eval a X.env) :: starEach [] X.env := by rfl) : PE X (.Call (.Name "sorted" p) [.Call (.Name "set" p2) [a] [] q] [] pos) (tSrtS X.K ta) := by
  constructor
  intro pins s σ H Q inv want
  refine Call_ (ld_blt inv hg hm (show bootBuiltins "sorted" = some (.builtin "sorted") by decide +kernel) (callWith_builtin1 (args_cons ?_ (by rfl)) (by rfl) (by rfl)))
  refine Call_ (ld_blt inv hg2 hm2 boot_set (callWith_type1 (args_cons (thn (ha.run pins s σ H _ inv want) ?_) na) na (by rfl)))
  rintro v s1 ⟨x, H1, inv1, rx, l, xs, rfl, sq, few, fin⟩
  cases rx
  obtain ⟨its, el, isL, _⟩ := inv1.list sq
  refine args_nil (set_ruled (inv1.ok.hd calm) isL.isList (by simpa using strsAre_of el) few fun h1 tk sets old => args_nil ?_)
  have inv2 : Inv X pins σ H1 { s1 with heap := h1, toks := tk } := inv1.kept fun b o z => old b o (Heap.lt_size z) z
  refine sorted_ruled (inv2.ok.hd calm) sets (by have := difN_le xs xs.length; omega) fun s2 p out n ts k g o hp hn r1 so nd mem len => ?_
  have fresh : H1 p = none := inv2.hok.fresh hp
  have line : (ts.map V.str).length ≤ sizeLine := by
    have := difN_le xs xs.length
    rw [List.length_map, len, sizeLine_eq]
    omega
  have inv3 : Inv X pins σ (upd H1 p (.lst (ts.map V.str))) { { s1 with heap := h1, toks := tk } with heap := s2.heap, gens := s2.gens, drawn := s2.drawn, toks := s2.toks } :=
    inv2.call (ch := []) (Un.laid k hp fresh) (inv2.hok.laid k hp ⟨line, out.toList, n, vals_of_strs r1, hn⟩) (by rw [g]; exact inv2.bare) (fun _ z => nomatch z)
  have same : s2 = { { s1 with heap := h1, toks := tk } with heap := s2.heap, gens := s2.gens, drawn := s2.drawn, toks := s2.toks } := by
    cases s2
    cases o
    rfl
  rw [same]
  refine ⟨.ref p, _, inv3, rfl, fin ts p fresh so nd fun t => ?_⟩
  rw [mem t]
  show ((xs.take xs.length).any (· == t)) = true ↔ t ∈ xs
  rw [List.take_length, List.any_eq_true]
  constructor
  · rintro ⟨y, hy, e⟩
    exact eq_of_beq e ▸ hy
  · exact fun h => ⟨t, h, beq_self_eq_true t⟩
/-- each text once -/
def onceL : List (List Nat) → List (List Nat)
  | [] => []
  | x :: r => if x ∈ r then onceL r else x :: onceL r
theorem once_mem {x : List Nat} : ∀ {r : List (List Nat)}, x ∈ onceL r ↔ x ∈ r
  | [] => .rfl
  | y :: r => by
    unfold onceL
    by_cases h : y ∈ r
    · rw [if_pos h, once_mem, List.mem_cons]
      exact ⟨.inr, fun z => z.elim (fun e => e ▸ h) id⟩
    · rw [if_neg h, List.mem_cons, List.mem_cons, once_mem]
theorem once_nodup : ∀ r : List (List Nat), (onceL r).Nodup
  | [] => List.nodup_nil
  | y :: r => by
    unfold onceL
    by_cases h : y ∈ r
    · rw [if_pos h]
      exact once_nodup r
    · rw [if_neg h]
      exact List.nodup_cons.mpr ⟨fun z => h (once_mem.mp z), once_nodup r⟩
def srtS (d : D) (S : Store) : Option D := match seqL d S with
  | some l => (match strsOf l with
    | some ss => if ss.length < 4000 then some (.lst ((sortS (onceL ss)).map .str)) else none
    | none => none)
  | none => none
def iSrtS (ie : IE) : IE := fun ρ => M.bind (ie ρ) fun d S => lift (srtS d S) S
theorem txt_inj {a b : List Nat} (h : (⟨a.toArray⟩ : Str) = ⟨b.toArray⟩) : a = b := by
  injection h with e
  simpa using congrArg Array.toList e
theorem je_srtS {T : Tab} {X : Cx} {W : WX} {a : Expr} {ia : IE} {p p2 q pos : Pos} (calm : X.calm = true) (hg : Gl X "sorted") (hm : X.mg "sorted" = none) (hg2 : Gl X "set") (hm2 : X.mg "set" = none) (ha : JE T X W a ia) (na : starEach [a] X.env = (false, eval a X.env) :: starEach [] X.env := by rfl) : JE T X W (.Call (.Name "sorted" p) [.Call (.Name "set" p2) [a] [] q] [] pos) (iSrtS ia) := by
  refine PE.mono (pe_srtS calm hg hm hg2 hm2 ha na) fun σ H Q ⟨ρ, F, S, ι, G, em, sr, h⟩ => ?_
  refine ⟨ρ, F, S, ι, G, em, sr, Thn.bind (rel2 := DR T X.K) h fun x S1 vx ι1 G1 H1 em1 x1 dx h1 => ?_⟩
  unfold srtS at h1
  cases q1 : seqL x S1 with
  | none => rw [q1] at h1; exact h1.elim
  | some l =>
    rw [q1] at h1
    dsimp only at h1
    cases q2 : strsOf l with
    | none => rw [q2] at h1; exact h1.elim
    | some ss =>
      rw [q2] at h1
      dsimp only at h1
      by_cases few : ss.length < 4000
      · rw [if_pos few] at h1
        obtain ⟨b, ws, rfl, at_, rs⟩ := seqL_ok em1 dx q1
        have e := strsOf_ok rs q2
        refine ⟨b, ss.map fun l => (⟨l.toArray⟩ : Str), rfl, by rw [← e]; exact SqL.of at_, by rw [List.length_map]; exact few, fun ys p free so nd mem => ?_⟩
        have perm : ys.Perm ((onceL ss).map fun l => (⟨l.toArray⟩ : Str)) := by
          refine (List.perm_ext_iff_of_nodup nd ?_).mpr fun t => ?_
          · refine List.pairwise_map.mpr ((once_nodup ss).imp fun ne z => ne (txt_inj z))
          · rw [mem t, List.mem_map, List.mem_map]
            exact ⟨fun ⟨u, x, y⟩ => ⟨u, once_mem.mpr x, y⟩, fun ⟨u, x, y⟩ => ⟨u, once_mem.mp x, y⟩⟩
        obtain ⟨em2, x2⟩ := em1.frz (o := .lst (ys.map V.str)) free
        refine Thn.ok (Thn.ext h1 x2) em2 (v := .ref p) ?_
        simp only [DR]
        refine ⟨p, _, rfl, upd_same, ?_⟩
        rw [sort_same perm so]
        exact strs_dr _
      · rw [if_neg few] at h1
        exact h1.elim
end J
set_option Elab.async false
set_option linter.all false
set_option maxRecDepth 100000
set_option maxHeartbeats 1010000
/-! JYh: t[::-1], t a tuple -/
namespace J
open PySem PySem.Spec L2 PyProof.Rows
section
variable {A : Around} {prog : Program} {w : World} {E : Value → Shared → Prop} {s : Shared}
theorem back_adjust (n : Nat) : Builtin.Slice.sliceAdjust none none (-1) (n : Int) = ((n : Int) - 1, -1) := rfl
theorem back_places (n : Nat) : Builtin.Slice.slicePlaces ((n : Int) - 1) (-1) (-1) = n := by
  unfold Builtin.Slice.slicePlaces at *
  rw [if_neg (by decide)]
  by_cases h : ((n : Int) - 1 > -1)
  · rw [if_pos h]
    have e : (((n : Int) - 1) - -1 - 1) / (- -1) = (n : Int) - 1 := by
      rw [show (- -1 : Int) = 1 by decide]
      rw [Int.ediv_one]
      omega
    rw [e]
    omega
  · rw [if_neg h]
    omega
theorem back_pick (xs : Array Value) : ((List.range xs.size).filterMap fun (k : Nat) => xs[(((xs.size : Int) - 1) + (k : Int) * (-1)).toNat]?) = xs.toList.reverse := by
  have e : ((List.range xs.size).filterMap fun (k : Nat) => xs[(((xs.size : Int) - 1) + (k : Int) * (-1)).toNat]?) = ((List.range xs.size).map fun k => xs.size - 1 - k).filterMap (xs[·]?) := by
    rw [List.filterMap_map]
    congr 1
    funext k
    show _ = xs[xs.size - 1 - k]?
    congr 1
    omega
  rw [e, PySem.W.krv_range, List.filterMap_reverse, PySem.W.krv_all]
theorem back_applied {sl : Addr} {tk : Tok} {n : Nat} {Q : Int × Int × Nat → Shared → Prop} (hs : s.heap.IsSliceOf sl .none .none (.int (-1) tk)) (q : Q ((n : Int) - 1, -1, n) s) : wpAny (model prog w) A (Builtin.Slice.sliceApplied (.ref sl) (pure (n : Int))) Q E s := by
  obtain ⟨ob, at_, cl, da⟩ := id hs
  unfold Builtin.Slice.sliceApplied
  unfold Builtin.Slice.sliceFields
  refine wpAny_bind (wpAny_bind (wpAny_field at_ da (x := .none) rfl (wpAny_bind (wpAny_field at_ da (x := .none) rfl (wpAny_bind (wpAny_field at_ da (x := .int (-1) tk) rfl (wpAny_pure ?_)))))))
  refine wpAny_bind (slicePart_int ?_)
  show wpAny _ _ (if ((-1 : Int) == 0) = true then _ else _) _ _ s
  rw [if_neg (show ¬ ((-1 : Int) == 0) = true by decide)]
  refine wpAny_bind (slicePart_none (wpAny_bind (slicePart_none (wpAny_bind (wpAny_pure ?_)))))
  show wpAny _ _ (match Builtin.Slice.sliceAdjust none none (-1) (n : Int) with | (lo, hi) => pure (lo, (-1 : Int), Builtin.Slice.slicePlaces lo hi (-1))) _ _ s
  rw [back_adjust]
  show wpAny _ _ (pure ((n : Int) - 1, (-1 : Int), Builtin.Slice.slicePlaces ((n : Int) - 1) (-1) (-1))) _ _ s
  rw [back_places]
  exact wpAny_pure q
theorem back_tuple {t sl : Addr} {items : Array Value} {tk : Tok} {Q : Value → Shared → Prop} (ht : IsTup s.heap t items) (hs : s.heap.IsSliceOf sl .none .none (.int (-1) tk))
    (q : Q (.ref s.heap.objs.size) { s with heap := s.heap.push { cls := .type "tuple", data := .seq items.toList.reverse.toArray } }) (few : items.size ≤ sizeLine) : wpAny (model prog w) A (getItem (.ref t) (.ref sl)) Q E s := by
  have big : sizeOk (.seq items.toList.reverse.toArray) := by
    show items.toList.reverse.toArray.size ≤ sizeLine
    simpa using few
  obtain ⟨ob, at_, cl, da⟩ := id hs
  have ty : s.TypeIs (.ref sl) "slice" := ⟨ob, at_, cl⟩
  unfold getItem
  try with_reducible refine wpAny_holding (?_ : _)
  first | refine wpAny_bind (wpAny_pure (?_ : _)) | skip
  refine wpAny_bind (wpAny_sequenceKey ht.typeIs (by decide) (?_ : _))
  refine wpAny_bind (wpAny_callSpecial?_slot (name := Str.ofString "__getitem__") ht.typeIs slot_tuple_getitem (wpAny_call_entry slot_tuple_getitem ht.typeIs entry_tuple_getitem ?_ (args_tuple_getitem _ _)))
  change wpAny _ _ (Builtin.Tuple.tupleItemsOf (.ref t) >>= _) _ _ s
  refine wpAny_bind (tupleItemsOf_ ht (?_ : _))
  refine wpAny_bind (wpAny_typeOf ty ?_)
  rw [if_pos (show (Value.type "slice" == Value.type "slice") = true by decide)]
  refine wpAny_bind (back_applied hs ?_)
  have no : ¬ ((((items.size : Int) - 1) == 0 && (-1 : Int) == 1 && items.size == items.size) = true) := by
    rw [show ((-1 : Int) == 1) = false by decide, Bool.and_false, Bool.false_and]
    decide
  show wpAny _ _ (if (((items.size : Int) - 1) == 0 && (-1 : Int) == 1 && items.size == items.size) = true then _ else _) _ _ s
  rw [if_neg no, back_pick]
  first
    | exact wpAny_bind (m := Builtin.Tuple.tupleExact _) (wpAny_newObj_type (wpAny_pure ⟨_, rfl, wpAny_pure q⟩) big)
    | exact wpAny_bind (m := Builtin.Tuple.tupleExact _) (wpAny_newObj_type (wpAny_bind (wpAny_pure (wpAny_pure ⟨_, rfl, wpAny_pure q⟩))) big)
    | exact wpAny_bind (wpAny_bind (m := Builtin.Tuple.tupleExact _) (wpAny_newObj_type (wpAny_pure (wpAny_pure ⟨_, rfl, wpAny_pure q⟩)) big))
    | exact wpAny_bind (wpAny_bind (m := Builtin.Tuple.tupleExact _) (wpAny_newObj_type (wpAny_pure ⟨_, rfl, wpAny_pure q⟩) big))
end
def revT : D → Store → Option D
  | .tup xs, _ => some (.tup xs.reverse)
  | _, _ => none
def iRevT (ie : IE) : IE := fun ρ => M.bind (ie ρ) fun d => fun S => lift (revT d S) S
theorem je_revT {T : Tab} {X : Cx} {W : WX} {e : Expr} {ie : IE} {pos p2 p3 p4 : Pos} {kk : Nat} (he : JE T X W e ie) : JE T X W (.Subscript e (.Slice none none (some (.UnaryOp .USub (.Constant (.int 1) kk p3) p4)) p2) pos) (iRevT ie) := by
  constructor
  intro pins s σ H Q I hq
  have key : tE T X.K W ie σ H fun x H1 => ∃ a us, x = .ref a ∧ SqT X.K H1 a us ∧ ∀ p, H1 p = none → Q (.ref p) (upd H1 p (.tup us.reverse)) := by
    obtain ⟨ρ, F, S, ι, G, em, sr, h⟩ := hq
    refine ⟨ρ, F, S, ι, G, em, sr, Thn.bind (rel2 := DR T X.K) h fun d S1 v ι1 G1 H1 em1 x1 dr h1 => ?_⟩
    obtain ⟨r, e1, h2⟩ := Thn.lift h1
    unfold revT at e1
    split at e1
    · rename_i xs
      cases e1
      simp only [DR] at dr
      obtain ⟨a, us, rfl, ha, ra⟩ := dr
      refine ⟨a, us, rfl, SqT.of (em1.sub _ _ ha), fun p hp => ?_⟩
      obtain ⟨em2, x2⟩ := em1.frz (o := .tup us.reverse) hp
      refine h2 _ _ _ _ em2 x2 ?_
      simp only [DR]
      exact ⟨p, _, rfl, upd_same, (ra.mono x2.1 x2.2).rev⟩
    · cases e1
  refine PyProof.Rows.Subscript_ (thn (he.run pins s σ H _ I key) fun v s1 ⟨x, H1, I1, r1, a, us, ex, ha, q⟩ => ?_)
  subst ex
  have ev : v = Value.ref a := r1
  subst ev
  refine wpAny_Slice (evalPart_none_step (evalPart_none_step (evalPart_some_step ?_)))
  refine thn ((pe_un un_neg pe_int).run pins s1 σ H1 (fun y H2 => y = .int (-1) ∧ H2 = H1) I1 ⟨1, rfl, rfl, rfl⟩) fun w2 s2 ⟨y, H2, I2, r2, e2, e3⟩ => ?_
  subst e2 e3
  obtain ⟨t, rfl⟩ : ∃ t, w2 = Value.int (-1) t := r2
  have I4 : Inv X pins σ H2 { s2 with heap := s2.heap.push { cls := .type "slice", data := .fields #[.none, .none, .int (-1) t] } } := I2.kept (t' := s2.toks) fun b ob q => Heap.get?_push_of_some _ q
  obtain ⟨its, r, ht, hz⟩ := I4.tuple ha
  show wpAny (model X.prog X.w) X.A (PyProof.Rows.subscriptTail e (.Slice none none (some (.UnaryOp .USub (.Constant (.int 1) kk p3) p4)) p2) (.ref a) (.ref s2.heap.objs.size)) (EP X pins σ Q) X.xe { s2 with heap := s2.heap.push { cls := .type "slice", data := .fields #[.none, .none, .int (-1) t] } }
  refine PyProof.Rows.tail_any (ops := [.ref a, .ref s2.heap.objs.size]) ht.typeIs PyProof.Rows.slot_tuple_getitem.lookup ?_ (by with_unfolding_all rfl)
  have hlen := r.length
  refine back_tuple ht (Heap.IsSliceOf.new ..) ?_ (by rw [List.size_toArray, ← hlen]; exact hz)
  refine ⟨.ref _, _, I4.laid (t' := s2.toks) (o := .tup us.reverse) (fun b ob q => Heap.get?_push_of_some _ q) (Nat.le_refl _) ?_, rfl, q _ (I4.hok.fresh (Nat.le_refl _))⟩
  exact ⟨by rw [List.length_reverse]; exact hz, _, vals_rev r, IsTup.new _ _⟩
end J
set_option Elab.async false
set_option linter.all false
set_option maxRecDepth 100000
set_option maxHeartbeats 4100000
namespace K19
open PySem L2 J
structure FX (K : PySem.W.Frag) (mg : Str → Option Value) : Prop where
  b_abs : mg "abs" = none
  b_all : mg "all" = none
  b_any : mg "any" = none
  b_bool : mg "bool" = none
  b_divmod : mg "divmod" = none
  b_enumerate : mg "enumerate" = none
  b_int : mg "int" = none
  b_isinstance : mg "isinstance" = none
  b_len : mg "len" = none
  b_max : mg "max" = none
  b_min : mg "min" = none
  b_range : mg "range" = none
  b_repr : mg "repr" = none
  b_set : mg "set" = none
  b_sorted : mg "sorted" = none
  b_str : mg "str" = none
  b_tuple : mg "tuple" = none
  b_zip : mg "zip" = none
  c_LETTERS : ∃ t, mg "LETTERS" = some (.str ⟨#[97, 98, 99, 100, 101, 102, 103, 104, 105, 106, 107, 108, 109, 110, 111, 112, 113, 114, 115, 116, 117, 118, 119, 120, 121, 122]⟩ t)
  c_MOST_GUESSES : ∃ t, mg "MOST_GUESSES" = some (.int 20 t)
  c_MOST_LENGTH : ∃ t, mg "MOST_LENGTH" = some (.int 6 t)
  c_MOST_LETTERS : ∃ t, mg "MOST_LETTERS" = some (.int 26 t)
  k_Board : mg (TT.cn 0) = some (.ref (He.ga K (TT.cn 0)))
  j_Board : ClsJ TT K 0
  f_letters : ∀ c ∈ ([0] : List Nat), ClsJ TT K c ∧ 0 ∈ TT.fs c
  f_length : ∀ c ∈ ([0] : List Nat), ClsJ TT K c ∧ 1 ∈ TT.fs c
  isk : IsK TT K CS TB
  tr : ∀ c ∈ CT, PlainTru K (He.ga K (TT.cn c))
  d_bowl : ∃ fd, df_bowl.Fun K fd
  m_bowl : mg "_law_bowl" = some (.ref (He.ga K "_law_bowl"))
  d_dip : ∃ fd, df_dip.Fun K fd
  m_dip : mg "_law_dip" = some (.ref (He.ga K "_law_dip"))
  d_signs : ∃ fd, df_signs.Fun K fd
  m_signs : mg "_law_signs" = some (.ref (He.ga K "_law_signs"))
  d_are_letters : ∃ fd, df_are_letters.Fun K fd
  m_are_letters : mg "are_letters" = some (.ref (He.ga K "are_letters"))
  d_is_integer : ∃ fd, df_is_integer.Fun K fd
  m_is_integer : mg "is_integer" = some (.ref (He.ga K "is_integer"))
  d_Board_init : ∃ fd, df_Board_init.Fun K fd
  m_Board_init : Mk K (He.ga K "Board") (He.ma K (He.ga K "Board") "__init__")
  d_of : ∃ fd, df_of.Fun K fd
  m_of : mg "_law_of" = some (.ref (He.ga K "_law_of"))
  d_word : ∃ fd, df_word.Fun K fd
  m_word : mg "_law_word" = some (.ref (He.ga K "_law_word"))
  d_guesses : ∃ fd, df_guesses.Fun K fd
  m_guesses : mg "_law_guesses" = some (.ref (He.ga K "_law_guesses"))
  d_check_board : ∃ fd, df_check_board.Fun K fd
  m_check_board : mg "check_board" = some (.ref (He.ga K "check_board"))
  d_is_word : ∃ fd, df_is_word.Fun K fd
  m_is_word : mg "is_word" = some (.ref (He.ga K "is_word"))
  d_check_guesses : ∃ fd, df_check_guesses.Fun K fd
  m_check_guesses : mg "check_guesses" = some (.ref (He.ga K "check_guesses"))
  d_letters_tried : ∃ fd, df_letters_tried.Fun K fd
  m_letters_tried : mg "letters_tried" = some (.ref (He.ga K "letters_tried"))
  d_number_tried : ∃ fd, df_number_tried.Fun K fd
  m_number_tried : mg "number_tried" = some (.ref (He.ga K "number_tried"))
  d_tried_of : ∃ fd, df_tried_of.Fun K fd
  m_tried_of : mg "tried_of" = some (.ref (He.ga K "tried_of"))
  d_tried : ∃ fd, df_tried.Fun K fd
  m_tried : mg "tried" = some (.ref (He.ga K "tried"))
  d_right : ∃ fd, df_right.Fun K fd
  m_right : mg "_law_right" = some (.ref (He.ga K "_law_right"))
  d_law : ∃ fd, df_law.Fun K fd
  m_law : mg "law" = some (.ref (He.ga K "law"))
abbrev N_bowl : List Str := ["_law_script", "_law_k", "_law_own", "_law_mixed", "_law_entry"]
theorem sc_bowl : FnScope N_bowl ["_law_script", "_law_k"] (defScope s_bowl) := ⟨rfl, rfl, rfl, by decide +kernel, rfl, by decide +kernel, by decide +kernel⟩
def is_bowl : IS := (sSeq (sAsg 2 (iIf (iTst (iOp ltI (iVar 1) (iCB lenD (iCons (iVar 0) iNil)))) (iCB intD (iCons (iOp ixD (iVar 0) (iVar 1)) iNil)) (iOp addD (iOp mulD (iC (.int 17)) (iVar 1)) (iC (.int 3))))) (sSeq (sAsg 3 (iOp addD (iC (.int 60013)) (iOp mulD (iC (.int 911)) (iVar 1)))) (sSeq (sFor (iItems (iSl slD (iVar 0) iNoPart (iPart (iC (.int 12))))) (.n 4) (sAsg 3 (iOp modI (iCB intD (iCons (iOp addD (iOp mulD (iVar 3) (iC (.int 39119))) (iOp modI (iCB intD (iCons (iVar 4) iNil)) (iC (.int 1999999943)))) iNil)) (iC (.int 1999999943))))) (sRet (iLstM (iCons (iOp modI (iCB intD (iCons (iOp addD (iVar 3) (iOp modI (iVar 2) (iC (.int 1999999943)))) iNil)) (iC (.int 1999999943))) (iCons (iIf (iOr (iTst (iOp ltI (iVar 2) (iC (.int 0)))) (iTst (iOp geI (iVar 2) (iOp powI (iC (.int 10)) (iC (.int 15)))))) (iCB absD (iCons (iVar 2) iNil)) (iC (.int 0))) (iCons (iC (.int 0)) iNil))))))))
def d_bowl : List D → M D := defJ 5 true is_bowl
theorem w_bowl {P : Program} {w : World} {K : PySem.W.Frag} {mg : Str → Option Value} {base : Heap} (Fx : FX K mg) {fd : FuncData} (F : df_bowl.Fun K fd) : FnG P w K mg base 1 (df_bowl.at_ K) fd ["_law_script", "_law_k"] (spJ TT K 2 d_bowl) := by
  refine fn_j (T := TT) true F sc_bowl (fun cdv A fr s H E room gd => ?_)
  have hr : Rg 0 (cxOf (L2.CX P w) P w K mg base N_bowl "_law_bowl" (defScope s_bowl) (df_bowl.at_ K) cdv A fr s H E).A := ⟨room, gd⟩
  have tk : Takes (cxOf (L2.CX P w) P w K mg base N_bowl "_law_bowl" (defScope s_bowl) (df_bowl.at_ K) cdv A fr s H E) (fun c d _ H => E c d H) := takes_of rfl rfl rfl rfl
  have po : PassesOwn (model P w) (cxOf (L2.CX P w) P w K mg base N_bowl "_law_bowl" (defScope s_bowl) (df_bowl.at_ K) cdv A fr s H E).A (cxOf (L2.CX P w) P w K mg base N_bowl "_law_bowl" (defScope s_bowl) (df_bowl.at_ K) cdv A fr s H E).env (cxOf (L2.CX P w) P w K mg base N_bowl "_law_bowl" (defScope s_bowl) (df_bowl.at_ K) cdv A fr s H E).xe := passes_of rfl
  have S := sc_bowl
  exact (jss_cons (js_set (i := 2) S.nd rfl (Or.inl rfl) (je_if (jt_cmp op_lt ltI_ok (je_var 1) (je_callB call_len lenD_ok (by rfl) Fx.b_len (by decide +kernel) (ja_cons (je_var 0) ja_nil)) (nomark _)) (je_callTy call_int1 intD_ok (by rfl) Fx.b_int (by decide +kernel) (ja_cons (je_ix ix_seq ixD_ok (je_var 0) (je_var 1) (fun _ _ => rfl)) ja_nil)) (je_op op_addD addD_ok (je_op op_mulD mulD_ok je_int (je_var 1)) je_int))) (jss_cons (js_set (i := 3) S.nd rfl (Or.inl rfl) (je_op op_addD addD_ok je_int (je_op op_mulD mulD_ok je_int (je_var 1)))) (jss_cons (js_for po rfl (ji_items (je_slice sl_D slD_ok (je_var 0) jo_none (jo_some je_int))) (jg_name (i := 4) S.nd rfl (Or.inl rfl)) (jss_one (js_set (i := 3) S.nd rfl (Or.inl rfl) (je_op op_mod modI_ok (je_callTy call_int1 intD_ok (by rfl) Fx.b_int (by decide +kernel) (ja_cons (je_op op_addD addD_ok (je_op op_mulD mulD_ok (je_var 3) je_int) (je_op op_mod modI_ok (je_callTy call_int1 intD_ok (by rfl) Fx.b_int (by decide +kernel) (ja_cons (je_var 4) ja_nil)) je_int)) ja_nil)) je_int)))) (jss_one (js_ret (je_lstM (ja_cons (je_op op_mod modI_ok (je_callTy call_int1 intD_ok (by rfl) Fx.b_int (by decide +kernel) (ja_cons (je_op op_addD addD_ok (je_var 3) (je_op op_mod modI_ok (je_var 2) je_int)) ja_nil)) je_int) (ja_cons (je_if (jt_w (jw_or (jt_cmp op_lt ltI_ok (je_var 2) je_int (nomark _)) (jw_or1 (jt_cmp op_ge geI_ok (je_var 2) (je_op op_pow powI_ok je_int je_int) (nomark _))))) (je_callB call_abs absD_ok (by rfl) Fx.b_abs (by decide +kernel) (ja_cons (je_var 2) ja_nil)) je_int) (ja_cons je_int ja_nil)))))))))
theorem g_bowl {P : Program} {w : World} {K : PySem.W.Frag} {mg : Str → Option Value} {base : Heap} (Fx : FX K mg) : Good P w TT K mg base 1 "_law_bowl" ["_law_script", "_law_k"] d_bowl := Fx.d_bowl.elim fun fd F => ⟨fd, w_bowl Fx F, F.bindsN fun _ _ _ _ _ _ us hl => match us, hl with | [_, _], _ => rfl, Fx.m_bowl, F.kp⟩
abbrev N_dip : List Str := ["_law_bowl_here", "_law_many", "_law_digit"]
theorem sc_dip : FnScope N_dip ["_law_bowl_here", "_law_many"] (defScope s_dip) := ⟨rfl, rfl, rfl, by decide +kernel, rfl, by decide +kernel, by decide +kernel⟩
def is_dip : IS := (sSeq (sSetI setL (iOp addD (iOp ixD (iVar 0) (iC (.int 2))) (iC (.int 1))) (iVar 0) (iC (.int 2))) (sSeq (sIf (iTst (iOp gtI (iOp ixD (iVar 0) (iC (.int 1))) (iC (.int 0)))) (sSeq (sSetIN setL (iCB divmodD (iCons (iCB intD (iCons (iOp ixD (iVar 0) (iC (.int 1))) iNil)) (iCons (iVar 1) iNil))) (iVar 0) (iC (.int 1)) 2) (sRet (iVar 2))) sNext) (sSeq (sSetI setL (iOp modI (iCB intD (iCons (iOp addD (iOp addD (iOp mulD (iOp ixD (iVar 0) (iC (.int 0))) (iC (.int 50021))) (iOp mulD (iOp ixD (iVar 0) (iC (.int 2))) (iC (.int 90001)))) (iOp mulD (iOp fdivI (iOp ixD (iVar 0) (iC (.int 0))) (iC (.int 7001))) (iC (.int 13)))) iNil)) (iC (.int 1999999943))) (iVar 0) (iC (.int 0))) (sRet (iOp modI (iCB intD (iCons (iOp fdivI (iOp ixD (iVar 0) (iC (.int 0))) (iC (.int 173))) iNil)) (iVar 1))))))
def d_dip : List D → M D := defJ 3 false is_dip
theorem w_dip {P : Program} {w : World} {K : PySem.W.Frag} {mg : Str → Option Value} {base : Heap} (Fx : FX K mg) {fd : FuncData} (F : df_dip.Fun K fd) : FnG P w K mg base 1 (df_dip.at_ K) fd ["_law_bowl_here", "_law_many"] (spJ TT K 2 d_dip) := by
  refine fn_j (T := TT) false F sc_dip (fun cdv A fr s H E room gd => ?_)
  have hr : Rg 0 (cxOf (L2.CX P w) P w K mg base N_dip "_law_dip" (defScope s_dip) (df_dip.at_ K) cdv A fr s H E).A := ⟨room, gd⟩
  have tk : Takes (cxOf (L2.CX P w) P w K mg base N_dip "_law_dip" (defScope s_dip) (df_dip.at_ K) cdv A fr s H E) (fun c d _ H => E c d H) := takes_of rfl rfl rfl rfl
  have po : PassesOwn (model P w) (cxOf (L2.CX P w) P w K mg base N_dip "_law_dip" (defScope s_dip) (df_dip.at_ K) cdv A fr s H E).A (cxOf (L2.CX P w) P w K mg base N_dip "_law_dip" (defScope s_dip) (df_dip.at_ K) cdv A fr s H E).env (cxOf (L2.CX P w) P w K mg base N_dip "_law_dip" (defScope s_dip) (df_dip.at_ K) cdv A fr s H E).xe := passes_of rfl
  have S := sc_dip
  exact (jss_cons (js_setI set_list setL_ok (je_op op_addD addD_ok (je_ix ix_seq ixD_ok (je_var 0) je_int (fun _ _ => rfl)) je_int) (je_var 0) je_int) (jss_cons (js_if (jt_cmp op_gt gtI_ok (je_ix ix_seq ixD_ok (je_var 0) je_int (fun _ _ => rfl)) je_int (nomark _)) (jss_cons (js_setIN (j := 2) rfl set_list setL_ok S.nd rfl (Or.inl rfl) (je_callB call_divmod divmodD_ok (by rfl) Fx.b_divmod (by decide +kernel) (ja_cons (je_callTy call_int1 intD_ok (by rfl) Fx.b_int (by decide +kernel) (ja_cons (je_ix ix_seq ixD_ok (je_var 0) je_int (fun _ _ => rfl)) ja_nil)) (ja_cons (je_var 1) ja_nil))) (je_var 0) je_int) (jss_one (js_ret (je_var 2)))) jss_nil) (jss_cons (js_setI set_list setL_ok (je_op op_mod modI_ok (je_callTy call_int1 intD_ok (by rfl) Fx.b_int (by decide +kernel) (ja_cons (je_op op_addD addD_ok (je_op op_addD addD_ok (je_op op_mulD mulD_ok (je_ix ix_seq ixD_ok (je_var 0) je_int (fun _ _ => rfl)) je_int) (je_op op_mulD mulD_ok (je_ix ix_seq ixD_ok (je_var 0) je_int (fun _ _ => rfl)) je_int)) (je_op op_mulD mulD_ok (je_op op_fdiv fdivI_ok (je_ix ix_seq ixD_ok (je_var 0) je_int (fun _ _ => rfl)) je_int) je_int)) ja_nil)) je_int) (je_var 0) je_int) (jss_one (js_ret (je_op op_mod modI_ok (je_callTy call_int1 intD_ok (by rfl) Fx.b_int (by decide +kernel) (ja_cons (je_op op_fdiv fdivI_ok (je_ix ix_seq ixD_ok (je_var 0) je_int (fun _ _ => rfl)) je_int) ja_nil)) (je_var 1)))))))
theorem g_dip {P : Program} {w : World} {K : PySem.W.Frag} {mg : Str → Option Value} {base : Heap} (Fx : FX K mg) : Good P w TT K mg base 1 "_law_dip" ["_law_bowl_here", "_law_many"] d_dip := Fx.d_dip.elim fun fd F => ⟨fd, w_dip Fx F, F.bindsN fun _ _ _ _ _ _ us hl => match us, hl with | [_, _], _ => rfl, Fx.m_dip, F.kp⟩
abbrev N_signs : List Str := ["_law_bowl_here", "_law_least", "_law_most", "_law_turn", "_law_many", "_law_left", "_law_found", "_law_at"]
theorem sc_signs : FnScope N_signs ["_law_bowl_here", "_law_least", "_law_most"] (defScope s_signs) := ⟨rfl, rfl, rfl, by decide +kernel, rfl, by decide +kernel, by decide +kernel⟩
def is_signs : IS := (sSeq (sPar3 4 5 6 (iCons (iOp addD (iVar 1) (iCall 2 d_dip (iCons (iVar 0) (iCons (iOp addD (iOp subI (iVar 2) (iVar 1)) (iC (.int 1))) iNil)))) (iCons (iC (.str [97, 98, 99, 100, 101, 102, 103, 104, 105, 106, 107, 108, 109, 110, 111, 112, 113, 114, 115, 116, 117, 118, 119, 120, 121, 122])) (iCons (iLstM iNil) iNil)))) (sSeq (sIf (iTst (iOp gtI (iCall 2 d_dip (iCons (iVar 0) (iCons (iC (.int 3)) iNil))) (iC (.int 0)))) (sRet (iSl slD (iVar 5) iNoPart (iPart (iVar 4)))) sNext) (sSeq (sFor (iRange range1 (iCons (iVar 4) iNil)) (.n 3) (sSeq (sAsg 7 (iCall 2 d_dip (iCons (iVar 0) (iCons (iCB lenD (iCons (iVar 5) iNil)) iNil)))) (sSeq (sExpr (iBM .l lstApp (iVar 6) (iCons (iOp ixD (iVar 5) (iVar 7)) iNil))) (sAsg 5 (iOp addD (iSl slD (iVar 5) iNoPart (iPart (iVar 7))) (iSl slD (iVar 5) (iPart (iOp addD (iVar 7) (iC (.int 1)))) iNoPart)))))) (sSeq (sFrz 6) (sRet (iBM .s strJoin (iC (.str [])) (iCons (iCB sortD (iCons (iVar 6) iNil)) iNil)))))))
def d_signs : List D → M D := defJ 8 false is_signs
theorem w_signs {P : Program} {w : World} {K : PySem.W.Frag} {mg : Str → Option Value} {base : Heap} (Fx : FX K mg) {fd : FuncData} (F : df_signs.Fun K fd) : FnG P w K mg base 2 (df_signs.at_ K) fd ["_law_bowl_here", "_law_least", "_law_most"] (spJ TT K 3 d_signs) := by
  refine fn_j (T := TT) false F sc_signs (fun cdv A fr s H E room gd => ?_)
  have hr : Rg 1 (cxOf (L2.CX P w) P w K mg base N_signs "_law_signs" (defScope s_signs) (df_signs.at_ K) cdv A fr s H E).A := ⟨room, gd⟩
  have tk : Takes (cxOf (L2.CX P w) P w K mg base N_signs "_law_signs" (defScope s_signs) (df_signs.at_ K) cdv A fr s H E) (fun c d _ H => E c d H) := takes_of rfl rfl rfl rfl
  have po : PassesOwn (model P w) (cxOf (L2.CX P w) P w K mg base N_signs "_law_signs" (defScope s_signs) (df_signs.at_ K) cdv A fr s H E).A (cxOf (L2.CX P w) P w K mg base N_signs "_law_signs" (defScope s_signs) (df_signs.at_ K) cdv A fr s H E).env (cxOf (L2.CX P w) P w K mg base N_signs "_law_signs" (defScope s_signs) (df_signs.at_ K) cdv A fr s H E).xe := passes_of rfl
  have S := sc_signs
  exact (jss_cons (js_par3 (i := 4) (j := 5) (l := 6) rfl S.nd rfl rfl rfl (by decide) (by decide) (by decide) rfl rfl rfl (ja_cons (je_op op_addD addD_ok (je_var 1) (je_call (g_dip Fx) (hr.mono (by decide)) (by rfl) tk (ja_cons (je_var 0) (ja_cons (je_op op_addD addD_ok (je_op op_sub subI_ok (je_var 2) (je_var 1)) je_int) ja_nil)))) (ja_cons (je_str (l := [97, 98, 99, 100, 101, 102, 103, 104, 105, 106, 107, 108, 109, 110, 111, 112, 113, 114, 115, 116, 117, 118, 119, 120, 121, 122])) (ja_cons (je_lstM ja_nil) ja_nil)))) (jss_cons (js_if (jt_cmp op_gt gtI_ok (je_call (g_dip Fx) (hr.mono (by decide)) (by rfl) tk (ja_cons (je_var 0) (ja_cons je_int ja_nil))) je_int (nomark _)) (jss_one (js_ret (je_slice sl_D slD_ok (je_var 5) jo_none (jo_some (je_var 4))))) jss_nil) (jss_cons (js_for po rfl (ji_range1 (by rfl) Fx.b_range (ja_cons (je_var 4) ja_nil)) (jg_name (i := 3) S.nd rfl (Or.inl rfl)) (jss_cons (js_set (i := 7) S.nd rfl (Or.inl rfl) (je_call (g_dip Fx) (hr.mono (by decide)) (by rfl) tk (ja_cons (je_var 0) (ja_cons (je_callB call_len lenD_ok (by rfl) Fx.b_len (by decide +kernel) (ja_cons (je_var 5) ja_nil)) ja_nil)))) (jss_cons (js_expr (je_bm (Ty := .l) PySem.F.plainAttrs_list PySem.F.slot_list_append PySem.F.type_list_append mt_append lstApp_ok (je_var 6) (ja_cons (je_ix ix_seq ixD_ok (je_var 5) (je_var 7) (fun _ _ => rfl)) ja_nil))) (jss_one (js_set (i := 5) S.nd rfl (Or.inl rfl) (je_op op_addD addD_ok (je_slice sl_D slD_ok (je_var 5) jo_none (jo_some (je_var 7))) (je_slice sl_D slD_ok (je_var 5) (jo_some (je_op op_addD addD_ok (je_var 7) je_int)) jo_none))))))) (jss_frz (jss_one (js_ret (je_bm (Ty := .s) PySem.F.plainAttrs_str PySem.F.slot_str_join PySem.F.type_str_join mt_join strJoin_ok (je_str (l := [])) (ja_cons (je_callB cr_sortedS sortD_ok (by rfl) Fx.b_sorted (by decide +kernel) (ja_cons (je_var 6) ja_nil)) ja_nil))))))))
theorem g_signs {P : Program} {w : World} {K : PySem.W.Frag} {mg : Str → Option Value} {base : Heap} (Fx : FX K mg) : Good P w TT K mg base 2 "_law_signs" ["_law_bowl_here", "_law_least", "_law_most"] d_signs := Fx.d_signs.elim fun fd F => ⟨fd, w_signs Fx F, F.bindsN fun _ _ _ _ _ _ us hl => match us, hl with | [_, _, _], _ => rfl, Fx.m_signs, F.kp⟩
abbrev N_are_letters : List Str := ["value", "places", "letter", "one", "two"]
theorem sc_are_letters : FnScope N_are_letters ["value"] (defScope s_are_letters) := ⟨rfl, rfl, rfl, by decide +kernel, rfl, by decide +kernel, by decide +kernel⟩
def is_are_letters : IS := (sSeq (sIf (iOr (iNot (iTst (iCB (isiD CS TB) (iCons (iVar 0) (iCons (iC (.ty "str")) iNil))))) (iNot (iTst (iChain leI leI (iC (.int 2)) (iCB lenD (iCons (iVar 0) iNil)) (iC (.int 26)))))) (sRet (iC (.bl false))) sNext) (sSeq (sAsg 1 (iLc (iItems (iVar 0)) (.n 2) iYes (iBM .s strFind (iC (.str [97, 98, 99, 100, 101, 102, 103, 104, 105, 106, 107, 108, 109, 110, 111, 112, 113, 114, 115, 116, 117, 118, 119, 120, 121, 122])) (iCons (iVar 2) iNil)) [2])) (sRet (iAndV (iOp geI (iOp ixD (iVar 1) (iC (.int 0))) (iC (.int 0))) (iCB allD (iCons (iLc (iZip (iCons (iVar 1) (iCons (iSl slD (iVar 1) (iPart (iC (.int 1))) iNoPart) iNil))) (.t [3, 4]) iYes (iOp ltI (iVar 3) (iVar 4)) [3, 4]) iNil))))))
def d_are_letters : List D → M D := defJ 5 false is_are_letters
theorem w_are_letters {P : Program} {w : World} {K : PySem.W.Frag} {mg : Str → Option Value} {base : Heap} (Fx : FX K mg) {fd : FuncData} (F : df_are_letters.Fun K fd) : FnG P w K mg base 1 (df_are_letters.at_ K) fd ["value"] (spJ TT K 1 d_are_letters) := by
  refine fn_j (T := TT) false F sc_are_letters (fun cdv A fr s H E room gd => ?_)
  have hr : Rg 0 (cxOf (L2.CX P w) P w K mg base N_are_letters "are_letters" (defScope s_are_letters) (df_are_letters.at_ K) cdv A fr s H E).A := ⟨room, gd⟩
  have tk : Takes (cxOf (L2.CX P w) P w K mg base N_are_letters "are_letters" (defScope s_are_letters) (df_are_letters.at_ K) cdv A fr s H E) (fun c d _ H => E c d H) := takes_of rfl rfl rfl rfl
  have po : PassesOwn (model P w) (cxOf (L2.CX P w) P w K mg base N_are_letters "are_letters" (defScope s_are_letters) (df_are_letters.at_ K) cdv A fr s H E).A (cxOf (L2.CX P w) P w K mg base N_are_letters "are_letters" (defScope s_are_letters) (df_are_letters.at_ K) cdv A fr s H E).env (cxOf (L2.CX P w) P w K mg base N_are_letters "are_letters" (defScope s_are_letters) (df_are_letters.at_ K) cdv A fr s H E).xe := passes_of rfl
  have S := sc_are_letters
  exact (jss_cons (js_if (jt_w (jw_or (jt_not (jt_val (je_callB call_isi (isiD_ok Fx.isk) (by rfl) Fx.b_isinstance (by decide +kernel) (ja_cons (je_var 0) (ja_cons (je_ty (n := "str") rfl Fx.b_str (by decide +kernel)) ja_nil))))) (jw_or1 (jt_not (jt_chain op_le op_le leI_ok leI_ok je_int (je_callB call_len lenD_ok (by rfl) Fx.b_len (by decide +kernel) (ja_cons (je_var 0) ja_nil)) (je_gint rfl Fx.c_MOST_LETTERS)))))) (jss_one (js_ret je_bl)) jss_nil) (jss_cons (js_setLc (i := 1) (own := [("letter", 2)]) (g := (.n 2)) rfl S.nd rfl rfl (sw_true rfl rfl rfl (by decide +kernel)) (ji_items (je_var 0)) (blkOk_by (by kernel_rfl)) (fun _ _ _ _ _ => (jg_name (i := 2) S.nd rfl (Or.inl rfl))) (fun _ _ _ _ _ => jts_nil) (fun _ _ _ _ _ => (je_bm (Ty := .s) PySem.F.plainAttrs_str PySem.F.slot_str_find PySem.F.type_str_find mt_find strFind_ok (je_gstr rfl Fx.c_LETTERS) (ja_cons (je_var 2) ja_nil)))) (jss_one (js_ret (je_and (je_cmp op_ge geI_ok (je_ix ix_seq ixD_ok (je_var 1) je_int (fun _ _ => rfl)) je_int (nomark _)) (je_one (je_callB (cr_all rfl) allD_ok (by rfl) Fx.b_all (by decide +kernel) (ja_cons (je_lc (own := [("one", 3), ("two", 4)]) (g := (.t [3, 4])) rfl S.nd (ji_zip (by rfl) Fx.b_zip (ja_cons (je_var 1) (ja_cons (je_slice sl_D slD_ok (je_var 1) (jo_some je_int) jo_none) ja_nil))) (blkOk_by (by kernel_rfl)) (fun _ _ _ _ _ => (jg_tup rfl (jgs_cons (i := 3) S.nd rfl (Or.inl rfl) (jgs_cons (i := 4) S.nd rfl (Or.inl rfl) jgs_nil)))) (fun _ _ _ _ _ => jts_nil) (fun _ _ _ _ _ => (je_cmp op_lt ltI_ok (je_var 3) (je_var 4) (nomark _)))) ja_nil))))))))
theorem g_are_letters {P : Program} {w : World} {K : PySem.W.Frag} {mg : Str → Option Value} {base : Heap} (Fx : FX K mg) : Good P w TT K mg base 1 "are_letters" ["value"] d_are_letters := Fx.d_are_letters.elim fun fd F => ⟨fd, w_are_letters Fx F, F.bindsN fun _ _ _ _ _ _ us hl => match us, hl with | [_], _ => rfl, Fx.m_are_letters, F.kp⟩
abbrev N_is_integer : List Str := ["value"]
theorem sc_is_integer : FnScope N_is_integer ["value"] (defScope s_is_integer) := ⟨rfl, rfl, rfl, by decide +kernel, rfl, by decide +kernel, by decide +kernel⟩
def is_is_integer : IS := (sRet (iAndV (iCB (isiD CS TB) (iCons (iVar 0) (iCons (iC (.ty "int")) iNil))) (iNotV (iTst (iCB (isiD CS TB) (iCons (iVar 0) (iCons (iC (.ty "bool")) iNil)))))))
def d_is_integer : List D → M D := defJ 1 false is_is_integer
theorem w_is_integer {P : Program} {w : World} {K : PySem.W.Frag} {mg : Str → Option Value} {base : Heap} (Fx : FX K mg) {fd : FuncData} (F : df_is_integer.Fun K fd) : FnG P w K mg base 1 (df_is_integer.at_ K) fd ["value"] (spJ TT K 1 d_is_integer) := by
  refine fn_j (T := TT) false F sc_is_integer (fun cdv A fr s H E room gd => ?_)
  have hr : Rg 0 (cxOf (L2.CX P w) P w K mg base N_is_integer "is_integer" (defScope s_is_integer) (df_is_integer.at_ K) cdv A fr s H E).A := ⟨room, gd⟩
  have tk : Takes (cxOf (L2.CX P w) P w K mg base N_is_integer "is_integer" (defScope s_is_integer) (df_is_integer.at_ K) cdv A fr s H E) (fun c d _ H => E c d H) := takes_of rfl rfl rfl rfl
  have po : PassesOwn (model P w) (cxOf (L2.CX P w) P w K mg base N_is_integer "is_integer" (defScope s_is_integer) (df_is_integer.at_ K) cdv A fr s H E).A (cxOf (L2.CX P w) P w K mg base N_is_integer "is_integer" (defScope s_is_integer) (df_is_integer.at_ K) cdv A fr s H E).env (cxOf (L2.CX P w) P w K mg base N_is_integer "is_integer" (defScope s_is_integer) (df_is_integer.at_ K) cdv A fr s H E).xe := passes_of rfl
  have S := sc_is_integer
  exact (jss_one (js_ret (je_and (je_callB call_isi (isiD_ok Fx.isk) (by rfl) Fx.b_isinstance (by decide +kernel) (ja_cons (je_var 0) (ja_cons (je_ty (n := "int") rfl Fx.b_int (by decide +kernel)) ja_nil))) (je_one (je_not (je_callB call_isi (isiD_ok Fx.isk) (by rfl) Fx.b_isinstance (by decide +kernel) (ja_cons (je_var 0) (ja_cons (je_ty (n := "bool") rfl Fx.b_bool (by decide +kernel)) ja_nil))))))))
theorem g_is_integer {P : Program} {w : World} {K : PySem.W.Frag} {mg : Str → Option Value} {base : Heap} (Fx : FX K mg) : Good P w TT K mg base 1 "is_integer" ["value"] d_is_integer := Fx.d_is_integer.elim fun fd F => ⟨fd, w_is_integer Fx F, F.bindsN fun _ _ _ _ _ _ us hl => match us, hl with | [_], _ => rfl, Fx.m_is_integer, F.kp⟩
abbrev N_Board_init : List Str := ["self", "letters", "length"]
theorem sc_Board_init : FnScope N_Board_init ["self", "letters", "length"] (defScope s_Board_init) := ⟨rfl, rfl, rfl, by decide +kernel, rfl, by decide +kernel, by decide +kernel⟩
def is_Board_init : IS := (sSeq (sIf (iNot (iTst (iCall 1 d_are_letters (iCons (iVar 1) iNil)))) sNever sNext) (sSeq (sIf (iOr (iNot (iTst (iCall 1 d_is_integer (iCons (iVar 2) iNil)))) (iNot (iTst (iChain leI leI (iC (.int 1)) (iVar 2) (iC (.int 6)))))) sNever sNext) (sSeq (sSetA TT [0] 0 (iVar 1) (iVar 0)) (sSetA TT [0] 1 (iVar 2) (iVar 0)))))
def d_Board_init : List D → M D := defJ 3 true is_Board_init
theorem w_Board_init {P : Program} {w : World} {K : PySem.W.Frag} {mg : Str → Option Value} {base : Heap} (Fx : FX K mg) {fd : FuncData} (F : df_Board_init.Fun K fd) : FnG P w K mg base 2 (df_Board_init.at_ K) fd ["self", "letters", "length"] (spJ TT K 3 d_Board_init) := by
  refine fn_j (T := TT) true F sc_Board_init (fun cdv A fr s H E room gd => ?_)
  have hr : Rg 1 (cxOf (L2.CX P w) P w K mg base N_Board_init "Board.__init__" (defScope s_Board_init) (df_Board_init.at_ K) cdv A fr s H E).A := ⟨room, gd⟩
  have tk : Takes (cxOf (L2.CX P w) P w K mg base N_Board_init "Board.__init__" (defScope s_Board_init) (df_Board_init.at_ K) cdv A fr s H E) (fun c d _ H => E c d H) := takes_of rfl rfl rfl rfl
  have po : PassesOwn (model P w) (cxOf (L2.CX P w) P w K mg base N_Board_init "Board.__init__" (defScope s_Board_init) (df_Board_init.at_ K) cdv A fr s H E).A (cxOf (L2.CX P w) P w K mg base N_Board_init "Board.__init__" (defScope s_Board_init) (df_Board_init.at_ K) cdv A fr s H E).env (cxOf (L2.CX P w) P w K mg base N_Board_init "Board.__init__" (defScope s_Board_init) (df_Board_init.at_ K) cdv A fr s H E).xe := passes_of rfl
  have S := sc_Board_init
  exact (jss_cons (js_if (jt_not (jt_val (je_call (g_are_letters Fx) (hr.mono (by decide)) (by rfl) tk (ja_cons (je_var 1) ja_nil)))) (jss_one js_never) jss_nil) (jss_cons (js_if (jt_w (jw_or (jt_not (jt_val (je_call (g_is_integer Fx) (hr.mono (by decide)) (by rfl) tk (ja_cons (je_var 2) ja_nil)))) (jw_or1 (jt_not (jt_chain op_le op_le leI_ok leI_ok je_int (je_var 2) (je_gint rfl Fx.c_MOST_LENGTH)))))) (jss_one js_never) jss_nil) (jss_cons (js_setA (cs := [0]) (f := 0) (je_var 0) (je_var 1) Fx.f_letters (by rfl)) (jss_one (js_setA (cs := [0]) (f := 1) (je_var 0) (je_var 2) Fx.f_length (by rfl))))))
theorem g_Board_init {P : Program} {w : World} {K : PySem.W.Frag} {mg : Str → Option Value} {base : Heap} (Fx : FX K mg) : GoodI P w TT K mg base 2 0 ["self", "letters", "length"] d_Board_init := Fx.d_Board_init.elim fun fd F => ⟨_, fd, w_Board_init Fx F, F.bindsN fun _ _ _ _ _ _ us hl => match us, hl with | [_, _, _], _ => rfl, Fx.m_Board_init, Fx.k_Board⟩
abbrev N_of : List Str := ["_law_bowl_here", "_law_things"]
theorem sc_of : FnScope N_of ["_law_bowl_here", "_law_things"] (defScope s_of) := ⟨rfl, rfl, rfl, by decide +kernel, rfl, by decide +kernel, by decide +kernel⟩
def is_of : IS := (sRet (iOp ixD (iVar 1) (iCall 2 d_dip (iCons (iVar 0) (iCons (iCB lenD (iCons (iVar 1) iNil)) iNil)))))
def d_of : List D → M D := defJ 2 false is_of
theorem w_of {P : Program} {w : World} {K : PySem.W.Frag} {mg : Str → Option Value} {base : Heap} (Fx : FX K mg) {fd : FuncData} (F : df_of.Fun K fd) : FnG P w K mg base 2 (df_of.at_ K) fd ["_law_bowl_here", "_law_things"] (spJ TT K 2 d_of) := by
  refine fn_j (T := TT) false F sc_of (fun cdv A fr s H E room gd => ?_)
  have hr : Rg 1 (cxOf (L2.CX P w) P w K mg base N_of "_law_of" (defScope s_of) (df_of.at_ K) cdv A fr s H E).A := ⟨room, gd⟩
  have tk : Takes (cxOf (L2.CX P w) P w K mg base N_of "_law_of" (defScope s_of) (df_of.at_ K) cdv A fr s H E) (fun c d _ H => E c d H) := takes_of rfl rfl rfl rfl
  have po : PassesOwn (model P w) (cxOf (L2.CX P w) P w K mg base N_of "_law_of" (defScope s_of) (df_of.at_ K) cdv A fr s H E).A (cxOf (L2.CX P w) P w K mg base N_of "_law_of" (defScope s_of) (df_of.at_ K) cdv A fr s H E).env (cxOf (L2.CX P w) P w K mg base N_of "_law_of" (defScope s_of) (df_of.at_ K) cdv A fr s H E).xe := passes_of rfl
  have S := sc_of
  exact (jss_one (js_ret (je_ix ix_seq ixD_ok (je_var 1) (je_call (g_dip Fx) (hr.mono (by decide)) (by rfl) tk (ja_cons (je_var 0) (ja_cons (je_callB call_len lenD_ok (by rfl) Fx.b_len (by decide +kernel) (ja_cons (je_var 1) ja_nil)) ja_nil))) (fun _ _ => rfl))))
theorem g_of {P : Program} {w : World} {K : PySem.W.Frag} {mg : Str → Option Value} {base : Heap} (Fx : FX K mg) : Good P w TT K mg base 2 "_law_of" ["_law_bowl_here", "_law_things"] d_of := Fx.d_of.elim fun fd F => ⟨fd, w_of Fx F, F.bindsN fun _ _ _ _ _ _ us hl => match us, hl with | [_, _], _ => rfl, Fx.m_of, F.kp⟩
abbrev N_word : List Str := ["_law_bowl_here", "_law_signs_here", "_law_size", "_law_some", "_law_k"]
theorem sc_word : FnScope N_word ["_law_bowl_here", "_law_signs_here", "_law_size"] (defScope s_word) := ⟨rfl, rfl, rfl, by decide +kernel, rfl, by decide +kernel, by decide +kernel⟩
def is_word : IS := (sSeq (sAsg 3 (iVar 1)) (sSeq (sIf (iTst (iOp eqD (iCall 2 d_dip (iCons (iVar 0) (iCons (iC (.int 3)) iNil))) (iC (.int 0)))) (sAsg 3 (iOp addD (iCall 2 d_of (iCons (iVar 0) (iCons (iVar 1) iNil))) (iCall 2 d_of (iCons (iVar 0) (iCons (iVar 1) iNil))))) sNext) (sRet (iBM .s strJoin (iC (.str [])) (iCons (iLc (iRange range1 (iCons (iVar 2) iNil)) (.n 4) iYes (iCall 2 d_of (iCons (iVar 0) (iCons (iVar 3) iNil))) [4]) iNil)))))
def d_word : List D → M D := defJ 5 false is_word
theorem w_word {P : Program} {w : World} {K : PySem.W.Frag} {mg : Str → Option Value} {base : Heap} (Fx : FX K mg) {fd : FuncData} (F : df_word.Fun K fd) : FnG P w K mg base 3 (df_word.at_ K) fd ["_law_bowl_here", "_law_signs_here", "_law_size"] (spJ TT K 3 d_word) := by
  refine fn_j (T := TT) false F sc_word (fun cdv A fr s H E room gd => ?_)
  have hr : Rg 2 (cxOf (L2.CX P w) P w K mg base N_word "_law_word" (defScope s_word) (df_word.at_ K) cdv A fr s H E).A := ⟨room, gd⟩
  have tk : Takes (cxOf (L2.CX P w) P w K mg base N_word "_law_word" (defScope s_word) (df_word.at_ K) cdv A fr s H E) (fun c d _ H => E c d H) := takes_of rfl rfl rfl rfl
  have po : PassesOwn (model P w) (cxOf (L2.CX P w) P w K mg base N_word "_law_word" (defScope s_word) (df_word.at_ K) cdv A fr s H E).A (cxOf (L2.CX P w) P w K mg base N_word "_law_word" (defScope s_word) (df_word.at_ K) cdv A fr s H E).env (cxOf (L2.CX P w) P w K mg base N_word "_law_word" (defScope s_word) (df_word.at_ K) cdv A fr s H E).xe := passes_of rfl
  have S := sc_word
  exact (jss_cons (js_set (i := 3) S.nd rfl (Or.inr rfl) (je_var 1)) (jss_cons (js_if (jt_cmp (op_eqJ hr) eqD_ok (je_call (g_dip Fx) (hr.mono (by decide)) (by rfl) tk (ja_cons (je_var 0) (ja_cons je_int ja_nil))) je_int (nomark _)) (jss_one (js_set (i := 3) S.nd rfl (Or.inr rfl) (je_op op_addD addD_ok (je_call (g_of Fx) (hr.mono (by decide)) (by rfl) tk (ja_cons (je_var 0) (ja_cons (je_var 1) ja_nil))) (je_call (g_of Fx) (hr.mono (by decide)) (by rfl) tk (ja_cons (je_var 0) (ja_cons (je_var 1) ja_nil)))))) jss_nil) (jss_one (js_ret (je_bm (Ty := .s) PySem.F.plainAttrs_str PySem.F.slot_str_join PySem.F.type_str_join mt_join strJoin_ok (je_str (l := [])) (ja_cons (je_lc (own := [("_law_k", 4)]) (g := (.n 4)) rfl S.nd (ji_range1 (by rfl) Fx.b_range (ja_cons (je_var 2) ja_nil)) (blkOk_by (by kernel_rfl)) (fun _ _ _ _ _ => (jg_name (i := 4) S.nd rfl (Or.inl rfl))) (fun _ _ _ _ _ => jts_nil) (fun _ _ _ _ _ => (je_call (g_of Fx) (hr.mono (by decide)) (by rfl) tk0 (ja_cons (je_var 0) (ja_cons (je_var 3) ja_nil))))) ja_nil))))))
theorem g_word {P : Program} {w : World} {K : PySem.W.Frag} {mg : Str → Option Value} {base : Heap} (Fx : FX K mg) : Good P w TT K mg base 3 "_law_word" ["_law_bowl_here", "_law_signs_here", "_law_size"] d_word := Fx.d_word.elim fun fd F => ⟨fd, w_word Fx F, F.bindsN fun _ _ _ _ _ _ us hl => match us, hl with | [_, _, _], _ => rfl, Fx.m_word, F.kp⟩
abbrev N_guesses : List Str := ["_law_bowl_here", "_law_signs_here", "_law_size", "_law_most", "_law_found", "_law_turn"]
theorem sc_guesses : FnScope N_guesses ["_law_bowl_here", "_law_signs_here", "_law_size", "_law_most"] (defScope s_guesses) := ⟨rfl, rfl, rfl, by decide +kernel, rfl, by decide +kernel, by decide +kernel⟩
def is_guesses : IS := (sSeq (sAsg 4 (iLstM iNil)) (sSeq (sFor (iRange range1 (iCons (iCall 2 d_dip (iCons (iVar 0) (iCons (iOp addD (iVar 3) (iC (.int 1))) iNil))) iNil)) (.n 5) (sExpr (iBM .l lstApp (iVar 4) (iCons (iIf (iTst (iOp eqD (iCall 2 d_dip (iCons (iVar 0) (iCons (iC (.int 4)) iNil))) (iC (.int 0)))) (iOp mulD (iCall 2 d_of (iCons (iVar 0) (iCons (iVar 1) iNil))) (iVar 2)) (iCall 3 d_word (iCons (iVar 0) (iCons (iVar 1) (iCons (iVar 2) iNil))))) iNil)))) (sSeq (sFrz 4) (sRet (iCB tupD (iCons (iVar 4) iNil))))))
def d_guesses : List D → M D := defJ 6 false is_guesses
theorem w_guesses {P : Program} {w : World} {K : PySem.W.Frag} {mg : Str → Option Value} {base : Heap} (Fx : FX K mg) {fd : FuncData} (F : df_guesses.Fun K fd) : FnG P w K mg base 4 (df_guesses.at_ K) fd ["_law_bowl_here", "_law_signs_here", "_law_size", "_law_most"] (spJ TT K 4 d_guesses) := by
  refine fn_j (T := TT) false F sc_guesses (fun cdv A fr s H E room gd => ?_)
  have hr : Rg 3 (cxOf (L2.CX P w) P w K mg base N_guesses "_law_guesses" (defScope s_guesses) (df_guesses.at_ K) cdv A fr s H E).A := ⟨room, gd⟩
  have tk : Takes (cxOf (L2.CX P w) P w K mg base N_guesses "_law_guesses" (defScope s_guesses) (df_guesses.at_ K) cdv A fr s H E) (fun c d _ H => E c d H) := takes_of rfl rfl rfl rfl
  have po : PassesOwn (model P w) (cxOf (L2.CX P w) P w K mg base N_guesses "_law_guesses" (defScope s_guesses) (df_guesses.at_ K) cdv A fr s H E).A (cxOf (L2.CX P w) P w K mg base N_guesses "_law_guesses" (defScope s_guesses) (df_guesses.at_ K) cdv A fr s H E).env (cxOf (L2.CX P w) P w K mg base N_guesses "_law_guesses" (defScope s_guesses) (df_guesses.at_ K) cdv A fr s H E).xe := passes_of rfl
  have S := sc_guesses
  exact (jss_cons (js_set (i := 4) S.nd rfl (Or.inl rfl) (je_lstM ja_nil)) (jss_cons (js_for po rfl (ji_range1 (by rfl) Fx.b_range (ja_cons (je_call (g_dip Fx) (hr.mono (by decide)) (by rfl) tk (ja_cons (je_var 0) (ja_cons (je_op op_addD addD_ok (je_var 3) je_int) ja_nil))) ja_nil)) (jg_name (i := 5) S.nd rfl (Or.inl rfl)) (jss_one (js_expr (je_bm (Ty := .l) PySem.F.plainAttrs_list PySem.F.slot_list_append PySem.F.type_list_append mt_append lstApp_ok (je_var 4) (ja_cons (je_if (jt_cmp (op_eqJ hr) eqD_ok (je_call (g_dip Fx) (hr.mono (by decide)) (by rfl) tk (ja_cons (je_var 0) (ja_cons je_int ja_nil))) je_int (nomark _)) (je_op op_mulD mulD_ok (je_call (g_of Fx) (hr.mono (by decide)) (by rfl) tk (ja_cons (je_var 0) (ja_cons (je_var 1) ja_nil))) (je_var 2)) (je_call (g_word Fx) (hr.mono (by decide)) (by rfl) tk (ja_cons (je_var 0) (ja_cons (je_var 1) (ja_cons (je_var 2) ja_nil))))) ja_nil))))) (jss_frz (jss_one (js_ret (je_callTy call_tuple_of tupD_ok (by rfl) Fx.b_tuple (by decide +kernel) (ja_cons (je_var 4) ja_nil)))))))
theorem g_guesses {P : Program} {w : World} {K : PySem.W.Frag} {mg : Str → Option Value} {base : Heap} (Fx : FX K mg) : Good P w TT K mg base 4 "_law_guesses" ["_law_bowl_here", "_law_signs_here", "_law_size", "_law_most"] d_guesses := Fx.d_guesses.elim fun fd F => ⟨fd, w_guesses Fx F, F.bindsN fun _ _ _ _ _ _ us hl => match us, hl with | [_, _, _, _], _ => rfl, Fx.m_guesses, F.kp⟩
abbrev N_check_board : List Str := ["value"]
theorem sc_check_board : FnScope N_check_board ["value"] (defScope s_check_board) := ⟨rfl, rfl, rfl, by decide +kernel, rfl, by decide +kernel, by decide +kernel⟩
def is_check_board : IS := (sIf (iNot (iTst (iCB (isiD CS TB) (iCons (iVar 0) (iCons (iC (.glo 0)) iNil))))) sNever sNext)
def d_check_board : List D → M D := defJ 1 false is_check_board
theorem w_check_board {P : Program} {w : World} {K : PySem.W.Frag} {mg : Str → Option Value} {base : Heap} (Fx : FX K mg) {fd : FuncData} (F : df_check_board.Fun K fd) : FnG P w K mg base 1 (df_check_board.at_ K) fd ["value"] (spJ TT K 1 d_check_board) := by
  refine fn_j (T := TT) false F sc_check_board (fun cdv A fr s H E room gd => ?_)
  have hr : Rg 0 (cxOf (L2.CX P w) P w K mg base N_check_board "check_board" (defScope s_check_board) (df_check_board.at_ K) cdv A fr s H E).A := ⟨room, gd⟩
  have tk : Takes (cxOf (L2.CX P w) P w K mg base N_check_board "check_board" (defScope s_check_board) (df_check_board.at_ K) cdv A fr s H E) (fun c d _ H => E c d H) := takes_of rfl rfl rfl rfl
  have po : PassesOwn (model P w) (cxOf (L2.CX P w) P w K mg base N_check_board "check_board" (defScope s_check_board) (df_check_board.at_ K) cdv A fr s H E).A (cxOf (L2.CX P w) P w K mg base N_check_board "check_board" (defScope s_check_board) (df_check_board.at_ K) cdv A fr s H E).env (cxOf (L2.CX P w) P w K mg base N_check_board "check_board" (defScope s_check_board) (df_check_board.at_ K) cdv A fr s H E).xe := passes_of rfl
  have S := sc_check_board
  exact (jss_one (js_if (jt_not (jt_val (je_callB call_isi (isiD_ok Fx.isk) (by rfl) Fx.b_isinstance (by decide +kernel) (ja_cons (je_var 0) (ja_cons (je_cls (c := 0) rfl Fx.k_Board (by rfl)) ja_nil))))) (jss_one js_never) jss_nil))
theorem g_check_board {P : Program} {w : World} {K : PySem.W.Frag} {mg : Str → Option Value} {base : Heap} (Fx : FX K mg) : Good P w TT K mg base 1 "check_board" ["value"] d_check_board := Fx.d_check_board.elim fun fd F => ⟨fd, w_check_board Fx F, F.bindsN fun _ _ _ _ _ _ us hl => match us, hl with | [_], _ => rfl, Fx.m_check_board, F.kp⟩
abbrev N_is_word : List Str := ["board", "value", "letter"]
theorem sc_is_word : FnScope N_is_word ["board", "value"] (defScope s_is_word) := ⟨rfl, rfl, rfl, by decide +kernel, rfl, by decide +kernel, by decide +kernel⟩
def is_is_word : IS := (sSeq (sIf (iOr (iNot (iTst (iCB (isiD CS TB) (iCons (iVar 1) (iCons (iC (.ty "str")) iNil))))) (iTst (iOp neD (iCB lenD (iCons (iVar 1) iNil)) (iFld TT [0] 1 (iVar 0))))) (sRet (iC (.bl false))) sNext) (sRet (iCB allD (iCons (iLc (iItems (iVar 1)) (.n 2) iYes (iOp inD (iVar 2) (iFld TT [0] 0 (iVar 0))) [2]) iNil))))
def d_is_word : List D → M D := defJ 3 false is_is_word
theorem w_is_word {P : Program} {w : World} {K : PySem.W.Frag} {mg : Str → Option Value} {base : Heap} (Fx : FX K mg) {fd : FuncData} (F : df_is_word.Fun K fd) : FnG P w K mg base 1 (df_is_word.at_ K) fd ["board", "value"] (spJ TT K 2 d_is_word) := by
  refine fn_j (T := TT) false F sc_is_word (fun cdv A fr s H E room gd => ?_)
  have hr : Rg 0 (cxOf (L2.CX P w) P w K mg base N_is_word "is_word" (defScope s_is_word) (df_is_word.at_ K) cdv A fr s H E).A := ⟨room, gd⟩
  have tk : Takes (cxOf (L2.CX P w) P w K mg base N_is_word "is_word" (defScope s_is_word) (df_is_word.at_ K) cdv A fr s H E) (fun c d _ H => E c d H) := takes_of rfl rfl rfl rfl
  have po : PassesOwn (model P w) (cxOf (L2.CX P w) P w K mg base N_is_word "is_word" (defScope s_is_word) (df_is_word.at_ K) cdv A fr s H E).A (cxOf (L2.CX P w) P w K mg base N_is_word "is_word" (defScope s_is_word) (df_is_word.at_ K) cdv A fr s H E).env (cxOf (L2.CX P w) P w K mg base N_is_word "is_word" (defScope s_is_word) (df_is_word.at_ K) cdv A fr s H E).xe := passes_of rfl
  have S := sc_is_word
  exact (jss_cons (js_if (jt_w (jw_or (jt_not (jt_val (je_callB call_isi (isiD_ok Fx.isk) (by rfl) Fx.b_isinstance (by decide +kernel) (ja_cons (je_var 1) (ja_cons (je_ty (n := "str") rfl Fx.b_str (by decide +kernel)) ja_nil))))) (jw_or1 (jt_cmp (op_neJ hr) neD_ok (je_callB call_len lenD_ok (by rfl) Fx.b_len (by decide +kernel) (ja_cons (je_var 1) ja_nil)) (je_fld (cs := [0]) (f := 1) (je_var 0) Fx.f_length (by rfl)) (nomark _))))) (jss_one (js_ret je_bl)) jss_nil) (jss_one (js_ret (je_callB (cr_all rfl) allD_ok (by rfl) Fx.b_all (by decide +kernel) (ja_cons (je_lc (own := [("letter", 2)]) (g := (.n 2)) rfl S.nd (ji_items (je_var 1)) (blkOk_by (by kernel_rfl)) (fun _ _ _ _ _ => (jg_name (i := 2) S.nd rfl (Or.inl rfl))) (fun _ _ _ _ _ => jts_nil) (fun _ _ _ _ _ => (je_cmp op_inD inD_ok (je_var 2) (je_fld (cs := [0]) (f := 0) (je_var 0) Fx.f_letters (by rfl)) (by rfl)))) ja_nil)))))
theorem g_is_word {P : Program} {w : World} {K : PySem.W.Frag} {mg : Str → Option Value} {base : Heap} (Fx : FX K mg) : Good P w TT K mg base 1 "is_word" ["board", "value"] d_is_word := Fx.d_is_word.elim fun fd F => ⟨fd, w_is_word Fx F, F.bindsN fun _ _ _ _ _ _ us hl => match us, hl with | [_, _], _ => rfl, Fx.m_is_word, F.kp⟩
abbrev N_check_guesses : List Str := ["board", "guesses", "index", "guess"]
theorem sc_check_guesses : FnScope N_check_guesses ["board", "guesses"] (defScope s_check_guesses) := ⟨rfl, rfl, rfl, by decide +kernel, rfl, by decide +kernel, by decide +kernel⟩
def is_check_guesses : IS := (sSeq (sIf (iOr (iNot (iTst (iCB (isiD CS TB) (iCons (iVar 1) (iCons (iC (.ty "tuple")) iNil))))) (iTst (iOp gtI (iCB lenD (iCons (iVar 1) iNil)) (iC (.int 20))))) sNever sNext) (sFor (iEnumD (iCons (iVar 1) iNil)) (.t [2, 3]) (sIf (iNot (iTst (iCall 2 d_is_word (iCons (iVar 0) (iCons (iVar 3) iNil))))) sNever sNext)))
def d_check_guesses : List D → M D := defJ 4 false is_check_guesses
theorem w_check_guesses {P : Program} {w : World} {K : PySem.W.Frag} {mg : Str → Option Value} {base : Heap} (Fx : FX K mg) {fd : FuncData} (F : df_check_guesses.Fun K fd) : FnG P w K mg base 2 (df_check_guesses.at_ K) fd ["board", "guesses"] (spJ TT K 2 d_check_guesses) := by
  refine fn_j (T := TT) false F sc_check_guesses (fun cdv A fr s H E room gd => ?_)
  have hr : Rg 1 (cxOf (L2.CX P w) P w K mg base N_check_guesses "check_guesses" (defScope s_check_guesses) (df_check_guesses.at_ K) cdv A fr s H E).A := ⟨room, gd⟩
  have tk : Takes (cxOf (L2.CX P w) P w K mg base N_check_guesses "check_guesses" (defScope s_check_guesses) (df_check_guesses.at_ K) cdv A fr s H E) (fun c d _ H => E c d H) := takes_of rfl rfl rfl rfl
  have po : PassesOwn (model P w) (cxOf (L2.CX P w) P w K mg base N_check_guesses "check_guesses" (defScope s_check_guesses) (df_check_guesses.at_ K) cdv A fr s H E).A (cxOf (L2.CX P w) P w K mg base N_check_guesses "check_guesses" (defScope s_check_guesses) (df_check_guesses.at_ K) cdv A fr s H E).env (cxOf (L2.CX P w) P w K mg base N_check_guesses "check_guesses" (defScope s_check_guesses) (df_check_guesses.at_ K) cdv A fr s H E).xe := passes_of rfl
  have S := sc_check_guesses
  exact (jss_cons (js_if (jt_w (jw_or (jt_not (jt_val (je_callB call_isi (isiD_ok Fx.isk) (by rfl) Fx.b_isinstance (by decide +kernel) (ja_cons (je_var 1) (ja_cons (je_ty (n := "tuple") rfl Fx.b_tuple (by decide +kernel)) ja_nil))))) (jw_or1 (jt_cmp op_gt gtI_ok (je_callB call_len lenD_ok (by rfl) Fx.b_len (by decide +kernel) (ja_cons (je_var 1) ja_nil)) (je_gint rfl Fx.c_MOST_GUESSES) (nomark _))))) (jss_one js_never) jss_nil) (jss_one (js_for po rfl (ji_enum (by rfl) Fx.b_enumerate (ja_cons (je_var 1) ja_nil)) (jg_tup rfl (jgs_cons (i := 2) S.nd rfl (Or.inl rfl) (jgs_cons (i := 3) S.nd rfl (Or.inl rfl) jgs_nil))) (jss_one (js_if (jt_not (jt_val (je_call (g_is_word Fx) (hr.mono (by decide)) (by rfl) tk (ja_cons (je_var 0) (ja_cons (je_var 3) ja_nil))))) (jss_one js_never) jss_nil)))))
theorem g_check_guesses {P : Program} {w : World} {K : PySem.W.Frag} {mg : Str → Option Value} {base : Heap} (Fx : FX K mg) : Good P w TT K mg base 2 "check_guesses" ["board", "guesses"] d_check_guesses := Fx.d_check_guesses.elim fun fd F => ⟨fd, w_check_guesses Fx F, F.bindsN fun _ _ _ _ _ _ us hl => match us, hl with | [_, _], _ => rfl, Fx.m_check_guesses, F.kp⟩
abbrev N_letters_tried : List Str := ["board", "guesses", "place", "letter", "guess"]
theorem sc_letters_tried : FnScope N_letters_tried ["board", "guesses", "place"] (defScope s_letters_tried) := ⟨rfl, rfl, rfl, by decide +kernel, rfl, by decide +kernel, by decide +kernel⟩
def is_letters_tried : IS := (sRet (iBM .s strJoin (iC (.str [])) (iCons (iLc (iItems (iFld TT [0] 0 (iVar 0))) (.n 3) (iTst (iCB anyD (iCons (iLc (iItems (iVar 1)) (.n 4) iYes (iOp eqD (iOp ixD (iVar 4) (iVar 2)) (iVar 3)) [4]) iNil))) (iVar 3) [3]) iNil)))
def d_letters_tried : List D → M D := defJ 5 false is_letters_tried
theorem w_letters_tried {P : Program} {w : World} {K : PySem.W.Frag} {mg : Str → Option Value} {base : Heap} (Fx : FX K mg) {fd : FuncData} (F : df_letters_tried.Fun K fd) : FnG P w K mg base 1 (df_letters_tried.at_ K) fd ["board", "guesses", "place"] (spJ TT K 3 d_letters_tried) := by
  refine fn_j (T := TT) false F sc_letters_tried (fun cdv A fr s H E room gd => ?_)
  have hr : Rg 0 (cxOf (L2.CX P w) P w K mg base N_letters_tried "letters_tried" (defScope s_letters_tried) (df_letters_tried.at_ K) cdv A fr s H E).A := ⟨room, gd⟩
  have tk : Takes (cxOf (L2.CX P w) P w K mg base N_letters_tried "letters_tried" (defScope s_letters_tried) (df_letters_tried.at_ K) cdv A fr s H E) (fun c d _ H => E c d H) := takes_of rfl rfl rfl rfl
  have po : PassesOwn (model P w) (cxOf (L2.CX P w) P w K mg base N_letters_tried "letters_tried" (defScope s_letters_tried) (df_letters_tried.at_ K) cdv A fr s H E).A (cxOf (L2.CX P w) P w K mg base N_letters_tried "letters_tried" (defScope s_letters_tried) (df_letters_tried.at_ K) cdv A fr s H E).env (cxOf (L2.CX P w) P w K mg base N_letters_tried "letters_tried" (defScope s_letters_tried) (df_letters_tried.at_ K) cdv A fr s H E).xe := passes_of rfl
  have S := sc_letters_tried
  exact (jss_one (js_ret (je_bm (Ty := .s) PySem.F.plainAttrs_str PySem.F.slot_str_join PySem.F.type_str_join mt_join strJoin_ok (je_str (l := [])) (ja_cons (je_lc (own := [("letter", 3)]) (g := (.n 3)) rfl S.nd (ji_items (je_fld (cs := [0]) (f := 0) (je_var 0) Fx.f_letters (by rfl))) (blkOk_by (by kernel_rfl)) (fun _ _ _ _ _ => (jg_name (i := 3) S.nd rfl (Or.inr rfl))) (fun _ _ _ _ _ => (jts_one (jt_val (je_callB (cr_any rfl) anyD_ok (by rfl) Fx.b_any (by decide +kernel) (ja_cons (je_lc (own := [("guess", 4)]) (g := (.n 4)) rfl S.nd (ji_items (je_var 1)) (blkOk_by (by kernel_rfl)) (fun _ _ _ _ _ => (jg_name (i := 4) S.nd rfl (Or.inl rfl))) (fun _ _ _ _ _ => jts_nil) (fun _ _ _ _ _ => (je_cmp (op_eqJ hr) eqD_ok (je_ix ix_seq ixD_ok (je_var 4) (je_var 2) (fun _ _ => rfl)) (je_var 3) (nomark _)))) ja_nil))))) (fun _ _ _ _ _ => (je_var 3))) ja_nil))))
theorem g_letters_tried {P : Program} {w : World} {K : PySem.W.Frag} {mg : Str → Option Value} {base : Heap} (Fx : FX K mg) : Good P w TT K mg base 1 "letters_tried" ["board", "guesses", "place"] d_letters_tried := Fx.d_letters_tried.elim fun fd F => ⟨fd, w_letters_tried Fx F, F.bindsN fun _ _ _ _ _ _ us hl => match us, hl with | [_, _, _], _ => rfl, Fx.m_letters_tried, F.kp⟩
abbrev N_number_tried : List Str := ["guesses", "letter", "guess"]
theorem sc_number_tried : FnScope N_number_tried ["guesses", "letter"] (defScope s_number_tried) := ⟨rfl, rfl, rfl, by decide +kernel, rfl, by decide +kernel, by decide +kernel⟩
def is_number_tried : IS := (sRet (iCB maxL (iCons (iLst (iCons (iC (.int 0)) (iStar (iLc (iItems (iVar 0)) (.n 2) iYes (iBM .s strCount (iVar 2) (iCons (iVar 1) iNil)) [2]) iNil))) iNil)))
def d_number_tried : List D → M D := defJ 3 false is_number_tried
theorem w_number_tried {P : Program} {w : World} {K : PySem.W.Frag} {mg : Str → Option Value} {base : Heap} (Fx : FX K mg) {fd : FuncData} (F : df_number_tried.Fun K fd) : FnG P w K mg base 1 (df_number_tried.at_ K) fd ["guesses", "letter"] (spJ TT K 2 d_number_tried) := by
  refine fn_j (T := TT) false F sc_number_tried (fun cdv A fr s H E room gd => ?_)
  have hr : Rg 0 (cxOf (L2.CX P w) P w K mg base N_number_tried "number_tried" (defScope s_number_tried) (df_number_tried.at_ K) cdv A fr s H E).A := ⟨room, gd⟩
  have tk : Takes (cxOf (L2.CX P w) P w K mg base N_number_tried "number_tried" (defScope s_number_tried) (df_number_tried.at_ K) cdv A fr s H E) (fun c d _ H => E c d H) := takes_of rfl rfl rfl rfl
  have po : PassesOwn (model P w) (cxOf (L2.CX P w) P w K mg base N_number_tried "number_tried" (defScope s_number_tried) (df_number_tried.at_ K) cdv A fr s H E).A (cxOf (L2.CX P w) P w K mg base N_number_tried "number_tried" (defScope s_number_tried) (df_number_tried.at_ K) cdv A fr s H E).env (cxOf (L2.CX P w) P w K mg base N_number_tried "number_tried" (defScope s_number_tried) (df_number_tried.at_ K) cdv A fr s H E).xe := passes_of rfl
  have S := sc_number_tried
  exact (jss_one (js_ret (je_callB (cr_max rfl) maxL_ok (by rfl) Fx.b_max (by decide +kernel) (ja_cons (je_lst (ja_cons je_int (ja_star (je_lc (own := [("guess", 2)]) (g := (.n 2)) rfl S.nd (ji_items (je_var 0)) (blkOk_by (by kernel_rfl)) (fun _ _ _ _ _ => (jg_name (i := 2) S.nd rfl (Or.inl rfl))) (fun _ _ _ _ _ => jts_nil) (fun _ _ _ _ _ => (je_bm (Ty := .s) PySem.F.plainAttrs_str PySem.F.slot_str_count PySem.F.type_str_count mt_count strCount_ok (je_var 2) (ja_cons (je_var 1) ja_nil)))) ja_nil))) ja_nil))))
theorem g_number_tried {P : Program} {w : World} {K : PySem.W.Frag} {mg : Str → Option Value} {base : Heap} (Fx : FX K mg) : Good P w TT K mg base 1 "number_tried" ["guesses", "letter"] d_number_tried := Fx.d_number_tried.elim fun fd F => ⟨fd, w_number_tried Fx F, F.bindsN fun _ _ _ _ _ _ us hl => match us, hl with | [_, _], _ => rfl, Fx.m_number_tried, F.kp⟩
abbrev N_tried_of : List Str := ["board", "guesses", "letters", "place", "letter"]
theorem sc_tried_of : FnScope N_tried_of ["board", "guesses"] (defScope s_tried_of) := ⟨rfl, rfl, rfl, by decide +kernel, rfl, by decide +kernel, by decide +kernel⟩
def is_tried_of : IS := (sSeq (sAsg 2 (iCB tupD (iCons (iLc (iRange range1 (iCons (iFld TT [0] 1 (iVar 0)) iNil)) (.n 3) iYes (iCall 3 d_letters_tried (iCons (iVar 0) (iCons (iVar 1) (iCons (iVar 3) iNil)))) [3]) iNil))) (sRet (iTup (iCons (iVar 2) (iCons (iCB tupD (iCons (iLc (iItems (iFld TT [0] 0 (iVar 0))) (.n 4) iYes (iCall 2 d_number_tried (iCons (iVar 1) (iCons (iVar 4) iNil))) [4]) iNil)) iNil)))))
def d_tried_of : List D → M D := defJ 5 false is_tried_of
theorem w_tried_of {P : Program} {w : World} {K : PySem.W.Frag} {mg : Str → Option Value} {base : Heap} (Fx : FX K mg) {fd : FuncData} (F : df_tried_of.Fun K fd) : FnG P w K mg base 2 (df_tried_of.at_ K) fd ["board", "guesses"] (spJ TT K 2 d_tried_of) := by
  refine fn_j (T := TT) false F sc_tried_of (fun cdv A fr s H E room gd => ?_)
  have hr : Rg 1 (cxOf (L2.CX P w) P w K mg base N_tried_of "tried_of" (defScope s_tried_of) (df_tried_of.at_ K) cdv A fr s H E).A := ⟨room, gd⟩
  have tk : Takes (cxOf (L2.CX P w) P w K mg base N_tried_of "tried_of" (defScope s_tried_of) (df_tried_of.at_ K) cdv A fr s H E) (fun c d _ H => E c d H) := takes_of rfl rfl rfl rfl
  have po : PassesOwn (model P w) (cxOf (L2.CX P w) P w K mg base N_tried_of "tried_of" (defScope s_tried_of) (df_tried_of.at_ K) cdv A fr s H E).A (cxOf (L2.CX P w) P w K mg base N_tried_of "tried_of" (defScope s_tried_of) (df_tried_of.at_ K) cdv A fr s H E).env (cxOf (L2.CX P w) P w K mg base N_tried_of "tried_of" (defScope s_tried_of) (df_tried_of.at_ K) cdv A fr s H E).xe := passes_of rfl
  have S := sc_tried_of
  exact (jss_cons (js_set (i := 2) S.nd rfl (Or.inl rfl) (je_callTy call_tuple_of tupD_ok (by rfl) Fx.b_tuple (by decide +kernel) (ja_cons (je_lc (own := [("place", 3)]) (g := (.n 3)) rfl S.nd (ji_range1 (by rfl) Fx.b_range (ja_cons (je_fld (cs := [0]) (f := 1) (je_var 0) Fx.f_length (by rfl)) ja_nil)) (blkOk_by (by kernel_rfl)) (fun _ _ _ _ _ => (jg_name (i := 3) S.nd rfl (Or.inl rfl))) (fun _ _ _ _ _ => jts_nil) (fun _ _ _ _ _ => (je_call (g_letters_tried Fx) (hr.mono (by decide)) (by rfl) tk0 (ja_cons (je_var 0) (ja_cons (je_var 1) (ja_cons (je_var 3) ja_nil)))))) ja_nil))) (jss_one (js_ret (je_tup (ja_cons (je_var 2) (ja_cons (je_callTy call_tuple_of tupD_ok (by rfl) Fx.b_tuple (by decide +kernel) (ja_cons (je_lc (own := [("letter", 4)]) (g := (.n 4)) rfl S.nd (ji_items (je_fld (cs := [0]) (f := 0) (je_var 0) Fx.f_letters (by rfl))) (blkOk_by (by kernel_rfl)) (fun _ _ _ _ _ => (jg_name (i := 4) S.nd rfl (Or.inl rfl))) (fun _ _ _ _ _ => jts_nil) (fun _ _ _ _ _ => (je_call (g_number_tried Fx) (hr.mono (by decide)) (by rfl) tk0 (ja_cons (je_var 1) (ja_cons (je_var 4) ja_nil))))) ja_nil)) ja_nil))))))
theorem g_tried_of {P : Program} {w : World} {K : PySem.W.Frag} {mg : Str → Option Value} {base : Heap} (Fx : FX K mg) : Good P w TT K mg base 2 "tried_of" ["board", "guesses"] d_tried_of := Fx.d_tried_of.elim fun fd F => ⟨fd, w_tried_of Fx F, F.bindsN fun _ _ _ _ _ _ us hl => match us, hl with | [_, _], _ => rfl, Fx.m_tried_of, F.kp⟩
abbrev N_tried : List Str := ["board", "guesses"]
theorem sc_tried : FnScope N_tried ["board", "guesses"] (defScope s_tried) := ⟨rfl, rfl, rfl, by decide +kernel, rfl, by decide +kernel, by decide +kernel⟩
def is_tried : IS := (sSeq (sExpr (iCall 1 d_check_board (iCons (iVar 0) iNil))) (sSeq (sExpr (iCall 2 d_check_guesses (iCons (iVar 0) (iCons (iVar 1) iNil)))) (sRet (iCall 2 d_tried_of (iCons (iVar 0) (iCons (iVar 1) iNil))))))
def d_tried : List D → M D := defJ 2 false is_tried
theorem w_tried {P : Program} {w : World} {K : PySem.W.Frag} {mg : Str → Option Value} {base : Heap} (Fx : FX K mg) {fd : FuncData} (F : df_tried.Fun K fd) : FnG P w K mg base 3 (df_tried.at_ K) fd ["board", "guesses"] (spJ TT K 2 d_tried) := by
  refine fn_j (T := TT) false F sc_tried (fun cdv A fr s H E room gd => ?_)
  have hr : Rg 2 (cxOf (L2.CX P w) P w K mg base N_tried "tried" (defScope s_tried) (df_tried.at_ K) cdv A fr s H E).A := ⟨room, gd⟩
  have tk : Takes (cxOf (L2.CX P w) P w K mg base N_tried "tried" (defScope s_tried) (df_tried.at_ K) cdv A fr s H E) (fun c d _ H => E c d H) := takes_of rfl rfl rfl rfl
  have po : PassesOwn (model P w) (cxOf (L2.CX P w) P w K mg base N_tried "tried" (defScope s_tried) (df_tried.at_ K) cdv A fr s H E).A (cxOf (L2.CX P w) P w K mg base N_tried "tried" (defScope s_tried) (df_tried.at_ K) cdv A fr s H E).env (cxOf (L2.CX P w) P w K mg base N_tried "tried" (defScope s_tried) (df_tried.at_ K) cdv A fr s H E).xe := passes_of rfl
  have S := sc_tried
  exact (jss_cons (js_expr (je_call (g_check_board Fx) (hr.mono (by decide)) (by rfl) tk (ja_cons (je_var 0) ja_nil))) (jss_cons (js_expr (je_call (g_check_guesses Fx) (hr.mono (by decide)) (by rfl) tk (ja_cons (je_var 0) (ja_cons (je_var 1) ja_nil)))) (jss_one (js_ret (je_call (g_tried_of Fx) (hr.mono (by decide)) (by rfl) tk (ja_cons (je_var 0) (ja_cons (je_var 1) ja_nil)))))))
theorem g_tried {P : Program} {w : World} {K : PySem.W.Frag} {mg : Str → Option Value} {base : Heap} (Fx : FX K mg) : Good P w TT K mg base 3 "tried" ["board", "guesses"] d_tried := Fx.d_tried.elim fun fd F => ⟨fd, w_tried Fx F, F.bindsN fun _ _ _ _ _ _ us hl => match us, hl with | [_, _], _ => rfl, Fx.m_tried, F.kp⟩
theorem k_tried_10 {P : Program} {w : World} {K : PySem.W.Frag} {mg : Str → Option Value} {base : Heap} (Fx : FX K mg) : GoodK P w TT K mg base 3 "tried" ["board", "guesses"] d_tried 0 ["guesses", "board"] [1, 0] := Fx.d_tried.elim fun fd F => ⟨fd, w_tried Fx F, bindsW_of F fun _ _ _ _ _ _ us ws hl hk => match us, hl, ws, hk with | [], _, [_, _], _ => rfl, Fx.m_tried, F.kp⟩
abbrev N_right : List Str := ["_law_bowl_here", "_law_turn", "_law_spots", "_law_numbers", "_law_told", "_law_signs_here", "_law_size", "_law_box", "_law_some", "_law_k", "_law_sign", "_law_asked"]
theorem sc_right : FnScope N_right ["_law_bowl_here"] (defScope s_right) := ⟨rfl, rfl, rfl, by decide +kernel, rfl, by decide +kernel, by decide +kernel⟩
def is_right : IS := (sSeq (sFor (iRange range1 (iCons (iC (.int 5)) iNil)) (.n 1) (sSeq (sPar 5 6 (iCons (iCall 3 d_signs (iCons (iVar 0) (iCons (iC (.int 2)) (iCons (iC (.int 26)) iNil)))) (iCons (iOp addD (iC (.int 1)) (iCall 2 d_dip (iCons (iVar 0) (iCons (iC (.int 6)) iNil)))) iNil))) (sSeq (sAsgG (.t [7, 8]) (iTup (iCons (iMake TT true 0 3 d_Board_init (iCons (iVar 5) (iCons (iVar 6) iNil))) (iCons (iCall 4 d_guesses (iCons (iVar 0) (iCons (iVar 5) (iCons (iVar 6) (iCons (iCall 2 d_of (iCons (iVar 0) (iCons (iLst (iCons (iC (.int 2)) (iCons (iC (.int 6)) (iCons (iC (.int 20)) iNil)))) iNil))) iNil))))) iNil)))) (sSeq (sAsg 2 (iCB tupD (iCons (iLc (iRange range1 (iCons (iVar 6) iNil)) (.n 9) iYes (iBM .s strJoin (iC (.str [])) (iCons (iSrtS (iLc (iItems (iVar 8)) (.n 11) iYes (iOp ixD (iVar 11) (iVar 9)) [11])) iNil)) [9]) iNil))) (sSeq (sAsg 3 (iCB tupD (iCons (iLc (iItems (iVar 5)) (.n 10) iYes (iCB maxL (iCons (iOp addD (iLst (iCons (iC (.int 0)) iNil)) (iLc (iItems (iVar 8)) (.n 11) iYes (iBM .s strCount (iVar 11) (iCons (iVar 10) iNil)) [11])) iNil)) [10]) iNil))) (sSeq (sAsg 4 (iLst (iCons (iCall 2 d_tried (iCons (iVar 7) (iCons (iVar 8) iNil))) (iCons (iCallK 2 [1, 0] d_tried (iCons (iRevT (iVar 8)) (iCons (iVar 7) iNil))) iNil)))) (sIf (iTst (iOp neD (iCB reprD (iCons (iVar 4) iNil)) (iCB reprD (iCons (iLst (iCons (iTup (iCons (iVar 2) (iCons (iVar 3) iNil))) (iCons (iTup (iCons (iVar 2) (iCons (iVar 3) iNil))) iNil))) iNil)))) (sRet (iC (.bl false))) sNext))))))) (sRet (iC (.bl true))))
def d_right : List D → M D := defJ 12 false is_right
theorem w_right {P : Program} {w : World} {K : PySem.W.Frag} {mg : Str → Option Value} {base : Heap} (Fx : FX K mg) {fd : FuncData} (F : df_right.Fun K fd) : FnG P w K mg base 5 (df_right.at_ K) fd ["_law_bowl_here"] (spJ TT K 1 d_right) := by
  refine fn_j (T := TT) false F sc_right (fun cdv A fr s H E room gd => ?_)
  have hr : Rg 4 (cxOf (L2.CX P w) P w K mg base N_right "_law_right" (defScope s_right) (df_right.at_ K) cdv A fr s H E).A := ⟨room, gd⟩
  have tk : Takes (cxOf (L2.CX P w) P w K mg base N_right "_law_right" (defScope s_right) (df_right.at_ K) cdv A fr s H E) (fun c d _ H => E c d H) := takes_of rfl rfl rfl rfl
  have po : PassesOwn (model P w) (cxOf (L2.CX P w) P w K mg base N_right "_law_right" (defScope s_right) (df_right.at_ K) cdv A fr s H E).A (cxOf (L2.CX P w) P w K mg base N_right "_law_right" (defScope s_right) (df_right.at_ K) cdv A fr s H E).env (cxOf (L2.CX P w) P w K mg base N_right "_law_right" (defScope s_right) (df_right.at_ K) cdv A fr s H E).xe := passes_of rfl
  have S := sc_right
  exact (jss_cons (js_for po rfl (ji_range1 (by rfl) Fx.b_range (ja_cons je_int ja_nil)) (jg_name (i := 1) S.nd rfl (Or.inl rfl)) (jss_cons (js_par (i := 5) (j := 6) rfl S.nd rfl rfl (by decide) rfl rfl (ja_cons (je_call (g_signs Fx) (hr.mono (by decide)) (by rfl) tk (ja_cons (je_var 0) (ja_cons je_int (ja_cons je_int ja_nil)))) (ja_cons (je_op op_addD addD_ok je_int (je_call (g_dip Fx) (hr.mono (by decide)) (by rfl) tk (ja_cons (je_var 0) (ja_cons je_int ja_nil)))) ja_nil))) (jss_cons (js_asg (je_tup (ja_cons (je_make (g_Board_init Fx) true (hr.mono (by decide)) (by rfl) (by rfl) tk (ja_cons (je_var 5) (ja_cons (je_var 6) ja_nil))) (ja_cons (je_call (g_guesses Fx) (hr.mono (by decide)) (by rfl) tk (ja_cons (je_var 0) (ja_cons (je_var 5) (ja_cons (je_var 6) (ja_cons (je_call (g_of Fx) (hr.mono (by decide)) (by rfl) tk (ja_cons (je_var 0) (ja_cons (je_lst (ja_cons je_int (ja_cons je_int (ja_cons je_int ja_nil)))) ja_nil))) ja_nil))))) ja_nil))) (jg_tup rfl (jgs_cons (i := 7) S.nd rfl (Or.inl rfl) (jgs_cons (i := 8) S.nd rfl (Or.inr rfl) jgs_nil)))) (jss_cons (js_set (i := 2) S.nd rfl (Or.inl rfl) (je_callTy call_tuple_of tupD_ok (by rfl) Fx.b_tuple (by decide +kernel) (ja_cons (je_lc (own := [("_law_k", 9)]) (g := (.n 9)) rfl S.nd (ji_range1 (by rfl) Fx.b_range (ja_cons (je_var 6) ja_nil)) (blkOk_by (by kernel_rfl)) (fun _ _ _ _ _ => (jg_name (i := 9) S.nd rfl (Or.inr rfl))) (fun _ _ _ _ _ => jts_nil) (fun _ _ _ _ _ => (je_bm (Ty := .s) PySem.F.plainAttrs_str PySem.F.slot_str_join PySem.F.type_str_join mt_join strJoin_ok (je_str (l := [])) (ja_cons (je_srtS rfl (by rfl) Fx.b_sorted (by rfl) Fx.b_set (je_lc (own := [("_law_asked", 11)]) (g := (.n 11)) rfl S.nd (ji_items (je_var 8)) (blkOk_by (by kernel_rfl)) (fun _ _ _ _ _ => (jg_name (i := 11) S.nd rfl (Or.inl rfl))) (fun _ _ _ _ _ => jts_nil) (fun _ _ _ _ _ => (je_ix ix_seq ixD_ok (je_var 11) (je_var 9) (fun _ _ => rfl))))) ja_nil)))) ja_nil))) (jss_cons (js_set (i := 3) S.nd rfl (Or.inl rfl) (je_callTy call_tuple_of tupD_ok (by rfl) Fx.b_tuple (by decide +kernel) (ja_cons (je_lc (own := [("_law_sign", 10)]) (g := (.n 10)) rfl S.nd (ji_items (je_var 5)) (blkOk_by (by kernel_rfl)) (fun _ _ _ _ _ => (jg_name (i := 10) S.nd rfl (Or.inr rfl))) (fun _ _ _ _ _ => jts_nil) (fun _ _ _ _ _ => (je_callB (cr_max rfl) maxL_ok (by rfl) Fx.b_max (by decide +kernel) (ja_cons (je_op op_addD addD_ok (je_lst (ja_cons je_int ja_nil)) (je_lc (own := [("_law_asked", 11)]) (g := (.n 11)) rfl S.nd (ji_items (je_var 8)) (blkOk_by (by kernel_rfl)) (fun _ _ _ _ _ => (jg_name (i := 11) S.nd rfl (Or.inl rfl))) (fun _ _ _ _ _ => jts_nil) (fun _ _ _ _ _ => (je_bm (Ty := .s) PySem.F.plainAttrs_str PySem.F.slot_str_count PySem.F.type_str_count mt_count strCount_ok (je_var 11) (ja_cons (je_var 10) ja_nil))))) ja_nil)))) ja_nil))) (jss_cons (js_set (i := 4) S.nd rfl (Or.inl rfl) (je_lst (ja_cons (je_call (g_tried Fx) (hr.mono (by decide)) (by rfl) tk (ja_cons (je_var 7) (ja_cons (je_var 8) ja_nil))) (ja_cons (je_callK0 (ks := ["guesses", "board"]) (pm := [1, 0]) (k_tried_10 Fx) rfl (hr.mono (by decide)) (by rfl) tk (jk_cons (je_revT (je_var 8)) (jk_cons (je_var 7) jk_nil))) ja_nil)))) (jss_one (js_if (jt_cmp (op_neJ hr) neD_ok (je_callB (call_reprD hr) reprD_ok (by rfl) Fx.b_repr (by decide +kernel) (ja_cons (je_var 4) ja_nil)) (je_callB (call_reprD hr) reprD_ok (by rfl) Fx.b_repr (by decide +kernel) (ja_cons (je_lst (ja_cons (je_tup (ja_cons (je_var 2) (ja_cons (je_var 3) ja_nil))) (ja_cons (je_tup (ja_cons (je_var 2) (ja_cons (je_var 3) ja_nil))) ja_nil))) ja_nil)) (nomark _)) (jss_one (js_ret je_bl)) jss_nil)))))))) (jss_one (js_ret je_bl)))
theorem g_right {P : Program} {w : World} {K : PySem.W.Frag} {mg : Str → Option Value} {base : Heap} (Fx : FX K mg) : Good P w TT K mg base 5 "_law_right" ["_law_bowl_here"] d_right := Fx.d_right.elim fun fd F => ⟨fd, w_right Fx F, F.bindsN fun _ _ _ _ _ _ us hl => match us, hl with | [_], _ => rfl, Fx.m_right, F.kp⟩
abbrev N_law : List Str := ["_law_script", "_law_k"]
theorem sc_law : FnScope N_law ["_law_script"] (defScope s_law) := ⟨rfl, rfl, rfl, by decide +kernel, rfl, by decide +kernel, by decide +kernel⟩
def is_law : IS := (sRet (iCB allD (iCons (iLc (iRange range1 (iCons (iCB max2 (iCons (iC (.int 2)) (iCons (iCB min2 (iCons (iCB lenD (iCons (iVar 0) iNil)) (iCons (iC (.int 6)) iNil))) iNil))) iNil)) (.n 1) iYes (iCall 1 d_right (iCons (iCall 2 d_bowl (iCons (iVar 0) (iCons (iVar 1) iNil))) iNil)) [1]) iNil)))
def d_law : List D → M D := defJ 2 false is_law
theorem w_law {P : Program} {w : World} {K : PySem.W.Frag} {mg : Str → Option Value} {base : Heap} (Fx : FX K mg) {fd : FuncData} (F : df_law.Fun K fd) : FnG P w K mg base 6 (df_law.at_ K) fd ["_law_script"] (spJ TT K 1 d_law) := by
  refine fn_j (T := TT) false F sc_law (fun cdv A fr s H E room gd => ?_)
  have hr : Rg 5 (cxOf (L2.CX P w) P w K mg base N_law "law" (defScope s_law) (df_law.at_ K) cdv A fr s H E).A := ⟨room, gd⟩
  have tk : Takes (cxOf (L2.CX P w) P w K mg base N_law "law" (defScope s_law) (df_law.at_ K) cdv A fr s H E) (fun c d _ H => E c d H) := takes_of rfl rfl rfl rfl
  have po : PassesOwn (model P w) (cxOf (L2.CX P w) P w K mg base N_law "law" (defScope s_law) (df_law.at_ K) cdv A fr s H E).A (cxOf (L2.CX P w) P w K mg base N_law "law" (defScope s_law) (df_law.at_ K) cdv A fr s H E).env (cxOf (L2.CX P w) P w K mg base N_law "law" (defScope s_law) (df_law.at_ K) cdv A fr s H E).xe := passes_of rfl
  have S := sc_law
  exact (jss_one (js_ret (je_callB (cr_all rfl) allD_ok (by rfl) Fx.b_all (by decide +kernel) (ja_cons (je_lc (own := [("_law_k", 1)]) (g := (.n 1)) rfl S.nd (ji_range1 (by rfl) Fx.b_range (ja_cons (je_callB (call_max2 rfl) max2_ok (by rfl) Fx.b_max (by decide +kernel) (ja_cons je_int (ja_cons (je_callB (call_min2 rfl) min2_ok (by rfl) Fx.b_min (by decide +kernel) (ja_cons (je_callB call_len lenD_ok (by rfl) Fx.b_len (by decide +kernel) (ja_cons (je_var 0) ja_nil)) (ja_cons je_int ja_nil))) ja_nil))) ja_nil)) (blkOk_by (by kernel_rfl)) (fun _ _ _ _ _ => (jg_name (i := 1) S.nd rfl (Or.inl rfl))) (fun _ _ _ _ _ => jts_nil) (fun _ _ _ _ _ => (je_call (g_right Fx) (hr.mono (by decide)) (by rfl) tk0 (ja_cons (je_call (g_bowl Fx) (hr.mono (by decide)) (by rfl) tk0 (ja_cons (je_var 0) (ja_cons (je_var 1) ja_nil))) ja_nil)))) ja_nil))))
theorem facts {K : PySem.W.Frag} {h : Heap} {mg : Str → Option Value} (X : K.In h) (G : h.Ns mainGlobals mg) (says : SaysZ ex fn K) : FX K mg := by
  obtain ⟨e0, e1⟩ := Bool.and_eq_true_iff.mp says.fact
  obtain ⟨x0, e2⟩ := Bool.and_eq_true_iff.mp e1
  obtain ⟨x1, e3⟩ := Bool.and_eq_true_iff.mp e2
  have x2 := e3
  have at_ : ∀ (i : Nat) {f : He.Fa}, fa[i]? = some f → f.ok K = true := fun i f e => List.all_eq_true.mp e0 f (List.mem_of_getElem? e)
  have z_b_abs : mg "abs" = none := He.free_ok X G (at_ 0 rfl)
  have z_b_all : mg "all" = none := He.free_ok X G (at_ 1 rfl)
  have z_b_any : mg "any" = none := He.free_ok X G (at_ 2 rfl)
  have z_b_bool : mg "bool" = none := He.free_ok X G (at_ 3 rfl)
  have z_b_divmod : mg "divmod" = none := He.free_ok X G (at_ 4 rfl)
  have z_b_enumerate : mg "enumerate" = none := He.free_ok X G (at_ 5 rfl)
  have z_b_int : mg "int" = none := He.free_ok X G (at_ 6 rfl)
  have z_b_isinstance : mg "isinstance" = none := He.free_ok X G (at_ 7 rfl)
  have z_b_len : mg "len" = none := He.free_ok X G (at_ 8 rfl)
  have z_b_max : mg "max" = none := He.free_ok X G (at_ 9 rfl)
  have z_b_min : mg "min" = none := He.free_ok X G (at_ 10 rfl)
  have z_b_range : mg "range" = none := He.free_ok X G (at_ 11 rfl)
  have z_b_repr : mg "repr" = none := He.free_ok X G (at_ 12 rfl)
  have z_b_set : mg "set" = none := He.free_ok X G (at_ 13 rfl)
  have z_b_sorted : mg "sorted" = none := He.free_ok X G (at_ 14 rfl)
  have z_b_str : mg "str" = none := He.free_ok X G (at_ 15 rfl)
  have z_b_tuple : mg "tuple" = none := He.free_ok X G (at_ 16 rfl)
  have z_b_zip : mg "zip" = none := He.free_ok X G (at_ 17 rfl)
  have z_c_LETTERS : ∃ t, mg "LETTERS" = some (.str ⟨#[97, 98, 99, 100, 101, 102, 103, 104, 105, 106, 107, 108, 109, 110, 111, 112, 113, 114, 115, 116, 117, 118, 119, 120, 121, 122]⟩ t) := He.str_ok X G (at_ 18 rfl)
  have z_c_MOST_GUESSES : ∃ t, mg "MOST_GUESSES" = some (.int 20 t) := He.int_ok X G (at_ 19 rfl)
  have z_c_MOST_LENGTH : ∃ t, mg "MOST_LENGTH" = some (.int 6 t) := He.int_ok X G (at_ 20 rfl)
  have z_c_MOST_LETTERS : ∃ t, mg "MOST_LETTERS" = some (.int 26 t) := He.int_ok X G (at_ 21 rfl)
  have z_k_Board : mg (TT.cn 0) = some (.ref (He.ga K (TT.cn 0))) := He.glo_ok X G (at_ 22 rfl)
  have z_j_Board : ClsJ TT K 0 := ⟨He.cls_ok (at_ 23 rfl), by intro f hf; exact noats TT [0, 1] (by rfl) (fun n hn => by simp only [List.mem_cons, List.not_mem_nil, or_false] at hn; rcases hn with rfl | rfl; exact He.noat_ok (at_ 24 rfl); exact He.noat_ok (at_ 25 rfl)) f hf⟩
  have z_isk : IsK TT K CS TB := ⟨fun c hc => clsTB_ok (List.all_eq_true.mp x0 c hc), fun q hq => of_decide_eq_true (List.all_eq_true.mp x1 q hq)⟩
  have z_tr : ∀ c ∈ CT, PlainTru K (He.ga K (TT.cn c)) := fun c hc => plainTB_ok (List.all_eq_true.mp x2 c hc)
  have z_d_bowl : ∃ fd, df_bowl.Fun K fd := says.defs _ (List.mem_of_getElem? (i := 0) rfl)
  have z_m_bowl : mg "_law_bowl" = some (.ref (He.ga K "_law_bowl")) := He.glo_ok X G (at_ 26 rfl)
  have z_d_dip : ∃ fd, df_dip.Fun K fd := says.defs _ (List.mem_of_getElem? (i := 1) rfl)
  have z_m_dip : mg "_law_dip" = some (.ref (He.ga K "_law_dip")) := He.glo_ok X G (at_ 27 rfl)
  have z_d_signs : ∃ fd, df_signs.Fun K fd := says.defs _ (List.mem_of_getElem? (i := 2) rfl)
  have z_m_signs : mg "_law_signs" = some (.ref (He.ga K "_law_signs")) := He.glo_ok X G (at_ 28 rfl)
  have z_d_are_letters : ∃ fd, df_are_letters.Fun K fd := says.defs _ (List.mem_of_getElem? (i := 3) rfl)
  have z_m_are_letters : mg "are_letters" = some (.ref (He.ga K "are_letters")) := He.glo_ok X G (at_ 29 rfl)
  have z_d_is_integer : ∃ fd, df_is_integer.Fun K fd := says.defs _ (List.mem_of_getElem? (i := 4) rfl)
  have z_m_is_integer : mg "is_integer" = some (.ref (He.ga K "is_integer")) := He.glo_ok X G (at_ 30 rfl)
  have z_d_Board_init : ∃ fd, df_Board_init.Fun K fd := says.defs _ (List.mem_of_getElem? (i := 5) rfl)
  have z_m_Board_init : Mk K (He.ga K "Board") (He.ma K (He.ga K "Board") "__init__") := He.mkr_ok (at_ 31 rfl)
  have z_d_of : ∃ fd, df_of.Fun K fd := says.defs _ (List.mem_of_getElem? (i := 6) rfl)
  have z_m_of : mg "_law_of" = some (.ref (He.ga K "_law_of")) := He.glo_ok X G (at_ 32 rfl)
  have z_d_word : ∃ fd, df_word.Fun K fd := says.defs _ (List.mem_of_getElem? (i := 7) rfl)
  have z_m_word : mg "_law_word" = some (.ref (He.ga K "_law_word")) := He.glo_ok X G (at_ 33 rfl)
  have z_d_guesses : ∃ fd, df_guesses.Fun K fd := says.defs _ (List.mem_of_getElem? (i := 8) rfl)
  have z_m_guesses : mg "_law_guesses" = some (.ref (He.ga K "_law_guesses")) := He.glo_ok X G (at_ 34 rfl)
  have z_d_check_board : ∃ fd, df_check_board.Fun K fd := says.defs _ (List.mem_of_getElem? (i := 9) rfl)
  have z_m_check_board : mg "check_board" = some (.ref (He.ga K "check_board")) := He.glo_ok X G (at_ 35 rfl)
  have z_d_is_word : ∃ fd, df_is_word.Fun K fd := says.defs _ (List.mem_of_getElem? (i := 10) rfl)
  have z_m_is_word : mg "is_word" = some (.ref (He.ga K "is_word")) := He.glo_ok X G (at_ 36 rfl)
  have z_d_check_guesses : ∃ fd, df_check_guesses.Fun K fd := says.defs _ (List.mem_of_getElem? (i := 11) rfl)
  have z_m_check_guesses : mg "check_guesses" = some (.ref (He.ga K "check_guesses")) := He.glo_ok X G (at_ 37 rfl)
  have z_d_letters_tried : ∃ fd, df_letters_tried.Fun K fd := says.defs _ (List.mem_of_getElem? (i := 12) rfl)
  have z_m_letters_tried : mg "letters_tried" = some (.ref (He.ga K "letters_tried")) := He.glo_ok X G (at_ 38 rfl)
  have z_d_number_tried : ∃ fd, df_number_tried.Fun K fd := says.defs _ (List.mem_of_getElem? (i := 13) rfl)
  have z_m_number_tried : mg "number_tried" = some (.ref (He.ga K "number_tried")) := He.glo_ok X G (at_ 39 rfl)
  have z_d_tried_of : ∃ fd, df_tried_of.Fun K fd := says.defs _ (List.mem_of_getElem? (i := 14) rfl)
  have z_m_tried_of : mg "tried_of" = some (.ref (He.ga K "tried_of")) := He.glo_ok X G (at_ 40 rfl)
  have z_d_tried : ∃ fd, df_tried.Fun K fd := says.defs _ (List.mem_of_getElem? (i := 15) rfl)
  have z_m_tried : mg "tried" = some (.ref (He.ga K "tried")) := He.glo_ok X G (at_ 41 rfl)
  have z_d_right : ∃ fd, df_right.Fun K fd := says.defs _ (List.mem_of_getElem? (i := 16) rfl)
  have z_m_right : mg "_law_right" = some (.ref (He.ga K "_law_right")) := He.glo_ok X G (at_ 42 rfl)
  have z_d_law : ∃ fd, df_law.Fun K fd := says.defs _ (List.mem_of_getElem? (i := 17) rfl)
  have z_m_law : mg "law" = some (.ref (He.ga K "law")) := He.glo_ok X G (at_ 43 rfl)
  have z_f_letters : ∀ c ∈ ([0] : List Nat), ClsJ TT K c ∧ 0 ∈ TT.fs c := by
    intro c hc
    simp only [List.mem_cons, List.not_mem_nil, or_false] at hc
    subst hc
    exact ⟨z_j_Board, by decide⟩
  have z_f_length : ∀ c ∈ ([0] : List Nat), ClsJ TT K c ∧ 1 ∈ TT.fs c := by
    intro c hc
    simp only [List.mem_cons, List.not_mem_nil, or_false] at hc
    subst hc
    exact ⟨z_j_Board, by decide⟩
  exact { b_abs := z_b_abs, b_all := z_b_all, b_any := z_b_any, b_bool := z_b_bool, b_divmod := z_b_divmod, b_enumerate := z_b_enumerate, b_int := z_b_int, b_isinstance := z_b_isinstance, b_len := z_b_len, b_max := z_b_max, b_min := z_b_min, b_range := z_b_range, b_repr := z_b_repr, b_set := z_b_set, b_sorted := z_b_sorted, b_str := z_b_str, b_tuple := z_b_tuple, b_zip := z_b_zip, c_LETTERS := z_c_LETTERS, c_MOST_GUESSES := z_c_MOST_GUESSES, c_MOST_LENGTH := z_c_MOST_LENGTH, c_MOST_LETTERS := z_c_MOST_LETTERS, k_Board := z_k_Board, j_Board := z_j_Board, f_letters := z_f_letters, f_length := z_f_length, isk := z_isk, tr := z_tr, d_bowl := z_d_bowl, m_bowl := z_m_bowl, d_dip := z_d_dip, m_dip := z_m_dip, d_signs := z_d_signs, m_signs := z_m_signs, d_are_letters := z_d_are_letters, m_are_letters := z_m_are_letters, d_is_integer := z_d_is_integer, m_is_integer := z_m_is_integer, d_Board_init := z_d_Board_init, m_Board_init := z_m_Board_init, d_of := z_d_of, m_of := z_m_of, d_word := z_d_word, m_word := z_m_word, d_guesses := z_d_guesses, m_guesses := z_m_guesses, d_check_board := z_d_check_board, m_check_board := z_m_check_board, d_is_word := z_d_is_word, m_is_word := z_m_is_word, d_check_guesses := z_d_check_guesses, m_check_guesses := z_m_check_guesses, d_letters_tried := z_d_letters_tried, m_letters_tried := z_m_letters_tried, d_number_tried := z_d_number_tried, m_number_tried := z_m_number_tried, d_tried_of := z_d_tried_of, m_tried_of := z_m_tried_of, d_tried := z_d_tried, m_tried := z_m_tried, d_right := z_d_right, m_right := z_m_right, d_law := z_d_law, m_law := z_m_law }
theorem k19_holds (plain : ∀ ns : List Int, ns.length ≤ 63 → ∃ S', d_law [.scr (ns.map D.int)] ⟨[], 0⟩ = .ok (.bl true) S') : PySem.Challenge.rw_guessmarks_k19_whole_letters_tried.Holds := by
  w_on; o_law
  refine HandSHeadRun.head_any (r := PySem.W.OpenLaw.row PySem.Challenge.rw_guessmarks_k19_whole_letters_tried) (q := PySem.W.view Rw.prog [33]) (H := hk) (ob := seeB ex fn TFD) (M := 9000) (loose := loose) (d := HandSHeadRun.topDef Rw.prog 33) (kwd := []) seeB_eq
    (by kernel_rfl) (fun s => by kernel_rfl) run (by kernel_rfl) (by kernel_rfl) (by kernel_rfl) (by rfl) (by first | assumption | decide +kernel) (by decide +kernel) ⟨rfl, rfl, rfl, rfl, rfl, by decide +kernel⟩ ?hw ?hc
  case hw => w_witness2
  case hc =>
    refine walk_g (l := PySem.Challenge.rw_guessmarks_k19_whole_letters_tried) (n := 63) (k := 6) (x := "_law_script") rfl (by decide) (by kernel_rfl) ⟨rfl, by decide, by decide⟩ ?F
    intro w mg fa h Y G hmg0
    obtain ⟨K, KX, c⟩ := Y
    have Fx := facts KX G c.z
    have hmg : mg ("law" : Str) = some (.ref fa) := by
      have e : (HandSHeadRun.topDef Rw.prog 33).name = ("law" : Str) := by kernel_rfl
      rw [← e]
      exact hmg0
    obtain ⟨fd, F⟩ := Fx.d_law
    have e := hmg.symm.trans Fx.m_law
    cases e
    have b := FunD.bindsA (ps := ["_law_script"]) F fun _ _ _ _ _ _ us hl => match us, hl with | [_], _ => rfl
    exact ⟨K, fd, _, TFD.map (He.cT K), KX, c.t, fun s v => b s [v] rfl, fun H a ns hl st hS => law_sp (T := TT) st (tab_of K) hS ⟨[], 0⟩ rfl (plain ns hl), fun base _ _ Tb => w_law Fx F⟩
end K19
set_option Elab.async false
set_option linter.all false
set_option maxRecDepth 100000
set_option maxHeartbeats 1010000
/-! PA: plain laws: draws -/
namespace J
/-- the bowl at n -/
def Bw (S : Store) (n : Nat) : Prop := n < S.next ∧ ∃ a b c : Int, S.get n = some (.lst [.int a, .int b, .int c])
/-- all but the object at n is kept -/
structure Kp (n : Nat) (S S' : Store) : Prop where
  next : S.next ≤ S'.next
  get : ∀ m, m < S.next → m ≠ n → S'.get m = S.get m
structure Kq (S S' : Store) : Prop where
  next : S.next ≤ S'.next
  get : ∀ m, m < S.next → S'.get m = S.get m
theorem Kp.trans {n : Nat} {S S1 S2 : Store} (h : Kp n S S1) (k : Kp n S1 S2) : Kp n S S2 := ⟨Nat.le_trans h.next k.next, fun m hm hn => (k.get m (Nat.lt_of_lt_of_le hm h.next) hn).trans (h.get m hm hn)⟩
theorem Kq.trans {S S1 S2 : Store} (h : Kq S S1) (k : Kq S1 S2) : Kq S S2 := ⟨Nat.le_trans h.next k.next, fun m hm => (k.get m (Nat.lt_of_lt_of_le hm h.next)).trans (h.get m hm)⟩
theorem Kq.refl (S : Store) : Kq S S := ⟨Nat.le_refl _, fun _ _ => rfl⟩
theorem Kp.refl (n : Nat) (S : Store) : Kp n S S := ⟨Nat.le_refl _, fun _ _ _ => rfl⟩
theorem Kq.kp {n : Nat} {S S' : Store} (h : Kq S S') : Kp n S S' := ⟨h.next, fun m hm _ => h.get m hm⟩
theorem Bw.kq {n : Nat} {S S' : Store} (b : Bw S n) (h : Kq S S') : Bw S' n := ⟨Nat.lt_of_lt_of_le b.1 h.next, by rw [h.get n b.1]; exact b.2⟩
theorem Bw.kp {n m : Nat} {S S' : Store} (b : Bw S n) (h : Kp m S S') (hn : n ≠ m) : Bw S' n := ⟨Nat.lt_of_lt_of_le b.1 h.next, by rw [h.get n b.1 hn]; exact b.2⟩
theorem kq_trim {S S' : Store} (h : Kq S S') : Kq S (S'.trim S.next) := ⟨h.next, fun m hm => by rw [Store.get_trim, if_pos hm]; exact h.get m hm⟩
theorem kp_trim {n : Nat} {S S' : Store} (h : Kp n S S') : Kp n S (S'.trim S.next) := ⟨h.next, fun m hm hn => by rw [Store.get_trim, if_pos hm]; exact h.get m hm hn⟩
theorem bw_trim {n : Nat} {S S' : Store} (h : Bw S' n) (hn : n < S.next) : Bw (S'.trim S.next) n := ⟨h.1, by rw [Store.get_trim, if_pos hn]; exact h.2⟩
theorem kp_set {n : Nat} {S : Store} {o : MO} : Kp n S (S.set n o) := ⟨Nat.le_refl _, fun m _ hm => S.get_set_ne o hm⟩
theorem kq_alloc {S : Store} {o : MO} : Kq S (S.alloc o) := ⟨Nat.le_succ _, fun m hm => S.get_alloc_ne o (Nat.ne_of_lt hm)⟩
def isDip : IS := (sSeq (sSetI setL (iOp addD (iOp ixD (iVar 0) (iC (.int 2))) (iC (.int 1))) (iVar 0) (iC (.int 2))) (sSeq (sIf (iTst (iOp gtI (iOp ixD (iVar 0) (iC (.int 1))) (iC (.int 0)))) (sSeq (sSetIN setL (iCB divmodD (iCons (iCB intD (iCons (iOp ixD (iVar 0) (iC (.int 1))) iNil)) (iCons (iVar 1) iNil))) (iVar 0) (iC (.int 1)) 2) (sRet (iVar 2))) sNext) (sSeq (sSetI setL (iOp modI (iCB intD (iCons (iOp addD (iOp addD (iOp mulD (iOp ixD (iVar 0) (iC (.int 0))) (iC (.int 50021))) (iOp mulD (iOp ixD (iVar 0) (iC (.int 2))) (iC (.int 90001)))) (iOp mulD (iOp fdivI (iOp ixD (iVar 0) (iC (.int 0))) (iC (.int 7001))) (iC (.int 13)))) iNil)) (iC (.int 1999999943))) (iVar 0) (iC (.int 0))) (sRet (iOp modI (iCB intD (iCons (iOp fdivI (iOp ixD (iVar 0) (iC (.int 0))) (iC (.int 173))) iNil)) (iVar 1))))))
def dDip : List D → M D := defJ 3 false isDip
theorem dip_end {S : Store} {n : Nat} {o o' : MO} (hn : n < S.next) (h : ∃ a b c : Int, o' = .lst [.int a, .int b, .int c]) : Bw (((S.set n o).set n o').trim S.next) n ∧ Kp n S (((S.set n o).set n o').trim S.next) := by
  obtain ⟨a, b, c, rfl⟩ := h
  exact ⟨bw_trim ⟨hn, a, b, c, Store.get_set_self ..⟩ hn, kp_trim (kp_set.trans kp_set)⟩
theorem dip_ok {S : Store} {n : Nat} {k : Int} (h : Bw S n) (hk : 0 < k) (hk2 : k < 1073741824) : ∃ r S', dDip [.ref n, .int k] S = .ok (.int r) S' ∧ 0 ≤ r ∧ r < k ∧ Bw S' n ∧ Kp n S S' := by
  obtain ⟨hn, a, b, c, e⟩ := h
  unfold dDip defJ isDip startR
  by_cases hb : 0 < b
  · simp [sSeq, sSetI, sSetIN, sBind, iOp, M.bind, lift, iVar, iC, M.ret, ixD, op2, ixL, seqR, seqL, seqT, setL, L2.ixN, L2.atI, addD, addI, subI, opI0, sIf, iTst, isB, gtI, ltI, leI, geI, iCB, iCons, iNil, intD, divmodD, absD, sRet, sNext, sAsg, sExpr, sPar, sPar3, modI, mulD, mulI, powI, opI, fdivI, iCall, iIf, iOr, iAnd, iNot, iNotV, iAndV, iOrV, M.no, iLstM, iLst, iTup, sAsgG, ngD, nsD, e, hb, hk, hk2]
    exact ⟨_, _, ⟨rfl, rfl⟩, Int.emod_nonneg _ (by omega), Int.emod_lt_of_pos _ hk, dip_end hn ⟨_, _, _, rfl⟩⟩
  · simp [sSeq, sSetI, sSetIN, sBind, iOp, M.bind, lift, iVar, iC, M.ret, ixD, op2, ixL, seqR, seqL, seqT, setL, L2.ixN, L2.atI, addD, addI, subI, opI0, sIf, iTst, isB, gtI, ltI, leI, geI, iCB, iCons, iNil, intD, divmodD, absD, sRet, sNext, sAsg, sExpr, sPar, sPar3, modI, mulD, mulI, powI, opI, fdivI, iCall, iIf, iOr, iAnd, iNot, iNotV, iAndV, iOrV, M.no, iLstM, iLst, iTup, sAsgG, ngD, nsD, e, hb, hk, hk2]
    exact ⟨_, _, ⟨rfl, rfl⟩, Int.emod_nonneg _ (by omega), Int.emod_lt_of_pos _ hk, dip_end hn ⟨_, _, _, rfl⟩⟩
/-! ### loops -/
theorem forL_inv {g : NG} {body : IS} (I : Nat → Rho → Store → Prop) : ∀ (xs : List D) (i : Nat) (ρ : Rho) (S : Store), I i ρ S →
    (∀ j x ρ S, xs[j]? = some x → I (i + j) ρ S → ∃ ρ1 ρ2 S2, ngD g x ρ = some ρ1 ∧ body ρ1 S = .ok (.nx ρ2) S2 ∧ I (i + j + 1) ρ2 S2) → ∃ ρ' S', forL g body xs ρ S = .ok (.nx ρ') S' ∧ I (i + xs.length) ρ' S'
  | [], i, ρ, S, h, _ => ⟨ρ, S, rfl, h⟩
  | x :: xs, i, ρ, S, h, k => by
    obtain ⟨ρ1, ρ2, S2, e1, e2, h2⟩ := k 0 x ρ S rfl h
    obtain ⟨ρ', S', e3, h3⟩ := forL_inv I xs (i + 1) ρ2 S2 h2 (fun j y ρ S hj hI => by
      have := k (j + 1) y ρ S (by simpa using hj) (by rw [show i + (j + 1) = i + 1 + j by omega]; exact hI)
      rw [show i + (j + 1) + 1 = i + 1 + j + 1 by omega] at this
      exact this)
    refine ⟨ρ', S', ?_, by rw [show i + (x :: xs).length = i + 1 + xs.length by simp; omega]; exact h3⟩
    unfold forL
    simp only [e1, e2]
    exact e3
/-- a comprehension: each item by its place -/
theorem lcL_inv {g : NG} {t : IT} {ie : IE} {ρ : Rho} (I : Nat → Store → Prop) (P : Nat → D → Prop) : ∀ (xs : List D) (i : Nat) (S : Store), I i S →
    (∀ j x S, xs[j]? = some x → I (i + j) S → ∃ ρ1 d S1 S2, ngD g x ρ = some ρ1 ∧ t ρ1 S = .ok true S1 ∧ ie ρ1 S1 = .ok d S2 ∧ P (i + j) d ∧ I (i + j + 1) S2) → ∃ rs S', lcL g t ie ρ xs S = .ok rs S' ∧ rs.length = xs.length ∧ (∀ j d, rs[j]? = some d → P (i + j) d) ∧ I (i + xs.length) S'
  | [], i, S, h, _ => ⟨[], S, rfl, rfl, fun j d e => by simp at e, h⟩
  | x :: xs, i, S, h, k => by
    obtain ⟨ρ1, d, S1, S2, e1, e2, e3, p, h2⟩ := k 0 x S rfl h
    obtain ⟨rs, S', e4, l4, p4, h4⟩ := lcL_inv I P xs (i + 1) S2 h2 (fun j y S hj hI => by
      have := k (j + 1) y S (by simpa using hj) (by rw [show i + (j + 1) = i + 1 + j by omega]; exact hI)
      rw [show i + (j + 1) + 1 = i + 1 + j + 1 by omega, show i + (j + 1) = i + 1 + j by omega] at this
      exact this)
    refine ⟨d :: rs, S', ?_, by simp [l4], fun j y hy => ?_, by rw [show i + (x :: xs).length = i + 1 + xs.length by simp; omega]; exact h4⟩
    · rw [lcL_cons_some e1]
      simp [M.bind, nox, e2, e3, e4, M.ret]
    · cases j with
      | zero =>
        have e : d = y := by simpa using hy
        subst e
        exact p
      | succ j =>
        have := p4 j y (by simpa using hy)
        rw [show i + (j + 1) = i + 1 + j by omega]
        exact this
end J
set_option Elab.async false
set_option linter.all false
set_option maxRecDepth 100000
set_option maxHeartbeats 1010000
/-! PB: plain laws: the bowl, signs -/
namespace J
theorem sSeq_nx {a b : IS} {ρ ρ1 : Rho} {S S1 : Store} (h : a ρ S = .ok (.nx ρ1) S1) : sSeq a b ρ S = b ρ1 S1 := by
  unfold sSeq
  rw [h]
def bw1 : IS := sAsg 2 (iIf (iTst (iOp ltI (iVar 1) (iCB lenD (iCons (iVar 0) iNil)))) (iCB intD (iCons (iOp ixD (iVar 0) (iVar 1)) iNil)) (iOp addD (iOp mulD (iC (.int 17)) (iVar 1)) (iC (.int 3))))
def bw2 : IS := sAsg 3 (iOp addD (iC (.int 60013)) (iOp mulD (iC (.int 911)) (iVar 1)))
def bw3b : IS := sAsg 3 (iOp modI (iCB intD (iCons (iOp addD (iOp mulD (iVar 3) (iC (.int 39119))) (iOp modI (iCB intD (iCons (iVar 4) iNil)) (iC (.int 1999999943)))) iNil)) (iC (.int 1999999943)))
def bw3 : IS := sFor (iItems (iSl slD (iVar 0) iNoPart (iPart (iC (.int 12))))) (.n 4) bw3b
def bw4 : IS := sRet (iLstM (iCons (iOp modI (iCB intD (iCons (iOp addD (iVar 3) (iOp modI (iVar 2) (iC (.int 1999999943)))) iNil)) (iC (.int 1999999943))) (iCons (iIf (iOr (iTst (iOp ltI (iVar 2) (iC (.int 0)))) (iTst (iOp geI (iVar 2) (iOp powI (iC (.int 10)) (iC (.int 15)))))) (iCB absD (iCons (iVar 2) iNil)) (iC (.int 0))) (iCons (iC (.int 0)) iNil))))
def isBowl : IS := sSeq bw1 (sSeq bw2 (sSeq bw3 bw4))
def dBowl : List D → M D := defJ 5 true isBowl
theorem bw1_ok {S : Store} {ns : List Int} {k : Nat} : ∃ own : Int, bw1 [some (.scr (ns.map D.int)), some (.int k), none, none, none] S = .ok (.nx [some (.scr (ns.map D.int)), some (.int k), some (.int own), none, none]) S := by
  unfold bw1
  by_cases h : k < ns.length
  · refine ⟨ns[k], ?_⟩
    have h1 : ((k : Int) < ((ns.length : Nat) : Int)) := by omega
    simp [sSeq, sSetI, sSetIN, sBind, iOp, M.bind, lift, iVar, iC, M.ret, ixD, op2, ixL, seqR, seqL, seqT, setL, L2.ixN, L2.atI, addD, addI, subI, opI0, sIf, iTst, isB, gtI, ltI, leI, geI, iCB, iCons, iNil, intD, divmodD, absD, sRet, sNext, sAsg, sExpr, sPar, sPar3, modI, mulD, mulI, powI, opI, fdivI, iCall, iIf, iOr, iAnd, iNot, iNotV, iAndV, iOrV, M.no, iLstM, iLst, iTup, sAsgG, ngD, nsD, lenD, seqA, h1, h]
  · refine ⟨17 * (k : Int) + 3, ?_⟩
    have h1 : ¬ ((k : Int) < ((ns.length : Nat) : Int)) := by omega
    simp [sSeq, sSetI, sSetIN, sBind, iOp, M.bind, lift, iVar, iC, M.ret, ixD, op2, ixL, seqR, seqL, seqT, setL, L2.ixN, L2.atI, addD, addI, subI, opI0, sIf, iTst, isB, gtI, ltI, leI, geI, iCB, iCons, iNil, intD, divmodD, absD, sRet, sNext, sAsg, sExpr, sPar, sPar3, modI, mulD, mulI, powI, opI, fdivI, iCall, iIf, iOr, iAnd, iNot, iNotV, iAndV, iOrV, M.no, iLstM, iLst, iTup, sAsgG, ngD, nsD, lenD, seqA, h1, h]
theorem bw3_ok {S : Store} {ns : List Int} {k : Nat} {own m : Int} : ∃ (m' : Int) (x : Option D), bw3 [some (.scr (ns.map D.int)), some (.int k), some (.int own), some (.int m), none] S = .ok (.nx [some (.scr (ns.map D.int)), some (.int k), some (.int own), some (.int m'), x]) S := by
  have key := forL_inv (g := .n 4) (body := bw3b) (fun _ ρ S' => S' = S ∧ ∃ (m' : Int) (x : Option D), ρ = [some (.scr (ns.map D.int)), some (.int k), some (.int own), some (.int m'), x]) (cutD (ns.map D.int) none (some 12)) 0 [some (.scr (ns.map D.int)), some (.int k), some (.int own), some (.int m), none] S ⟨rfl, m, none, rfl⟩ (by
    rintro j x ρ S1 hx ⟨rfl, m', y, rfl⟩
    have hm : x ∈ ns.map D.int := List.mem_of_mem_drop (List.mem_of_mem_take (List.mem_of_getElem? hx))
    obtain ⟨i, _, rfl⟩ := List.mem_map.mp hm
    refine ⟨_, [some (.scr (ns.map D.int)), some (.int k), some (.int own), some (.int ((m' * 39119 + i % 1999999943) % 1999999943)), some (.int i)], S1, rfl, ?_, rfl, _, _, rfl⟩
    simp [sSeq, sSetI, sSetIN, sBind, iOp, M.bind, lift, iVar, iC, M.ret, ixD, op2, ixL, seqR, seqL, seqT, setL, L2.ixN, L2.atI, addD, addI, subI, opI0, sIf, iTst, isB, gtI, ltI, leI, geI, iCB, iCons, iNil, intD, divmodD, absD, sRet, sNext, sAsg, sExpr, sPar, sPar3, modI, mulD, mulI, powI, opI, fdivI, iCall, iIf, iOr, iAnd, iNot, iNotV, iAndV, iOrV, M.no, iLstM, iLst, iTup, sAsgG, ngD, nsD, bw3b])
  obtain ⟨ρ', S', e, rfl, m', x, rfl⟩ := key
  refine ⟨m', x, ?_⟩
  rw [← e]
  simp [sSeq, sSetI, sSetIN, sBind, iOp, M.bind, lift, iVar, iC, M.ret, ixD, op2, ixL, seqR, seqL, seqT, setL, L2.ixN, L2.atI, addD, addI, subI, opI0, sIf, iTst, isB, gtI, ltI, leI, geI, iCB, iCons, iNil, intD, divmodD, absD, sRet, sNext, sAsg, sExpr, sPar, sPar3, modI, mulD, mulI, powI, opI, fdivI, iCall, iIf, iOr, iAnd, iNot, iNotV, iAndV, iOrV, M.no, iLstM, iLst, iTup, sAsgG, ngD, nsD, bw3, sFor, iItems, iSl, slD, opc2, slL, items, iNoPart, iPart]
theorem bowl_ok {S : Store} {ns : List Int} {k : Nat} : ∃ S', dBowl [.scr (ns.map D.int), .int k] S = .ok (.ref S.next) S' ∧ Bw S' S.next ∧ Kq S S' := by
  obtain ⟨own, e1⟩ := bw1_ok (S := S) (ns := ns) (k := k)
  obtain ⟨m', x, e3⟩ := bw3_ok (S := S) (ns := ns) (k := k) (own := own) (m := 60013 + 911 * (k : Int))
  have e2 : bw2 [some (.scr (ns.map D.int)), some (.int k), some (.int own), none, none] S = .ok (.nx [some (.scr (ns.map D.int)), some (.int k), some (.int own), some (.int (60013 + 911 * (k : Int))), none]) S := by
    simp [sSeq, sSetI, sSetIN, sBind, iOp, M.bind, lift, iVar, iC, M.ret, ixD, op2, ixL, seqR, seqL, seqT, setL, L2.ixN, L2.atI, addD, addI, subI, opI0, sIf, iTst, isB, gtI, ltI, leI, geI, iCB, iCons, iNil, intD, divmodD, absD, sRet, sNext, sAsg, sExpr, sPar, sPar3, modI, mulD, mulI, powI, opI, fdivI, iCall, iIf, iOr, iAnd, iNot, iNotV, iAndV, iOrV, M.no, iLstM, iLst, iTup, sAsgG, ngD, nsD, bw2]
  have e4 : ∃ a b : Int, bw4 [some (.scr (ns.map D.int)), some (.int k), some (.int own), some (.int m'), x] S = .ok (.rt (.ref S.next)) (S.alloc (.lst [.int a, .int b, .int 0])) := by
    by_cases h1 : own < 0
    · refine ⟨(m' + own % 1999999943) % 1999999943, -own, ?_⟩
      simp [sSeq, sSetI, sSetIN, sBind, iOp, M.bind, lift, iVar, iC, M.ret, ixD, op2, ixL, seqR, seqL, seqT, setL, L2.ixN, L2.atI, addD, addI, subI, opI0, sIf, iTst, isB, gtI, ltI, leI, geI, iCB, iCons, iNil, intD, divmodD, absD, sRet, sNext, sAsg, sExpr, sPar, sPar3, modI, mulD, mulI, powI, opI, fdivI, iCall, iIf, iOr, iAnd, iNot, iNotV, iAndV, iOrV, M.no, iLstM, iLst, iTup, sAsgG, ngD, nsD, bw4, h1]
    · by_cases h2 : (1000000000000000 : Int) ≤ own
      · refine ⟨(m' + own % 1999999943) % 1999999943, own, ?_⟩
        simp [sSeq, sSetI, sSetIN, sBind, iOp, M.bind, lift, iVar, iC, M.ret, ixD, op2, ixL, seqR, seqL, seqT, setL, L2.ixN, L2.atI, addD, addI, subI, opI0, sIf, iTst, isB, gtI, ltI, leI, geI, iCB, iCons, iNil, intD, divmodD, absD, sRet, sNext, sAsg, sExpr, sPar, sPar3, modI, mulD, mulI, powI, opI, fdivI, iCall, iIf, iOr, iAnd, iNot, iNotV, iAndV, iOrV, M.no, iLstM, iLst, iTup, sAsgG, ngD, nsD, bw4, h1, h2]
      · refine ⟨(m' + own % 1999999943) % 1999999943, 0, ?_⟩
        simp [sSeq, sSetI, sSetIN, sBind, iOp, M.bind, lift, iVar, iC, M.ret, ixD, op2, ixL, seqR, seqL, seqT, setL, L2.ixN, L2.atI, addD, addI, subI, opI0, sIf, iTst, isB, gtI, ltI, leI, geI, iCB, iCons, iNil, intD, divmodD, absD, sRet, sNext, sAsg, sExpr, sPar, sPar3, modI, mulD, mulI, powI, opI, fdivI, iCall, iIf, iOr, iAnd, iNot, iNotV, iAndV, iOrV, M.no, iLstM, iLst, iTup, sAsgG, ngD, nsD, bw4, h1, h2]
  obtain ⟨a, b, e4⟩ := e4
  refine ⟨_, ?_, ⟨Nat.lt_succ_self _, a, b, 0, Store.get_alloc_self ..⟩, kq_alloc⟩
  show defJ 5 true isBowl _ S = _
  unfold defJ isBowl
  have e0 : startR 5 [.scr (ns.map D.int), .int k] = [some (.scr (ns.map D.int)), some (.int k), none, none, none] := rfl
  rw [e0, sSeq_nx e1, sSeq_nx e2, sSeq_nx e3, e4]
  rfl
end J
set_option Elab.async false
set_option linter.all false
set_option maxRecDepth 100000
set_option maxHeartbeats 1010000
/-! PC: plain laws: signs -/
namespace J
theorem ixD_str {l : List Nat} {i : Nat} {S : Store} (h : i < l.length) (h2 : l.length ≤ 100000) : ixD (.str l) (.int (i : Int)) S = some (.str [l[i]]) := by
  simp [ixD, op2, ixL, seqR, seqL, ixT, ixS, h2, L2.atI, L2.ixN, h]
theorem cut_take {α : Type} (l : List α) (k : Nat) : cutD l none (some (k : Int)) = l.take k := by
  unfold cutD
  rw [HT.sIx_none, HT.sIx_nat]
  simp
theorem cut_drop {α : Type} (l : List α) (k : Nat) : cutD l (some (k : Int)) none = l.drop k := by
  unfold cutD
  rw [HT.sIx_none, HT.sIx_nat]
  by_cases h : k ≤ l.length
  · rw [Nat.min_eq_left h]; rw [List.take_of_length_le (by simp)]
  · rw [Nat.min_eq_right (by omega), List.drop_of_length_le (Nat.le_refl _), List.drop_of_length_le (show l.length ≤ k by omega)]
    simp
theorem slD_str {l : List Nat} {a b : Option Int} {S : Store} (h2 : l.length ≤ 100000) : slD (.str l) a b S = some (.str (cutD l a b)) := by
  simp [slD, opc2, slL, slS, slT, seqR, seqL, h2]
theorem addD_str {a b : List Nat} {S : Store} (h : a.length + b.length ≤ 100000) : addD (.str a) (.str b) S = some (.str (a ++ b)) := by
  simp [addD, op2, addI, opI0, addS, h]
theorem addD_int {a b : Int} {S : Store} : addD (.int a) (.int b) S = some (.int (a + b)) := by
  simp [addD, op2, addI, opI0]
theorem subI_int {a b : Int} {S : Store} : subI (.int a) (.int b) S = some (.int (a - b)) := by
  simp [subI, opI0]
theorem gtI_int {a b : Int} {S : Store} : gtI (.int a) (.int b) S = some (.bl (decide (b < a))) := by
  simp [gtI, opI0]
theorem lenD_str {l : List Nat} {S : Store} (h : l.length ≤ 100000) : lenD [.str l] S = some (.int l.length) := by
  simp [lenD, h]
def abc : List Nat := [97, 98, 99, 100, 101, 102, 103, 104, 105, 106, 107, 108, 109, 110, 111, 112, 113, 114, 115, 116, 117, 118, 119, 120, 121, 122]
theorem abc_up : abc.Pairwise (· < ·) := by decide
theorem abc_in : ∀ c ∈ abc, 97 ≤ c ∧ c ≤ 122 := by decide
structure Sg (l : List Nat) : Prop where
  up : l.Pairwise (· < ·)
  abc : ∀ c ∈ l, 97 ≤ c ∧ c ≤ 122
theorem up_len : ∀ (l : List Nat) (lo : Nat), l.Pairwise (· < ·) → (∀ c ∈ l, lo ≤ c ∧ c ≤ 122) → l.length + lo ≤ 123 ∨ l = []
  | [], _, _, _ => .inr rfl
  | c :: r, lo, h, k => by
    have ⟨h1, h2⟩ := List.pairwise_cons.mp h
    have kc := k c (List.mem_cons_self ..)
    left
    rcases up_len r (c + 1) h2 (fun d hd => ⟨h1 d hd, (k d (List.mem_cons_of_mem _ hd)).2⟩) with z | z
    · rw [List.length_cons]
      omega
    · subst z
      simp only [List.length_nil, List.length_cons]
      omega
theorem Sg.len {l : List Nat} (h : Sg l) : l.length ≤ 26 := by
  rcases up_len l 97 h.up h.abc with z | z
  · omega
  · subst z
    decide
theorem flat_one : ∀ l : List Nat, (l.map fun c => [c]).flatten = l
  | [] => rfl
  | c :: l => by
    rw [List.map_cons, List.flatten_cons, flat_one l]
    rfl
theorem joinL_nil : ∀ ys : List (List Nat), TL.joinL [] ys = ys.flatten
  | [] => rfl
  | [p] => by simp [TL.joinL]
  | p :: q :: r => by
    have := joinL_nil (q :: r)
    simp only [TL.joinL, this, List.nil_append, List.flatten_cons]
theorem sort_one : ∀ ls : List (List Nat), (∀ y ∈ ls, ∃ c, y = [c]) → ∃ l : List Nat, ls = l.map fun c => [c]
  | [], _ => ⟨[], rfl⟩
  | y :: ys, h => by
    obtain ⟨c, rfl⟩ := h y (List.mem_cons_self ..)
    obtain ⟨l, rfl⟩ := sort_one ys fun z hz => h z (List.mem_cons_of_mem _ hz)
    exact ⟨c :: l, rfl⟩
theorem sort_sg {f : List Nat} (nd : f.Nodup) (h : ∀ c ∈ f, 97 ≤ c ∧ c ≤ 122) : Sg (sortS (f.map fun c => [c])).flatten ∧ (sortS (f.map fun c => [c])).flatten.length = f.length := by
  have p := sortS_perm (f.map fun c => [c])
  obtain ⟨l, e⟩ := sort_one (sortS (f.map fun c => [c])) fun y hy => by
    obtain ⟨c, _, rfl⟩ := List.mem_map.mp (p.mem_iff.mp hy)
    exact ⟨c, rfl⟩
  have so := sortS_sorted (f.map fun c => [c])
  have fl := flat_one l
  rw [e] at p so ⊢
  rw [fl]
  have pl : l.Perm f := by
    have := p.flatten
    rw [fl] at this
    rw [flat_one f] at this
    exact this
  have ndl : l.Nodup := pl.nodup_iff.mpr nd
  refine ⟨⟨?_, fun c hc => h c (pl.mem_iff.mp hc)⟩, pl.length_eq⟩
  have s2 : l.Pairwise fun a b => a ≤ b := (List.pairwise_map.mp so).imp fun {a b} h => by
    rw [le_iff] at h
    rcases Nat.lt_or_ge b a with z | z
    · exact absurd (List.cons_lt_cons_iff.mpr (.inl z)) h
    · exact z
  exact (s2.and ndl).imp fun {a b} h => Nat.lt_of_le_of_ne h.1 h.2
end J
set_option Elab.async false
set_option linter.all false
set_option maxRecDepth 100000
set_option maxHeartbeats 1010000
/-! PD: plain laws: signs, the walk's part -/
namespace J
def sg1 : IS := sPar3 4 5 6 (iCons (iOp addD (iVar 1) (iCall 2 dDip (iCons (iVar 0) (iCons (iOp addD (iOp subI (iVar 2) (iVar 1)) (iC (.int 1))) iNil)))) (iCons (iC (.str abc)) (iCons (iLstM iNil) iNil)))
def sg2 : IS := sIf (iTst (iOp gtI (iCall 2 dDip (iCons (iVar 0) (iCons (iC (.int 3)) iNil))) (iC (.int 0)))) (sRet (iSl slD (iVar 5) iNoPart (iPart (iVar 4)))) sNext
def sg3x : IS := sAsg 7 (iCall 2 dDip (iCons (iVar 0) (iCons (iCB lenD (iCons (iVar 5) iNil)) iNil)))
def sg3y : IS := sExpr (iBM .l lstApp (iVar 6) (iCons (iOp ixD (iVar 5) (iVar 7)) iNil))
def sg3z : IS := sAsg 5 (iOp addD (iSl slD (iVar 5) iNoPart (iPart (iVar 7))) (iSl slD (iVar 5) (iPart (iOp addD (iVar 7) (iC (.int 1)))) iNoPart))
def sg3b : IS := sSeq sg3x (sSeq sg3y sg3z)
def sg3 : IS := sFor (iRange range1 (iCons (iVar 4) iNil)) (.n 3) sg3b
def sg4 : IS := sRet (iBM .s strJoin (iC (.str [])) (iCons (iCB sortD (iCons (iVar 6) iNil)) iNil))
def isSigns : IS := sSeq sg1 (sSeq sg2 (sSeq sg3 (sSeq (sFrz 6) sg4)))
def dSigns : List D → M D := defJ 8 false isSigns
theorem strsOf_one : ∀ f : List Nat, strsOf (f.map fun c => D.str [c]) = some (f.map fun c => [c])
  | [] => rfl
  | c :: r => by simp [strsOf, strsOf_one r]
theorem strsOf_str : ∀ f : List (List Nat), strsOf (f.map D.str) = some f
  | [] => rfl
  | c :: r => by simp [strsOf, strsOf_str r]
structure SgI (n f : Nat) (S0 S : Store) (left found : List Nat) : Prop where
  bw : Bw S n
  ne : f ≠ n
  lt : f < S.next
  old : S0.next ≤ f
  kp : ∀ m, m < S0.next → m ≠ n → S.get m = S0.get m
  fd : S.get f = some (.lst (found.map fun c => D.str [c]))
  up : left.Pairwise (· < ·)
  pm : (left ++ found).Perm abc
theorem sg3b_ok {n f : Nat} {S0 S : Store} {left found : List Nat} {a b c e7 : Option D} {t : D} (h : SgI n f S0 S left found) (hl : 0 < left.length) :
    ∃ q S2, ∃ hq : q < left.length, sg3b [some (.ref n), a, b, some t, c, some (.str left), some (.ref f), e7] S = .ok (.nx [some (.ref n), a, b, some t, c, some (.str (left.take q ++ left.drop (q + 1))), some (.ref f), some (.int (q : Nat))]) S2 ∧ SgI n f S0 S2 (left.take q ++ left.drop (q + 1)) (found ++ [left[q]]) := by
  have len : left.length + found.length = 26 := by
    have := h.pm.length_eq
    rw [List.length_append] at this
    exact this
  have l1 : left.length ≤ 100000 := by omega
  obtain ⟨r, S1, e, r0, r1, b1, k1⟩ := dip_ok (k := (left.length : Int)) h.bw (by omega) (by omega)
  obtain ⟨q, rfl⟩ := Int.eq_ofNat_of_zero_le r0
  have hq : q < left.length := by omega
  have f1 : S1.get f = some (.lst (found.map fun c => D.str [c])) := (k1.get f h.lt h.ne).trans h.fd
  refine ⟨q, S1.set f (.lst ((found ++ [left[q]]).map fun c => D.str [c])), hq, ?_, ?_⟩
  · have t1 : (left.take q).length + (left.drop (q + 1)).length ≤ 100000 := by
      rw [List.length_take]; rw [List.length_drop]
      omega
    have l2 : found.length < 100000 := by omega
    have c1 : (q : Int) + 1 = ((q + 1 : Nat) : Int) := by omega
    have x1 : sg3x [some (.ref n), a, b, some t, c, some (.str left), some (.ref f), e7] S = .ok (.nx [some (.ref n), a, b, some t, c, some (.str left), some (.ref f), some (.int (q : Nat))]) S1 := by
      unfold sg3x
      simp [sSeq, sSetI, sSetIN, sBind, iOp, M.bind, lift, iVar, iC, M.ret, sIf, iTst, isB, iCB, iCons, iNil, sRet, sNext, sAsg, sExpr, sPar, sPar3, iCall, iIf, iOr, iAnd, iNot, iNotV, iAndV, iOrV, M.no, iLstM, iLst, iTup, sAsgG, ngD, nsD, iSl, iPart, iNoPart, iBM, iCM, iYes, lenD_str l1, e]
    have x2 : sg3y [some (.ref n), a, b, some t, c, some (.str left), some (.ref f), some (.int (q : Nat))] S1 = .ok (.nx [some (.ref n), a, b, some t, c, some (.str left), some (.ref f), some (.int (q : Nat))]) (S1.set f (.lst ((found ++ [left[q]]).map fun c => D.str [c]))) := by
      have ap : lstApp (.ref f) [.str [left[q]]] S1 = .ok .non (S1.set f (.lst ((found ++ [left[q]]).map fun c => D.str [c]))) := by
        unfold lstApp
        simp [f1, l2]
      have kd : kindIs .l (.ref f) S1 = true := by simp [kindIs, f1]
      unfold sg3y
      simp [sSeq, sSetI, sSetIN, sBind, iOp, M.bind, lift, iVar, iC, M.ret, sIf, iTst, isB, iCB, iCons, iNil, sRet, sNext, sAsg, sExpr, sPar, sPar3, iCall, iIf, iOr, iAnd, iNot, iNotV, iAndV, iOrV, M.no, iLstM, iLst, iTup, sAsgG, ngD, nsD, iSl, iPart, iNoPart, iBM, iCM, iYes, kd, ixD_str hq l1, ap]
    have x3 : ∀ S2, sg3z [some (.ref n), a, b, some t, c, some (.str left), some (.ref f), some (.int (q : Nat))] S2 = .ok (.nx [some (.ref n), a, b, some t, c, some (.str (left.take q ++ left.drop (q + 1))), some (.ref f), some (.int (q : Nat))]) S2 := by
      intro S2
      unfold sg3z
      simp only [sSeq, sSetI, sSetIN, sBind, iOp, M.bind, lift, iVar, iC, M.ret, sIf, iTst, isB, iCB, iCons, iNil, sRet, sNext, sAsg, sExpr, sPar, sPar3, iCall, iIf, iOr, iAnd, iNot, iNotV, iAndV, iOrV, M.no, iLstM, iLst, iTup, sAsgG, ngD, nsD, iSl, iPart, iNoPart, iBM, iCM, iYes, List.getD_cons_zero, List.getD_cons_succ, slD_str l1, addD_int, c1, cut_take, cut_drop, addD_str t1]
      rfl
    unfold sg3b
    rw [sSeq_nx x1, sSeq_nx x2, x3]
  · have h2 : left.take q ++ left[q] :: left.drop (q + 1) = left := by
      rw [List.getElem_cons_drop hq, List.take_append_drop]
    refine ⟨b1.kp kp_set (Ne.symm h.ne), h.ne, Nat.lt_of_lt_of_le h.lt k1.next, h.old, fun m hm hn => ?_, Store.get_set_self .., ?_, ?_⟩
    · rw [S1.get_set_ne _ (by have := h.old; omega), k1.get m (by have := h.old; have := h.lt; omega) hn]
      exact h.kp m hm hn
    · have u := h.up
      rw [← h2] at u
      refine u.sublist ?_
      exact List.Sublist.append_left (List.sublist_cons_self ..) _
    · refine List.Perm.trans ?_ h.pm
      have p1 : (left.take q ++ left.drop (q + 1) ++ (found ++ [left[q]])).Perm (left.take q ++ (left[q] :: left.drop (q + 1)) ++ found) := by
        have : (left.take q ++ left.drop (q + 1) ++ (found ++ [left[q]])).Perm (left[q] :: (left.take q ++ left.drop (q + 1) ++ found)) := by
          rw [← List.append_assoc]
          exact List.perm_append_singleton _ _
        refine this.trans ?_
        refine List.Perm.trans ?_ (List.perm_middle.symm.append_right found)
        exact List.Perm.refl _
      rw [h2] at p1
      exact p1
theorem signs_ok {S : Store} {n : Nat} {lo hi : Int} (b : Bw S n) (h1 : 0 ≤ lo) (h2 : lo ≤ hi) (h3 : hi ≤ 26) : ∃ l S', dSigns [.ref n, .int lo, .int hi] S = .ok (.str l) S' ∧ Sg l ∧ lo ≤ l.length ∧ (l.length : Int) ≤ hi ∧ Bw S' n ∧ Kp n S S' := by
  obtain ⟨r, S1, e1, r0, r1, b1, k1⟩ := dip_ok (k := hi - lo + 1) b (by omega) (by omega)
  obtain ⟨m, hm⟩ := Int.eq_ofNat_of_zero_le (show 0 ≤ lo + r by omega)
  have m26 : m ≤ 26 := by omega
  have s1 : sg1 [some (.ref n), some (.int lo), some (.int hi), none, none, none, none, none] S = .ok (.nx [some (.ref n), some (.int lo), some (.int hi), none, some (.int (m : Nat)), some (.str abc), some (.ref S1.next), none]) (S1.alloc (.lst [])) := by
    unfold sg1
    simp [sSeq, sSetI, sSetIN, sBind, iOp, M.bind, lift, iVar, iC, M.ret, sIf, iTst, isB, iCB, iCons, iNil, sRet, sNext, sAsg, sExpr, sPar, sPar3, iCall, iIf, iOr, iAnd, iNot, iNotV, iAndV, iOrV, M.no, iLstM, iLst, iTup, sAsgG, ngD, nsD, iSl, iPart, iNoPart, iBM, iCM, iYes, addD_int, subI_int, e1, hm]
  have bA : Bw (S1.alloc (.lst [])) n := b1.kq kq_alloc
  obtain ⟨r', S2, e2, r0', r1', b2, k2⟩ := dip_ok (k := 3) bA (by omega) (by omega)
  have e0 : startR 8 [.ref n, .int lo, .int hi] = [some (.ref n), some (.int lo), some (.int hi), none, none, none, none, none] := rfl
  have kA : Kp n S (S1.alloc (.lst [])) := k1.trans kq_alloc.kp
  have la : abc.length ≤ 100000 := by decide
  by_cases hr : 0 < r'
  · refine ⟨abc.take m, S2.trim S.next, ?_, ⟨abc_up.sublist (List.take_sublist ..), fun c hc => abc_in c (List.mem_of_mem_take hc)⟩, ?_, ?_, bw_trim b2 b.1, kp_trim (kA.trans k2)⟩
    · have s2 : sg2 [some (.ref n), some (.int lo), some (.int hi), none, some (.int (m : Nat)), some (.str abc), some (.ref S1.next), none] (S1.alloc (.lst [])) = .ok (.rt (.str (abc.take m))) S2 := by
        unfold sg2
        simp [sSeq, sSetI, sSetIN, sBind, iOp, M.bind, lift, iVar, iC, M.ret, sIf, iTst, isB, iCB, iCons, iNil, sRet, sNext, sAsg, sExpr, sPar, sPar3, iCall, iIf, iOr, iAnd, iNot, iNotV, iAndV, iOrV, M.no, iLstM, iLst, iTup, sAsgG, ngD, nsD, iSl, iPart, iNoPart, iBM, iCM, iYes, e2, gtI_int, hr, slD_str la, cut_take]
      show defJ 8 false isSigns _ S = _
      unfold defJ isSigns
      rw [e0, sSeq_nx s1]
      unfold sSeq
      rw [s2]
      rfl
    · have : (abc.take m).length = m := by
        rw [List.length_take]
        exact Nat.min_eq_left m26
      rw [this]
      omega
    · have : (abc.take m).length = m := by
        rw [List.length_take]
        exact Nat.min_eq_left m26
      rw [this]
      omega
  · have s2 : sg2 [some (.ref n), some (.int lo), some (.int hi), none, some (.int (m : Nat)), some (.str abc), some (.ref S1.next), none] (S1.alloc (.lst [])) = .ok (.nx [some (.ref n), some (.int lo), some (.int hi), none, some (.int (m : Nat)), some (.str abc), some (.ref S1.next), none]) S2 := by
      unfold sg2
      simp [sSeq, sSetI, sSetIN, sBind, iOp, M.bind, lift, iVar, iC, M.ret, sIf, iTst, isB, iCB, iCons, iNil, sRet, sNext, sAsg, sExpr, sPar, sPar3, iCall, iIf, iOr, iAnd, iNot, iNotV, iAndV, iOrV, M.no, iLstM, iLst, iTup, sAsgG, ngD, nsD, iSl, iPart, iNoPart, iBM, iCM, iYes, e2, gtI_int, hr]
    have i0 : SgI n S1.next S S2 abc [] := by
      have ne : S1.next ≠ n := by have := b1.1; omega
      refine ⟨b2, ne, Nat.lt_of_lt_of_le (Nat.lt_succ_self _) k2.next, k1.next, fun m hm hn => ?_, ?_, abc_up, by simp⟩
      · exact (kA.trans k2).get m hm hn
      · rw [k2.get S1.next (Nat.lt_succ_self _) ne]
        exact Store.get_alloc_self ..
    have key := forL_inv (g := .n 3) (body := sg3b) (fun j ρ S' => ∃ left found e7 t, ρ = [some (.ref n), some (.int lo), some (.int hi), t, some (.int (m : Nat)), some (.str left), some (.ref S1.next), e7] ∧ SgI n S1.next S S' left found ∧ left.length + j = 26 ∧ found.length = j) (rng 0 m) 0 [some (.ref n), some (.int lo), some (.int hi), none, some (.int (m : Nat)), some (.str abc), some (.ref S1.next), none] S2 ⟨abc, [], none, none, rfl, i0, rfl, rfl⟩ (by
      rintro j x ρ S3 hx ⟨left, found, e7, t, rfl, hi', hl, hf⟩
      have hj : j < m := by
        have := (List.getElem?_eq_some_iff.mp hx).1
        simpa [rng] using this
      obtain ⟨q, S4, hq, e, hI⟩ := sg3b_ok (a := some (.int lo)) (b := some (.int hi)) (c := some (.int (m : Nat))) (e7 := e7) (t := x) hi' (by omega)
      refine ⟨_, _, S4, rfl, e, _, _, _, _, rfl, hI, ?_, ?_⟩
      · rw [List.length_append, List.length_take, List.length_drop]
        omega
      · rw [List.length_append]
        simp
        omega)
    obtain ⟨ρ', S3, e3, left, found, e7, t, rfl, hI, hl, hf⟩ := key
    have hfm : found.length = m := by
      rw [hf]
      simp [rng]
    have s3 : sg3 [some (.ref n), some (.int lo), some (.int hi), none, some (.int (m : Nat)), some (.str abc), some (.ref S1.next), none] S2 = .ok (.nx [some (.ref n), some (.int lo), some (.int hi), t, some (.int (m : Nat)), some (.str left), some (.ref S1.next), e7]) S3 := by
      rw [← e3]
      have z : -100000 ≤ (m : Int) ∧ (m : Int) ≤ 100000 := by omega
      unfold sg3
      simp [sSeq, sSetI, sSetIN, sBind, iOp, M.bind, lift, iVar, iC, M.ret, sIf, iTst, isB, iCB, iCons, iNil, sRet, sNext, sAsg, sExpr, sPar, sPar3, iCall, iIf, iOr, iAnd, iNot, iNotV, iAndV, iOrV, M.no, iLstM, iLst, iTup, sAsgG, ngD, nsD, iSl, iPart, iNoPart, iBM, iCM, iYes, sFor, iRange, range1, z]
    have s4 : sFrz 6 [some (.ref n), some (.int lo), some (.int hi), t, some (.int (m : Nat)), some (.str left), some (.ref S1.next), e7] S3 = .ok (.nx [some (.ref n), some (.int lo), some (.int hi), t, some (.int (m : Nat)), some (.str left), some (.lst (found.map fun c => D.str [c])), e7]) (S3.del S1.next) := by
      simp [sFrz, hI.fd, frzO]
    have nd : found.Nodup := by
      have : (left ++ found).Nodup := hI.pm.nodup_iff.mpr (abc_up.imp fun h => Nat.ne_of_lt h)
      exact (List.nodup_append.mp this).2.1
    have inn : ∀ c ∈ found, 97 ≤ c ∧ c ≤ 122 := fun c hc => abc_in c (hI.pm.mem_iff.mp (List.mem_append_right _ hc))
    obtain ⟨sg, sl⟩ := sort_sg nd inn
    have one : (sortS (found.map fun c => [c])).all (fun y => decide (y.length ≤ 1000)) = true := by
      rw [List.all_eq_true]
      intro y hy
      obtain ⟨c, _, rfl⟩ := List.mem_map.mp ((sortS_perm _).mem_iff.mp hy)
      simp
    have sl2 : (sortS (found.map fun c => [c])).length = found.length := by
      rw [(sortS_perm _).length_eq, List.length_map]
    have s5 : sg4 [some (.ref n), some (.int lo), some (.int hi), t, some (.int (m : Nat)), some (.str left), some (.lst (found.map fun c => D.str [c])), e7] (S3.del S1.next) = .ok (.rt (.str (sortS (found.map fun c => [c])).flatten)) (S3.del S1.next) := by
      have h64 : found.length < 64 := by omega
      have h1000 : found.length ≤ 1000 := by omega
      have sd : sortD [.lst (found.map fun c => D.str [c])] (S3.del S1.next) = some (.lst ((sortS (found.map fun c => [c])).map .str)) := by
        unfold sortD
        simp only [seqL, strsOf_one, List.length_map]
        rw [if_pos h64]
      have jn : strJoin (.str []) [.lst ((sortS (found.map fun c => [c])).map .str)] (S3.del S1.next) = .ok (.str (sortS (found.map fun c => [c])).flatten) (S3.del S1.next) := by
        unfold strJoin
        simp only [seqA, seqR, seqL, Option.some_or, Option.bind_some, strsOf_str, joinL_nil]
        rw [if_pos ⟨by rw [sl2]; exact h1000, by decide, one⟩]
      unfold sg4
      simp [sSeq, sSetI, sSetIN, sBind, iOp, M.bind, lift, iVar, iC, M.ret, sIf, iTst, isB, iCB, iCons, iNil, sRet, sNext, sAsg, sExpr, sPar, sPar3, iCall, iIf, iOr, iAnd, iNot, iNotV, iAndV, iOrV, M.no, iLstM, iLst, iTup, sAsgG, ngD, nsD, iSl, iPart, iNoPart, iBM, iCM, iYes, sd, kindIs, jn]
    have kF : Kp n S (S3.del S1.next) := by
      refine ⟨?_, fun m hm hn => ?_⟩
      · have := hI.lt
        have := hI.old
        show S.next ≤ S3.next
        omega
      · rw [Store.get_del, if_neg (by have := hI.old; omega)]
        exact hI.kp m hm hn
    have bF : Bw (S3.del S1.next) n := by
      refine ⟨hI.bw.1, ?_⟩
      rw [Store.get_del, if_neg (Ne.symm hI.ne)]
      exact hI.bw.2
    refine ⟨_, (S3.del S1.next).trim S.next, ?_, sg, by rw [sl, hfm]; omega, by rw [sl, hfm]; omega, bw_trim bF b.1, kp_trim kF⟩
    show defJ 8 false isSigns _ S = _
    unfold defJ isSigns
    rw [e0, sSeq_nx s1, sSeq_nx s2, sSeq_nx s3, sSeq_nx s4, s5]
    rfl
end J
set_option Elab.async false
set_option linter.all false
set_option maxRecDepth 100000
set_option maxHeartbeats 1010000
/-! PE: plain laws: boards -/
namespace J
theorem lcL_pure {g : NG} {t : IT} {ie : IE} {ρ : Rho} {S : Store} (f : D → D) : ∀ xs : List D, (∀ x ∈ xs, ∃ ρ1, ngD g x ρ = some ρ1 ∧ t ρ1 S = .ok true S ∧ ie ρ1 S = .ok (f x) S) → lcL g t ie ρ xs S = .ok (xs.map f) S
  | [], _ => rfl
  | x :: xs, h => by
    obtain ⟨ρ1, e1, e2, e3⟩ := h x (List.mem_cons_self ..)
    rw [lcL_cons_some e1]
    simp [M.bind, nox, e2, e3, lcL_pure f xs fun y hy => h y (List.mem_cons_of_mem _ hy), M.ret]
theorem boolsOf_true {α : Type} : ∀ xs : List α, boolsOf (xs.map fun _ => D.bl true) = some (xs.map fun _ => true)
  | [] => rfl
  | x :: xs => by simp [boolsOf, boolsOf_true xs]
theorem all_true {α : Type} {xs : List α} {S : Store} : allD [.lst (xs.map fun _ => D.bl true)] S = some (.bl true) := by
  simp [allD, seqA, seqR, seqL, boolsOf_true]
theorem leI_int {a b : Int} {S : Store} : leI (.int a) (.int b) S = some (.bl (decide (a ≤ b))) := by simp [leI, opI0]
theorem geI_int {a b : Int} {S : Store} : geI (.int a) (.int b) S = some (.bl (decide (b ≤ a))) := by simp [geI, opI0]
theorem ltI_int {a b : Int} {S : Store} : ltI (.int a) (.int b) S = some (.bl (decide (a < b))) := by simp [ltI, opI0]
theorem isi_b {cs : List Nat} {tb : List (Tg × Tg × Bool)} {x : D} {n t : String} {S : Store} {b : Bool} (ht : tagD x S = some (.b t)) (h : L2.kitB t n = some b) : isiD cs tb [x, .ty n] S = some (.bl b) := by
  simp [isiD, ht, clsOf, okTg, isiT, h]
theorem kit_ss : L2.kitB "str" "str" = some true := by decide +kernel
theorem kit_ii : L2.kitB "int" "int" = some true := by decide +kernel
theorem kit_ib : L2.kitB "int" "bool" = some false := by decide +kernel
section
variable (cs : List Nat) (tb : List (Tg × Tg × Bool))
def al1 : IS := sIf (iOr (iNot (iTst (iCB (isiD cs tb) (iCons (iVar 0) (iCons (iC (.ty "str")) iNil))))) (iNot (iTst (iChain leI leI (iC (.int 2)) (iCB lenD (iCons (iVar 0) iNil)) (iC (.int 26)))))) (sRet (iC (.bl false))) sNext
def al2 : IS := sAsg 1 (iLc (iItems (iVar 0)) (.n 2) iYes (iBM .s strFind (iC (.str abc)) (iCons (iVar 2) iNil)) [2])
def al3 : IS := sRet (iAndV (iOp geI (iOp ixD (iVar 1) (iC (.int 0))) (iC (.int 0))) (iCB allD (iCons (iLc (iZip (iCons (iVar 1) (iCons (iSl slD (iVar 1) (iPart (iC (.int 1))) iNoPart) iNil))) (.t [3, 4]) iYes (iOp ltI (iVar 3) (iVar 4)) [3, 4]) iNil)))
def isAre : IS := sSeq (al1 cs tb) (sSeq al2 al3)
def dAre : List D → M D := defJ 5 false (isAre cs tb)
def isInt : IS := sRet (iAndV (iCB (isiD cs tb) (iCons (iVar 0) (iCons (iC (.ty "int")) iNil))) (iNotV (iTst (iCB (isiD cs tb) (iCons (iVar 0) (iCons (iC (.ty "bool")) iNil))))))
def dInt : List D → M D := defJ 1 false (isInt cs tb)
theorem int_ok {i : Int} {S : Store} : dInt cs tb [.int i] S = .ok (.bl true) (S.trim S.next) := by
  have h1 := isi_b (cs := cs) (tb := tb) (x := .int i) (S := S) (t := "int") rfl kit_ii
  have h2 := isi_b (cs := cs) (tb := tb) (x := .int i) (S := S) (t := "int") rfl kit_ib
  unfold dInt defJ isInt startR
  simp [sSeq, sSetI, sSetIN, sBind, iOp, M.bind, lift, iVar, iC, M.ret, sIf, iTst, isB, iCB, iCons, iNil, sRet, sNext, sAsg, sExpr, sPar, sPar3, iCall, iIf, iOr, iAnd, iNot, iNotV, iAndV, iOrV, M.no, iLstM, iLst, iTup, sAsgG, ngD, nsD, iSl, iPart, iNoPart, iBM, iCM, iYes, h1, h2]
theorem fst_abc {c : Nat} (h : 97 ≤ c ∧ c ≤ 122) : fstAt c abc = some (c - 97) := by
  obtain ⟨d, rfl⟩ : ∃ d, c = 97 + d := ⟨c - 97, by omega⟩
  have hd : d < 26 := by omega
  have all : ∀ d < 26, fstAt (97 + d) abc = some (97 + d - 97) := by decide
  exact all d hd
def plc (l : List Nat) : List D := l.map fun (c : Nat) => D.int ((c : Int) - 97)
theorem zip_up : ∀ l : List Nat, l.Pairwise (· < ·) → ∀ x ∈ zipD (plc l) ((plc l).drop 1), ∃ a b : Int, x = .tup [.int a, .int b] ∧ a < b
  | [], _, x, hx => by simp [plc, zipD] at hx
  | [c], _, x, hx => by simp [plc, zipD] at hx
  | c :: d :: r, h, x, hx => by
    have ⟨h1, h2⟩ := List.pairwise_cons.mp h
    have hx' : x = .tup [.int ((c : Int) - 97), .int ((d : Int) - 97)] ∨ x ∈ zipD (plc (d :: r)) ((plc (d :: r)).drop 1) := by
      simpa [plc, zipD] using hx
    rcases hx' with e | e
    · have := h1 d (List.mem_cons_self ..)
      exact ⟨_, _, e, by omega⟩
    · exact zip_up (d :: r) h2 x e
theorem are_ok {l : List Nat} {S : Store} (h : Sg l) (h2 : 2 ≤ l.length) : dAre cs tb [.str l] S = .ok (.bl true) (S.trim S.next) := by
  have l26 := h.len
  have l1 : l.length ≤ 100000 := by omega
  have hs := isi_b (cs := cs) (tb := tb) (x := .str l) (S := S) (t := "str") rfl kit_ss
  have a1 : al1 cs tb [some (.str l), none, none, none, none] S = .ok (.nx [some (.str l), none, none, none, none]) S := by
    have z1 : (2 : Int) ≤ (l.length : Int) := by omega
    have z2 : (l.length : Int) ≤ 26 := by omega
    unfold al1
    simp [sSeq, sSetI, sSetIN, sBind, iOp, M.bind, lift, iVar, iC, M.ret, sIf, iTst, isB, iCB, iCons, iNil, sRet, sNext, sAsg, sExpr, sPar, sPar3, iCall, iIf, iOr, iAnd, iNot, iNotV, iAndV, iOrV, M.no, iLstM, iLst, iTup, sAsgG, ngD, nsD, iSl, iPart, iNoPart, iBM, iCM, iYes, hs, iChain, lenD_str l1, leI_int, z1, z2]
  have a2 : al2 [some (.str l), none, none, none, none] S = .ok (.nx [some (.str l), some (.lst (plc l)), none, none, none]) S := by
    have lc : lcL (.n 2) iYes (iBM .s strFind (iC (.str abc)) (iCons (iVar 2) iNil)) [some (.str l), none, none, none, none] (l.map fun c => .str [c]) S = .ok ((l.map fun c => D.str [c]).map fun x => match x with | .str [c] => .int ((c : Int) - 97) | _ => .non) S := by
      refine lcL_pure _ _ fun x hx => ?_
      obtain ⟨c, hc, rfl⟩ := List.mem_map.mp hx
      have hf := fst_abc (h.abc c hc)
      refine ⟨_, rfl, rfl, ?_⟩
      have sf : strFind (.str abc) [.str [c]] S = .ok (.int ((c : Int) - 97)) S := by
        unfold strFind
        simp only [hf, M.ret]
        have := h.abc c hc
        congr 2
        omega
      simp [sSeq, sSetI, sSetIN, sBind, iOp, M.bind, lift, iVar, iC, M.ret, sIf, iTst, isB, iCB, iCons, iNil, sRet, sNext, sAsg, sExpr, sPar, sPar3, iCall, iIf, iOr, iAnd, iNot, iNotV, iAndV, iOrV, M.no, iLstM, iLst, iTup, sAsgG, ngD, nsD, iSl, iPart, iNoPart, iBM, iCM, iYes, kindIs, sf]
    have e : (l.map fun c => D.str [c]).map (fun x => match x with | .str [c] => D.int ((c : Int) - 97) | _ => .non) = plc l := by
      rw [List.map_map]
      rfl
    rw [e] at lc
    have hlen : l.length < 100000 := by omega
    unfold al2
    simp [sSeq, sSetI, sSetIN, sBind, iOp, M.bind, lift, iVar, iC, M.ret, sIf, iTst, isB, iCB, iCons, iNil, sRet, sNext, sAsg, sExpr, sPar, sPar3, iCall, iIf, iOr, iAnd, iNot, iNotV, iAndV, iOrV, M.no, iLstM, iLst, iTup, sAsgG, ngD, nsD, iSl, iPart, iNoPart, iBM, iCM, iYes, iLc, iItems, items, wipeR, lc, hlen]
  have a3 : al3 [some (.str l), some (.lst (plc l)), none, none, none] S = .ok (.rt (.bl true)) S := by
    have hz := zip_up l h.up
    have lc : lcL (.t [3, 4]) iYes (iOp ltI (iVar 3) (iVar 4)) [some (.str l), some (.lst (plc l)), none, none, none] (zipD (plc l) ((plc l).drop 1)) S = .ok ((zipD (plc l) ((plc l).drop 1)).map fun _ => D.bl true) S := by
      refine lcL_pure _ _ fun x hx => ?_
      obtain ⟨a, b, rfl, hab⟩ := hz x hx
      refine ⟨_, rfl, rfl, ?_⟩
      simp [sSeq, sSetI, sSetIN, sBind, iOp, M.bind, lift, iVar, iC, M.ret, sIf, iTst, isB, iCB, iCons, iNil, sRet, sNext, sAsg, sExpr, sPar, sPar3, iCall, iIf, iOr, iAnd, iNot, iNotV, iAndV, iOrV, M.no, iLstM, iLst, iTup, sAsgG, ngD, nsD, iSl, iPart, iNoPart, iBM, iCM, iYes, ltI_int, hab]
    have hlen : (zipD (plc l) ((plc l).drop 1)).length < 100000 := by
      rw [zipD_len]
      simp [plc]
      omega
    obtain ⟨c, r, rfl⟩ : ∃ c r, l = c :: r := by
      cases l with
      | nil => simp at h2
      | cons c r => exact ⟨c, r, rfl⟩
    have hc := h.abc c (List.mem_cons_self ..)
    have h0 : ixD (.lst (plc (c :: r))) (.int 0) S = some (.int ((c : Int) - 97)) := by
      simp [ixD, op2, ixL, seqR, seqL, L2.atI, L2.ixN, plc]
    have hge : (0 : Int) ≤ (c : Int) - 97 := by omega
    have sl : slD (.lst (plc (c :: r))) (some 1) none S = some (.lst ((plc (c :: r)).drop 1)) := by
      have := cut_drop (plc (c :: r)) 1
      simp only [slD, opc2, slL, seqR, seqL, Option.some_or]
      rw [← this]
      rfl
    unfold al3
    simp only [sSeq, sSetI, sSetIN, sBind, iOp, M.bind, lift, iVar, iC, M.ret, sIf, iTst, isB, iCB, iCons, iNil, sRet, sNext, sAsg, sExpr, sPar, sPar3, iCall, iIf, iOr, iAnd, iNot, iNotV, iAndV, iOrV, M.no, iLstM, iLst, iTup, sAsgG, ngD, nsD, iSl, iPart, iNoPart, iBM, iCM, iYes, List.getD_cons_zero, List.getD_cons_succ, h0, geI_int, hge, decide_true, if_true, iLc, iZip, sl, zipOf, wipeR, List.set_cons_zero, List.set_cons_succ, lc, hlen, all_true]
  show defJ 5 false (isAre cs tb) _ S = _
  unfold defJ isAre
  have e0 : startR 5 [.str l] = [some (.str l), none, none, none, none] := rfl
  rw [e0, sSeq_nx a1, sSeq_nx a2, a3]
  rfl
end
end J
set_option Elab.async false
set_option linter.all false
set_option maxRecDepth 100000
set_option maxHeartbeats 1010000
/-! PF: plain laws: boards made, asked -/
namespace J
section
variable (T : Tab) (cs : List Nat) (tb : List (Tg × Tg × Bool))
def in1 : IS := sIf (iNot (iTst (iCall 1 (dAre cs tb) (iCons (iVar 1) iNil)))) sNever sNext
def in2 : IS := sIf (iOr (iNot (iTst (iCall 1 (dInt cs tb) (iCons (iVar 2) iNil)))) (iNot (iTst (iChain leI leI (iC (.int 1)) (iVar 2) (iC (.int 6)))))) sNever sNext
def in3 : IS := sSetA T [0] 0 (iVar 1) (iVar 0)
def in4 : IS := sSetA T [0] 1 (iVar 2) (iVar 0)
def isInit : IS := sSeq (in1 cs tb) (sSeq (in2 cs tb) (sSeq (in3 T) (in4 T)))
def dInit : List D → M D := defJ 3 true (isInit T cs tb)
theorem init_ok {S : Store} {m : Nat} {l : List Nat} {k : Int} (hm : S.get m = some (.ins 0 [])) (hlt : m < S.next) (h : Sg l) (h2 : 2 ≤ l.length) (k1 : 1 ≤ k) (k2 : k ≤ 6) :
    ∃ S', dInit T cs tb [.ref m, .str l, .int k] S = .ok .non S' ∧ S'.get m = some (.ins 0 [(0, .str l), (1, .int k)]) ∧ Kp m S S' := by
  have a := are_ok cs tb (S := S) h h2
  have b := int_ok cs tb (S := S.trim S.next) (i := k)
  have n1 : (S.trim S.next).next = S.next := rfl
  have g1 : ((S.trim S.next).trim S.next).get m = some (.ins 0 []) := by
    rw [Store.get_trim, if_pos hlt, Store.get_trim, if_pos hlt]
    exact hm
  have e1 : in1 cs tb [some (.ref m), some (.str l), some (.int k)] S = .ok (.nx [some (.ref m), some (.str l), some (.int k)]) (S.trim S.next) := by
    unfold in1
    simp [sSeq, sSetI, sSetIN, sBind, iOp, M.bind, lift, iVar, iC, M.ret, sIf, iTst, isB, iCB, iCons, iNil, sRet, sNext, sAsg, sExpr, sPar, sPar3, iCall, iIf, iOr, iAnd, iNot, iNotV, iAndV, iOrV, M.no, iLstM, iLst, iTup, sAsgG, ngD, nsD, iSl, iPart, iNoPart, iBM, iCM, iYes, a]
  have e2 : in2 cs tb [some (.ref m), some (.str l), some (.int k)] (S.trim S.next) = .ok (.nx [some (.ref m), some (.str l), some (.int k)]) ((S.trim S.next).trim S.next) := by
    rw [n1] at b
    unfold in2
    simp [sSeq, sSetI, sSetIN, sBind, iOp, M.bind, lift, iVar, iC, M.ret, sIf, iTst, isB, iCB, iCons, iNil, sRet, sNext, sAsg, sExpr, sPar, sPar3, iCall, iIf, iOr, iAnd, iNot, iNotV, iAndV, iOrV, M.no, iLstM, iLst, iTup, sAsgG, ngD, nsD, iSl, iPart, iNoPart, iBM, iCM, iYes, b, iChain, leI_int, k1, k2]
  have e3 : in3 T [some (.ref m), some (.str l), some (.int k)] ((S.trim S.next).trim S.next) = .ok (.nx [some (.ref m), some (.str l), some (.int k)]) (((S.trim S.next).trim S.next).set m (.ins 0 [(0, .str l)])) := by
    unfold in3 sSetA
    simp [sSeq, sSetI, sSetIN, sBind, iOp, M.bind, lift, iVar, iC, M.ret, sIf, iTst, isB, iCB, iCons, iNil, sRet, sNext, sAsg, sExpr, sPar, sPar3, iCall, iIf, iOr, iAnd, iNot, iNotV, iAndV, iOrV, M.no, iLstM, iLst, iTup, sAsgG, ngD, nsD, iSl, iPart, iNoPart, iBM, iCM, iYes, g1, putD]
  have e4 : in4 T [some (.ref m), some (.str l), some (.int k)] (((S.trim S.next).trim S.next).set m (.ins 0 [(0, .str l)])) = .ok (.nx [some (.ref m), some (.str l), some (.int k)]) ((((S.trim S.next).trim S.next).set m (.ins 0 [(0, .str l)])).set m (.ins 0 [(0, .str l), (1, .int k)])) := by
    unfold in4 sSetA
    simp [sSeq, sSetI, sSetIN, sBind, iOp, M.bind, lift, iVar, iC, M.ret, sIf, iTst, isB, iCB, iCons, iNil, sRet, sNext, sAsg, sExpr, sPar, sPar3, iCall, iIf, iOr, iAnd, iNot, iNotV, iAndV, iOrV, M.no, iLstM, iLst, iTup, sAsgG, ngD, nsD, iSl, iPart, iNoPart, iBM, iCM, iYes, putD]
  refine ⟨(((S.trim S.next).trim S.next).set m (.ins 0 [(0, .str l)])).set m (.ins 0 [(0, .str l), (1, .int k)]), ?_, Store.get_set_self .., ?_⟩
  · show defJ 3 true (isInit T cs tb) _ S = _
    unfold defJ isInit
    have e0 : startR 3 [.ref m, .str l, .int k] = [some (.ref m), some (.str l), some (.int k)] := rfl
    rw [e0, sSeq_nx e1, sSeq_nx e2, sSeq_nx e3, e4]
    rfl
  · have q1 : Kq S (S.trim S.next) := kq_trim (Kq.refl S)
    have q2 : Kq (S.trim S.next) ((S.trim S.next).trim S.next) := kq_trim (Kq.refl _)
    exact (q1.trans q2).kp.trans (kp_set.trans kp_set)
theorem make_ok (hT : T.fs 0 = [0, 1]) {S : Store} {l : List Nat} {k : Int} (h : Sg l) (h2 : 2 ≤ l.length) (k1 : 1 ≤ k) (k2 : k ≤ 6) :
    ∃ S', makeD T true 0 3 (dInit T cs tb) [.str l, .int k] S = .ok (.ins 0 [.str l, .int k]) S' ∧ Kq S S' := by
  obtain ⟨S1, e, g, kp⟩ := init_ok T cs tb (S := S.alloc (.ins 0 [])) (m := S.next) (Store.get_alloc_self ..) (Nat.lt_succ_self _) h h2 k1 k2
  refine ⟨S1.del S.next, ?_, ?_⟩
  · unfold makeD
    simp [e, madeD, g, hT]
  · refine ⟨Nat.le_trans (Nat.le_succ _) kp.next, fun m hm => ?_⟩
    rw [Store.get_del, if_neg (Nat.ne_of_lt hm), kp.get m (Nat.lt_succ_of_lt hm) (Nat.ne_of_lt hm)]
    exact Store.get_alloc_ne _ _ (Nat.ne_of_lt hm)
/-- a board -/
abbrev bd (l : List Nat) (k : Int) : D := .ins 0 [.str l, .int k]
theorem ins_bd (hT : T.fs 0 = [0, 1]) {l : List Nat} {k : Int} {S : Store} : insOf T (bd l k) S = some (0, [(0, .str l), (1, .int k)]) := by
  simp [insOf, hT]
theorem fld0 (hT : T.fs 0 = [0, 1]) {ie : IE} {ρ : Rho} {S S' : Store} {l : List Nat} {k : Int} (h : ie ρ S = .ok (bd l k) S') : iFld T [0] 0 ie ρ S = .ok (.str l) S' := by
  unfold iFld M.bind
  simp only [h, ins_bd T hT]
  simp [lift, getF]
theorem fld1 (hT : T.fs 0 = [0, 1]) {ie : IE} {ρ : Rho} {S S' : Store} {l : List Nat} {k : Int} (h : ie ρ S = .ok (bd l k) S') : iFld T [0] 1 ie ρ S = .ok (.int k) S' := by
  unfold iFld M.bind
  simp only [h, ins_bd T hT]
  simp [lift, getF]
/-! size -/
/-! str, repr -/
theorem dig_one {k : Nat} (h1 : 1 ≤ k) (h2 : k ≤ 6) : digits (k : Int) = [48 + k] := by
  have all : ∀ k : Nat, k ≤ 6 → digits (k : Int) = [48 + k] := by decide
  exact all k h2
theorem fmt_str {ie : IE} {ρ : Rho} {S S' : Store} {l : List Nat} (h : ie ρ S = .ok (.str l) S') (hl : l.length ≤ 100000) : iFmt ie ρ S = .ok (.str l) S' := by
  unfold iFmt M.bind
  simp [h, fmtOf, hl, lift]
theorem fmt_int {ie : IE} {ρ : Rho} {S S' : Store} {i : Int} (h : ie ρ S = .ok (.int i) S') (hl : i.natAbs.log2 < 1920) : iFmt ie ρ S = .ok (.str (digits i)) S' := by
  unfold iFmt M.bind
  simp [h, fmtOf, hl, lift]
theorem log_small {k : Nat} (h : k ≤ 6) : (k : Int).natAbs.log2 < 1920 := by
  have : k.log2 ≤ k := Nat.log2_le_self k
  simp only [Int.natAbs_natCast]
  omega
def isStr : IS := sRet (iJoin [iFmt (iFld T [0] 0 (iVar 0)), iC (.str [32]), iFmt (iFld T [0] 1 (iVar 0))])
def dStr : List D → M D := defJ 1 false (isStr T)
theorem str_ok (hT : T.fs 0 = [0, 1]) {S : Store} {l : List Nat} {k : Nat} (hl : l.length ≤ 26) (h1 : 1 ≤ k) (hk : k ≤ 6) : dStr T [bd l k] S = .ok (.str (l ++ [32, 48 + k])) (S.trim S.next) := by
  have f0 : iFmt (iFld T [0] 0 (iVar 0)) [some (bd l k)] S = .ok (.str l) S := fmt_str (fld0 T hT rfl) (by omega)
  have f1 : iFmt (iFld T [0] 1 (iVar 0)) [some (bd l k)] S = .ok (.str [48 + k]) S := by
    rw [← dig_one h1 hk]
    exact fmt_int (fld1 T hT rfl) (log_small hk)
  have z1 : l.length ≤ 100000 := by omega
  have z2 : l.length + 1 ≤ 100000 := by omega
  have z3 : l.length + 1 + 1 ≤ 100000 := by omega
  unfold dStr defJ isStr startR
  simp [sRet, sBind, iJoin, joinF, M.bind, M.ret, iC, f0, f1, z1, z2, z3, List.append_assoc]
end
end J
set_option Elab.async false
set_option linter.all false
set_option maxRecDepth 100000
set_option maxHeartbeats 1010000
/-! PG: plain laws: boards compared -/
namespace J
section
variable (T : Tab) (cs : List Nat) (tb : List (Tg × Tg × Bool))
theorem eqD_str {a b : List Nat} {S : Store} : eqD (.str a) (.str b) S = some (.bl (decide (a = b))) := by simp [eqD, op2, eqS]
theorem eqD_int {a b : Int} {S : Store} : eqD (.int a) (.int b) S = some (.bl (decide (a = b))) := by simp [eqD, op2, eqS]
end
end J
set_option Elab.async false
set_option linter.all false
set_option maxRecDepth 100000
set_option maxHeartbeats 1010000
/-! PH: plain laws: one of several, words -/
namespace J
def isOf : IS := (sRet (iOp ixD (iVar 1) (iCall 2 dDip (iCons (iVar 0) (iCons (iCB lenD (iCons (iVar 1) iNil)) iNil)))))
def dOf : List D → M D := defJ 2 false isOf
theorem of_str {S : Store} {n : Nat} {l : List Nat} (b : Bw S n) (h : 0 < l.length) (h2 : l.length ≤ 1000) : ∃ c S', dOf [.ref n, .str l] S = .ok (.str [c]) S' ∧ c ∈ l ∧ Bw S' n ∧ Kp n S S' := by
  obtain ⟨r, S1, e1, r0, r1, b1, k1⟩ := dip_ok (k := (l.length : Int)) b (by omega) (by omega)
  obtain ⟨q, rfl⟩ := Int.eq_ofNat_of_zero_le r0
  have hq : q < l.length := by omega
  have hn := b.1
  refine ⟨l[q], S1.trim S.next, ?_, List.getElem_mem _, bw_trim b1 hn, kp_trim k1⟩
  unfold dOf defJ isOf startR
  simp [sSeq, sSetI, sSetIN, sBind, iOp, M.bind, lift, iVar, iC, M.ret, sIf, iTst, isB, iCB, iCons, iNil, sRet, sNext, sAsg, sExpr, sPar, sPar3, iCall, iIf, iOr, iAnd, iNot, iNotV, iAndV, iOrV, M.no, iLstM, iLst, iTup, sAsgG, ngD, nsD, iSl, iPart, iNoPart, iBM, iCM, iYes, lenD_str (show l.length ≤ 100000 by omega), e1, ixD_str hq (show l.length ≤ 100000 by omega)]
theorem ixD_lst {xs : List D} {i : Nat} {S : Store} (h : i < xs.length) : ixD (.lst xs) (.int (i : Int)) S = some xs[i] := by
  simp [ixD, op2, ixL, seqR, seqL, L2.atI, L2.ixN, h]
theorem lenD_lst {xs : List D} {S : Store} (h : xs.length ≤ 100000) : lenD [.lst xs] S = some (.int xs.length) := by
  simp [lenD, h, seqA, seqR, seqL]
theorem of_lst {S : Store} {n : Nat} {xs : List D} (b : Bw S n) (h : 0 < xs.length) (h2 : xs.length ≤ 1000) : ∃ d S', dOf [.ref n, .lst xs] S = .ok d S' ∧ d ∈ xs ∧ Bw S' n ∧ Kp n S S' := by
  obtain ⟨r, S1, e1, r0, r1, b1, k1⟩ := dip_ok (k := (xs.length : Int)) b (by omega) (by omega)
  obtain ⟨q, rfl⟩ := Int.eq_ofNat_of_zero_le r0
  have hq : q < xs.length := by omega
  have hn := b.1
  refine ⟨xs[q], S1.trim S.next, ?_, List.getElem_mem _, bw_trim b1 hn, kp_trim k1⟩
  unfold dOf defJ isOf startR
  simp [sSeq, sSetI, sSetIN, sBind, iOp, M.bind, lift, iVar, iC, M.ret, sIf, iTst, isB, iCB, iCons, iNil, sRet, sNext, sAsg, sExpr, sPar, sPar3, iCall, iIf, iOr, iAnd, iNot, iNotV, iAndV, iOrV, M.no, iLstM, iLst, iTup, sAsgG, ngD, nsD, iSl, iPart, iNoPart, iBM, iCM, iYes, lenD_lst (show xs.length ≤ 100000 by omega), e1, ixD_lst hq]
theorem chars_of : ∀ {rs : List D} {l : List Nat}, (∀ d ∈ rs, ∃ c ∈ l, d = .str [c]) → ∃ w : List Nat, rs = w.map (fun c => .str [c]) ∧ ∀ c ∈ w, c ∈ l
  | [], l, _ => ⟨[], rfl, by simp⟩
  | d :: rs, l, h => by
    obtain ⟨c, hc, rfl⟩ := h d (List.mem_cons_self ..)
    obtain ⟨w, rfl, hw⟩ := chars_of (rs := rs) (l := l) fun x hx => h x (List.mem_cons_of_mem _ hx)
    exact ⟨c :: w, rfl, fun x hx => by rcases List.mem_cons.mp hx with z | z; exact z ▸ hc; exact hw x z⟩
theorem join_chars {w : List Nat} {S : Store} (h : w.length ≤ 1000) : strJoin (.str []) [.lst (w.map fun c => .str [c])] S = .ok (.str w) S := by
  have e : (w.map fun c => [c]).all (fun y => decide (y.length ≤ 1000)) = true := by simp
  simp [strJoin, seqA, seqR, seqL, strsOf_one, h, e, joinL, joinL_nil, flat_one, lift, M.ret]
def wd1 : IS := (sAsg 3 (iVar 1))
def wd2 : IS := (sIf (iTst (iOp eqD (iCall 2 dDip (iCons (iVar 0) (iCons (iC (.int 3)) iNil))) (iC (.int 0)))) (sAsg 3 (iOp addD (iCall 2 dOf (iCons (iVar 0) (iCons (iVar 1) iNil))) (iCall 2 dOf (iCons (iVar 0) (iCons (iVar 1) iNil))))) sNext)
def wd3 : IS := (sRet (iBM .s strJoin (iC (.str [])) (iCons (iLc (iRange range1 (iCons (iVar 2) iNil)) (.n 4) iYes (iCall 2 dOf (iCons (iVar 0) (iCons (iVar 3) iNil))) [4]) iNil)))
def isWord : IS := sSeq wd1 (sSeq wd2 wd3)
def dWord : List D → M D := defJ 5 false isWord
theorem rng_len (a : Int) (n : Nat) : (rng a n).length = n := by simp [rng]
theorem word_ok {S : Store} {n : Nat} {l : List Nat} {k : Nat} (b : Bw S n) (h : 0 < l.length) (h2 : l.length ≤ 500) (hk : k ≤ 500) : ∃ w S', dWord [.ref n, .str l, .int (k : Int)] S = .ok (.str w) S' ∧ w.length = k ∧ (∀ c ∈ w, c ∈ l) ∧ Bw S' n ∧ Kp n S S' := by
  have hn := b.1
  have e1 : wd1 [some (.ref n), some (.str l), some (.int (k : Int)), none, none] S = .ok (.nx [some (.ref n), some (.str l), some (.int (k : Int)), some (.str l), none]) S := by
    simp [sSeq, sSetI, sSetIN, sBind, iOp, M.bind, lift, iVar, iC, M.ret, sIf, iTst, isB, iCB, iCons, iNil, sRet, sNext, sAsg, sExpr, sPar, sPar3, iCall, iIf, iOr, iAnd, iNot, iNotV, iAndV, iOrV, M.no, iLstM, iLst, iTup, sAsgG, ngD, nsD, iSl, iPart, iNoPart, iBM, iCM, iYes, wd1]
  have e2 : ∃ m S1, wd2 [some (.ref n), some (.str l), some (.int (k : Int)), some (.str l), none] S = .ok (.nx [some (.ref n), some (.str l), some (.int (k : Int)), some (.str m), none]) S1 ∧ 0 < m.length ∧ m.length ≤ 500 ∧ (∀ c ∈ m, c ∈ l) ∧ Bw S1 n ∧ Kp n S S1 := by
    obtain ⟨r, S1, d1, r0, r1, b1, k1⟩ := dip_ok (k := 3) b (by omega) (by omega)
    by_cases hr : r = 0
    · obtain ⟨c, S2, d2, hc, b2, k2⟩ := of_str b1 h (by omega)
      obtain ⟨d, S3, d3, hd, b3, k3⟩ := of_str b2 h (by omega)
      refine ⟨[c, d], S3, ?_, by simp, by simp, by simp [hc, hd], b3, (k1.trans k2).trans k3⟩
      simp [sSeq, sSetI, sSetIN, sBind, iOp, M.bind, lift, iVar, iC, M.ret, sIf, iTst, isB, iCB, iCons, iNil, sRet, sNext, sAsg, sExpr, sPar, sPar3, iCall, iIf, iOr, iAnd, iNot, iNotV, iAndV, iOrV, M.no, iLstM, iLst, iTup, sAsgG, ngD, nsD, iSl, iPart, iNoPart, iBM, iCM, iYes, wd2, d1, d2, d3, hr, eqD_int, addD_str]
    · refine ⟨l, S1, ?_, h, h2, fun c hc => hc, b1, k1⟩
      simp [sSeq, sSetI, sSetIN, sBind, iOp, M.bind, lift, iVar, iC, M.ret, sIf, iTst, isB, iCB, iCons, iNil, sRet, sNext, sAsg, sExpr, sPar, sPar3, iCall, iIf, iOr, iAnd, iNot, iNotV, iAndV, iOrV, M.no, iLstM, iLst, iTup, sAsgG, ngD, nsD, iSl, iPart, iNoPart, iBM, iCM, iYes, wd2, d1, hr, eqD_int]
  obtain ⟨m, S1, e2, m0, m1, hm, b1, k1⟩ := e2
  have key := lcL_inv (g := .n 4) (t := iYes) (ie := iCall 2 dOf (iCons (iVar 0) (iCons (iVar 3) iNil))) (ρ := [some (.ref n), some (.str l), some (.int (k : Int)), some (.str m), none]) (fun _ S' => Bw S' n ∧ Kp n S S') (fun _ d => ∃ c ∈ m, d = .str [c]) (rng 0 k) 0 S1 ⟨b1, k1⟩ (by
    rintro j x S2 hx ⟨b2, k2⟩
    obtain ⟨c, S3, d3, hc, b3, k3⟩ := of_str b2 m0 (by omega)
    refine ⟨_, .str [c], S2, S3, rfl, rfl, ?_, ⟨c, hc, rfl⟩, b3, k2.trans k3⟩
    simp [sSeq, sSetI, sSetIN, sBind, iOp, M.bind, lift, iVar, iC, M.ret, sIf, iTst, isB, iCB, iCons, iNil, sRet, sNext, sAsg, sExpr, sPar, sPar3, iCall, iIf, iOr, iAnd, iNot, iNotV, iAndV, iOrV, M.no, iLstM, iLst, iTup, sAsgG, ngD, nsD, iSl, iPart, iNoPart, iBM, iCM, iYes, d3])
  obtain ⟨rs, S2, e3, l3, p3, b2, k2⟩ := key
  obtain ⟨w, rfl, hw⟩ := chars_of (rs := rs) (l := m) fun d hd => by
    obtain ⟨j, hj⟩ := List.mem_iff_getElem?.mp hd
    exact p3 j d hj
  rw [List.length_map, rng_len] at l3
  refine ⟨w, S2.trim S.next, ?_, l3, fun c hc => hm c (hw c hc), bw_trim b2 hn, kp_trim k2⟩
  have er : range1 [.int (k : Int)] = some (rng 0 k) := by
    have z1 : (-100000 : Int) ≤ (k : Int) := by omega
    have z2 : (k : Int) ≤ 100000 := by omega
    simp [range1, z1, z2]
  have e4 : wd3 [some (.ref n), some (.str l), some (.int (k : Int)), some (.str m), none] S1 = .ok (.rt (.str w)) S2 := by
    have hl : (rng 0 k).length < 100000 := by rw [rng_len]; omega
    simp [sSeq, sSetI, sSetIN, sBind, iOp, M.bind, lift, iVar, iC, M.ret, sIf, iTst, isB, iCB, iCons, iNil, sRet, sNext, sAsg, sExpr, sPar, sPar3, iCall, iIf, iOr, iAnd, iNot, iNotV, iAndV, iOrV, M.no, iLstM, iLst, iTup, sAsgG, ngD, nsD, iSl, iPart, iNoPart, iBM, iCM, iYes, wd3, iLc, iRange, er, hl, kindIs, wipeR, e3, join_chars (show w.length ≤ 1000 by omega)]
  show defJ 5 false isWord _ S = _
  unfold defJ isWord
  have e0 : startR 5 [.ref n, .str l, .int (k : Int)] = [some (.ref n), some (.str l), some (.int (k : Int)), none, none] := rfl
  rw [e0, sSeq_nx e1, sSeq_nx e2, e4]
  rfl
end J
set_option Elab.async false
set_option linter.all false
set_option maxRecDepth 100000
set_option maxHeartbeats 1010000
/-! PI: plain laws: marks by their definition (the law's own told) -/
namespace J
def gz (l : List Nat) (j : Nat) : Nat := l.getD j 0
def hitN (g w : List Nat) (c : Nat) : Nat := (List.range g.length).countP fun j => decide (gz g j = c) && decide (gz g j = gz w j)
def nearF (g w : List Nat) : Nat → Nat → Nat
  | 0, _ => 0
  | i + 1, c => nearF g w i c + (if gz g i = c ∧ gz g i ≠ gz w i ∧ hitN g w (gz g i) + nearF g w i (gz g i) < w.count (gz g i) then 1 else 0)
def mkF (g w : List Nat) (i : Nat) : Nat := if gz g i = gz w i then 50 else if hitN g w (gz g i) + nearF g w i (gz g i) < w.count (gz g i) then 49 else 48
def marksL (g w : List Nat) : List Nat := (List.range g.length).map (mkF g w)
theorem range1_nat {n : Nat} (h : n ≤ 1000) : range1 [.int (n : Int)] = some (rng 0 n) := by
  have z1 : (-100000 : Int) ≤ (n : Int) := by omega
  have z2 : (n : Int) ≤ 100000 := by omega
  simp [range1, z1, z2]
theorem gz_get {l : List Nat} {j : Nat} (h : j < l.length) : l[j] = gz l j := by
  unfold gz
  rw [List.getD_eq_getElem?_getD, List.getElem?_eq_getElem h]
  rfl
theorem neD_str {a b : List Nat} {S : Store} : neD (.str a) (.str b) S = some (.bl (!decide (a = b))) := by simp [neD, op2, neS, eqS]
/-! ### told -/
end J
set_option Elab.async false
set_option linter.all false
set_option maxRecDepth 100000
set_option maxHeartbeats 1010000
/-! PJ: plain laws: the program's marks -/
namespace J
def kd (ks : List Nat) (f : Nat → Int) : List (Ky × D) := ks.map fun c => (Ky.s [c], D.int (f c))
theorem lstApp_get {S : Store} {f : Nat} {xs : List D} {y : D} (hf : S.get f = some (.lst xs)) (hl : xs.length < 100000) : lstApp (.ref f) [y] S = .ok .non (S.set f (.lst (xs ++ [y]))) := by
  simp [lstApp, hf, hl]
abbrev mp (g w : List Nat) (i : Nat) : List D := (List.range i).map fun j => .str [mkF g w j]
end J
set_option Elab.async false
set_option linter.all false
set_option maxRecDepth 100000
set_option maxHeartbeats 1010000
/-! PK: plain laws: words, marks, rows, histories -/
namespace J
theorem neD_int {a b : Int} {S : Store} : neD (.int a) (.int b) S = some (.bl (!decide (a = b))) := by simp [neD, op2, neS, eqS]
theorem inD_chr {c : Nat} {l : List Nat} {S : Store} : inD (.str [c]) (.str l) S = some (.bl (decide (c ∈ l))) := by simp [inD, op2, inS]
theorem lcL_str {t : IT} {ie : IE} {ρ : Rho} {S : Store} {i : Nat} {w : List Nat} (f : Nat → D) (h : ∀ c ∈ w, t (ρ.set i (some (.str [c]))) S = .ok true S ∧ ie (ρ.set i (some (.str [c]))) S = .ok (f c) S) : lcL (.n i) t ie ρ (w.map fun c => .str [c]) S = .ok (w.map f) S := by
  induction w with
  | nil => rfl
  | cons c w ih =>
    obtain ⟨h1, h2⟩ := h c (List.mem_cons_self ..)
    have e : ngD (.n i) (.str [c]) ρ = some (ρ.set i (some (.str [c]))) := rfl
    rw [List.map_cons, lcL_cons_some e]
    simp [M.bind, nox, h1, h2, ih fun d hd => h d (List.mem_cons_of_mem _ hd), M.ret]
section
variable (T : Tab) (cs : List Nat) (tb : List (Tg × Tg × Bool))
def iw1 : IS := (sIf (iOr (iNot (iTst (iCB (isiD cs tb) (iCons (iVar 1) (iCons (iC (.ty "str")) iNil))))) (iTst (iOp neD (iCB lenD (iCons (iVar 1) iNil)) (iFld T [0] 1 (iVar 0))))) (sRet (iC (.bl false))) sNext)
def iw2 : IS := (sRet (iCB allD (iCons (iLc (iItems (iVar 1)) (.n 2) iYes (iOp inD (iVar 2) (iFld T [0] 0 (iVar 0))) [2]) iNil)))
def isIsWord : IS := sSeq (iw1 T cs tb) (iw2 T)
def dIsWord : List D → M D := defJ 3 false (isIsWord T cs tb)
theorem iw1_ok (hT : T.fs 0 = [0, 1]) {S : Store} {l w : List Nat} {k : Nat} (hw : w.length ≤ 1000) (h : w.length = k) : iw1 T cs tb [some (bd l k), some (.str w), none] S = .ok (.nx [some (bd l k), some (.str w), none]) S := by
  have hs := isi_b (cs := cs) (tb := tb) (x := .str w) (S := S) (t := "str") rfl kit_ss
  have f1 : iFld T [0] 1 (iVar 0) [some (bd l k), some (.str w), none] S = .ok (.int (k : Int)) S := fld1 T hT rfl
  subst h
  unfold iw1
  simp [sSeq, sSetI, sSetIN, sBind, iOp, M.bind, lift, iVar, iC, M.ret, sIf, iTst, isB, iCB, iCons, iNil, sRet, sNext, sAsg, sExpr, sPar, sPar3, iCall, iIf, iOr, iAnd, iNot, iNotV, iAndV, iOrV, M.no, iLstM, iLst, iTup, sAsgG, ngD, nsD, iSl, iPart, iNoPart, iBM, iCM, iYes, hs, f1, lenD_str (show w.length ≤ 100000 by omega), neD_int]
theorem isw_ok (hT : T.fs 0 = [0, 1]) {S : Store} {l w : List Nat} {k : Nat} (hw : w.length ≤ 1000) (h : w.length = k) (hl : ∀ c ∈ w, c ∈ l) : dIsWord T cs tb [bd l k, .str w] S = .ok (.bl true) (S.trim S.next) := by
  have e1 := iw1_ok T cs tb hT (S := S) (l := l) hw h
  have lc := lcL_str (t := iYes) (ie := iOp inD (iVar 2) (iFld T [0] 0 (iVar 0))) (ρ := [some (bd l k), some (.str w), none]) (S := S) (i := 2) (w := w) (fun _ => .bl true) (fun c hc => ⟨rfl, by
    have f0 : iFld T [0] 0 (iVar 0) [some (bd l k), some (.str w), some (.str [c])] S = .ok (.str l) S := fld0 T hT rfl
    show iOp inD (iVar 2) (iFld T [0] 0 (iVar 0)) [some (bd l k), some (.str w), some (.str [c])] S = _
    simp [sSeq, sSetI, sSetIN, sBind, iOp, M.bind, lift, iVar, iC, M.ret, sIf, iTst, isB, iCB, iCons, iNil, sRet, sNext, sAsg, sExpr, sPar, sPar3, iCall, iIf, iOr, iAnd, iNot, iNotV, iAndV, iOrV, M.no, iLstM, iLst, iTup, sAsgG, ngD, nsD, iSl, iPart, iNoPart, iBM, iCM, iYes, f0, inD_chr, hl c hc]⟩)
  have e2 : iw2 T [some (bd l k), some (.str w), none] S = .ok (.rt (.bl true)) S := by
    have hlen : (w.map fun c => D.str [c]).length < 100000 := by simp; omega
    have al : allD [.lst (w.map fun _ => D.bl true)] S = some (.bl true) := all_true
    unfold iw2
    simp only [sRet, sBind, iCB, iCons, iNil, iLc, iItems, items, iVar, M.bind, M.ret, lift, List.getD_cons_zero, List.getD_cons_succ, hlen, if_true, wipeR, List.set_cons_succ, List.set_cons_zero, lc, al]
  show defJ 3 false (isIsWord T cs tb) _ S = _
  unfold defJ isIsWord
  have e0 : startR 3 [bd l k, .str w] = [some (bd l k), some (.str w), none] := rfl
  rw [e0, sSeq_nx e1, e2]
  rfl
/-- a good row -/
structure Row (l : List Nat) (k : Nat) (r : List Nat × List Nat) : Prop where
  len : r.1.length = k
  mem : ∀ c ∈ r.1, c ∈ l
  len2 : r.2.length = k
  mks : ∀ c ∈ r.2, c = 48 ∨ c = 49 ∨ c = 50
def rowD (r : List Nat × List Nat) : D := .tup [.str r.1, .str r.2]
/-! ### checks -/
def isCkB : IS := (sIf (iNot (iTst (iCB (isiD cs tb) (iCons (iVar 0) (iCons (iC (.glo 0)) iNil))))) sNever sNext)
def dCkB : List D → M D := defJ 1 false (isCkB cs tb)
abbrev IsB : Prop := ∀ l k S, isiD cs tb [bd l k, .glo 0] S = some (.bl true)
theorem ckb_ok (hb : IsB cs tb) {S : Store} {l : List Nat} {k : Int} : dCkB cs tb [bd l k] S = .ok .non (S.trim S.next) := by
  have h := hb l k S
  unfold dCkB defJ isCkB startR
  simp [sSeq, sSetI, sSetIN, sBind, iOp, M.bind, lift, iVar, iC, M.ret, sIf, iTst, isB, iCB, iCons, iNil, sRet, sNext, sAsg, sExpr, sPar, sPar3, iCall, iIf, iOr, iAnd, iNot, iNotV, iAndV, iOrV, M.no, iLstM, iLst, iTup, sAsgG, ngD, nsD, iSl, iPart, iNoPart, iBM, iCM, iYes, h]
theorem kq_t1 (S : Store) : Kq S (S.trim S.next) := kq_trim (Kq.refl S)
/-! ### histories -/
abbrev hs (b : D) (rows : List (List Nat × List Nat)) : D := .ins 1 [b, .tup (rows.map rowD)]
theorem lenD_tup {xs : List D} {S : Store} : lenD [.tup xs] S = some (.int xs.length) := by simp [lenD, seqA, seqR, seqL, seqT]
end
end J
set_option Elab.async false
set_option linter.all false
set_option maxRecDepth 100000
set_option maxHeartbeats 1010000
/-! PL: plain laws: the law's histories, rows, what fits -/
namespace J
end J
set_option Elab.async false
set_option linter.all false
set_option maxRecDepth 100000
set_option maxHeartbeats 1010000
/-! PM: plain laws: a law over its bowls -/
namespace J
theorem bools_of {v : Bool} : ∀ rs : List D, (∀ (j : Nat) (d : D), rs[j]? = some d → d = D.bl v) → boolsOf rs = some (rs.map fun _ => v)
  | [], _ => rfl
  | x :: rs, h => by
    have e : x = .bl v := h 0 x rfl
    subst e
    simp [boolsOf, bools_of rs fun j d hj => h (j + 1) d (by simpa using hj)]
def isLaw (M_ : Nat) (dR : List D → M D) : IS := (sRet (iCB allD (iCons (iLc (iRange range1 (iCons (iCB max2 (iCons (iC (.int 2)) (iCons (iCB min2 (iCons (iCB lenD (iCons (iVar 0) iNil)) (iCons (iC (.int (M_ : Int))) iNil))) iNil))) iNil)) (.n 1) iYes (iCall 1 dR (iCons (iCall 2 dBowl (iCons (iVar 0) (iCons (iVar 1) iNil))) iNil)) [1]) iNil)))
def dLaw (M_ : Nat) (dR : List D → M D) : List D → M D := defJ 2 false (isLaw M_ dR)
theorem law_gen (M_ : Nat) (h2 : 2 ≤ M_) (hM : M_ ≤ 50) {dR : List D → M D} (right_ok : ∀ {n : Nat} {S : Store}, Bw S n → ∃ S', dR [.ref n] S = .ok (.bl true) S') (ns : List Int) (h : ns.length ≤ 63) : ∃ S', dLaw M_ dR [.scr (ns.map D.int)] ⟨[], 0⟩ = .ok (.bl true) S' := by
  have rg : ∃ m : Nat, m ≤ 50 ∧ iRange range1 (iCons (iCB max2 (iCons (iC (.int 2)) (iCons (iCB min2 (iCons (iCB lenD (iCons (iVar 0) iNil)) (iCons (iC (.int (M_ : Int))) iNil))) iNil))) iNil) [some (.scr (ns.map D.int)), none] ⟨[], 0⟩ = .ok (rng 0 m) ⟨[], 0⟩ := by
    have ln : lenD [.scr (ns.map D.int)] ⟨[], 0⟩ = some (.int (ns.length : Int)) := by simp [lenD, seqA, seqR]
    have mn : min2 [.int (ns.length : Int), .int (M_ : Int)] ⟨[], 0⟩ = some (.int (if (M_ : Int) < ns.length then (M_ : Int) else ns.length)) := rfl
    have mx : ∀ a : Int, max2 [.int 2, .int a] ⟨[], 0⟩ = some (.int (if a > 2 then a else 2)) := fun a => rfl
    refine ⟨((if (if (M_ : Int) < ns.length then (M_ : Int) else (ns.length : Int)) > 2 then (if (M_ : Int) < ns.length then (M_ : Int) else (ns.length : Int)) else 2)).toNat, ?_, ?_⟩
    · split <;> split <;> omega
    · have z : -100000 ≤ (if (if (M_ : Int) < ns.length then (M_ : Int) else (ns.length : Int)) > 2 then (if (M_ : Int) < ns.length then (M_ : Int) else (ns.length : Int)) else 2) ∧ (if (if (M_ : Int) < ns.length then (M_ : Int) else (ns.length : Int)) > 2 then (if (M_ : Int) < ns.length then (M_ : Int) else (ns.length : Int)) else 2) ≤ 100000 := by
        constructor <;> split <;> split <;> omega
      simp only [sSeq, sSetI, sSetIN, sBind, iOp, M.bind, lift, iVar, iC, M.ret, sIf, iTst, isB, iCB, iCons, iNil, sRet, sNext, sAsg, sExpr, sPar, sPar3, iCall, iIf, iOr, iAnd, iNot, iNotV, iAndV, iOrV, M.no, iLstM, iLst, iTup, sAsgG, ngD, nsD, iSl, iPart, iNoPart, iBM, iCM, iYes, iRange, List.getD_cons_zero, ln, mn, mx, range1]
      rw [if_pos z]
  obtain ⟨m, hm, rg⟩ := rg
  have key := lcL_inv (g := .n 1) (t := iYes) (ie := iCall 1 dR (iCons (iCall 2 dBowl (iCons (iVar 0) (iCons (iVar 1) iNil))) iNil)) (ρ := [some (.scr (ns.map D.int)), none]) (fun _ _ => True) (fun _ d => d = .bl true) (rng 0 m) 0 ⟨[], 0⟩ trivial (by
    intro j x S1 hx _
    obtain ⟨hj, hx⟩ := List.getElem?_eq_some_iff.mp hx
    have ex : x = .int ((j : Nat) : Int) := by
      rw [← hx]
      simp [rng]
    subst ex
    obtain ⟨S2, e2, b2, _⟩ := bowl_ok (S := S1) (ns := ns) (k := j)
    obtain ⟨S3, e3⟩ := right_ok b2
    refine ⟨[some (.scr (ns.map D.int)), some (.int (j : Nat))], .bl true, S1, S3, rfl, rfl, ?_, rfl, trivial⟩
    simp [sSeq, sSetI, sSetIN, sBind, iOp, M.bind, lift, iVar, iC, M.ret, sIf, iTst, isB, iCB, iCons, iNil, sRet, sNext, sAsg, sExpr, sPar, sPar3, iCall, iIf, iOr, iAnd, iNot, iNotV, iAndV, iOrV, M.no, iLstM, iLst, iTup, sAsgG, ngD, nsD, iSl, iPart, iNoPart, iBM, iCM, iYes, e2, e3])
  obtain ⟨rs, S', e, ll, p, _⟩ := key
  have bo := bools_of rs (fun j d hj => p j d hj)
  have al : allD [.lst rs] S' = some (.bl true) := by simp [allD, seqR, seqL, bo]
  have ml : (rng 0 m).length < 100000 := by simp [rng]; omega
  refine ⟨S'.trim 0, ?_⟩
  show defJ 2 false (isLaw M_ dR) _ _ = _
  unfold defJ isLaw
  have e0 : startR 2 [.scr (ns.map D.int)] = [some (.scr (ns.map D.int)), none] := rfl
  have w0 : wipeR [some (.scr (ns.map D.int)), none] [1] = [some (.scr (ns.map D.int)), none] := rfl
  rw [e0]
  simp only [sRet, sBind, iCB, iCons, iNil, iLc, M.bind, rg, ml, if_true, w0, e, M.ret, lift, al]
  rfl
end J
set_option Elab.async false
set_option linter.all false
set_option maxRecDepth 100000
set_option maxHeartbeats 1010000
/-! PN: plain laws: repr of data is answered; rows compared -/
namespace J
open PySem (PyData Str)
open PySem.PyData (showable showableAll depth depthAll shown shownAll)
/-- data of depth at most k whose text has at most B signs -/
def Rp (k B : Nat) (d : D) : Prop := ∃ p, toPz d = some p ∧ showable p = true ∧ depth p ≤ k ∧ (shown p).length ≤ B
theorem Rp.up {k k' B B' : Nat} {d : D} (h : Rp k B d) (hk : k ≤ k') (hB : B ≤ B') : Rp k' B' d := by
  obtain ⟨p, e, h1, h3, h4⟩ := h
  exact ⟨p, e, h1, Nat.le_trans h3 hk, Nat.le_trans h4 hB⟩
theorem Rp.bl (b : Bool) : Rp 0 5 (.bl b) := ⟨.bool b, rfl, rfl, Nat.le_refl _, by cases b <;> decide⟩
theorem Rp.non : Rp 0 5 .non := ⟨.none, rfl, rfl, Nat.le_refl _, by decide⟩
theorem Rp.nat {n : Nat} (h : n ≤ 100) : Rp 0 5 (.int (n : Int)) := by
  have all : ∀ m : Nat, m ≤ 100 → (shown (.int (m : Int))).length ≤ 5 ∧ showable (.int (m : Int)) = true := by decide +kernel
  obtain ⟨h1, h2⟩ := all n h
  exact ⟨.int n, rfl, h2, Nat.le_refl _, h1⟩
theorem Rp.str {l : List Nat} (h : ∀ c ∈ l, c < 1114112) : Rp 0 (10 * l.length + 2) (.str l) := by
  refine ⟨.str ⟨l.toArray⟩, rfl, rfl, Nat.le_refl _, ?_⟩
  have e : (⟨l.toArray⟩ : Str).length = l.length := str_len l
  have z := PySem.StrLaws.reprText_len ⟨l.toArray⟩ (fun c hc => Nat.lt_of_lt_of_le (h c (by simpa using hc)) (by decide))
  rw [e] at z
  exact z
open PyProof.Rows in
theorem Rp.all {k B : Nat} : ∀ {ds : List D}, (∀ d ∈ ds, Rp k B d) → ∃ ps, toPzs ds = some ps ∧ showableAll ps = true ∧ depthAll ps ≤ k ∧ PySem.piled (shownAll ps) ≤ (B + 2) * ds.length ∧ ps.length = ds.length
  | [], _ => ⟨[], rfl, rfl, Nat.zero_le _, by simp [shownAll, PySem.piled], rfl⟩
  | d :: ds, h => by
    obtain ⟨p, e, h1, h3, h4⟩ := h d (List.mem_cons_self ..)
    obtain ⟨ps, f, g1, g3, g4, g5⟩ := Rp.all (k := k) (B := B) (ds := ds) fun x hx => h x (List.mem_cons_of_mem _ hx)
    refine ⟨p :: ps, by simp [toPzs, e, f], by simp [showableAll, h1, g1], by simp only [depthAll]; omega, ?_, by simp [g5]⟩
    rw [shownAll, PySem.piled_cons, List.length_cons, Nat.mul_add]
    omega
theorem lt_len (a b : Str) : (a ++ b).length = a.length + b.length := PySem.strLen_append a b
theorem listText_le : ∀ ts : List Str, (PySem.listText ts).length ≤ PySem.piled ts + 2
  | [] => by decide
  | t :: r => by
    have h := PySem.textFrom_length_pos r 1 (("[" : Str) ++ (if (0 : Nat) > 0 then ", " else "" : String) ++ t) (Nat.succ_pos 0)
    have e : (PySem.listText (t :: r)).length = (PySem.textFrom 1 (("[" : Str) ++ (if (0 : Nat) > 0 then ", " else "" : String) ++ t) r).length + 1 := by
      unfold PySem.listText
      rw [lt_len]
      rfl
    rw [e, h, lt_len, lt_len, PySem.piled_cons]
    have e1 : (("[" : String) : Str).length = 1 := rfl
    have e2 : (((if (0 : Nat) > 0 then ", " else "" : String)) : Str).length = 0 := rfl
    omega
theorem tupleText_le (ts : List Str) : (PySem.tupleText ts).length ≤ PySem.piled ts + 3 := by
  have j : (Str.join ", " ts).length ≤ PySem.piled ts := by
    cases ts with
    | nil => decide
    | cons t r =>
      have := PySem.join_length_add (t :: r) (by simp)
      omega
  unfold PySem.tupleText
  rw [lt_len, lt_len]
  have e1 : (("(" : String) : Str).length = 1 := rfl
  have e2 : (((if (ts.length == 1) = true then ",)" else ")" : String)) : Str).length ≤ 2 := by
    split <;> decide
  omega
theorem Rp.lst {k B n : Nat} {ds : List D} (h : ∀ d ∈ ds, Rp k B d) (hn : ds.length ≤ n) : Rp (k + 1) ((B + 2) * n + 3) (.lst ds) := by
  obtain ⟨ps, f, g1, g3, g4, _⟩ := Rp.all h
  have m : (B + 2) * ds.length ≤ (B + 2) * n := Nat.mul_le_mul_left _ hn
  refine ⟨.list ps, by simp [toPz, f], by simpa [showable] using g1, by simp only [depth]; omega, ?_⟩
  have z := listText_le (shownAll ps)
  rw [shown]
  omega
theorem Rp.tup {k B n : Nat} {ds : List D} (h : ∀ d ∈ ds, Rp k B d) (hn : ds.length ≤ n) : Rp (k + 1) ((B + 2) * n + 3) (.tup ds) := by
  obtain ⟨ps, f, g1, g3, g4, _⟩ := Rp.all h
  have m : (B + 2) * ds.length ≤ (B + 2) * n := Nat.mul_le_mul_left _ hn
  refine ⟨.tuple ps, by simp [toPz, f], by simpa [showable] using g1, by simp only [depth]; omega, ?_⟩
  have z := tupleText_le (shownAll ps)
  rw [shown]
  omega
theorem rep_of {k B : Nat} {d : D} {S : Store} (h : Rp k B d) (hk : k ≤ 64) (hB : B ≤ 100000) : ∃ t, reprD [d] S = some (.str t) := by
  obtain ⟨p, e, h1, h3, h4⟩ := h
  have dr : deref d S = d := by
    cases d <;> first | rfl | (simp [toPz] at e)
  have c1 : decide (depth p ≤ 64) = true := decide_eq_true (by omega)
  have c2 : decide ((shown p).length ≤ 100000) = true := decide_eq_true (by omega)
  exact ⟨(shown p).cps.toList, by simp only [reprD, repOf, dr, e, h1, c1, c2, Bool.and_self, if_true, Option.map_some]⟩
/-! ### rows -/
structure Cp (r : List Nat × List Nat) : Prop where
  a : ∀ c ∈ r.1, c < 1114112
  b : ∀ c ∈ r.2, c < 1114112
theorem Row.cp {l : List Nat} {k : Nat} {r : List Nat × List Nat} (h : Row l k r) (hl : ∀ c ∈ l, c < 1000) : Cp r := ⟨fun c hc => Nat.lt_of_lt_of_le (hl c (h.mem c hc)) (by decide), fun c hc => by rcases h.mks c hc with z | z | z <;> omega⟩
theorem Rp.row {r : List Nat × List Nat} {n : Nat} (h : Cp r) (h1 : r.1.length ≤ n) (h2 : r.2.length ≤ n) : Rp 1 ((10 * n + 4) * 2 + 3) (rowD r) := by
  refine Rp.tup (B := 10 * n + 2) (n := 2) (fun d hd => ?_) (by simp)
  simp only [List.mem_cons, List.not_mem_nil, or_false] at hd
  rcases hd with rfl | rfl
  · exact (Rp.str h.a).up (Nat.le_refl _) (by omega)
  · exact (Rp.str h.b).up (Nat.le_refl _) (by omega)
end J
set_option Elab.async false
set_option linter.all false
set_option maxRecDepth 100000
set_option maxHeartbeats 1010000
/-! PO: plain laws: what a history shows; without; == -/
namespace J
end J
set_option Elab.async false
set_option linter.all false
set_option maxRecDepth 100000
set_option maxHeartbeats 1010000
/-! PQ: plain laws: a row taken out; all that is shown of a history -/
namespace J
end J
set_option Elab.async false
set_option linter.all false
set_option maxRecDepth 100000
set_option maxHeartbeats 1010000
/-! PR: plain laws: a run that goes on where another one never came; refusals of boards -/
namespace J
/-- b goes wherever a goes -/
def LeR {α : Type} (a b : R α) : Prop := a = .no ∨ a = b
theorem LeR.of {α : Type} {a b r : R α} (h : LeR a b) (e : a = r) (hr : r ≠ .no) : b = r := by
  rcases h with h | h
  · exact (hr (e.symm.trans h)).elim
  · exact h.symm.trans e
theorem LeR.ok {α : Type} {a b : R α} {x : α} {S : Store} (h : LeR a b) (e : a = .ok x S) : b = .ok x S := h.of e (by intro q; cases q)
/-! ### got -/
/-! ### the list of what was seen -/
theorem Bw.del {n m : Nat} {S : Store} (b : Bw S n) (h : n ≠ m) : Bw (S.del m) n := ⟨b.1, by rw [Store.get_del, if_neg h]; exact b.2⟩
/-! ### what is shown of equal data is equal -/
theorem ne_same {t : List Nat} {S : Store} : neD (.str t) (.str t) S = some (.bl false) := by
  simp [neD, op2, neS, eqS]
/-! ### are_letters, is_integer -/
/-! ### what is answered by repr, checked -/
end J
set_option Elab.async false
set_option linter.all false
set_option maxRecDepth 100000
set_option maxHeartbeats 1010000
/-! PS: plain laws: the second way to draw (a well) -/
namespace J
/-! an alphabet: letters are dropped -/
theorem Sg.sub {l m : List Nat} (h : Sg l) (s : m.Sublist l) : Sg m := ⟨h.up.sublist s, fun c hc => h.abc c (s.mem hc)⟩
end J
set_option Elab.async false
set_option linter.all false
set_option maxRecDepth 100000
set_option maxHeartbeats 1010000
/-! PT: plain laws: facts, claims, words judged; the law's reply -/
namespace J
/-! ### the law's reply is the marks -/
end J
set_option Elab.async false
set_option linter.all false
set_option maxRecDepth 100000
set_option maxHeartbeats 1010000
/-! PU: plain laws: facts, claims about words -/
namespace J
/-- a fact: a letter at a place (or not), least (or most) copies -/
inductive Ft where
  | pl (b : Bool) (p c : Nat) | cn (b : Bool) (c m : Nat)
def ftB (w : List Nat) : Ft → Bool
  | .pl b p c => decide (decide (gz w p = c) = b)
  | .cn true c m => decide (m ≤ w.count c)
  | .cn false c m => decide (w.count c ≤ m)
theorem eqD_bl {a b : Bool} {S : Store} : eqD (.bl a) (.bl b) S = some (.bl (decide (a = b))) := by
  cases a <;> cases b <;> rfl
/-! ### all([f(x) for x in xs]) -/
end J
set_option Elab.async false
set_option linter.all false
set_option maxRecDepth 100000
set_option maxHeartbeats 1010000
/-! PV: plain laws: claims about words -/
namespace J
theorem Kq.t {S S' : Store} (h : Kq S S') : Kq S (S'.trim S.next) := kq_trim h
theorem defJ_rt {n : Nat} {b : IS} {ds : List D} {S S1 : Store} {d : D} (h : b (startR n ds) S = .ok (.rt d) S1) : defJ n false b ds S = .ok d (S1.trim S.next) := by
  unfold defJ
  rw [h]
  rfl
end J
set_option Elab.async false
set_option linter.all false
set_option maxRecDepth 100000
set_option maxHeartbeats 1010000
/-! PW: plain laws: holds, the law's own due, drawn facts, all words -/
namespace J
end J
set_option Elab.async false
set_option linter.all false
set_option maxRecDepth 100000
set_option maxHeartbeats 1010000
/-! PX: plain laws: drawn facts, all words of a small board -/
namespace J
/-! ### all words -/
end J
set_option Elab.async false
set_option linter.all false
set_option maxRecDepth 100000
set_option maxHeartbeats 1010000
/-! QA: plain laws: a row's marks, as bounds -/
namespace J
end J
set_option Elab.async false
set_option linter.all false
set_option maxRecDepth 100000
set_option maxHeartbeats 1010000
/-! QB: plain laws: letters at places by exchanges (give, take, fill), as functions; what they find -/
namespace J
def one (b : Bool) : Nat := if b then 1 else 0
end J
set_option Elab.async false
set_option linter.all false
set_option maxRecDepth 100000
set_option maxHeartbeats 1010000
/-! QC: plain laws: take, and fuel enough -/
namespace J
end J
set_option Elab.async false
set_option linter.all false
set_option maxRecDepth 100000
set_option maxHeartbeats 1010000
/-! QD: plain laws: filling finds a word within bounds, or there is an obstacle and no word -/
namespace J
end J
set_option Elab.async false
set_option linter.all false
set_option maxRecDepth 100000
set_option maxHeartbeats 1010000
/-! RA: what an expression or a statement gives, at every store that keeps S0's objects -/
namespace J
def Gm {α : Type} (S0 : Store) (m : M α) (a : α) : Prop := ∀ S, Kq S0 S → ∃ S', m S = .ok a S' ∧ Kq S S'
theorem Gm.mono {α : Type} {S0 S1 : Store} {m : M α} {a : α} (h : Gm S0 m a) (k : Kq S0 S1) : Gm S1 m a := fun S q => h S (k.trans q)
theorem Gm.at {α : Type} {S : Store} {m : M α} {a : α} (h : Gm S m a) : ∃ S', m S = .ok a S' ∧ Kq S S' := h S (Kq.refl S)
theorem Gm.ret {α : Type} {S0 : Store} {a : α} : Gm S0 (M.ret a) a := fun S _ => ⟨S, rfl, Kq.refl S⟩
theorem Gm.bind {α β : Type} {S0 : Store} {m : M α} {k : α → M β} {a : α} {b : β} (h : Gm S0 m a) (g : Gm S0 (k a) b) : Gm S0 (M.bind m k) b := fun S q => by
  obtain ⟨S1, e1, q1⟩ := h S q
  obtain ⟨S2, e2, q2⟩ := g S1 (q.trans q1)
  exact ⟨S2, by unfold M.bind; rw [e1]; exact e2, q1.trans q2⟩
theorem Gm.sb {α : Type} {S0 : Store} {m : M α} {ρ : Rho} {k : α → M Fl} {a : α} {b : Fl} (h : Gm S0 m a) (g : Gm S0 (k a) b) : Gm S0 (sBind m ρ k) b := fun S q => by
  obtain ⟨S1, e1, q1⟩ := h S q
  obtain ⟨S2, e2, q2⟩ := g S1 (q.trans q1)
  exact ⟨S2, by unfold sBind; rw [e1]; exact e2, q1.trans q2⟩
theorem Gm.nox {α : Type} {S0 : Store} {m : M α} {a : α} (h : Gm S0 m a) : Gm S0 (nox m) a := fun S q => by
  obtain ⟨S1, e1, q1⟩ := h S q
  exact ⟨S1, by unfold J.nox; rw [e1], q1⟩
theorem Gm.lft {α : Type} {S0 : Store} {o : Store → Option α} {a : α} (h : ∀ S, Kq S0 S → o S = some a) : Gm S0 (fun S => lift (o S) S) a := fun S q => ⟨S, by show lift (o S) S = _; rw [h S q]; rfl, Kq.refl S⟩
theorem Gm.lft0 {α : Type} {S0 : Store} {o : Option α} {a : α} (h : o = some a) : Gm S0 (lift o) a := fun S q => ⟨S, by rw [h]; rfl, Kq.refl S⟩
section
variable {S0 : Store} {ρ : Rho}
theorem gv_var {i : Nat} {d : D} (h : ρ.getD i none = some d) : Gm S0 (iVar i ρ) d := .lft0 h
theorem gv_c {d : D} : Gm S0 (iC d ρ) d := .ret
theorem gv_op {f : Op2} {a b : IE} {x y d : D} (ha : Gm S0 (a ρ) x) (hb : Gm S0 (b ρ) y) (h : ∀ S, Kq S0 S → f x y S = some d) : Gm S0 (iOp f a b ρ) d := ha.bind (hb.bind (.lft h))
theorem ga_nil : Gm S0 (iNil ρ) [] := .ret
theorem ga_cons {a : IE} {r : IA} {x : D} {xs : List D} (ha : Gm S0 (a ρ) x) (hr : Gm S0 (r ρ) xs) : Gm S0 (iCons a r ρ) (x :: xs) := ha.bind (hr.bind .ret)
theorem gv_cb {f : OpN} {ia : IA} {xs : List D} {d : D} (ha : Gm S0 (ia ρ) xs) (h : ∀ S, Kq S0 S → f xs S = some d) : Gm S0 (iCB f ia ρ) d := ha.bind (.lft h)
theorem gv_cb1 {f : OpN} {a : IE} {x d : D} (ha : Gm S0 (a ρ) x) (h : ∀ S, Kq S0 S → f [x] S = some d) : Gm S0 (iCB f (iCons a iNil) ρ) d := gv_cb (ga_cons ha ga_nil) h
theorem gv_call {n : Nat} {f : List D → M D} {ia : IA} {xs : List D} {d : D} (ha : Gm S0 (ia ρ) xs) (hl : xs.length = n) (h : Gm S0 (f xs) d) : Gm S0 (iCall n f ia ρ) d := ha.bind (by rw [if_pos hl]; exact h)
theorem gv_tup {ia : IA} {xs : List D} (ha : Gm S0 (ia ρ) xs) (hl : xs.length ≤ 100000) : Gm S0 (iTup ia ρ) (.tup xs) := ha.bind (by rw [if_pos hl]; exact .ret)
theorem gv_lst {ia : IA} {xs : List D} (ha : Gm S0 (ia ρ) xs) (hl : xs.length ≤ 100000) : Gm S0 (iLst ia ρ) (.lst xs) := ha.bind (by rw [if_pos hl]; exact .ret)
theorem ga_star {a : IE} {r : IA} {x : D} {xs ys : List D} (ha : Gm S0 (a ρ) x) (h : ∀ S, Kq S0 S → seqA x S = some xs) (hr : Gm S0 (r ρ) ys) : Gm S0 (iStar a r ρ) (xs ++ ys) := ha.bind (Gm.bind (.lft h) (hr.bind .ret))
theorem gt_tst {a : IE} {b : Bool} (h : Gm S0 (a ρ) (.bl b)) : Gm S0 (iTst a ρ) b := h.bind (.lft0 rfl)
theorem gt_yes : Gm S0 (iYes ρ) true := .ret
theorem gv_andV {s t : IE} {a b : Bool} (hs : Gm S0 (s ρ) (.bl a)) (ht : a = true → Gm S0 (t ρ) (.bl b)) : Gm S0 (iAndV s t ρ) (.bl (a && b)) := by
  refine hs.bind (Gm.bind (Gm.lft0 (a := a) rfl) ?_)
  cases a with
  | true => exact ht rfl
  | false => exact .ret
theorem ga_items {a : IE} {x : D} {xs : List D} (ha : Gm S0 (a ρ) x) (h : items x = some xs) : Gm S0 (iItems a ρ) xs := ha.bind (.lft0 h)
theorem ga_range {f : List D → Option (List D)} {ia : IA} {xs ys : List D} (ha : Gm S0 (ia ρ) xs) (h : f xs = some ys) : Gm S0 (iRange f ia ρ) ys := ha.bind (.lft0 h)
theorem gv_bm {Ty : Kd} {f : OpM} {a : IE} {ia : IA} {x d : D} {xs : List D} (ha : Gm S0 (a ρ) x) (hk : ∀ S, Kq S0 S → kindIs Ty x S = true) (hx : Gm S0 (ia ρ) xs) (h : Gm S0 (f x xs) d) : Gm S0 (iBM Ty f a ia ρ) d := by
  refine ha.bind fun S q => ?_
  rw [if_pos (hk S q)]
  exact (hx.bind h) S q
theorem gl_lc {α : Type} {g : NG} {t : IT} {ie : IE} (e f : α → D) (p : α → Bool) : ∀ xs : List α, (∀ x ∈ xs, ∃ ρ1, ngD g (e x) ρ = some ρ1 ∧ Gm S0 (t ρ1) (p x) ∧ (p x = true → Gm S0 (ie ρ1) (f x))) → Gm S0 (lcL g t ie ρ (xs.map e)) ((xs.filter p).map f)
  | [], _ => .ret
  | x :: xs, h => by
    obtain ⟨ρ1, e1, h1, h2⟩ := h x (by simp)
    have ih := gl_lc e f p xs fun y hy => h y (List.mem_cons_of_mem _ hy)
    intro S q
    show ∃ S', lcL g t ie ρ (e x :: xs.map e) S = _ ∧ _
    unfold lcL
    rw [e1, List.filter_cons]
    refine (h1.nox.bind ?_) S q
    cases hp : p x with
    | true =>
      rw [if_pos rfl, if_pos rfl, List.map_cons]
      exact ((h2 hp).nox).bind (ih.bind .ret)
    | false =>
      rw [if_neg Bool.false_ne_true, if_neg Bool.false_ne_true]
      exact ih
theorem gv_lc {α : Type} {src : IA} {g : NG} {t : IT} {ie : IE} {vs : List Nat} (e f : α → D) (p : α → Bool) (xs : List α) (hs : Gm S0 (src ρ) (xs.map e)) (hl : xs.length < 100000) (h : ∀ x ∈ xs, ∃ ρ1, ngD g (e x) (wipeR ρ vs) = some ρ1 ∧ Gm S0 (t ρ1) (p x) ∧ (p x = true → Gm S0 (ie ρ1) (f x))) :
    Gm S0 (iLc src g t ie vs ρ) (.lst ((xs.filter p).map f)) := by
  refine hs.bind ?_
  rw [if_pos (by rw [List.length_map]; exact hl)]
  exact (gl_lc e f p xs h).bind .ret
theorem gv_lc1 {α : Type} {src : IA} {g : NG} {ie : IE} {vs : List Nat} (e f : α → D) (xs : List α) (hs : Gm S0 (src ρ) (xs.map e)) (hl : xs.length < 100000) (h : ∀ x ∈ xs, ∃ ρ1, ngD g (e x) (wipeR ρ vs) = some ρ1 ∧ Gm S0 (ie ρ1) (f x)) :
    Gm S0 (iLc src g iYes ie vs ρ) (.lst (xs.map f)) := by
  have := gv_lc (t := iYes) e f (fun _ => true) xs hs hl fun x hx => (h x hx).elim fun ρ1 q => ⟨ρ1, q.1, gt_yes, fun _ => q.2⟩
  rwa [List.filter_eq_self.mpr (by simp)] at this
theorem bools_map {α : Type} (P : α → Bool) : ∀ xs : List α, boolsOf (xs.map fun x => D.bl (P x)) = some (xs.map P)
  | [] => rfl
  | x :: xs => by rw [List.map_cons, List.map_cons, boolsOf, bools_map P xs]; rfl
theorem ints_map {α : Type} (P : α → Int) : ∀ xs : List α, intsOf (xs.map fun x => D.int (P x)) = some (xs.map P)
  | [] => rfl
  | x :: xs => by rw [List.map_cons, List.map_cons, intsOf, ints_map P xs]; rfl
theorem any_map {α : Type} {P : α → Bool} {xs : List α} {S : Store} : anyD [.lst (xs.map fun x => D.bl (P x))] S = some (.bl (xs.any P)) := by
  simp [anyD, seqR, seqL, bools_map, Function.comp_def]
/-! ### statements -/
theorem gs_ret {a : IE} {d : D} (h : Gm S0 (a ρ) d) : Gm S0 (sRet a ρ) (.rt d) := h.sb .ret
theorem gd_def {n : Nat} {b : IS} {ds : List D} {d : D} (h : Gm S0 (b (startR n ds)) (.rt d)) : Gm S0 (defJ n false b ds) d := fun S q => by
  obtain ⟨S1, e1, q1⟩ := h S q
  exact ⟨S1.trim S.next, defJ_rt e1, kq_trim q1⟩
end
end J
set_option Elab.async false
set_option linter.all false
set_option maxRecDepth 100000
set_option maxHeartbeats 1010000
/-! RB: bounds of rows and facts, as the program works them out -/
namespace J
theorem ix_gz {l : List Nat} {i : Nat} {S : Store} (h : i < l.length) (h2 : l.length ≤ 1000) : ixD (.str l) (.int (i : Int)) S = some (.str [gz l i]) := by
  rw [ixD_str h (by omega), gz_get h]
theorem neD_bl {a b : Bool} {S : Store} : neD (.bl a) (.bl b) S = some (.bl (!decide (a = b))) := by
  cases a <;> cases b <;> rfl
/-! ### letters at places -/
/-! ### numbers of letters -/
section
variable {S0 : Store} {l : List Nat} {k : Nat} {rows : List (List Nat × List Nat)} {fs : List Ft} {R F : D}
theorem maxL_of {ns : List Int} {m : Int} {S : Store} (h : maxI ns = some m) : maxL [.lst (ns.map D.int)] S = some (.int m) := by
  have e := ints_map (fun x : Int => x) ns
  rw [List.map_id'] at e
  simp only [maxL, seqR, seqL, Option.bind_some]
  rw [show intsOf (ns.map D.int) = some ns from e]
  simp [h]
end
end J
set_option Elab.async false
set_option linter.all false
set_option maxRecDepth 100000
set_option maxHeartbeats 1010000
/-! RC: lists that grow in a loop; greatest numbers, rows in order -/
namespace J
theorem addD_list {a b : List D} {S : Store} (h : a.length + b.length ≤ 100000) : addD (.lst a) (.lst b) S = some (.lst (a ++ b)) := by
  simp [addD, op2, addI, opI0, addS, addL, seqL, h]
end J
set_option Elab.async false
set_option linter.all false
set_option maxRecDepth 100000
set_option maxHeartbeats 1010000
/-! RD: rows in order; dicts of letters; the bounds -/
namespace J
end J
set_option Elab.async false
set_option linter.all false
set_option maxRecDepth 100000
set_option maxHeartbeats 1010000
/-! RE: dicts of letters; the bounds as an object -/
namespace J
def dictD (l : List Nat) (f : Nat → D) : D := .dct (l.map fun c => Ky.s [c]) (l.map f)
theorem dget_ok {f : Nat → D} {c : Nat} {S : Store} : ∀ {l : List Nat}, c ∈ l → dgetD (dictD l f) (.str [c]) S = some (f c) := by
  have go : ∀ l : List Nat, c ∈ l → getKy (.s [c]) ((l.map fun c => Ky.s [c]).zip (l.map f)) = some (f c) := fun l => by
    induction l with
    | nil => intro h; cases h
    | cons a l ih =>
      intro h
      rw [List.map_cons, List.map_cons, List.zip_cons_cons, getKy]
      by_cases e : a = c
      · rw [if_pos (by rw [e]), e]
      · rw [if_neg (by intro z; injection z with z; injection z with z; exact e z)]
        exact ih ((List.mem_cons.mp h).resolve_left fun z => e z.symm)
  intro l h
  exact go l h
abbrev bnds (a x y : D) : D := .ins 5 [a, x, y]
section
variable {S0 : Store} {l : List Nat} {k : Nat} {rows : List (List Nat × List Nat)} {fs : List Ft} {R F : D} (T : Tab) (ct : List Nat)
theorem ins_bnds (hT1 : T.fs 5 = [10, 11, 12]) {a x y : D} {S : Store} : insOf T (bnds a x y) S = some (5, [(10, a), (11, x), (12, y)]) := by
  simp [insOf, hT1]
theorem gv_al (hT1 : T.fs 5 = [10, 11, 12]) {ie : IE} {ρ : Rho} {a x y : D} (h : Gm S0 (ie ρ) (bnds a x y)) : Gm S0 (iFld T [5] 10 ie ρ) a := h.bind fun S _ => ⟨S, by simp [ins_bnds T hT1, lift, getF], Kq.refl S⟩
theorem gv_lo (hT1 : T.fs 5 = [10, 11, 12]) {ie : IE} {ρ : Rho} {a x y : D} (h : Gm S0 (ie ρ) (bnds a x y)) : Gm S0 (iFld T [5] 11 ie ρ) x := h.bind fun S _ => ⟨S, by simp [ins_bnds T hT1, lift, getF], Kq.refl S⟩
theorem gv_hi (hT1 : T.fs 5 = [10, 11, 12]) {ie : IE} {ρ : Rho} {a x y : D} (h : Gm S0 (ie ρ) (bnds a x y)) : Gm S0 (iFld T [5] 12 ie ρ) y := h.bind fun S _ => ⟨S, by simp [ins_bnds T hT1, lift, getF], Kq.refl S⟩
end
end J
set_option Elab.async false
set_option linter.all false
set_option maxRecDepth 100000
set_option maxHeartbeats 1010000
/-! RF: papers that show that there is none -/
namespace J
end J
set_option Elab.async false
set_option linter.all false
set_option maxRecDepth 100000
set_option maxHeartbeats 1010000
/-! RG: the judge on papers of the four forms -/
namespace J
end J
set_option Elab.async false
set_option linter.all false
set_option maxRecDepth 100000
set_option maxHeartbeats 1010000
/-! RH: the raw bounds as the law works them out -/
namespace J
end J
set_option Elab.async false
set_option linter.all false
set_option maxRecDepth 100000
set_option maxHeartbeats 1010000
/-! RI: rows that are crossed, room for letters, as the law works them out -/
namespace J
end J
set_option Elab.async false
set_option linter.all false
set_option maxRecDepth 100000
set_option maxHeartbeats 1010000
/-! RJ: room for letters, as the law works it out -/
namespace J
end J
set_option Elab.async false
set_option linter.all false
set_option maxRecDepth 100000
set_option maxHeartbeats 1010000
/-! RK: all words, and those that fit -/
namespace J
def wordsN (l : List Nat) : Nat → List (List Nat)
  | 0 => [[]]
  | n + 1 => (wordsN l n).flatMap fun w => l.map fun c => w ++ [c]
end J
set_option Elab.async false
set_option linter.all false
set_option maxRecDepth 100000
set_option maxHeartbeats 1010000
/-! RL: the law's own judge of papers -/
namespace J
end J
set_option Elab.async false
set_option linter.all false
set_option maxRecDepth 100000
set_option maxHeartbeats 1010000
/-! RM: papers of the four forms show exactly that there is no word -/
namespace J
structure Fit (l : List Nat) (k : Nat) (rows : List (List Nat × List Nat)) (fs : List Ft) (w : List Nat) : Prop where
  len : w.length = k
  mem : ∀ c ∈ w, c ∈ l
  rws : ∀ r ∈ rows, marksL r.1 w = r.2
  fts : ∀ f ∈ fs, ftB w f = true
end J
set_option Elab.async false
set_option linter.all false
set_option maxRecDepth 100000
set_option maxHeartbeats 1010000
/-! RN: small things for laws about papers -/
namespace J
section
variable {S0 : Store} {ρ : Rho}
theorem addD_tupA {a b : List D} {S : Store} (h : a.length + b.length ≤ 100000) : addD (.tup a) (.tup b) S = some (.tup (a ++ b)) := by
  simp [addD, op2, addI, opI0, addS, addL, seqL, addT, h]
theorem tup_lst {xs : List D} {S : Store} : tupD [.lst xs] S = some (.tup xs) := rfl
end
end J
set_option Elab.async false
set_option linter.all false
set_option maxRecDepth 100000
set_option maxHeartbeats 1010000
/-! VM: counting words by the places of one letter after another -/
namespace Cnt
/-- all ways to put letters of cs on places -/
def asg (al : Nat → Nat → Bool) (cs : List Nat) : List Nat → List (List Nat)
  | [] => [[]]
  | p :: E => (cs.filter (al p)).flatMap fun c => (asg al cs E).map fun w => c :: w
/-- the copies of each letter, with some that stand already, within the bounds -/
def okC (lo hi k : Nat → Nat) (cs w : List Nat) : Bool := cs.all fun c => decide (lo c ≤ w.count c + k c) && decide (w.count c + k c ≤ hi c)
def F (al : Nat → Nat → Bool) (lo hi : Nat → Nat) (cs E : List Nat) (k : Nat → Nat) : Nat := (asg al cs E).countP (okC lo hi k cs)
/-! ### the dict of places -/
end Cnt
set_option Elab.async false
set_option linter.all false
set_option maxRecDepth 100000
set_option maxHeartbeats 1010000
/-! VA: what a run ends with, step by step -/
namespace J
def Wp {α : Type} (m : M α) (S : Store) (Q : α → Store → Prop) : Prop := ∃ a S', m S = .ok a S' ∧ Q a S'
section
variable {α β : Type} {S : Store} {ρ : Rho}
theorem Wp.imp {m : M α} {Q Q' : α → Store → Prop} (h : Wp m S Q) (k : ∀ a S', Q a S' → Q' a S') : Wp m S Q' := let ⟨a, S', e, q⟩ := h; ⟨a, S', e, k a S' q⟩
theorem wp_ok {m : M α} {a : α} {S' : Store} {Q : α → Store → Prop} (e : m S = .ok a S') (q : Q a S') : Wp m S Q := ⟨a, S', e, q⟩
theorem wp_gm {m : M α} {a : α} {Q : α → Store → Prop} (h : Gm S m a) (q : ∀ S', Kq S S' → Q a S') : Wp m S Q := let ⟨S', e, k⟩ := h.at; ⟨a, S', e, q S' k⟩
theorem wp_mret {a : α} {Q : α → Store → Prop} (q : Q a S) : Wp (M.ret a) S Q := ⟨a, S, rfl, q⟩
theorem wp_bind {m : M α} {k : α → M β} {Q : β → Store → Prop} (h : Wp m S fun a S1 => Wp (k a) S1 Q) : Wp (M.bind m k) S Q := by
  obtain ⟨a, S1, e, b, S2, e2, q⟩ := h
  exact ⟨b, S2, by unfold M.bind; rw [e]; exact e2, q⟩
theorem wp_sb {m : M α} {k : α → M Fl} {Q : Fl → Store → Prop} (h : Wp m S fun a S1 => Wp (k a) S1 Q) : Wp (sBind m ρ k) S Q := by
  obtain ⟨a, S1, e, b, S2, e2, q⟩ := h
  exact ⟨b, S2, by unfold sBind; rw [e]; exact e2, q⟩
theorem wp_nox {m : M α} {Q : α → Store → Prop} (h : Wp m S Q) : Wp (nox m) S Q := by
  obtain ⟨a, S1, e, q⟩ := h
  exact ⟨a, S1, by unfold nox; rw [e], q⟩
theorem wp_lift {o : Option α} {a : α} {Q : α → Store → Prop} (h : o = some a) (q : Q a S) : Wp (lift o) S Q := ⟨a, S, by rw [h]; rfl, q⟩
theorem wp_liftS {o : Store → Option α} {Q : α → Store → Prop} (h : ∃ a, o S = some a ∧ Q a S) : Wp (fun S => lift (o S) S) S Q := by
  obtain ⟨a, e, q⟩ := h
  exact ⟨a, S, by show lift (o S) S = _; rw [e]; rfl, q⟩
/-! ### expressions -/
variable {Q : D → Store → Prop} {QA : List D → Store → Prop} {QB : Bool → Store → Prop} {QF : Fl → Store → Prop} {QO : Option Int → Store → Prop}
theorem wp_var {i : Nat} {d : D} (h : ρ.getD i none = some d) (q : Q d S) : Wp (iVar i ρ) S Q := wp_lift h q
theorem wp_c {d : D} (q : Q d S) : Wp (iC d ρ) S Q := wp_mret q
theorem wp_op {f : Op2} {a b : IE} (h : Wp (a ρ) S fun x S1 => Wp (b ρ) S1 fun y S2 => ∃ d, f x y S2 = some d ∧ Q d S2) : Wp (iOp f a b ρ) S Q :=
  wp_bind (h.imp fun _ _ k => wp_bind (k.imp fun _ _ e => wp_liftS e))
theorem wp_opM {f : OpB} {a b : IE} (h : Wp (a ρ) S fun x S1 => Wp (b ρ) S1 fun y S2 => Wp (f x y) S2 Q) : Wp (iOpM f a b ρ) S Q :=
  wp_bind (h.imp fun _ _ k => wp_bind k)
theorem wp_nil (q : QA [] S) : Wp (iNil ρ) S QA := wp_mret q
theorem wp_cons {a : IE} {r : IA} (h : Wp (a ρ) S fun x S1 => Wp (r ρ) S1 fun xs S2 => QA (x :: xs) S2) : Wp (iCons a r ρ) S QA :=
  wp_bind (h.imp fun _ _ k => wp_bind (k.imp fun _ _ e => wp_mret e))
theorem wp_star {a : IE} {r : IA} (h : Wp (a ρ) S fun x S1 => ∃ xs, seqA x S1 = some xs ∧ Wp (r ρ) S1 fun ys S2 => QA (xs ++ ys) S2) : Wp (iStar a r ρ) S QA :=
  wp_bind (h.imp fun _ _ ⟨_, e, k⟩ => wp_bind (wp_liftS ⟨_, e, wp_bind (k.imp fun _ _ z => wp_mret z)⟩))
theorem wp_cb {f : OpN} {ia : IA} (h : Wp (ia ρ) S fun xs S1 => ∃ d, f xs S1 = some d ∧ Q d S1) : Wp (iCB f ia ρ) S Q := wp_bind (h.imp fun _ _ e => wp_liftS e)
theorem wp_cm {f : List D → M D} {ia : IA} (h : Wp (ia ρ) S fun xs S1 => Wp (f xs) S1 Q) : Wp (iCM f ia ρ) S Q := wp_bind h
theorem wp_call {n : Nat} {f : List D → M D} {ia : IA} (h : Wp (ia ρ) S fun xs S1 => xs.length = n ∧ Wp (f xs) S1 Q) : Wp (iCall n f ia ρ) S Q :=
  wp_bind (h.imp fun _ _ ⟨e, k⟩ => by rw [if_pos e]; exact k)
theorem wp_callV {n : Nat} {f : List D → M D} {ia : IA} (h : Wp (ia ρ) S fun xs S1 => (n ≤ xs.length ∧ xs.length ≤ 100000) ∧ Wp (f (packV n xs)) S1 Q) : Wp (iCallV n f ia ρ) S Q :=
  wp_bind (h.imp fun _ _ ⟨e, k⟩ => by rw [if_pos e]; exact k)
theorem wp_tup {ia : IA} (h : Wp (ia ρ) S fun xs S1 => xs.length ≤ 100000 ∧ Q (.tup xs) S1) : Wp (iTup ia ρ) S Q :=
  wp_bind (h.imp fun _ _ ⟨e, k⟩ => by rw [if_pos e]; exact wp_mret k)
theorem wp_lst {ia : IA} (h : Wp (ia ρ) S fun xs S1 => xs.length ≤ 100000 ∧ Q (.lst xs) S1) : Wp (iLst ia ρ) S Q :=
  wp_bind (h.imp fun _ _ ⟨e, k⟩ => by rw [if_pos e]; exact wp_mret k)
theorem wp_lstM {ia : IA} (h : Wp (ia ρ) S fun xs S1 => xs.length ≤ 100000 ∧ Q (.ref S1.next) (S1.alloc (.lst xs))) : Wp (iLstM ia ρ) S Q :=
  wp_bind (h.imp fun _ S1 ⟨e, k⟩ => by rw [if_pos e]; exact ⟨_, _, rfl, k⟩)
theorem wp_if {t : IT} {x y : IE} (h : Wp (t ρ) S fun b S1 => Wp (if b = true then x ρ else y ρ) S1 Q) : Wp (iIf t x y ρ) S Q := wp_bind h
theorem wp_notV {t : IT} (h : Wp (t ρ) S fun b S1 => Q (.bl !b) S1) : Wp (iNotV t ρ) S Q := wp_bind (h.imp fun _ _ k => wp_mret k)
theorem wp_andV {a b : IE} (h : Wp (a ρ) S fun d S1 => ∃ c, isB d = some c ∧ if c = true then Wp (b ρ) S1 Q else Q (.bl false) S1) : Wp (iAndV a b ρ) S Q :=
  wp_bind (h.imp fun _ _ ⟨c, e, k⟩ => wp_bind (wp_lift e (by cases c <;> first | exact k | exact wp_mret k)))
theorem wp_orV {a b : IE} (h : Wp (a ρ) S fun d S1 => ∃ c, isB d = some c ∧ if c = true then Q (.bl true) S1 else Wp (b ρ) S1 Q) : Wp (iOrV a b ρ) S Q :=
  wp_bind (h.imp fun _ _ ⟨c, e, k⟩ => wp_bind (wp_lift e (by cases c <;> first | exact k | exact wp_mret k)))
theorem wp_chain {f g : Op2} {a b c : IE} (h : Wp (a ρ) S fun x S1 => Wp (b ρ) S1 fun y S2 => ∃ p, f x y S2 = some (.bl p) ∧ if p = true then Wp (c ρ) S2 fun z S3 => ∃ d, g y z S3 = some d ∧ Q d S3 else Q (.bl false) S2) : Wp (iChain f g a b c ρ) S Q :=
  wp_bind (h.imp fun _ _ k => wp_bind (k.imp fun _ _ ⟨p, e, k⟩ => wp_bind (wp_liftS ⟨p, by rw [e]; rfl, by
    cases p with
    | true => exact wp_bind (k.imp fun _ _ e => wp_liftS e)
    | false => exact wp_mret k⟩)))
theorem wp_bm {Ty : Kd} {f : OpM} {a : IE} {ia : IA} (h : Wp (a ρ) S fun x S1 => kindIs Ty x S1 = true ∧ Wp (ia ρ) S1 fun xs S2 => Wp (f x xs) S2 Q) : Wp (iBM Ty f a ia ρ) S Q :=
  wp_bind (h.imp fun _ _ ⟨e, k⟩ => by
    obtain ⟨d, S3, e3, q⟩ := wp_bind k
    exact ⟨d, S3, by dsimp only; rw [if_pos e]; exact e3, q⟩)
theorem wp_bm0 {Ty : Kd} {f : OpM} {a : IE} (h : Wp (a ρ) S fun x S1 => kindIs Ty x S1 = true ∧ Wp (f x []) S1 Q) : Wp (iBM0 Ty f a ρ) S Q :=
  wp_bind (h.imp fun _ _ ⟨e, k⟩ => by
    obtain ⟨d, S3, e3, q⟩ := k
    exact ⟨d, S3, by dsimp only; rw [if_pos e]; exact e3, q⟩)
theorem wp_noP (q : QO none S) : Wp (iNoPart ρ) S QO := wp_mret q
theorem wp_part {a : IE} (h : Wp (a ρ) S fun d S1 => ∃ i, d = .int i ∧ QO (some i) S1) : Wp (iPart a ρ) S QO := wp_bind (h.imp fun _ _ ⟨_, e, k⟩ => by subst e; exact wp_mret k)
theorem wp_sl {f : OpC} {a : IE} {l u : IO} (h : Wp (a ρ) S fun x S1 => Wp (l ρ) S1 fun lo S2 => Wp (u ρ) S2 fun hi S3 => ∃ d, f x lo hi S3 = some d ∧ Q d S3) : Wp (iSl f a l u ρ) S Q :=
  wp_bind (h.imp fun _ _ k => wp_bind (k.imp fun _ _ k => wp_bind (k.imp fun _ _ e => wp_liftS e)))
theorem wp_fld {T : Tab} {cs : List Nat} {f : Nat} {a : IE} (h : Wp (a ρ) S fun d S1 => ∃ c fs v, insOf T d S1 = some (c, fs) ∧ cs.contains c = true ∧ getF f fs = some v ∧ Q v S1) : Wp (iFld T cs f a ρ) S Q :=
  wp_bind (h.imp fun d S1 ⟨c, fs, v, e1, e2, e3, k⟩ => ⟨v, S1, by
    show (match insOf T d S1 with | some (c, fs) => if cs.contains c = true then lift (getF f fs) S1 else .no | none => .no) = _
    rw [e1]
    dsimp only
    rw [if_pos e2, e3]
    rfl, k⟩)
theorem wp_meth {T : Tab} {c m n : Nat} {f : List D → M D} {a : IE} {ia : IA} (h : Wp (a ρ) S fun o S1 => ∃ fs, insOf T o S1 = some (c, fs) ∧ getF m fs = none ∧ Wp (ia ρ) S1 fun xs S2 => xs.length + 1 = n ∧ Wp (f (o :: xs)) S2 Q) : Wp (iMeth T c m n f a ia ρ) S Q :=
  wp_bind (h.imp fun o S1 ⟨fs, e1, e2, k⟩ => by
    obtain ⟨d, S3, e3, q⟩ := wp_bind (k.imp fun xs _ ⟨e, k⟩ => show Wp (if xs.length + 1 = n then f (o :: xs) else M.no) _ Q by rw [if_pos e]; exact k)
    refine ⟨d, S3, ?_, q⟩
    show (match insOf T o S1 with | some (c', fs) => if c' = c ∧ getF m fs = none then M.bind (ia ρ) (fun xs => if xs.length + 1 = n then f (o :: xs) else M.no) S1 else .no | none => .no) = _
    rw [e1]
    dsimp only
    rw [if_pos ⟨rfl, e2⟩]
    exact e3)
theorem wp_prop {T : Tab} {c : Nat} {f : List D → M D} {a : IE} (h : Wp (a ρ) S fun o S1 => ∃ fs, insOf T o S1 = some (c, fs) ∧ Wp (f [o]) S1 Q) : Wp (iProp T c f a ρ) S Q :=
  wp_bind (h.imp fun o S1 ⟨fs, e1, k⟩ => by
    obtain ⟨d, S3, e3, q⟩ := wp_nox k
    refine ⟨d, S3, ?_, q⟩
    show (match insOf T o S1 with | some (c', _) => if c' = c then nox (f [o]) S1 else .no | none => .no) = _
    rw [e1]
    dsimp only
    rw [if_pos rfl]
    exact e3)
theorem wp_make {T : Tab} {z : Bool} {c k : Nat} {f : List D → M D} {ia : IA} (h : Wp (ia ρ) S fun xs S1 => Wp (makeD T z c k f xs) S1 Q) : Wp (iMake T z c k f ia ρ) S Q := wp_bind h
theorem wp_makeV {T : Tab} {z : Bool} {c k : Nat} {f : List D → M D} {ia : IA} (h : Wp (ia ρ) S fun xs S1 => Wp (makeV T z c k f xs) S1 Q) : Wp (iMakeV T z c k f ia ρ) S Q := wp_bind h
/-! ### tests -/
theorem wp_tst {a : IE} (h : Wp (a ρ) S fun d S1 => ∃ b, isB d = some b ∧ QB b S1) : Wp (iTst a ρ) S QB := wp_bind (h.imp fun _ _ ⟨_, e, k⟩ => wp_lift e k)
theorem wp_tr {T : Tab} {cs : List Nat} {a : IE} (h : Wp (a ρ) S fun d S1 => ∃ b, truO T cs d S1 = some b ∧ QB b S1) : Wp (iTr T cs a ρ) S QB := wp_bind (h.imp fun _ _ e => wp_liftS e)
theorem wp_yes (q : QB true S) : Wp (iYes ρ) S QB := wp_mret q
theorem wp_not {t : IT} (h : Wp (t ρ) S fun b S1 => QB (!b) S1) : Wp (iNot t ρ) S QB := wp_bind (h.imp fun _ _ k => wp_mret k)
theorem wp_and {s t : IT} (h : Wp (s ρ) S fun b S1 => if b = true then Wp (t ρ) S1 QB else QB false S1) : Wp (iAnd s t ρ) S QB :=
  wp_bind (h.imp fun b _ k => by cases b <;> first | exact k | exact wp_mret k)
theorem wp_or {s t : IT} (h : Wp (s ρ) S fun b S1 => if b = true then QB true S1 else Wp (t ρ) S1 QB) : Wp (iOr s t ρ) S QB :=
  wp_bind (h.imp fun b _ k => by cases b <;> first | exact k | exact wp_mret k)
/-! ### what is walked -/
theorem wp_range {f : List D → Option (List D)} {ia : IA} (h : Wp (ia ρ) S fun xs S1 => ∃ ys, f xs = some ys ∧ QA ys S1) : Wp (iRange f ia ρ) S QA := wp_bind (h.imp fun _ _ ⟨_, e, k⟩ => wp_lift e k)
theorem wp_items {a : IE} (h : Wp (a ρ) S fun d S1 => ∃ ys, items d = some ys ∧ QA ys S1) : Wp (iItems a ρ) S QA := wp_bind (h.imp fun _ _ ⟨_, e, k⟩ => wp_lift e k)
theorem wp_zip {ia : IA} (h : Wp (ia ρ) S fun xs S1 => ∃ ys, zipOfA xs = some ys ∧ QA ys S1) : Wp (iZipA ia ρ) S QA := wp_bind (h.imp fun _ _ ⟨_, e, k⟩ => wp_lift e k)
theorem wp_enum {ia : IA} (h : Wp (ia ρ) S fun xs S1 => ∃ ys, enumOf xs = some ys ∧ QA ys S1) : Wp (iEnumD ia ρ) S QA := wp_bind (h.imp fun _ _ ⟨_, e, k⟩ => wp_lift e k)
/-! ### statements -/
def sK (b : IS) (QF : Fl → Store → Prop) (fl : Fl) (S : Store) : Prop := match fl with
  | .nx ρ => Wp (b ρ) S QF
  | fl => QF fl S
theorem sK_nx {b : IS} (h : Wp (b ρ) S QF) : sK b QF (.nx ρ) S := h
theorem sK_rt {b : IS} {d : D} (h : QF (.rt d) S) : sK b QF (.rt d) S := h
theorem wp_seq {a b : IS} (h : Wp (a ρ) S (sK b QF)) : Wp (sSeq a b ρ) S QF := by
  obtain ⟨fl, S1, e, k⟩ := h
  cases fl with
  | nx ρ1 =>
    obtain ⟨fl2, S2, e2, q⟩ := k
    exact ⟨fl2, S2, by unfold sSeq; rw [e]; exact e2, q⟩
  | _ => exact ⟨_, S1, by unfold sSeq; rw [e], k⟩
theorem wp_next (q : QF (.nx ρ) S) : Wp (sNext ρ) S QF := wp_mret q
theorem wp_expr {a : IE} (h : Wp (a ρ) S fun _ S1 => QF (.nx ρ) S1) : Wp (sExpr a ρ) S QF := wp_sb (h.imp fun _ _ k => wp_mret k)
theorem wp_asg {i : Nat} {a : IE} (h : Wp (a ρ) S fun d S1 => QF (.nx (ρ.set i (some d))) S1) : Wp (sAsg i a ρ) S QF := wp_sb (h.imp fun _ _ k => wp_mret k)
theorem wp_asgG {g : NG} {a : IE} (h : Wp (a ρ) S fun d S1 => ∃ ρ1, ngD g d ρ = some ρ1 ∧ QF (.nx ρ1) S1) : Wp (sAsgG g a ρ) S QF := wp_sb (h.imp fun _ _ ⟨_, e, k⟩ => by rw [e]; exact wp_mret k)
theorem wp_retS {a : IE} (h : Wp (a ρ) S fun d S1 => QF (.rt d) S1) : Wp (sRet a ρ) S QF := wp_sb (h.imp fun _ _ k => wp_mret k)
theorem wp_retN (q : QF (.rt .non) S) : Wp (sRetN ρ) S QF := wp_mret q
theorem wp_ifS {t : IT} {a b : IS} (h : Wp (t ρ) S fun c S1 => Wp (if c = true then a ρ else b ρ) S1 QF) : Wp (sIf t a b ρ) S QF := wp_sb h
theorem wp_par {i j : Nat} {a b : IE} (h : Wp (a ρ) S fun x S1 => Wp (b ρ) S1 fun y S2 => QF (.nx ((ρ.set i (some x)).set j (some y))) S2) : Wp (sPar i j (iCons a (iCons b iNil)) ρ) S QF :=
  wp_sb (wp_cons (h.imp fun _ _ k => wp_cons (k.imp fun _ _ q => wp_nil (wp_mret q))))
theorem wp_par3 {i j l : Nat} {a b c : IE} (h : Wp (a ρ) S fun x S1 => Wp (b ρ) S1 fun y S2 => Wp (c ρ) S2 fun z S3 => QF (.nx (((ρ.set i (some x)).set j (some y)).set l (some z))) S3) : Wp (sPar3 i j l (iCons a (iCons b (iCons c iNil))) ρ) S QF :=
  wp_sb (wp_cons (h.imp fun _ _ k => wp_cons (k.imp fun _ _ k => wp_cons (k.imp fun _ _ q => wp_nil (wp_mret q)))))
theorem wp_frz {i m : Nat} {o : MO} {d : D} (h : ρ.getD i none = some (.ref m)) (g : S.get m = some o) (z : frzO o = some d) (q : QF (.nx (ρ.set i (some d))) (S.del m)) : Wp (sFrz i ρ) S QF :=
  ⟨_, _, by unfold sFrz; rw [h]; dsimp only; rw [g]; dsimp only [Option.bind_some]; rw [z], q⟩
/-- a def: its value -/
def dK (N : Nat) (Q : D → Store → Prop) (fl : Fl) (S : Store) : Prop := match fl with
  | .nx _ => Q .non (S.trim N)
  | .rt d => Q d (S.trim N)
  | _ => False
theorem dK_rt {N : Nat} {d : D} (h : Q d (S.trim N)) : dK N Q (.rt d) S := h
theorem wp_def {n : Nat} {b : IS} {ds : List D} (h : Wp (b (startR n ds)) S (dK S.next Q)) : Wp (defJ n false b ds) S Q := by
  obtain ⟨fl, S1, e, k⟩ := h
  cases fl with
  | nx ρ1 => exact ⟨.non, _, by unfold defJ; rw [e]; rfl, k⟩
  | rt d => exact ⟨d, _, by unfold defJ; rw [e]; rfl, k⟩
  | _ => exact k.elim
end
/-! ### loops -/
def updR (ρ : Rho) : List Nat → List (Option D) → Rho
  | i :: is, y :: ys => updR (ρ.set i y) is ys
  | _, _ => ρ
def lK {γ : Type} (ρ0 : Rho) (is : List Nat) (I : List γ → List (Option D) → Store → Prop) (QF : Fl → Store → Prop) (pre : List γ) (fl : Fl) (S : Store) : Prop := match fl with
  | .nx ρ => ∃ ys, ys.length = is.length ∧ ρ = updR ρ0 is ys ∧ I pre ys S
  | .ct ρ => ∃ ys, ys.length = is.length ∧ ρ = updR ρ0 is ys ∧ I pre ys S
  | .bk ρ => QF (.nx ρ) S
  | fl => QF fl S
section
variable {γ : Type} {S : Store} {ρ0 : Rho} {is : List Nat} {I : List γ → List (Option D) → Store → Prop} {QF : Fl → Store → Prop}
theorem lK_nx {pre : List γ} {ρ : Rho} (ys : List (Option D)) (hl : ys.length = is.length) (e : ρ = updR ρ0 is ys) (h : I pre ys S) : lK ρ0 is I QF pre (.nx ρ) S := ⟨ys, hl, e, h⟩
theorem lK_rt {pre : List γ} {d : D} (h : QF (.rt d) S) : lK ρ0 is I QF pre (.rt d) S := h
theorem wp_forL {g : NG} {body : IS} (e : γ → D) (step : ∀ (x : γ) (pre : List γ) (ys : List (Option D)) (S : Store), ys.length = is.length → I pre ys S → (∃ post, xs = pre ++ x :: post) → ∃ ρ1, ngD g (e x) (updR ρ0 is ys) = some ρ1 ∧ Wp (body ρ1) S (lK ρ0 is I QF (pre ++ [x])))
    (fin : ∀ ys S, ys.length = is.length → I xs ys S → QF (.nx (updR ρ0 is ys)) S) : ∀ (post pre : List γ) (ys : List (Option D)) (S : Store), xs = pre ++ post → ys.length = is.length → I pre ys S → Wp (forL g body (post.map e) (updR ρ0 is ys)) S QF
  | [], pre, ys, S, hx, hl, hI => by
    rw [List.append_nil] at hx
    subst hx
    exact wp_mret (fin ys S hl hI)
  | x :: post, pre, ys, S, hx, hl, hI => by
    obtain ⟨ρ1, e1, fl, S1, b1, k⟩ := step x pre ys S hl hI ⟨post, hx⟩
    cases fl with
    | nx ρ2 =>
      obtain ⟨zs, hz, rfl, hI2⟩ := k
      obtain ⟨fl, S2, e2, q⟩ := wp_forL e step fin post (pre ++ [x]) zs S1 (by rw [hx]; simp) hz hI2
      exact ⟨fl, S2, by
        show forL g body (e x :: post.map e) _ S = _
        unfold forL
        simp only [e1, b1]
        exact e2, q⟩
    | ct ρ2 =>
      obtain ⟨zs, hz, rfl, hI2⟩ := k
      obtain ⟨fl, S2, e2, q⟩ := wp_forL e step fin post (pre ++ [x]) zs S1 (by rw [hx]; simp) hz hI2
      exact ⟨fl, S2, by
        show forL g body (e x :: post.map e) _ S = _
        unfold forL
        simp only [e1, b1]
        exact e2, q⟩
    | bk ρ2 => exact ⟨_, S1, by
      show forL g body (e x :: post.map e) _ S = _
      unfold forL
      simp only [e1, b1], k⟩
    | rt d => exact ⟨_, S1, by
      show forL g body (e x :: post.map e) _ S = _
      unfold forL
      simp only [e1, b1], k⟩
    | xx c fs ρ2 => exact ⟨_, S1, by
      show forL g body (e x :: post.map e) _ S = _
      unfold forL
      simp only [e1, b1], k⟩
/-- for x in ..: the slots is change, everything else stays; I: what holds of the slots' values and the store behind the elements pre -/
theorem wp_for {src : IA} {g : NG} {body : IS} (e : γ → D) (xs : List γ) (is : List Nat) (I : List γ → List (Option D) → Store → Prop)
    (hs : Wp (src ρ0) S fun ys S1 => ys = xs.map e ∧ ∃ zs, zs.length = is.length ∧ ρ0 = updR ρ0 is zs ∧ I [] zs S1)
    (step : ∀ (x : γ) (pre : List γ) (ys : List (Option D)) (S : Store), ys.length = is.length → I pre ys S → (∃ post, xs = pre ++ x :: post) → ∃ ρ1, ngD g (e x) (updR ρ0 is ys) = some ρ1 ∧ Wp (body ρ1) S (lK ρ0 is I QF (pre ++ [x])))
    (fin : ∀ ys S, ys.length = is.length → I xs ys S → QF (.nx (updR ρ0 is ys)) S) : Wp (sFor src g body ρ0) S QF := by
  refine wp_sb (hs.imp fun ys S1 ⟨e1, zs, hz, e2, hI⟩ => ?_)
  subst e1
  have := wp_forL (g := g) (body := body) e step fin xs [] zs S1 rfl hz hI
  rwa [← e2] at this
end
/-! ### comprehensions that draw -/
/-! ### what is known of the store: the bowl at n, and lists that are being made -/
structure Kn (S : Store) (n : Nat) (L : List (Nat × MO)) : Prop where
  bw : Bw S n
  at_ : ∀ p ∈ L, S.get p.1 = some p.2
  lt : ∀ p ∈ L, n < p.1 ∧ p.1 < S.next
  nd : L.Pairwise fun p q => p.1 ≠ q.1
section
variable {S S' : Store} {n m : Nat} {o : MO} {L : List (Nat × MO)}
theorem Kn.of (b : Bw S n) : Kn S n [] := ⟨b, by simp, by simp, by simp⟩
theorem Kn.kp (k : Kn S n L) (h : Kp n S S') (b : Bw S' n) : Kn S' n L := ⟨b, fun p hp => (h.get _ (k.lt p hp).2 (Nat.ne_of_gt (k.lt p hp).1)).trans (k.at_ p hp), fun p hp => ⟨(k.lt p hp).1, Nat.lt_of_lt_of_le (k.lt p hp).2 h.next⟩, k.nd⟩
theorem Kn.kq (k : Kn S n L) (h : Kq S S') : Kn S' n L := k.kp h.kp (k.bw.kq h)
theorem Kn.new (k : Kn S n L) : Kn (S.alloc o) n ((S.next, o) :: L) := by
  have z := k.kq (kq_alloc (o := o))
  refine ⟨z.bw, fun p hp => ?_, fun p hp => ?_, List.pairwise_cons.mpr ⟨fun q hq => (Nat.ne_of_gt (k.lt q hq).2), k.nd⟩⟩
  · rcases List.mem_cons.mp hp with rfl | h
    · exact Store.get_alloc_self _ _
    · exact z.at_ p h
  · rcases List.mem_cons.mp hp with rfl | h
    · exact ⟨k.bw.1, Nat.lt_succ_self _⟩
    · exact z.lt p h
theorem Kn.swap {p q : Nat × MO} (k : Kn S n (p :: q :: L)) : Kn S n (q :: p :: L) := by
  refine ⟨k.bw, fun r hr => k.at_ r ?_, fun r hr => k.lt r ?_, ?_⟩
  · simp only [List.mem_cons] at hr ⊢
    rcases hr with h | h | h
    · exact .inr (.inl h)
    · exact .inl h
    · exact .inr (.inr h)
  · simp only [List.mem_cons] at hr ⊢
    rcases hr with h | h | h
    · exact .inr (.inl h)
    · exact .inl h
    · exact .inr (.inr h)
  · have h := k.nd
    rw [List.pairwise_cons, List.pairwise_cons] at h ⊢
    refine ⟨fun r hr => ?_, fun r hr => h.1 r (List.mem_cons_of_mem _ hr), h.2.2⟩
    rcases List.mem_cons.mp hr with rfl | hr2
    · exact Ne.symm (h.1 _ (by simp))
    · exact h.2.1 r hr2
theorem Kn.get (k : Kn S n ((m, o) :: L)) : S.get m = some o := k.at_ _ (List.mem_cons_self ..)
theorem Kn.set {o' : MO} (k : Kn S n ((m, o) :: L)) : Kn (S.set m o') n ((m, o') :: L) := by
  have hm := k.lt (m, o) (by simp)
  have hL := List.pairwise_cons.mp k.nd
  refine ⟨k.bw.kp kp_set (Nat.ne_of_lt hm.1), fun p hp => ?_, fun p hp => ?_, List.pairwise_cons.mpr ⟨fun q hq => hL.1 q hq, hL.2⟩⟩
  · rcases List.mem_cons.mp hp with rfl | h
    · exact Store.get_set_self _ _ _
    · rw [Store.get_set_ne _ _ (Ne.symm (hL.1 p h))]
      exact k.at_ p (List.mem_cons_of_mem _ h)
  · rcases List.mem_cons.mp hp with rfl | h
    · exact hm
    · exact k.lt p (List.mem_cons_of_mem _ h)
theorem Kn.del (k : Kn S n ((m, o) :: L)) : Kn (S.del m) n L := by
  have hm := k.lt (m, o) (by simp)
  have hL := List.pairwise_cons.mp k.nd
  refine ⟨k.bw.del (Nat.ne_of_lt hm.1), fun p hp => ?_, fun p hp => k.lt p (List.mem_cons_of_mem _ hp), hL.2⟩
  rw [Store.get_del, if_neg (Ne.symm (hL.1 p hp))]
  exact k.at_ p (List.mem_cons_of_mem _ hp)
end
/-! ### the tactics -/
theorem ex_of {α : Type} {p : Option α} {q : α → Prop} {d : α} (h : p = some d) (k : q d) : ∃ d, p = some d ∧ q d := ⟨d, h, k⟩
theorem ex_int {i : Int} {q : Int → Prop} (k : q i) : ∃ j, D.int i = .int j ∧ q j := ⟨i, rfl, k⟩
theorem ex_fld {T : Tab} {d : D} {S : Store} {cs : List Nat} {f c : Nat} {fs : List (Nat × D)} {v : D} {q : D → Prop} (h1 : insOf T d S = some (c, fs)) (h2 : cs.contains c = true) (h3 : getF f fs = some v) (k : q v) : ∃ c fs v, insOf T d S = some (c, fs) ∧ cs.contains c = true ∧ getF f fs = some v ∧ q v := ⟨c, fs, v, h1, h2, h3, k⟩
theorem if_f {p : Prop} [Decidable p] {a b : Prop} (hp : ¬p) (h : b) : if p then a else b := by rw [if_neg hp]; exact h
end J
set_option Elab.async false
set_option linter.all false
set_option maxRecDepth 100000
set_option maxHeartbeats 1010000
/-! VB: tactics for runs, draws -/
namespace J
theorem range1_map {n : Nat} {S : Store} (h : n ≤ 1000) : range1 [.int (n : Int)] = some ((List.range n).map fun i : Nat => D.int (i : Int)) := by
  rw [range1_nat h]
  simp [rng]
local macro_rules | `(tactic| walk_at "wop") => `(tactic| first | (with_reducible exact addD_int) | (with_reducible exact subI_int) | (with_reducible exact eqD_int) | (with_reducible exact eqD_str) | (with_reducible exact eqD_bl) | (with_reducible exact neD_int) | (with_reducible exact neD_str) | (with_reducible exact neD_bl) | (with_reducible exact ltI_int) | (with_reducible exact leI_int) | (with_reducible exact gtI_int) | (with_reducible exact geI_int) | (with_reducible exact lenD_tup) | (with_reducible exact tup_lst) | (with_reducible exact addD_str (by first | omega | (simp; done) | (simp; omega))) | (with_reducible exact lenD_str (by first | omega | (simp; done) | (simp; omega))) | (with_reducible exact lenD_lst (by first | omega | (simp; done) | (simp; omega))) | (with_reducible exact slD_str (by first | omega | (simp; done) | (simp; omega))) | (with_reducible exact addD_list (by first | omega | (simp; done) | (simp; omega))) | (with_reducible exact range1_map (S := ⟨[], 0⟩) (by first | omega | (simp; done) | (simp; omega))) | (with_reducible exact addD_tupA (by first | omega | (simp; done) | (simp; omega))) | (exact rfl))
local macro_rules | `(tactic| walk_at "wx1") => `(tactic| first | (((with_reducible apply wp_var); · rfl)) | (with_reducible refine wp_seq ?_) | (with_reducible refine sK_nx ?_) | (with_reducible refine sK_rt ?_) | (with_reducible refine dK_rt ?_) | (with_reducible refine wp_c ?_) | (with_reducible refine wp_asg ?_) | (with_reducible refine wp_par ?_) | (with_reducible refine wp_par3 ?_) | (with_reducible refine wp_ifS ?_) | (with_reducible refine wp_retS ?_) | (with_reducible refine wp_expr ?_) | (with_reducible refine wp_next ?_) | (with_reducible refine wp_op ?_) | (with_reducible refine wp_cons ?_) | (with_reducible refine wp_nil ?_) | (with_reducible refine wp_call ?_) | (with_reducible refine wp_cb ?_) | (with_reducible refine wp_tst ?_) | (with_reducible refine wp_not ?_) | (with_reducible refine wp_and ?_) | (with_reducible refine wp_or ?_) | (with_reducible refine wp_andV ?_) | (with_reducible refine wp_orV ?_) | (with_reducible refine wp_notV ?_) | (with_reducible refine wp_if ?_) | (with_reducible refine wp_tup ?_) | (with_reducible refine wp_lst ?_) | (with_reducible refine wp_lstM ?_) | (with_reducible refine wp_bm ?_) | (with_reducible refine wp_sl ?_) | (with_reducible refine wp_noP ?_) | (with_reducible refine wp_part ?_) | (with_reducible refine wp_chain ?_) | (with_reducible refine wp_fld ?_) | (with_reducible refine wp_make ?_) | (with_reducible refine wp_range ?_) | (with_reducible refine wp_items ?_) | (with_reducible refine wp_zip ?_) | (with_reducible refine wp_enum ?_) | (with_reducible refine wp_yes ?_) | (with_reducible refine wp_star ?_) | (with_reducible refine wp_callV ?_) | (with_reducible refine wp_makeV ?_) | (with_reducible refine wp_meth ?_) | (with_reducible refine wp_retN ?_) | (with_reducible refine wp_cm ?_) | (with_reducible refine wp_asgG ?_) | (with_reducible refine ex_int ?_) | (with_reducible refine wp_opM ?_) | (with_reducible refine wp_prop ?_) | (with_reducible refine wp_tr ?_) | (with_reducible refine wp_bm0 ?_) | (with_reducible refine lK_rt ?_) | (((with_reducible apply ex_of); · walk_at "wop")) | (((with_reducible apply ex_fld); · rfl; · rfl; · rfl)) | (((with_reducible apply And.intro); · first | rfl | decide | (simp; done))))
theorem wp_ite {α : Type} {b : Bool} {m1 m2 : M α} {S : Store} {Q : α → Store → Prop} (h1 : b = true → Wp m1 S Q) (h2 : b = false → Wp m2 S Q) : Wp (if b = true then m1 else m2) S Q := by
  cases b with
  | true => exact h1 rfl
  | false => exact h2 rfl
theorem wp_itp {α : Type} {p : Prop} [Decidable p] {m1 m2 : M α} {S : Store} {Q : α → Store → Prop} (h1 : p → Wp m1 S Q) (h2 : ¬p → Wp m2 S Q) : Wp (if decide p = true then m1 else m2) S Q :=
  wp_ite (fun h => h1 (of_decide_eq_true h)) (fun h => h2 (of_decide_eq_false h))
/-! draws -/
section
variable {S : Store} {n : Nat} {L : List (Nat × MO)} {Q : D → Store → Prop}
/-- xs.append(e) for a list that is being made -/
theorem wp_app {ρ : Rho} {i m : Nat} {xs : List D} {a : IE} {QF : Fl → Store → Prop} (hi : ρ.getD i none = some (.ref m)) (kn : Kn S n ((m, .lst xs) :: L)) (hx : xs.length < 100000)
    (h : Wp (a ρ) S fun d S1 => Kn S1 n ((m, .lst xs) :: L) ∧ ∀ S', Kn S' n ((m, .lst (xs ++ [d])) :: L) → QF (.nx ρ) S') : Wp (sExpr (iBM .l lstApp (iVar i) (iCons a iNil)) ρ) S QF := by
  refine wp_expr (wp_bm (wp_var hi ⟨by simp [kindIs, kn.get], ?_⟩))
  refine wp_cons (h.imp fun d S1 ⟨k1, q⟩ => wp_nil ?_)
  exact wp_ok (lstApp_get k1.get hx) (q _ k1.set)
end
end J
set_option Elab.async false
set_option linter.all false
set_option maxRecDepth 100000
set_option maxHeartbeats 1010000
/-! VC: filling within bounds, as the program runs it -/
namespace J
local macro_rules | `(tactic| walk_at "wop") => `(tactic| first | (with_reducible exact addD_int) | (with_reducible exact subI_int) | (with_reducible exact eqD_int) | (with_reducible exact eqD_str) | (with_reducible exact eqD_bl) | (with_reducible exact neD_int) | (with_reducible exact neD_str) | (with_reducible exact neD_bl) | (with_reducible exact ltI_int) | (with_reducible exact leI_int) | (with_reducible exact gtI_int) | (with_reducible exact geI_int) | (with_reducible exact lenD_tup) | (with_reducible exact tup_lst) | (with_reducible exact addD_str (by first | omega | (simp; done) | (simp; omega))) | (with_reducible exact lenD_str (by first | omega | (simp; done) | (simp; omega))) | (with_reducible exact lenD_lst (by first | omega | (simp; done) | (simp; omega))) | (with_reducible exact slD_str (by first | omega | (simp; done) | (simp; omega))) | (with_reducible exact addD_list (by first | omega | (simp; done) | (simp; omega))) | (with_reducible exact range1_map (S := ⟨[], 0⟩) (by first | omega | (simp; done) | (simp; omega))) | (with_reducible exact addD_tupA (by first | omega | (simp; done) | (simp; omega))) | (exact rfl))
local macro_rules | `(tactic| walk_at "wx1") => `(tactic| first | (((with_reducible apply wp_var); · rfl)) | (with_reducible refine wp_seq ?_) | (with_reducible refine sK_nx ?_) | (with_reducible refine sK_rt ?_) | (with_reducible refine dK_rt ?_) | (with_reducible refine wp_c ?_) | (with_reducible refine wp_asg ?_) | (with_reducible refine wp_par ?_) | (with_reducible refine wp_par3 ?_) | (with_reducible refine wp_ifS ?_) | (with_reducible refine wp_retS ?_) | (with_reducible refine wp_expr ?_) | (with_reducible refine wp_next ?_) | (with_reducible refine wp_op ?_) | (with_reducible refine wp_cons ?_) | (with_reducible refine wp_nil ?_) | (with_reducible refine wp_call ?_) | (with_reducible refine wp_cb ?_) | (with_reducible refine wp_tst ?_) | (with_reducible refine wp_not ?_) | (with_reducible refine wp_and ?_) | (with_reducible refine wp_or ?_) | (with_reducible refine wp_andV ?_) | (with_reducible refine wp_orV ?_) | (with_reducible refine wp_notV ?_) | (with_reducible refine wp_if ?_) | (with_reducible refine wp_tup ?_) | (with_reducible refine wp_lst ?_) | (with_reducible refine wp_lstM ?_) | (with_reducible refine wp_bm ?_) | (with_reducible refine wp_sl ?_) | (with_reducible refine wp_noP ?_) | (with_reducible refine wp_part ?_) | (with_reducible refine wp_chain ?_) | (with_reducible refine wp_fld ?_) | (with_reducible refine wp_make ?_) | (with_reducible refine wp_range ?_) | (with_reducible refine wp_items ?_) | (with_reducible refine wp_zip ?_) | (with_reducible refine wp_enum ?_) | (with_reducible refine wp_yes ?_) | (with_reducible refine wp_star ?_) | (with_reducible refine wp_callV ?_) | (with_reducible refine wp_makeV ?_) | (with_reducible refine wp_meth ?_) | (with_reducible refine wp_retN ?_) | (with_reducible refine wp_cm ?_) | (with_reducible refine wp_asgG ?_) | (with_reducible refine ex_int ?_) | (with_reducible refine wp_opM ?_) | (with_reducible refine wp_prop ?_) | (with_reducible refine wp_tr ?_) | (with_reducible refine wp_bm0 ?_) | (with_reducible refine lK_rt ?_) | (((with_reducible apply ex_of); · walk_at "wop")) | (((with_reducible apply ex_fld); · rfl; · rfl; · rfl)) | (((with_reducible apply And.intro); · first | rfl | decide | (simp; done))))
/-! ### what stands in the store -/
structure Ks (A : List Nat) (S S' : Store) : Prop where
  next : S.next ≤ S'.next
  get : ∀ m, m < S.next → m ∉ A → S'.get m = S.get m
theorem Ks.refl (A : List Nat) (S : Store) : Ks A S S := ⟨Nat.le_refl _, fun _ _ _ => rfl⟩
theorem Ks.trans {A : List Nat} {S S1 S2 : Store} (h : Ks A S S1) (k : Ks A S1 S2) : Ks A S S2 := ⟨Nat.le_trans h.next k.next, fun m hm hn => (k.get m (Nat.lt_of_lt_of_le hm h.next) hn).trans (h.get m hm hn)⟩
theorem Ks.set {A : List Nat} {S : Store} {m : Nat} {o : MO} (h : m ∈ A) : Ks A S (S.set m o) := ⟨Nat.le_refl _, fun i _ hi => S.get_set_ne o fun e => hi (e ▸ h)⟩
theorem Ks.trim {A : List Nat} {S S' : Store} (h : Ks A S S') : Ks A S (S'.trim S.next) := ⟨h.next, fun m hm hn => by rw [Store.get_trim, if_pos hm]; exact h.get m hm hn⟩
theorem Ks.alloc {A : List Nat} {S : Store} {o : MO} : Ks A S (S.alloc o) := ⟨Nat.le_succ _, fun m hm _ => S.get_alloc_ne o (Nat.ne_of_lt hm)⟩
theorem Ks.sub {A B : List Nat} {S S' : Store} (h : Ks A S S') (k : ∀ m, m < S.next → m ∉ B → m ∉ A) : Ks B S S' := ⟨h.next, fun m hm hn => h.get m hm (k m hm hn)⟩
theorem Ks.kq {S S' : Store} (h : Ks [] S S') : Kq S S' := ⟨h.next, fun m hm => h.get m hm (by simp)⟩
/-! ### give -/
structure SO (n : Nat) (s : List Nat) : Prop where
  nd : s.Nodup
  lt : ∀ p ∈ s, p < n
theorem SO.len {n : Nat} {s : List Nat} (h : SO n s) : s.length ≤ n := by
  have := (List.nodup_range (n := n)).length_le_of_subset (l₂ := s)
  have k := h.nd.length_le_of_subset (l₂ := List.range n) (fun p hp => List.mem_range.mpr (h.lt p hp))
  rwa [List.length_range] at k
end J
set_option Elab.async false
set_option linter.all false
set_option maxRecDepth 100000
set_option maxHeartbeats 1010000
/-! VD: take, fill -/
namespace J
local macro_rules | `(tactic| walk_at "wop") => `(tactic| first | (with_reducible exact addD_int) | (with_reducible exact subI_int) | (with_reducible exact eqD_int) | (with_reducible exact eqD_str) | (with_reducible exact eqD_bl) | (with_reducible exact neD_int) | (with_reducible exact neD_str) | (with_reducible exact neD_bl) | (with_reducible exact ltI_int) | (with_reducible exact leI_int) | (with_reducible exact gtI_int) | (with_reducible exact geI_int) | (with_reducible exact lenD_tup) | (with_reducible exact tup_lst) | (with_reducible exact addD_str (by first | omega | (simp; done) | (simp; omega))) | (with_reducible exact lenD_str (by first | omega | (simp; done) | (simp; omega))) | (with_reducible exact lenD_lst (by first | omega | (simp; done) | (simp; omega))) | (with_reducible exact slD_str (by first | omega | (simp; done) | (simp; omega))) | (with_reducible exact addD_list (by first | omega | (simp; done) | (simp; omega))) | (with_reducible exact range1_map (S := ⟨[], 0⟩) (by first | omega | (simp; done) | (simp; omega))) | (with_reducible exact addD_tupA (by first | omega | (simp; done) | (simp; omega))) | (exact rfl))
local macro_rules | `(tactic| walk_at "wx1") => `(tactic| first | (((with_reducible apply wp_var); · rfl)) | (with_reducible refine wp_seq ?_) | (with_reducible refine sK_nx ?_) | (with_reducible refine sK_rt ?_) | (with_reducible refine dK_rt ?_) | (with_reducible refine wp_c ?_) | (with_reducible refine wp_asg ?_) | (with_reducible refine wp_par ?_) | (with_reducible refine wp_par3 ?_) | (with_reducible refine wp_ifS ?_) | (with_reducible refine wp_retS ?_) | (with_reducible refine wp_expr ?_) | (with_reducible refine wp_next ?_) | (with_reducible refine wp_op ?_) | (with_reducible refine wp_cons ?_) | (with_reducible refine wp_nil ?_) | (with_reducible refine wp_call ?_) | (with_reducible refine wp_cb ?_) | (with_reducible refine wp_tst ?_) | (with_reducible refine wp_not ?_) | (with_reducible refine wp_and ?_) | (with_reducible refine wp_or ?_) | (with_reducible refine wp_andV ?_) | (with_reducible refine wp_orV ?_) | (with_reducible refine wp_notV ?_) | (with_reducible refine wp_if ?_) | (with_reducible refine wp_tup ?_) | (with_reducible refine wp_lst ?_) | (with_reducible refine wp_lstM ?_) | (with_reducible refine wp_bm ?_) | (with_reducible refine wp_sl ?_) | (with_reducible refine wp_noP ?_) | (with_reducible refine wp_part ?_) | (with_reducible refine wp_chain ?_) | (with_reducible refine wp_fld ?_) | (with_reducible refine wp_make ?_) | (with_reducible refine wp_range ?_) | (with_reducible refine wp_items ?_) | (with_reducible refine wp_zip ?_) | (with_reducible refine wp_enum ?_) | (with_reducible refine wp_yes ?_) | (with_reducible refine wp_star ?_) | (with_reducible refine wp_callV ?_) | (with_reducible refine wp_makeV ?_) | (with_reducible refine wp_meth ?_) | (with_reducible refine wp_retN ?_) | (with_reducible refine wp_cm ?_) | (with_reducible refine wp_asgG ?_) | (with_reducible refine ex_int ?_) | (with_reducible refine wp_opM ?_) | (with_reducible refine wp_prop ?_) | (with_reducible refine wp_tr ?_) | (with_reducible refine wp_bm0 ?_) | (with_reducible refine lK_rt ?_) | (((with_reducible apply ex_of); · walk_at "wop")) | (((with_reducible apply ex_fld); · rfl; · rfl; · rfl)) | (((with_reducible apply And.intro); · first | rfl | decide | (simp; done))))
section
variable {T : Tab} (hT1 : T.fs 5 = [10, 11, 12]) {al : Nat → List Nat} {n : Nat} {lo : D} {hi : Nat → Nat} {L : List Nat} {fi nh nc : Nat}
structure SL (L s : List Nat) : Prop where
  nd : s.Nodup
  sub : ∀ c ∈ s, c ∈ L
theorem SL.len {s : List Nat} (h : SL L s) : s.length ≤ L.length := h.nd.length_le_of_subset h.sub
end
end J
set_option Elab.async false
set_option linter.all false
set_option maxRecDepth 100000
set_option maxHeartbeats 1010000
/-! VE: a filling made and filled; word_within -/
namespace J
local macro_rules | `(tactic| walk_at "wop") => `(tactic| first | (with_reducible exact addD_int) | (with_reducible exact subI_int) | (with_reducible exact eqD_int) | (with_reducible exact eqD_str) | (with_reducible exact eqD_bl) | (with_reducible exact neD_int) | (with_reducible exact neD_str) | (with_reducible exact neD_bl) | (with_reducible exact ltI_int) | (with_reducible exact leI_int) | (with_reducible exact gtI_int) | (with_reducible exact geI_int) | (with_reducible exact lenD_tup) | (with_reducible exact tup_lst) | (with_reducible exact addD_str (by first | omega | (simp; done) | (simp; omega))) | (with_reducible exact lenD_str (by first | omega | (simp; done) | (simp; omega))) | (with_reducible exact lenD_lst (by first | omega | (simp; done) | (simp; omega))) | (with_reducible exact slD_str (by first | omega | (simp; done) | (simp; omega))) | (with_reducible exact addD_list (by first | omega | (simp; done) | (simp; omega))) | (with_reducible exact range1_map (S := ⟨[], 0⟩) (by first | omega | (simp; done) | (simp; omega))) | (with_reducible exact addD_tupA (by first | omega | (simp; done) | (simp; omega))) | (exact rfl))
local macro_rules | `(tactic| walk_at "wx1") => `(tactic| first | (((with_reducible apply wp_var); · rfl)) | (with_reducible refine wp_seq ?_) | (with_reducible refine sK_nx ?_) | (with_reducible refine sK_rt ?_) | (with_reducible refine dK_rt ?_) | (with_reducible refine wp_c ?_) | (with_reducible refine wp_asg ?_) | (with_reducible refine wp_par ?_) | (with_reducible refine wp_par3 ?_) | (with_reducible refine wp_ifS ?_) | (with_reducible refine wp_retS ?_) | (with_reducible refine wp_expr ?_) | (with_reducible refine wp_next ?_) | (with_reducible refine wp_op ?_) | (with_reducible refine wp_cons ?_) | (with_reducible refine wp_nil ?_) | (with_reducible refine wp_call ?_) | (with_reducible refine wp_cb ?_) | (with_reducible refine wp_tst ?_) | (with_reducible refine wp_not ?_) | (with_reducible refine wp_and ?_) | (with_reducible refine wp_or ?_) | (with_reducible refine wp_andV ?_) | (with_reducible refine wp_orV ?_) | (with_reducible refine wp_notV ?_) | (with_reducible refine wp_if ?_) | (with_reducible refine wp_tup ?_) | (with_reducible refine wp_lst ?_) | (with_reducible refine wp_lstM ?_) | (with_reducible refine wp_bm ?_) | (with_reducible refine wp_sl ?_) | (with_reducible refine wp_noP ?_) | (with_reducible refine wp_part ?_) | (with_reducible refine wp_chain ?_) | (with_reducible refine wp_fld ?_) | (with_reducible refine wp_make ?_) | (with_reducible refine wp_range ?_) | (with_reducible refine wp_items ?_) | (with_reducible refine wp_zip ?_) | (with_reducible refine wp_enum ?_) | (with_reducible refine wp_yes ?_) | (with_reducible refine wp_star ?_) | (with_reducible refine wp_callV ?_) | (with_reducible refine wp_makeV ?_) | (with_reducible refine wp_meth ?_) | (with_reducible refine wp_retN ?_) | (with_reducible refine wp_cm ?_) | (with_reducible refine wp_asgG ?_) | (with_reducible refine ex_int ?_) | (with_reducible refine wp_opM ?_) | (with_reducible refine wp_prop ?_) | (with_reducible refine wp_tr ?_) | (with_reducible refine wp_bm0 ?_) | (with_reducible refine lK_rt ?_) | (((with_reducible apply ex_of); · walk_at "wop")) | (((with_reducible apply ex_fld); · rfl; · rfl; · rfl)) | (((with_reducible apply And.intro); · first | rfl | decide | (simp; done))))
end J
set_option Elab.async false
set_option linter.all false
set_option maxRecDepth 100000
set_option maxHeartbeats 1010000
/-! VF: fill, word_within -/
namespace J
local macro_rules | `(tactic| walk_at "wop") => `(tactic| first | (with_reducible exact addD_int) | (with_reducible exact subI_int) | (with_reducible exact eqD_int) | (with_reducible exact eqD_str) | (with_reducible exact eqD_bl) | (with_reducible exact neD_int) | (with_reducible exact neD_str) | (with_reducible exact neD_bl) | (with_reducible exact ltI_int) | (with_reducible exact leI_int) | (with_reducible exact gtI_int) | (with_reducible exact geI_int) | (with_reducible exact lenD_tup) | (with_reducible exact tup_lst) | (with_reducible exact addD_str (by first | omega | (simp; done) | (simp; omega))) | (with_reducible exact lenD_str (by first | omega | (simp; done) | (simp; omega))) | (with_reducible exact lenD_lst (by first | omega | (simp; done) | (simp; omega))) | (with_reducible exact slD_str (by first | omega | (simp; done) | (simp; omega))) | (with_reducible exact addD_list (by first | omega | (simp; done) | (simp; omega))) | (with_reducible exact range1_map (S := ⟨[], 0⟩) (by first | omega | (simp; done) | (simp; omega))) | (with_reducible exact addD_tupA (by first | omega | (simp; done) | (simp; omega))) | (exact rfl))
local macro_rules | `(tactic| walk_at "wx1") => `(tactic| first | (((with_reducible apply wp_var); · rfl)) | (with_reducible refine wp_seq ?_) | (with_reducible refine sK_nx ?_) | (with_reducible refine sK_rt ?_) | (with_reducible refine dK_rt ?_) | (with_reducible refine wp_c ?_) | (with_reducible refine wp_asg ?_) | (with_reducible refine wp_par ?_) | (with_reducible refine wp_par3 ?_) | (with_reducible refine wp_ifS ?_) | (with_reducible refine wp_retS ?_) | (with_reducible refine wp_expr ?_) | (with_reducible refine wp_next ?_) | (with_reducible refine wp_op ?_) | (with_reducible refine wp_cons ?_) | (with_reducible refine wp_nil ?_) | (with_reducible refine wp_call ?_) | (with_reducible refine wp_cb ?_) | (with_reducible refine wp_tst ?_) | (with_reducible refine wp_not ?_) | (with_reducible refine wp_and ?_) | (with_reducible refine wp_or ?_) | (with_reducible refine wp_andV ?_) | (with_reducible refine wp_orV ?_) | (with_reducible refine wp_notV ?_) | (with_reducible refine wp_if ?_) | (with_reducible refine wp_tup ?_) | (with_reducible refine wp_lst ?_) | (with_reducible refine wp_lstM ?_) | (with_reducible refine wp_bm ?_) | (with_reducible refine wp_sl ?_) | (with_reducible refine wp_noP ?_) | (with_reducible refine wp_part ?_) | (with_reducible refine wp_chain ?_) | (with_reducible refine wp_fld ?_) | (with_reducible refine wp_make ?_) | (with_reducible refine wp_range ?_) | (with_reducible refine wp_items ?_) | (with_reducible refine wp_zip ?_) | (with_reducible refine wp_enum ?_) | (with_reducible refine wp_yes ?_) | (with_reducible refine wp_star ?_) | (with_reducible refine wp_callV ?_) | (with_reducible refine wp_makeV ?_) | (with_reducible refine wp_meth ?_) | (with_reducible refine wp_retN ?_) | (with_reducible refine wp_cm ?_) | (with_reducible refine wp_asgG ?_) | (with_reducible refine ex_int ?_) | (with_reducible refine wp_opM ?_) | (with_reducible refine wp_prop ?_) | (with_reducible refine wp_tr ?_) | (with_reducible refine wp_bm0 ?_) | (with_reducible refine lK_rt ?_) | (((with_reducible apply ex_of); · walk_at "wop")) | (((with_reducible apply ex_fld); · rfl; · rfl; · rfl)) | (((with_reducible apply And.intro); · first | rfl | decide | (simp; done))))
end J
set_option Elab.async false
set_option linter.all false
set_option maxRecDepth 100000
set_option maxHeartbeats 1010000
/-! VG: word_within, can_come -/
namespace J
local macro_rules | `(tactic| walk_at "wop") => `(tactic| first | (with_reducible exact addD_int) | (with_reducible exact subI_int) | (with_reducible exact eqD_int) | (with_reducible exact eqD_str) | (with_reducible exact eqD_bl) | (with_reducible exact neD_int) | (with_reducible exact neD_str) | (with_reducible exact neD_bl) | (with_reducible exact ltI_int) | (with_reducible exact leI_int) | (with_reducible exact gtI_int) | (with_reducible exact geI_int) | (with_reducible exact lenD_tup) | (with_reducible exact tup_lst) | (with_reducible exact addD_str (by first | omega | (simp; done) | (simp; omega))) | (with_reducible exact lenD_str (by first | omega | (simp; done) | (simp; omega))) | (with_reducible exact lenD_lst (by first | omega | (simp; done) | (simp; omega))) | (with_reducible exact slD_str (by first | omega | (simp; done) | (simp; omega))) | (with_reducible exact addD_list (by first | omega | (simp; done) | (simp; omega))) | (with_reducible exact range1_map (S := ⟨[], 0⟩) (by first | omega | (simp; done) | (simp; omega))) | (with_reducible exact addD_tupA (by first | omega | (simp; done) | (simp; omega))) | (exact rfl))
local macro_rules | `(tactic| walk_at "wx1") => `(tactic| first | (((with_reducible apply wp_var); · rfl)) | (with_reducible refine wp_seq ?_) | (with_reducible refine sK_nx ?_) | (with_reducible refine sK_rt ?_) | (with_reducible refine dK_rt ?_) | (with_reducible refine wp_c ?_) | (with_reducible refine wp_asg ?_) | (with_reducible refine wp_par ?_) | (with_reducible refine wp_par3 ?_) | (with_reducible refine wp_ifS ?_) | (with_reducible refine wp_retS ?_) | (with_reducible refine wp_expr ?_) | (with_reducible refine wp_next ?_) | (with_reducible refine wp_op ?_) | (with_reducible refine wp_cons ?_) | (with_reducible refine wp_nil ?_) | (with_reducible refine wp_call ?_) | (with_reducible refine wp_cb ?_) | (with_reducible refine wp_tst ?_) | (with_reducible refine wp_not ?_) | (with_reducible refine wp_and ?_) | (with_reducible refine wp_or ?_) | (with_reducible refine wp_andV ?_) | (with_reducible refine wp_orV ?_) | (with_reducible refine wp_notV ?_) | (with_reducible refine wp_if ?_) | (with_reducible refine wp_tup ?_) | (with_reducible refine wp_lst ?_) | (with_reducible refine wp_lstM ?_) | (with_reducible refine wp_bm ?_) | (with_reducible refine wp_sl ?_) | (with_reducible refine wp_noP ?_) | (with_reducible refine wp_part ?_) | (with_reducible refine wp_chain ?_) | (with_reducible refine wp_fld ?_) | (with_reducible refine wp_make ?_) | (with_reducible refine wp_range ?_) | (with_reducible refine wp_items ?_) | (with_reducible refine wp_zip ?_) | (with_reducible refine wp_enum ?_) | (with_reducible refine wp_yes ?_) | (with_reducible refine wp_star ?_) | (with_reducible refine wp_callV ?_) | (with_reducible refine wp_makeV ?_) | (with_reducible refine wp_meth ?_) | (with_reducible refine wp_retN ?_) | (with_reducible refine wp_cm ?_) | (with_reducible refine wp_asgG ?_) | (with_reducible refine ex_int ?_) | (with_reducible refine wp_opM ?_) | (with_reducible refine wp_prop ?_) | (with_reducible refine wp_tr ?_) | (with_reducible refine wp_bm0 ?_) | (with_reducible refine lK_rt ?_) | (((with_reducible apply ex_of); · walk_at "wop")) | (((with_reducible apply ex_fld); · rfl; · rfl; · rfl)) | (((with_reducible apply And.intro); · first | rfl | decide | (simp; done))))
end J
set_option Elab.async false
set_option linter.all false
set_option maxRecDepth 100000
set_option maxHeartbeats 1010000
/-! VH: draws of the first family as runs; boards, marks, can_come -/
namespace J
local macro_rules | `(tactic| walk_at "wop") => `(tactic| first | (with_reducible exact addD_int) | (with_reducible exact subI_int) | (with_reducible exact eqD_int) | (with_reducible exact eqD_str) | (with_reducible exact eqD_bl) | (with_reducible exact neD_int) | (with_reducible exact neD_str) | (with_reducible exact neD_bl) | (with_reducible exact ltI_int) | (with_reducible exact leI_int) | (with_reducible exact gtI_int) | (with_reducible exact geI_int) | (with_reducible exact lenD_tup) | (with_reducible exact tup_lst) | (with_reducible exact addD_str (by first | omega | (simp; done) | (simp; omega))) | (with_reducible exact lenD_str (by first | omega | (simp; done) | (simp; omega))) | (with_reducible exact lenD_lst (by first | omega | (simp; done) | (simp; omega))) | (with_reducible exact slD_str (by first | omega | (simp; done) | (simp; omega))) | (with_reducible exact addD_list (by first | omega | (simp; done) | (simp; omega))) | (with_reducible exact range1_map (S := ⟨[], 0⟩) (by first | omega | (simp; done) | (simp; omega))) | (with_reducible exact addD_tupA (by first | omega | (simp; done) | (simp; omega))) | (exact rfl))
local macro_rules | `(tactic| walk_at "wx1") => `(tactic| first | (((with_reducible apply wp_var); · rfl)) | (with_reducible refine wp_seq ?_) | (with_reducible refine sK_nx ?_) | (with_reducible refine sK_rt ?_) | (with_reducible refine dK_rt ?_) | (with_reducible refine wp_c ?_) | (with_reducible refine wp_asg ?_) | (with_reducible refine wp_par ?_) | (with_reducible refine wp_par3 ?_) | (with_reducible refine wp_ifS ?_) | (with_reducible refine wp_retS ?_) | (with_reducible refine wp_expr ?_) | (with_reducible refine wp_next ?_) | (with_reducible refine wp_op ?_) | (with_reducible refine wp_cons ?_) | (with_reducible refine wp_nil ?_) | (with_reducible refine wp_call ?_) | (with_reducible refine wp_cb ?_) | (with_reducible refine wp_tst ?_) | (with_reducible refine wp_not ?_) | (with_reducible refine wp_and ?_) | (with_reducible refine wp_or ?_) | (with_reducible refine wp_andV ?_) | (with_reducible refine wp_orV ?_) | (with_reducible refine wp_notV ?_) | (with_reducible refine wp_if ?_) | (with_reducible refine wp_tup ?_) | (with_reducible refine wp_lst ?_) | (with_reducible refine wp_lstM ?_) | (with_reducible refine wp_bm ?_) | (with_reducible refine wp_sl ?_) | (with_reducible refine wp_noP ?_) | (with_reducible refine wp_part ?_) | (with_reducible refine wp_chain ?_) | (with_reducible refine wp_fld ?_) | (with_reducible refine wp_make ?_) | (with_reducible refine wp_range ?_) | (with_reducible refine wp_items ?_) | (with_reducible refine wp_zip ?_) | (with_reducible refine wp_enum ?_) | (with_reducible refine wp_yes ?_) | (with_reducible refine wp_star ?_) | (with_reducible refine wp_callV ?_) | (with_reducible refine wp_makeV ?_) | (with_reducible refine wp_meth ?_) | (with_reducible refine wp_retN ?_) | (with_reducible refine wp_cm ?_) | (with_reducible refine wp_asgG ?_) | (with_reducible refine ex_int ?_) | (with_reducible refine wp_opM ?_) | (with_reducible refine wp_prop ?_) | (with_reducible refine wp_tr ?_) | (with_reducible refine wp_bm0 ?_) | (with_reducible refine lK_rt ?_) | (((with_reducible apply ex_of); · walk_at "wop")) | (((with_reducible apply ex_fld); · rfl; · rfl; · rfl)) | (((with_reducible apply And.intro); · first | rfl | decide | (simp; done))))
section
variable {S : Store} {n : Nat} {L : List (Nat × MO)} {Q : D → Store → Prop}
theorem dip_w {k : Int} (kn : Kn S n L) (hk : 0 < k := by omega) (hk2 : k < 1073741824 := by omega) (h : ∀ (q : Nat) (S' : Store), (q : Int) < k → Kn S' n L → Q (.int (q : Int)) S') : Wp (dDip [.ref n, .int k]) S Q := by
  obtain ⟨r, S1, e, r0, r1, b, kp⟩ := dip_ok kn.bw hk hk2
  obtain ⟨q, rfl⟩ := Int.eq_ofNat_of_zero_le r0
  exact wp_ok e (h q S1 r1 (kn.kp kp b))
theorem of_w {l : List Nat} (kn : Kn S n L) (h0 : 0 < l.length) (h1 : l.length ≤ 1000) (h : ∀ (c : Nat) (S' : Store), c ∈ l → Kn S' n L → Q (.str [c]) S') : Wp (dOf [.ref n, .str l]) S Q := by
  obtain ⟨c, S1, e, hc, b, kp⟩ := of_str kn.bw h0 h1
  exact wp_ok e (h c S1 hc (kn.kp kp b))
theorem ofl_w {xs : List D} (kn : Kn S n L) (h0 : 0 < xs.length) (h1 : xs.length ≤ 1000) (h : ∀ (d : D) (S' : Store), d ∈ xs → Kn S' n L → Q d S') : Wp (dOf [.ref n, .lst xs]) S Q := by
  obtain ⟨d, S1, e, hc, b, kp⟩ := of_lst kn.bw h0 h1
  exact wp_ok e (h d S1 hc (kn.kp kp b))
theorem word_w {l : List Nat} {k : Nat} (kn : Kn S n L) (h0 : 0 < l.length) (h1 : l.length ≤ 500) (hk : k ≤ 500) (h : ∀ (w : List Nat) (S' : Store), w.length = k → (∀ c ∈ w, c ∈ l) → Kn S' n L → Q (.str w) S') : Wp (dWord [.ref n, .str l, .int (k : Int)]) S Q := by
  obtain ⟨w, S1, e, w1, w2, b, kp⟩ := word_ok kn.bw h0 h1 hk
  exact wp_ok e (h w S1 w1 w2 (kn.kp kp b))
theorem signs_w {lo hi : Int} (kn : Kn S n L) (h1 : 0 ≤ lo) (h2 : lo ≤ hi) (h3 : hi ≤ 26) (h : ∀ (l : List Nat) (S' : Store), Sg l → lo ≤ l.length → (l.length : Int) ≤ hi → Kn S' n L → Q (.str l) S') : Wp (dSigns [.ref n, .int lo, .int hi]) S Q := by
  obtain ⟨l, S1, e, sg, l1, l2, b, kp⟩ := signs_ok kn.bw h1 h2 h3
  exact wp_ok e (h l S1 sg l1 l2 (kn.kp kp b))
theorem board_w {T : Tab} {cs : List Nat} {tb : List (Tg × Tg × Bool)} (hT : T.fs 0 = [0, 1]) {l : List Nat} {k : Nat} (kn : Kn S n L) (sg : Sg l) (h2 : 2 ≤ l.length) (k1 : 1 ≤ k) (k2 : k ≤ 6) (h : ∀ S', Kn S' n L → Q (bd l k) S') : Wp (makeD T true 0 3 (dInit T cs tb) [.str l, .int (k : Int)]) S Q := by
  obtain ⟨S1, e, kq⟩ := make_ok T cs tb hT (S := S) (l := l) (k := (k : Int)) sg h2 (by omega) (by omega)
  exact wp_ok e (h S1 (kn.kq kq))
theorem gm_w {α : Type} {m : M α} {a : α} {Q : α → Store → Prop} (kn : Kn S n L) (g : Gm S m a) (h : ∀ S', Kn S' n L → Q a S') : Wp m S Q := wp_gm g fun S' q => h S' (kn.kq q)
end
/-! ### texts compared -/
theorem Sg.cp {l w : List Nat} (sg : Sg l) (h : ∀ c ∈ w, c ∈ l) : ∀ c ∈ w, c < 1114112 := fun c hc => by
  have := sg.abc c (h c hc)
  omega
/-! ### marks that are all hits -/
theorem repS_len (c k : Nat) : repS [c] k = List.replicate k c := by
  unfold repS
  induction k with
  | zero => rfl
  | succ k ih => rw [List.replicate_succ, List.flatten_cons, ih]; rfl
end J
set_option Elab.async false
set_option linter.all false
set_option maxRecDepth 100000
set_option maxHeartbeats 1010000
/-! VI: cuts between statements, ends -/
namespace J
section
variable {S : Store} {ρ : Rho} {QF : Fl → Store → Prop}
theorem wp_callK {n : Nat} {pm : List Nat} {f : List D → M D} {ia : IA} {Q : D → Store → Prop} (h : Wp (ia ρ) S fun xs S1 => (xs.length = n ∧ (pickL pm xs).length = pm.length) ∧ Wp (f (pickL pm xs)) S1 Q) : Wp (iCallK n pm f ia ρ) S Q :=
  wp_bind (h.imp fun _ _ ⟨e, k⟩ => by rw [if_pos e]; exact k)
theorem wp_makeK {T : Tab} {z : Bool} {c k n : Nat} {pm : List Nat} {f : List D → M D} {ia : IA} {Q : D → Store → Prop} (h : Wp (ia ρ) S fun xs S1 => (xs.length = n ∧ (pickL pm xs).length = pm.length) ∧ Wp (makeD T z c k f (pickL pm xs)) S1 Q) : Wp (iMakeK T z c k n pm f ia ρ) S Q :=
  wp_bind (h.imp fun _ _ ⟨e, k⟩ => by rw [if_pos e]; exact k)
theorem wp_methK {T : Tab} {c m n : Nat} {pm : List Nat} {f : List D → M D} {a : IE} {ia : IA} {Q : D → Store → Prop} (h : Wp (a ρ) S fun o S1 => ∃ fs, insOf T o S1 = some (c, fs) ∧ getF m fs = none ∧ Wp (ia ρ) S1 fun xs S2 => (xs.length = n ∧ (pickL pm xs).length = pm.length) ∧ Wp (f (o :: pickL pm xs)) S2 Q) : Wp (iMethK T c m n pm f a ia ρ) S Q :=
  wp_bind (h.imp fun o S1 ⟨fs, e1, e2, k⟩ => by
    obtain ⟨d, S3, e3, q⟩ := wp_bind (k.imp fun xs _ ⟨e, k⟩ => show Wp (if xs.length = n ∧ (pickL pm xs).length = pm.length then f (o :: pickL pm xs) else M.no) _ Q by rw [if_pos e]; exact k)
    refine ⟨d, S3, ?_, q⟩
    show (match insOf T o S1 with | some (c', fs) => if c' = c ∧ getF m fs = none then M.bind (ia ρ) (fun xs => if xs.length = n ∧ (pickL pm xs).length = pm.length then f (o :: pickL pm xs) else M.no) S1 else .no | none => .no) = _
    rw [e1]
    dsimp only
    rw [if_pos ⟨rfl, e2⟩]
    exact e3)
theorem run_of {f : List D → M D} {ds : List D} {d : D} (h : Wp (f ds) S fun d' _ => d' = d) : ∃ S', f ds S = .ok d S' := by
  obtain ⟨a, S', e, rfl⟩ := h
  exact ⟨S', e⟩
end
end J
set_option Elab.async false
set_option linter.all false
set_option maxRecDepth 100000
set_option maxHeartbeats 1010000
/-! VJ: all words (first family); loops over what is drawn -/
namespace J
local macro_rules | `(tactic| walk_at "wop") => `(tactic| first | (with_reducible exact addD_int) | (with_reducible exact subI_int) | (with_reducible exact eqD_int) | (with_reducible exact eqD_str) | (with_reducible exact eqD_bl) | (with_reducible exact neD_int) | (with_reducible exact neD_str) | (with_reducible exact neD_bl) | (with_reducible exact ltI_int) | (with_reducible exact leI_int) | (with_reducible exact gtI_int) | (with_reducible exact geI_int) | (with_reducible exact lenD_tup) | (with_reducible exact tup_lst) | (with_reducible exact addD_str (by first | omega | (simp; done) | (simp; omega))) | (with_reducible exact lenD_str (by first | omega | (simp; done) | (simp; omega))) | (with_reducible exact lenD_lst (by first | omega | (simp; done) | (simp; omega))) | (with_reducible exact slD_str (by first | omega | (simp; done) | (simp; omega))) | (with_reducible exact addD_list (by first | omega | (simp; done) | (simp; omega))) | (with_reducible exact range1_map (S := ⟨[], 0⟩) (by first | omega | (simp; done) | (simp; omega))) | (with_reducible exact addD_tupA (by first | omega | (simp; done) | (simp; omega))) | (exact rfl))
local macro_rules | `(tactic| walk_at "wx1") => `(tactic| first | (((with_reducible apply wp_var); · rfl)) | (with_reducible refine wp_seq ?_) | (with_reducible refine wp_callK ?_) | (with_reducible refine wp_makeK ?_) | (with_reducible refine wp_methK ?_) | (with_reducible refine sK_nx ?_) | (with_reducible refine sK_rt ?_) | (with_reducible refine dK_rt ?_) | (with_reducible refine wp_c ?_) | (with_reducible refine wp_asg ?_) | (with_reducible refine wp_par ?_) | (with_reducible refine wp_par3 ?_) | (with_reducible refine wp_ifS ?_) | (with_reducible refine wp_retS ?_) | (with_reducible refine wp_expr ?_) | (with_reducible refine wp_next ?_) | (with_reducible refine wp_op ?_) | (with_reducible refine wp_cons ?_) | (with_reducible refine wp_nil ?_) | (with_reducible refine wp_call ?_) | (with_reducible refine wp_cb ?_) | (with_reducible refine wp_tst ?_) | (with_reducible refine wp_not ?_) | (with_reducible refine wp_and ?_) | (with_reducible refine wp_or ?_) | (with_reducible refine wp_andV ?_) | (with_reducible refine wp_orV ?_) | (with_reducible refine wp_notV ?_) | (with_reducible refine wp_if ?_) | (with_reducible refine wp_tup ?_) | (with_reducible refine wp_lst ?_) | (with_reducible refine wp_lstM ?_) | (with_reducible refine wp_bm ?_) | (with_reducible refine wp_sl ?_) | (with_reducible refine wp_noP ?_) | (with_reducible refine wp_part ?_) | (with_reducible refine wp_chain ?_) | (with_reducible refine wp_fld ?_) | (with_reducible refine wp_make ?_) | (with_reducible refine wp_range ?_) | (with_reducible refine wp_items ?_) | (with_reducible refine wp_zip ?_) | (with_reducible refine wp_enum ?_) | (with_reducible refine wp_yes ?_) | (with_reducible refine wp_star ?_) | (with_reducible refine wp_callV ?_) | (with_reducible refine wp_makeV ?_) | (with_reducible refine wp_meth ?_) | (with_reducible refine wp_retN ?_) | (with_reducible refine wp_cm ?_) | (with_reducible refine wp_asgG ?_) | (with_reducible refine ex_int ?_) | (with_reducible refine wp_opM ?_) | (with_reducible refine wp_prop ?_) | (with_reducible refine wp_tr ?_) | (with_reducible refine wp_bm0 ?_) | (with_reducible refine lK_rt ?_) | (((with_reducible apply ex_of); · walk_at "wop")) | (((with_reducible apply ex_fld); · rfl; · rfl; · rfl)) | (((with_reducible apply And.intro); · first | rfl | exact ⟨rfl, rfl⟩ | decide | (simp; done))))
/-- for x in ..: what is walked is drawn -/
theorem wp_forE {γ : Type} {S : Store} {ρ0 : Rho} {QF : Fl → Store → Prop} {src : IA} {g : NG} {body : IS} (e : γ → D) (R : List γ → Prop) (is : List Nat) (I : List γ → List (Option D) → Store → Prop)
    (hs : Wp (src ρ0) S fun ys S1 => ∃ xs : List γ, ys = xs.map e ∧ R xs ∧ ∃ zs, zs.length = is.length ∧ ρ0 = updR ρ0 is zs ∧ I [] zs S1)
    (step : ∀ (xs : List γ) (x : γ) (pre : List γ) (ys : List (Option D)) (S : Store), R xs → ys.length = is.length → I pre ys S → (∃ post, xs = pre ++ x :: post) → ∃ ρ1, ngD g (e x) (updR ρ0 is ys) = some ρ1 ∧ Wp (body ρ1) S (lK ρ0 is I QF (pre ++ [x])))
    (fin : ∀ xs ys S, R xs → ys.length = is.length → I xs ys S → QF (.nx (updR ρ0 is ys)) S) : Wp (sFor src g body ρ0) S QF := by
  refine wp_sb (hs.imp fun ys S1 ⟨xs, e1, r, zs, hz, e2, hI⟩ => ?_)
  subst e1
  have := wp_forL (g := g) (body := body) (QF := QF) (xs := xs) e (fun x pre ys S => step xs x pre ys S r) (fun ys S => fin xs ys S r) xs [] zs S1 rfl hz hI
  rwa [← e2] at this
end J
set_option Elab.async false
set_option linter.all false
set_option maxRecDepth 100000
set_option maxHeartbeats 1010000
/-! VK: tables -/
namespace J
local macro_rules | `(tactic| walk_at "wop") => `(tactic| first | (with_reducible exact addD_int) | (with_reducible exact subI_int) | (with_reducible exact eqD_int) | (with_reducible exact eqD_str) | (with_reducible exact eqD_bl) | (with_reducible exact neD_int) | (with_reducible exact neD_str) | (with_reducible exact neD_bl) | (with_reducible exact ltI_int) | (with_reducible exact leI_int) | (with_reducible exact gtI_int) | (with_reducible exact geI_int) | (with_reducible exact lenD_tup) | (with_reducible exact tup_lst) | (with_reducible exact addD_str (by first | omega | (simp; done) | (simp; omega))) | (with_reducible exact lenD_str (by first | omega | (simp; done) | (simp; omega))) | (with_reducible exact lenD_lst (by first | omega | (simp; done) | (simp; omega))) | (with_reducible exact slD_str (by first | omega | (simp; done) | (simp; omega))) | (with_reducible exact addD_list (by first | omega | (simp; done) | (simp; omega))) | (with_reducible exact range1_map (S := ⟨[], 0⟩) (by first | omega | (simp; done) | (simp; omega))) | (with_reducible exact addD_tupA (by first | omega | (simp; done) | (simp; omega))) | (exact rfl))
local macro_rules | `(tactic| walk_at "wx1") => `(tactic| first | (((with_reducible apply wp_var); · rfl)) | (with_reducible refine wp_seq ?_) | (with_reducible refine wp_callK ?_) | (with_reducible refine wp_makeK ?_) | (with_reducible refine wp_methK ?_) | (with_reducible refine sK_nx ?_) | (with_reducible refine sK_rt ?_) | (with_reducible refine dK_rt ?_) | (with_reducible refine wp_c ?_) | (with_reducible refine wp_asg ?_) | (with_reducible refine wp_par ?_) | (with_reducible refine wp_par3 ?_) | (with_reducible refine wp_ifS ?_) | (with_reducible refine wp_retS ?_) | (with_reducible refine wp_expr ?_) | (with_reducible refine wp_next ?_) | (with_reducible refine wp_op ?_) | (with_reducible refine wp_cons ?_) | (with_reducible refine wp_nil ?_) | (with_reducible refine wp_call ?_) | (with_reducible refine wp_cb ?_) | (with_reducible refine wp_tst ?_) | (with_reducible refine wp_not ?_) | (with_reducible refine wp_and ?_) | (with_reducible refine wp_or ?_) | (with_reducible refine wp_andV ?_) | (with_reducible refine wp_orV ?_) | (with_reducible refine wp_notV ?_) | (with_reducible refine wp_if ?_) | (with_reducible refine wp_tup ?_) | (with_reducible refine wp_lst ?_) | (with_reducible refine wp_lstM ?_) | (with_reducible refine wp_bm ?_) | (with_reducible refine wp_sl ?_) | (with_reducible refine wp_noP ?_) | (with_reducible refine wp_part ?_) | (with_reducible refine wp_chain ?_) | (with_reducible refine wp_fld ?_) | (with_reducible refine wp_make ?_) | (with_reducible refine wp_range ?_) | (with_reducible refine wp_items ?_) | (with_reducible refine wp_zip ?_) | (with_reducible refine wp_enum ?_) | (with_reducible refine wp_yes ?_) | (with_reducible refine wp_star ?_) | (with_reducible refine wp_callV ?_) | (with_reducible refine wp_makeV ?_) | (with_reducible refine wp_meth ?_) | (with_reducible refine wp_retN ?_) | (with_reducible refine wp_cm ?_) | (with_reducible refine wp_asgG ?_) | (with_reducible refine ex_int ?_) | (with_reducible refine wp_opM ?_) | (with_reducible refine wp_prop ?_) | (with_reducible refine wp_tr ?_) | (with_reducible refine wp_bm0 ?_) | (with_reducible refine lK_rt ?_) | (((with_reducible apply ex_of); · walk_at "wop")) | (((with_reducible apply ex_fld); · rfl; · rfl; · rfl)) | (((with_reducible apply And.intro); · first | rfl | exact ⟨rfl, rfl⟩ | decide | (simp; done))))
open Classical in
/-- whether a word fits -/
noncomputable def fitB (l : List Nat) (k : Nat) (rows : List (List Nat × List Nat)) (fs : List Ft) : Bool := decide (∃ w, Fit l k rows fs w)
noncomputable def spotN (l : List Nat) (k : Nat) (rows : List (List Nat × List Nat)) (p : Nat) : List Nat := l.filter fun c => fitB l k rows [.pl true p c]
abbrev Tb := Option (List (List Nat) × List (Nat × Nat))
end J
set_option Elab.async false
set_option linter.all false
set_option maxRecDepth 100000
set_option maxHeartbeats 1010000
/-! VL: tables compared; the words that are left (first family) -/
namespace J
local macro_rules | `(tactic| walk_at "wop") => `(tactic| first | (with_reducible exact addD_int) | (with_reducible exact subI_int) | (with_reducible exact eqD_int) | (with_reducible exact eqD_str) | (with_reducible exact eqD_bl) | (with_reducible exact neD_int) | (with_reducible exact neD_str) | (with_reducible exact neD_bl) | (with_reducible exact ltI_int) | (with_reducible exact leI_int) | (with_reducible exact gtI_int) | (with_reducible exact geI_int) | (with_reducible exact lenD_tup) | (with_reducible exact tup_lst) | (with_reducible exact addD_str (by first | omega | (simp; done) | (simp; omega))) | (with_reducible exact lenD_str (by first | omega | (simp; done) | (simp; omega))) | (with_reducible exact lenD_lst (by first | omega | (simp; done) | (simp; omega))) | (with_reducible exact slD_str (by first | omega | (simp; done) | (simp; omega))) | (with_reducible exact addD_list (by first | omega | (simp; done) | (simp; omega))) | (with_reducible exact range1_map (S := ⟨[], 0⟩) (by first | omega | (simp; done) | (simp; omega))) | (with_reducible exact addD_tupA (by first | omega | (simp; done) | (simp; omega))) | (exact rfl))
local macro_rules | `(tactic| walk_at "wx1") => `(tactic| first | (((with_reducible apply wp_var); · rfl)) | (with_reducible refine wp_seq ?_) | (with_reducible refine wp_callK ?_) | (with_reducible refine wp_makeK ?_) | (with_reducible refine wp_methK ?_) | (with_reducible refine sK_nx ?_) | (with_reducible refine sK_rt ?_) | (with_reducible refine dK_rt ?_) | (with_reducible refine wp_c ?_) | (with_reducible refine wp_asg ?_) | (with_reducible refine wp_par ?_) | (with_reducible refine wp_par3 ?_) | (with_reducible refine wp_ifS ?_) | (with_reducible refine wp_retS ?_) | (with_reducible refine wp_expr ?_) | (with_reducible refine wp_next ?_) | (with_reducible refine wp_op ?_) | (with_reducible refine wp_cons ?_) | (with_reducible refine wp_nil ?_) | (with_reducible refine wp_call ?_) | (with_reducible refine wp_cb ?_) | (with_reducible refine wp_tst ?_) | (with_reducible refine wp_not ?_) | (with_reducible refine wp_and ?_) | (with_reducible refine wp_or ?_) | (with_reducible refine wp_andV ?_) | (with_reducible refine wp_orV ?_) | (with_reducible refine wp_notV ?_) | (with_reducible refine wp_if ?_) | (with_reducible refine wp_tup ?_) | (with_reducible refine wp_lst ?_) | (with_reducible refine wp_lstM ?_) | (with_reducible refine wp_bm ?_) | (with_reducible refine wp_sl ?_) | (with_reducible refine wp_noP ?_) | (with_reducible refine wp_part ?_) | (with_reducible refine wp_chain ?_) | (with_reducible refine wp_fld ?_) | (with_reducible refine wp_make ?_) | (with_reducible refine wp_range ?_) | (with_reducible refine wp_items ?_) | (with_reducible refine wp_zip ?_) | (with_reducible refine wp_enum ?_) | (with_reducible refine wp_yes ?_) | (with_reducible refine wp_star ?_) | (with_reducible refine wp_callV ?_) | (with_reducible refine wp_makeV ?_) | (with_reducible refine wp_meth ?_) | (with_reducible refine wp_retN ?_) | (with_reducible refine wp_cm ?_) | (with_reducible refine wp_asgG ?_) | (with_reducible refine ex_int ?_) | (with_reducible refine wp_opM ?_) | (with_reducible refine wp_prop ?_) | (with_reducible refine wp_tr ?_) | (with_reducible refine wp_bm0 ?_) | (with_reducible refine lK_rt ?_) | (((with_reducible apply ex_of); · walk_at "wop")) | (((with_reducible apply ex_fld); · rfl; · rfl; · rfl)) | (((with_reducible apply And.intro); · first | rfl | exact ⟨rfl, rfl⟩ | decide | (simp; done))))
end J
set_option Elab.async false
set_option linter.all false
set_option maxRecDepth 100000
set_option maxHeartbeats 1010000
/-! VN: the program's counting -/
namespace J
def isFree (T : Tab) : IS := (sRet (iAndV (iOp eqD (iOp dgetD (iFld T [5] 11 (iVar 0)) (iVar 1)) (iC (.int 0))) (iOp geI (iOp dgetD (iFld T [5] 12 (iVar 0)) (iVar 1)) (iCB lenD (iCons (iFld T [5] 10 (iVar 0)) iNil)))))
def dFree (T : Tab) : List D → M D := defJ 2 false (isFree T)
end J
set_option Elab.async false
set_option linter.all false
set_option maxRecDepth 100000
set_option maxHeartbeats 1010000
/-! VO: the dict of places -/
namespace J
end J
set_option Elab.async false
set_option linter.all false
set_option maxRecDepth 100000
set_option maxHeartbeats 1010000
/-! VP: after_letter -/
namespace J
theorem gm_wp {α : Type} {S0 : Store} {m : M α} {a : α} (h : ∀ S, Kq S0 S → Wp m S fun b S' => b = a ∧ Kq S S') : Gm S0 m a := fun S q => by
  obtain ⟨b, S', e, rfl, k⟩ := h S q
  exact ⟨S', e, k⟩
def bD (al : List (List Nat)) (l : List Nat) (lo hi : Nat → Nat) : D := bnds (.lst (al.map D.str)) (dictD l fun c => .int (lo c : Int)) (dictD l fun c => .int (hi c : Int))
end J
set_option Elab.async false
set_option linter.all false
set_option maxRecDepth 100000
set_option maxHeartbeats 1010000
/-! VQ: what after_letter keeps -/
namespace J
open Cnt
end J
set_option Elab.async false
set_option linter.all false
set_option maxRecDepth 100000
set_option maxHeartbeats 1010000
/-! VR: number_within: its parts -/
namespace J
open Cnt
section
variable {S0 : Store} (T : Tab) {al : List (List Nat)} {l : List Nat} {lo hi : Nat → Nat} {c : Nat}
def freeB (al : List (List Nat)) (lo hi : Nat → Nat) (c : Nat) : Bool := decide (lo c = 0) && decide (al.length ≤ hi c)
theorem free_ok (hT : T.fs 5 = [10, 11, 12]) (hc : c ∈ l) (ha : al.length ≤ 1000) : Gm S0 (dFree T [bD al l lo hi, .str [c]]) (.bl (freeB al lo hi c)) := by
  refine gd_def (gs_ret (gv_andV (a := decide (lo c = 0)) (b := decide (al.length ≤ hi c)) ?_ fun _ => ?_))
  · refine gv_op (gv_op (gv_lo T hT (gv_var rfl)) (gv_var rfl) fun S _ => dget_ok hc) gv_c fun S _ => ?_
    rw [eqD_int]
    congr 2
    exact decide_eq_decide.mpr ⟨fun h => by omega, fun h => by omega⟩
  · refine gv_op (gv_op (gv_hi T hT (gv_var rfl)) (gv_var rfl) fun S _ => dget_ok hc) (gv_cb1 (gv_al T hT (gv_var rfl)) fun S _ => lenD_lst (by rw [List.length_map]; omega)) fun S _ => ?_
    rw [geI_int, List.length_map]
    congr 2
    exact decide_eq_decide.mpr ⟨fun h => by omega, fun h => by omega⟩
end
end J
set_option Elab.async false
set_option linter.all false
set_option maxRecDepth 100000
set_option maxHeartbeats 1010000
/-! VS: number_within -/
namespace J
open Cnt
end J
set_option Elab.async false
set_option linter.all false
set_option maxRecDepth 100000
set_option maxHeartbeats 1010000
/-! VW: number_within gives the number of ways -/
namespace J
open Cnt
end J
set_option Elab.async false
set_option linter.all false
set_option maxRecDepth 100000
set_option maxHeartbeats 1010000
/-! VX: number_left -/
namespace J
open Cnt
end J
set_option Elab.async false
set_option linter.all false
set_option maxRecDepth 100000
set_option maxHeartbeats 1010000
/-! VY: the number of ways is the number of words that fit -/
namespace J
open Cnt
end J
set_option Elab.async false
set_option linter.all false
set_option maxRecDepth 100000
set_option maxHeartbeats 1010000
/-! VZ: draws of the counting laws -/
namespace J
def BwF (S : Store) (n : Nat) (f : Int) : Prop := n < S.next ∧ ∃ a b c : Int, S.get n = some (.lst [.int a, .int b, .int c]) ∧ 0 ≤ c ∧ c ≤ f
end J
set_option Elab.async false
set_option linter.all false
set_option maxRecDepth 100000
set_option maxHeartbeats 1010000
/-! VZa: the counting laws' draws, with lists that are being made -/
namespace J
local macro_rules | `(tactic| walk_at "wop") => `(tactic| first | (with_reducible exact addD_int) | (with_reducible exact subI_int) | (with_reducible exact eqD_int) | (with_reducible exact eqD_str) | (with_reducible exact eqD_bl) | (with_reducible exact neD_int) | (with_reducible exact neD_str) | (with_reducible exact neD_bl) | (with_reducible exact ltI_int) | (with_reducible exact leI_int) | (with_reducible exact gtI_int) | (with_reducible exact geI_int) | (with_reducible exact lenD_tup) | (with_reducible exact tup_lst) | (with_reducible exact addD_str (by first | omega | (simp; done) | (simp; omega))) | (with_reducible exact lenD_str (by first | omega | (simp; done) | (simp; omega))) | (with_reducible exact lenD_lst (by first | omega | (simp; done) | (simp; omega))) | (with_reducible exact slD_str (by first | omega | (simp; done) | (simp; omega))) | (with_reducible exact addD_list (by first | omega | (simp; done) | (simp; omega))) | (with_reducible exact range1_map (S := ⟨[], 0⟩) (by first | omega | (simp; done) | (simp; omega))) | (with_reducible exact addD_tupA (by first | omega | (simp; done) | (simp; omega))) | (exact rfl))
local macro_rules | `(tactic| walk_at "wx1") => `(tactic| first | (((with_reducible apply wp_var); · rfl)) | (with_reducible refine wp_seq ?_) | (with_reducible refine wp_callK ?_) | (with_reducible refine wp_makeK ?_) | (with_reducible refine wp_methK ?_) | (with_reducible refine sK_nx ?_) | (with_reducible refine sK_rt ?_) | (with_reducible refine dK_rt ?_) | (with_reducible refine wp_c ?_) | (with_reducible refine wp_asg ?_) | (with_reducible refine wp_par ?_) | (with_reducible refine wp_par3 ?_) | (with_reducible refine wp_ifS ?_) | (with_reducible refine wp_retS ?_) | (with_reducible refine wp_expr ?_) | (with_reducible refine wp_next ?_) | (with_reducible refine wp_op ?_) | (with_reducible refine wp_cons ?_) | (with_reducible refine wp_nil ?_) | (with_reducible refine wp_call ?_) | (with_reducible refine wp_cb ?_) | (with_reducible refine wp_tst ?_) | (with_reducible refine wp_not ?_) | (with_reducible refine wp_and ?_) | (with_reducible refine wp_or ?_) | (with_reducible refine wp_andV ?_) | (with_reducible refine wp_orV ?_) | (with_reducible refine wp_notV ?_) | (with_reducible refine wp_if ?_) | (with_reducible refine wp_tup ?_) | (with_reducible refine wp_lst ?_) | (with_reducible refine wp_lstM ?_) | (with_reducible refine wp_bm ?_) | (with_reducible refine wp_sl ?_) | (with_reducible refine wp_noP ?_) | (with_reducible refine wp_part ?_) | (with_reducible refine wp_chain ?_) | (with_reducible refine wp_fld ?_) | (with_reducible refine wp_make ?_) | (with_reducible refine wp_range ?_) | (with_reducible refine wp_items ?_) | (with_reducible refine wp_zip ?_) | (with_reducible refine wp_enum ?_) | (with_reducible refine wp_yes ?_) | (with_reducible refine wp_star ?_) | (with_reducible refine wp_callV ?_) | (with_reducible refine wp_makeV ?_) | (with_reducible refine wp_meth ?_) | (with_reducible refine wp_retN ?_) | (with_reducible refine wp_cm ?_) | (with_reducible refine wp_asgG ?_) | (with_reducible refine ex_int ?_) | (with_reducible refine wp_opM ?_) | (with_reducible refine wp_prop ?_) | (with_reducible refine wp_tr ?_) | (with_reducible refine wp_bm0 ?_) | (with_reducible refine lK_rt ?_) | (((with_reducible apply ex_of); · walk_at "wop")) | (((with_reducible apply ex_fld); · rfl; · rfl; · rfl)) | (((with_reducible apply And.intro); · first | rfl | exact ⟨rfl, rfl⟩ | decide | (simp; done))))
section
variable {S S' : Store} {n m : Nat} {f f' : Int} {o o' : MO} {L : List (Nat × MO)} {Q : D → Store → Prop}
theorem BwF.bw (h : BwF S n f) : Bw S n := let ⟨a, x, y, z, e, _⟩ := h; ⟨a, x, y, z, e⟩
theorem BwF.kq (h : BwF S n f) (q : Kq S S') : BwF S' n f := ⟨Nat.lt_of_lt_of_le h.1 q.next, by rw [q.get n h.1]; exact h.2⟩
theorem BwF.kp (h : BwF S n f) (q : Kp m S S') (hn : n ≠ m) : BwF S' n f := ⟨Nat.lt_of_lt_of_le h.1 q.next, by rw [q.get n h.1 hn]; exact h.2⟩
theorem BwF.mono (h : BwF S n f) (le : f ≤ f') : BwF S n f' := let ⟨a, x, y, z, e, c0, c1⟩ := h; ⟨a, x, y, z, e, c0, Int.le_trans c1 le⟩
/-- the well at n with at most f turns so far, and lists that are being made -/
structure KnF (S : Store) (n : Nat) (f : Int) (L : List (Nat × MO)) : Prop where
  kn : Kn S n L
  bw : BwF S n f
theorem KnF.of (h : BwF S n f) : KnF S n f [] := ⟨Kn.of h.bw, h⟩
theorem KnF.mono (k : KnF S n f L) (le : f ≤ f') : KnF S n f' L := ⟨k.kn, k.bw.mono le⟩
theorem KnF.kq (k : KnF S n f L) (q : Kq S S') : KnF S' n f L := ⟨k.kn.kq q, k.bw.kq q⟩
theorem KnF.kp (k : KnF S n f L) (q : Kp n S S') (b : BwF S' n f') : KnF S' n f' L := ⟨k.kn.kp q b.bw, b⟩
theorem KnF.new (k : KnF S n f L) : KnF (S.alloc o) n f ((S.next, o) :: L) := ⟨k.kn.new, k.bw.kq kq_alloc⟩
theorem KnF.get (k : KnF S n f ((m, o) :: L)) : S.get m = some o := k.kn.get
theorem KnF.ne (k : KnF S n f ((m, o) :: L)) : n ≠ m := Nat.ne_of_lt (k.kn.lt (m, o) (by simp)).1
theorem KnF.set (k : KnF S n f ((m, o) :: L)) : KnF (S.set m o') n f ((m, o') :: L) := ⟨k.kn.set, k.bw.kp kp_set k.ne⟩
theorem KnF.del (k : KnF S n f ((m, o) :: L)) : KnF (S.del m) n f L := ⟨k.kn.del, k.bw.1, by rw [Store.get_del, if_neg k.ne]; exact k.bw.2⟩
/-! letters -/
end
end J
set_option Elab.async false
set_option linter.all false
set_option maxRecDepth 100000
set_option maxHeartbeats 1010000
/-! VZb: the counting laws' own marks, words, words that are left, histories -/
namespace J
local macro_rules | `(tactic| walk_at "wop") => `(tactic| first | (with_reducible exact addD_int) | (with_reducible exact subI_int) | (with_reducible exact eqD_int) | (with_reducible exact eqD_str) | (with_reducible exact eqD_bl) | (with_reducible exact neD_int) | (with_reducible exact neD_str) | (with_reducible exact neD_bl) | (with_reducible exact ltI_int) | (with_reducible exact leI_int) | (with_reducible exact gtI_int) | (with_reducible exact geI_int) | (with_reducible exact lenD_tup) | (with_reducible exact tup_lst) | (with_reducible exact addD_str (by first | omega | (simp; done) | (simp; omega))) | (with_reducible exact lenD_str (by first | omega | (simp; done) | (simp; omega))) | (with_reducible exact lenD_lst (by first | omega | (simp; done) | (simp; omega))) | (with_reducible exact slD_str (by first | omega | (simp; done) | (simp; omega))) | (with_reducible exact addD_list (by first | omega | (simp; done) | (simp; omega))) | (with_reducible exact range1_map (S := ⟨[], 0⟩) (by first | omega | (simp; done) | (simp; omega))) | (with_reducible exact addD_tupA (by first | omega | (simp; done) | (simp; omega))) | (exact rfl))
local macro_rules | `(tactic| walk_at "wx1") => `(tactic| first | (((with_reducible apply wp_var); · rfl)) | (with_reducible refine wp_seq ?_) | (with_reducible refine wp_callK ?_) | (with_reducible refine wp_makeK ?_) | (with_reducible refine wp_methK ?_) | (with_reducible refine sK_nx ?_) | (with_reducible refine sK_rt ?_) | (with_reducible refine dK_rt ?_) | (with_reducible refine wp_c ?_) | (with_reducible refine wp_asg ?_) | (with_reducible refine wp_par ?_) | (with_reducible refine wp_par3 ?_) | (with_reducible refine wp_ifS ?_) | (with_reducible refine wp_retS ?_) | (with_reducible refine wp_expr ?_) | (with_reducible refine wp_next ?_) | (with_reducible refine wp_op ?_) | (with_reducible refine wp_cons ?_) | (with_reducible refine wp_nil ?_) | (with_reducible refine wp_call ?_) | (with_reducible refine wp_cb ?_) | (with_reducible refine wp_tst ?_) | (with_reducible refine wp_not ?_) | (with_reducible refine wp_and ?_) | (with_reducible refine wp_or ?_) | (with_reducible refine wp_andV ?_) | (with_reducible refine wp_orV ?_) | (with_reducible refine wp_notV ?_) | (with_reducible refine wp_if ?_) | (with_reducible refine wp_tup ?_) | (with_reducible refine wp_lst ?_) | (with_reducible refine wp_lstM ?_) | (with_reducible refine wp_bm ?_) | (with_reducible refine wp_sl ?_) | (with_reducible refine wp_noP ?_) | (with_reducible refine wp_part ?_) | (with_reducible refine wp_chain ?_) | (with_reducible refine wp_fld ?_) | (with_reducible refine wp_make ?_) | (with_reducible refine wp_range ?_) | (with_reducible refine wp_items ?_) | (with_reducible refine wp_zip ?_) | (with_reducible refine wp_enum ?_) | (with_reducible refine wp_yes ?_) | (with_reducible refine wp_star ?_) | (with_reducible refine wp_callV ?_) | (with_reducible refine wp_makeV ?_) | (with_reducible refine wp_meth ?_) | (with_reducible refine wp_retN ?_) | (with_reducible refine wp_cm ?_) | (with_reducible refine wp_asgG ?_) | (with_reducible refine ex_int ?_) | (with_reducible refine wp_opM ?_) | (with_reducible refine wp_prop ?_) | (with_reducible refine wp_tr ?_) | (with_reducible refine wp_bm0 ?_) | (with_reducible refine lK_rt ?_) | (((with_reducible apply ex_of); · walk_at "wop")) | (((with_reducible apply ex_fld); · rfl; · rfl; · rfl)) | (((with_reducible apply And.intro); · first | rfl | exact ⟨rfl, rfl⟩ | decide | (simp; done))))
theorem range_at {n x : Nat} {pre post : List Nat} (h : List.range n = pre ++ x :: post) : x = pre.length ∧ pre.length < n := by
  have h1 := congrArg List.length h
  rw [List.length_range, List.length_append, List.length_cons] at h1
  have h2 := congrArg (fun z => z[pre.length]?) h
  rw [List.getElem?_append_right (Nat.le_refl _), Nat.sub_self, List.getElem?_cons_zero, List.getElem?_range (by omega)] at h2
  exact ⟨(Option.some.inj h2).symm, by omega⟩
/-! ### words that are left -/
end J
set_option Elab.async false
set_option linter.all false
set_option maxRecDepth 100000
set_option maxHeartbeats 1010000
/-! VZc: the counting laws' rows and boards; the law over its wells -/
namespace J
local macro_rules | `(tactic| walk_at "wop") => `(tactic| first | (with_reducible exact addD_int) | (with_reducible exact subI_int) | (with_reducible exact eqD_int) | (with_reducible exact eqD_str) | (with_reducible exact eqD_bl) | (with_reducible exact neD_int) | (with_reducible exact neD_str) | (with_reducible exact neD_bl) | (with_reducible exact ltI_int) | (with_reducible exact leI_int) | (with_reducible exact gtI_int) | (with_reducible exact geI_int) | (with_reducible exact lenD_tup) | (with_reducible exact tup_lst) | (with_reducible exact addD_str (by first | omega | (simp; done) | (simp; omega))) | (with_reducible exact lenD_str (by first | omega | (simp; done) | (simp; omega))) | (with_reducible exact lenD_lst (by first | omega | (simp; done) | (simp; omega))) | (with_reducible exact slD_str (by first | omega | (simp; done) | (simp; omega))) | (with_reducible exact addD_list (by first | omega | (simp; done) | (simp; omega))) | (with_reducible exact range1_map (S := ⟨[], 0⟩) (by first | omega | (simp; done) | (simp; omega))) | (with_reducible exact addD_tupA (by first | omega | (simp; done) | (simp; omega))) | (exact rfl))
local macro_rules | `(tactic| walk_at "wx1") => `(tactic| first | (((with_reducible apply wp_var); · rfl)) | (with_reducible refine wp_seq ?_) | (with_reducible refine wp_callK ?_) | (with_reducible refine wp_makeK ?_) | (with_reducible refine wp_methK ?_) | (with_reducible refine sK_nx ?_) | (with_reducible refine sK_rt ?_) | (with_reducible refine dK_rt ?_) | (with_reducible refine wp_c ?_) | (with_reducible refine wp_asg ?_) | (with_reducible refine wp_par ?_) | (with_reducible refine wp_par3 ?_) | (with_reducible refine wp_ifS ?_) | (with_reducible refine wp_retS ?_) | (with_reducible refine wp_expr ?_) | (with_reducible refine wp_next ?_) | (with_reducible refine wp_op ?_) | (with_reducible refine wp_cons ?_) | (with_reducible refine wp_nil ?_) | (with_reducible refine wp_call ?_) | (with_reducible refine wp_cb ?_) | (with_reducible refine wp_tst ?_) | (with_reducible refine wp_not ?_) | (with_reducible refine wp_and ?_) | (with_reducible refine wp_or ?_) | (with_reducible refine wp_andV ?_) | (with_reducible refine wp_orV ?_) | (with_reducible refine wp_notV ?_) | (with_reducible refine wp_if ?_) | (with_reducible refine wp_tup ?_) | (with_reducible refine wp_lst ?_) | (with_reducible refine wp_lstM ?_) | (with_reducible refine wp_bm ?_) | (with_reducible refine wp_sl ?_) | (with_reducible refine wp_noP ?_) | (with_reducible refine wp_part ?_) | (with_reducible refine wp_chain ?_) | (with_reducible refine wp_fld ?_) | (with_reducible refine wp_make ?_) | (with_reducible refine wp_range ?_) | (with_reducible refine wp_items ?_) | (with_reducible refine wp_zip ?_) | (with_reducible refine wp_enum ?_) | (with_reducible refine wp_yes ?_) | (with_reducible refine wp_star ?_) | (with_reducible refine wp_callV ?_) | (with_reducible refine wp_makeV ?_) | (with_reducible refine wp_meth ?_) | (with_reducible refine wp_retN ?_) | (with_reducible refine wp_cm ?_) | (with_reducible refine wp_asgG ?_) | (with_reducible refine ex_int ?_) | (with_reducible refine wp_opM ?_) | (with_reducible refine wp_prop ?_) | (with_reducible refine wp_tr ?_) | (with_reducible refine wp_bm0 ?_) | (with_reducible refine lK_rt ?_) | (((with_reducible apply ex_of); · walk_at "wop")) | (((with_reducible apply ex_fld); · rfl; · rfl; · rfl)) | (((with_reducible apply And.intro); · first | rfl | exact ⟨rfl, rfl⟩ | decide | (simp; done))))
/-! ### the well -/
end J
set_option Elab.async false
set_option linter.all false
set_option maxRecDepth 100000
set_option maxHeartbeats 1010000
/-! VZd: facts drawn by the counting laws; count_with; large boards; rows of one hidden word -/
namespace J
local macro_rules | `(tactic| walk_at "wop") => `(tactic| first | (with_reducible exact addD_int) | (with_reducible exact subI_int) | (with_reducible exact eqD_int) | (with_reducible exact eqD_str) | (with_reducible exact eqD_bl) | (with_reducible exact neD_int) | (with_reducible exact neD_str) | (with_reducible exact neD_bl) | (with_reducible exact ltI_int) | (with_reducible exact leI_int) | (with_reducible exact gtI_int) | (with_reducible exact geI_int) | (with_reducible exact lenD_tup) | (with_reducible exact tup_lst) | (with_reducible exact addD_str (by first | omega | (simp; done) | (simp; omega))) | (with_reducible exact lenD_str (by first | omega | (simp; done) | (simp; omega))) | (with_reducible exact lenD_lst (by first | omega | (simp; done) | (simp; omega))) | (with_reducible exact slD_str (by first | omega | (simp; done) | (simp; omega))) | (with_reducible exact addD_list (by first | omega | (simp; done) | (simp; omega))) | (with_reducible exact range1_map (S := ⟨[], 0⟩) (by first | omega | (simp; done) | (simp; omega))) | (with_reducible exact addD_tupA (by first | omega | (simp; done) | (simp; omega))) | (exact rfl))
local macro_rules | `(tactic| walk_at "wx1") => `(tactic| first | (((with_reducible apply wp_var); · rfl)) | (with_reducible refine wp_seq ?_) | (with_reducible refine wp_callK ?_) | (with_reducible refine wp_makeK ?_) | (with_reducible refine wp_methK ?_) | (with_reducible refine sK_nx ?_) | (with_reducible refine sK_rt ?_) | (with_reducible refine dK_rt ?_) | (with_reducible refine wp_c ?_) | (with_reducible refine wp_asg ?_) | (with_reducible refine wp_par ?_) | (with_reducible refine wp_par3 ?_) | (with_reducible refine wp_ifS ?_) | (with_reducible refine wp_retS ?_) | (with_reducible refine wp_expr ?_) | (with_reducible refine wp_next ?_) | (with_reducible refine wp_op ?_) | (with_reducible refine wp_cons ?_) | (with_reducible refine wp_nil ?_) | (with_reducible refine wp_call ?_) | (with_reducible refine wp_cb ?_) | (with_reducible refine wp_tst ?_) | (with_reducible refine wp_not ?_) | (with_reducible refine wp_and ?_) | (with_reducible refine wp_or ?_) | (with_reducible refine wp_andV ?_) | (with_reducible refine wp_orV ?_) | (with_reducible refine wp_notV ?_) | (with_reducible refine wp_if ?_) | (with_reducible refine wp_tup ?_) | (with_reducible refine wp_lst ?_) | (with_reducible refine wp_lstM ?_) | (with_reducible refine wp_bm ?_) | (with_reducible refine wp_sl ?_) | (with_reducible refine wp_noP ?_) | (with_reducible refine wp_part ?_) | (with_reducible refine wp_chain ?_) | (with_reducible refine wp_fld ?_) | (with_reducible refine wp_make ?_) | (with_reducible refine wp_range ?_) | (with_reducible refine wp_items ?_) | (with_reducible refine wp_zip ?_) | (with_reducible refine wp_enum ?_) | (with_reducible refine wp_yes ?_) | (with_reducible refine wp_star ?_) | (with_reducible refine wp_callV ?_) | (with_reducible refine wp_makeV ?_) | (with_reducible refine wp_meth ?_) | (with_reducible refine wp_retN ?_) | (with_reducible refine wp_cm ?_) | (with_reducible refine wp_asgG ?_) | (with_reducible refine ex_int ?_) | (with_reducible refine wp_opM ?_) | (with_reducible refine wp_prop ?_) | (with_reducible refine wp_tr ?_) | (with_reducible refine wp_bm0 ?_) | (with_reducible refine lK_rt ?_) | (((with_reducible apply ex_of); · walk_at "wop")) | (((with_reducible apply ex_fld); · rfl; · rfl; · rfl)) | (((with_reducible apply And.intro); · first | rfl | exact ⟨rfl, rfl⟩ | decide | (simp; done))))
end J
set_option Elab.async false
set_option linter.all false
set_option maxRecDepth 100000
set_option maxHeartbeats 1010000
/-! VZe: powers, binomial numbers, the formula of one row with different letters -/
namespace J
local macro_rules | `(tactic| walk_at "wop") => `(tactic| first | (with_reducible exact addD_int) | (with_reducible exact subI_int) | (with_reducible exact eqD_int) | (with_reducible exact eqD_str) | (with_reducible exact eqD_bl) | (with_reducible exact neD_int) | (with_reducible exact neD_str) | (with_reducible exact neD_bl) | (with_reducible exact ltI_int) | (with_reducible exact leI_int) | (with_reducible exact gtI_int) | (with_reducible exact geI_int) | (with_reducible exact lenD_tup) | (with_reducible exact tup_lst) | (with_reducible exact addD_str (by first | omega | (simp; done) | (simp; omega))) | (with_reducible exact lenD_str (by first | omega | (simp; done) | (simp; omega))) | (with_reducible exact lenD_lst (by first | omega | (simp; done) | (simp; omega))) | (with_reducible exact slD_str (by first | omega | (simp; done) | (simp; omega))) | (with_reducible exact addD_list (by first | omega | (simp; done) | (simp; omega))) | (with_reducible exact range1_map (S := ⟨[], 0⟩) (by first | omega | (simp; done) | (simp; omega))) | (with_reducible exact addD_tupA (by first | omega | (simp; done) | (simp; omega))) | (exact rfl))
local macro_rules | `(tactic| walk_at "wx1") => `(tactic| first | (((with_reducible apply wp_var); · rfl)) | (with_reducible refine wp_seq ?_) | (with_reducible refine wp_callK ?_) | (with_reducible refine wp_makeK ?_) | (with_reducible refine wp_methK ?_) | (with_reducible refine sK_nx ?_) | (with_reducible refine sK_rt ?_) | (with_reducible refine dK_rt ?_) | (with_reducible refine wp_c ?_) | (with_reducible refine wp_asg ?_) | (with_reducible refine wp_par ?_) | (with_reducible refine wp_par3 ?_) | (with_reducible refine wp_ifS ?_) | (with_reducible refine wp_retS ?_) | (with_reducible refine wp_expr ?_) | (with_reducible refine wp_next ?_) | (with_reducible refine wp_op ?_) | (with_reducible refine wp_cons ?_) | (with_reducible refine wp_nil ?_) | (with_reducible refine wp_call ?_) | (with_reducible refine wp_cb ?_) | (with_reducible refine wp_tst ?_) | (with_reducible refine wp_not ?_) | (with_reducible refine wp_and ?_) | (with_reducible refine wp_or ?_) | (with_reducible refine wp_andV ?_) | (with_reducible refine wp_orV ?_) | (with_reducible refine wp_notV ?_) | (with_reducible refine wp_if ?_) | (with_reducible refine wp_tup ?_) | (with_reducible refine wp_lst ?_) | (with_reducible refine wp_lstM ?_) | (with_reducible refine wp_bm ?_) | (with_reducible refine wp_sl ?_) | (with_reducible refine wp_noP ?_) | (with_reducible refine wp_part ?_) | (with_reducible refine wp_chain ?_) | (with_reducible refine wp_fld ?_) | (with_reducible refine wp_make ?_) | (with_reducible refine wp_range ?_) | (with_reducible refine wp_items ?_) | (with_reducible refine wp_zip ?_) | (with_reducible refine wp_enum ?_) | (with_reducible refine wp_yes ?_) | (with_reducible refine wp_star ?_) | (with_reducible refine wp_callV ?_) | (with_reducible refine wp_makeV ?_) | (with_reducible refine wp_meth ?_) | (with_reducible refine wp_retN ?_) | (with_reducible refine wp_cm ?_) | (with_reducible refine wp_asgG ?_) | (with_reducible refine ex_int ?_) | (with_reducible refine wp_opM ?_) | (with_reducible refine wp_prop ?_) | (with_reducible refine wp_tr ?_) | (with_reducible refine wp_bm0 ?_) | (with_reducible refine lK_rt ?_) | (((with_reducible apply ex_of); · walk_at "wop")) | (((with_reducible apply ex_fld); · rfl; · rfl; · rfl)) | (((with_reducible apply And.intro); · first | rfl | exact ⟨rfl, rfl⟩ | decide | (simp; done))))
section
variable {S0 : Store}
def wyI (n : Int) (k : Nat) : Int := (List.range k).foldl (fun f (j : Nat) => f * (n - (j : Int)) / ((j : Int) + 1)) 1
def frT (n : Int) (a b o : Nat) : Int := (-1) ^ o * wyI a o * ((n - b - o - 1) ^ (a - o) * (n - b - o) ^ (o + b))
theorem strCount_chr {s : List Nat} {c : Nat} {S : Store} (h : s.length ≤ 1000) : strCount (.str s) [.str [c]] S = .ok (.int (s.count c : Nat)) S := rfl
end
end J
set_option Elab.async false
set_option linter.all false
set_option maxRecDepth 100000
set_option maxHeartbeats 1010000
/-! VZf: how many words give a guess of different letters its marks -/
namespace J
end J
set_option Elab.async false
set_option linter.all false
set_option maxRecDepth 100000
set_option maxHeartbeats 1010000
/-! VZg: words by their numbers, numbers of words -/
namespace J
open Cnt
local macro_rules | `(tactic| walk_at "wop") => `(tactic| first | (with_reducible exact addD_int) | (with_reducible exact subI_int) | (with_reducible exact eqD_int) | (with_reducible exact eqD_str) | (with_reducible exact eqD_bl) | (with_reducible exact neD_int) | (with_reducible exact neD_str) | (with_reducible exact neD_bl) | (with_reducible exact ltI_int) | (with_reducible exact leI_int) | (with_reducible exact gtI_int) | (with_reducible exact geI_int) | (with_reducible exact lenD_tup) | (with_reducible exact tup_lst) | (with_reducible exact addD_str (by first | omega | (simp; done) | (simp; omega))) | (with_reducible exact lenD_str (by first | omega | (simp; done) | (simp; omega))) | (with_reducible exact lenD_lst (by first | omega | (simp; done) | (simp; omega))) | (with_reducible exact slD_str (by first | omega | (simp; done) | (simp; omega))) | (with_reducible exact addD_list (by first | omega | (simp; done) | (simp; omega))) | (with_reducible exact range1_map (S := ⟨[], 0⟩) (by first | omega | (simp; done) | (simp; omega))) | (with_reducible exact addD_tupA (by first | omega | (simp; done) | (simp; omega))) | (exact rfl))
local macro_rules | `(tactic| walk_at "wx1") => `(tactic| first | (((with_reducible apply wp_var); · rfl)) | (with_reducible refine wp_seq ?_) | (with_reducible refine wp_callK ?_) | (with_reducible refine wp_makeK ?_) | (with_reducible refine wp_methK ?_) | (with_reducible refine sK_nx ?_) | (with_reducible refine sK_rt ?_) | (with_reducible refine dK_rt ?_) | (with_reducible refine wp_c ?_) | (with_reducible refine wp_asg ?_) | (with_reducible refine wp_par ?_) | (with_reducible refine wp_par3 ?_) | (with_reducible refine wp_ifS ?_) | (with_reducible refine wp_retS ?_) | (with_reducible refine wp_expr ?_) | (with_reducible refine wp_next ?_) | (with_reducible refine wp_op ?_) | (with_reducible refine wp_cons ?_) | (with_reducible refine wp_nil ?_) | (with_reducible refine wp_call ?_) | (with_reducible refine wp_cb ?_) | (with_reducible refine wp_tst ?_) | (with_reducible refine wp_not ?_) | (with_reducible refine wp_and ?_) | (with_reducible refine wp_or ?_) | (with_reducible refine wp_andV ?_) | (with_reducible refine wp_orV ?_) | (with_reducible refine wp_notV ?_) | (with_reducible refine wp_if ?_) | (with_reducible refine wp_tup ?_) | (with_reducible refine wp_lst ?_) | (with_reducible refine wp_lstM ?_) | (with_reducible refine wp_bm ?_) | (with_reducible refine wp_sl ?_) | (with_reducible refine wp_noP ?_) | (with_reducible refine wp_part ?_) | (with_reducible refine wp_chain ?_) | (with_reducible refine wp_fld ?_) | (with_reducible refine wp_make ?_) | (with_reducible refine wp_range ?_) | (with_reducible refine wp_items ?_) | (with_reducible refine wp_zip ?_) | (with_reducible refine wp_enum ?_) | (with_reducible refine wp_yes ?_) | (with_reducible refine wp_star ?_) | (with_reducible refine wp_callV ?_) | (with_reducible refine wp_makeV ?_) | (with_reducible refine wp_meth ?_) | (with_reducible refine wp_retN ?_) | (with_reducible refine wp_cm ?_) | (with_reducible refine wp_asgG ?_) | (with_reducible refine ex_int ?_) | (with_reducible refine wp_opM ?_) | (with_reducible refine wp_prop ?_) | (with_reducible refine wp_tr ?_) | (with_reducible refine wp_bm0 ?_) | (with_reducible refine lK_rt ?_) | (((with_reducible apply ex_of); · walk_at "wop")) | (((with_reducible apply ex_fld); · rfl; · rfl; · rfl)) | (((with_reducible apply And.intro); · first | rfl | exact ⟨rfl, rfl⟩ | decide | (simp; done))))
section
variable {l : List Nat} {k : Nat}
/-! ### blocks of words with a start -/
def blk (P : List Nat → Bool) (l : List Nat) (st : List Nat) (j : Nat) : List (List Nat) := ((wordsN l j).map fun w => st ++ w).filter P
end
end J
set_option Elab.async false
set_option linter.all false
set_option maxRecDepth 100000
set_option maxHeartbeats 1010000
/-! VZh: nth_word and place_of -/
namespace J
open Cnt
local macro_rules | `(tactic| walk_at "wop") => `(tactic| first | (with_reducible exact addD_int) | (with_reducible exact subI_int) | (with_reducible exact eqD_int) | (with_reducible exact eqD_str) | (with_reducible exact eqD_bl) | (with_reducible exact neD_int) | (with_reducible exact neD_str) | (with_reducible exact neD_bl) | (with_reducible exact ltI_int) | (with_reducible exact leI_int) | (with_reducible exact gtI_int) | (with_reducible exact geI_int) | (with_reducible exact lenD_tup) | (with_reducible exact tup_lst) | (with_reducible exact addD_str (by first | omega | (simp; done) | (simp; omega))) | (with_reducible exact lenD_str (by first | omega | (simp; done) | (simp; omega))) | (with_reducible exact lenD_lst (by first | omega | (simp; done) | (simp; omega))) | (with_reducible exact slD_str (by first | omega | (simp; done) | (simp; omega))) | (with_reducible exact addD_list (by first | omega | (simp; done) | (simp; omega))) | (with_reducible exact range1_map (S := ⟨[], 0⟩) (by first | omega | (simp; done) | (simp; omega))) | (with_reducible exact addD_tupA (by first | omega | (simp; done) | (simp; omega))) | (exact rfl))
local macro_rules | `(tactic| walk_at "wx1") => `(tactic| first | (((with_reducible apply wp_var); · rfl)) | (with_reducible refine wp_seq ?_) | (with_reducible refine wp_callK ?_) | (with_reducible refine wp_makeK ?_) | (with_reducible refine wp_methK ?_) | (with_reducible refine sK_nx ?_) | (with_reducible refine sK_rt ?_) | (with_reducible refine dK_rt ?_) | (with_reducible refine wp_c ?_) | (with_reducible refine wp_asg ?_) | (with_reducible refine wp_par ?_) | (with_reducible refine wp_par3 ?_) | (with_reducible refine wp_ifS ?_) | (with_reducible refine wp_retS ?_) | (with_reducible refine wp_expr ?_) | (with_reducible refine wp_next ?_) | (with_reducible refine wp_op ?_) | (with_reducible refine wp_cons ?_) | (with_reducible refine wp_nil ?_) | (with_reducible refine wp_call ?_) | (with_reducible refine wp_cb ?_) | (with_reducible refine wp_tst ?_) | (with_reducible refine wp_not ?_) | (with_reducible refine wp_and ?_) | (with_reducible refine wp_or ?_) | (with_reducible refine wp_andV ?_) | (with_reducible refine wp_orV ?_) | (with_reducible refine wp_notV ?_) | (with_reducible refine wp_if ?_) | (with_reducible refine wp_tup ?_) | (with_reducible refine wp_lst ?_) | (with_reducible refine wp_lstM ?_) | (with_reducible refine wp_bm ?_) | (with_reducible refine wp_sl ?_) | (with_reducible refine wp_noP ?_) | (with_reducible refine wp_part ?_) | (with_reducible refine wp_chain ?_) | (with_reducible refine wp_fld ?_) | (with_reducible refine wp_make ?_) | (with_reducible refine wp_range ?_) | (with_reducible refine wp_items ?_) | (with_reducible refine wp_zip ?_) | (with_reducible refine wp_enum ?_) | (with_reducible refine wp_yes ?_) | (with_reducible refine wp_star ?_) | (with_reducible refine wp_callV ?_) | (with_reducible refine wp_makeV ?_) | (with_reducible refine wp_meth ?_) | (with_reducible refine wp_retN ?_) | (with_reducible refine wp_cm ?_) | (with_reducible refine wp_asgG ?_) | (with_reducible refine ex_int ?_) | (with_reducible refine wp_opM ?_) | (with_reducible refine wp_prop ?_) | (with_reducible refine wp_tr ?_) | (with_reducible refine wp_bm0 ?_) | (with_reducible refine lK_rt ?_) | (((with_reducible apply ex_of); · walk_at "wop")) | (((with_reducible apply ex_fld); · rfl; · rfl; · rfl)) | (((with_reducible apply And.intro); · first | rfl | exact ⟨rfl, rfl⟩ | decide | (simp; done))))
end J
set_option Elab.async false
set_option linter.all false
set_option maxRecDepth 100000
set_option maxHeartbeats 1010000
/-! VZi: counts that are known by hand -/
namespace J
/-! ### marks that are all 0, marks of one letter alone -/
end J
set_option Elab.async false
set_option linter.all false
set_option maxRecDepth 100000
set_option maxHeartbeats 1010000
/-! VZj: the numbers of copies that occur have no gaps; boards of a middle size; lists of numbers compared -/
namespace J
local macro_rules | `(tactic| walk_at "wop") => `(tactic| first | (with_reducible exact addD_int) | (with_reducible exact subI_int) | (with_reducible exact eqD_int) | (with_reducible exact eqD_str) | (with_reducible exact eqD_bl) | (with_reducible exact neD_int) | (with_reducible exact neD_str) | (with_reducible exact neD_bl) | (with_reducible exact ltI_int) | (with_reducible exact leI_int) | (with_reducible exact gtI_int) | (with_reducible exact geI_int) | (with_reducible exact lenD_tup) | (with_reducible exact tup_lst) | (with_reducible exact addD_str (by first | omega | (simp; done) | (simp; omega))) | (with_reducible exact lenD_str (by first | omega | (simp; done) | (simp; omega))) | (with_reducible exact lenD_lst (by first | omega | (simp; done) | (simp; omega))) | (with_reducible exact slD_str (by first | omega | (simp; done) | (simp; omega))) | (with_reducible exact addD_list (by first | omega | (simp; done) | (simp; omega))) | (with_reducible exact range1_map (S := ⟨[], 0⟩) (by first | omega | (simp; done) | (simp; omega))) | (with_reducible exact addD_tupA (by first | omega | (simp; done) | (simp; omega))) | (exact rfl))
local macro_rules | `(tactic| walk_at "wx1") => `(tactic| first | (((with_reducible apply wp_var); · rfl)) | (with_reducible refine wp_seq ?_) | (with_reducible refine wp_callK ?_) | (with_reducible refine wp_makeK ?_) | (with_reducible refine wp_methK ?_) | (with_reducible refine sK_nx ?_) | (with_reducible refine sK_rt ?_) | (with_reducible refine dK_rt ?_) | (with_reducible refine wp_c ?_) | (with_reducible refine wp_asg ?_) | (with_reducible refine wp_par ?_) | (with_reducible refine wp_par3 ?_) | (with_reducible refine wp_ifS ?_) | (with_reducible refine wp_retS ?_) | (with_reducible refine wp_expr ?_) | (with_reducible refine wp_next ?_) | (with_reducible refine wp_op ?_) | (with_reducible refine wp_cons ?_) | (with_reducible refine wp_nil ?_) | (with_reducible refine wp_call ?_) | (with_reducible refine wp_cb ?_) | (with_reducible refine wp_tst ?_) | (with_reducible refine wp_not ?_) | (with_reducible refine wp_and ?_) | (with_reducible refine wp_or ?_) | (with_reducible refine wp_andV ?_) | (with_reducible refine wp_orV ?_) | (with_reducible refine wp_notV ?_) | (with_reducible refine wp_if ?_) | (with_reducible refine wp_tup ?_) | (with_reducible refine wp_lst ?_) | (with_reducible refine wp_lstM ?_) | (with_reducible refine wp_bm ?_) | (with_reducible refine wp_sl ?_) | (with_reducible refine wp_noP ?_) | (with_reducible refine wp_part ?_) | (with_reducible refine wp_chain ?_) | (with_reducible refine wp_fld ?_) | (with_reducible refine wp_make ?_) | (with_reducible refine wp_range ?_) | (with_reducible refine wp_items ?_) | (with_reducible refine wp_zip ?_) | (with_reducible refine wp_enum ?_) | (with_reducible refine wp_yes ?_) | (with_reducible refine wp_star ?_) | (with_reducible refine wp_callV ?_) | (with_reducible refine wp_makeV ?_) | (with_reducible refine wp_meth ?_) | (with_reducible refine wp_retN ?_) | (with_reducible refine wp_cm ?_) | (with_reducible refine wp_asgG ?_) | (with_reducible refine ex_int ?_) | (with_reducible refine wp_opM ?_) | (with_reducible refine wp_prop ?_) | (with_reducible refine wp_tr ?_) | (with_reducible refine wp_bm0 ?_) | (with_reducible refine lK_rt ?_) | (((with_reducible apply ex_of); · walk_at "wop")) | (((with_reducible apply ex_fld); · rfl; · rfl; · rfl)) | (((with_reducible apply And.intro); · first | rfl | exact ⟨rfl, rfl⟩ | decide | (simp; done))))
end J
set_option Elab.async false
set_option linter.all false
set_option maxRecDepth 100000
set_option maxHeartbeats 1010000
/-! VZk: answers -/
namespace J
open Cnt
local macro_rules | `(tactic| walk_at "wop") => `(tactic| first | (with_reducible exact addD_int) | (with_reducible exact subI_int) | (with_reducible exact eqD_int) | (with_reducible exact eqD_str) | (with_reducible exact eqD_bl) | (with_reducible exact neD_int) | (with_reducible exact neD_str) | (with_reducible exact neD_bl) | (with_reducible exact ltI_int) | (with_reducible exact leI_int) | (with_reducible exact gtI_int) | (with_reducible exact geI_int) | (with_reducible exact lenD_tup) | (with_reducible exact tup_lst) | (with_reducible exact addD_str (by first | omega | (simp; done) | (simp; omega))) | (with_reducible exact lenD_str (by first | omega | (simp; done) | (simp; omega))) | (with_reducible exact lenD_lst (by first | omega | (simp; done) | (simp; omega))) | (with_reducible exact slD_str (by first | omega | (simp; done) | (simp; omega))) | (with_reducible exact addD_list (by first | omega | (simp; done) | (simp; omega))) | (with_reducible exact range1_map (S := ⟨[], 0⟩) (by first | omega | (simp; done) | (simp; omega))) | (with_reducible exact addD_tupA (by first | omega | (simp; done) | (simp; omega))) | (exact rfl))
local macro_rules | `(tactic| walk_at "wx1") => `(tactic| first | (((with_reducible apply wp_var); · rfl)) | (with_reducible refine wp_seq ?_) | (with_reducible refine wp_callK ?_) | (with_reducible refine wp_makeK ?_) | (with_reducible refine wp_methK ?_) | (with_reducible refine sK_nx ?_) | (with_reducible refine sK_rt ?_) | (with_reducible refine dK_rt ?_) | (with_reducible refine wp_c ?_) | (with_reducible refine wp_asg ?_) | (with_reducible refine wp_par ?_) | (with_reducible refine wp_par3 ?_) | (with_reducible refine wp_ifS ?_) | (with_reducible refine wp_retS ?_) | (with_reducible refine wp_expr ?_) | (with_reducible refine wp_next ?_) | (with_reducible refine wp_op ?_) | (with_reducible refine wp_cons ?_) | (with_reducible refine wp_nil ?_) | (with_reducible refine wp_call ?_) | (with_reducible refine wp_cb ?_) | (with_reducible refine wp_tst ?_) | (with_reducible refine wp_not ?_) | (with_reducible refine wp_and ?_) | (with_reducible refine wp_or ?_) | (with_reducible refine wp_andV ?_) | (with_reducible refine wp_orV ?_) | (with_reducible refine wp_notV ?_) | (with_reducible refine wp_if ?_) | (with_reducible refine wp_tup ?_) | (with_reducible refine wp_lst ?_) | (with_reducible refine wp_lstM ?_) | (with_reducible refine wp_bm ?_) | (with_reducible refine wp_sl ?_) | (with_reducible refine wp_noP ?_) | (with_reducible refine wp_part ?_) | (with_reducible refine wp_chain ?_) | (with_reducible refine wp_fld ?_) | (with_reducible refine wp_make ?_) | (with_reducible refine wp_range ?_) | (with_reducible refine wp_items ?_) | (with_reducible refine wp_zip ?_) | (with_reducible refine wp_enum ?_) | (with_reducible refine wp_yes ?_) | (with_reducible refine wp_star ?_) | (with_reducible refine wp_callV ?_) | (with_reducible refine wp_makeV ?_) | (with_reducible refine wp_meth ?_) | (with_reducible refine wp_retN ?_) | (with_reducible refine wp_cm ?_) | (with_reducible refine wp_asgG ?_) | (with_reducible refine ex_int ?_) | (with_reducible refine wp_opM ?_) | (with_reducible refine wp_prop ?_) | (with_reducible refine wp_tr ?_) | (with_reducible refine wp_bm0 ?_) | (with_reducible refine lK_rt ?_) | (((with_reducible apply ex_of); · walk_at "wop")) | (((with_reducible apply ex_fld); · rfl; · rfl; · rfl)) | (((with_reducible apply And.intro); · first | rfl | exact ⟨rfl, rfl⟩ | decide | (simp; done))))
end J
set_option Elab.async false
set_option linter.all false
set_option maxRecDepth 100000
set_option maxHeartbeats 1010000
/-! VZl: answers_of -/
namespace J
open Cnt
local macro_rules | `(tactic| walk_at "wop") => `(tactic| first | (with_reducible exact addD_int) | (with_reducible exact subI_int) | (with_reducible exact eqD_int) | (with_reducible exact eqD_str) | (with_reducible exact eqD_bl) | (with_reducible exact neD_int) | (with_reducible exact neD_str) | (with_reducible exact neD_bl) | (with_reducible exact ltI_int) | (with_reducible exact leI_int) | (with_reducible exact gtI_int) | (with_reducible exact geI_int) | (with_reducible exact lenD_tup) | (with_reducible exact tup_lst) | (with_reducible exact addD_str (by first | omega | (simp; done) | (simp; omega))) | (with_reducible exact lenD_str (by first | omega | (simp; done) | (simp; omega))) | (with_reducible exact lenD_lst (by first | omega | (simp; done) | (simp; omega))) | (with_reducible exact slD_str (by first | omega | (simp; done) | (simp; omega))) | (with_reducible exact addD_list (by first | omega | (simp; done) | (simp; omega))) | (with_reducible exact range1_map (S := ⟨[], 0⟩) (by first | omega | (simp; done) | (simp; omega))) | (with_reducible exact addD_tupA (by first | omega | (simp; done) | (simp; omega))) | (exact rfl))
local macro_rules | `(tactic| walk_at "wx1") => `(tactic| first | (((with_reducible apply wp_var); · rfl)) | (with_reducible refine wp_seq ?_) | (with_reducible refine wp_callK ?_) | (with_reducible refine wp_makeK ?_) | (with_reducible refine wp_methK ?_) | (with_reducible refine sK_nx ?_) | (with_reducible refine sK_rt ?_) | (with_reducible refine dK_rt ?_) | (with_reducible refine wp_c ?_) | (with_reducible refine wp_asg ?_) | (with_reducible refine wp_par ?_) | (with_reducible refine wp_par3 ?_) | (with_reducible refine wp_ifS ?_) | (with_reducible refine wp_retS ?_) | (with_reducible refine wp_expr ?_) | (with_reducible refine wp_next ?_) | (with_reducible refine wp_op ?_) | (with_reducible refine wp_cons ?_) | (with_reducible refine wp_nil ?_) | (with_reducible refine wp_call ?_) | (with_reducible refine wp_cb ?_) | (with_reducible refine wp_tst ?_) | (with_reducible refine wp_not ?_) | (with_reducible refine wp_and ?_) | (with_reducible refine wp_or ?_) | (with_reducible refine wp_andV ?_) | (with_reducible refine wp_orV ?_) | (with_reducible refine wp_notV ?_) | (with_reducible refine wp_if ?_) | (with_reducible refine wp_tup ?_) | (with_reducible refine wp_lst ?_) | (with_reducible refine wp_lstM ?_) | (with_reducible refine wp_bm ?_) | (with_reducible refine wp_sl ?_) | (with_reducible refine wp_noP ?_) | (with_reducible refine wp_part ?_) | (with_reducible refine wp_chain ?_) | (with_reducible refine wp_fld ?_) | (with_reducible refine wp_make ?_) | (with_reducible refine wp_range ?_) | (with_reducible refine wp_items ?_) | (with_reducible refine wp_zip ?_) | (with_reducible refine wp_enum ?_) | (with_reducible refine wp_yes ?_) | (with_reducible refine wp_star ?_) | (with_reducible refine wp_callV ?_) | (with_reducible refine wp_makeV ?_) | (with_reducible refine wp_meth ?_) | (with_reducible refine wp_retN ?_) | (with_reducible refine wp_cm ?_) | (with_reducible refine wp_asgG ?_) | (with_reducible refine ex_int ?_) | (with_reducible refine wp_opM ?_) | (with_reducible refine wp_prop ?_) | (with_reducible refine wp_tr ?_) | (with_reducible refine wp_bm0 ?_) | (with_reducible refine lK_rt ?_) | (((with_reducible apply ex_of); · walk_at "wop")) | (((with_reducible apply ex_fld); · rfl; · rfl; · rfl)) | (((with_reducible apply And.intro); · first | rfl | exact ⟨rfl, rfl⟩ | decide | (simp; done))))
end J
set_option Elab.async false
set_option linter.all false
set_option maxRecDepth 100000
set_option maxHeartbeats 1010000
/-! VZm: marks that are tallied -/
namespace J
open Cnt
local macro_rules | `(tactic| walk_at "wop") => `(tactic| first | (with_reducible exact addD_int) | (with_reducible exact subI_int) | (with_reducible exact eqD_int) | (with_reducible exact eqD_str) | (with_reducible exact eqD_bl) | (with_reducible exact neD_int) | (with_reducible exact neD_str) | (with_reducible exact neD_bl) | (with_reducible exact ltI_int) | (with_reducible exact leI_int) | (with_reducible exact gtI_int) | (with_reducible exact geI_int) | (with_reducible exact lenD_tup) | (with_reducible exact tup_lst) | (with_reducible exact addD_str (by first | omega | (simp; done) | (simp; omega))) | (with_reducible exact lenD_str (by first | omega | (simp; done) | (simp; omega))) | (with_reducible exact lenD_lst (by first | omega | (simp; done) | (simp; omega))) | (with_reducible exact slD_str (by first | omega | (simp; done) | (simp; omega))) | (with_reducible exact addD_list (by first | omega | (simp; done) | (simp; omega))) | (with_reducible exact range1_map (S := ⟨[], 0⟩) (by first | omega | (simp; done) | (simp; omega))) | (with_reducible exact addD_tupA (by first | omega | (simp; done) | (simp; omega))) | (exact rfl))
local macro_rules | `(tactic| walk_at "wx1") => `(tactic| first | (((with_reducible apply wp_var); · rfl)) | (with_reducible refine wp_seq ?_) | (with_reducible refine wp_callK ?_) | (with_reducible refine wp_makeK ?_) | (with_reducible refine wp_methK ?_) | (with_reducible refine sK_nx ?_) | (with_reducible refine sK_rt ?_) | (with_reducible refine dK_rt ?_) | (with_reducible refine wp_c ?_) | (with_reducible refine wp_asg ?_) | (with_reducible refine wp_par ?_) | (with_reducible refine wp_par3 ?_) | (with_reducible refine wp_ifS ?_) | (with_reducible refine wp_retS ?_) | (with_reducible refine wp_expr ?_) | (with_reducible refine wp_next ?_) | (with_reducible refine wp_op ?_) | (with_reducible refine wp_cons ?_) | (with_reducible refine wp_nil ?_) | (with_reducible refine wp_call ?_) | (with_reducible refine wp_cb ?_) | (with_reducible refine wp_tst ?_) | (with_reducible refine wp_not ?_) | (with_reducible refine wp_and ?_) | (with_reducible refine wp_or ?_) | (with_reducible refine wp_andV ?_) | (with_reducible refine wp_orV ?_) | (with_reducible refine wp_notV ?_) | (with_reducible refine wp_if ?_) | (with_reducible refine wp_tup ?_) | (with_reducible refine wp_lst ?_) | (with_reducible refine wp_lstM ?_) | (with_reducible refine wp_bm ?_) | (with_reducible refine wp_sl ?_) | (with_reducible refine wp_noP ?_) | (with_reducible refine wp_part ?_) | (with_reducible refine wp_chain ?_) | (with_reducible refine wp_fld ?_) | (with_reducible refine wp_make ?_) | (with_reducible refine wp_range ?_) | (with_reducible refine wp_items ?_) | (with_reducible refine wp_zip ?_) | (with_reducible refine wp_enum ?_) | (with_reducible refine wp_yes ?_) | (with_reducible refine wp_star ?_) | (with_reducible refine wp_callV ?_) | (with_reducible refine wp_makeV ?_) | (with_reducible refine wp_meth ?_) | (with_reducible refine wp_retN ?_) | (with_reducible refine wp_cm ?_) | (with_reducible refine wp_asgG ?_) | (with_reducible refine ex_int ?_) | (with_reducible refine wp_opM ?_) | (with_reducible refine wp_prop ?_) | (with_reducible refine wp_tr ?_) | (with_reducible refine wp_bm0 ?_) | (with_reducible refine lK_rt ?_) | (((with_reducible apply ex_of); · walk_at "wop")) | (((with_reducible apply ex_fld); · rfl; · rfl; · rfl)) | (((with_reducible apply And.intro); · first | rfl | exact ⟨rfl, rfl⟩ | decide | (simp; done))))
/-! ### words in ascending order -/
/-! ### dicts from texts to numbers -/
end J
set_option Elab.async false
set_option linter.all false
set_option maxRecDepth 100000
set_option maxHeartbeats 1010000
/-! VZn: reports -/
namespace J
open Cnt
local macro_rules | `(tactic| walk_at "wop") => `(tactic| first | (with_reducible exact addD_int) | (with_reducible exact subI_int) | (with_reducible exact eqD_int) | (with_reducible exact eqD_str) | (with_reducible exact eqD_bl) | (with_reducible exact neD_int) | (with_reducible exact neD_str) | (with_reducible exact neD_bl) | (with_reducible exact ltI_int) | (with_reducible exact leI_int) | (with_reducible exact gtI_int) | (with_reducible exact geI_int) | (with_reducible exact lenD_tup) | (with_reducible exact tup_lst) | (with_reducible exact addD_str (by first | omega | (simp; done) | (simp; omega))) | (with_reducible exact lenD_str (by first | omega | (simp; done) | (simp; omega))) | (with_reducible exact lenD_lst (by first | omega | (simp; done) | (simp; omega))) | (with_reducible exact slD_str (by first | omega | (simp; done) | (simp; omega))) | (with_reducible exact addD_list (by first | omega | (simp; done) | (simp; omega))) | (with_reducible exact range1_map (S := ⟨[], 0⟩) (by first | omega | (simp; done) | (simp; omega))) | (with_reducible exact addD_tupA (by first | omega | (simp; done) | (simp; omega))) | (exact rfl))
local macro_rules | `(tactic| walk_at "wx1") => `(tactic| first | (((with_reducible apply wp_var); · rfl)) | (with_reducible refine wp_seq ?_) | (with_reducible refine wp_callK ?_) | (with_reducible refine wp_makeK ?_) | (with_reducible refine wp_methK ?_) | (with_reducible refine sK_nx ?_) | (with_reducible refine sK_rt ?_) | (with_reducible refine dK_rt ?_) | (with_reducible refine wp_c ?_) | (with_reducible refine wp_asg ?_) | (with_reducible refine wp_par ?_) | (with_reducible refine wp_par3 ?_) | (with_reducible refine wp_ifS ?_) | (with_reducible refine wp_retS ?_) | (with_reducible refine wp_expr ?_) | (with_reducible refine wp_next ?_) | (with_reducible refine wp_op ?_) | (with_reducible refine wp_cons ?_) | (with_reducible refine wp_nil ?_) | (with_reducible refine wp_call ?_) | (with_reducible refine wp_cb ?_) | (with_reducible refine wp_tst ?_) | (with_reducible refine wp_not ?_) | (with_reducible refine wp_and ?_) | (with_reducible refine wp_or ?_) | (with_reducible refine wp_andV ?_) | (with_reducible refine wp_orV ?_) | (with_reducible refine wp_notV ?_) | (with_reducible refine wp_if ?_) | (with_reducible refine wp_tup ?_) | (with_reducible refine wp_lst ?_) | (with_reducible refine wp_lstM ?_) | (with_reducible refine wp_bm ?_) | (with_reducible refine wp_sl ?_) | (with_reducible refine wp_noP ?_) | (with_reducible refine wp_part ?_) | (with_reducible refine wp_chain ?_) | (with_reducible refine wp_fld ?_) | (with_reducible refine wp_make ?_) | (with_reducible refine wp_range ?_) | (with_reducible refine wp_items ?_) | (with_reducible refine wp_zip ?_) | (with_reducible refine wp_enum ?_) | (with_reducible refine wp_yes ?_) | (with_reducible refine wp_star ?_) | (with_reducible refine wp_callV ?_) | (with_reducible refine wp_makeV ?_) | (with_reducible refine wp_meth ?_) | (with_reducible refine wp_retN ?_) | (with_reducible refine wp_cm ?_) | (with_reducible refine wp_asgG ?_) | (with_reducible refine ex_int ?_) | (with_reducible refine wp_opM ?_) | (with_reducible refine wp_prop ?_) | (with_reducible refine wp_tr ?_) | (with_reducible refine wp_bm0 ?_) | (with_reducible refine lK_rt ?_) | (((with_reducible apply ex_of); · walk_at "wop")) | (((with_reducible apply ex_fld); · rfl; · rfl; · rfl)) | (((with_reducible apply And.intro); · first | rfl | exact ⟨rfl, rfl⟩ | decide | (simp; done))))
section
variable {S0 : Store} {ρ : Rho}
theorem enum_strs : ∀ (ws : List (List Nat)) (n : Nat), enumF n (ws.map D.str) = (List.range ws.length).map fun j => .tup [.int ((n + j : Nat) : Int), .str (ws.getD j [])]
  | [], n => rfl
  | a :: ws, n => by
    rw [List.map_cons, enumF, enum_strs ws (n + 1), List.length_cons, List.range_succ_eq_map, List.map_cons, List.map_map]
    congr 1
    refine List.map_congr_left (fun j _ => ?_)
    simp only [Function.comp_apply, List.getD_cons_succ]
    rw [show n + 1 + j = n + j.succ by omega]
theorem maxI_is : ∀ {ns : List Int} {a : Int}, a ∈ ns → (∀ x ∈ ns, x ≤ a) → maxI ns = some a
  | [], _, h, _ => by cases h
  | [n], a, h, _ => by rw [List.mem_singleton.mp h]; rfl
  | n :: m :: r, a, h, le => by
    have step : ∀ b, maxI (m :: r) = some b → maxI (n :: m :: r) = some (if n < b then b else n) := fun b e => by
      show (maxI (m :: r)).map (fun m => if n < m then m else n) = _
      rw [e]
      rfl
    have some_ : ∃ b, maxI (m :: r) = some b := by
      clear h le step
      induction r generalizing m with
      | nil => exact ⟨m, rfl⟩
      | cons x r ih =>
        obtain ⟨b, e⟩ := ih x
        exact ⟨_, by show (maxI (x :: r)).map _ = _; rw [e]; rfl⟩
    obtain ⟨b, e⟩ := some_
    obtain ⟨b1, b2⟩ := maxI_ok e
    rw [step b e]
    congr 1
    have h1 := le n (by simp)
    have h2 := le b (List.mem_cons_of_mem _ b1)
    rcases List.mem_cons.mp h with rfl | h3
    · split <;> omega
    · have := b2 a h3
      split <;> omega
end
end J
set_option Elab.async false
set_option linter.all false
set_option maxRecDepth 100000
set_option maxHeartbeats 1010000
/-! VZo: answers on large boards -/
namespace J
open Cnt
local macro_rules | `(tactic| walk_at "wop") => `(tactic| first | (with_reducible exact addD_int) | (with_reducible exact subI_int) | (with_reducible exact eqD_int) | (with_reducible exact eqD_str) | (with_reducible exact eqD_bl) | (with_reducible exact neD_int) | (with_reducible exact neD_str) | (with_reducible exact neD_bl) | (with_reducible exact ltI_int) | (with_reducible exact leI_int) | (with_reducible exact gtI_int) | (with_reducible exact geI_int) | (with_reducible exact lenD_tup) | (with_reducible exact tup_lst) | (with_reducible exact addD_str (by first | omega | (simp; done) | (simp; omega))) | (with_reducible exact lenD_str (by first | omega | (simp; done) | (simp; omega))) | (with_reducible exact lenD_lst (by first | omega | (simp; done) | (simp; omega))) | (with_reducible exact slD_str (by first | omega | (simp; done) | (simp; omega))) | (with_reducible exact addD_list (by first | omega | (simp; done) | (simp; omega))) | (with_reducible exact range1_map (S := ⟨[], 0⟩) (by first | omega | (simp; done) | (simp; omega))) | (with_reducible exact addD_tupA (by first | omega | (simp; done) | (simp; omega))) | (exact rfl))
local macro_rules | `(tactic| walk_at "wx1") => `(tactic| first | (((with_reducible apply wp_var); · rfl)) | (with_reducible refine wp_seq ?_) | (with_reducible refine wp_callK ?_) | (with_reducible refine wp_makeK ?_) | (with_reducible refine wp_methK ?_) | (with_reducible refine sK_nx ?_) | (with_reducible refine sK_rt ?_) | (with_reducible refine dK_rt ?_) | (with_reducible refine wp_c ?_) | (with_reducible refine wp_asg ?_) | (with_reducible refine wp_par ?_) | (with_reducible refine wp_par3 ?_) | (with_reducible refine wp_ifS ?_) | (with_reducible refine wp_retS ?_) | (with_reducible refine wp_expr ?_) | (with_reducible refine wp_next ?_) | (with_reducible refine wp_op ?_) | (with_reducible refine wp_cons ?_) | (with_reducible refine wp_nil ?_) | (with_reducible refine wp_call ?_) | (with_reducible refine wp_cb ?_) | (with_reducible refine wp_tst ?_) | (with_reducible refine wp_not ?_) | (with_reducible refine wp_and ?_) | (with_reducible refine wp_or ?_) | (with_reducible refine wp_andV ?_) | (with_reducible refine wp_orV ?_) | (with_reducible refine wp_notV ?_) | (with_reducible refine wp_if ?_) | (with_reducible refine wp_tup ?_) | (with_reducible refine wp_lst ?_) | (with_reducible refine wp_lstM ?_) | (with_reducible refine wp_bm ?_) | (with_reducible refine wp_sl ?_) | (with_reducible refine wp_noP ?_) | (with_reducible refine wp_part ?_) | (with_reducible refine wp_chain ?_) | (with_reducible refine wp_fld ?_) | (with_reducible refine wp_make ?_) | (with_reducible refine wp_range ?_) | (with_reducible refine wp_items ?_) | (with_reducible refine wp_zip ?_) | (with_reducible refine wp_enum ?_) | (with_reducible refine wp_yes ?_) | (with_reducible refine wp_star ?_) | (with_reducible refine wp_callV ?_) | (with_reducible refine wp_makeV ?_) | (with_reducible refine wp_meth ?_) | (with_reducible refine wp_retN ?_) | (with_reducible refine wp_cm ?_) | (with_reducible refine wp_asgG ?_) | (with_reducible refine ex_int ?_) | (with_reducible refine wp_opM ?_) | (with_reducible refine wp_prop ?_) | (with_reducible refine wp_tr ?_) | (with_reducible refine wp_bm0 ?_) | (with_reducible refine lK_rt ?_) | (((with_reducible apply ex_of); · walk_at "wop")) | (((with_reducible apply ex_fld); · rfl; · rfl; · rfl)) | (((with_reducible apply And.intro); · first | rfl | exact ⟨rfl, rfl⟩ | decide | (simp; done))))
/-! ### the numbers of all marks add up -/
end J
set_option Elab.async false
set_option linter.all false
set_option maxRecDepth 100000
set_option maxHeartbeats 1010000
/-! VZp: runs that end with an error; the law's caught -/
namespace J
def Wx {α : Type} (m : M α) (S : Store) (c : Nat) (fs : List (Nat × D)) (Q : Store → Prop) : Prop := ∃ S', m S = .ex c fs S' ∧ Q S'
section
variable {α β : Type} {S : Store} {ρ : Rho} {c : Nat} {fs : List (Nat × D)} {QS : Store → Prop} {QF : Fl → Store → Prop} {Q : D → Store → Prop}
theorem Wx.imp {m : M α} {Q Q' : Store → Prop} (h : Wx m S c fs Q) (k : ∀ S', Q S' → Q' S') : Wx m S c fs Q' := let ⟨S', e, q⟩ := h; ⟨S', e, k S' q⟩
/-! ### caught -/
end
/-! ### texts of data, two of them in a tuple -/
/-! ### nth_word of what is no number -/
end J
set_option Elab.async false
set_option linter.all false
set_option maxRecDepth 100000
set_option maxHeartbeats 1010000
/-! VZq: the text of a word; place_of of a word that is not left -/
namespace J
end J
set_option Elab.async false
set_option linter.all false
set_option maxRecDepth 100000
set_option maxHeartbeats 1010000
/-! VZr: the worst of some answers -/
namespace J
local macro_rules | `(tactic| walk_at "wop") => `(tactic| first | (with_reducible exact addD_int) | (with_reducible exact subI_int) | (with_reducible exact eqD_int) | (with_reducible exact eqD_str) | (with_reducible exact eqD_bl) | (with_reducible exact neD_int) | (with_reducible exact neD_str) | (with_reducible exact neD_bl) | (with_reducible exact ltI_int) | (with_reducible exact leI_int) | (with_reducible exact gtI_int) | (with_reducible exact geI_int) | (with_reducible exact lenD_tup) | (with_reducible exact tup_lst) | (with_reducible exact addD_str (by first | omega | (simp; done) | (simp; omega))) | (with_reducible exact lenD_str (by first | omega | (simp; done) | (simp; omega))) | (with_reducible exact lenD_lst (by first | omega | (simp; done) | (simp; omega))) | (with_reducible exact slD_str (by first | omega | (simp; done) | (simp; omega))) | (with_reducible exact addD_list (by first | omega | (simp; done) | (simp; omega))) | (with_reducible exact range1_map (S := ⟨[], 0⟩) (by first | omega | (simp; done) | (simp; omega))) | (with_reducible exact addD_tupA (by first | omega | (simp; done) | (simp; omega))) | (exact rfl))
local macro_rules | `(tactic| walk_at "wx1") => `(tactic| first | (((with_reducible apply wp_var); · rfl)) | (with_reducible refine wp_seq ?_) | (with_reducible refine wp_callK ?_) | (with_reducible refine wp_makeK ?_) | (with_reducible refine wp_methK ?_) | (with_reducible refine sK_nx ?_) | (with_reducible refine sK_rt ?_) | (with_reducible refine dK_rt ?_) | (with_reducible refine wp_c ?_) | (with_reducible refine wp_asg ?_) | (with_reducible refine wp_par ?_) | (with_reducible refine wp_par3 ?_) | (with_reducible refine wp_ifS ?_) | (with_reducible refine wp_retS ?_) | (with_reducible refine wp_expr ?_) | (with_reducible refine wp_next ?_) | (with_reducible refine wp_op ?_) | (with_reducible refine wp_cons ?_) | (with_reducible refine wp_nil ?_) | (with_reducible refine wp_call ?_) | (with_reducible refine wp_cb ?_) | (with_reducible refine wp_tst ?_) | (with_reducible refine wp_not ?_) | (with_reducible refine wp_and ?_) | (with_reducible refine wp_or ?_) | (with_reducible refine wp_andV ?_) | (with_reducible refine wp_orV ?_) | (with_reducible refine wp_notV ?_) | (with_reducible refine wp_if ?_) | (with_reducible refine wp_tup ?_) | (with_reducible refine wp_lst ?_) | (with_reducible refine wp_lstM ?_) | (with_reducible refine wp_bm ?_) | (with_reducible refine wp_sl ?_) | (with_reducible refine wp_noP ?_) | (with_reducible refine wp_part ?_) | (with_reducible refine wp_chain ?_) | (with_reducible refine wp_fld ?_) | (with_reducible refine wp_make ?_) | (with_reducible refine wp_range ?_) | (with_reducible refine wp_items ?_) | (with_reducible refine wp_zip ?_) | (with_reducible refine wp_enum ?_) | (with_reducible refine wp_yes ?_) | (with_reducible refine wp_star ?_) | (with_reducible refine wp_callV ?_) | (with_reducible refine wp_makeV ?_) | (with_reducible refine wp_meth ?_) | (with_reducible refine wp_retN ?_) | (with_reducible refine wp_cm ?_) | (with_reducible refine wp_asgG ?_) | (with_reducible refine ex_int ?_) | (with_reducible refine wp_opM ?_) | (with_reducible refine wp_prop ?_) | (with_reducible refine wp_tr ?_) | (with_reducible refine wp_bm0 ?_) | (with_reducible refine lK_rt ?_) | (((with_reducible apply ex_of); · walk_at "wop")) | (((with_reducible apply ex_fld); · rfl; · rfl; · rfl)) | (((with_reducible apply And.intro); · first | rfl | exact ⟨rfl, rfl⟩ | decide | (simp; done))))
end J
set_option Elab.async false
set_option linter.all false
set_option maxRecDepth 100000
set_option maxHeartbeats 1010000
/-! VZs: texts of numbers; where a word stands among sorted ones, by its first letter -/
namespace J
end J
set_option Elab.async false
set_option linter.all false
set_option maxRecDepth 100000
set_option maxHeartbeats 1010000
/-! VZt: the best of some guesses -/
namespace J
local macro_rules | `(tactic| walk_at "wop") => `(tactic| first | (with_reducible exact addD_int) | (with_reducible exact subI_int) | (with_reducible exact eqD_int) | (with_reducible exact eqD_str) | (with_reducible exact eqD_bl) | (with_reducible exact neD_int) | (with_reducible exact neD_str) | (with_reducible exact neD_bl) | (with_reducible exact ltI_int) | (with_reducible exact leI_int) | (with_reducible exact gtI_int) | (with_reducible exact geI_int) | (with_reducible exact lenD_tup) | (with_reducible exact tup_lst) | (with_reducible exact addD_str (by first | omega | (simp; done) | (simp; omega))) | (with_reducible exact lenD_str (by first | omega | (simp; done) | (simp; omega))) | (with_reducible exact lenD_lst (by first | omega | (simp; done) | (simp; omega))) | (with_reducible exact slD_str (by first | omega | (simp; done) | (simp; omega))) | (with_reducible exact addD_list (by first | omega | (simp; done) | (simp; omega))) | (with_reducible exact range1_map (S := ⟨[], 0⟩) (by first | omega | (simp; done) | (simp; omega))) | (with_reducible exact addD_tupA (by first | omega | (simp; done) | (simp; omega))) | (exact rfl))
local macro_rules | `(tactic| walk_at "wx1") => `(tactic| first | (((with_reducible apply wp_var); · rfl)) | (with_reducible refine wp_seq ?_) | (with_reducible refine wp_callK ?_) | (with_reducible refine wp_makeK ?_) | (with_reducible refine wp_methK ?_) | (with_reducible refine sK_nx ?_) | (with_reducible refine sK_rt ?_) | (with_reducible refine dK_rt ?_) | (with_reducible refine wp_c ?_) | (with_reducible refine wp_asg ?_) | (with_reducible refine wp_par ?_) | (with_reducible refine wp_par3 ?_) | (with_reducible refine wp_ifS ?_) | (with_reducible refine wp_retS ?_) | (with_reducible refine wp_expr ?_) | (with_reducible refine wp_next ?_) | (with_reducible refine wp_op ?_) | (with_reducible refine wp_cons ?_) | (with_reducible refine wp_nil ?_) | (with_reducible refine wp_call ?_) | (with_reducible refine wp_cb ?_) | (with_reducible refine wp_tst ?_) | (with_reducible refine wp_not ?_) | (with_reducible refine wp_and ?_) | (with_reducible refine wp_or ?_) | (with_reducible refine wp_andV ?_) | (with_reducible refine wp_orV ?_) | (with_reducible refine wp_notV ?_) | (with_reducible refine wp_if ?_) | (with_reducible refine wp_tup ?_) | (with_reducible refine wp_lst ?_) | (with_reducible refine wp_lstM ?_) | (with_reducible refine wp_bm ?_) | (with_reducible refine wp_sl ?_) | (with_reducible refine wp_noP ?_) | (with_reducible refine wp_part ?_) | (with_reducible refine wp_chain ?_) | (with_reducible refine wp_fld ?_) | (with_reducible refine wp_make ?_) | (with_reducible refine wp_range ?_) | (with_reducible refine wp_items ?_) | (with_reducible refine wp_zip ?_) | (with_reducible refine wp_enum ?_) | (with_reducible refine wp_yes ?_) | (with_reducible refine wp_star ?_) | (with_reducible refine wp_callV ?_) | (with_reducible refine wp_makeV ?_) | (with_reducible refine wp_meth ?_) | (with_reducible refine wp_retN ?_) | (with_reducible refine wp_cm ?_) | (with_reducible refine wp_asgG ?_) | (with_reducible refine ex_int ?_) | (with_reducible refine wp_opM ?_) | (with_reducible refine wp_prop ?_) | (with_reducible refine wp_tr ?_) | (with_reducible refine wp_bm0 ?_) | (with_reducible refine lK_rt ?_) | (((with_reducible apply ex_of); · walk_at "wop")) | (((with_reducible apply ex_fld); · rfl; · rfl; · rfl)) | (((with_reducible apply And.intro); · first | rfl | exact ⟨rfl, rfl⟩ | decide | (simp; done))))
/-- the first of the least -/
def bF (key : List Nat → Nat) (b g : List Nat) : List Nat := if key g < key b then g else b
end J
set_option Elab.async false
set_option linter.all false
set_option maxRecDepth 100000
set_option maxHeartbeats 1010000
/-! VZu: best_guess, and the law's own best guess -/
namespace J
local macro_rules | `(tactic| walk_at "wop") => `(tactic| first | (with_reducible exact addD_int) | (with_reducible exact subI_int) | (with_reducible exact eqD_int) | (with_reducible exact eqD_str) | (with_reducible exact eqD_bl) | (with_reducible exact neD_int) | (with_reducible exact neD_str) | (with_reducible exact neD_bl) | (with_reducible exact ltI_int) | (with_reducible exact leI_int) | (with_reducible exact gtI_int) | (with_reducible exact geI_int) | (with_reducible exact lenD_tup) | (with_reducible exact tup_lst) | (with_reducible exact addD_str (by first | omega | (simp; done) | (simp; omega))) | (with_reducible exact lenD_str (by first | omega | (simp; done) | (simp; omega))) | (with_reducible exact lenD_lst (by first | omega | (simp; done) | (simp; omega))) | (with_reducible exact slD_str (by first | omega | (simp; done) | (simp; omega))) | (with_reducible exact addD_list (by first | omega | (simp; done) | (simp; omega))) | (with_reducible exact range1_map (S := ⟨[], 0⟩) (by first | omega | (simp; done) | (simp; omega))) | (with_reducible exact addD_tupA (by first | omega | (simp; done) | (simp; omega))) | (exact rfl))
local macro_rules | `(tactic| walk_at "wx1") => `(tactic| first | (((with_reducible apply wp_var); · rfl)) | (with_reducible refine wp_seq ?_) | (with_reducible refine wp_callK ?_) | (with_reducible refine wp_makeK ?_) | (with_reducible refine wp_methK ?_) | (with_reducible refine sK_nx ?_) | (with_reducible refine sK_rt ?_) | (with_reducible refine dK_rt ?_) | (with_reducible refine wp_c ?_) | (with_reducible refine wp_asg ?_) | (with_reducible refine wp_par ?_) | (with_reducible refine wp_par3 ?_) | (with_reducible refine wp_ifS ?_) | (with_reducible refine wp_retS ?_) | (with_reducible refine wp_expr ?_) | (with_reducible refine wp_next ?_) | (with_reducible refine wp_op ?_) | (with_reducible refine wp_cons ?_) | (with_reducible refine wp_nil ?_) | (with_reducible refine wp_call ?_) | (with_reducible refine wp_cb ?_) | (with_reducible refine wp_tst ?_) | (with_reducible refine wp_not ?_) | (with_reducible refine wp_and ?_) | (with_reducible refine wp_or ?_) | (with_reducible refine wp_andV ?_) | (with_reducible refine wp_orV ?_) | (with_reducible refine wp_notV ?_) | (with_reducible refine wp_if ?_) | (with_reducible refine wp_tup ?_) | (with_reducible refine wp_lst ?_) | (with_reducible refine wp_lstM ?_) | (with_reducible refine wp_bm ?_) | (with_reducible refine wp_sl ?_) | (with_reducible refine wp_noP ?_) | (with_reducible refine wp_part ?_) | (with_reducible refine wp_chain ?_) | (with_reducible refine wp_fld ?_) | (with_reducible refine wp_make ?_) | (with_reducible refine wp_range ?_) | (with_reducible refine wp_items ?_) | (with_reducible refine wp_zip ?_) | (with_reducible refine wp_enum ?_) | (with_reducible refine wp_yes ?_) | (with_reducible refine wp_star ?_) | (with_reducible refine wp_callV ?_) | (with_reducible refine wp_makeV ?_) | (with_reducible refine wp_meth ?_) | (with_reducible refine wp_retN ?_) | (with_reducible refine wp_cm ?_) | (with_reducible refine wp_asgG ?_) | (with_reducible refine ex_int ?_) | (with_reducible refine wp_opM ?_) | (with_reducible refine wp_prop ?_) | (with_reducible refine wp_tr ?_) | (with_reducible refine wp_bm0 ?_) | (with_reducible refine lK_rt ?_) | (((with_reducible apply ex_of); · walk_at "wop")) | (((with_reducible apply ex_fld); · rfl; · rfl; · rfl)) | (((with_reducible apply And.intro); · first | rfl | exact ⟨rfl, rfl⟩ | decide | (simp; done))))
theorem getD_at {gs pre : List Nat} {hs : List (List Nat)} {j : Nat} (hj : j < hs.length) : hs.getD j [] ∈ hs ∧ hs.take (j + 1) = hs.take j ++ [hs.getD j []] := by
  have e : hs.getD j [] = hs[j] := by rw [List.getD_eq_getElem?_getD, List.getElem?_eq_getElem hj]; rfl
  rw [e]
  exact ⟨List.getElem_mem hj, by rw [List.take_succ, List.getElem?_eq_getElem hj]; rfl⟩
end J
set_option Elab.async false
set_option linter.all false
set_option maxRecDepth 100000
set_option maxHeartbeats 1010000
/-! VZv: selections -/
namespace J
local macro_rules | `(tactic| walk_at "wop") => `(tactic| first | (with_reducible exact addD_int) | (with_reducible exact subI_int) | (with_reducible exact eqD_int) | (with_reducible exact eqD_str) | (with_reducible exact eqD_bl) | (with_reducible exact neD_int) | (with_reducible exact neD_str) | (with_reducible exact neD_bl) | (with_reducible exact ltI_int) | (with_reducible exact leI_int) | (with_reducible exact gtI_int) | (with_reducible exact geI_int) | (with_reducible exact lenD_tup) | (with_reducible exact tup_lst) | (with_reducible exact addD_str (by first | omega | (simp; done) | (simp; omega))) | (with_reducible exact lenD_str (by first | omega | (simp; done) | (simp; omega))) | (with_reducible exact lenD_lst (by first | omega | (simp; done) | (simp; omega))) | (with_reducible exact slD_str (by first | omega | (simp; done) | (simp; omega))) | (with_reducible exact addD_list (by first | omega | (simp; done) | (simp; omega))) | (with_reducible exact range1_map (S := ⟨[], 0⟩) (by first | omega | (simp; done) | (simp; omega))) | (with_reducible exact addD_tupA (by first | omega | (simp; done) | (simp; omega))) | (exact rfl))
local macro_rules | `(tactic| walk_at "wx1") => `(tactic| first | (((with_reducible apply wp_var); · rfl)) | (with_reducible refine wp_seq ?_) | (with_reducible refine wp_callK ?_) | (with_reducible refine wp_makeK ?_) | (with_reducible refine wp_methK ?_) | (with_reducible refine sK_nx ?_) | (with_reducible refine sK_rt ?_) | (with_reducible refine dK_rt ?_) | (with_reducible refine wp_c ?_) | (with_reducible refine wp_asg ?_) | (with_reducible refine wp_par ?_) | (with_reducible refine wp_par3 ?_) | (with_reducible refine wp_ifS ?_) | (with_reducible refine wp_retS ?_) | (with_reducible refine wp_expr ?_) | (with_reducible refine wp_next ?_) | (with_reducible refine wp_op ?_) | (with_reducible refine wp_cons ?_) | (with_reducible refine wp_nil ?_) | (with_reducible refine wp_call ?_) | (with_reducible refine wp_cb ?_) | (with_reducible refine wp_tst ?_) | (with_reducible refine wp_not ?_) | (with_reducible refine wp_and ?_) | (with_reducible refine wp_or ?_) | (with_reducible refine wp_andV ?_) | (with_reducible refine wp_orV ?_) | (with_reducible refine wp_notV ?_) | (with_reducible refine wp_if ?_) | (with_reducible refine wp_tup ?_) | (with_reducible refine wp_lst ?_) | (with_reducible refine wp_lstM ?_) | (with_reducible refine wp_bm ?_) | (with_reducible refine wp_sl ?_) | (with_reducible refine wp_noP ?_) | (with_reducible refine wp_part ?_) | (with_reducible refine wp_chain ?_) | (with_reducible refine wp_fld ?_) | (with_reducible refine wp_make ?_) | (with_reducible refine wp_range ?_) | (with_reducible refine wp_items ?_) | (with_reducible refine wp_zip ?_) | (with_reducible refine wp_enum ?_) | (with_reducible refine wp_yes ?_) | (with_reducible refine wp_star ?_) | (with_reducible refine wp_callV ?_) | (with_reducible refine wp_makeV ?_) | (with_reducible refine wp_meth ?_) | (with_reducible refine wp_retN ?_) | (with_reducible refine wp_cm ?_) | (with_reducible refine wp_asgG ?_) | (with_reducible refine ex_int ?_) | (with_reducible refine wp_opM ?_) | (with_reducible refine wp_prop ?_) | (with_reducible refine wp_tr ?_) | (with_reducible refine wp_bm0 ?_) | (with_reducible refine lK_rt ?_) | (((with_reducible apply ex_of); · walk_at "wop")) | (((with_reducible apply ex_fld); · rfl; · rfl; · rfl)) | (((with_reducible apply And.intro); · first | rfl | exact ⟨rfl, rfl⟩ | decide | (simp; done))))
end J
set_option Elab.async false
set_option linter.all false
set_option maxRecDepth 100000
set_option maxHeartbeats 1010000
/-! VZw: selections, walked -/
namespace J
local macro_rules | `(tactic| walk_at "wop") => `(tactic| first | (with_reducible exact addD_int) | (with_reducible exact subI_int) | (with_reducible exact eqD_int) | (with_reducible exact eqD_str) | (with_reducible exact eqD_bl) | (with_reducible exact neD_int) | (with_reducible exact neD_str) | (with_reducible exact neD_bl) | (with_reducible exact ltI_int) | (with_reducible exact leI_int) | (with_reducible exact gtI_int) | (with_reducible exact geI_int) | (with_reducible exact lenD_tup) | (with_reducible exact tup_lst) | (with_reducible exact addD_str (by first | omega | (simp; done) | (simp; omega))) | (with_reducible exact lenD_str (by first | omega | (simp; done) | (simp; omega))) | (with_reducible exact lenD_lst (by first | omega | (simp; done) | (simp; omega))) | (with_reducible exact slD_str (by first | omega | (simp; done) | (simp; omega))) | (with_reducible exact addD_list (by first | omega | (simp; done) | (simp; omega))) | (with_reducible exact range1_map (S := ⟨[], 0⟩) (by first | omega | (simp; done) | (simp; omega))) | (with_reducible exact addD_tupA (by first | omega | (simp; done) | (simp; omega))) | (exact rfl))
local macro_rules | `(tactic| walk_at "wx1") => `(tactic| first | (((with_reducible apply wp_var); · rfl)) | (with_reducible refine wp_seq ?_) | (with_reducible refine wp_callK ?_) | (with_reducible refine wp_makeK ?_) | (with_reducible refine wp_methK ?_) | (with_reducible refine sK_nx ?_) | (with_reducible refine sK_rt ?_) | (with_reducible refine dK_rt ?_) | (with_reducible refine wp_c ?_) | (with_reducible refine wp_asg ?_) | (with_reducible refine wp_par ?_) | (with_reducible refine wp_par3 ?_) | (with_reducible refine wp_ifS ?_) | (with_reducible refine wp_retS ?_) | (with_reducible refine wp_expr ?_) | (with_reducible refine wp_next ?_) | (with_reducible refine wp_op ?_) | (with_reducible refine wp_cons ?_) | (with_reducible refine wp_nil ?_) | (with_reducible refine wp_call ?_) | (with_reducible refine wp_cb ?_) | (with_reducible refine wp_tst ?_) | (with_reducible refine wp_not ?_) | (with_reducible refine wp_and ?_) | (with_reducible refine wp_or ?_) | (with_reducible refine wp_andV ?_) | (with_reducible refine wp_orV ?_) | (with_reducible refine wp_notV ?_) | (with_reducible refine wp_if ?_) | (with_reducible refine wp_tup ?_) | (with_reducible refine wp_lst ?_) | (with_reducible refine wp_lstM ?_) | (with_reducible refine wp_bm ?_) | (with_reducible refine wp_sl ?_) | (with_reducible refine wp_noP ?_) | (with_reducible refine wp_part ?_) | (with_reducible refine wp_chain ?_) | (with_reducible refine wp_fld ?_) | (with_reducible refine wp_make ?_) | (with_reducible refine wp_range ?_) | (with_reducible refine wp_items ?_) | (with_reducible refine wp_zip ?_) | (with_reducible refine wp_enum ?_) | (with_reducible refine wp_yes ?_) | (with_reducible refine wp_star ?_) | (with_reducible refine wp_callV ?_) | (with_reducible refine wp_makeV ?_) | (with_reducible refine wp_meth ?_) | (with_reducible refine wp_retN ?_) | (with_reducible refine wp_cm ?_) | (with_reducible refine wp_asgG ?_) | (with_reducible refine ex_int ?_) | (with_reducible refine wp_opM ?_) | (with_reducible refine wp_prop ?_) | (with_reducible refine wp_tr ?_) | (with_reducible refine wp_bm0 ?_) | (with_reducible refine lK_rt ?_) | (((with_reducible apply ex_of); · walk_at "wop")) | (((with_reducible apply ex_fld); · rfl; · rfl; · rfl)) | (((with_reducible apply And.intro); · first | rfl | exact ⟨rfl, rfl⟩ | decide | (simp; done))))
end J
set_option Elab.async false
set_option linter.all false
set_option maxRecDepth 100000
set_option maxHeartbeats 1010000
/-! VZx: is_mended, wrong_rows -/
namespace J
local macro_rules | `(tactic| walk_at "wop") => `(tactic| first | (with_reducible exact addD_int) | (with_reducible exact subI_int) | (with_reducible exact eqD_int) | (with_reducible exact eqD_str) | (with_reducible exact eqD_bl) | (with_reducible exact neD_int) | (with_reducible exact neD_str) | (with_reducible exact neD_bl) | (with_reducible exact ltI_int) | (with_reducible exact leI_int) | (with_reducible exact gtI_int) | (with_reducible exact geI_int) | (with_reducible exact lenD_tup) | (with_reducible exact tup_lst) | (with_reducible exact addD_str (by first | omega | (simp; done) | (simp; omega))) | (with_reducible exact lenD_str (by first | omega | (simp; done) | (simp; omega))) | (with_reducible exact lenD_lst (by first | omega | (simp; done) | (simp; omega))) | (with_reducible exact slD_str (by first | omega | (simp; done) | (simp; omega))) | (with_reducible exact addD_list (by first | omega | (simp; done) | (simp; omega))) | (with_reducible exact range1_map (S := ⟨[], 0⟩) (by first | omega | (simp; done) | (simp; omega))) | (with_reducible exact addD_tupA (by first | omega | (simp; done) | (simp; omega))) | (exact rfl))
local macro_rules | `(tactic| walk_at "wx1") => `(tactic| first | (((with_reducible apply wp_var); · rfl)) | (with_reducible refine wp_seq ?_) | (with_reducible refine wp_callK ?_) | (with_reducible refine wp_makeK ?_) | (with_reducible refine wp_methK ?_) | (with_reducible refine sK_nx ?_) | (with_reducible refine sK_rt ?_) | (with_reducible refine dK_rt ?_) | (with_reducible refine wp_c ?_) | (with_reducible refine wp_asg ?_) | (with_reducible refine wp_par ?_) | (with_reducible refine wp_par3 ?_) | (with_reducible refine wp_ifS ?_) | (with_reducible refine wp_retS ?_) | (with_reducible refine wp_expr ?_) | (with_reducible refine wp_next ?_) | (with_reducible refine wp_op ?_) | (with_reducible refine wp_cons ?_) | (with_reducible refine wp_nil ?_) | (with_reducible refine wp_call ?_) | (with_reducible refine wp_cb ?_) | (with_reducible refine wp_tst ?_) | (with_reducible refine wp_not ?_) | (with_reducible refine wp_and ?_) | (with_reducible refine wp_or ?_) | (with_reducible refine wp_andV ?_) | (with_reducible refine wp_orV ?_) | (with_reducible refine wp_notV ?_) | (with_reducible refine wp_if ?_) | (with_reducible refine wp_tup ?_) | (with_reducible refine wp_lst ?_) | (with_reducible refine wp_lstM ?_) | (with_reducible refine wp_bm ?_) | (with_reducible refine wp_sl ?_) | (with_reducible refine wp_noP ?_) | (with_reducible refine wp_part ?_) | (with_reducible refine wp_chain ?_) | (with_reducible refine wp_fld ?_) | (with_reducible refine wp_make ?_) | (with_reducible refine wp_range ?_) | (with_reducible refine wp_items ?_) | (with_reducible refine wp_zip ?_) | (with_reducible refine wp_enum ?_) | (with_reducible refine wp_yes ?_) | (with_reducible refine wp_star ?_) | (with_reducible refine wp_callV ?_) | (with_reducible refine wp_makeV ?_) | (with_reducible refine wp_meth ?_) | (with_reducible refine wp_retN ?_) | (with_reducible refine wp_cm ?_) | (with_reducible refine wp_asgG ?_) | (with_reducible refine ex_int ?_) | (with_reducible refine wp_opM ?_) | (with_reducible refine wp_prop ?_) | (with_reducible refine wp_tr ?_) | (with_reducible refine wp_bm0 ?_) | (with_reducible refine lK_rt ?_) | (((with_reducible apply ex_of); · walk_at "wop")) | (((with_reducible apply ex_fld); · rfl; · rfl; · rfl)) | (((with_reducible apply And.intro); · first | rfl | exact ⟨rfl, rfl⟩ | decide | (simp; done))))
end J
set_option Elab.async false
set_option linter.all false
set_option maxRecDepth 100000
set_option maxHeartbeats 1010000
/-! VZy: the shortest, then least, selection that mends: found by selections, and by words -/
namespace J
local macro_rules | `(tactic| walk_at "wop") => `(tactic| first | (with_reducible exact addD_int) | (with_reducible exact subI_int) | (with_reducible exact eqD_int) | (with_reducible exact eqD_str) | (with_reducible exact eqD_bl) | (with_reducible exact neD_int) | (with_reducible exact neD_str) | (with_reducible exact neD_bl) | (with_reducible exact ltI_int) | (with_reducible exact leI_int) | (with_reducible exact gtI_int) | (with_reducible exact geI_int) | (with_reducible exact lenD_tup) | (with_reducible exact tup_lst) | (with_reducible exact addD_str (by first | omega | (simp; done) | (simp; omega))) | (with_reducible exact lenD_str (by first | omega | (simp; done) | (simp; omega))) | (with_reducible exact lenD_lst (by first | omega | (simp; done) | (simp; omega))) | (with_reducible exact slD_str (by first | omega | (simp; done) | (simp; omega))) | (with_reducible exact addD_list (by first | omega | (simp; done) | (simp; omega))) | (with_reducible exact range1_map (S := ⟨[], 0⟩) (by first | omega | (simp; done) | (simp; omega))) | (with_reducible exact addD_tupA (by first | omega | (simp; done) | (simp; omega))) | (exact rfl))
local macro_rules | `(tactic| walk_at "wx1") => `(tactic| first | (((with_reducible apply wp_var); · rfl)) | (with_reducible refine wp_seq ?_) | (with_reducible refine wp_callK ?_) | (with_reducible refine wp_makeK ?_) | (with_reducible refine wp_methK ?_) | (with_reducible refine sK_nx ?_) | (with_reducible refine sK_rt ?_) | (with_reducible refine dK_rt ?_) | (with_reducible refine wp_c ?_) | (with_reducible refine wp_asg ?_) | (with_reducible refine wp_par ?_) | (with_reducible refine wp_par3 ?_) | (with_reducible refine wp_ifS ?_) | (with_reducible refine wp_retS ?_) | (with_reducible refine wp_expr ?_) | (with_reducible refine wp_next ?_) | (with_reducible refine wp_op ?_) | (with_reducible refine wp_cons ?_) | (with_reducible refine wp_nil ?_) | (with_reducible refine wp_call ?_) | (with_reducible refine wp_cb ?_) | (with_reducible refine wp_tst ?_) | (with_reducible refine wp_not ?_) | (with_reducible refine wp_and ?_) | (with_reducible refine wp_or ?_) | (with_reducible refine wp_andV ?_) | (with_reducible refine wp_orV ?_) | (with_reducible refine wp_notV ?_) | (with_reducible refine wp_if ?_) | (with_reducible refine wp_tup ?_) | (with_reducible refine wp_lst ?_) | (with_reducible refine wp_lstM ?_) | (with_reducible refine wp_bm ?_) | (with_reducible refine wp_sl ?_) | (with_reducible refine wp_noP ?_) | (with_reducible refine wp_part ?_) | (with_reducible refine wp_chain ?_) | (with_reducible refine wp_fld ?_) | (with_reducible refine wp_make ?_) | (with_reducible refine wp_range ?_) | (with_reducible refine wp_items ?_) | (with_reducible refine wp_zip ?_) | (with_reducible refine wp_enum ?_) | (with_reducible refine wp_yes ?_) | (with_reducible refine wp_star ?_) | (with_reducible refine wp_callV ?_) | (with_reducible refine wp_makeV ?_) | (with_reducible refine wp_meth ?_) | (with_reducible refine wp_retN ?_) | (with_reducible refine wp_cm ?_) | (with_reducible refine wp_asgG ?_) | (with_reducible refine ex_int ?_) | (with_reducible refine wp_opM ?_) | (with_reducible refine wp_prop ?_) | (with_reducible refine wp_tr ?_) | (with_reducible refine wp_bm0 ?_) | (with_reducible refine lK_rt ?_) | (((with_reducible apply ex_of); · walk_at "wop")) | (((with_reducible apply ex_fld); · rfl; · rfl; · rfl)) | (((with_reducible apply And.intro); · first | rfl | exact ⟨rfl, rfl⟩ | decide | (simp; done))))
end J
set_option Elab.async false
set_option linter.all false
set_option maxRecDepth 100000
set_option maxHeartbeats 1010000
/-! VZz: the law's own wrong rows; too many rows -/
namespace J
local macro_rules | `(tactic| walk_at "wop") => `(tactic| first | (with_reducible exact addD_int) | (with_reducible exact subI_int) | (with_reducible exact eqD_int) | (with_reducible exact eqD_str) | (with_reducible exact eqD_bl) | (with_reducible exact neD_int) | (with_reducible exact neD_str) | (with_reducible exact neD_bl) | (with_reducible exact ltI_int) | (with_reducible exact leI_int) | (with_reducible exact gtI_int) | (with_reducible exact geI_int) | (with_reducible exact lenD_tup) | (with_reducible exact tup_lst) | (with_reducible exact addD_str (by first | omega | (simp; done) | (simp; omega))) | (with_reducible exact lenD_str (by first | omega | (simp; done) | (simp; omega))) | (with_reducible exact lenD_lst (by first | omega | (simp; done) | (simp; omega))) | (with_reducible exact slD_str (by first | omega | (simp; done) | (simp; omega))) | (with_reducible exact addD_list (by first | omega | (simp; done) | (simp; omega))) | (with_reducible exact range1_map (S := ⟨[], 0⟩) (by first | omega | (simp; done) | (simp; omega))) | (with_reducible exact addD_tupA (by first | omega | (simp; done) | (simp; omega))) | (exact rfl))
local macro_rules | `(tactic| walk_at "wx1") => `(tactic| first | (((with_reducible apply wp_var); · rfl)) | (with_reducible refine wp_seq ?_) | (with_reducible refine wp_callK ?_) | (with_reducible refine wp_makeK ?_) | (with_reducible refine wp_methK ?_) | (with_reducible refine sK_nx ?_) | (with_reducible refine sK_rt ?_) | (with_reducible refine dK_rt ?_) | (with_reducible refine wp_c ?_) | (with_reducible refine wp_asg ?_) | (with_reducible refine wp_par ?_) | (with_reducible refine wp_par3 ?_) | (with_reducible refine wp_ifS ?_) | (with_reducible refine wp_retS ?_) | (with_reducible refine wp_expr ?_) | (with_reducible refine wp_next ?_) | (with_reducible refine wp_op ?_) | (with_reducible refine wp_cons ?_) | (with_reducible refine wp_nil ?_) | (with_reducible refine wp_call ?_) | (with_reducible refine wp_cb ?_) | (with_reducible refine wp_tst ?_) | (with_reducible refine wp_not ?_) | (with_reducible refine wp_and ?_) | (with_reducible refine wp_or ?_) | (with_reducible refine wp_andV ?_) | (with_reducible refine wp_orV ?_) | (with_reducible refine wp_notV ?_) | (with_reducible refine wp_if ?_) | (with_reducible refine wp_tup ?_) | (with_reducible refine wp_lst ?_) | (with_reducible refine wp_lstM ?_) | (with_reducible refine wp_bm ?_) | (with_reducible refine wp_sl ?_) | (with_reducible refine wp_noP ?_) | (with_reducible refine wp_part ?_) | (with_reducible refine wp_chain ?_) | (with_reducible refine wp_fld ?_) | (with_reducible refine wp_make ?_) | (with_reducible refine wp_range ?_) | (with_reducible refine wp_items ?_) | (with_reducible refine wp_zip ?_) | (with_reducible refine wp_enum ?_) | (with_reducible refine wp_yes ?_) | (with_reducible refine wp_star ?_) | (with_reducible refine wp_callV ?_) | (with_reducible refine wp_makeV ?_) | (with_reducible refine wp_meth ?_) | (with_reducible refine wp_retN ?_) | (with_reducible refine wp_cm ?_) | (with_reducible refine wp_asgG ?_) | (with_reducible refine ex_int ?_) | (with_reducible refine wp_opM ?_) | (with_reducible refine wp_prop ?_) | (with_reducible refine wp_tr ?_) | (with_reducible refine wp_bm0 ?_) | (with_reducible refine lK_rt ?_) | (((with_reducible apply ex_of); · walk_at "wop")) | (((with_reducible apply ex_fld); · rfl; · rfl; · rfl)) | (((with_reducible apply And.intro); · first | rfl | exact ⟨rfl, rfl⟩ | decide | (simp; done))))
end J
set_option Elab.async false
set_option linter.all false
set_option maxRecDepth 100000
set_option maxHeartbeats 1010000
/-! WA: the least selection that mends: rows less, one row more, rows that name words -/
namespace J
local macro_rules | `(tactic| walk_at "wop") => `(tactic| first | (with_reducible exact addD_int) | (with_reducible exact subI_int) | (with_reducible exact eqD_int) | (with_reducible exact eqD_str) | (with_reducible exact eqD_bl) | (with_reducible exact neD_int) | (with_reducible exact neD_str) | (with_reducible exact neD_bl) | (with_reducible exact ltI_int) | (with_reducible exact leI_int) | (with_reducible exact gtI_int) | (with_reducible exact geI_int) | (with_reducible exact lenD_tup) | (with_reducible exact tup_lst) | (with_reducible exact addD_str (by first | omega | (simp; done) | (simp; omega))) | (with_reducible exact lenD_str (by first | omega | (simp; done) | (simp; omega))) | (with_reducible exact lenD_lst (by first | omega | (simp; done) | (simp; omega))) | (with_reducible exact slD_str (by first | omega | (simp; done) | (simp; omega))) | (with_reducible exact addD_list (by first | omega | (simp; done) | (simp; omega))) | (with_reducible exact range1_map (S := ⟨[], 0⟩) (by first | omega | (simp; done) | (simp; omega))) | (with_reducible exact addD_tupA (by first | omega | (simp; done) | (simp; omega))) | (exact rfl))
local macro_rules | `(tactic| walk_at "wx1") => `(tactic| first | (((with_reducible apply wp_var); · rfl)) | (with_reducible refine wp_seq ?_) | (with_reducible refine wp_callK ?_) | (with_reducible refine wp_makeK ?_) | (with_reducible refine wp_methK ?_) | (with_reducible refine sK_nx ?_) | (with_reducible refine sK_rt ?_) | (with_reducible refine dK_rt ?_) | (with_reducible refine wp_c ?_) | (with_reducible refine wp_asg ?_) | (with_reducible refine wp_par ?_) | (with_reducible refine wp_par3 ?_) | (with_reducible refine wp_ifS ?_) | (with_reducible refine wp_retS ?_) | (with_reducible refine wp_expr ?_) | (with_reducible refine wp_next ?_) | (with_reducible refine wp_op ?_) | (with_reducible refine wp_cons ?_) | (with_reducible refine wp_nil ?_) | (with_reducible refine wp_call ?_) | (with_reducible refine wp_cb ?_) | (with_reducible refine wp_tst ?_) | (with_reducible refine wp_not ?_) | (with_reducible refine wp_and ?_) | (with_reducible refine wp_or ?_) | (with_reducible refine wp_andV ?_) | (with_reducible refine wp_orV ?_) | (with_reducible refine wp_notV ?_) | (with_reducible refine wp_if ?_) | (with_reducible refine wp_tup ?_) | (with_reducible refine wp_lst ?_) | (with_reducible refine wp_lstM ?_) | (with_reducible refine wp_bm ?_) | (with_reducible refine wp_sl ?_) | (with_reducible refine wp_noP ?_) | (with_reducible refine wp_part ?_) | (with_reducible refine wp_chain ?_) | (with_reducible refine wp_fld ?_) | (with_reducible refine wp_make ?_) | (with_reducible refine wp_range ?_) | (with_reducible refine wp_items ?_) | (with_reducible refine wp_zip ?_) | (with_reducible refine wp_enum ?_) | (with_reducible refine wp_yes ?_) | (with_reducible refine wp_star ?_) | (with_reducible refine wp_callV ?_) | (with_reducible refine wp_makeV ?_) | (with_reducible refine wp_meth ?_) | (with_reducible refine wp_retN ?_) | (with_reducible refine wp_cm ?_) | (with_reducible refine wp_asgG ?_) | (with_reducible refine ex_int ?_) | (with_reducible refine wp_opM ?_) | (with_reducible refine wp_prop ?_) | (with_reducible refine wp_tr ?_) | (with_reducible refine wp_bm0 ?_) | (with_reducible refine lK_rt ?_) | (((with_reducible apply ex_of); · walk_at "wop")) | (((with_reducible apply ex_fld); · rfl; · rfl; · rfl)) | (((with_reducible apply And.intro); · first | rfl | exact ⟨rfl, rfl⟩ | decide | (simp; done))))
end J
set_option Elab.async false
set_option linter.all false
set_option maxRecDepth 100000
set_option maxHeartbeats 1010000
/-! WB: a fact that no word has, by its number: less than none of a letter; words within, with facts out of range -/
namespace J
local macro_rules | `(tactic| walk_at "wop") => `(tactic| first | (with_reducible exact addD_int) | (with_reducible exact subI_int) | (with_reducible exact eqD_int) | (with_reducible exact eqD_str) | (with_reducible exact eqD_bl) | (with_reducible exact neD_int) | (with_reducible exact neD_str) | (with_reducible exact neD_bl) | (with_reducible exact ltI_int) | (with_reducible exact leI_int) | (with_reducible exact gtI_int) | (with_reducible exact geI_int) | (with_reducible exact lenD_tup) | (with_reducible exact tup_lst) | (with_reducible exact addD_str (by first | omega | (simp; done) | (simp; omega))) | (with_reducible exact lenD_str (by first | omega | (simp; done) | (simp; omega))) | (with_reducible exact lenD_lst (by first | omega | (simp; done) | (simp; omega))) | (with_reducible exact slD_str (by first | omega | (simp; done) | (simp; omega))) | (with_reducible exact addD_list (by first | omega | (simp; done) | (simp; omega))) | (with_reducible exact range1_map (S := ⟨[], 0⟩) (by first | omega | (simp; done) | (simp; omega))) | (with_reducible exact addD_tupA (by first | omega | (simp; done) | (simp; omega))) | (exact rfl))
local macro_rules | `(tactic| walk_at "wx1") => `(tactic| first | (((with_reducible apply wp_var); · rfl)) | (with_reducible refine wp_seq ?_) | (with_reducible refine wp_callK ?_) | (with_reducible refine wp_makeK ?_) | (with_reducible refine wp_methK ?_) | (with_reducible refine sK_nx ?_) | (with_reducible refine sK_rt ?_) | (with_reducible refine dK_rt ?_) | (with_reducible refine wp_c ?_) | (with_reducible refine wp_asg ?_) | (with_reducible refine wp_par ?_) | (with_reducible refine wp_par3 ?_) | (with_reducible refine wp_ifS ?_) | (with_reducible refine wp_retS ?_) | (with_reducible refine wp_expr ?_) | (with_reducible refine wp_next ?_) | (with_reducible refine wp_op ?_) | (with_reducible refine wp_cons ?_) | (with_reducible refine wp_nil ?_) | (with_reducible refine wp_call ?_) | (with_reducible refine wp_cb ?_) | (with_reducible refine wp_tst ?_) | (with_reducible refine wp_not ?_) | (with_reducible refine wp_and ?_) | (with_reducible refine wp_or ?_) | (with_reducible refine wp_andV ?_) | (with_reducible refine wp_orV ?_) | (with_reducible refine wp_notV ?_) | (with_reducible refine wp_if ?_) | (with_reducible refine wp_tup ?_) | (with_reducible refine wp_lst ?_) | (with_reducible refine wp_lstM ?_) | (with_reducible refine wp_bm ?_) | (with_reducible refine wp_sl ?_) | (with_reducible refine wp_noP ?_) | (with_reducible refine wp_part ?_) | (with_reducible refine wp_chain ?_) | (with_reducible refine wp_fld ?_) | (with_reducible refine wp_make ?_) | (with_reducible refine wp_range ?_) | (with_reducible refine wp_items ?_) | (with_reducible refine wp_zip ?_) | (with_reducible refine wp_enum ?_) | (with_reducible refine wp_yes ?_) | (with_reducible refine wp_star ?_) | (with_reducible refine wp_callV ?_) | (with_reducible refine wp_makeV ?_) | (with_reducible refine wp_meth ?_) | (with_reducible refine wp_retN ?_) | (with_reducible refine wp_cm ?_) | (with_reducible refine wp_asgG ?_) | (with_reducible refine ex_int ?_) | (with_reducible refine wp_opM ?_) | (with_reducible refine wp_prop ?_) | (with_reducible refine wp_tr ?_) | (with_reducible refine wp_bm0 ?_) | (with_reducible refine lK_rt ?_) | (((with_reducible apply ex_of); · walk_at "wop")) | (((with_reducible apply ex_fld); · rfl; · rfl; · rfl)) | (((with_reducible apply And.intro); · first | rfl | exact ⟨rfl, rfl⟩ | decide | (simp; done))))
end J
set_option Elab.async false
set_option linter.all false
set_option maxRecDepth 100000
set_option maxHeartbeats 1010000
/-! WC: reasons, certificates -/
namespace J
local macro_rules | `(tactic| walk_at "wop") => `(tactic| first | (with_reducible exact addD_int) | (with_reducible exact subI_int) | (with_reducible exact eqD_int) | (with_reducible exact eqD_str) | (with_reducible exact eqD_bl) | (with_reducible exact neD_int) | (with_reducible exact neD_str) | (with_reducible exact neD_bl) | (with_reducible exact ltI_int) | (with_reducible exact leI_int) | (with_reducible exact gtI_int) | (with_reducible exact geI_int) | (with_reducible exact lenD_tup) | (with_reducible exact tup_lst) | (with_reducible exact addD_str (by first | omega | (simp; done) | (simp; omega))) | (with_reducible exact lenD_str (by first | omega | (simp; done) | (simp; omega))) | (with_reducible exact lenD_lst (by first | omega | (simp; done) | (simp; omega))) | (with_reducible exact slD_str (by first | omega | (simp; done) | (simp; omega))) | (with_reducible exact addD_list (by first | omega | (simp; done) | (simp; omega))) | (with_reducible exact range1_map (S := ⟨[], 0⟩) (by first | omega | (simp; done) | (simp; omega))) | (with_reducible exact addD_tupA (by first | omega | (simp; done) | (simp; omega))) | (exact rfl))
local macro_rules | `(tactic| walk_at "wx1") => `(tactic| first | (((with_reducible apply wp_var); · rfl)) | (with_reducible refine wp_seq ?_) | (with_reducible refine wp_callK ?_) | (with_reducible refine wp_makeK ?_) | (with_reducible refine wp_methK ?_) | (with_reducible refine sK_nx ?_) | (with_reducible refine sK_rt ?_) | (with_reducible refine dK_rt ?_) | (with_reducible refine wp_c ?_) | (with_reducible refine wp_asg ?_) | (with_reducible refine wp_par ?_) | (with_reducible refine wp_par3 ?_) | (with_reducible refine wp_ifS ?_) | (with_reducible refine wp_retS ?_) | (with_reducible refine wp_expr ?_) | (with_reducible refine wp_next ?_) | (with_reducible refine wp_op ?_) | (with_reducible refine wp_cons ?_) | (with_reducible refine wp_nil ?_) | (with_reducible refine wp_call ?_) | (with_reducible refine wp_cb ?_) | (with_reducible refine wp_tst ?_) | (with_reducible refine wp_not ?_) | (with_reducible refine wp_and ?_) | (with_reducible refine wp_or ?_) | (with_reducible refine wp_andV ?_) | (with_reducible refine wp_orV ?_) | (with_reducible refine wp_notV ?_) | (with_reducible refine wp_if ?_) | (with_reducible refine wp_tup ?_) | (with_reducible refine wp_lst ?_) | (with_reducible refine wp_lstM ?_) | (with_reducible refine wp_bm ?_) | (with_reducible refine wp_sl ?_) | (with_reducible refine wp_noP ?_) | (with_reducible refine wp_part ?_) | (with_reducible refine wp_chain ?_) | (with_reducible refine wp_fld ?_) | (with_reducible refine wp_make ?_) | (with_reducible refine wp_range ?_) | (with_reducible refine wp_items ?_) | (with_reducible refine wp_zip ?_) | (with_reducible refine wp_enum ?_) | (with_reducible refine wp_yes ?_) | (with_reducible refine wp_star ?_) | (with_reducible refine wp_callV ?_) | (with_reducible refine wp_makeV ?_) | (with_reducible refine wp_meth ?_) | (with_reducible refine wp_retN ?_) | (with_reducible refine wp_cm ?_) | (with_reducible refine wp_asgG ?_) | (with_reducible refine ex_int ?_) | (with_reducible refine wp_opM ?_) | (with_reducible refine wp_prop ?_) | (with_reducible refine wp_tr ?_) | (with_reducible refine wp_bm0 ?_) | (with_reducible refine lK_rt ?_) | (((with_reducible apply ex_of); · walk_at "wop")) | (((with_reducible apply ex_fld); · rfl; · rfl; · rfl)) | (((with_reducible apply And.intro); · first | rfl | exact ⟨rfl, rfl⟩ | decide | (simp; done))))
/-! ### sets of places -/
/-! ### it shows that there is no word -/
end J
set_option Elab.async false
set_option linter.all false
set_option maxRecDepth 100000
set_option maxHeartbeats 1010000
/-! WD: drawn facts, what has them, what is possible: the bowl's laws -/
namespace J
local macro_rules | `(tactic| walk_at "wop") => `(tactic| first | (with_reducible exact addD_int) | (with_reducible exact subI_int) | (with_reducible exact eqD_int) | (with_reducible exact eqD_str) | (with_reducible exact eqD_bl) | (with_reducible exact neD_int) | (with_reducible exact neD_str) | (with_reducible exact neD_bl) | (with_reducible exact ltI_int) | (with_reducible exact leI_int) | (with_reducible exact gtI_int) | (with_reducible exact geI_int) | (with_reducible exact lenD_tup) | (with_reducible exact tup_lst) | (with_reducible exact addD_str (by first | omega | (simp; done) | (simp; omega))) | (with_reducible exact lenD_str (by first | omega | (simp; done) | (simp; omega))) | (with_reducible exact lenD_lst (by first | omega | (simp; done) | (simp; omega))) | (with_reducible exact slD_str (by first | omega | (simp; done) | (simp; omega))) | (with_reducible exact addD_list (by first | omega | (simp; done) | (simp; omega))) | (with_reducible exact range1_map (S := ⟨[], 0⟩) (by first | omega | (simp; done) | (simp; omega))) | (with_reducible exact addD_tupA (by first | omega | (simp; done) | (simp; omega))) | (exact rfl))
local macro_rules | `(tactic| walk_at "wx1") => `(tactic| first | (((with_reducible apply wp_var); · rfl)) | (with_reducible refine wp_seq ?_) | (with_reducible refine wp_callK ?_) | (with_reducible refine wp_makeK ?_) | (with_reducible refine wp_methK ?_) | (with_reducible refine sK_nx ?_) | (with_reducible refine sK_rt ?_) | (with_reducible refine dK_rt ?_) | (with_reducible refine wp_c ?_) | (with_reducible refine wp_asg ?_) | (with_reducible refine wp_par ?_) | (with_reducible refine wp_par3 ?_) | (with_reducible refine wp_ifS ?_) | (with_reducible refine wp_retS ?_) | (with_reducible refine wp_expr ?_) | (with_reducible refine wp_next ?_) | (with_reducible refine wp_op ?_) | (with_reducible refine wp_cons ?_) | (with_reducible refine wp_nil ?_) | (with_reducible refine wp_call ?_) | (with_reducible refine wp_cb ?_) | (with_reducible refine wp_tst ?_) | (with_reducible refine wp_not ?_) | (with_reducible refine wp_and ?_) | (with_reducible refine wp_or ?_) | (with_reducible refine wp_andV ?_) | (with_reducible refine wp_orV ?_) | (with_reducible refine wp_notV ?_) | (with_reducible refine wp_if ?_) | (with_reducible refine wp_tup ?_) | (with_reducible refine wp_lst ?_) | (with_reducible refine wp_lstM ?_) | (with_reducible refine wp_bm ?_) | (with_reducible refine wp_sl ?_) | (with_reducible refine wp_noP ?_) | (with_reducible refine wp_part ?_) | (with_reducible refine wp_chain ?_) | (with_reducible refine wp_fld ?_) | (with_reducible refine wp_make ?_) | (with_reducible refine wp_range ?_) | (with_reducible refine wp_items ?_) | (with_reducible refine wp_zip ?_) | (with_reducible refine wp_enum ?_) | (with_reducible refine wp_yes ?_) | (with_reducible refine wp_star ?_) | (with_reducible refine wp_callV ?_) | (with_reducible refine wp_makeV ?_) | (with_reducible refine wp_meth ?_) | (with_reducible refine wp_retN ?_) | (with_reducible refine wp_cm ?_) | (with_reducible refine wp_asgG ?_) | (with_reducible refine ex_int ?_) | (with_reducible refine wp_opM ?_) | (with_reducible refine wp_prop ?_) | (with_reducible refine wp_tr ?_) | (with_reducible refine wp_bm0 ?_) | (with_reducible refine lK_rt ?_) | (((with_reducible apply ex_of); · walk_at "wop")) | (((with_reducible apply ex_fld); · rfl; · rfl; · rfl)) | (((with_reducible apply And.intro); · first | rfl | exact ⟨rfl, rfl⟩ | decide | (simp; done))))
end J
set_option Elab.async false
set_option linter.all false
set_option maxRecDepth 100000
set_option maxHeartbeats 1010000
/-! WE: certify with up to four facts from a list; the law's own look at a reason's form -/
namespace J
local macro_rules | `(tactic| walk_at "wop") => `(tactic| first | (with_reducible exact addD_int) | (with_reducible exact subI_int) | (with_reducible exact eqD_int) | (with_reducible exact eqD_str) | (with_reducible exact eqD_bl) | (with_reducible exact neD_int) | (with_reducible exact neD_str) | (with_reducible exact neD_bl) | (with_reducible exact ltI_int) | (with_reducible exact leI_int) | (with_reducible exact gtI_int) | (with_reducible exact geI_int) | (with_reducible exact lenD_tup) | (with_reducible exact tup_lst) | (with_reducible exact addD_str (by first | omega | (simp; done) | (simp; omega))) | (with_reducible exact lenD_str (by first | omega | (simp; done) | (simp; omega))) | (with_reducible exact lenD_lst (by first | omega | (simp; done) | (simp; omega))) | (with_reducible exact slD_str (by first | omega | (simp; done) | (simp; omega))) | (with_reducible exact addD_list (by first | omega | (simp; done) | (simp; omega))) | (with_reducible exact range1_map (S := ⟨[], 0⟩) (by first | omega | (simp; done) | (simp; omega))) | (with_reducible exact addD_tupA (by first | omega | (simp; done) | (simp; omega))) | (exact rfl))
local macro_rules | `(tactic| walk_at "wx1") => `(tactic| first | (((with_reducible apply wp_var); · rfl)) | (with_reducible refine wp_seq ?_) | (with_reducible refine wp_callK ?_) | (with_reducible refine wp_makeK ?_) | (with_reducible refine wp_methK ?_) | (with_reducible refine sK_nx ?_) | (with_reducible refine sK_rt ?_) | (with_reducible refine dK_rt ?_) | (with_reducible refine wp_c ?_) | (with_reducible refine wp_asg ?_) | (with_reducible refine wp_par ?_) | (with_reducible refine wp_par3 ?_) | (with_reducible refine wp_ifS ?_) | (with_reducible refine wp_retS ?_) | (with_reducible refine wp_expr ?_) | (with_reducible refine wp_next ?_) | (with_reducible refine wp_op ?_) | (with_reducible refine wp_cons ?_) | (with_reducible refine wp_nil ?_) | (with_reducible refine wp_call ?_) | (with_reducible refine wp_cb ?_) | (with_reducible refine wp_tst ?_) | (with_reducible refine wp_not ?_) | (with_reducible refine wp_and ?_) | (with_reducible refine wp_or ?_) | (with_reducible refine wp_andV ?_) | (with_reducible refine wp_orV ?_) | (with_reducible refine wp_notV ?_) | (with_reducible refine wp_if ?_) | (with_reducible refine wp_tup ?_) | (with_reducible refine wp_lst ?_) | (with_reducible refine wp_lstM ?_) | (with_reducible refine wp_bm ?_) | (with_reducible refine wp_sl ?_) | (with_reducible refine wp_noP ?_) | (with_reducible refine wp_part ?_) | (with_reducible refine wp_chain ?_) | (with_reducible refine wp_fld ?_) | (with_reducible refine wp_make ?_) | (with_reducible refine wp_range ?_) | (with_reducible refine wp_items ?_) | (with_reducible refine wp_zip ?_) | (with_reducible refine wp_enum ?_) | (with_reducible refine wp_yes ?_) | (with_reducible refine wp_star ?_) | (with_reducible refine wp_callV ?_) | (with_reducible refine wp_makeV ?_) | (with_reducible refine wp_meth ?_) | (with_reducible refine wp_retN ?_) | (with_reducible refine wp_cm ?_) | (with_reducible refine wp_asgG ?_) | (with_reducible refine ex_int ?_) | (with_reducible refine wp_opM ?_) | (with_reducible refine wp_prop ?_) | (with_reducible refine wp_tr ?_) | (with_reducible refine wp_bm0 ?_) | (with_reducible refine lK_rt ?_) | (((with_reducible apply ex_of); · walk_at "wop")) | (((with_reducible apply ex_fld); · rfl; · rfl; · rfl)) | (((with_reducible apply And.intro); · first | rfl | exact ⟨rfl, rfl⟩ | decide | (simp; done))))
theorem sort_asc : ∀ {w : List Nat}, w.Pairwise (· < ·) → sortS (w.map fun c => [c]) = w.map fun c => [c]
  | [], _ => rfl
  | x :: w, h => by
    obtain ⟨h1, h2⟩ := List.pairwise_cons.mp (h : _)
    show insS [x] (sortS (w.map fun c => [c])) = _
    rw [sort_asc h2]
    cases w with
    | nil => rfl
    | cons y w =>
      show (if PySem.Spec.ltCps [y] [x] = true then _ else _) = _
      rw [if_neg]
      · rfl
      · have lt := h1 y (by simp)
        have le : LeS [x] [y] := (le_iff _ _).mpr fun z => by
          rcases List.cons_lt_cons_iff.mp z with a | a
          · omega
          · exact absurd a.2 (List.not_lt_nil _)
        rw [show PySem.Spec.ltCps [y] [x] = false from le]
        decide
end J
set_option Elab.async false
set_option linter.all false
set_option maxRecDepth 100000
set_option maxHeartbeats 4010000
namespace K19
open J
local macro_rules | `(tactic| walk_at "wop") => `(tactic| first | (with_reducible exact addD_int) | (with_reducible exact subI_int) | (with_reducible exact eqD_int) | (with_reducible exact eqD_str) | (with_reducible exact eqD_bl) | (with_reducible exact neD_int) | (with_reducible exact neD_str) | (with_reducible exact neD_bl) | (with_reducible exact ltI_int) | (with_reducible exact leI_int) | (with_reducible exact gtI_int) | (with_reducible exact geI_int) | (with_reducible exact lenD_tup) | (with_reducible exact tup_lst) | (with_reducible exact addD_str (by first | omega | (simp; done) | (simp; omega))) | (with_reducible exact lenD_str (by first | omega | (simp; done) | (simp; omega))) | (with_reducible exact lenD_lst (by first | omega | (simp; done) | (simp; omega))) | (with_reducible exact slD_str (by first | omega | (simp; done) | (simp; omega))) | (with_reducible exact addD_list (by first | omega | (simp; done) | (simp; omega))) | (with_reducible exact range1_map (S := ⟨[], 0⟩) (by first | omega | (simp; done) | (simp; omega))) | (with_reducible exact addD_tupA (by first | omega | (simp; done) | (simp; omega))) | (exact rfl))
local macro_rules | `(tactic| walk_at "wx1") => `(tactic| first | (((with_reducible apply wp_var); · rfl)) | (with_reducible refine wp_seq ?_) | (with_reducible refine wp_callK ?_) | (with_reducible refine wp_makeK ?_) | (with_reducible refine wp_methK ?_) | (with_reducible refine sK_nx ?_) | (with_reducible refine sK_rt ?_) | (with_reducible refine dK_rt ?_) | (with_reducible refine wp_c ?_) | (with_reducible refine wp_asg ?_) | (with_reducible refine wp_par ?_) | (with_reducible refine wp_par3 ?_) | (with_reducible refine wp_ifS ?_) | (with_reducible refine wp_retS ?_) | (with_reducible refine wp_expr ?_) | (with_reducible refine wp_next ?_) | (with_reducible refine wp_op ?_) | (with_reducible refine wp_cons ?_) | (with_reducible refine wp_nil ?_) | (with_reducible refine wp_call ?_) | (with_reducible refine wp_cb ?_) | (with_reducible refine wp_tst ?_) | (with_reducible refine wp_not ?_) | (with_reducible refine wp_and ?_) | (with_reducible refine wp_or ?_) | (with_reducible refine wp_andV ?_) | (with_reducible refine wp_orV ?_) | (with_reducible refine wp_notV ?_) | (with_reducible refine wp_if ?_) | (with_reducible refine wp_tup ?_) | (with_reducible refine wp_lst ?_) | (with_reducible refine wp_lstM ?_) | (with_reducible refine wp_bm ?_) | (with_reducible refine wp_sl ?_) | (with_reducible refine wp_noP ?_) | (with_reducible refine wp_part ?_) | (with_reducible refine wp_chain ?_) | (with_reducible refine wp_fld ?_) | (with_reducible refine wp_make ?_) | (with_reducible refine wp_range ?_) | (with_reducible refine wp_items ?_) | (with_reducible refine wp_zip ?_) | (with_reducible refine wp_enum ?_) | (with_reducible refine wp_yes ?_) | (with_reducible refine wp_star ?_) | (with_reducible refine wp_callV ?_) | (with_reducible refine wp_makeV ?_) | (with_reducible refine wp_meth ?_) | (with_reducible refine wp_retN ?_) | (with_reducible refine wp_cm ?_) | (with_reducible refine wp_asgG ?_) | (with_reducible refine ex_int ?_) | (with_reducible refine wp_opM ?_) | (with_reducible refine wp_prop ?_) | (with_reducible refine wp_tr ?_) | (with_reducible refine wp_bm0 ?_) | (with_reducible refine lK_rt ?_) | (((with_reducible apply ex_of); · walk_at "wop")) | (((with_reducible apply ex_fld); · rfl; · rfl; · rfl)) | (((with_reducible apply And.intro); · first | rfl | exact ⟨rfl, rfl⟩ | decide | (simp; done))))
/-! ### the plain law of k19 -/
theorem law_is : d_law = dLaw 6 d_right := rfl
theorem hT : TT.fs 0 = [0, 1] := rfl
theorem hB : IsB CS TB := fun l k S => rfl
theorem signs_is : d_signs = dSigns := rfl
theorem dip_is : d_dip = dDip := rfl
theorem of_is : d_of = dOf := rfl
theorem word_is : d_word = dWord := rfl
theorem init_is : d_Board_init = dInit TT CS TB := rfl
theorem isw_is : d_is_word = dIsWord TT CS TB := rfl
theorem ckb_is : d_check_board = dCkB CS TB := rfl
theorem mul_chr {c k : Nat} {S : Store} (hk : k ≤ 1000) : mulD (.str [c]) (.int (k : Int)) S = some (.str (List.replicate k c)) := by
  have e : mulI (.str [c]) (.int (k : Int)) S = none := rfl
  have e2 : mulS (.str [c]) (.int (k : Int)) S = some (.str (List.replicate k c)) := by
    unfold mulS
    simp only
    rw [if_pos ⟨by omega, by omega, by simp⟩, Int.toNat_natCast, repS_len]
  simp only [mulD, op2, e, e2, Option.or]
abbrev GsOk (l : List Nat) (k : Nat) (gs : List (List Nat)) : Prop := gs.length ≤ 20 ∧ ∀ g ∈ gs, g.length = k ∧ ∀ c ∈ g, c ∈ l
def spotN (l : List Nat) (gs : List (List Nat)) (j : Nat) : List Nat := l.filter fun c => gs.any fun g => decide (gz g j = c)
def numT (gs : List (List Nat)) (c : Nat) : Nat := (gs.map fun g => g.count c).foldr max 0
theorem numT_top {gs : List (List Nat)} {c : Nat} : ∀ g ∈ gs, g.count c ≤ numT gs c := by
  induction gs with
  | nil => simp
  | cons h r ih =>
    intro g hg
    show g.count c ≤ max (h.count c) (numT r c)
    rcases (List.mem_cons.mp hg) with e | hg
    · rw [e]; omega
    · have := ih g hg; omega
theorem numT_in {c : Nat} : ∀ gs : List (List Nat), numT gs c = 0 ∨ ∃ g ∈ gs, g.count c = numT gs c
  | [] => .inl rfl
  | h :: r => by
    have e : numT (h :: r) c = max (h.count c) (numT r c) := rfl
    rw [e]
    rcases Nat.le_total (h.count c) (numT r c) with a | a
    · rw [Nat.max_eq_right a]
      rcases numT_in r with z | ⟨g, g1, g2⟩
      · exact .inl z
      · exact .inr ⟨g, List.mem_cons_of_mem _ g1, g2⟩
    · rw [Nat.max_eq_left a]
      exact .inr ⟨h, by simp, rfl⟩
theorem numT_rev (gs : List (List Nat)) (c : Nat) : numT gs.reverse c = numT gs c := by
  refine Nat.le_antisymm ?_ ?_
  · rcases numT_in (c := c) gs.reverse with z | ⟨g, g1, g2⟩
    · omega
    · rw [← g2]; exact numT_top g (List.mem_reverse.mp g1)
  · rcases numT_in (c := c) gs with z | ⟨g, g1, g2⟩
    · omega
    · rw [← g2]; exact numT_top g (List.mem_reverse.mpr g1)
theorem numT_max (gs : List (List Nat)) (c : Nat) {S : Store} : maxL [.lst (D.int 0 :: gs.map fun g => D.int ((g.count c : Nat) : Int))] S = some (.int ((numT gs c : Nat) : Int)) := by
  have h := maxL_of (S := S) (maxI_is (ns := 0 :: gs.map fun g => ((g.count c : Nat) : Int)) (a := ((numT gs c : Nat) : Int)) (by
    rcases numT_in (c := c) gs with z | ⟨g, g1, g2⟩
    · rw [z]; simp
    · exact List.mem_cons_of_mem _ (List.mem_map.mpr ⟨g, g1, by rw [g2]⟩)) (fun x hx => by
    rcases (List.mem_cons.mp hx) with e | hx
    · rw [e]; omega
    · obtain ⟨g, g1, rfl⟩ := List.mem_map.mp hx
      have := numT_top (c := c) g g1
      omega))
  rwa [List.map_cons, List.map_map] at h
theorem spot_rev (l : List Nat) (gs : List (List Nat)) (j : Nat) : spotN l gs.reverse j = spotN l gs j := by
  unfold spotN
  congr 1
  funext c
  rw [List.any_reverse]
theorem spot_sort {l : List Nat} {k j : Nat} {gs : List (List Nat)} (up : l.Pairwise (· < ·)) (G : GsOk l k gs) (hj : j < k) : sortS (onceL (gs.map fun g => [gz g j])) = (spotN l gs j).map fun c => [c] := by
  have upS : (spotN l gs j).Pairwise (· < ·) := up.sublist List.filter_sublist
  rw [← sort_asc upS]
  refine sorted_eq (sortS_sorted _) (sortS_sorted _) ((sortS_perm _).trans (List.Perm.trans ?_ (sortS_perm _).symm))
  refine (List.perm_ext_iff_of_nodup (once_nodup _) (List.pairwise_map.mpr (upS.imp fun h z => by injection z; omega))).mpr fun x => ?_
  rw [once_mem, List.mem_map, List.mem_map]
  constructor
  · rintro ⟨g, hg, rfl⟩
    refine ⟨gz g j, List.mem_filter.mpr ⟨(G.2 g hg).2 _ ?_, List.any_eq_true.mpr ⟨g, hg, decide_eq_true rfl⟩⟩, rfl⟩
    have lt : j < g.length := by rw [(G.2 g hg).1]; exact hj
    unfold gz
    rw [List.getD_eq_getElem?_getD, List.getElem?_eq_getElem lt]
    exact List.getElem_mem lt
  · rintro ⟨c, hc, rfl⟩
    obtain ⟨g, hg, e⟩ := List.any_eq_true.mp (List.mem_filter.mp hc).2
    exact ⟨g, hg, by rw [of_decide_eq_true e]⟩
section
variable {S0 : Store} {l : List Nat} {k : Nat} {gs : List (List Nat)} {ρ : Rho}
theorem let_g {i : Nat} (h : ρ.getD i none = some (bd l (k : Int))) : Gm S0 ((iFld TT [0] 0 (iVar i)) ρ) (.str l) := gm_wp fun S q => wp_fld (wp_var h ⟨_, _, _, ins_bd TT hT, rfl, rfl, rfl, Kq.refl S⟩)
theorem wid_g {i : Nat} (h : ρ.getD i none = some (bd l (k : Int))) : Gm S0 ((iFld TT [0] 1 (iVar i)) ρ) (.int (k : Int)) := gm_wp fun S q => wp_fld (wp_var h ⟨_, _, _, ins_bd TT hT, rfl, rfl, rfl, Kq.refl S⟩)
theorem ck_g (hk : k ≤ 500) (G : GsOk l k gs) : Gm S0 (d_check_guesses [bd l (k : Int), .tup (gs.map D.str)]) .non := gm_wp fun S q0 => by
  refine wp_def ?_
  show Wp (is_check_guesses [some (bd l (k : Int)), some (.tup (gs.map D.str)), none, none]) S _
  unfold is_check_guesses
  rw [isw_is]
  refine wp_seq (wp_ifS (wp_or (wp_not (wp_tst (wp_cb (wp_cons (wp_var rfl (wp_cons (wp_c (wp_nil ⟨.bl true, rfl, true, rfl, if_f (by decide) ?_⟩))))))))))
  refine wp_tst (wp_op (wp_cb (wp_cons (wp_var rfl (wp_nil ⟨_, lenD_tup, wp_c ⟨_, gtI_int, _, rfl, ?_⟩⟩)))))
  rw [decide_eq_false (by have := G.1; rw [List.length_map]; omega), if_neg (by decide)]
  refine wp_next (sK_nx ?_)
  refine wp_for (fun j : Nat => .tup [.int ((0 + j : Nat) : Int), .str (gs.getD j [])]) (List.range gs.length) [2, 3] (fun pre ys S' => Kq S S') ?_ ?_ ?_
  · exact wp_enum (wp_cons (wp_var rfl (wp_nil ⟨_, by rw [enumOf, enum_strs], rfl, [none, none], rfl, rfl, Kq.refl S⟩)))
  · rintro j pre ys S1 hly q1 ⟨post, hp⟩
    obtain ⟨ej, hj⟩ := range_at hp
    subst ej
    match ys, hly with
    | [y2, y3], _ =>
    refine ⟨_, rfl, ?_⟩
    simp only [updR, List.set_cons_succ, List.set_cons_zero]
    obtain ⟨g1, g2⟩ := G.2 _ (getD_at (gs := []) (pre := []) hj).1
    refine wp_ifS (wp_not (wp_tst (wp_call (wp_cons (wp_var rfl (wp_cons (wp_var rfl (wp_nil ⟨rfl, wp_ok (isw_ok TT CS TB hT (by omega) g1 g2) ⟨true, rfl, ?_⟩⟩))))))))
    rw [if_neg (by decide)]
    exact wp_next (lK_nx [_, _] rfl rfl (q1.trans (kq_t1 S1)))
  · rintro ys S1 hly q1
    match ys, hly with
    | [y2, y3], _ =>
    exact (show _ ∧ _ from ⟨rfl, kq_trim q1⟩)
theorem lets_g {j : Nat} (hj : j < k) (k6 : k ≤ 6) (ll : l.length ≤ 26) (G : GsOk l k gs) : Gm S0 (d_letters_tried [bd l (k : Int), .tup (gs.map D.str), .int (j : Int)]) (.str (spotN l gs j)) := gm_wp fun S q0 => by
  refine wp_def ?_
  show Wp (is_letters_tried [some (bd l (k : Int)), some (.tup (gs.map D.str)), some (.int (j : Int)), none, none]) S _
  unfold is_letters_tried
  have g20 := G.1
  have sl : (spotN l gs j).length ≤ 26 := Nat.le_trans (List.length_filter_le ..) ll
  refine wp_retS (wp_gm (gv_bm gv_c (fun _ _ => rfl) (ga_cons (gv_lc (g := .n 3) (fun c : Nat => .str [c]) (fun c : Nat => .str [c]) (fun c => gs.any fun g => decide (gz g j = c)) l (ga_items (let_g rfl) rfl) (by omega) fun c hc => ⟨_, rfl, gt_tst (gv_cb1 (gv_lc1 (g := .n 4) D.str (fun g => .bl (decide (gz g j = c))) gs (ga_items (gv_var rfl) rfl) (by omega) fun g hg => ⟨_, rfl, gv_op (gv_op (gv_var rfl) (gv_var rfl) fun S _ => ix_gz (by rw [(G.2 g hg).1]; exact hj) (by rw [(G.2 g hg).1]; omega)) (gv_var rfl) fun S _ => ?_⟩) fun S _ => any_map), fun _ => gv_var rfl⟩) ga_nil) (fun S _ => ⟨S, join_chars (by show (spotN l gs j).length ≤ 1000; omega), Kq.refl S⟩)) fun S1 q1 => dK_rt ⟨rfl, kq_trim q1⟩)
  rw [eqD_str]
  congr 2
  rw [decide_eq_decide]
  exact ⟨fun z => by injection z, fun z => by rw [z]⟩
theorem nums_g {c : Nat} (k6 : k ≤ 6) (G : GsOk l k gs) : Gm S0 (d_number_tried [.tup (gs.map D.str), .str [c]]) (.int ((numT gs c : Nat) : Int)) := gm_wp fun S q0 => by
  refine wp_def ?_
  show Wp (is_number_tried [some (.tup (gs.map D.str)), some (.str [c]), none]) S _
  unfold is_number_tried
  have g20 := G.1
  refine wp_retS (wp_gm (gv_cb1 (gv_lst (xs := D.int 0 :: ((gs.map fun g => D.int ((g.count c : Nat) : Int)) ++ [])) (ga_cons gv_c (ga_star (gv_lc1 (g := .n 2) D.str (fun g => D.int ((g.count c : Nat) : Int)) gs (ga_items (gv_var rfl) rfl) (by omega) fun g hg => ⟨_, rfl, gv_bm (gv_var rfl) (fun _ _ => rfl) (ga_cons (gv_var rfl) ga_nil) fun S _ => ⟨S, strCount_chr (by rw [(G.2 g hg).1]; omega), Kq.refl S⟩⟩) (fun S _ => rfl) ga_nil)) (by simp; omega)) fun S _ => by rw [List.append_nil]; exact numT_max gs c) fun S1 q1 => dK_rt ⟨rfl, kq_trim q1⟩)
def triedD (l : List Nat) (k : Nat) (gs : List (List Nat)) : D := .tup [.tup ((List.range k).map fun j => .str (spotN l gs j)), .tup (l.map fun c => .int ((numT gs c : Nat) : Int))]
theorem tried_g (k6 : k ≤ 6) (ll : l.length ≤ 26) (G : GsOk l k gs) : Gm S0 (d_tried [bd l (k : Int), .tup (gs.map D.str)]) (triedD l k gs) := gm_wp fun S q0 => by
  refine wp_def ?_
  show Wp (is_tried [some (bd l (k : Int)), some (.tup (gs.map D.str))]) S _
  unfold is_tried
  rw [ckb_is]
  refine wp_seq (wp_expr (wp_call (wp_cons (wp_var rfl (wp_nil ⟨rfl, wp_ok (ckb_ok CS TB hB) (sK_nx ?_)⟩)))))
  refine wp_seq (wp_expr (wp_gm (gv_call (ga_cons (gv_var rfl) (ga_cons (gv_var rfl) ga_nil)) rfl (ck_g (by omega) G)) fun S1 q1 => sK_nx ?_))
  refine wp_retS (wp_gm (gv_call (ga_cons (gv_var rfl) (ga_cons (gv_var rfl) ga_nil)) rfl (d := triedD l k gs) (gm_wp fun S2 q2 => ?_)) fun S3 q3 => dK_rt ⟨rfl, kq_trim (((kq_t1 S).trans q1).trans q3)⟩)
  refine wp_def ?_
  show Wp (is_tried_of [some (bd l (k : Int)), some (.tup (gs.map D.str)), none, none, none]) S2 _
  unfold is_tried_of
  refine wp_seq (wp_asg (wp_gm (gv_cb1 (gv_lc1 (g := .n 3) (fun j : Nat => .int (j : Int)) (fun j => .str (spotN l gs j)) (List.range k) (ga_range (ga_cons (wid_g rfl) ga_nil) (range1_map (S := S2) (by omega))) (by rw [List.length_range]; omega) fun j hj => ⟨_, rfl, gv_call (ga_cons (gv_var rfl) (ga_cons (gv_var rfl) (ga_cons (gv_var rfl) ga_nil))) rfl (lets_g (List.mem_range.mp hj) k6 ll G)⟩) fun S _ => tup_lst) fun S4 q4 => sK_nx ?_))
  refine wp_retS (wp_gm (gv_tup (ga_cons (gv_var rfl) (ga_cons (gv_cb1 (gv_lc1 (g := .n 4) (fun c : Nat => .str [c]) (fun c => .int ((numT gs c : Nat) : Int)) l (ga_items (let_g rfl) rfl) (by omega) fun c hc => ⟨_, rfl, gv_call (ga_cons (gv_var rfl) (ga_cons (gv_var rfl) ga_nil)) rfl (nums_g k6 G)⟩) fun S _ => tup_lst) ga_nil)) (by simp)) fun S5 q5 => dK_rt ⟨rfl, kq_trim (q4.trans q5)⟩)
end
theorem tried_rev (l : List Nat) (k : Nat) (gs : List (List Nat)) : triedD l k gs.reverse = triedD l k gs := by
  unfold triedD
  simp only [spot_rev, numT_rev]
theorem guesses_w {n : Nat} {S : Store} {Q : D → Store → Prop} {l : List Nat} {k most : Nat} (kn : Kn S n []) (l0 : 0 < l.length) (l26 : l.length ≤ 26) (k6 : k ≤ 6) (m20 : most ≤ 20) (h : ∀ (gs : List (List Nat)) (S' : Store), GsOk l k gs → Kn S' n [] → Q (.tup (gs.map D.str)) S') : Wp (d_guesses [.ref n, .str l, .int (k : Int), .int (most : Int)]) S Q := by
  refine wp_def ?_
  show Wp (is_guesses [some (.ref n), some (.str l), some (.int (k : Int)), some (.int (most : Int)), none, none]) S _
  unfold is_guesses
  rw [dip_is, of_is, word_is]
  have n0 := kn.bw.1
  have kn1 := kn.new (o := .lst [])
  refine wp_seq (wp_asg (wp_lstM (wp_nil ⟨by simp, sK_nx ?_⟩)))
  have m0 : S.next < (S.alloc (.lst [])).next := Nat.lt_succ_self _
  generalize S.alloc (.lst []) = S1 at kn1 m0 ⊢
  show Wp ((sSeq _ _) [some (.ref n), some (.str l), some (.int (k : Int)), some (.int (most : Int)), some (.ref S.next), none]) S1 _
  refine wp_seq (wp_forE (fun i : Nat => .int (i : Int)) (fun xs => xs.length ≤ most) [5] (fun pre ys S' => ∃ gs : List (List Nat), gs.length = pre.length ∧ (∀ g ∈ gs, g.length = k ∧ ∀ c ∈ g, c ∈ l) ∧ Kn S' n [(S.next, .lst (gs.map D.str))]) ?_ ?_ ?_)
  · exact wp_range (wp_cons (wp_call (wp_cons (wp_var rfl (wp_cons (wp_op (wp_var rfl (wp_c ⟨_, addD_int, wp_nil ⟨rfl, dip_w kn1 (by omega) (by omega) fun many S2 hm kn => wp_nil ⟨_, range1_map (S := S2) (n := many) (by omega), List.range many, rfl, by rw [List.length_range]; omega, [none], rfl, rfl, [], rfl, by simp, kn⟩⟩⟩))))))))
  · rintro xs x pre ys S2 hx hly ⟨gs, gl, gm, kn⟩ ⟨post, hp⟩
    match ys, hly with
    | [y5], _ =>
    have pl : pre.length < xs.length := by
      rw [hp]
      rw [List.length_append, List.length_cons]
      omega
    refine ⟨_, rfl, ?_⟩
    have fin : ∀ (g : List Nat) (S' : Store), g.length = k → (∀ c ∈ g, c ∈ l) → Kn S' n [(S.next, .lst (gs.map D.str ++ [.str g]))] → ∃ hs : List (List Nat), hs.length = (pre ++ [x]).length ∧ (∀ g ∈ hs, g.length = k ∧ ∀ c ∈ g, c ∈ l) ∧ Kn S' n [(S.next, .lst (hs.map D.str))] := fun g S' g1 g2 kn' => ⟨gs ++ [g], by simp [gl], fun v hv => by
      rcases List.mem_append.mp hv with a | a
      · exact gm v a
      · rw [List.mem_singleton.mp a]; exact ⟨g1, g2⟩, by rw [List.map_append]; exact kn'⟩
    refine wp_app rfl kn (by rw [List.length_map]; omega) (wp_if (wp_tst (wp_op (wp_call (wp_cons (wp_var rfl (wp_cons (wp_c (wp_nil ⟨rfl, dip_w kn (by omega) (by omega) fun d S3 hd kn => wp_c ⟨_, eqD_int, _, rfl, wp_itp (fun _ => ?_) fun _ => ?_⟩⟩)))))))))
    · exact wp_op (wp_call (wp_cons (wp_var rfl (wp_cons (wp_var rfl (wp_nil ⟨rfl, of_w kn l0 (by omega) fun c S4 hc kn => wp_var rfl ⟨.str (List.replicate k c), mul_chr (by omega), kn, fun S' kn' => lK_nx [_] rfl rfl (fin (List.replicate k c) S' (List.length_replicate ..) (fun v hv => by rw [List.eq_of_mem_replicate hv]; exact hc) kn')⟩⟩))))))
    · exact wp_call (wp_cons (wp_var rfl (wp_cons (wp_var rfl (wp_cons (wp_var rfl (wp_nil ⟨rfl, word_w kn l0 (by omega) (by omega) fun g S4 g1 g2 kn => ⟨kn, fun S' kn' => lK_nx [_] rfl rfl (fin g S' g1 g2 kn')⟩⟩)))))))
  rintro xs ys S2 hx hly ⟨gs, gl, gm, kn⟩
  match ys, hly with
  | [y5], _ =>
  refine sK_nx (wp_seq (wp_frz rfl kn.get rfl (sK_nx ?_)))
  have kn := kn.del
  exact wp_retS (wp_cb (wp_cons (wp_var rfl (wp_nil ⟨_, tup_lst, dK_rt (h gs _ ⟨by omega, gm⟩ (Kn.of (bw_trim kn.bw n0)))⟩))))
theorem gv_srtS {S0 : Store} {ie : IE} {ρ : Rho} {ws : List (List Nat)} (h : Gm S0 (ie ρ) (.lst (ws.map D.str))) (few : ws.length < 4000) : Gm S0 (iSrtS ie ρ) (.lst ((sortS (onceL ws)).map D.str)) := h.bind (.lft fun S _ => by
  show srtS (.lst (ws.map D.str)) S = _
  have sq : seqL (.lst (ws.map D.str)) S = some (ws.map D.str) := rfl
  unfold srtS
  rw [sq]
  dsimp only
  rw [strsOf_str]
  dsimp only
  rw [if_pos few])
theorem rp_tried {l : List Nat} {k : Nat} {gs : List (List Nat)} (k6 : k ≤ 6) (ll : l.length ≤ 26) (hl : ∀ c ∈ l, c < 1114112) (G : GsOk l k gs) : Rp 2 5000 (triedD l k gs) := by
  have r1 : Rp 1 1700 (.tup ((List.range k).map fun j => .str (spotN l gs j))) := (Rp.tup (k := 0) (B := 262) (n := 6) (fun d hd => by
    obtain ⟨j, hj, rfl⟩ := List.mem_map.mp hd
    have sl : (spotN l gs j).length ≤ 26 := Nat.le_trans (List.length_filter_le ..) ll
    exact (Rp.str (l := spotN l gs j) fun c hc => hl c (List.mem_filter.mp hc).1).up (by omega) (by omega)) (by rw [List.length_map, List.length_range]; exact k6)).up (by omega) (by omega)
  have r2 : Rp 1 1700 (.tup (l.map fun c => .int ((numT gs c : Nat) : Int))) := (Rp.tup (k := 0) (B := 5) (n := 26) (fun d hd => by
    obtain ⟨c, hc, rfl⟩ := List.mem_map.mp hd
    refine Rp.nat ?_
    rcases numT_in (c := c) gs with z | ⟨g, g1, g2⟩
    · omega
    · rw [← g2]
      have := List.count_le_length (l := g) (a := c)
      rw [(G.2 g g1).1] at this
      omega) (by rw [List.length_map]; exact ll)).up (by omega) (by omega)
  refine (Rp.tup (k := 1) (B := 1700) (n := 2) (fun d hd => ?_) (by simp)).up (by omega) (by omega)
  rcases (List.mem_cons.mp hd) with rfl | hd
  · exact r1
  · rw [List.mem_singleton.mp hd]
    exact r2
theorem right_ok {n : Nat} {S : Store} (b : Bw S n) : ∃ S', d_right [.ref n] S = .ok (.bl true) S' := by
  refine run_of (wp_def ?_)
  let ρr : Option D → Option D → Option D → Option D → Option D → Option D → Option D → Option D → Rho := fun y1 y2 y3 y4 y5 y6 y7 y8 => [some (.ref n), y1, y2, y3, y4, y5, y6, y7, y8, none, none, none]
  show Wp (is_right (ρr none none none none none none none none)) S _
  unfold is_right
  rw [dip_is, signs_is, of_is, init_is]
  refine wp_seq (wp_for (fun i : Nat => .int (i : Int)) (List.range 5) [1, 2, 3, 4, 5, 6, 7, 8] (fun _ _ S => Kn S n []) ?_ ?_ ?_)
  · exact wp_range (wp_cons (wp_c (wp_nil ⟨_, range1_map (S := S) (n := 5) (by omega), rfl, [none, none, none, none, none, none, none, none], rfl, rfl, Kn.of b⟩)))
  · intro x pre ys S hl kn _
    match ys, hl with
    | [y1, y2, y3, y4, y5, y6, y7, y8], _ =>
    refine ⟨_, rfl, ?_⟩
    show Wp ((sSeq _ _) (ρr (some (.int (x : Int))) y2 y3 y4 y5 y6 y7 y8)) S _
    refine wp_seq (wp_par (wp_call (wp_cons (wp_var rfl (wp_cons (wp_c (wp_cons (wp_c (wp_nil ⟨rfl, signs_w kn (by decide) (by decide) (by decide) fun l S1 sg l1 l2 kn => ?_⟩)))))))))
    refine wp_op (wp_c (wp_call (wp_cons (wp_var rfl (wp_cons (wp_c (wp_nil ⟨rfl, dip_w kn (by decide) (by decide) fun q S2 hq kn => ⟨_, addD_int, sK_nx ?_⟩⟩)))))))
    obtain ⟨k, hk⟩ : ∃ k : Nat, (1 + (q : Int)) = (k : Int) := ⟨1 + q, by omega⟩
    rw [hk]
    have k1 : 1 ≤ k := by omega
    have k6 : k ≤ 6 := by omega
    have l2' : 2 ≤ l.length := by omega
    have l26 : l.length ≤ 26 := by omega
    show Wp ((sSeq _ _) (ρr (some (.int (x : Int))) y2 y3 y4 (some (.str l)) (some (.int (k : Int))) y7 y8)) S2 _
    refine wp_seq (wp_asgG (wp_tup (wp_cons (wp_make (wp_cons (wp_var rfl (wp_cons (wp_var rfl (wp_nil (board_w hT kn sg l2' k1 k6 fun S3 kn => ?_)))))))))) 
    refine wp_cons (wp_call (wp_cons (wp_var rfl (wp_cons (wp_var rfl (wp_cons (wp_var rfl (wp_cons (wp_call (wp_cons (wp_var rfl (wp_cons (wp_lst (wp_cons (wp_c (wp_cons (wp_c (wp_cons (wp_c (wp_nil ⟨by simp, wp_nil ⟨rfl, ofl_w kn (by simp) (by simp) fun d S4 hd kn => wp_nil ⟨rfl, ?_⟩⟩⟩))))))))))))))))))))
    obtain ⟨most, rfl, m20⟩ : ∃ most : Nat, d = .int (most : Int) ∧ most ≤ 20 := by
      rcases (List.mem_cons.mp hd) with e | hd
      · exact ⟨2, e, by omega⟩
      rcases (List.mem_cons.mp hd) with e | hd
      · exact ⟨6, e, by omega⟩
      · exact ⟨20, List.mem_singleton.mp hd, by omega⟩
    refine guesses_w kn (by omega) l26 k6 m20 fun gs S5 G kn => wp_nil ⟨by simp, _, rfl, sK_nx ?_⟩
    have g20 := G.1
    have Gr : GsOk l k gs.reverse := ⟨by rw [List.length_reverse]; exact g20, fun g hg => G.2 g (List.mem_reverse.mp hg)⟩
    show Wp ((sSeq _ _) (ρr (some (.int (x : Int))) y2 y3 y4 (some (.str l)) (some (.int (k : Int))) (some (bd l (k : Int))) (some (.tup (gs.map D.str))))) S5 _
    refine wp_seq (wp_asg (gm_w kn (gv_cb1 (gv_lc1 (g := .n 9) (fun j : Nat => .int (j : Int)) (fun j => .str (spotN l gs j)) (List.range k) (ga_range (ga_cons (gv_var rfl) ga_nil) (range1_map (S := S5) (by omega))) (by rw [List.length_range]; omega) fun j hj => ⟨_, rfl, gv_bm gv_c (fun _ _ => rfl) (ga_cons (gv_srtS (ws := gs.map fun g => [gz g j]) (by
      rw [List.map_map]
      exact gv_lc1 (g := .n 11) D.str (D.str ∘ fun g => [gz g j]) gs (ga_items (gv_var rfl) rfl) (by omega) fun g hg => ⟨_, rfl, gv_op (gv_var rfl) (gv_var rfl) fun S _ => ix_gz (by rw [(G.2 g hg).1]; exact List.mem_range.mp hj) (by rw [(G.2 g hg).1]; omega)⟩) (by rw [List.length_map]; omega)) ga_nil) (fun S _ => ?_)⟩) fun S _ => tup_lst) fun S6 kn => sK_nx ?_))
    · rw [spot_sort sg.up G (List.mem_range.mp hj), List.map_map]
      have sl : (spotN l gs j).length ≤ 26 := Nat.le_trans (List.length_filter_le ..) l26
      exact ⟨S, join_chars (by omega), Kq.refl S⟩
    show Wp ((sSeq _ _) (ρr (some (.int (x : Int))) (some (.tup ((List.range k).map fun j => .str (spotN l gs j)))) y3 y4 (some (.str l)) (some (.int (k : Int))) (some (bd l (k : Int))) (some (.tup (gs.map D.str))))) S6 _
    refine wp_seq (wp_asg (gm_w kn (gv_cb1 (gv_lc1 (g := .n 10) (fun c : Nat => .str [c]) (fun c => .int ((numT gs c : Nat) : Int)) l (ga_items (gv_var rfl) rfl) (by omega) fun c hc => ⟨_, rfl, gv_cb1 (gv_op (gv_lst (ga_cons gv_c ga_nil) (by simp)) (gv_lc1 (g := .n 11) D.str (fun g => D.int ((g.count c : Nat) : Int)) gs (ga_items (gv_var rfl) rfl) (by omega) fun g hg => ⟨_, rfl, gv_bm (gv_var rfl) (fun _ _ => rfl) (ga_cons (gv_var rfl) ga_nil) fun S _ => ⟨S, strCount_chr (by rw [(G.2 g hg).1]; omega), Kq.refl S⟩⟩) fun S _ => addD_list (by simp; omega)) fun S _ => numT_max gs c⟩) fun S _ => tup_lst) fun S7 kn => sK_nx ?_))
    show Wp ((sSeq _ _) (ρr (some (.int (x : Int))) (some (.tup ((List.range k).map fun j => .str (spotN l gs j)))) (some (.tup (l.map fun c => .int ((numT gs c : Nat) : Int)))) y4 (some (.str l)) (some (.int (k : Int))) (some (bd l (k : Int))) (some (.tup (gs.map D.str))))) S7 _
    refine wp_seq (wp_asg (wp_lst (wp_cons (gm_w kn (gv_call (ga_cons (gv_var rfl) (ga_cons (gv_var rfl) ga_nil)) rfl (tried_g k6 l26 G)) fun S8 kn => ?_))))
    refine wp_cons (wp_callK (wp_cons (gm_w kn ((gv_var (d := .tup (gs.map D.str)) rfl).bind (.lft fun S _ => (rfl : revT (.tup (gs.map D.str)) S = some (.tup (gs.map D.str).reverse)))) fun S9 kn => wp_cons (wp_var rfl (wp_nil ⟨⟨rfl, rfl⟩, ?_⟩)))))
    rw [← List.map_reverse]
    refine gm_w kn (tried_g k6 l26 Gr) fun S10 kn => wp_nil ⟨by simp, sK_nx ?_⟩
    rw [tried_rev]
    have two : Rp 3 12000 (.lst [triedD l k gs, triedD l k gs]) := (Rp.lst (k := 2) (B := 5000) (n := 2) (fun d hd => by
      have e : d = triedD l k gs := by
        rcases (List.mem_cons.mp hd) with e | hd
        · exact e
        · exact List.mem_singleton.mp hd
      rw [e]
      exact rp_tried k6 l26 (sg.cp fun c hc => hc) G) (by simp)).up (by omega) (by omega)
    obtain ⟨t, ht⟩ := rep_of (S := S10) two (by decide) (by decide)
    refine wp_ifS (wp_tst (wp_op (wp_cb (wp_cons (wp_var rfl (wp_nil ⟨_, ht, wp_cb (wp_cons (wp_lst (wp_cons (wp_tup (wp_cons (wp_var rfl (wp_cons (wp_var rfl (wp_nil ⟨by simp, wp_cons (wp_tup (wp_cons (wp_var rfl (wp_cons (wp_var rfl (wp_nil ⟨by simp, wp_nil ⟨by simp, wp_nil ⟨_, ht, .bl false, ne_same, false, rfl, ?_⟩⟩⟩))))))⟩)))))))))⟩))))))
    rw [if_neg (by decide)]
    exact wp_next (lK_nx [_, _, _, _, _, _, _, _] rfl rfl kn)
  · intro ys S7 hl kn
    exact sK_nx (wp_retS (wp_c (dK_rt rfl)))
theorem plain (ns : List Int) (h : ns.length ≤ 63) : ∃ S', d_law [.scr (ns.map D.int)] ⟨[], 0⟩ = .ok (.bl true) S' := by
  rw [law_is]
  exact law_gen 6 (by omega) (by omega) (fun b => right_ok b) ns h
end K19
theorem PySem.Challenge.cw_guessmarks_k19_whole_letters_tried_holds : PySem.Challenge.rw_guessmarks_k19_whole_letters_tried.Holds := by
  exact K19.k19_holds K19.plain
