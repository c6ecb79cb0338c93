import PyProof.Rows.All
import Wide.All
import OpenK.AllK
import Wide.FinOn
import HandS.ForMost
import HandS.ForExc
import HandS.CallSlots
import HandS.HeadHook2
import HandS.HeadHook4
import HandS.Lambda
import HandS.IsInst
import HandS.TupAny
import HandS.TupMul
import HandS.Replace
import HandS.Head2
import HandS.HeadEnd
import KE.GoesNew
import HandS.Star
import HandS.DictComp
import HandS.ExcInit
import HandS.ExcField
import HandS.ExcIs
import HandS.TryMany
import KE.KExcIs
import KE.KRevSl
import KE.KDictWalk
import KE.KDictDisplayH
import HandS.Conv
import PyProof.SeqRoads2
import PyProof.Rows.SortShellAny
import PyProof.Rows.CountFlat
import HandS.HotCalls
import HandS.ClsMeth
import HandS.FromBytesMap
import KE.KExcInit
import HandS.ExcOwn
import HandS.Strs
import HandS.Codes
import HandS.ExcCtx
import HandS.Property
import HandS.FStr
import HandS.Zip
import HandS.Style
import KE.GoesEnum
import KE.DatumOrd
import PyProof.Claim2Refuses
import HandS.Finally
import HandS.Defaults
import KE.GoesZip
import KE.KItemsList
import KE.SortData
import KE.GoesMore
import PyProof.Rows.ReprOcc
import PySem.Challenge.RW_guessmarks_k03_whole_words_and_numbers
set_option Elab.async false
set_option linter.all false
set_option maxRecDepth 100000
set_option maxHeartbeats 4010000
/-! J0: values as trees, a small store, the monad, how they stand in the abstract heap -/
namespace J
open PySem PySem.Spec L2
inductive Ky where
  | i (n : Int) | s (x : List Nat)
  deriving DecidableEq
/-- a value: what never changes is a tree; ref n: the n-th object of the store -/
inductive D where
  | non | bl (b : Bool) | int (i : Int) | str (x : List Nat) | ty (n : String) | glo (c : Nat)
  | tup (xs : List D) | lst (xs : List D) | scr (xs : List D) | dct (ks : List Ky) (xs : List D) | dcu (ks : List (List Ky)) (xs : List D) | ins (c : Nat) (xs : List D) | exn (c : Nat) (fl : List Nat) (xs : List D) | ref (n : Nat)
inductive MO where
  | lst (xs : List D) | dct (kvs : List (Ky × D)) | dcT (kvs : List (List Ky × D)) | ins (c : Nat) (fs : List (Nat × D))
structure Store where
  objs : List (Nat × MO)
  next : Nat
def getO (n : Nat) : List (Nat × MO) → Option MO
  | [] => none
  | (m, o) :: r => if m = n then some o else getO n r
def putO (n : Nat) (o : MO) : List (Nat × MO) → List (Nat × MO)
  | [] => [(n, o)]
  | (m, u) :: r => if m = n then (n, o) :: r else (m, u) :: putO n o r
def Store.get (S : Store) (n : Nat) : Option MO := getO n S.objs
def Store.set (S : Store) (n : Nat) (o : MO) : Store := ⟨putO n o S.objs, S.next⟩
def Store.alloc (S : Store) (o : MO) : Store := ⟨(S.next, o) :: S.objs, S.next + 1⟩
def dropO (n : Nat) : List (Nat × MO) → List (Nat × MO)
  | [] => []
  | (m, u) :: r => if m = n then dropO n r else (m, u) :: dropO n r
def trimO (N : Nat) : List (Nat × MO) → List (Nat × MO)
  | [] => []
  | (m, u) :: r => if m < N then (m, u) :: trimO N r else trimO N r
def Store.del (S : Store) (n : Nat) : Store := ⟨dropO n S.objs, S.next⟩
def Store.trim (S : Store) (N : Nat) : Store := ⟨trimO N S.objs, S.next⟩
theorem getO_put_self {n : Nat} {o : MO} : ∀ l, getO n (putO n o l) = some o
  | [] => by simp [putO, getO]
  | (m, u) :: r => by
    unfold putO
    split
    · simp [getO]
    · rename_i h
      simp only [getO, if_neg h]
      exact getO_put_self r
theorem getO_put_ne {n m : Nat} {o : MO} (h : m ≠ n) : ∀ l, getO m (putO n o l) = getO m l
  | [] => by simp [putO, getO, Ne.symm h]
  | (k, u) :: r => by
    unfold putO
    split
    · rename_i e
      subst e
      simp only [getO, if_neg (Ne.symm h)]
    · simp only [getO]
      rw [getO_put_ne h r]
theorem getO_drop {n m : Nat} : ∀ l, getO m (dropO n l) = if m = n then none else getO m l
  | [] => by simp [dropO, getO]
  | (k, u) :: r => by
    unfold dropO
    split
    · rename_i e
      subst e
      rw [getO_drop r]
      by_cases h : m = k
      · simp [h]
      · simp [h, getO, Ne.symm h]
    · rename_i e
      simp only [getO]
      rw [getO_drop r]
      by_cases h : m = n
      · subst h
        simp [e]
      · simp [h]
theorem getO_trim {N m : Nat} : ∀ l, getO m (trimO N l) = if m < N then getO m l else none
  | [] => by simp [trimO, getO]
  | (k, u) :: r => by
    unfold trimO
    split
    · rename_i e
      simp only [getO]
      rw [getO_trim r]
      by_cases h : k = m
      · subst h; simp [e]
      · simp [h]
    · rename_i e
      rw [getO_trim r]
      by_cases h : k = m
      · subst h; simp [e]
      · simp [getO, h]
@[simp] theorem Store.get_set_self (S : Store) (n : Nat) (o : MO) : (S.set n o).get n = some o := getO_put_self _
theorem Store.get_set_ne (S : Store) {n m : Nat} (o : MO) (h : m ≠ n) : (S.set n o).get m = S.get m := getO_put_ne h _
@[simp] theorem Store.next_set (S : Store) (n : Nat) (o : MO) : (S.set n o).next = S.next := rfl
@[simp] theorem Store.next_alloc (S : Store) (o : MO) : (S.alloc o).next = S.next + 1 := rfl
@[simp] theorem Store.next_del (S : Store) (n : Nat) : (S.del n).next = S.next := rfl
@[simp] theorem Store.next_trim (S : Store) (n : Nat) : (S.trim n).next = S.next := rfl
@[simp] theorem Store.get_alloc_self (S : Store) (o : MO) : (S.alloc o).get S.next = some o := by simp [Store.alloc, Store.get, getO]
theorem Store.get_alloc_ne (S : Store) (o : MO) {n : Nat} (h : n ≠ S.next) : (S.alloc o).get n = S.get n := by
  simp [Store.alloc, Store.get, getO, Ne.symm h]
theorem Store.get_del (S : Store) (n m : Nat) : (S.del n).get m = if m = n then none else S.get m := getO_drop _
theorem Store.get_trim (S : Store) (N m : Nat) : (S.trim N).get m = if m < N then S.get m else none := getO_trim _
/-! ### the monad -/
inductive R (α : Type) where
  | ok (a : α) (S : Store) | ex (c : Nat) (fs : List (Nat × D)) (S : Store) | no
abbrev M (α : Type) := Store → R α
def M.ret {α : Type} (a : α) : M α := fun S => .ok a S
def M.bind {α β : Type} (m : M α) (k : α → M β) : M β := fun S => match m S with
  | .ok a S' => k a S'
  | .ex c fs S' => .ex c fs S'
  | .no => .no
def M.no {α : Type} : M α := fun _ => .no
instance : Monad M where
  pure := M.ret
  bind := M.bind
abbrev Rho := List (Option D)
abbrev IE := Rho → M D
abbrev IT := Rho → M Bool
abbrev IA := Rho → M (List D)
/-- what a statement does -/
inductive Fl where
  | nx (ρ : Rho) | rt (d : D) | bk (ρ : Rho) | ct (ρ : Rho) | xx (c : Nat) (fs : List (Nat × D)) (ρ : Rho)
abbrev IS := Rho → M Fl
/-! ### how values stand -/
structure Tab where
  cn : Nat → Str
  fn : Nat → Str
  fs : Nat → List Nat
  inj : ∀ i j, fn i = fn j → i = j
  /-- the tables of code objects, and the name that their code objects bear -/
  tabs : PySem.W.Frag → List (Addr × Str) := fun _ => []
  /-- the error that is handled -/
  hot : Option Addr := none
def kyK : Ky → Key
  | .i n => .inl n
  | .s x => .inr ⟨x.toArray⟩
def named (T : Tab) : List Nat → List V → List (Str × V)
  | f :: fs, v :: vs => (T.fn f, v) :: named T fs vs
  | _, _ => []
def keyed : List Ky → List V → List (Key × V)
  | k :: ks, v :: vs => (kyK k, v) :: keyed ks vs
  | _, _ => []
def keyedT : List (List Ky) → List V → List (List Key × V)
  | k :: ks, v :: vs => (k.map kyK, v) :: keyedT ks vs
  | _, _ => []
/-- at a: a caught exception of the class at C, its dict at d -/
def exL (a C : Addr) (d : Option Addr) : HO := .ext fun h => ∃ (o : Obj) (vs : Array Value), h.get? a = some o ∧ L2N.Zn (.ref C) d o ∧ o.data = .fields vs
mutual
def DR (T : Tab) (K : PySem.W.Frag) (G : Hp) (ι : List Addr) : D → V → Prop
  | .non, v => v = .non
  | .bl b, v => v = .bl b
  | .int i, v => v = .int i
  | .str x, v => v = .str ⟨x.toArray⟩
  | .ty n, v => v = .ty n
  | .glo c, v => v = .ref (He.ga K (T.cn c))
  | .tup xs, v => ∃ a vs, v = .ref a ∧ G a = some (.tup vs) ∧ DRs T K G ι xs vs
  | .lst xs, v => ∃ a vs, v = .ref a ∧ G a = some (.lst vs) ∧ DRs T K G ι xs vs
  | .scr xs, v => ∃ a vs, v = .ref a ∧ SqL K G a vs ∧ DRs T K G ι xs vs
  | .dct ks xs, v => ∃ a vs, v = .ref a ∧ ks.length = vs.length ∧ ((ks = [] ∧ G a = some (.dK [])) ∨ (ks ≠ [] ∧ ∃ o, G a = some (.frz o (.dK (keyed ks vs))))) ∧ DRs T K G ι xs vs
  | .dcu ks xs, v => ∃ a o vs, v = .ref a ∧ ks.length = vs.length ∧ G a = some (.frz o (.dT (keyedT ks vs))) ∧ DRs T K G ι xs vs
  | .ins c xs, v => ∃ a dx vs, v = .ref a ∧ (T.fs c).length = vs.length ∧ G a = some (.ins (He.ga K (T.cn c)) dx (named T (T.fs c) vs)) ∧ DRs T K G ι xs vs
  | .exn c fl xs, v => ∃ a dd vs, v = .ref a ∧ fl.length = vs.length ∧ G a = some (exL a (He.ga K (T.cn c)) dd) ∧ ((fl = [] ∧ dd = none) ∨ ∃ d, dd = some d ∧ G d = some (.xd (named T fl vs))) ∧ DRs T K G ι xs vs
  | .ref n, v => ∃ a, ι[n]? = some a ∧ v = .ref a
def DRs (T : Tab) (K : PySem.W.Frag) (G : Hp) (ι : List Addr) : List D → List V → Prop
  | [], vs => vs = []
  | x :: xs, vs => ∃ v r, vs = v :: r ∧ DR T K G ι x v ∧ DRs T K G ι xs r
end
def Ipre (ι ι' : List Addr) : Prop := ∀ (n : Nat) (a : Addr), ι[n]? = some a → ι'[n]? = some a
theorem Ipre.refl (ι : List Addr) : Ipre ι ι := fun _ _ h => h
theorem Ipre.trans {a b c : List Addr} (h : Ipre a b) (k : Ipre b c) : Ipre a c := fun n x e => k n x (h n x e)
theorem Ipre.snoc (ι : List Addr) (p : Addr) : Ipre ι (ι ++ [p]) := fun n a e => by
  rw [List.getElem?_append_left (List.getElem?_eq_some_iff.mp e).1]
  exact e
mutual
theorem DR.mono {T : Tab} {K : PySem.W.Frag} {G G' : Hp} {ι ι' : List Addr} (hG : Same G G') (hι : Ipre ι ι') : ∀ {d : D} {v : V}, DR T K G ι d v → DR T K G' ι' d v
  | .non, _, h => by simpa only [DR] using h
  | .bl _, _, h => by simpa only [DR] using h
  | .int _, _, h => by simpa only [DR] using h
  | .str _, _, h => by simpa only [DR] using h
  | .ty _, _, h => by simpa only [DR] using h
  | .glo _, _, h => by simpa only [DR] using h
  | .tup xs, v, h => by
    simp only [DR] at h ⊢
    obtain ⟨a, vs, e, q, r⟩ := h
    exact ⟨a, vs, e, hG _ _ q, DRs.mono hG hι r⟩
  | .lst xs, v, h => by
    simp only [DR] at h ⊢
    obtain ⟨a, vs, e, q, r⟩ := h
    exact ⟨a, vs, e, hG _ _ q, DRs.mono hG hι r⟩
  | .scr xs, v, h => by
    simp only [DR] at h ⊢
    obtain ⟨a, vs, e, q, r⟩ := h
    exact ⟨a, vs, e, Same.seq hG q, DRs.mono hG hι r⟩
  | .dct ks xs, v, h => by
    simp only [DR] at h ⊢
    obtain ⟨a, vs, e, l, q, r⟩ := h
    exact ⟨a, vs, e, l, q.elim (fun q => .inl ⟨q.1, hG _ _ q.2⟩) (fun ⟨n, o, q⟩ => .inr ⟨n, o, hG _ _ q⟩), DRs.mono hG hι r⟩
  | .dcu ks xs, v, h => by
    simp only [DR] at h ⊢
    obtain ⟨a, o, vs, e, l, q, r⟩ := h
    exact ⟨a, o, vs, e, l, hG _ _ q, DRs.mono hG hι r⟩
  | .ins c xs, v, h => by
    simp only [DR] at h ⊢
    obtain ⟨a, dx, vs, e, l, q, r⟩ := h
    exact ⟨a, dx, vs, e, l, hG _ _ q, DRs.mono hG hι r⟩
  | .exn c fl xs, v, h => by
    simp only [DR] at h ⊢
    obtain ⟨a, dd, vs, e, l, q, m, r⟩ := h
    exact ⟨a, dd, vs, e, l, hG _ _ q, m.imp id fun ⟨d, e, q⟩ => ⟨d, e, hG _ _ q⟩, DRs.mono hG hι r⟩
  | .ref n, v, h => by
    simp only [DR] at h ⊢
    obtain ⟨a, e, q⟩ := h
    exact ⟨a, hι _ _ e, q⟩
theorem DRs.mono {T : Tab} {K : PySem.W.Frag} {G G' : Hp} {ι ι' : List Addr} (hG : Same G G') (hι : Ipre ι ι') : ∀ {d : List D} {v : List V}, DRs T K G ι d v → DRs T K G' ι' d v
  | [], _, h => by simpa only [DRs] using h
  | x :: xs, _, h => by
    simp only [DRs] at h ⊢
    obtain ⟨v, r, e, q, k⟩ := h
    exact ⟨v, r, e, DR.mono hG hι q, DRs.mono hG hι k⟩
end
theorem DRs.length {T : Tab} {K : PySem.W.Frag} {G : Hp} {ι : List Addr} : ∀ {d : List D} {v : List V}, DRs T K G ι d v → d.length = v.length
  | [], _, h => by simp only [DRs] at h; subst h; rfl
  | x :: xs, _, h => by
    simp only [DRs] at h
    obtain ⟨v, r, e, q, k⟩ := h
    subst e
    simp [k.length]
theorem DRs.get {T : Tab} {K : PySem.W.Frag} {G : Hp} {ι : List Addr} : ∀ {ds : List D} {vs : List V} {i : Nat} {d : D}, DRs T K G ι ds vs → ds[i]? = some d → ∃ v, vs[i]? = some v ∧ DR T K G ι d v
  | [], _, _, _, _, e => by simp at e
  | x :: xs, _, 0, d, h, e => by
    simp only [DRs] at h
    obtain ⟨v, r, e1, q, k⟩ := h
    subst e1
    simp at e
    subst e
    exact ⟨v, rfl, q⟩
  | x :: xs, _, i + 1, d, h, e => by
    simp only [DRs] at h
    obtain ⟨v, r, e1, q, k⟩ := h
    subst e1
    simpa using k.get (i := i) (by simpa using e)
theorem DRs.append {T : Tab} {K : PySem.W.Frag} {G : Hp} {ι : List Addr} : ∀ {ds : List D} {vs : List V} {es : List D} {ws : List V}, DRs T K G ι ds vs → DRs T K G ι es ws → DRs T K G ι (ds ++ es) (vs ++ ws)
  | [], _, _, _, h, k => by
    simp only [DRs] at h
    subst h
    exact k
  | x :: xs, _, _, _, h, k => by
    simp only [DRs] at h
    obtain ⟨v, r, e1, q, j⟩ := h
    subst e1
    simp only [List.cons_append, DRs]
    exact ⟨v, _, rfl, q, j.append k⟩
theorem DRs.nil {T : Tab} {K : PySem.W.Frag} {G : Hp} {ι : List Addr} : DRs T K G ι [] [] := by simp only [DRs]
theorem DRs.cons {T : Tab} {K : PySem.W.Frag} {G : Hp} {ι : List Addr} {d : D} {v : V} {ds : List D} {vs : List V} (h : DR T K G ι d v) (k : DRs T K G ι ds vs) : DRs T K G ι (d :: ds) (v :: vs) := by
  simp only [DRs]
  exact ⟨v, vs, rfl, h, k⟩
theorem DRs.take {T : Tab} {K : PySem.W.Frag} {G : Hp} {ι : List Addr} : ∀ {ds : List D} {vs : List V} (n : Nat), DRs T K G ι ds vs → DRs T K G ι (ds.take n) (vs.take n)
  | _, _, 0, _ => by simpa using DRs.nil
  | [], _, n + 1, h => by
    simp only [DRs] at h
    subst h
    simpa using DRs.nil
  | x :: xs, _, n + 1, h => by
    simp only [DRs] at h
    obtain ⟨v, r, e1, q, j⟩ := h
    subst e1
    simpa using DRs.cons q (j.take n)
theorem DRs.drop {T : Tab} {K : PySem.W.Frag} {G : Hp} {ι : List Addr} : ∀ {ds : List D} {vs : List V} (n : Nat), DRs T K G ι ds vs → DRs T K G ι (ds.drop n) (vs.drop n)
  | _, _, 0, h => by simpa using h
  | [], _, n + 1, h => by
    simp only [DRs] at h
    subst h
    simpa using DRs.nil
  | x :: xs, _, n + 1, h => by
    simp only [DRs] at h
    obtain ⟨v, r, e1, q, j⟩ := h
    subst e1
    simpa using j.drop n
theorem DRs.set {T : Tab} {K : PySem.W.Frag} {G : Hp} {ι : List Addr} {d : D} {v : V} (hd : DR T K G ι d v) : ∀ {ds : List D} {vs : List V} (n : Nat), DRs T K G ι ds vs → DRs T K G ι (ds.set n d) (vs.set n v)
  | [], _, n, h => by
    simp only [DRs] at h
    subst h
    simpa using DRs.nil
  | x :: xs, _, 0, h => by
    simp only [DRs] at h
    obtain ⟨w, r, e1, q, j⟩ := h
    subst e1
    simpa using DRs.cons hd j
  | x :: xs, _, n + 1, h => by
    simp only [DRs] at h
    obtain ⟨w, r, e1, q, j⟩ := h
    subst e1
    simpa using DRs.cons q (j.set hd n)
/-! ### an object of the store -/
def FRs (T : Tab) (K : PySem.W.Frag) (G : Hp) (ι : List Addr) : List (Nat × D) → List (Str × V) → Prop
  | [], vs => vs = []
  | (f, x) :: xs, vs => ∃ v r, vs = (T.fn f, v) :: r ∧ DR T K G ι x v ∧ FRs T K G ι xs r
def KRs (T : Tab) (K : PySem.W.Frag) (G : Hp) (ι : List Addr) : List (Ky × D) → List (Key × V) → Prop
  | [], vs => vs = []
  | (k, x) :: xs, vs => ∃ v r, vs = (kyK k, v) :: r ∧ DR T K G ι x v ∧ KRs T K G ι xs r
def TRs (T : Tab) (K : PySem.W.Frag) (G : Hp) (ι : List Addr) : List (List Ky × D) → List (List Key × V) → Prop
  | [], vs => vs = []
  | (k, x) :: xs, vs => ∃ v r, vs = (k.map kyK, v) :: r ∧ DR T K G ι x v ∧ TRs T K G ι xs r
def OR (T : Tab) (K : PySem.W.Frag) (G : Hp) (ι : List Addr) : MO → HO → Prop
  | .lst xs, h => ∃ vs, h = .lst vs ∧ DRs T K G ι xs vs
  | .dct kvs, h => ∃ vs, h = .dK vs ∧ KRs T K G ι kvs vs
  | .dcT kvs, h => ∃ vs, h = .dT vs ∧ TRs T K G ι kvs vs
  | .ins c fs, h => ∃ dx vs, h = .ins (He.ga K (T.cn c)) dx vs ∧ FRs T K G ι fs vs
theorem FRs.mono {T : Tab} {K : PySem.W.Frag} {G G' : Hp} {ι ι' : List Addr} (hG : Same G G') (hι : Ipre ι ι') : ∀ {d : List (Nat × D)} {v : List (Str × V)}, FRs T K G ι d v → FRs T K G' ι' d v
  | [], _, h => h
  | (f, x) :: xs, _, ⟨v, r, e, q, k⟩ => ⟨v, r, e, q.mono hG hι, k.mono hG hι⟩
theorem KRs.mono {T : Tab} {K : PySem.W.Frag} {G G' : Hp} {ι ι' : List Addr} (hG : Same G G') (hι : Ipre ι ι') : ∀ {d : List (Ky × D)} {v : List (Key × V)}, KRs T K G ι d v → KRs T K G' ι' d v
  | [], _, h => h
  | (f, x) :: xs, _, ⟨v, r, e, q, k⟩ => ⟨v, r, e, q.mono hG hι, k.mono hG hι⟩
theorem TRs.mono {T : Tab} {K : PySem.W.Frag} {G G' : Hp} {ι ι' : List Addr} (hG : Same G G') (hι : Ipre ι ι') : ∀ {d : List (List Ky × D)} {v : List (List Key × V)}, TRs T K G ι d v → TRs T K G' ι' d v
  | [], _, h => h
  | (f, x) :: xs, _, ⟨v, r, e, q, k⟩ => ⟨v, r, e, q.mono hG hι, k.mono hG hι⟩
theorem OR.mono {T : Tab} {K : PySem.W.Frag} {G G' : Hp} {ι ι' : List Addr} (hG : Same G G') (hι : Ipre ι ι') : ∀ {o : MO} {h : HO}, OR T K G ι o h → OR T K G' ι' o h
  | .lst _, _, ⟨vs, e, r⟩ => ⟨vs, e, r.mono hG hι⟩
  | .dct _, _, ⟨vs, e, r⟩ => ⟨vs, e, r.mono hG hι⟩
  | .dcT _, _, ⟨vs, e, r⟩ => ⟨vs, e, r.mono hG hι⟩
  | .ins _ _, _, ⟨dx, vs, e, r⟩ => ⟨dx, vs, e, r.mono hG hι⟩
/-- no table -/
def noTab : HO → Bool
  | .tbl _ => false
  | _ => true
/-- no table, nothing told by a property -/
def plainO : HO → Bool
  | .tbl _ => false
  | .tup _ => false
  | .ext _ => false
  | _ => true
theorem noTab_of {o : HO} (h : plainO o = true) : noTab o = true := by
  cases o <;> first | rfl | cases h
theorem OR.plain {T : Tab} {K : PySem.W.Frag} {G : Hp} {ι : List Addr} : ∀ {o : MO} {h : HO}, OR T K G ι o h → plainO h = true
  | .lst _, _, ⟨_, e, _⟩ => e ▸ rfl
  | .dct _, _, ⟨_, e, _⟩ => e ▸ rfl
  | .dcT _, _, ⟨_, e, _⟩ => e ▸ rfl
  | .ins _ _, _, ⟨_, _, e, _⟩ => e ▸ rfl
/-- tables do not see a change elsewhere -/
theorem tabs_upd {L : List (Addr × Str)} {H : Hp} {p : Addr} {o u : HO} (h : LamX.Tabs L H) (e : H p = some o) (pl : plainO o = true) : LamX.Tabs L (upd H p u) := by
  intro q hq
  obtain ⟨ps, h1, h2, h3⟩ := h q hq
  have ne : ∀ {b : Addr} {x : HO}, H b = some x → plainO x = false → b ≠ p := fun hb hx z => by
    subst z
    rw [e] at hb
    cases hb
    rw [pl] at hx
    cases hx
  refine ⟨ps, by rw [upd_ne (ne h1 rfl)]; exact h1, h2, fun pos cv hc => ?_⟩
  obtain ⟨c, isC, atC⟩ := h3 pos cv hc
  exact ⟨c, isC, by rw [upd_ne (ne atC rfl)]; exact atC⟩
theorem tabs_new {L : List (Addr × Str)} {H : Hp} {p : Addr} {u : HO} (h : LamX.Tabs L H) (e : H p = none) : LamX.Tabs L (upd H p u) := h.ext fun b o q => by
  rw [upd_ne (ne_of_none q e)]
  exact q
/-- the error that is handled is known -/
def Tab.HotG (T : Tab) (G : Hp) : Prop := ∀ a, T.hot = some a → ∃ C d, G a = some (exL a C d)
theorem Tab.HotG.mono {T : Tab} {G G' : Hp} (h : T.HotG G) (e : Same G G') : T.HotG G' := fun a q => let ⟨C, d, z⟩ := h a q; ⟨C, d, e _ _ z⟩
/-! ### the state: G what is frozen, F what is somebody else's, S the store at ι -/
structure Em (T : Tab) (K : PySem.W.Frag) (F : Hp) (S : Store) (ι : List Addr) (G H : Hp) : Prop where
  sub : Same G H
  fr : Same F H
  len : ι.length = S.next
  nd : ι.Nodup
  old : ∀ a ∈ ι, H a ≠ none
  oldP : ∀ a ∈ ι, ∀ o, H a = some o → noTab o = true
  obj : ∀ n o, S.get n = some o → ∃ a h, ι[n]? = some a ∧ G a = none ∧ F a = none ∧ H a = some h ∧ OR T K G ι o h
  dis : ∀ a o, F a = some o → G a = none
  tb : LamX.Tabs (T.tabs K) H
  noG : ∀ a o, G a = some o → noTab o = true
  noF : ∀ a o, F a = some o → plainO o = true
  ht : T.HotG G
def Ext (G : Hp) (ι : List Addr) (G' : Hp) (ι' : List Addr) : Prop := Same G G' ∧ Ipre ι ι'
theorem Ext.refl (G : Hp) (ι : List Addr) : Ext G ι G ι := ⟨Same.refl G, Ipre.refl ι⟩
theorem Ext.trans {G G1 G2 : Hp} {ι ι1 ι2 : List Addr} (a : Ext G ι G1 ι1) (b : Ext G1 ι1 G2 ι2) : Ext G ι G2 ι2 := ⟨a.1.trans b.1, a.2.trans b.2⟩
theorem same_new {H : Hp} {p : Addr} {o : HO} (h : H p = none) : Same H (upd H p o) := fun b u e => by
  rw [upd_ne (ne_of_none e h)]
  exact e
theorem same_up {G H : Hp} {p : Addr} {o : HO} (e : Same G H) : Same (upd G p o) (upd H p o) := fun b u q => by
  by_cases hb : b = p
  · subst hb
    rw [upd_same] at q ⊢
    exact q
  · rw [upd_ne hb] at q ⊢
    exact e b u q
theorem same_out {G H : Hp} {p : Addr} {o : HO} (e : Same G H) (h : G p = none) : Same G (upd H p o) := fun b u q => by
  rw [upd_ne (ne_of_none q h)]
  exact e b u q
section
variable {T : Tab} {K : PySem.W.Frag} {F : Hp} {S : Store} {ι : List Addr} {G H : Hp}
/-- a new object that never changes -/
theorem old_new {ι : List Addr} {H : Hp} {p : Addr} {o : HO} (h : ∀ a ∈ ι, H a ≠ none) (hP : ∀ a ∈ ι, ∀ o, H a = some o → noTab o = true) (hp : H p = none) : ∀ a ∈ ι, ∀ u, upd H p o a = some u → noTab u = true := fun a ha u q => by
  have ne : a ≠ p := fun z => h a ha (by rw [z]; exact hp)
  rw [upd_ne ne] at q
  exact hP a ha u q
theorem old_put {ι : List Addr} {H : Hp} {p : Addr} {o : HO} (hP : ∀ a ∈ ι, ∀ o, H a = some o → noTab o = true) (ho : plainO o = true) : ∀ a ∈ ι, ∀ u, upd H p o a = some u → noTab u = true := fun a ha u q => by
  by_cases z : a = p
  · subst z
    rw [upd_same] at q
    cases q
    exact noTab_of ho
  · rw [upd_ne z] at q
    exact hP a ha u q
theorem put_all {G : Hp} {p : Addr} {o : HO} {f : HO → Bool} (h : ∀ a u, G a = some u → f u = true) (ho : f o = true) : ∀ a u, upd G p o a = some u → f u = true := fun a u q => by
  by_cases z : a = p
  · subst z
    rw [upd_same] at q
    cases q
    exact ho
  · rw [upd_ne z] at q
    exact h a u q
theorem Em.frz (E : Em T K F S ι G H) {p : Addr} {o : HO} (hp : H p = none) (no : noTab o = true := by rfl) : Em T K F S ι (upd G p o) (upd H p o) ∧ Ext G ι (upd G p o) ι := by
  have gp : G p = none := E.sub.free hp
  have hx : Same G (upd G p o) := same_new gp
  refine ⟨⟨same_up E.sub, same_out E.fr (E.fr.free hp), E.len, E.nd, fun a ha => ?_, old_new E.old E.oldP hp, fun n m e => ?_, fun a u q => ?_, tabs_new E.tb hp, put_all E.noG no, E.noF, E.ht.mono hx⟩, hx, Ipre.refl _⟩
  · by_cases h : a = p
    · subst h
      rw [upd_same]
      exact fun z => by cases z
    · rw [upd_ne h]
      exact E.old a ha
  · obtain ⟨a, h, h1, h2, h3, h4, h5⟩ := E.obj n m e
    have na : a ≠ p := ne_of_none h4 hp
    exact ⟨a, h, h1, by rw [upd_ne na]; exact h2, h3, by rw [upd_ne na]; exact h4, h5.mono hx (Ipre.refl _)⟩
  · rw [upd_ne (ne_of_none (E.fr a u q) hp)]
    exact E.dis a u q
/-- a new object that nobody tells of (garbage) -/
theorem Em.junk (E : Em T K F S ι G H) {p : Addr} {o : HO} (hp : H p = none) : Em T K F S ι G (upd H p o) := by
  refine ⟨same_out E.sub (E.sub.free hp), same_out E.fr (E.fr.free hp), E.len, E.nd, fun a ha => ?_, old_new E.old E.oldP hp, fun n m e => ?_, E.dis, tabs_new E.tb hp, E.noG, E.noF, E.ht⟩
  · by_cases h : a = p
    · subst h
      rw [upd_same]
      exact fun z => by cases z
    · rw [upd_ne h]
      exact E.old a ha
  · obtain ⟨a, h, h1, h2, h3, h4, h5⟩ := E.obj n m e
    have na : a ≠ p := ne_of_none h4 hp
    exact ⟨a, h, h1, h2, h3, by rw [upd_ne na]; exact h4, h5⟩
/-- a new object of the store -/
theorem Em.alloc (E : Em T K F S ι G H) {p : Addr} {o : MO} {u : HO} (hp : H p = none) (ho : OR T K G ι o u) : Em T K F (S.alloc o) (ι ++ [p]) G (upd H p u) ∧ Ext G ι G (ι ++ [p]) ∧ (ι ++ [p])[S.next]? = some p := by
  have hx : Ipre ι (ι ++ [p]) := Ipre.snoc ι p
  have hn : (ι ++ [p])[S.next]? = some p := by rw [← E.len]; simp
  have np : p ∉ ι := fun h => E.old p h hp
  refine ⟨⟨same_out E.sub (E.sub.free hp), same_out E.fr (E.fr.free hp), by simp [E.len], ?_, fun a ha => ?_, fun a ha => ?_, fun n m e => ?_, E.dis, tabs_new E.tb hp, E.noG, E.noF, E.ht⟩, ⟨Same.refl _, hx⟩, hn⟩
  · exact List.nodup_append.mpr ⟨E.nd, by simp, fun a h1 b h2 => by
      simp at h2
      subst h2
      exact fun e => np (e ▸ h1)⟩
  · by_cases h : a = p
    · subst h
      rw [upd_same]
      exact fun z => by cases z
    · rw [upd_ne h]
      rcases List.mem_append.mp ha with h1 | h1
      · exact E.old a h1
      · simp at h1
        exact absurd h1 h
  · rcases List.mem_append.mp ha with h1 | h1
    · exact old_new E.old E.oldP hp a h1
    · simp at h1
      subst h1
      intro x q
      rw [upd_same] at q
      cases q
      exact noTab_of ho.plain
  · by_cases hm : n = S.next
    · subst hm
      rw [Store.get_alloc_self] at e
      cases e
      exact ⟨p, u, hn, E.sub.free hp, E.fr.free hp, upd_same, ho.mono (Same.refl _) hx⟩
    · rw [Store.get_alloc_ne _ _ hm] at e
      obtain ⟨a, h, h1, h2, h3, h4, h5⟩ := E.obj n m e
      have na : a ≠ p := ne_of_none h4 hp
      exact ⟨a, h, hx _ _ h1, h2, h3, by rw [upd_ne na]; exact h4, h5.mono (Same.refl _) hx⟩
/-- an object of the store changes -/
theorem Em.set (E : Em T K F S ι G H) {n : Nat} {a : Addr} {o : MO} {u : HO} (hn : (S.get n).isSome) (ha : ι[n]? = some a) (ho : OR T K G ι o u) : Em T K F (S.set n o) ι G (upd H a u) := by
  obtain ⟨o0, e0⟩ := Option.isSome_iff_exists.mp hn
  obtain ⟨a', h', q1, q2, q3, q4, q5⟩ := E.obj n o0 e0
  rw [ha] at q1
  cases q1
  refine ⟨same_out E.sub q2, same_out E.fr q3, E.len, E.nd, fun b hb => ?_, old_put E.oldP ho.plain, fun m x e => ?_, E.dis, tabs_upd E.tb q4 q5.plain, E.noG, E.noF, E.ht⟩
  · by_cases h : b = a
    · subst h
      rw [upd_same]
      exact fun z => by cases z
    · rw [upd_ne h]
      exact E.old b hb
  · by_cases hm : m = n
    · subst hm
      rw [Store.get_set_self] at e
      cases e
      exact ⟨a, u, ha, q2, q3, upd_same, ho⟩
    · rw [Store.get_set_ne _ _ hm] at e
      obtain ⟨b, h, h1, h2, h3, h4, h5⟩ := E.obj m x e
      have nb : b ≠ a := fun z => by
        subst z
        obtain ⟨l1, e1⟩ := List.getElem?_eq_some_iff.mp h1
        obtain ⟨l2, e2⟩ := List.getElem?_eq_some_iff.mp ha
        exact hm ((List.getElem_inj E.nd).mp (e1.trans e2.symm))
      exact ⟨b, h, h1, h2, h3, by rw [upd_ne nb]; exact h4, h5⟩
/-- objects of the store are forgotten -/
theorem Em.sub_store (E : Em T K F S ι G H) {S' : Store} (hn : S'.next = S.next) (hs : ∀ n o, S'.get n = some o → S.get n = some o) : Em T K F S' ι G H :=
  ⟨E.sub, E.fr, E.len.trans hn.symm, E.nd, E.old, E.oldP, fun n o e => E.obj n o (hs n o e), E.dis, E.tb, E.noG, E.noF, E.ht⟩
theorem Em.trim (E : Em T K F S ι G H) (N : Nat) : Em T K F (S.trim N) ι G H := E.sub_store rfl fun n o e => by
  rw [Store.get_trim] at e
  split at e
  · exact e
  · cases e
/-- tables grow, code objects come -/
theorem Em.lam {H1 : Hp} (E : Em T K F S ι G H) (x : LamX.ExtN H H1) (tb : LamX.Tabs (T.tabs K) H1) : Em T K F S ι G H1 := by
  have go : ∀ {b : Addr} {o : HO}, H b = some o → noTab o = true → H1 b = some o := fun {b o} q n => x b o q fun ps z => by
    subst z
    cases n
  refine ⟨fun b o q => go (E.sub b o q) (E.noG b o q), fun b o q => go (E.fr b o q) (noTab_of (E.noF b o q)), E.len, E.nd, fun a ha => ?_, fun a ha o q => ?_, fun n o e => ?_, E.dis, tb, E.noG, E.noF, E.ht⟩
  · rcases Option.eq_none_or_eq_some (H a) with q | ⟨o, q⟩
    · exact absurd q (E.old a ha)
    · rw [go q (E.oldP a ha o q)]
      exact fun z => by cases z
  · rcases Option.eq_none_or_eq_some (H a) with q0 | ⟨o0, q0⟩
    · exact absurd q0 (E.old a ha)
    · rw [go q0 (E.oldP a ha o0 q0)] at q
      cases q
      exact E.oldP a ha o q0
  · obtain ⟨a, h, h1, h2, h3, h4, h5⟩ := E.obj n o e
    exact ⟨a, h, h1, h2, h3, go h4 (noTab_of h5.plain), h5⟩
/-- an object of the store is frozen -/
theorem Em.freeze (E : Em T K F S ι G H) {n : Nat} {o : MO} (hn : S.get n = some o) : ∃ a h, ι[n]? = some a ∧ H a = some h ∧ OR T K G ι o h ∧ Em T K F (S.del n) ι (upd G a h) H ∧ Ext G ι (upd G a h) ι := by
  obtain ⟨a, h, q1, q2, q3, q4, q5⟩ := E.obj n o hn
  have hx : Same G (upd G a h) := same_new q2
  refine ⟨a, h, q1, q4, q5, ⟨fun b u q => ?_, E.fr, E.len, E.nd, E.old, E.oldP, fun m x e => ?_, fun b u q => ?_, E.tb, put_all E.noG (noTab_of q5.plain), E.noF, E.ht.mono hx⟩, hx, Ipre.refl _⟩
  · by_cases hb : b = a
    · subst hb
      rw [upd_same] at q
      rw [q4]
      exact q
    · rw [upd_ne hb] at q
      exact E.sub b u q
  · rw [Store.get_del] at e
    split at e
    · cases e
    · rename_i hm
      obtain ⟨b, k, h1, h2, h3, h4, h5⟩ := E.obj m x e
      have nb : b ≠ a := fun z => by
        subst z
        obtain ⟨l1, e1⟩ := List.getElem?_eq_some_iff.mp h1
        obtain ⟨l2, e2⟩ := List.getElem?_eq_some_iff.mp q1
        exact hm ((List.getElem_inj E.nd).mp (e1.trans e2.symm))
      exact ⟨b, k, h1, by rw [upd_ne nb]; exact h2, h3, h4, h5.mono hx (Ipre.refl _)⟩
  · rw [upd_ne (ne_of_none q q3)]
    exact E.dis b u q
/-- an object of the store is frozen and locked -/
theorem Em.freezeL (E : Em T K F S ι G H) {n : Nat} {o : MO} (hn : S.get n = some o) : ∃ a h, ι[n]? = some a ∧ H a = some h ∧ OR T K G ι o h ∧ ∀ x, noTab x = true → Em T K F (S.del n) ι (upd G a x) (upd H a x) ∧ Ext G ι (upd G a x) ι := by
  obtain ⟨a, h, q1, q2, q3, q4, q5⟩ := E.obj n o hn
  refine ⟨a, h, q1, q4, q5, fun x hx => ?_⟩
  have ext : Same G (upd G a x) := same_new q2
  refine ⟨⟨same_up E.sub, same_out E.fr q3, E.len, E.nd, fun b hb => ?_, fun b hb u q => ?_, fun m y e => ?_, fun b u q => ?_, tabs_upd E.tb q4 q5.plain, put_all E.noG hx, E.noF, E.ht.mono ext⟩, ext, Ipre.refl _⟩
  · by_cases hb2 : b = a
    · subst hb2
      rw [upd_same]
      exact fun z => by cases z
    · rw [upd_ne hb2]
      exact E.old b hb
  · by_cases hb2 : b = a
    · subst hb2
      rw [upd_same] at q
      cases q
      exact hx
    · rw [upd_ne hb2] at q
      exact E.oldP b hb u q
  · rw [Store.get_del] at e
    split at e
    · cases e
    · rename_i hm
      obtain ⟨b, k, h1, h2, h3, h4, h5⟩ := E.obj m y e
      have nb : b ≠ a := fun z => by
        subst z
        obtain ⟨l1, e1⟩ := List.getElem?_eq_some_iff.mp h1
        obtain ⟨l2, e2⟩ := List.getElem?_eq_some_iff.mp q1
        exact hm ((List.getElem_inj E.nd).mp (e1.trans e2.symm))
      exact ⟨b, k, h1, by rw [upd_ne nb]; exact h2, h3, by rw [upd_ne nb]; exact h4, h5.mono ext (Ipre.refl _)⟩
  · rw [upd_ne (ne_of_none q q3)]
    exact E.dis b u q
/-- somebody's own object, put aside -/
theorem Em.aside (E : Em T K F S ι G H) {p : Addr} {o : HO} (hp : H p = none) (no : plainO o = true := by rfl) : Em T K (upd F p o) S ι G (upd H p o) := by
  refine ⟨same_out E.sub (E.sub.free hp), same_up E.fr, E.len, E.nd, fun a ha => ?_, old_new E.old E.oldP hp, fun n m e => ?_, fun a u q => ?_, tabs_new E.tb hp, E.noG, put_all E.noF no, E.ht⟩
  · by_cases h : a = p
    · subst h
      rw [upd_same]
      exact fun z => by cases z
    · rw [upd_ne h]
      exact E.old a ha
  · obtain ⟨a, h, h1, h2, h3, h4, h5⟩ := E.obj n m e
    have na : a ≠ p := ne_of_none h4 hp
    exact ⟨a, h, h1, h2, by rw [upd_ne na]; exact h3, by rw [upd_ne na]; exact h4, h5⟩
  · by_cases h : a = p
    · subst h
      exact E.sub.free hp
    · rw [upd_ne h] at q
      exact E.dis a u q
/-- .. changed by its owner -/
theorem Em.reaside {p : Addr} {o o' : HO} (E : Em T K (upd F p o) S ι G H) (no : plainO o' = true := by rfl) : Em T K (upd F p o') S ι G (upd H p o') := by
  have gp : G p = none := E.dis p o upd_same
  refine ⟨same_out E.sub gp, fun b u q => ?_, E.len, E.nd, fun a ha => ?_, old_put E.oldP no, fun n m e => ?_, fun a u q => ?_, tabs_upd E.tb (E.fr p o upd_same) (E.noF p o upd_same), E.noG, fun a u q => ?_, E.ht⟩
  · by_cases hb : b = p
    · subst hb
      rw [upd_same] at q ⊢
      exact q
    · rw [upd_ne hb] at q ⊢
      exact E.fr b u (by rw [upd_ne hb]; exact q)
  · by_cases h : a = p
    · subst h
      rw [upd_same]
      exact fun z => by cases z
    · rw [upd_ne h]
      exact E.old a ha
  · obtain ⟨a, h, h1, h2, h3, h4, h5⟩ := E.obj n m e
    have na : a ≠ p := fun z => by
      subst z
      rw [upd_same] at h3
      cases h3
    exact ⟨a, h, h1, h2, by rw [upd_ne na] at h3 ⊢; exact h3, by rw [upd_ne na]; exact h4, h5⟩
  · by_cases h : a = p
    · subst h
      exact gp
    · rw [upd_ne h] at q
      exact E.dis a u (by rw [upd_ne h]; exact q)
  · by_cases h : a = p
    · subst h
      rw [upd_same] at q
      cases q
      exact no
    · rw [upd_ne h] at q
      exact E.noF a u (by rw [upd_ne h]; exact q)
/-- .. given to all, never to change again -/
theorem Em.adopt {p : Addr} {o : HO} (E : Em T K (upd F p o) S ι G H) (hF : F p = none) : Em T K F S ι (upd G p o) H ∧ Ext G ι (upd G p o) ι := by
  have gp : G p = none := E.dis p o upd_same
  have hx : Same G (upd G p o) := same_new gp
  refine ⟨⟨fun b u q => ?_, fun b u q => E.fr b u (by rw [upd_ne (ne_of_none q hF)]; exact q), E.len, E.nd, E.old, E.oldP, fun n m e => ?_, fun a u q => ?_, E.tb, put_all E.noG (noTab_of (E.noF p o upd_same)), fun a u q => E.noF a u (by rw [upd_ne (ne_of_none q hF)]; exact q), E.ht.mono hx⟩, hx, Ipre.refl _⟩
  · by_cases hb : b = p
    · subst hb
      rw [upd_same] at q
      exact E.fr b u (by rw [upd_same]; exact q)
    · rw [upd_ne hb] at q
      exact E.sub b u q
  · obtain ⟨a, h, h1, h2, h3, h4, h5⟩ := E.obj n m e
    have na : a ≠ p := fun z => by
      subst z
      rw [upd_same] at h3
      cases h3
    exact ⟨a, h, h1, by rw [upd_ne na]; exact h2, by rw [upd_ne na] at h3; exact h3, h4, h5.mono hx (Ipre.refl _)⟩
  · have na : a ≠ p := ne_of_none q hF
    rw [upd_ne na]
    exact E.dis a u (by rw [upd_ne na]; exact q)
end
/-- the slots -/
structure SR (T : Tab) (K : PySem.W.Frag) (G : Hp) (ι : List Addr) (ρ : Rho) (σ : St) : Prop where
  len : ρ.length = σ.length
  at_ : ∀ (i : Nat) (d : D), ρ[i]? = some (some d) → ∃ v, σ[i]? = some (some v) ∧ DR T K G ι d v
theorem SR.mono {T : Tab} {K : PySem.W.Frag} {G G' : Hp} {ι ι' : List Addr} {ρ : Rho} {σ : St} (r : SR T K G ι ρ σ) (x : Ext G ι G' ι') : SR T K G' ι' ρ σ :=
  ⟨r.len, fun i d e => let ⟨v, q, h⟩ := r.at_ i d e; ⟨v, q, h.mono x.1 x.2⟩⟩
theorem SR.set {T : Tab} {K : PySem.W.Frag} {G : Hp} {ι : List Addr} {ρ : Rho} {σ : St} (r : SR T K G ι ρ σ) {d : D} {v : V} (h : DR T K G ι d v) (j : Nat) : SR T K G ι (ρ.set j (some d)) (σ.set j (some v)) := by
  refine ⟨by simp [r.len], fun i e q => ?_⟩
  by_cases hj : j = i
  · subst hj
    rw [List.getElem?_set] at q ⊢
    by_cases hl : j < ρ.length
    · have hl' : j < σ.length := r.len ▸ hl
      simp [hl] at q
      subst q
      simp [hl', h]
    · simp [hl] at q
  · rw [List.getElem?_set_ne hj] at q ⊢
    exact r.at_ i e q
end J
set_option Elab.async false
set_option linter.all false
set_option maxRecDepth 100000
set_option maxHeartbeats 4010000
/-! J1: judgements -/
namespace J
open PySem PySem.Spec L2
def Runs {α : Type} (m : R α) (ok : α → Store → Prop) (ex : Nat → List (Nat × D) → Store → Prop) : Prop := match m with
  | .ok a S => ok a S
  | .ex c fs S => ex c fs S
  | .no => False
theorem Runs.imp {α : Type} {m : R α} {ok ok' : α → Store → Prop} {ex ex' : Nat → List (Nat × D) → Store → Prop} (h : Runs m ok ex) (h1 : ∀ a S, ok a S → ok' a S) (h2 : ∀ c fs S, ex c fs S → ex' c fs S) : Runs m ok' ex' := by
  cases m with
  | ok a S => exact h1 a S h
  | ex c fs S => exact h2 c fs S h
  | no => exact h
/-- an exception's own dict -/
def XR (T : Tab) (K : PySem.W.Frag) (G : Hp) (ι : List Addr) (fs : List (Nat × D)) (dd : Option Addr) : Prop :=
  (fs = [] ∧ dd = none) ∨ ∃ d vs, dd = some d ∧ G d = some (.xd vs) ∧ FRs T K G ι fs vs
/-- what is wanted of a run at (G, ι) -/
def Thn {α β : Type} (T : Tab) (K : PySem.W.Frag) (F : Hp) (W : WX) (σ : L2.St) (G : Hp) (ι : List Addr) (rel : Hp → List Addr → α → β → Prop) (m : R α) (Q : β → Hp → Prop) : Prop :=
  Runs m (fun d S' => ∀ v ι' G' H', Em T K F S' ι' G' H' → Ext G ι G' ι' → rel G' ι' d v → Q v H')
    (fun c fs S' => ∀ dd ι' G' H', Em T K F S' ι' G' H' → Ext G ι G' ι' → XR T K G' ι' fs dd → W (.ref (He.ga K (T.cn c))) dd σ H')
def tG {α β : Type} (T : Tab) (K : PySem.W.Frag) (W : WX) (rel : Hp → List Addr → α → β → Prop) (m : Rho → M α) : L2.St → Hp → (β → Hp → Prop) → Prop := fun σ H Q =>
  ∃ ρ F S ι G, Em T K F S ι G H ∧ SR T K G ι ρ σ ∧ Thn T K F W σ G ι rel (m ρ S) Q
abbrev tE (T : Tab) (K : PySem.W.Frag) (W : WX) (ie : IE) : TE := tG T K W (DR T K) ie
abbrev tT (T : Tab) (K : PySem.W.Frag) (W : WX) (it : IT) : TT := tG T K W (fun _ _ (a b : Bool) => a = b) it
abbrev tA (T : Tab) (K : PySem.W.Frag) (W : WX) (ia : IA) : TA := tG T K W (DRs T K) ia
abbrev JE (T : Tab) (X : Cx) (W : WX) (e : Expr) (ie : IE) : Prop := PE X e (tE T X.K W ie)
abbrev JT (T : Tab) (X : Cx) (W : WX) (e : Expr) (it : IT) : Prop := PT X e (tT T X.K W it)
abbrev JW (T : Tab) (X : Cx) (W : WX) (e : Expr) (it : IT) : Prop := PW X e (tT T X.K W it)
abbrev JA (T : Tab) (X : Cx) (W : WX) (es : List Expr) (ia : IA) : Prop := PA X es (tA T X.K W ia)
theorem PE.mono {X : Cx} {e : Expr} {t t' : TE} (h : PE X e t) (k : ∀ σ H Q, t' σ H Q → t σ H Q) : PE X e t' := ⟨fun pins s σ H Q I q => h.run pins s σ H Q I (k σ H Q q)⟩
theorem PT.mono {X : Cx} {e : Expr} {t t' : TT} (h : PT X e t) (k : ∀ σ H Q, t' σ H Q → t σ H Q) : PT X e t' := ⟨fun pins s σ H Q I q => h.run pins s σ H Q I (k σ H Q q)⟩
theorem PW.mono {X : Cx} {e : Expr} {t t' : TT} (h : PW X e t) (k : ∀ σ H Q, t' σ H Q → t σ H Q) : PW X e t' := ⟨fun wh pins s σ H Q I q => h.run wh pins s σ H Q I (k σ H Q q)⟩
theorem PA.mono {X : Cx} {e : List Expr} {t t' : TA} (h : PA X e t) (k : ∀ σ H Q, t' σ H Q → t σ H Q) : PA X e t' := ⟨fun pos pins s σ H Q I q => h.run pos pins s σ H Q I (k σ H Q q)⟩
section
variable {T : Tab} {K : PySem.W.Frag} {F : Hp} {W : WX} {σ : L2.St} {G G1 : Hp} {ι ι1 : List Addr} {α β γ δ : Type} {rel : Hp → List Addr → α → β → Prop} {rel2 : Hp → List Addr → γ → δ → Prop}
theorem Thn.ext {m : R α} {Q : β → Hp → Prop} (h : Thn T K F W σ G ι rel m Q) (x : Ext G ι G1 ι1) : Thn T K F W σ G1 ι1 rel m Q :=
  Runs.imp h (fun _ _ k v ι' G' H' em y r => k v ι' G' H' em (x.trans y) r) fun _ _ _ k dd ι' G' H' em y r => k dd ι' G' H' em (x.trans y) r
theorem Thn.imp {m : R α} {Q Q' : β → Hp → Prop} (h : Thn T K F W σ G ι rel m Q) (k : ∀ v H, Q v H → Q' v H) : Thn T K F W σ G ι rel m Q' :=
  Runs.imp h (fun _ _ q v ι' G' H' em y r => k v H' (q v ι' G' H' em y r)) fun _ _ _ q => q
/-- the first part of a run -/
theorem Thn.bind {m : M γ} {k : γ → M α} {S : Store} {Q : β → Hp → Prop} {Q2 : δ → Hp → Prop} (h : Thn T K F W σ G ι rel (M.bind m k S) Q)
    (go : ∀ a S1 v ι1 G1 H1, Em T K F S1 ι1 G1 H1 → Ext G ι G1 ι1 → rel2 G1 ι1 a v → Thn T K F W σ G1 ι1 rel (k a S1) Q → Q2 v H1) : Thn T K F W σ G ι rel2 (m S) Q2 := by
  unfold M.bind at h
  cases e : m S with
  | ok a S1 =>
    rw [e] at h
    exact fun v ι' G' H' em y r => go a S1 v ι' G' H' em y r (Thn.ext h y)
  | ex c fs S1 =>
    rw [e] at h
    exact h
  | no =>
    rw [e] at h
    exact h
theorem Thn.ok {a : α} {S : Store} {Q : β → Hp → Prop} (h : Thn T K F W σ G ι rel (.ok a S) Q) {H : Hp} (em : Em T K F S ι G H) {v : β} (r : rel G ι a v) : Q v H := h v ι G H em (Ext.refl _ _) r
end
/-- a partial value -/
def lift {α : Type} (o : Option α) : M α := fun S => match o with
  | some a => .ok a S
  | none => .no
theorem Thn.lift {T : Tab} {K : PySem.W.Frag} {F : Hp} {W : WX} {σ : L2.St} {G : Hp} {ι : List Addr} {α β : Type} {rel : Hp → List Addr → α → β → Prop} {o : Option α} {S : Store} {Q : β → Hp → Prop} (h : Thn T K F W σ G ι rel (J.lift o S) Q) :
    ∃ a, o = some a ∧ Thn T K F W σ G ι rel (.ok a S) Q := by
  cases o with
  | none => exact h.elim
  | some a => exact ⟨a, rfl, h⟩
theorem bind_lift {α β : Type} {o : Store → Option α} {k : α → M β} {S : Store} : M.bind (fun S => lift (o S) S) k S = (match o S with
    | some a => k a S
    | none => .no) := by
  unfold M.bind lift
  dsimp only
  cases o S <;> rfl
/-! ### names, constants -/
def iVar (i : Nat) : IE := fun ρ => lift (ρ.getD i none)
def iC (d : D) : IE := fun _ => M.ret d
section
variable {T : Tab} {X : Cx} {W : WX}
theorem je_var (i : Nat) {x : Str} {pos : Pos} (hN : X.N[i]? = some x := by rfl) (hv : Vis X.env.scope x := by first | exact Or.inl rfl | exact Or.inr (Or.inl rfl) | exact Or.inr (Or.inr rfl))
    (hd : (x == ("__debug__" : Str)) = false := by decide) (hcd : (x == ("__classdict__" : Str)) = false := by decide) : JE T X W (.Name x pos) (iVar i) := by
  refine PE.mono (pe_var hN hv hd hcd) fun σ H Q ⟨ρ, F, S, ι, G, em, sr, h⟩ => ?_
  obtain ⟨d, e, h⟩ := Thn.lift h
  have e2 : ρ[i]? = some (some d) := by
    rw [List.getD_eq_getElem?_getD] at e
    cases q : ρ[i]? with
    | none => (rw [q] at e); exact nomatch e
    | some o => rw [q] at e; rw [show o = some d from e]
  obtain ⟨v, q, r⟩ := sr.at_ i d e2
  exact ⟨v, q, h.ok em r⟩
theorem je_c {e : Expr} {d : D} {v : V} (h : PE X e (tC v)) (r : ∀ G ι, DR T X.K G ι d v) : JE T X W e (iC d) :=
  PE.mono h fun σ H Q ⟨ρ, F, S, ι, G, em, sr, h⟩ => Thn.ok h em (r G ι)
theorem je_int {i j pos} : JE T X W (.Constant (.int i) j pos) (iC (.int i)) := je_c pe_int fun _ _ => by simp only [DR]
theorem je_bl {b j pos} : JE T X W (.Constant (.bool b) j pos) (iC (.bl b)) := je_c pe_bl fun _ _ => by simp only [DR]
theorem je_non {j pos} : JE T X W (.Constant .none j pos) (iC .non) := je_c pe_non fun _ _ => by simp only [DR]
theorem je_str {x : Str} {l : List Nat} {j pos} (h : x = ⟨l.toArray⟩ := by rfl) : JE T X W (.Constant (.str x) j pos) (iC (.str l)) := je_c pe_str fun _ _ => by simp only [DR]; rw [h]
end
/-! ### operators: no change of the store -/
abbrev Op2 := D → D → Store → Option D
def iOp (f : Op2) (ia ib : IE) : IE := fun ρ => M.bind (ia ρ) fun x => M.bind (ib ρ) fun y => fun S => lift (f x y S) S
/-- r serves f -/
def OpS (T : Tab) (K : PySem.W.Frag) (r : R2) (f : Op2) : Prop := ∀ F S ι G H x y d vx vy (Q : VK), Em T K F S ι G H → DR T K G ι x vx → DR T K G ι y vy → f x y S = some d →
  (∀ v G' H', Em T K F S ι G' H' → Ext G ι G' ι → DR T K G' ι d v → Q v H') → r vx vy H Q
theorem OpS.or {T : Tab} {K : PySem.W.Frag} {r r' : R2} {f g k : Op2} (h : OpS T K r f) (h' : OpS T K r' g) (hk : ∀ x y S d, k x y S = some d → f x y S = some d ∨ g x y S = some d) : OpS T K (fun x y H Q => r x y H Q ∨ r' x y H Q) k :=
  fun F S ι G H x y d vx vy Q em dx dy e q => (hk x y S d e).elim (fun z => .inl (h F S ι G H x y d vx vy Q em dx dy z q)) fun z => .inr (h' F S ι G H x y d vx vy Q em dx dy z q)
section
variable {T : Tab} {X : Cx} {W : WX} {a b c : Expr} {ia ib ic : IE} {pos : Pos} {r r' : R2} {f g : Op2}
theorem op_go (hf : OpS T X.K r f) {σ : L2.St} {H : Hp} {Q : VK} (h : tE T X.K W (iOp f ia ib) σ H Q) : tOp r (tE T X.K W ia) (tE T X.K W ib) σ H Q := by
  obtain ⟨ρ, F, S, ι, G, em, sr, h⟩ := h
  refine ⟨ρ, F, S, ι, G, em, sr, Thn.bind (rel2 := DR T X.K) h fun x S1 vx ι1 G1 H1 em1 x1 dx h1 => ?_⟩
  refine ⟨ρ, F, S1, ι1, G1, em1, sr.mono x1, Thn.bind (rel2 := DR T X.K) h1 fun y S2 vy ι2 G2 H2 em2 x2 dy h2 => ?_⟩
  obtain ⟨d, e, h3⟩ := Thn.lift h2
  exact hf F S2 ι2 G2 H2 x y d vx vy Q em2 (dx.mono x2.1 x2.2) dy e fun v G' H' em' x' r' => h3 v ι2 G' H' em' x' r'
theorem je_op {op : Operator} (ho : OpR X (binaryOp op) r) (hf : OpS T X.K r f) (ha : JE T X W a ia) (hb : JE T X W b ib) : JE T X W (.BinOp a op b pos) (iOp f ia ib) :=
  PE.mono (pe_op ho ha hb) fun σ H Q h => op_go hf h
theorem je_cmp {op : CmpOp} (ho : OpR X (compareOp op) r) (hf : OpS T X.K r f) (ha : JE T X W a ia) (hb : JE T X W b ib) (hm : behindInMarks op b = false) : JE T X W (.Compare a [op] [b] pos) (iOp f ia ib) :=
  PE.mono (pe_cmpR ho ha hb hm) fun σ H Q h => op_go hf h
theorem je_ix (ho : IxR X r) (hf : OpS T X.K r f) (ha : JE T X W a ia) (hb : JE T X W b ib) (hs : PlainIx b) : JE T X W (.Subscript a b pos) (iOp f ia ib) :=
  PE.mono (pe_ix ho ha hb hs) fun σ H Q h => op_go hf h
/-! ### tests -/
def isB : D → Option Bool
  | .bl b => some b
  | _ => none
/-- a bool's value as a test -/
def iTst (ie : IE) : IT := fun ρ => M.bind (ie ρ) fun d => lift (isB d)
theorem tst_go {te : TE} (h : ∀ σ H Q, tE T X.K W ia σ H Q → te σ H Q) {σ : L2.St} {H : Hp} {Q : Bool → Hp → Prop} (k : tT T X.K W (iTst ia) σ H Q) : te σ H fun x H' => ∃ c, x = .bl c ∧ Q c H' := by
  obtain ⟨ρ, F, S, ι, G, em, sr, k⟩ := k
  refine h σ H _ ⟨ρ, F, S, ι, G, em, sr, Thn.bind (rel2 := DR T X.K) k fun x S1 vx ι1 G1 H1 em1 x1 dx h1 => ?_⟩
  obtain ⟨d, e, h3⟩ := Thn.lift h1
  cases x with
  | bl q =>
    have eq : q = d := Option.some.inj e
    subst eq
    simp only [DR] at dx
    exact ⟨q, dx, h3.ok em1 rfl⟩
  | _ => cases e
theorem jt_cmp {op : CmpOp} (ho : OpR X (compareOp op) r) (hf : OpS T X.K r f) (ha : JE T X W a ia) (hb : JE T X W b ib) (hm : behindInMarks op b = false) : JT T X W (.Compare a [op] [b] pos) (iTst (iOp f ia ib)) :=
  PT.mono (pt_cmpR ho ha hb hm) fun σ H Q h => tst_go (te := tOp r (tE T X.K W ia) (tE T X.K W ib)) (fun _ _ _ h => op_go hf h) h
theorem jt_val {e : Expr} (h : JE T X W e ia) (he : ∀ whole, isTrue e X.env whole = (do let v ← whole; standAt e.pos; holding [v] (truthy v)) := by intro _; rfl) : JT T X W e (iTst ia) :=
  PT.mono (pt_val h he) fun σ H Q h => tst_go (te := tE T X.K W ia) (fun _ _ _ h => h) h
/-- a chain of two comparisons -/
def iChain (f g : Op2) (ia ib ic : IE) : IE := fun ρ => M.bind (ia ρ) fun x => M.bind (ib ρ) fun y => M.bind (fun S => lift ((f x y S).bind isB) S) fun k => if k = true then M.bind (ic ρ) fun z => fun S => lift (g y z S) S else M.ret (.bl false)
theorem chain_go (hf : OpS T X.K r f) (hg : OpS T X.K r' g) {σ : L2.St} {H : Hp} {Q : VK} (h : tE T X.K W (iChain f g ia ib ic) σ H Q) : tChain r r' (tE T X.K W ia) (tE T X.K W ib) (tE T X.K W ic) σ H Q := by
  obtain ⟨ρ, F, S, ι, G, em, sr, h⟩ := h
  refine ⟨ρ, F, S, ι, G, em, sr, Thn.bind (rel2 := DR T X.K) h fun x S1 vx ι1 G1 H1 em1 x1 dx h1 => ?_⟩
  refine ⟨ρ, F, S1, ι1, G1, em1, sr.mono x1, Thn.bind (rel2 := DR T X.K) h1 fun y S2 vy ι2 G2 H2 em2 x2 dy h2 => ?_⟩
  rw [bind_lift] at h2
  cases e : f x y S2 with
  | none => rw [e] at h2; exact h2.elim
  | some d =>
    rw [e] at h2
    cases d with
    | bl k =>
      refine hf F S2 ι2 G2 H2 x y (.bl k) vx vy _ em2 (dx.mono x2.1 x2.2) dy e fun v G' H' em' x' r' => ?_
      simp only [DR] at r'
      refine ⟨k, r', ?_⟩
      have h3 := Thn.ext h2 x'
      cases k with
      | false => exact Thn.ok h3 em' (by simp only [DR])
      | true =>
        refine iteT ⟨ρ, F, S2, ι2, G', em', (sr.mono x1).mono (x2.trans x'), Thn.bind (rel2 := DR T X.K) (k := fun z => fun S => lift (g y z S) S) h3 fun z S3 vz ι3 G3 H3 em3 x3 dz h4 => ?_⟩
        obtain ⟨d, e2, h5⟩ := Thn.lift h4
        exact hg F S3 ι3 G3 H3 y z d vy vz Q em3 ((dy.mono x'.1 x'.2).mono x3.1 x3.2) dz e2 fun v G' H' em' x' r' => h5 v ι3 G' H' em' x' r'
    | _ => exact h2.elim
theorem jt_chain {op op' : CmpOp} (ho : OpR X (compareOp op) r) (ho' : OpR X (compareOp op') r') (hf : OpS T X.K r f) (hg : OpS T X.K r' g) (ha : JE T X W a ia) (hb : JE T X W b ib) (hc : JE T X W c ic)
    (hm : lastMarks [op, op'] [b, c] = false := by with_unfolding_all rfl) : JT T X W (.Compare a [op, op'] [b, c] pos) (iTst (iChain f g ia ib ic)) :=
  PT.mono (pt_chain ho ho' ha hb hc hm) fun σ H Q h => tst_go (te := tChain r r' (tE T X.K W ia) (tE T X.K W ib) (tE T X.K W ic)) (fun _ _ _ h => chain_go hf hg h) h
end
end J
set_option Elab.async false
set_option linter.all false
set_option maxRecDepth 100000
set_option maxHeartbeats 410000
/-! J2: and, or, not, conditional expressions, argument lists, displays, calls of built-ins, methods of built-ins -/
namespace J
open PySem PySem.Spec L2
section
variable {T : Tab} {X : Cx} {W : WX} {a b c e : Expr} {es rest : List Expr} {ia ib ic : IE} {ta tb : IT} {pos : Pos}
def iAnd (ta tb : IT) : IT := fun ρ => M.bind (ta ρ) fun c => if c = true then tb ρ else M.ret false
def iOr (ta tb : IT) : IT := fun ρ => M.bind (ta ρ) fun c => if c = true then M.ret true else tb ρ
def iNot (ta : IT) : IT := fun ρ => M.bind (ta ρ) fun c => M.ret (!c)
def iAndV (ia ib : IE) : IE := fun ρ => M.bind (ia ρ) fun x => M.bind (lift (isB x)) fun c => if c = true then ib ρ else M.ret (.bl false)
def iOrV (ia ib : IE) : IE := fun ρ => M.bind (ia ρ) fun x => M.bind (lift (isB x)) fun c => if c = true then M.ret (.bl true) else ib ρ
def iNotV (ta : IT) : IE := fun ρ => M.bind (ta ρ) fun c => M.ret (.bl (!c))
def iIf (t : IT) (ia ib : IE) : IE := fun ρ => M.bind (t ρ) fun c => if c = true then ia ρ else ib ρ
theorem jw_or1 (ha : JT T X W a ta) : JW T X W (.BoolOp .Or [a] pos) ta := pw_or1 ha
theorem jw_or (ha : JT T X W a ta) (hb : JW T X W (.BoolOp .Or (b :: rest) pos) tb) : JW T X W (.BoolOp .Or (a :: b :: rest) pos) (iOr ta tb) := by
  refine PW.mono (pw_or ha hb) fun σ H Q ⟨ρ, F, S, ι, G, em, sr, h⟩ => ?_
  refine ⟨ρ, F, S, ι, G, em, sr, Thn.bind (rel2 := fun _ _ (a b : Bool) => a = b) h fun x S1 vx ι1 G1 H1 em1 x1 dx h1 => ?_⟩
  subst dx
  cases x with
  | false => exact iteF ⟨ρ, F, S1, ι1, G1, em1, sr.mono x1, h1⟩
  | true => exact iteT (Thn.ok h1 em1 rfl)
theorem jt_w (h : JW T X W e ta) : JT T X W e ta := PW.pt h
theorem jt_not (ha : JT T X W a ta) : JT T X W (.UnaryOp .Not a pos) (iNot ta) := by
  refine PT.mono (pt_not ha) fun σ H Q ⟨ρ, F, S, ι, G, em, sr, h⟩ => ?_
  refine ⟨ρ, F, S, ι, G, em, sr, Thn.bind (rel2 := fun _ _ (a b : Bool) => a = b) h fun x S1 vx ι1 G1 H1 em1 x1 dx h1 => ?_⟩
  subst dx
  exact Thn.ok h1 em1 rfl
theorem je_one {op} (h : JE T X W a ia) : JE T X W (.BoolOp op [a] pos) ia := pe_one h
theorem je_and (ha : JE T X W a ia) (hb : JE T X W (.BoolOp .And (b :: rest) pos) ib) : JE T X W (.BoolOp .And (a :: b :: rest) pos) (iAndV ia ib) := by
  refine PE.mono (pe_and ha hb) fun σ H Q ⟨ρ, F, S, ι, G, em, sr, h⟩ => ?_
  refine ⟨ρ, F, S, ι, G, em, sr, Thn.bind (rel2 := DR T X.K) h fun x S1 vx ι1 G1 H1 em1 x1 dx h1 => ?_⟩
  cases x with
  | bl q =>
    simp only [DR] at dx
    refine ⟨q, dx, ?_⟩
    cases q with
    | true => exact iteT ⟨ρ, F, S1, ι1, G1, em1, sr.mono x1, h1⟩
    | false => exact iteF (Thn.ok h1 em1 (by simp only [DR]))
  | _ => exact h1.elim
theorem je_not (ha : JE T X W a ia) : JE T X W (.UnaryOp .Not a pos) (iNotV (iTst ia)) := by
  refine PE.mono (pe_not ha) fun σ H Q ⟨ρ, F, S, ι, G, em, sr, h⟩ => ?_
  have h' : Thn T X.K F W σ G ι (DR T X.K) (M.bind (ia ρ) (fun d => M.bind (lift (isB d)) fun c => M.ret (.bl (!c))) S) Q := by
    have e : M.bind (ia ρ) (fun d => M.bind (lift (isB d)) fun c => M.ret (.bl (!c))) S = iNotV (iTst ia) ρ S := by
      unfold iNotV iTst M.bind
      cases ia ρ S <;> rfl
    rw [e]
    exact h
  refine ⟨ρ, F, S, ι, G, em, sr, Thn.bind (rel2 := DR T X.K) h' fun x S1 vx ι1 G1 H1 em1 x1 dx h1 => ?_⟩
  cases x with
  | bl q =>
    simp only [DR] at dx
    exact ⟨q, dx, Thn.ok h1 em1 (by simp only [DR])⟩
  | _ => exact h1.elim
theorem je_if (hc : JT T X W c ta) (ha : JE T X W a ia) (hb : JE T X W b ib) : JE T X W (.IfExp c a b pos) (iIf ta ia ib) := by
  refine PE.mono (pe_ifExp hc ha hb) fun σ H Q ⟨ρ, F, S, ι, G, em, sr, h⟩ => ?_
  refine ⟨ρ, F, S, ι, G, em, sr, Thn.bind (rel2 := fun _ _ (a b : Bool) => a = b) h fun x S1 vx ι1 G1 H1 em1 x1 dx h1 => ?_⟩
  subst dx
  cases x with
  | true => exact iteT ⟨ρ, F, S1, ι1, G1, em1, sr.mono x1, h1⟩
  | false => exact iteF ⟨ρ, F, S1, ι1, G1, em1, sr.mono x1, h1⟩
/-! ### argument lists -/
def iNil : IA := fun _ => M.ret []
def iCons (ia : IE) (ir : IA) : IA := fun ρ => M.bind (ia ρ) fun x => M.bind (ir ρ) fun xs => M.ret (x :: xs)
theorem ja_nil : JA T X W [] iNil := PA.mono pa_nil fun σ H Q ⟨ρ, F, S, ι, G, em, sr, h⟩ => Thn.ok h em DRs.nil
theorem cons_go {ir : IA} {σ : L2.St} {H : Hp} {Q : List V → Hp → Prop} (h : tA T X.K W (iCons ia ir) σ H Q) : tCons (tE T X.K W ia) (tA T X.K W ir) σ H Q := by
  obtain ⟨ρ, F, S, ι, G, em, sr, h⟩ := h
  refine ⟨ρ, F, S, ι, G, em, sr, Thn.bind (rel2 := DR T X.K) h fun x S1 vx ι1 G1 H1 em1 x1 dx h1 => ?_⟩
  refine ⟨ρ, F, S1, ι1, G1, em1, sr.mono x1, Thn.bind (rel2 := DRs T X.K) h1 fun y S2 vy ι2 G2 H2 em2 x2 dy h2 => ?_⟩
  exact Thn.ok h2 em2 (DRs.cons (dx.mono x2.1 x2.2) dy)
theorem ja_cons {ir : IA} (ha : JE T X W e ia) (hr : JA T X W es ir) (hs : starEach (e :: es) X.env = (false, eval e X.env) :: starEach es X.env := by rfl) : JA T X W (e :: es) (iCons ia ir) :=
  PA.mono (pa_cons ha hr hs) fun σ H Q h => cons_go h
/-! ### displays -/
def iTup (ia : IA) : IE := fun ρ => M.bind (ia ρ) fun xs => if xs.length ≤ 100000 then M.ret (.tup xs) else M.no
def iLst (ia : IA) : IE := fun ρ => M.bind (ia ρ) fun xs => if xs.length ≤ 100000 then M.ret (.lst xs) else M.no
/-- a list that will change -/
def iLstM (ia : IA) : IE := fun ρ => M.bind (ia ρ) fun xs => if xs.length ≤ 100000 then fun S => .ok (.ref S.next) (S.alloc (.lst xs)) else M.no
theorem sz_of {n : Nat} (hn : n ≤ 100000) : n ≤ sizeLine := Nat.le_trans hn (show (100000 : Nat) ≤ sizeLine by decide)
theorem je_tup {x1} {ia : IA} (h : JA T X W es ia) : JE T X W (.Tuple es x1 pos) (iTup ia) := by
  refine PE.mono (pe_tup h) fun σ H Q ⟨ρ, F, S, ι, G, em, sr, h⟩ => ?_
  refine ⟨ρ, F, S, ι, G, em, sr, Thn.bind (rel2 := DRs T X.K) h fun xs S1 vx ι1 G1 H1 em1 x1 dx h1 => ?_⟩
  by_cases hl : xs.length ≤ 100000
  · rw [if_pos hl] at h1
    refine ⟨by rw [← dx.length]; exact sz_of hl, fun p hp => ?_⟩
    obtain ⟨em2, x2⟩ := em1.frz (o := .tup vx) hp
    exact h1 _ _ _ _ em2 x2 (by simp only [DR]; exact ⟨p, vx, rfl, upd_same, dx.mono x2.1 x2.2⟩)
  · rw [if_neg hl] at h1
    exact h1.elim
theorem je_lst {ia : IA} (h : JA T X W es ia) : JE T X W (.List es pos) (iLst ia) := by
  refine PE.mono (pe_lst h) fun σ H Q ⟨ρ, F, S, ι, G, em, sr, h⟩ => ?_
  refine ⟨ρ, F, S, ι, G, em, sr, Thn.bind (rel2 := DRs T X.K) h fun xs S1 vx ι1 G1 H1 em1 x1 dx h1 => ?_⟩
  by_cases hl : xs.length ≤ 100000
  · rw [if_pos hl] at h1
    refine ⟨by rw [← dx.length]; exact sz_of hl, fun p hp => ?_⟩
    obtain ⟨em2, x2⟩ := em1.frz (o := .lst vx) hp
    exact h1 _ _ _ _ em2 x2 (by simp only [DR]; exact ⟨p, vx, rfl, upd_same, dx.mono x2.1 x2.2⟩)
  · rw [if_neg hl] at h1
    exact h1.elim
theorem je_lstM {ia : IA} (h : JA T X W es ia) : JE T X W (.List es pos) (iLstM ia) := by
  refine PE.mono (pe_lst h) fun σ H Q ⟨ρ, F, S, ι, G, em, sr, h⟩ => ?_
  refine ⟨ρ, F, S, ι, G, em, sr, Thn.bind (rel2 := DRs T X.K) h fun xs S1 vx ι1 G1 H1 em1 x1 dx h1 => ?_⟩
  by_cases hl : xs.length ≤ 100000
  · rw [if_pos hl] at h1
    refine ⟨by rw [← dx.length]; exact sz_of hl, fun p hp => ?_⟩
    obtain ⟨em2, x2, hn⟩ := em1.alloc (o := .lst xs) (u := .lst vx) hp ⟨vx, rfl, dx⟩
    exact h1 _ _ _ _ em2 x2 (by simp only [DR]; exact ⟨p, hn, rfl⟩)
  · rw [if_neg hl] at h1
    exact h1.elim
end
/-! ### calls of built-ins -/
abbrev OpN := List D → Store → Option D
def iCB (f : OpN) (ia : IA) : IE := fun ρ => M.bind (ia ρ) fun xs => fun S => lift (f xs S) S
def CaS (T : Tab) (K : PySem.W.Frag) (r : List V → Hp → VK → Prop) (f : OpN) : Prop := ∀ F S ι G H xs d vs (Q : VK), Em T K F S ι G H → DRs T K G ι xs vs → f xs S = some d →
  (∀ v G' H', Em T K F S ι G' H' → Ext G ι G' ι → DR T K G' ι d v → Q v H') → r vs H Q
theorem CaS.or {T : Tab} {K : PySem.W.Frag} {r r' : List V → Hp → VK → Prop} {f g k : OpN} (h : CaS T K r f) (h' : CaS T K r' g) (hk : ∀ x S d, k x S = some d → f x S = some d ∨ g x S = some d) : CaS T K (fun x H Q => r x H Q ∨ r' x H Q) k :=
  fun F S ι G H x d vx Q em dx e q => (hk x S d e).elim (fun z => .inl (h F S ι G H x d vx Q em dx z q)) fun z => .inr (h' F S ι G H x d vx Q em dx z q)
section
variable {T : Tab} {X : Cx} {W : WX} {a b c e : Expr} {es rest : List Expr} {ia : IA} {pos p : Pos} {r : List V → Hp → VK → Prop} {f : OpN} {id Ty : String} {x : Str}
theorem cb_go (hf : CaS T X.K r f) {σ : L2.St} {H : Hp} {Q : VK} (h : tE T X.K W (iCB f ia) σ H Q) : tCB r (tA T X.K W ia) σ H Q := by
  obtain ⟨ρ, F, S, ι, G, em, sr, h⟩ := h
  refine ⟨ρ, F, S, ι, G, em, sr, Thn.bind (rel2 := DRs T X.K) h fun x S1 vx ι1 G1 H1 em1 x1 dx h1 => ?_⟩
  obtain ⟨d, e, h3⟩ := Thn.lift h1
  exact hf F S1 ι1 G1 H1 x d vx Q em1 dx e fun v G' H' em' x' r' => h3 v ι1 G' H' em' x' r'
theorem je_callB (hc : CallR X (.builtin id) r) (hf : CaS T X.K r f) (hg : Gl X x) (hm : X.mg x = none) (hv : bootBuiltins x = some (.builtin id)) (ha : JA T X W (e :: es) ia) (hn : x ≠ "__name__" := by decide) (hdb : (x == ("__debug__" : Str)) = false := by decide)
    (he : starEach (e :: es) X.env = (false, eval e X.env) :: starEach es X.env := by rfl) (hpl : (backTo pos (starEach es X.env)).any (·.1) = false := by rfl) : JE T X W (.Call (.Name x p) (e :: es) [] pos) (iCB f ia) :=
  PE.mono (pe_callB hc hg hm hv ha hn hdb he hpl) fun σ H Q h => cb_go hf h
theorem je_callTy (hc : CallR X (.type Ty) r) (hf : CaS T X.K r f) (hg : Gl X x) (hm : X.mg x = none) (hv : bootBuiltins x = some (.type Ty)) (ha : JA T X W (e :: es) ia) (hn : x ≠ "__name__" := by decide) (hdb : (x == ("__debug__" : Str)) = false := by decide)
    (he : starEach (e :: es) X.env = (false, eval e X.env) :: starEach es X.env := by rfl) (hpl : (backTo pos (starEach es X.env)).any (·.1) = false := by rfl) : JE T X W (.Call (.Name x p) (e :: es) [] pos) (iCB f ia) :=
  PE.mono (pe_callTy hc hg hm hv ha hn hdb he hpl) fun σ H Q h => cb_go hf h
end
/-! ### methods of built-ins -/
abbrev OpM := D → List D → M D
inductive Kd where
  | s | l | d
def Kd.nm : Kd → String
  | .s => "str"
  | .l => "list"
  | .d => "dict"
def kindIs : Kd → D → Store → Bool
  | .s, .str _, _ => true
  | .l, .lst _, _ => true
  | .l, .scr _, _ => true
  | k, .ref n, S => match k, S.get n with
    | .l, some (.lst _) => true
    | .d, some (.dct _) => true
    | .d, some (.dcT _) => true
    | _, _ => false
  | _, _, _ => false
def iBM (Ty : Kd) (f : OpM) (io : IE) (ia : IA) : IE := fun ρ => M.bind (io ρ) fun x => fun S => if kindIs Ty x S = true then M.bind (ia ρ) (fun xs => f x xs) S else .no
def MtS (T : Tab) (K : PySem.W.Frag) (r : V → List V → Hp → VK → Prop) (f : OpM) : Prop := ∀ F S ι G H x xs vx vs W σ (Q : VK), Em T K F S ι G H → DR T K G ι x vx → DRs T K G ι xs vs → Thn T K F W σ G ι (DR T K) (f x xs S) Q → r vx vs H Q
theorem kind_ty {T : Tab} {K : PySem.W.Frag} {F : Hp} {S : Store} {ι : List Addr} {G H : Hp} {Ty : Kd} {x : D} {v : V} (em : Em T K F S ι G H) (h : DR T K G ι x v) (k : kindIs Ty x S = true) : tyV K Ty.nm v H := by
  cases x with
  | str l =>
    simp only [DR] at h
    subst h
    cases Ty with
    | s => exact rfl
    | _ => cases k
  | lst l =>
    simp only [DR] at h
    obtain ⟨a, vs, rfl, q, _⟩ := h
    cases Ty with
    | l => exact .inl ⟨rfl, vs, SqL.of (em.sub _ _ q)⟩
    | _ => cases k
  | scr l =>
    simp only [DR] at h
    obtain ⟨a, vs, rfl, q, _⟩ := h
    cases Ty with
    | l => exact .inl ⟨rfl, vs, Same.seq em.sub q⟩
    | _ => cases k
  | dct ks l => cases Ty <;> cases k
  | ref n =>
    simp only [DR] at h
    obtain ⟨a, ha, rfl⟩ := h
    cases e : S.get n with
    | none =>
      cases Ty <;> simp [kindIs, e] at k
    | some o =>
      obtain ⟨a', u, h1, _, _, h4, h5⟩ := em.obj n o e
      rw [ha] at h1
      cases h1
      cases o with
      | lst xs =>
        obtain ⟨vs, rfl, _⟩ := h5
        cases Ty with
        | l => exact .inl ⟨rfl, vs, SqL.of h4⟩
        | _ => simp [kindIs, e] at k
      | dct xs =>
        obtain ⟨vs, rfl, _⟩ := h5
        cases Ty with
        | d => exact .inr (.inr (.inl ⟨rfl, .inl ⟨_, h4⟩⟩))
        | _ => simp [kindIs, e] at k
      | dcT xs =>
        obtain ⟨vs, rfl, _⟩ := h5
        cases Ty with
        | d => exact .inr (.inr (.inl ⟨rfl, .inr ⟨_, h4⟩⟩))
        | _ => simp [kindIs, e] at k
      | ins c fs => cases Ty <;> simp [kindIs, e] at k
  | _ => cases Ty <;> cases k
section
variable {T : Tab} {X : Cx} {W : WX} {o e : Expr} {es : List Expr} {io : IE} {ia : IA} {name : Str} {apos cpos : Pos} {Ty : Kd} {id : String} {r : V → List V → Hp → VK → Prop} {f : OpM}
/-- few plain arguments, no keywords -/
abbrev fewA (X : Cx) (cpos : Pos) (e : Expr) (es : List Expr) : Bool := (backTo cpos (starEach (e :: es) X.env)).all (fun q => !q.1) && (backToKw cpos (keywordEach [] X.env)).all (fun q => q.1.isSome) && decide ((e :: es).length + ([] : List Keyword).length + (if ([] : List Keyword).isEmpty then 0 else 1) < 30)
theorem je_bm (pa : PlainAttrs Ty.nm) (slot : Slot Ty.nm name id) (hty : typeOf (.builtin id) = pure (.type "method_descriptor")) (hm : MtR X id r) (hf : MtS T X.K r f) (ho : JE T X W o io) (ha : JA T X W (e :: es) ia)
    (h0 : attributeBase o name X.env (eval o X.env) = eval o X.env := by rfl)
    (few : fewA X cpos e es = true := by rfl) (ln : (apos.endLine == cpos.line) = true := by rfl) (st : starEach (e :: es) X.env = (false, eval e X.env) :: starEach es X.env := by rfl) (hplain : (backTo cpos (starEach es X.env)).any (·.1) = false := by rfl) :
    JE T X W (.Call (.Attribute o name apos) (e :: es) [] cpos) (iBM Ty f io ia) := by
  refine PE.mono (pe_bm pa slot hty hm ho ha h0 few ln st hplain) fun σ H Q ⟨ρ, F, S, ι, G, em, sr, h⟩ => ?_
  refine ⟨ρ, F, S, ι, G, em, sr, Thn.bind (rel2 := DR T X.K) h fun x S1 vx ι1 G1 H1 em1 x1 dx h1 => ?_⟩
  by_cases hk : kindIs Ty x S1 = true
  · rw [if_pos hk] at h1
    refine ⟨kind_ty em1 dx hk, ρ, F, S1, ι1, G1, em1, sr.mono x1, Thn.bind (rel2 := DRs T X.K) h1 fun y S2 vy ι2 G2 H2 em2 x2 dy h2 => ?_⟩
    exact hf F S2 ι2 G2 H2 x y vx vy W σ Q em2 (dx.mono x2.1 x2.2) dy h2
  · rw [if_neg hk] at h1
    exact h1.elim
def iBM0 (Ty : Kd) (f : OpM) (io : IE) : IE := fun ρ => M.bind (io ρ) fun x => fun S => if kindIs Ty x S = true then f x [] S else .no
end
/-! ### slices -/
def cutD {α : Type} (xs : List α) (lo hi : Option Int) : List α := (xs.drop (HT.sIx xs.length 0 lo)).take (HT.sIx xs.length xs.length hi - HT.sIx xs.length 0 lo)
abbrev OpC := D → Option Int → Option Int → Store → Option D
abbrev IO := Rho → M (Option Int)
def iPart (ie : IE) : IO := fun ρ => M.bind (ie ρ) fun d => match d with
  | .int i => M.ret (some i)
  | _ => M.no
def iNoPart : IO := fun _ => M.ret none
def iSl (f : OpC) (ie : IE) (il ih : IO) : IE := fun ρ => M.bind (ie ρ) fun x => M.bind (il ρ) fun l => M.bind (ih ρ) fun u => fun S => lift (f x l u S) S
abbrev tO (T : Tab) (K : PySem.W.Frag) (W : WX) (io : IO) : TO := tG T K W (fun _ _ (a b : Option Int) => a = b) io
def SlS (T : Tab) (K : PySem.W.Frag) (r : V → Option Int → Option Int → Hp → VK → Prop) (f : OpC) : Prop := ∀ F S ι G H x l u d vx (Q : VK), Em T K F S ι G H → DR T K G ι x vx → f x l u S = some d →
  (∀ v G' H', Em T K F S ι G' H' → Ext G ι G' ι → DR T K G' ι d v → Q v H') → r vx l u H Q
theorem SlS.or {T : Tab} {K : PySem.W.Frag} {r r' : V → Option Int → Option Int → Hp → VK → Prop} {f g k : OpC} (h : SlS T K r f) (h' : SlS T K r' g) (hk : ∀ x l u S d, k x l u S = some d → f x l u S = some d ∨ g x l u S = some d) : SlS T K (fun x l u H Q => r x l u H Q ∨ r' x l u H Q) k :=
  fun F S ι G H x l u d vx Q em dx e q => (hk x l u S d e).elim (fun z => .inl (h F S ι G H x l u d vx Q em dx z q)) fun z => .inr (h' F S ι G H x l u d vx Q em dx z q)
section
variable {T : Tab} {X : Cx} {W : WX} {e : Expr} {lo hi : Option Expr} {ie : IE} {il ih : IO} {pos p2 : Pos} {r : V → Option Int → Option Int → Hp → VK → Prop} {f : OpC}
theorem jo_none : PO X none (tO T X.K W iNoPart) := ⟨fun pins s σ H Q I h => by
  obtain ⟨ρ, F, S, ι, G, em, sr, h⟩ := h
  exact po_none.run pins s σ H Q I (Thn.ok h em rfl)⟩
theorem jo_some (h : JE T X W e ie) : PO X (some e) (tO T X.K W (iPart ie)) := ⟨fun pins s σ H Q I k => by
  refine (po_some h).run pins s σ H Q I ?_
  obtain ⟨ρ, F, S, ι, G, em, sr, k⟩ := k
  refine ⟨ρ, F, S, ι, G, em, sr, Thn.bind (rel2 := DR T X.K) k fun x S1 vx ι1 G1 H1 em1 x1 dx h1 => ?_⟩
  cases x with
  | int i =>
    simp only [DR] at dx
    exact ⟨i, dx, Thn.ok h1 em1 rfl⟩
  | _ => exact h1.elim⟩
theorem je_slice (hr : SlR X r) (hf : SlS T X.K r f) (he : JE T X W e ie) (hl : PO X lo (tO T X.K W il)) (hu : PO X hi (tO T X.K W ih)) : JE T X W (.Subscript e (.Slice lo hi none p2) pos) (iSl f ie il ih) := by
  refine PE.mono (pe_slice hr he hl hu) fun σ H Q ⟨ρ, F, S, ι, G, em, sr, h⟩ => ?_
  refine ⟨ρ, F, S, ι, G, em, sr, Thn.bind (rel2 := DR T X.K) h fun x S1 vx ι1 G1 H1 em1 x1 dx h1 => ?_⟩
  refine ⟨ρ, F, S1, ι1, G1, em1, sr.mono x1, Thn.bind (rel2 := fun _ _ (a b : Option Int) => a = b) h1 fun l S2 vl ι2 G2 H2 em2 x2 dl h2 => ?_⟩
  subst dl
  refine ⟨ρ, F, S2, ι2, G2, em2, (sr.mono x1).mono x2, Thn.bind (rel2 := fun _ _ (a b : Option Int) => a = b) h2 fun u S3 vu ι3 G3 H3 em3 x3 du h3 => ?_⟩
  subst du
  obtain ⟨d, e, h4⟩ := Thn.lift h3
  exact hf F S3 ι3 G3 H3 x l u d vx Q em3 ((dx.mono x2.1 x2.2).mono x3.1 x3.2) e fun v G' H' em' x' r' => h4 v ι3 G' H' em' x' r'
end
end J
set_option Elab.async false
set_option linter.all false
set_option maxRecDepth 100000
set_option maxHeartbeats 410000
/-! J3: statements, loops, comprehensions, defs -/
namespace J
open PySem PySem.Spec L2
def ThnS (T : Tab) (K : PySem.W.Frag) (F : Hp) (W : WX) (G : Hp) (ι : List Addr) (m : R Fl) (E : Ends) : Prop := Runs m (fun fl S' => match fl with
    | .nx ρ => ∀ σ' ι' G' H', Em T K F S' ι' G' H' → Ext G ι G' ι' → SR T K G' ι' ρ σ' → E.nx σ' H'
    | .rt d => ∀ v ι' G' H', Em T K F S' ι' G' H' → Ext G ι G' ι' → DR T K G' ι' d v → E.rt v H'
    | .bk ρ => ∀ σ' ι' G' H', Em T K F S' ι' G' H' → Ext G ι G' ι' → SR T K G' ι' ρ σ' → E.bk σ' H'
    | .ct ρ => ∀ σ' ι' G' H', Em T K F S' ι' G' H' → Ext G ι G' ι' → SR T K G' ι' ρ σ' → E.ct σ' H'
    | .xx c fs ρ => ∀ dd σ' ι' G' H', Em T K F S' ι' G' H' → Ext G ι G' ι' → SR T K G' ι' ρ σ' → XR T K G' ι' fs dd → W (.ref (He.ga K (T.cn c))) dd σ' H') (fun _ _ _ => False)
def tS (T : Tab) (K : PySem.W.Frag) (W : WX) (is : IS) : TS := fun E σ H => ∃ ρ F S ι G, Em T K F S ι G H ∧ SR T K G ι ρ σ ∧ ThnS T K F W G ι (is ρ S) E
abbrev JS (T : Tab) (X : Cx) (W : WX) (st : Stmt) (is : IS) : Prop := PS X st (tS T X.K W is)
abbrev JSs (T : Tab) (X : Cx) (W : WX) (st : List Stmt) (is : IS) : Prop := PSs X st (tS T X.K W is)
theorem PS.mono {X : Cx} {e : Stmt} {t t' : TS} (h : PS X e t) (k : ∀ D σ H, t' D σ H → t D σ H) : PS X e t' := ⟨fun pins s σ H D I q => h.run pins s σ H D I (k D σ H q)⟩
theorem PSs.mono {X : Cx} {e : List Stmt} {t t' : TS} (h : PSs X e t) (k : ∀ D σ H, t' D σ H → t D σ H) : PSs X e t' := ⟨fun pins s σ H D I q => h.run pins s σ H D I (k D σ H q)⟩
/-- an expression within a statement -/
def sBind {α : Type} (m : M α) (ρ : Rho) (k : α → M Fl) : M Fl := fun S => match m S with
  | .ok a S' => k a S'
  | .ex c fs S' => .ok (.xx c fs ρ) S'
  | .no => .no
section
variable {T : Tab} {K : PySem.W.Frag} {F : Hp} {W : WX} {σ : L2.St} {G G1 : Hp} {ι ι1 : List Addr}
theorem ThnS.ext {m : R Fl} {E : Ends} (h : ThnS T K F W G ι m E) (x : Ext G ι G1 ι1) : ThnS T K F W G1 ι1 m E := by
  refine Runs.imp h (fun fl S' q => ?_) fun _ _ _ q => q
  cases fl with
  | xx c fs ρ => exact fun dd σ' ι' G' H' em y r => q dd σ' ι' G' H' em (x.trans y) r
  | _ => exact fun v ι' G' H' em y r => q v ι' G' H' em (x.trans y) r
theorem ThnS.bind {α β : Type} {rel : Hp → List Addr → α → β → Prop} {m : M α} {k : α → M Fl} {ρ : Rho} {S : Store} {E : Ends} {Q : β → Hp → Prop} (h : ThnS T K F W G ι (sBind m ρ k S) E) (sr : SR T K G ι ρ σ)
    (go : ∀ a S1 v ι1 G1 H1, Em T K F S1 ι1 G1 H1 → Ext G ι G1 ι1 → rel G1 ι1 a v → ThnS T K F W G1 ι1 (k a S1) E → Q v H1) : Thn T K F W σ G ι rel (m S) Q := by
  unfold sBind at h
  cases e : m S with
  | ok a S1 =>
    rw [e] at h
    exact fun v ι' G' H' em y r => go a S1 v ι' G' H' em y r (ThnS.ext h y)
  | ex c fs S1 =>
    rw [e] at h
    exact fun dd ι' G' H' em y r => h dd σ ι' G' H' em y (sr.mono y) r
  | no =>
    rw [e] at h
    exact h.elim
theorem ThnS.nx {ρ : Rho} {S : Store} {E : Ends} (h : ThnS T K F W G ι (.ok (.nx ρ) S) E) {H : Hp} (em : Em T K F S ι G H) (r : SR T K G ι ρ σ) : E.nx σ H := h σ ι G H em (Ext.refl _ _) r
/-- an end that wants more -/
theorem ThnS.imp {m : R Fl} {E E' : Ends} (h : ThnS T K F W G ι m E) (h1 : ∀ σ H, E.nx σ H → E'.nx σ H) (h2 : ∀ v H, E.rt v H → E'.rt v H) (h3 : ∀ σ H, E.bk σ H → E'.bk σ H) (h4 : ∀ σ H, E.ct σ H → E'.ct σ H) : ThnS T K F W G ι m E' := by
  refine Runs.imp h (fun fl S' q => ?_) fun _ _ _ q => q
  cases fl with
  | nx ρ => exact fun v ι' G' H' em y r => h1 _ _ (q v ι' G' H' em y r)
  | rt ρ => exact fun v ι' G' H' em y r => h2 _ _ (q v ι' G' H' em y r)
  | bk ρ => exact fun v ι' G' H' em y r => h3 _ _ (q v ι' G' H' em y r)
  | ct ρ => exact fun v ι' G' H' em y r => h4 _ _ (q v ι' G' H' em y r)
  | xx c fs ρ => exact q
end
def sSeq (a b : IS) : IS := fun ρ S => match a ρ S with
  | .ok (.nx ρ') S' => b ρ' S'
  | r => r
def sNext : IS := fun ρ => M.ret (.nx ρ)
def sExpr (ie : IE) : IS := fun ρ => sBind (ie ρ) ρ fun _ => M.ret (.nx ρ)
def sAsg (i : Nat) (ie : IE) : IS := fun ρ => sBind (ie ρ) ρ fun d => M.ret (.nx (ρ.set i (some d)))
def sRet (ie : IE) : IS := fun ρ => sBind (ie ρ) ρ fun d => M.ret (.rt d)
def sRetN : IS := fun _ => M.ret (.rt .non)
def sIf (t : IT) (a b : IS) : IS := fun ρ => sBind (t ρ) ρ fun c => if c = true then a ρ else b ρ
section
variable {T : Tab} {X : Cx} {W : WX} {st : Stmt} {rest : List Stmt} {is ir : IS} {e c : Expr} {ie : IE} {t : IT} {pos : Pos}
theorem jss_nil : JSs T X W [] sNext := PSs.mono pss_nil fun D σ H ⟨ρ, F, S, ι, G, em, sr, h⟩ => h.nx em sr
theorem jss_cons (h1 : JS T X W st is) (h2 : JSs T X W rest ir) : JSs T X W (st :: rest) (sSeq is ir) := by
  refine PSs.mono (pss_cons h1 h2) fun D σ H ⟨ρ, F, S, ι, G, em, sr, h⟩ => ?_
  refine ⟨ρ, F, S, ι, G, em, sr, ?_⟩
  unfold sSeq at h
  cases q : is ρ S with
  | ok fl S1 =>
    rw [q] at h
    cases fl with
    | nx ρ' => exact fun σ' ι' G' H' em' y r => ⟨ρ', F, S1, ι', G', em', r, ThnS.ext h y⟩
    | _ => exact h
  | ex _ _ _ => rw [q] at h; exact h.elim
  | no => rw [q] at h; exact h.elim
theorem jss_one (h1 : JS T X W st is) : JSs T X W [st] is := pss_one h1
theorem js_expr (he : JE T X W e ie) (hs : swapsWith e none pos.line X.env = pure false := by rfl) : JS T X W (.Expr e pos) (sExpr ie) :=
  PS.mono (ps_expr he hs) fun D σ H ⟨ρ, F, S, ι, G, em, sr, h⟩ => ⟨ρ, F, S, ι, G, em, sr, ThnS.bind (rel := DR T X.K) h sr fun a S1 v ι1 G1 H1 em1 x1 r h1 => h1.nx em1 (sr.mono x1)⟩
theorem js_ret (he : JE T X W e ie) : JS T X W (.Return (some e) pos) (sRet ie) :=
  PS.mono (ps_ret he) fun D σ H ⟨ρ, F, S, ι, G, em, sr, h⟩ => ⟨ρ, F, S, ι, G, em, sr, ThnS.bind (rel := DR T X.K) h sr fun a S1 v ι1 G1 H1 em1 x1 r h1 => h1 v ι1 G1 H1 em1 (Ext.refl _ _) r⟩
theorem js_set {i : Nat} {x : Str} {pos' : Pos} (hN : X.N.Nodup) (hi : X.N[i]? = some x) (hx : Loc X.env.scope x) (he : JE T X W e ie) (hs : swapsWith e (some (.Name x pos')) pos.line X.env = pure false := by rfl)
    (hf : X.fn x = true ∨ X.env.scope.names.lookup x = some .local := by first | exact .inl rfl | exact .inr rfl | assumption) : JS T X W (.Assign [.Name x pos'] e pos) (sAsg i ie) :=
  PS.mono (ps_set hN hi hx he hs hf) fun D σ H ⟨ρ, F, S, ι, G, em, sr, h⟩ => ⟨ρ, F, S, ι, G, em, sr, ThnS.bind (rel := DR T X.K) h sr fun a S1 v ι1 G1 H1 em1 x1 r h1 => h1.nx em1 ((sr.mono x1).set r i)⟩
theorem js_if {a b : List Stmt} {ia ib : IS} (hc : JT T X W c t) (ha : JSs T X W a ia) (hb : JSs T X W b ib) : JS T X W (.If c a b pos) (sIf t ia ib) := by
  refine PS.mono (ps_if hc ha hb) fun D σ H ⟨ρ, F, S, ι, G, em, sr, h⟩ => ⟨ρ, F, S, ι, G, em, sr, ThnS.bind (rel := fun _ _ (a b : Bool) => a = b) h sr fun q S1 v ι1 G1 H1 em1 x1 r h1 => ?_⟩
  subst r
  cases q with
  | true => exact iteT ⟨ρ, F, S1, ι1, G1, em1, sr.mono x1, h1⟩
  | false => exact iteF ⟨ρ, F, S1, ι1, G1, em1, sr.mono x1, h1⟩
end
/-! ### targets that are names -/
inductive NG where
  | n (i : Nat) | t (is : List Nat)
def gNames : List Nat → TGs
  | [] => gNil
  | i :: is => gCons (gName i) (gNames is)
def ngV (K : PySem.W.Frag) : NG → TG
  | .n i => gName i
  | .t is => gTup K is.length (gNames is)
def nsD : List Nat → List D → Rho → Option Rho
  | [], [], ρ => some ρ
  | i :: is, d :: ds, ρ => nsD is ds (ρ.set i (some d))
  | _, _, _ => none
def ngD : NG → D → Rho → Option Rho
  | .n i, d, ρ => some (ρ.set i (some d))
  | .t is, .tup ds, ρ => nsD is ds ρ
  | .t _, _, _ => none
def NG.slots : NG → List Nat
  | .n i => [i]
  | .t is => is
theorem wipe_set {σ : L2.St} {i : Nat} {x : Option V} : ∀ {vs : List Nat}, i ∈ vs → wipe (σ.set i x) vs = wipe σ vs
  | v :: vs, h => by
    unfold wipe
    by_cases hi : i ∈ vs
    · rw [wipe_set hi]
    · have e : v = i := by
        rcases List.mem_cons.mp h with h | h
        · exact h.symm
        · exact absurd h hi
      subst e
      have key : ∀ (ws : List Nat) (τ : L2.St), v ∉ ws → wipe (τ.set v x) ws = (wipe τ ws).set v x := by
        intro ws
        induction ws with
        | nil => intro τ _; rfl
        | cons w ws ih =>
          intro τ hv
          unfold wipe
          rw [ih τ fun z => hv (List.mem_cons_of_mem _ z)]
          exact List.set_comm _ _ fun z => hv (z ▸ List.mem_cons_self)
      rw [key vs σ hi, List.set_set]
theorem ns_ok {T : Tab} {K : PySem.W.Frag} {G H : Hp} {ι : List Addr} {Q : L2.St → Hp → Prop} : ∀ {is : List Nat} {ds : List D} {vs : List V} {ρ ρ' : Rho} {σ : L2.St}, SR T K G ι ρ σ → DRs T K G ι ds vs → nsD is ds ρ = some ρ' →
    (∀ σ', SR T K G ι ρ' σ' → (∀ ws, (∀ i ∈ is, i ∈ ws) → wipe σ' ws = wipe σ ws) → Q σ' H) → gNames is vs σ H Q
  | [], [], vs, ρ, ρ', σ, sr, dr, e, k => by
    simp only [DRs] at dr
    cases e
    exact ⟨dr, k σ sr fun _ _ => rfl⟩
  | i :: is, d :: ds, vs, ρ, ρ', σ, sr, dr, e, k => by
    simp only [DRs] at dr
    obtain ⟨v, r, rfl, h1, h2⟩ := dr
    refine ⟨v, r, rfl, ns_ok (is := is) (ds := ds) (sr.set h1 i) h2 e fun σ' sr' hw => k σ' sr' fun ws hs => ?_⟩
    rw [hw ws fun j hj => hs j (List.mem_cons_of_mem _ hj)]
    exact wipe_set (hs i List.mem_cons_self)
  | [], _ :: _, _, _, _, _, _, _, e, _ => by cases e
  | _ :: _, [], _, _, _, _, _, _, e, _ => by cases e
theorem nsD_len : ∀ {is : List Nat} {ds : List D} {ρ ρ' : Rho}, nsD is ds ρ = some ρ' → is.length = ds.length
  | [], [], _, _, _ => rfl
  | i :: is, d :: ds, ρ, ρ', e => by simp [nsD_len (is := is) (ds := ds) e]
  | [], _ :: _, _, _, e => by cases e
  | _ :: _, [], _, _, e => by cases e
theorem ng_ok {T : Tab} {K : PySem.W.Frag} {F : Hp} {S : Store} {G H : Hp} {ι : List Addr} {Q : L2.St → Hp → Prop} {g : NG} {d : D} {v : V} {ρ ρ' : Rho} {σ : L2.St} (em : Em T K F S ι G H) (sr : SR T K G ι ρ σ) (dr : DR T K G ι d v) (e : ngD g d ρ = some ρ')
    (k : ∀ σ', SR T K G ι ρ' σ' → (∀ ws, (∀ i ∈ g.slots, i ∈ ws) → wipe σ' ws = wipe σ ws) → Q σ' H) : ngV K g v σ H Q := by
  cases g with
  | n i =>
    cases e
    exact k _ (sr.set dr i) fun ws hs => wipe_set (hs i (by simp [NG.slots]))
  | t is =>
    cases d with
    | tup ds =>
      simp only [DR] at dr
      obtain ⟨a, vs, rfl, h1, h2⟩ := dr
      exact ⟨a, vs, rfl, SqT.of (em.sub _ _ h1), by rw [← h2.length]; exact (nsD_len (show nsD is ds ρ = some ρ' from e)).symm, ns_ok sr h2 e k⟩
    | _ => cases e
theorem jg_name {X : Cx} {i : Nat} {x : Str} {pos : Pos} (hN : X.N.Nodup) (hi : X.N[i]? = some x) (hx : Loc X.env.scope x) (hf : X.fn x = true ∨ X.env.scope.names.lookup x = some .local := by first | exact .inl rfl | exact .inr rfl | assumption) : PG X (.Name x pos) (ngV X.K (.n i)) := pg_name hN hi hx hf
theorem jgs_nil {X : Cx} : PGs X [] (gNames []) := pgs_nil
theorem jgs_cons {X : Cx} {i : Nat} {is : List Nat} {x : Str} {pos : Pos} {es : List Expr} (hN : X.N.Nodup) (hi : X.N[i]? = some x) (hx : Loc X.env.scope x) (h2 : PGs X es (gNames is))
    (hf : X.fn x = true ∨ X.env.scope.names.lookup x = some .local := by first | exact .inl rfl | exact .inr rfl | assumption) (hs : (assignEach (.Name x pos :: es) X.env).map (·.2) = assign (.Name x pos) X.env :: (assignEach es X.env).map (·.2) := by rfl) : PGs X (.Name x pos :: es) (gNames (i :: is)) := pgs_cons (pg_name hN hi hx hf) h2 hs
theorem jg_tup {X : Cx} {es : List Expr} {k : Nat} {is : List Nat} {pos : Pos} (hc : X.calm = true) (h : PGs X es (gNames is)) (hn : (assignEach es X.env).length = is.length := by rfl) (hst : (assignEach es X.env).findIdx? (·.1) = none := by rfl) : PG X (.Tuple es k pos) (ngV X.K (.t is)) := pg_tup hc h hn hst
/-! ### what is walked -/
def Walk (T : Tab) (K : PySem.W.Frag) (ι : List Addr) (G : Hp) (J : It) (xs : List D) : Prop := ∀ (i : Nat) F S ι1 G1 H1, Em T K F S ι1 G1 H1 → Ext G ι G1 ι1 →
  (∀ x, xs[i]? = some x → J.go i H1 ∧ ∀ v H2, J.yld i H1 v H2 → ∃ G2, Em T K F S ι1 G2 H2 ∧ Ext G1 ι1 G2 ι1 ∧ DR T K G2 ι1 x v) ∧ (i = xs.length → J.stop i H1)
def tI (T : Tab) (K : PySem.W.Frag) (W : WX) (src : IA) : TI := fun σ H R => ∃ ρ F S ι G, Em T K F S ι G H ∧ SR T K G ι ρ σ ∧
  Runs (src ρ S) (fun xs S' => ∀ J ι' G' H', Em T K F S' ι' G' H' → Ext G ι G' ι' → Walk T K ι' G' J xs → R J H')
    (fun c fs S' => ∀ dd ι' G' H', Em T K F S' ι' G' H' → Ext G ι G' ι' → XR T K G' ι' fs dd → W (.ref (He.ga K (T.cn c))) dd σ H')
abbrev JI (T : Tab) (X : Cx) (W : WX) (tg iter : Expr) (src : IA) : Prop := PI X tg iter (tI T X.K W src)
theorem PI.mono {X : Cx} {tg e : Expr} {t t' : TI} (h : PI X tg e t) (k : ∀ σ H R, t' σ H R → t σ H R) : PI X tg e t' := ⟨fun pins s σ H R I q => h.run pins s σ H R I (k σ H R q)⟩
/-! ### for -/
def forL (g : NG) (body : IS) : List D → IS
  | [] => fun ρ => M.ret (.nx ρ)
  | x :: xs => fun ρ S => match ngD g x ρ with
    | some ρ1 => (match body ρ1 S with
      | .ok (.nx ρ2) S2 => forL g body xs ρ2 S2
      | .ok (.ct ρ2) S2 => forL g body xs ρ2 S2
      | .ok (.bk ρ2) S2 => .ok (.nx ρ2) S2
      | r => r)
    | none => .no
def sFor (src : IA) (g : NG) (body : IS) : IS := fun ρ => sBind (src ρ) ρ fun xs => forL g body xs ρ
section
variable {T : Tab} {X : Cx} {W : WX}
theorem js_for {tg iter : Expr} {body : List Stmt} {src : IA} {g : NG} {ib : IS} {pos : Pos} (hp : PassesOwn (model X.prog X.w) X.A X.env X.xe) (hc : X.calm = true) (hi : JI T X W tg iter src) (hg : PG X tg (ngV X.K g)) (hb : JSs T X W body ib)
    (hs : ∀ x, foldedSetIterable iter X.env x = pure x := by intro _; rfl) : JS T X W (.For tg iter body [] pos) (sFor src g ib) := by
  refine PS.mono (ps_for hp hc hi hg hb hs) fun D σ H ⟨ρ, F, S, ι, G, em, sr, h⟩ => ?_
  refine ⟨ρ, F, S, ι, G, em, sr, ?_⟩
  unfold sFor sBind at h
  cases q : src ρ S with
  | no => rw [q] at h; exact h.elim
  | ex c fs S1 =>
    rw [q] at h
    exact fun dd ι' G' H' em y r => h dd σ ι' G' H' em y (sr.mono y) r
  | ok xs S1 =>
    rw [q] at h
    intro J ι1 G1 H1 em1 x1 wk
    refine ⟨fun i m σ H => i + m = xs.length ∧ ∃ ρ S ι' G', Em T X.K F S ι' G' H ∧ Ext G1 ι1 G' ι' ∧ SR T X.K G' ι' ρ σ ∧ ThnS T X.K F W G' ι' (forL g ib (xs.drop i) ρ S) D,
      ⟨xs.length, by simp, ρ, S1, ι1, G1, em1, Ext.refl _ _, sr.mono x1, ThnS.ext h x1⟩, ?_⟩
    rintro i m σ H ⟨him, ρ, S, ι', G', em', x', sr', h'⟩
    obtain ⟨wg, ws⟩ := wk i F S ι' G' H em' x'
    by_cases hl : i = xs.length
    · left
      refine ⟨ws hl, ?_⟩
      rw [hl, List.drop_length] at h'
      exact h'.nx em' sr'
    · right
      have hlt : i < List.length xs := by omega
      obtain ⟨wgo, wy⟩ := wg xs[i] (List.getElem?_eq_getElem hlt)
      refine ⟨wgo, fun σ' H' => ∃ ρ S ι' G', Em T X.K F S ι' G' H' ∧ Ext G1 ι1 G' ι' ∧ SR T X.K G' ι' ρ σ' ∧ ThnS T X.K F W G' ι' (forL g ib (xs.drop (i + 1)) ρ S) D, fun σ' H' hN => ⟨m - 1, by omega, by omega, hN⟩, fun v H2 hy => ?_⟩
      obtain ⟨G2, em2, x2, dr⟩ := wy v H2 hy
      rw [List.drop_eq_getElem_cons hlt] at h'
      unfold forL at h'
      cases qg : ngD g xs[i] ρ with
      | none => rw [qg] at h'; exact h'.elim
      | some ρ1 =>
        rw [qg] at h'
        refine ng_ok em2 (sr'.mono x2) dr qg fun σ2 sr2 _ => ⟨ρ1, F, S, ι', G2, em2, sr2, ?_⟩
        have h2 := ThnS.ext h' x2
        dsimp only at h2
        cases qb : ib ρ1 S with
        | no => rw [qb] at h2; exact h2.elim
        | ex _ _ _ => rw [qb] at h2; exact h2.elim
        | ok fl S2 =>
          rw [qb] at h2
          cases fl with
          | nx ρ2 => exact fun σ3 ι3 G3 H3 em3 x3 sr3 => ⟨ρ2, S2, ι3, G3, em3, (x'.trans x2).trans x3, sr3, ThnS.ext h2 x3⟩
          | ct ρ2 => exact fun σ3 ι3 G3 H3 em3 x3 sr3 => ⟨ρ2, S2, ι3, G3, em3, (x'.trans x2).trans x3, sr3, ThnS.ext h2 x3⟩
          | bk ρ2 => exact fun σ3 ι3 G3 H3 em3 x3 sr3 => h2 σ3 ι3 G3 H3 em3 x3 sr3
          | rt d => exact h2
          | xx c fs ρ2 => exact h2
end
/-! ### list comprehensions -/
/-- nothing is raised here -/
def nox {α : Type} (m : M α) : M α := fun S => match m S with
  | .ex _ _ _ => .no
  | r => r
abbrev W0 : WX := fun _ _ _ _ => False
def wipeR (ρ : Rho) : List Nat → Rho
  | [] => ρ
  | v :: vs => (wipeR ρ vs).set v none
theorem SR.wipe {T : Tab} {K : PySem.W.Frag} {G : Hp} {ι : List Addr} {ρ : Rho} {σ : L2.St} (sr : SR T K G ι ρ σ) : ∀ vs : List Nat, SR T K G ι (wipeR ρ vs) (L2.wipe σ vs)
  | [] => sr
  | v :: vs => by
    have h := SR.wipe sr vs
    refine ⟨by simp [wipeR, L2.wipe, h.len], fun i d e => ?_⟩
    unfold wipeR at e
    unfold L2.wipe
    by_cases hi : v = i
    · subst hi
      rw [List.getElem?_set] at e
      split at e
      · split at e <;> cases e
      · rename_i hh; exact absurd rfl hh
    · rw [List.getElem?_set_ne hi] at e ⊢
      exact h.at_ i d e
def lcL (g : NG) (t : IT) (ie : IE) (ρ : Rho) : List D → M (List D)
  | [] => M.ret []
  | x :: xs => fun S => match ngD g x ρ with
    | some ρ1 => M.bind (nox (t ρ1)) (fun c => if c = true then M.bind (nox (ie ρ1)) fun d => M.bind (lcL g t ie ρ xs) fun r => M.ret (d :: r) else lcL g t ie ρ xs) S
    | none => .no
def iLc (src : IA) (g : NG) (t : IT) (ie : IE) (vs : List Nat) : IE := fun ρ => M.bind (src ρ) fun xs => if xs.length < 100000 then M.bind (lcL g t ie (wipeR ρ vs) xs) fun r => M.ret (.lst r) else M.no
end J
set_option Elab.async false
set_option linter.all false
set_option maxRecDepth 100000
set_option maxHeartbeats 410000
/-! J4: list comprehensions, defs, calls -/
namespace J
open PySem PySem.Spec L2
open PyProof.Rows (envOfC)
theorem Thn.nox {α β : Type} {T : Tab} {K : PySem.W.Frag} {F F' : Hp} {W : WX} {σ σ' : L2.St} {G : Hp} {ι : List Addr} {γ δ : Type} {rel : Hp → List Addr → α → β → Prop} {rel2 : Hp → List Addr → γ → δ → Prop} {m : M γ} {k : γ → M α} {S : Store} {Q : β → Hp → Prop} {Q2 : δ → Hp → Prop}
    (h : Thn T K F W σ G ι rel (M.bind (J.nox m) k S) Q)
    (go : ∀ a S1 v ι1 G1 H1, Em T K F' S1 ι1 G1 H1 → Ext G ι G1 ι1 → rel2 G1 ι1 a v → Thn T K F W σ G1 ι1 rel (k a S1) Q → Q2 v H1) : Thn T K F' W0 σ' G ι rel2 (m S) Q2 := by
  unfold M.bind J.nox at h
  cases e : m S with
  | ok a S1 =>
    rw [e] at h
    exact fun v ι' G' H' em y r => go a S1 v ι' G' H' em y r (Thn.ext h y)
  | ex c fs S1 =>
    rw [e] at h
    exact h.elim
  | no =>
    rw [e] at h
    exact h
section
variable {T : Tab} {X : Cx} {W : WX} {elt tg iter : Expr} {ifs : List Expr} {scope : Scope} {own : List (Str × Nat)} {pos spos : Pos} {src : IA} {g : NG} {t : IT} {ie : IE}
theorem M.bind_assoc {α β γ : Type} (m : M α) (k : α → M β) (l : β → M γ) : M.bind (M.bind m k) l = M.bind m fun a => M.bind (k a) l := by
  funext S
  unfold M.bind
  cases m S <;> rfl
theorem lcL_cons_some {x : D} {xs : List D} {ρ ρ1 : Rho} (q : ngD g x ρ = some ρ1) : lcL g t ie ρ (x :: xs) = M.bind (nox (t ρ1)) (fun c => if c = true then M.bind (nox (ie ρ1)) fun d => M.bind (lcL g t ie ρ xs) fun r => M.ret (d :: r) else lcL g t ie ρ xs) := by
  funext S
  conv => lhs; unfold lcL
  rw [q]
theorem lcL_cons_none {α : Type} {k : List D → M α} {x : D} {xs : List D} {ρ : Rho} {S : Store} (q : ngD g x ρ = none) : M.bind (lcL g t ie ρ (x :: xs)) k S = .no := by
  unfold M.bind lcL
  rw [q]
theorem wipe_get (σ : L2.St) (i : Nat) : ∀ vs : List Nat, (L2.wipe σ vs)[i]? = if i ∈ vs then (σ[i]?).map (fun _ => none) else σ[i]?
  | [] => by simp [L2.wipe]
  | v :: vs => by
    unfold L2.wipe
    rw [List.getElem?_set, L2.wipe_length, wipe_get σ i vs]
    by_cases hv : v = i
    · subst hv
      by_cases hl : v < σ.length
      · simp [hl]
      · simp [hl]
    · have h2 : ¬ i = v := fun z => hv z.symm
      simp [hv, h2]
theorem wipe_idem (σ : L2.St) (vs : List Nat) : L2.wipe (L2.wipe σ vs) vs = L2.wipe σ vs := by
  apply List.ext_getElem?
  intro i
  rw [wipe_get, wipe_get]
  by_cases h : i ∈ vs
  · simp only [h, if_true, Option.map_map]
    rfl
  · simp [h]
theorem lc_go {vs : List Nat} (hv : ∀ i ∈ g.slots, i ∈ vs) {σ : L2.St} {H : Hp} {Q : VK} (h : tE T X.K W (iLc src g t ie vs) σ H Q) : tLc (tI T X.K W src) (ngV X.K g) (tT T X.K W0 t) (tE T X.K W0 ie) vs σ H Q := by
  obtain ⟨ρ, F, S, ι, G, em, sr, h⟩ := h
  refine ⟨ρ, F, S, ι, G, em, sr, ?_⟩
  unfold iLc M.bind at h
  cases q : src ρ S with
  | no => rw [q] at h; exact h.elim
  | ex c fs S1 => rw [q] at h; exact h
  | ok xs S1 =>
    rw [q] at h
    dsimp only at h
    by_cases hlen : xs.length < 100000
    case neg => rw [if_neg hlen] at h; exact h.elim
    rw [if_pos hlen] at h
    intro J ι1 G1 H1 em1 x1 wk Dl hD
    have h1 : Thn T X.K F W σ G1 ι1 (DR T X.K) (M.bind (lcL g t ie (wipeR ρ vs) xs) (fun r => M.ret (.lst r)) S1) Q := Thn.ext h x1
    refine ⟨fun i m H => i + m = xs.length ∧ ∃ acc av S ι' G', Em T X.K (upd F Dl (.lst av)) S ι' G' H ∧ Ext G1 ι1 G' ι' ∧ DRs T X.K G' ι' acc av ∧ acc.length ≤ i ∧ Thn T X.K F W σ G' ι' (DR T X.K) (M.bind (lcL g t ie (wipeR ρ vs) (xs.drop i)) (fun r => M.ret (.lst (acc ++ r))) S) Q,
      ⟨xs.length, by simp, [], [], S1, ι1, G1, em1.aside hD, Ext.refl _ _, DRs.nil, Nat.le_refl _, h1⟩, ?_⟩
    rintro i m H ⟨him, acc, av, S, ι', G', em', x', da, hal, h'⟩
    obtain ⟨wg, ws⟩ := wk i _ S ι' G' H em' x'
    by_cases hl : i = xs.length
    · left
      refine ⟨ws hl, ?_⟩
      rw [hl, List.drop_length] at h'
      obtain ⟨em2, x2⟩ := em'.adopt (em1.fr.free hD)
      refine h' _ _ _ _ em2 x2 ?_
      simp only [DR]
      exact ⟨Dl, av, rfl, upd_same, by rw [List.append_nil]; exact da.mono x2.1 x2.2⟩
    · right
      have hlt : i < List.length xs := by omega
      obtain ⟨wgo, wy⟩ := wg xs[i] (List.getElem?_eq_getElem hlt)
      refine ⟨wgo, fun H => ∃ acc av S ι' G', Em T X.K (upd F Dl (.lst av)) S ι' G' H ∧ Ext G1 ι1 G' ι' ∧ DRs T X.K G' ι' acc av ∧ acc.length ≤ i + 1 ∧ Thn T X.K F W σ G' ι' (DR T X.K) (M.bind (lcL g t ie (wipeR ρ vs) (xs.drop (i + 1))) (fun r => M.ret (.lst (acc ++ r))) S) Q, fun H' hN => ⟨m - 1, by omega, by omega, hN⟩, fun v H2 hy => ?_⟩
      obtain ⟨G2, em2, x2, dr⟩ := wy v H2 hy
      rw [List.drop_eq_getElem_cons hlt] at h'
      have h2 := Thn.ext h' x2
      have sr2 : SR T X.K G2 ι' (wipeR ρ vs) (L2.wipe σ vs) := (((sr.mono x1).mono x').mono x2).wipe vs
      cases qg : ngD g xs[i] (wipeR ρ vs) with
      | none =>
        rw [lcL_cons_none qg] at h2
        exact h2.elim
      | some ρ1 =>
        have e : M.bind (lcL g t ie (wipeR ρ vs) (xs[i] :: xs.drop (i + 1))) (fun r => M.ret (D.lst (acc ++ r))) S =
            M.bind (nox (t ρ1)) (fun c => if c = true then M.bind (nox (ie ρ1)) (fun d => M.bind (lcL g t ie (wipeR ρ vs) (xs.drop (i + 1))) fun r => M.ret (D.lst ((acc ++ [d]) ++ r))) else M.bind (lcL g t ie (wipeR ρ vs) (xs.drop (i + 1))) fun r => M.ret (D.lst (acc ++ r))) S := by
          rw [lcL_cons_some qg, M.bind_assoc]
          congr 1
          funext c
          cases c with
          | false => rfl
          | true =>
            rw [if_pos rfl, if_pos rfl, M.bind_assoc]
            congr 1
            funext d
            rw [M.bind_assoc]
            congr 1
            funext r
            show M.ret (D.lst (acc ++ d :: r)) = M.ret (D.lst ((acc ++ [d]) ++ r))
            rw [List.append_assoc]
            rfl
        rw [e] at h2
        refine ng_ok em2 sr2 dr qg fun σ2 sr3 hw => ⟨(hw vs hv).trans (wipe_idem σ vs), ?_⟩
        refine ⟨ρ1, _, S, ι', G2, em2, sr3, Thn.nox (rel2 := fun _ _ (a b : Bool) => a = b) h2 fun c S3 cv ι3 G3 H3 em3 x3 dc h3 => ?_⟩
        subst dc
        cases c with
        | false =>
          refine iteF ⟨acc, av, S3, ι3, G3, em3, (x'.trans x2).trans x3, (da.mono x2.1 x2.2).mono x3.1 x3.2, Nat.le_succ_of_le hal, ?_⟩
          exact h3
        | true =>
          refine iteT ⟨ρ1, _, S3, ι3, G3, em3, sr3.mono x3, Thn.nox (rel2 := DR T X.K) h3 fun d S4 dv ι4 G4 H4 em4 x4 dd h4 => ?_⟩
          have dal : DRs T X.K G4 ι4 acc av := ((da.mono x2.1 x2.2).mono x3.1 x3.2).mono x4.1 x4.2
          refine ⟨av, em4.fr _ _ upd_same, ?_, acc ++ [d], av ++ [dv], S4, ι4, G4, em4.reaside, ((x'.trans x2).trans x3).trans x4, dal.append (DRs.cons dd DRs.nil), by simp; omega, h4⟩
          have hl2 := dal.length
          exact Nat.lt_of_lt_of_le (show av.length < 100000 by omega) (by decide)
theorem je_lc (hc : X.calm = true) (hN : X.N.Nodup) (hi : JI T X W tg iter src) (ok : BlkOk X.N X.env.scope scope own)
    (hg : ∀ (s : Shared) (H : Hp) (C : Addr) (cl : List (Str × Addr)) (fp : List Addr), PG (X.blk s H scope (compEnvC scope cl C X.env) fp) tg (ngV X.K g)) (ht : ∀ (s : Shared) (H : Hp) (C : Addr) (cl : List (Str × Addr)) (fp : List Addr), PTs (X.blk s H scope (compEnvC scope cl C X.env) fp) ifs (tT T X.K W0 t))
    (he : ∀ (s : Shared) (H : Hp) (C : Addr) (cl : List (Str × Addr)) (fp : List Addr), JE T (X.blk s H scope (compEnvC scope cl C X.env) fp) W0 elt ie) (hv : ∀ i ∈ g.slots, i ∈ own.map (·.2) := by decide) (hs : ∀ x, foldedSetIterable iter X.env x = pure x := by intro _; rfl) :
    JE T X W (.ListComp elt [⟨tg, iter, ifs, 0⟩] scope pos) (iLc src g t ie (own.map (·.2))) :=
  PE.mono (pe_lc hc hN hi ok hg ht he hs) fun σ H Q h => lc_go hv h
theorem js_setLc {i : Nat} {y : Str} {py : Pos} (hc : X.calm = true) (hN : X.N.Nodup) (hy : X.N[i]? = some y) (hyl : X.env.scope.names.lookup y = some .local)
    (hsw : swapsWith (.ListComp elt [⟨tg, iter, ifs, 0⟩] scope pos) (some (.Name y py)) spos.line X.env = pure true) (hi : JI T X W tg iter src) (ok : BlkOk X.N X.env.scope scope own)
    (hg : ∀ (s : Shared) (H : Hp) (C : Addr) (cl : List (Str × Addr)) (fp : List Addr), PG (X.blk s H scope (compEnvC scope cl C X.env) fp) tg (ngV X.K g)) (ht : ∀ (s : Shared) (H : Hp) (C : Addr) (cl : List (Str × Addr)) (fp : List Addr), PTs (X.blk s H scope (compEnvC scope cl C X.env) fp) ifs (tT T X.K W0 t))
    (he : ∀ (s : Shared) (H : Hp) (C : Addr) (cl : List (Str × Addr)) (fp : List Addr), JE T (X.blk s H scope (compEnvC scope cl C X.env) fp) W0 elt ie) (hv : ∀ i ∈ g.slots, i ∈ own.map (·.2) := by decide) (hs : ∀ x, foldedSetIterable iter X.env x = pure x := by intro _; rfl) :
    JS T X W (.Assign [.Name y py] (.ListComp elt [⟨tg, iter, ifs, 0⟩] scope pos) spos) (sAsg i (iLc src g t ie (own.map (·.2)))) :=
  PS.mono (ps_setLc hc hN hy hyl hsw hi ok hg ht he hs) fun D σ H ⟨ρ, F, S, ι, G, em, sr, h⟩ =>
    lc_go (T := T) (X := X) (W := W) hv ⟨ρ, F, S, ι, G, em, sr, ThnS.bind (rel := DR T X.K) h sr fun a S1 v ι1 G1 H1 em1 x1 r h1 => h1.nx em1 ((sr.mono x1).set r i)⟩
def iYes : IT := fun _ => M.ret true
theorem jts_nil : PTs X [] (tT T X.K W iYes) := ⟨fun pins s σ H Q I ⟨ρ, F, S, ι, G, em, sr, h⟩ => pts_nil.run pins s σ H Q I (Thn.ok h em rfl)⟩
end
/-! ### defs -/
def startR (n : Nat) (ds : List D) : Rho := ds.map some ++ List.replicate (n - ds.length) none
/-- a def: n slots; keep: what it made stays -/
def defJ (n : Nat) (keep : Bool) (body : IS) : List D → M D := fun ds S => match body (startR n ds) S with
  | .ok (.nx _) S' => .ok .non (if keep = true then S' else S'.trim S.next)
  | .ok (.rt d) S' => .ok d (if keep = true then S' else S'.trim S.next)
  | .ok (.xx c fs _) S' => .ex c fs (if keep = true then S' else S'.trim S.next)
  | _ => .no
def spJ (T : Tab) (K : PySem.W.Frag) (n : Nat) (f : List D → M D) : Sp := fun vs H Q E => vs.length = n ∧ ∃ ds F S ι G, Em T K F S ι G H ∧ DRs T K G ι ds vs ∧ Thn T K F (fun c d _ H => E c d H) [] G ι (DR T K) (f ds S) Q
theorem SR.start {T : Tab} {K : PySem.W.Frag} {G : Hp} {ι : List Addr} {ds : List D} {vs : List V} {N : List Str} (h : DRs T K G ι ds vs) : SR T K G ι (startR N.length ds) (L2.start N vs) := by
  have hl := h.length
  refine ⟨by simp [startR, L2.start, hl], fun i d e => ?_⟩
  unfold startR at e
  unfold L2.start
  by_cases hi : i < ds.length
  · rw [List.getElem?_append_left (by simpa using hi)] at e
    rw [List.getElem?_append_left (by simpa [← hl] using hi)]
    rw [List.getElem?_map] at e ⊢
    cases q : ds[i]? with
    | none => (rw [q] at e); exact nomatch e
    | some d' =>
      rw [q] at e
      cases e
      obtain ⟨v, e1, r⟩ := h.get q
      exact ⟨v, by rw [e1]; rfl, r⟩
  · rw [List.getElem?_append_right (by simpa using hi)] at e
    rw [List.getElem?_replicate] at e
    split at e <;> cases e
section
variable {P : Program} {w : World} {T : Tab} {K : PySem.W.Frag} {mg : Str → Option Value} {base : Heap} {x qual : Str} {params : Arguments} {body : List Stmt} {scope : Scope} {dvs : List V} {kws : List (Str × V)} {f : Addr} {fd : FuncData}
theorem fin_em {F : Hp} {S' : Store} {ι' : List Addr} {G' H' : Hp} {keep : Bool} {N : Nat} (em : Em T K F S' ι' G' H') : Em T K F (if keep = true then S' else S'.trim N) ι' G' H' := by
  cases keep with
  | true => exact em
  | false => exact em.trim N
/-- the promise of a def, called where no repr is going on -/
structure FnG (P : Program) (w : World) (K : PySem.W.Frag) (mg : Str → Option Value) (base : Heap) (k : Nat) (f : Addr) (fd : FuncData) (ps : List Str) (sp : Sp) : Prop where
  len : ∀ (vs : List V) H Q E, sp vs H Q E → vs.length = ps.length
  run : ∀ (A : Around) (fr : List Env) (s : Shared) (H : Hp) (ar : Args) (us : List Value) (vs : List V) (Q : VK) (E : XK), Room k A → A.guards = some [] →
    Env0 P w K mg base A fr s H → BindsTo s fd ar (ps.zip us) → Vals vs us → sp vs H Q E → codeAny (model P w) A (.call (.ref f) ar) (CR (L2N.CX P w) fr P w H s Q E) s
theorem FnG.mono {k j : Nat} {ps : List Str} {sp : Sp} (F : FnG P w K mg base j f fd ps sp) (h : j ≤ k) : FnG P w K mg base k f fd ps sp :=
  ⟨F.len, fun A fr s H ar us vs Q E r => F.run A fr s H ar us vs Q E (r.mono h)⟩
theorem fng_of {N ps : List Str} {k : Nat} {sp : Sp} (F : FunD K x qual params body scope dvs kws f fd) (S : FnScope N ps scope) (len : ∀ vs H Q E, sp vs H Q E → vs.length = ps.length)
    (hb : ∀ (cdv : Value) (A : Around) (fr : List Env) (s : Shared) (H : Hp) (vs : List V) (Q : VK) (E : XK), Room k (A.deeper (envOfC qual scope s.heap.objs.size f cdv)) → A.guards = some [] → sp vs H Q E →
      ∃ t, PSs (cxOf (L2N.CX P w) P w K mg base N qual scope f cdv A fr s H E) body t ∧ t { nx := fun _ H' => Q .non H', rt := Q } (L2.start N vs) H) : FnG P w K mg base (k + 1) f fd ps sp := by
  rcases F.ex with ⟨oc, od, dV, kV, doc, pm, an, cdv, ct, osl, rfl, lk, hcd, _, _⟩
  constructor
  · exact len
  intro A fr s H ar us vs Q E room gd en bd rel want
  have old : ∀ b o, base.get? b = some o → s.heap.get? b = some o := fun b o q => (en.bs b o q).1
  have KI := en.mod.kin.keeps old
  have NL := en.mod.nolimit.keeps old
  have kinds : ∀ y ∈ ps.zip us, scope.names.lookup y.1 = some .local ∨
      (scope.names.lookup y.1 = some .cell ∧ ((cellsFrom (s.heap.objs.size + 1) scope.names []).lookup y.1).isSome = true) := by
    rintro ⟨n, v⟩ hm
    rcases S.par n (List.of_mem_zip hm).1 with q | q
    · left; exact q
    · right; exact ⟨q, PySem.W.cellsFrom_some _ _ _ (.inl q)⟩
  refine codeAny_call_function room.depth (KI _ _ lk) rfl S.co S.gen rfl (PySem.W.codeRec_of KI hcd) (bd _ _ _ _ ?_)
  refine wpAny_newFunctionEnv_cells S.kind kinds ?_
  intro env henv s1 ic
  subst henv
  refine ⟨NL.keeps ic.toInCall.keep, codeAny_func ?_⟩
  obtain ⟨t, ht, hq⟩ := hb cdv A fr s H vs Q E (room.deeper _) gd want
  have I := inv_start (CX := L2N.CX P w) (E := E) S room.hd en (len _ _ _ _ want) rel ic
  refine wpAny_mono (ht.run [] s1 _ H _ I hq) ?_ (fun e s' z => z)
  intro fl s' z
  cases fl with
  | ret u => exact let ⟨v, σ', H', J, rv, q⟩ := z; ⟨v, H', J.os, J.bare, J.base, J.hok, rv, q⟩
  | next => exact let ⟨σ', H', J, q⟩ := z; ⟨V.non, H', J.os, J.bare, J.base, J.hok, rfl, q⟩
  | brk => exact let ⟨_, _, _, q⟩ := z; q.elim
  | cont => exact let ⟨_, _, _, q⟩ := z; q.elim
theorem fn_j {N ps : List Str} {k : Nat} {is : IS} (keep : Bool) (F : FunD K x qual params body scope dvs kws f fd) (S : FnScope N ps scope)
    (hb : ∀ (cdv : Value) (A : Around) (fr : List Env) (s : Shared) (H : Hp) (E : XK), Room k (A.deeper (envOfC qual scope s.heap.objs.size f cdv)) → A.guards = some [] →
      JSs T (cxOf (L2N.CX P w) P w K mg base N qual scope f cdv A fr s H E) (fun c d _ H => E c d H) body is) : FnG P w K mg base (k + 1) f fd ps (spJ T K ps.length (defJ N.length keep is)) := by
  refine fng_of F S (fun vs H Q E h => h.1) (fun cdv A fr s H vs Q E hr gd h => ⟨_, hb cdv A fr s H E hr gd, ?_⟩)
  obtain ⟨_, ds, Fr, S0, ι, G, em, dr, h⟩ := h
  refine ⟨startR N.length ds, Fr, S0, ι, G, em, SR.start dr, ?_⟩
  unfold defJ at h
  cases q : is (startR N.length ds) S0 with
  | no => rw [q] at h; exact h.elim
  | ex c fs S1 => rw [q] at h; exact h.elim
  | ok fl S1 =>
    rw [q] at h
    cases fl with
    | nx ρ => exact fun σ' ι' G' H' em' x' sr' => h .non ι' G' H' (fin_em em') x' (by simp only [DR])
    | rt d => exact fun v ι' G' H' em' x' r' => h v ι' G' H' (fin_em em') x' r'
    | xx c fs ρ => exact fun dd σ' ι' G' H' em' x' sr' xr => h dd ι' G' H' (fin_em em') x' xr
    | bk ρ => exact h.elim
    | ct ρ => exact h.elim
/-- a def of the module by its name -/
def Good (P : Program) (w : World) (T : Tab) (K : PySem.W.Frag) (mg : Str → Option Value) (base : Heap) (k : Nat) (x : Str) (ps : List Str) (sem : List D → M D) : Prop :=
  ∃ fd, FnG P w K mg base k (He.ga K x) fd ps (spJ T K ps.length sem) ∧ Binds K fd ps [] ∧ mg x = some (.ref (He.ga K x)) ∧ PySem.W.keepIn K (.ref (He.ga K x)) = true
end
/-- room and no repr going on -/
structure Rg (k : Nat) (A : Around) : Prop where
  r : Room k A
  g : A.guards = some []
theorem Rg.mono {j k : Nat} {A : Around} (r : Rg k A) (h : j ≤ k) : Rg j A := ⟨r.r.mono h, r.g⟩
section
variable {T : Tab} {X : Cx} {W : WX} {k : Nat} {f : Addr} {fd : FuncData} {ps : List Str} {sp : Sp}
/-- a def is called with values -/
theorem run_g {pins : List (Addr × Obj)} {σ : L2.St} {H : Hp} {s : Shared} {Q : VK} {ar : Args} {us : List Value} {vs : List V} (F : FnG X.prog X.w X.K X.mg X.base k f fd ps sp) (hr : Rg k X.A) (tk : L2N.Takes X W) (I : Inv X pins σ H s)
    (hb : BindsTo s fd ar (ps.zip us)) (r : Vals vs us) (h : sp vs H Q (fun c d H => W c d σ H)) : codeAny (model X.prog X.w) X.A (.call (.ref f) ar) (fun rs s' => match rs with
      | .ok (.ret u) => EP X pins σ Q u s'
      | .ok _ => False
      | .error e => X.xe e s') s := by
  refine codeAny_mono (F.run X.A X.stack s H ar us vs Q _ hr.r hr.g I.env0 hb r h) fun rs s' z => ?_
  cases rs with
  | error e => exact tk e s' (L2N.XE.of_call (W := W) I (fun _ _ _ h => h) z)
  | ok fl =>
    cases fl with
    | ret u => exact I.after z
    | _ => exact False.elim z
theorem call_g {pins : List (Addr × Obj)} {σ : L2.St} {H : Hp} {s : Shared} {Q : VK} {us : List Value} {vs : List V} (F : FnG X.prog X.w X.K X.mg X.base k f fd ps sp) (hr : Rg k X.A) (tk : L2N.Takes X W) (hb : Binds X.K fd ps []) (I : Inv X pins σ H s)
    (r : Vals vs us) (h : sp vs H Q (fun c d H => W c d σ H)) : wpAny (model X.prog X.w) X.A (call (.ref f) us) (EP X pins σ Q) X.xe s := by
  have hl : (us ++ []).length = ps.length := by rw [List.append_nil, ← r.length]; exact F.len _ _ _ _ h
  have bt := hb s us I.kIn hl
  rw [List.append_nil] at bt
  refine wpAny_call (codeAny_mono (run_g F hr tk I bt r h) fun rs s' z => ?_)
  cases rs with
  | error e => exact z
  | ok fl =>
    cases fl with
    | ret u => exact z
    | _ => exact z.elim
end
/-! ### calls of defs by name, positional -/
def iCall (n : Nat) (sem : List D → M D) (ia : IA) : IE := fun ρ => M.bind (ia ρ) fun xs => if xs.length = n then sem xs else M.no
section
variable {T : Tab} {X : Cx} {W : WX} {e : Expr} {es : List Expr} {ia : IA} {pos p : Pos} {sem : List D → M D} {x : Str} {ps : List Str} {k : Nat}
theorem Thn.slots {α β : Type} {T : Tab} {K : PySem.W.Frag} {F : Hp} {W W' : WX} {σ σ' : L2.St} {G : Hp} {ι : List Addr} {rel : Hp → List Addr → α → β → Prop} {m : R α} {Q : β → Hp → Prop} (h : Thn T K F W σ G ι rel m Q) (k : ∀ c d H, W c d σ H → W' c d σ' H) : Thn T K F W' σ' G ι rel m Q :=
  Runs.imp h (fun _ _ q => q) fun _ _ _ q dd ι' G' H' em y r => k _ _ _ (q dd ι' G' H' em y r)
/-- f(e, ..) -/
theorem je_call (g : Good X.prog X.w T X.K X.mg X.base k x ps sem) (hr : Rg k X.A) (hg : Gl X x) (tk : L2N.Takes X W) (ha : JA T X W (e :: es) ia) (hdb : (x == ("__debug__" : Str)) = false := by decide)
    (he : starEach (e :: es) X.env = (false, eval e X.env) :: starEach es X.env := by rfl) (hpl : (backTo pos (starEach es X.env)).any (·.1) = false := by rfl) : JE T X W (.Call (.Name x p) (e :: es) [] pos) (iCall ps.length sem ia) := by
  obtain ⟨fd, Fg, b, m, kp⟩ := g
  constructor; intro pins s σ H Q I hq
  have key : tA T X.K W ia σ H fun vs H1 => spJ T X.K ps.length sem vs H1 Q fun c d H => W c d σ H := by
    obtain ⟨ρ, F, S, ι, G, em, sr, h⟩ := hq
    refine ⟨ρ, F, S, ι, G, em, sr, Thn.bind (rel2 := DRs T X.K) h fun xs S1 vs ι1 G1 H1 em1 x1 dr h1 => ?_⟩
    by_cases hl : xs.length = ps.length
    · rw [if_pos hl] at h1
      exact ⟨dr.length.symm.trans hl, xs, F, S1, ι1, G1, em1, dr, h1.slots fun _ _ _ z => z⟩
    · rw [if_neg hl] at h1
      exact h1.elim
  refine wpAny_Call_Name_kw (ld_glob I hg m ?_ hdb)
  refine PySem.W.callWith_K (h₀ := X.base) I.ok.mod.kin kp (thn (ha.run pos pins s σ H _ I key) ?_) he hpl
  rintro us s1 ⟨vs, H1, I1, r, q⟩
  exact ⟨I1.kIn, call_g Fg hr tk b I1 r q⟩
end
end J
set_option Elab.async false
set_option linter.all false
set_option maxRecDepth 100000
set_option maxHeartbeats 410000
/-! J5: operators, comparisons, subscripts, slices -/
namespace J
open PySem PySem.Spec L2
/-- one or the other -/
def op2 (f g : Op2) : Op2 := fun x y S => (f x y S).or (g x y S)
theorem or_some {α : Type} {a b : Option α} {d : α} (h : a.or b = some d) : a = some d ∨ b = some d := by
  cases a with
  | none => right; simpa using h
  | some x => left; simpa using h
theorem OpS.or2 {T : Tab} {K : PySem.W.Frag} {r r' : R2} {f g : Op2} (h : OpS T K r f) (h' : OpS T K r' g) : OpS T K (fun x y H Q => r x y H Q ∨ r' x y H Q) (op2 f g) := h.or h' fun _ _ _ _ e => or_some e
/-- what stands in a list: a tree or an object of the store -/
def seqL : D → Store → Option (List D)
  | .lst xs, _ => some xs
  | .ref n, S => match S.get n with
    | some (.lst xs) => some xs
    | _ => none
  | _, _ => none
/-- .. or the script -/
def seqR : D → Store → Option (List D)
  | .scr xs, _ => some xs
  | x, S => seqL x S
def seqT : D → Option (List D)
  | .tup xs => some xs
  | _ => none
section
variable {T : Tab} {K : PySem.W.Frag} {F : Hp} {S : Store} {ι : List Addr} {G H : Hp} {x : D} {v : V} {xs : List D}
theorem seqL_ok (em : Em T K F S ι G H) (h : DR T K G ι x v) (e : seqL x S = some xs) : ∃ a vs, v = .ref a ∧ H a = some (.lst vs) ∧ DRs T K G ι xs vs := by
  cases x with
  | lst l =>
    cases e
    simp only [DR] at h
    obtain ⟨a, vs, rfl, q, r⟩ := h
    exact ⟨a, vs, rfl, em.sub _ _ q, r⟩
  | ref n =>
    simp only [DR] at h
    obtain ⟨a, ha, rfl⟩ := h
    simp only [seqL] at e
    cases q : S.get n with
    | none => (rw [q] at e); exact nomatch e
    | some o =>
      rw [q] at e
      cases o with
      | lst l =>
        cases e
        obtain ⟨a', u, h1, _, _, h4, vs, rfl, h5⟩ := em.obj n _ q
        rw [ha] at h1
        cases h1
        exact ⟨a, vs, rfl, h4, h5⟩
      | _ => cases e
  | _ => cases e
theorem seqR_ok (em : Em T K F S ι G H) (h : DR T K G ι x v) (e : seqR x S = some xs) : ∃ a vs, v = .ref a ∧ SqL K H a vs ∧ DRs T K G ι xs vs := by
  cases x with
  | scr l =>
    cases e
    simp only [DR] at h
    obtain ⟨a, vs, rfl, q, r⟩ := h
    exact ⟨a, vs, rfl, Same.seq em.sub q, r⟩
  | lst l =>
    obtain ⟨a, vs, e1, e2, e3⟩ := seqL_ok em h e
    exact ⟨a, vs, e1, SqL.of e2, e3⟩
  | ref n =>
    obtain ⟨a, vs, e1, e2, e3⟩ := seqL_ok em h e
    exact ⟨a, vs, e1, SqL.of e2, e3⟩
  | _ => cases e
theorem seqT_ok (em : Em T K F S ι G H) (h : DR T K G ι x v) (e : seqT x = some xs) : ∃ a vs, v = .ref a ∧ H a = some (.tup vs) ∧ DRs T K G ι xs vs := by
  cases x with
  | tup l =>
    cases e
    simp only [DR] at h
    obtain ⟨a, vs, rfl, q, r⟩ := h
    exact ⟨a, vs, rfl, em.sub _ _ q, r⟩
  | _ => cases e
end
/-! ### ints -/
def opI (C : Int → Int → Bool) (g : Int → Int → D) : Op2
  | .int i, .int j, _ => if C i j = true then some (g i j) else none
  | _, _, _ => none
theorem opI_ok {T : Tab} {K : PySem.W.Frag} {C : Int → Int → Bool} {C' : Int → Int → Prop} {g : Int → Int → D} {g' : Int → Int → V} (hC : ∀ i j, C i j = true → C' i j) (hg : ∀ G ι i j, DR T K G ι (g i j) (g' i j)) : OpS T K (rI C' g') (opI C g) := by
  intro F S ι G H x y d vx vy Q em dx dy e q
  unfold opI at e
  split at e
  · simp only [DR] at dx dy
    split at e
    · rename_i hc
      cases e
      exact ⟨_, _, dx, dy, hC _ _ hc, q _ G H em (Ext.refl _ _) (hg _ _ _ _)⟩
    · cases e
  · cases e
def opI0 (g : Int → Int → D) : Op2
  | .int i, .int j, _ => some (g i j)
  | _, _, _ => none
theorem opI0_ok {T : Tab} {K : PySem.W.Frag} {g : Int → Int → D} {g' : Int → Int → V} (hg : ∀ G ι i j, DR T K G ι (g i j) (g' i j)) : OpS T K (rI0 g') (opI0 g) := by
  intro F S ι G H x y d vx vy Q em dx dy e q
  unfold opI0 at e
  split at e
  · simp only [DR] at dx dy
    cases e
    exact ⟨_, _, dx, dy, q _ G H em (Ext.refl _ _) (hg _ _ _ _)⟩
  · cases e
def addI : Op2 := opI0 fun i j => .int (i + j)
def subI : Op2 := opI0 fun i j => .int (i - j)
def mulI : Op2 := opI (fun i j => decide (-(2 ^ 64) < i ∧ i < 2 ^ 64) || decide (-(2 ^ 64) < j ∧ j < 2 ^ 64)) fun i j => .int (i * j)
def fdivI : Op2 := opI (fun _ j => decide (0 < j ∧ j < 1073741824)) fun i j => .int (i / j)
def modI : Op2 := opI (fun _ j => decide (0 < j)) fun i j => .int (i % j)
def powI : Op2 := opI (fun i j => decide (0 ≤ j ∧ j ≤ 1000) && decide (-(2 ^ 32) < i ∧ i < 2 ^ 32)) fun i j => .int (i ^ j.toNat)
def ltI : Op2 := opI0 fun i j => .bl (decide (i < j))
def leI : Op2 := opI0 fun i j => .bl (decide (i ≤ j))
def gtI : Op2 := opI0 fun i j => .bl (decide (j < i))
def geI : Op2 := opI0 fun i j => .bl (decide (j ≤ i))
section
variable {T : Tab} {K : PySem.W.Frag}
theorem addI_ok : OpS T K (rI0 fun i j => .int (i + j)) addI := opI0_ok fun _ _ _ _ => by simp only [DR]
theorem subI_ok : OpS T K (rI0 fun i j => .int (i - j)) subI := opI0_ok fun _ _ _ _ => by simp only [DR]
theorem mulI_ok : OpS T K (rI CMul fun i j => .int (i * j)) mulI := opI_ok (fun i j h => by simpa [CMul] using h) fun _ _ _ _ => by simp only [DR]
theorem fdivI_ok : OpS T K (rI CDiv fun i j => .int (i / j)) fdivI := opI_ok (fun i j h => by simpa [CDiv] using h) fun _ _ _ _ => by simp only [DR]
theorem modI_ok : OpS T K (rI (fun _ j => 0 < j) fun i j => .int (i % j)) modI := opI_ok (fun i j h => by simpa using h) fun _ _ _ _ => by simp only [DR]
theorem powI_ok : OpS T K (rI CPow fun i j => .int (i ^ j.toNat)) powI := opI_ok (fun i j h => by
  simp only [decide_eq_true_eq, Bool.and_eq_true] at h
  exact ⟨h.1.1, by omega, by omega⟩) fun _ _ _ _ => by simp only [DR]
theorem ltI_ok : OpS T K (rI0 fun i j => .bl (decide (i < j))) ltI := opI0_ok fun _ _ _ _ => by simp only [DR]
theorem leI_ok : OpS T K (rI0 fun i j => .bl (decide (i ≤ j))) leI := opI0_ok fun _ _ _ _ => by simp only [DR]
theorem gtI_ok : OpS T K (rI0 fun i j => .bl (decide (j < i))) gtI := opI0_ok fun _ _ _ _ => by simp only [DR]
theorem geI_ok : OpS T K (rI0 fun i j => .bl (decide (j ≤ i))) geI := opI0_ok fun _ _ _ _ => by simp only [DR]
/-! ### texts, lists -/
theorem str_app (a b : List Nat) : (⟨a.toArray⟩ : Str) ++ ⟨b.toArray⟩ = ⟨(a ++ b).toArray⟩ := TL.ext_tl (by rw [TL.tl_append])
theorem str_len (a : List Nat) : (⟨a.toArray⟩ : Str).length = a.length := by simp [Str.length]
def addS : Op2
  | .str a, .str b, _ => if a.length + b.length ≤ 100000 then some (.str (a ++ b)) else none
  | _, _, _ => none
theorem addS_ok : OpS T K (fun x y H Q => ∃ i j, x = .str i ∧ y = .str j ∧ i.length + j.length ≤ sizeLine ∧ Q (.str (i ++ j)) H) addS := by
  intro F S ι G H x y d vx vy Q em dx dy e q
  unfold addS at e
  split at e
  · simp only [DR] at dx dy
    split at e
    · rename_i a b _ hc
      cases e
      refine ⟨_, _, dx, dy, by rw [str_len, str_len]; exact sz_of hc, q _ G H em (Ext.refl _ _) ?_⟩
      simp only [DR]
      rw [str_app]
    · cases e
  · cases e
def addL : Op2 := fun x y S => match seqL x S, seqL y S with
  | some xs, some ys => if xs.length + ys.length ≤ 100000 then some (.lst (xs ++ ys)) else none
  | _, _ => none
theorem addL_ok : OpS T K rCat addL := by
  intro F S ι G H x y d vx vy Q em dx dy e q
  unfold addL at e
  split at e
  · rename_i xs ys ex ey
    split at e
    · rename_i hc
      cases e
      obtain ⟨a, va, rfl, ha, ra⟩ := seqL_ok em dx ex
      obtain ⟨b, vb, rfl, hb, rb⟩ := seqL_ok em dy ey
      refine ⟨a, b, va, vb, rfl, rfl, ha, hb, by rw [← ra.length, ← rb.length]; exact sz_of hc, fun p hp => ?_⟩
      obtain ⟨em2, x2⟩ := em.frz (o := .lst (va ++ vb)) hp
      refine q _ _ _ em2 x2 ?_
      simp only [DR]
      exact ⟨p, _, rfl, upd_same, (ra.mono x2.1 x2.2).append (rb.mono x2.1 x2.2)⟩
    · cases e
  · cases e
/-! ### subscripts -/
def ixL : Op2 := fun x y S => match seqR x S, y with
  | some xs, .int i => atI xs i
  | _, _ => none
def ixT : Op2
  | .tup xs, .int i, _ => atI xs i
  | _, _, _ => none
def ixS : Op2
  | .str a, .int i, _ => if a.length ≤ 100000 then (atI a i).map fun c => .str [c] else none
  | _, _, _ => none
theorem atI_dr {G : Hp} {ι : List Addr} {ds : List D} {vs : List V} {i : Int} {d : D} (h : DRs T K G ι ds vs) (e : atI ds i = some d) : ∃ v, atI vs i = some v ∧ DR T K G ι d v := by
  unfold atI at e ⊢
  rw [← h.length]
  cases q : ixN ds.length i with
  | none => (rw [q] at e); exact nomatch e
  | some j =>
    rw [q] at e
    exact h.get e
theorem ixL_ok : OpS T K (rIxL K) ixL := by
  intro F S ι G H x y d vx vy Q em dx dy e q
  unfold ixL at e
  split at e
  · rename_i xs i ex
    simp only [DR] at dy
    obtain ⟨a, va, rfl, ha, ra⟩ := seqR_ok em dx ex
    obtain ⟨v, e2, r⟩ := atI_dr ra e
    exact ⟨a, va, i, v, rfl, dy, ha, e2, q _ G H em (Ext.refl _ _) r⟩
  · cases e
theorem ixT_ok : OpS T K (rIxT K) ixT := by
  intro F S ι G H x y d vx vy Q em dx dy e q
  unfold ixT at e
  split at e
  · simp only [DR] at dx dy
    obtain ⟨a, va, rfl, ha, ra⟩ := dx
    obtain ⟨v, e2, r⟩ := atI_dr ra e
    exact ⟨a, va, _, v, rfl, dy, SqT.of (em.sub _ _ ha), e2, q _ G H em (Ext.refl _ _) r⟩
  · cases e
theorem ixS_ok : OpS T K rIxS ixS := by
  intro F S ι G H x y d vx vy Q em dx dy e q
  unfold ixS at e
  split at e
  · simp only [DR] at dx dy
    split at e
    · rename_i _ a i hl
      cases e2 : atI a i with
      | none => rw [e2] at e; cases e
      | some c =>
        rw [e2] at e
        cases e
        refine ⟨_, i, c, dx, dy, by rw [str_len]; exact sz_of hl, e2, q _ G H em (Ext.refl _ _) ?_⟩
        simp only [DR]
    · cases e
  · cases e
def ixD : Op2 := op2 ixL (op2 ixT ixS)
theorem ixD_ok : OpS T K (rIx K) ixD := ixL_ok.or2 (ixT_ok.or2 ixS_ok)
/-! ### slices -/
def slL : OpC := fun x l u S => match seqR x S with
  | some xs => some (.lst (cutD xs l u))
  | none => none
def slS : OpC
  | .str a, l, u, _ => if a.length ≤ 100000 then some (.str (cutD a l u)) else none
  | _, _, _, _ => none
def slT : OpC
  | .tup xs, l, u, _ => some (.tup (cutD xs l u))
  | _, _, _, _ => none
theorem cutD_dr {G : Hp} {ι : List Addr} {ds : List D} {vs : List V} {l u : Option Int} (h : DRs T K G ι ds vs) : DRs T K G ι (cutD ds l u) (cutV vs l u) := by
  unfold cutD cutV
  rw [← h.length]
  exact (h.drop _).take _
theorem slL_ok : SlS T K (rSlL K) slL := by
  intro F S ι G H x l u d vx Q em dx e q
  unfold slL at e
  split at e
  · rename_i xs ex
    cases e
    obtain ⟨a, va, rfl, ha, ra⟩ := seqR_ok em dx ex
    refine ⟨a, va, rfl, ha, fun p hp => ?_⟩
    obtain ⟨em2, x2⟩ := em.frz (o := .lst (cutV va l u)) hp
    refine q _ _ _ em2 x2 ?_
    simp only [DR]
    exact ⟨p, _, rfl, upd_same, cutD_dr (ra.mono x2.1 x2.2)⟩
  · cases e
theorem slS_ok : SlS T K rSlS slS := by
  intro F S ι G H x l u d vx Q em dx e q
  unfold slS at e
  split at e
  · split at e
    · rename_i hl
      cases e
      simp only [DR] at dx
      refine ⟨_, dx, by rw [str_len]; exact sz_of hl, q _ G H em (Ext.refl _ _) ?_⟩
      simp only [DR, cutS, cutD, str_len]
    · cases e
  · cases e
theorem slT_ok : SlS T K (rSlA K) slT := by
  intro F S ι G H x l u d vx Q em dx e q
  unfold slT at e
  split at e
  · rename_i xs
    cases e
    simp only [DR] at dx
    obtain ⟨a, va, rfl, ha, ra⟩ := dx
    refine ⟨a, va, rfl, SqT.of (em.sub _ _ ha), fun hw => q _ G H em (Ext.refl _ _) ?_, fun hw p hp => ?_⟩
    · simp only [DR]
      refine ⟨a, va, rfl, ha, ?_⟩
      have e : cutD xs l u = xs := by
        unfold cutD
        rw [ra.length, hw.1, hw.2, List.drop_zero, Nat.sub_zero, ← ra.length, List.take_length]
      rw [e]
      exact ra
    · obtain ⟨em2, x2⟩ := em.frz (o := .tup (cutV va l u)) hp
      refine q _ _ _ em2 x2 ?_
      simp only [DR]
      exact ⟨p, _, rfl, upd_same, cutD_dr (ra.mono x2.1 x2.2)⟩
  · cases e
def opc2 (f g : OpC) : OpC := fun x l u S => (f x l u S).or (g x l u S)
theorem SlS.or2 {r r' : V → Option Int → Option Int → Hp → VK → Prop} {f g : OpC} (h : SlS T K r f) (h' : SlS T K r' g) : SlS T K (fun x l u H Q => r x l u H Q ∨ r' x l u H Q) (opc2 f g) := h.or h' fun _ _ _ _ _ e => or_some e
def slD : OpC := opc2 slL (opc2 slS slT)
theorem slD_ok : SlS T K (fun x l u H Q => rSlL K x l u H Q ∨ (rSlS x l u H Q ∨ rSlA K x l u H Q)) slD := slL_ok.or2 (slS_ok.or2 slT_ok)
def addT : Op2
  | .tup xs, .tup ys, _ => if xs.length + ys.length ≤ 100000 then some (.tup (xs ++ ys)) else none
  | _, _, _ => none
theorem addT_ok : OpS T K (rCatA K) addT := by
  intro F S ι G H x y d vx vy Q em dx dy e q
  unfold addT at e
  split at e
  · split at e
    · rename_i _ xs ys hc
      cases e
      simp only [DR] at dx dy
      obtain ⟨a, va, rfl, ha, ra⟩ := dx
      obtain ⟨b, vb, rfl, hb, rb⟩ := dy
      refine ⟨a, b, va, vb, rfl, rfl, SqT.of (em.sub _ _ ha), SqT.of (em.sub _ _ hb), by rw [← ra.length, ← rb.length]; exact sz_of hc, fun h0 => ?_, fun _ h0 => ?_, fun _ _ p hp => ?_⟩
      · subst h0
        have ex : xs = [] := List.eq_nil_of_length_eq_zero ra.length
        refine q _ G H em (Ext.refl _ _) ?_
        simp only [DR, ex, List.nil_append]
        exact ⟨b, vb, rfl, hb, rb⟩
      · subst h0
        have ex : ys = [] := List.eq_nil_of_length_eq_zero rb.length
        refine q _ G H em (Ext.refl _ _) ?_
        simp only [DR, ex, List.append_nil]
        exact ⟨a, va, rfl, ha, ra⟩
      · obtain ⟨em2, x2⟩ := em.frz (o := .tup (va ++ vb)) hp
        refine q _ _ _ em2 x2 ?_
        simp only [DR]
        exact ⟨p, _, rfl, upd_same, (ra.mono x2.1 x2.2).append (rb.mono x2.1 x2.2)⟩
    · cases e
  · cases e
def addD : Op2 := op2 addI (op2 addS (op2 addL addT))
theorem addD_ok : OpS T K (fun x y H Q => (rI0 fun i j => .int (i + j)) x y H Q ∨ ((∃ i j, x = .str i ∧ y = .str j ∧ i.length + j.length ≤ sizeLine ∧ Q (.str (i ++ j)) H) ∨ (rCat x y H Q ∨ rCatA K x y H Q))) addD := addI_ok.or2 (addS_ok.or2 (addL_ok.or2 addT_ok))
end
theorem op_addD {X : Cx} : OpR X (binaryOp .Add) (fun x y H Q => (rI0 fun i j => .int (i + j)) x y H Q ∨ ((∃ i j, x = .str i ∧ y = .str j ∧ i.length + j.length ≤ sizeLine ∧ Q (.str (i ++ j)) H) ∨ (rCat x y H Q ∨ rCatA X.K x y H Q))) := OpR.or op_add (OpR.or op_add_str (OpR.or op_cat op_catA))
theorem sl_D {X : Cx} : SlR X (fun x l u H Q => rSlL X.K x l u H Q ∨ (rSlS x l u H Q ∨ rSlA X.K x l u H Q)) := SlR.or sl_list (SlR.or sl_str sl_tupA)
/-! ### products of texts and lists -/
def repS (a : List Nat) (n : Nat) : List Nat := (List.replicate n a).flatten
theorem fold_rep (a : List Nat) : ∀ (n : Nat) (acc : Array Nat), ((List.replicate n a.toArray).foldl (· ++ ·) acc) = acc ++ (repS a n).toArray
  | 0, acc => by simp [repS]
  | n + 1, acc => by
    rw [List.replicate_succ, List.foldl_cons, fold_rep a n]
    simp [repS, List.replicate_succ]
def rMulS : R2 := fun x y H Q => ∃ (a : List Nat) (n : Int), x = .str ⟨a.toArray⟩ ∧ y = .int n ∧ 0 ≤ n ∧ n ≤ 1000 ∧ a.length ≤ 1000 ∧ Q (.str ⟨(repS a n.toNat).toArray⟩) H
theorem op_mulS {X : Cx} : OpR X (binaryOp .Mult) rMulS := by
  rintro pins s σ H x y v u Q I rx ry h
  obtain ⟨a, n, rfl, rfl, h0, h1, hl, q⟩ := h
  obtain ⟨t, rfl⟩ := rx
  obtain ⟨t', rfl⟩ := ry
  refine PySem.P.mul_str (by rw [decide_eq_false (by omega), decide_eq_false (by omega)]; rfl) (fun h2 _ => ?_) (fun h2 _ => ?_) ?_
  · rw [str_len]
    have : (2 ^ 63 - 1 : Int) / n ≥ (2 ^ 63 - 1) / 1000 := by
      apply Int.le_ediv_of_mul_le (by omega)
      have : (2 ^ 63 - 1 : Int) / 1000 * n ≤ (2 ^ 63 - 1) / 1000 * 1000 := Int.mul_le_mul_of_nonneg_left h1 (by decide)
      have e : ((2 ^ 63 - 1 : Int) / 1000 * 1000) ≤ 2 ^ 63 - 1 := by decide
      omega
    have e2 : ((2 ^ 63 - 1 : Int) / 1000) = 9223372036854775 := by decide
    omega
  · rw [str_len]
    unfold Builtin.Str.tooLong
    have : a.length * n.toNat ≤ 1000 * 1000 := Nat.mul_le_mul hl (by omega)
    rw [decide_eq_false_iff_not]
    have hz : (1000000 : Nat) ≤ sizeLine := by decide
    omega
  · have key : ∀ t'' k, EP X pins σ Q (.str ⟨(repS a n.toNat).toArray⟩ t'') { s with toks := k } := fun t'' k => ⟨.str _, H, I.tok k, ⟨_, rfl⟩, q⟩
    by_cases hn : n < 1
    · rw [if_pos hn]
      have e : Int.toNat n = 0 := by omega
      rw [e] at key
      exact ⟨by decide, key _ _⟩
    · rw [if_neg hn]
      by_cases h2 : (n == 1 || (⟨a.toArray⟩ : Str).length == 0) = true
      · rw [if_pos h2]
        have e : repS a n.toNat = a := by
          rcases Bool.or_eq_true_iff.mp h2 with z | z
          · have z' : n = 1 := eq_of_beq z
            subst z'
            simp [repS]
          · have z' : a.length = 0 := by
              rw [str_len] at z
              exact eq_of_beq z
            have z2 : a = [] := List.eq_nil_of_length_eq_zero z'
            subst z2
            simp [repS]
        rw [e] at key
        exact key _ _
      · rw [if_neg h2]
        have e : (⟨(List.replicate n.toNat (⟨a.toArray⟩ : Str).cps).foldl (· ++ ·) #[]⟩ : Str) = ⟨(repS a n.toNat).toArray⟩ := by
          show (⟨(List.replicate n.toNat a.toArray).foldl (· ++ ·) #[]⟩ : Str) = _
          rw [fold_rep]
          simp
        rw [e]
        refine ⟨?_, key _ _⟩
        show (⟨(repS a n.toNat).toArray⟩ : Str).length ≤ sizeLine
        rw [str_len]
        have hl2 : (repS a n.toNat).length = n.toNat * a.length := by simp [repS]
        have : n.toNat * a.length ≤ 1000 * 1000 := Nat.mul_le_mul (by omega) hl
        have hz : (1000000 : Nat) ≤ sizeLine := by decide
        omega
def mulS : Op2
  | .str a, .int n, _ => if 0 ≤ n ∧ n ≤ 1000 ∧ a.length ≤ 1000 then some (.str (repS a n.toNat)) else none
  | _, _, _ => none
def repD (xs : List D) (n : Nat) : List D := (List.replicate n xs).flatten
def mulL : Op2 := fun x y S => match seqL x S, y with
  | some xs, .int n => if 0 ≤ n ∧ n ≤ 1000 ∧ xs.length ≤ 1000 then some (.lst (repD xs n.toNat)) else none
  | _, _ => none
section
variable {T : Tab} {K : PySem.W.Frag}
theorem mulS_ok : OpS T K rMulS mulS := by
  intro F S ι G H x y d vx vy Q em dx dy e q
  unfold mulS at e
  split at e
  · split at e
    · rename_i hc
      cases e
      simp only [DR] at dx dy
      exact ⟨_, _, dx, dy, hc.1, hc.2.1, hc.2.2, q _ G H em (Ext.refl _ _) (by simp only [DR])⟩
    · cases e
  · cases e
theorem repD_dr {G : Hp} {ι : List Addr} {ds : List D} {vs : List V} (h : DRs T K G ι ds vs) : ∀ n, DRs T K G ι (repD ds n) (List.replicate n vs).flatten
  | 0 => by simpa [repD] using DRs.nil
  | n + 1 => by
    have := repD_dr h n
    unfold repD at this ⊢
    simp only [List.replicate_succ, List.flatten_cons]
    exact h.append this
theorem mulL_ok : OpS T K rRep mulL := by
  intro F S ι G H x y d vx vy Q em dx dy e q
  unfold mulL at e
  split at e
  · split at e
    · rename_i xs n ex hc
      cases e
      simp only [DR] at dy
      obtain ⟨a, va, rfl, ha, ra⟩ := seqL_ok em dx ex
      refine ⟨a, n, va, rfl, dy, ha, by omega, by omega, ?_, fun p hp => ?_⟩
      · rw [← ra.length]
        have : xs.length * n.toNat ≤ 1000 * 1000 := Nat.mul_le_mul hc.2.2 (by omega)
        have hz : (1000000 : Nat) ≤ sizeLine := by decide
        omega
      · obtain ⟨em2, x2⟩ := em.frz (o := .lst (List.replicate n.toNat va).flatten) hp
        refine q _ _ _ em2 x2 ?_
        simp only [DR]
        exact ⟨p, _, rfl, upd_same, repD_dr (ra.mono x2.1 x2.2) _⟩
    · cases e
  · cases e
def mulD : Op2 := op2 mulI (op2 mulS mulL)
theorem mulD_ok : OpS T K (fun x y H Q => (rI CMul fun i j => .int (i * j)) x y H Q ∨ (rMulS x y H Q ∨ rRep x y H Q)) mulD := mulI_ok.or2 (mulS_ok.or2 mulL_ok)
end
theorem op_mulD {X : Cx} : OpR X (binaryOp .Mult) (fun x y H Q => (rI CMul fun i j => .int (i * j)) x y H Q ∨ (rMulS x y H Q ∨ rRep x y H Q)) := OpR.or op_mul (OpR.or op_mulS op_rep)
/-! ### == -/
def eqS : Op2
  | .int i, .int j, _ => some (.bl (decide (i = j)))
  | .str a, .str b, _ => some (.bl (decide (a = b)))
  | .bl a, .bl b, _ => some (.bl (decide (a = b)))
  | .non, .non, _ => some (.bl true)
  | .non, .int _, _ => some (.bl false)
  | .int _, .non, _ => some (.bl false)
  | .non, .bl _, _ => some (.bl false)
  | .bl _, .non, _ => some (.bl false)
  | .non, .str _, _ => some (.bl false)
  | .str _, .non, _ => some (.bl false)
  | .int _, .str _, _ => some (.bl false)
  | .str _, .int _, _ => some (.bl false)
  | .bl _, .str _, _ => some (.bl false)
  | .str _, .bl _, _ => some (.bl false)
  | _, _, _ => none
mutual
def toPy : D → Option PyData
  | .non => some .none
  | .bl b => some (.bool b)
  | .int i => some (.int i)
  | .str x => some (.str ⟨x.toArray⟩)
  | .lst xs => (toPys xs).map .list
  | .tup xs => (toPys xs).map .tuple
  | _ => none
def toPys : List D → Option (List PyData)
  | [] => some []
  | x :: xs => match toPy x, toPys xs with
    | some a, some b => some (a :: b)
    | _, _ => none
end
def deref : D → Store → D
  | .ref n, S => match S.get n with
    | some (.lst xs) => .lst xs
    | _ => .ref n
  | x, _ => x
def eqP (x y : D) : Option Bool := match toPy x, toPy y with
  | some a, some b => if (SeqAt.shaped a && SeqAt.shaped b) = true then some (PyData.eqv a b) else none
  | _, _ => none
def eqG : Op2 := fun x y S => (eqP (deref x S) (deref y S)).map .bl
def neG : Op2 := fun x y S => (eqP (deref x S) (deref y S)).map fun b => .bl (!b)
def neS : Op2 := fun x y S => match eqS x y S with
  | some (.bl b) => some (.bl (!b))
  | _ => none
section
variable {T : Tab} {K : PySem.W.Frag}
theorem str_inj {a b : List Nat} : ((⟨a.toArray⟩ : Str) = ⟨b.toArray⟩) ↔ a = b := by
  constructor
  · intro h
    have := congrArg (fun z : Str => z.cps.toList) h
    simpa using this
  · intro h; rw [h]
theorem eqS_val {G : Hp} {ι : List Addr} {S : Store} {x y d : D} {vx vy : V} (dx : DR T K G ι x vx) (dy : DR T K G ι y vy) (e : eqS x y S = some d) : scal vx vy = true ∧ d = .bl (decide (vx = vy)) := by
  unfold eqS at e
  split at e <;> first
    | (simp only [DR] at dx dy; cases e; subst dx; subst dy; first
        | exact ⟨rfl, congrArg D.bl (by rw [decide_eq_decide]; simp only [V.str.injEq]; exact str_inj.symm)⟩
        | exact ⟨rfl, congrArg D.bl (by simp)⟩)
    | cases e
theorem eqS_ok : OpS T K rEq eqS := by
  intro F S ι G H x y d vx vy Q em dx dy e q
  obtain ⟨h1, h2⟩ := eqS_val dx dy e
  exact ⟨h1, q _ G H em (Ext.refl _ _) (by rw [h2]; simp only [DR])⟩
theorem neS_ok : OpS T K rNe neS := by
  intro F S ι G H x y d vx vy Q em dx dy e q
  unfold neS at e
  split at e
  · rename_i b eb
    cases e
    obtain ⟨h1, h2⟩ := eqS_val dx dy eb
    exact ⟨h1, q _ G H em (Ext.refl _ _) (by injection h2 with h2; rw [h2]; simp only [DR])⟩
  · cases e
mutual
theorem toPy_ok {F : Hp} {S : Store} {ι : List Addr} {G H : Hp} (em : Em T K F S ι G H) : ∀ {x : D} {v : V} {p : PyData}, DR T K G ι x v → toPy x = some p → Dp K H v p
  | .non, _, _, h, e => by simp only [DR] at h; simp only [toPy] at e; cases e; subst h; exact .non
  | .bl b, _, _, h, e => by simp only [DR] at h; simp only [toPy] at e; cases e; subst h; exact .bl b
  | .int b, _, _, h, e => by simp only [DR] at h; simp only [toPy] at e; cases e; subst h; exact .int b
  | .str b, _, _, h, e => by simp only [DR] at h; simp only [toPy] at e; cases e; subst h; exact .str _
  | .lst xs, _, _, h, e => by
    simp only [DR] at h
    simp only [toPy] at e
    obtain ⟨a, vs, rfl, q, r⟩ := h
    cases e1 : toPys xs with
    | none => rw [e1] at e; cases e
    | some ps =>
      rw [e1] at e
      cases e
      exact .lst (SqL.of (em.sub _ _ q)) (toPys_ok em r e1)
  | .tup xs, _, _, h, e => by
    simp only [DR] at h
    simp only [toPy] at e
    obtain ⟨a, vs, rfl, q, r⟩ := h
    cases e1 : toPys xs with
    | none => rw [e1] at e; cases e
    | some ps =>
      rw [e1] at e
      cases e
      exact .tup (SqT.of (em.sub _ _ q)) (toPys_ok em r e1)
  | .ty _, _, _, _, e => by simp only [toPy] at e; cases e
  | .glo _, _, _, _, e => by simp only [toPy] at e; cases e
  | .scr _, _, _, _, e => by simp only [toPy] at e; cases e
  | .dct _ _, _, _, _, e => by simp only [toPy] at e; cases e
  | .dcu _ _, _, _, _, e => by simp only [toPy] at e; cases e
  | .ins _ _, _, _, _, e => by simp only [toPy] at e; cases e
  | .exn _ _ _, _, _, _, e => by simp only [toPy] at e; cases e
  | .ref _, _, _, _, e => by simp only [toPy] at e; cases e
theorem toPys_ok {F : Hp} {S : Store} {ι : List Addr} {G H : Hp} (em : Em T K F S ι G H) : ∀ {x : List D} {v : List V} {p : List PyData}, DRs T K G ι x v → toPys x = some p → DpAll K H v p
  | [], _, _, h, e => by simp only [DRs] at h; simp only [toPys] at e; cases e; subst h; exact .nil
  | x :: xs, _, _, h, e => by
    simp only [DRs] at h
    obtain ⟨v, r, rfl, h1, h2⟩ := h
    simp only [toPys] at e
    cases e1 : toPy x with
    | none => rw [e1] at e; cases e
    | some a =>
      cases e2 : toPys xs with
      | none => rw [e1, e2] at e; cases e
      | some b =>
        rw [e1, e2] at e
        cases e
        exact .cons (toPy_ok em h1 e1) (toPys_ok em h2 e2)
end
theorem deref_ok {F : Hp} {S : Store} {ι : List Addr} {G H : Hp} (em : Em T K F S ι G H) {x : D} {v : V} {p : PyData} (h : DR T K G ι x v) (e : toPy (deref x S) = some p) : Dp K H v p := by
  cases x with
  | ref n =>
    simp only [deref] at e
    cases q : S.get n with
    | none => rw [q] at e; simp only [toPy] at e; cases e
    | some o =>
      rw [q] at e
      cases o with
      | lst xs =>
        obtain ⟨a, vs, e1, h1, h2⟩ := seqL_ok (xs := xs) em h (by simp only [seqL, q])
        subst e1
        simp only [toPy] at e
        cases e1 : toPys xs with
        | none => rw [e1] at e; cases e
        | some ps =>
          rw [e1] at e
          cases e
          exact .lst (SqL.of h1) (toPys_ok em h2 e1)
      | _ => simp only [toPy] at e; cases e
  | _ => exact toPy_ok em h e
theorem eqP_ok {F : Hp} {S : Store} {ι : List Addr} {G H : Hp} (em : Em T K F S ι G H) {x y : D} {vx vy : V} {b : Bool} (dx : DR T K G ι x vx) (dy : DR T K G ι y vy) (e : eqP (deref x S) (deref y S) = some b) :
    ∃ d e, Dp K H vx d ∧ Dp K H vy e ∧ SeqAt.shaped d = true ∧ SeqAt.shaped e = true ∧ b = PyData.eqv d e := by
  unfold eqP at e
  split at e
  · rename_i p q ep eq
    split at e
    · rename_i hs
      obtain ⟨h1, h2⟩ := Bool.and_eq_true_iff.mp hs
      cases e
      exact ⟨p, q, deref_ok em dx ep, deref_ok em dy eq, h1, h2, rfl⟩
    · cases e
  · cases e
theorem eqG_ok : OpS T K (rEqD K) eqG := by
  intro F S ι G H x y d vx vy Q em dx dy e q
  unfold eqG at e
  cases eb : eqP (deref x S) (deref y S) with
  | none => rw [eb] at e; cases e
  | some b =>
    rw [eb] at e
    cases e
    obtain ⟨p, r, h1, h2, h3, h4, h5⟩ := eqP_ok em dx dy eb
    exact ⟨p, r, h1, h2, h3, h4, q _ G H em (Ext.refl _ _) (by simp only [DR]; rw [h5])⟩
theorem neG_ok : OpS T K (rNeD K) neG := by
  intro F S ι G H x y d vx vy Q em dx dy e q
  unfold neG at e
  cases eb : eqP (deref x S) (deref y S) with
  | none => rw [eb] at e; cases e
  | some b =>
    rw [eb] at e
    cases e
    obtain ⟨p, r, h1, h2, h3, h4, h5⟩ := eqP_ok em dx dy eb
    exact ⟨p, r, h1, h2, h3, h4, q _ G H em (Ext.refl _ _) (by simp only [DR]; rw [h5])⟩
def eqD : Op2 := op2 eqS eqG
def neD : Op2 := op2 neS neG
theorem eqD_ok : OpS T K (fun x y H Q => rEq x y H Q ∨ rEqD K x y H Q) eqD := eqS_ok.or2 eqG_ok
theorem neD_ok : OpS T K (fun x y H Q => rNe x y H Q ∨ rNeD K x y H Q) neD := neS_ok.or2 neG_ok
end
theorem op_eqJ {X : Cx} {k : Nat} (hr : Rg k X.A) : OpR X (compareOp .Eq) (fun x y H Q => rEq x y H Q ∨ rEqD X.K x y H Q) := OpR.or op_eq (op_eqD hr.r.units)
theorem op_neJ {X : Cx} {k : Nat} (hr : Rg k X.A) : OpR X (compareOp .NotEq) (fun x y H Q => rNe x y H Q ∨ rNeD X.K x y H Q) := OpR.or op_ne (op_neD hr.r.units)
end J
set_option Elab.async false
set_option linter.all false
set_option maxRecDepth 100000
set_option maxHeartbeats 410000
/-! J6: in, is, calls of built-ins, what is walked -/
namespace J
open PySem PySem.Spec L2
/-! ### in -/
def inS : Op2
  | .str [c], .str z, _ => some (.bl (decide (c ∈ z)))
  | _, _, _ => none
def flatD : D → Bool
  | .non => true
  | .bl _ => true
  | .int _ => true
  | .str _ => true
  | _ => false
def eqF : D → D → Bool
  | .non, .non => true
  | .bl a, .bl b => a == b
  | .bl p, .int n => (if p then 1 else 0) == n
  | .int n, .bl p => n == (if p then 1 else 0)
  | .int a, .int b => a == b
  | .str a, .str b => decide (a = b)
  | _, _ => false
def seqA (x : D) (S : Store) : Option (List D) := (seqR x S).or (seqT x)
def inQ : Op2 := fun x y S => match seqA y S with
  | some ys => if (flatD x && ys.all flatD) = true then some (.bl (ys.any fun z => eqF z x)) else none
  | none => none
section
variable {T : Tab} {K : PySem.W.Frag}
theorem inS_ok : OpS T K (fun x y H Q => ∃ (c : Nat) (z : Str), x = .str ⟨#[c]⟩ ∧ y = .str z ∧ Q (.bl (decide (c ∈ z.cps.toList))) H) inS := by
  intro F S ι G H x y d vx vy Q em dx dy e q
  unfold inS at e
  split at e
  · cases e
    simp only [DR] at dx dy
    exact ⟨_, _, dx, dy, q _ G H em (Ext.refl _ _) (by simp only [DR])⟩
  · cases e
theorem flat_ok {G : Hp} {ι : List Addr} {x : D} {v : V} (h : DR T K G ι x v) (f : flatD x = true) : flatV v = true := by
  cases x <;> simp only [flatD] at f <;> first | (simp only [DR] at h; subst h; rfl) | cases f
theorem eqF_ok {G : Hp} {ι : List Addr} {x y : D} {v u : V} (h : DR T K G ι x v) (k : DR T K G ι y u) (f : flatD x = true) (g : flatD y = true) : eqF x y = eqV v u := by
  cases x <;> simp only [flatD] at f <;> first | (cases f; done) | skip
  all_goals (cases y <;> simp only [flatD] at g <;> first | (cases g; done) | skip)
  all_goals (simp only [DR] at h k; subst h; subst k; first | rfl | skip)
  rename_i a b
  show decide (a = b) = ((⟨a.toArray⟩ : Str) == ⟨b.toArray⟩)
  by_cases e : a = b
  · subst e; simp
  · rw [decide_eq_false e]
    symm
    exact beq_eq_false_iff_ne.mpr fun z => e (str_inj.mp z)
theorem flats_ok {G : Hp} {ι : List Addr} {x : D} {v : V} (h : DR T K G ι x v) (f : flatD x = true) : ∀ {ds : List D} {vs : List V}, DRs T K G ι ds vs → ds.all flatD = true → vs.all flatV = true ∧ (ds.any fun z => eqF z x) = inV v vs
  | [], _, r, _ => by simp only [DRs] at r; subst r; exact ⟨rfl, rfl⟩
  | y :: ys, _, r, a => by
    simp only [DRs] at r
    obtain ⟨u, us, rfl, r1, r2⟩ := r
    rw [List.all_cons, Bool.and_eq_true_iff] at a
    obtain ⟨h1, h2⟩ := flats_ok h f r2 a.2
    refine ⟨by rw [List.all_cons, flat_ok r1 a.1, h1]; rfl, ?_⟩
    unfold inV at h2 ⊢
    rw [List.any_cons, List.any_cons, h2, eqF_ok r1 h a.1 f]
theorem seqA_ok {F : Hp} {S : Store} {ι : List Addr} {G H : Hp} (em : Em T K F S ι G H) {x : D} {v : V} {xs : List D} (h : DR T K G ι x v) (e : seqA x S = some xs) : ∃ a vs, v = .ref a ∧ (SqL K H a vs ∨ SqT K H a vs) ∧ DRs T K G ι xs vs := by
  rcases or_some e with e | e
  · obtain ⟨a, vs, h1, h2, h3⟩ := seqR_ok em h e
    exact ⟨a, vs, h1, .inl h2, h3⟩
  · obtain ⟨a, vs, h1, h2, h3⟩ := seqT_ok em h e
    exact ⟨a, vs, h1, .inr (SqT.of h2), h3⟩
theorem inQ_ok : OpS T K (rIn K false) inQ := by
  intro F S ι G H x y d vx vy Q em dx dy e q
  unfold inQ at e
  split at e
  · rename_i ys ey
    split at e
    · rename_i hf
      cases e
      obtain ⟨f1, f2⟩ := Bool.and_eq_true_iff.mp hf
      obtain ⟨a, vs, rfl, hs, r⟩ := seqA_ok em dy ey
      obtain ⟨h1, h2⟩ := flats_ok dx f1 r f2
      exact ⟨a, vs, rfl, hs, flat_ok dx f1, h1, q _ G H em (Ext.refl _ _) (by simp only [DR]; rw [h2]; rfl)⟩
    · cases e
  · cases e
def inD : Op2 := op2 inS inQ
theorem inD_ok : OpS T K (fun x y H Q => (∃ (c : Nat) (z : Str), x = .str ⟨#[c]⟩ ∧ y = .str z ∧ Q (.bl (decide (c ∈ z.cps.toList))) H) ∨ rIn K false x y H Q) inD := inS_ok.or2 inQ_ok
/-! ### is None -/
/-! ### calls -/
def lenD : OpN
  | [.str a], _ => if a.length ≤ 100000 then some (.int a.length) else none
  | [x], S => (seqA x S).map fun xs => .int xs.length
  | _, _ => none
theorem DRs.one {G : Hp} {ι : List Addr} {x : D} {vs : List V} (h : DRs T K G ι [x] vs) : ∃ v, vs = [v] ∧ DR T K G ι x v := by
  simp only [DRs] at h
  obtain ⟨v, r, rfl, h1, rfl⟩ := h
  exact ⟨v, rfl, h1⟩
theorem DRs.two {G : Hp} {ι : List Addr} {x y : D} {vs : List V} (h : DRs T K G ι [x, y] vs) : ∃ v w, vs = [v, w] ∧ DR T K G ι x v ∧ DR T K G ι y w := by
  simp only [DRs] at h
  obtain ⟨v, r, rfl, h1, w, r2, rfl, h2, rfl⟩ := h
  exact ⟨v, w, rfl, h1, h2⟩
theorem lenD_ok : CaS T K (fun xs H Q => ∃ x n, xs = [x] ∧ LenV K x H n ∧ Q (.int n) H) lenD := by
  intro F S ι G H xs d vs Q em dr e q
  unfold lenD at e
  split at e
  · split at e
    · rename_i hl
      cases e
      obtain ⟨v, rfl, r⟩ := dr.one
      simp only [DR] at r
      subst r
      exact ⟨_, _, rfl, ⟨by rw [str_len]; exact sz_of hl, rfl⟩, q _ G H em (Ext.refl _ _) (by simp only [DR, str_len])⟩
    · cases e
  · rename_i _ x _
    obtain ⟨v, rfl, r⟩ := dr.one
    cases e2 : seqA x S with
    | none => rw [e2] at e; cases e
    | some xs =>
      rw [e2] at e
      cases e
      obtain ⟨a, vs, rfl, hs, r2⟩ := seqA_ok em r e2
      refine ⟨_, vs.length, rfl, ?_, q _ G H em (Ext.refl _ _) (by simp only [DR]; rw [r2.length])⟩
      exact hs.elim (fun z => .inl ⟨vs, z, rfl⟩) fun z => .inr ⟨vs, z, rfl⟩
  · cases e
def intD : OpN
  | [.int i], _ => some (.int i)
  | [.bl b], _ => some (.int (if b then 1 else 0))
  | _, _ => none
theorem intD_ok : CaS T K (fun xs H Q => (∃ i, xs = [.int i] ∧ Q (.int i) H) ∨ ∃ k, xs = [.bl k] ∧ Q (.int (if k then 1 else 0)) H) intD := by
  intro F S ι G H xs d vs Q em dr e q
  unfold intD at e
  split at e
  · cases e
    obtain ⟨v, rfl, r⟩ := dr.one
    simp only [DR] at r
    subst r
    exact .inl ⟨_, rfl, q _ G H em (Ext.refl _ _) (by simp only [DR])⟩
  · cases e
    obtain ⟨v, rfl, r⟩ := dr.one
    simp only [DR] at r
    subst r
    exact .inr ⟨_, rfl, q _ G H em (Ext.refl _ _) (by simp only [DR])⟩
  · cases e
def absD : OpN
  | [.int i], _ => some (.int (if i < 0 then -i else i))
  | _, _ => none
theorem absD_ok : CaS T K (fun xs H Q => ∃ i, xs = [.int i] ∧ Q (.int (if i < 0 then -i else i)) H) absD := by
  intro F S ι G H xs d vs Q em dr e q
  unfold absD at e
  split at e
  · cases e
    obtain ⟨v, rfl, r⟩ := dr.one
    simp only [DR] at r
    subst r
    exact ⟨_, rfl, q _ G H em (Ext.refl _ _) (by simp only [DR])⟩
  · cases e
def max2 : OpN
  | [.int i, .int j], _ => some (.int (if j > i then j else i))
  | _, _ => none
def min2 : OpN
  | [.int i, .int j], _ => some (.int (if j < i then j else i))
  | _, _ => none
theorem max2_ok : CaS T K (fun xs H Q => ∃ i j, xs = [.int i, .int j] ∧ Q (.int (if j > i then j else i)) H) max2 := by
  intro F S ι G H xs d vs Q em dr e q
  unfold max2 at e
  split at e
  · cases e
    obtain ⟨v, w, rfl, r, r2⟩ := dr.two
    simp only [DR] at r r2
    subst r; subst r2
    exact ⟨_, _, rfl, q _ G H em (Ext.refl _ _) (by simp only [DR])⟩
  · cases e
theorem min2_ok : CaS T K (fun xs H Q => ∃ i j, xs = [.int i, .int j] ∧ Q (.int (if j < i then j else i)) H) min2 := by
  intro F S ι G H xs d vs Q em dr e q
  unfold min2 at e
  split at e
  · cases e
    obtain ⟨v, w, rfl, r, r2⟩ := dr.two
    simp only [DR] at r r2
    subst r; subst r2
    exact ⟨_, _, rfl, q _ G H em (Ext.refl _ _) (by simp only [DR])⟩
  · cases e
def divmodD : OpN
  | [.int i, .int j], _ => if 0 < j ∧ j < 1073741824 then some (.tup [.int (i / j), .int (i % j)]) else none
  | _, _ => none
theorem divmodD_ok : CaS T K (fun xs H Q => ∃ i j, xs = [.int i, .int j] ∧ CDiv i j ∧ ∀ p, H p = none → Q (.ref p) (upd H p (.tup [.int (i / j), .int (i % j)]))) divmodD := by
  intro F S ι G H xs d vs Q em dr e q
  unfold divmodD at e
  split at e
  · split at e
    · rename_i hc
      cases e
      obtain ⟨v, w, rfl, r, r2⟩ := dr.two
      simp only [DR] at r r2
      subst r; subst r2
      refine ⟨_, _, rfl, hc, fun p hp => ?_⟩
      obtain ⟨em2, x2⟩ := em.frz (o := .tup [.int (_ / _), .int (_ % _)]) hp
      refine q _ _ _ em2 x2 ?_
      simp only [DR]
      exact ⟨p, _, rfl, upd_same, DRs.cons (by simp only [DR]) (DRs.cons (by simp only [DR]) DRs.nil)⟩
    · cases e
  · cases e
def boolsOf : List D → Option (List Bool)
  | [] => some []
  | .bl b :: xs => (boolsOf xs).map (b :: ·)
  | _ :: _ => none
def strsOf : List D → Option (List (List Nat))
  | [] => some []
  | .str b :: xs => (strsOf xs).map (b :: ·)
  | _ :: _ => none
theorem boolsOf_ok {G : Hp} {ι : List Addr} : ∀ {xs : List D} {vs : List V} {bs : List Bool}, DRs T K G ι xs vs → boolsOf xs = some bs → vs = bs.map V.bl
  | [], _, _, r, e => by simp only [DRs] at r; cases e; exact r
  | x :: xs, _, bs, r, e => by
    simp only [DRs] at r
    obtain ⟨v, u, rfl, r1, r2⟩ := r
    cases x with
    | bl b =>
      simp only [boolsOf] at e
      cases e1 : boolsOf xs with
      | none => rw [e1] at e; cases e
      | some cs =>
        rw [e1] at e
        cases e
        simp only [DR] at r1
        rw [r1, boolsOf_ok r2 e1]
        rfl
    | _ => cases e
theorem strsOf_ok {G : Hp} {ι : List Addr} : ∀ {xs : List D} {vs : List V} {bs : List (List Nat)}, DRs T K G ι xs vs → strsOf xs = some bs → vs = (bs.map fun l => (⟨l.toArray⟩ : Str)).map V.str
  | [], _, _, r, e => by simp only [DRs] at r; cases e; exact r
  | x :: xs, _, bs, r, e => by
    simp only [DRs] at r
    obtain ⟨v, u, rfl, r1, r2⟩ := r
    cases x with
    | str b =>
      simp only [strsOf] at e
      cases e1 : strsOf xs with
      | none => rw [e1] at e; cases e
      | some cs =>
        rw [e1] at e
        cases e
        simp only [DR] at r1
        rw [r1, strsOf_ok r2 e1]
        rfl
    | _ => cases e
def allD : OpN
  | [x], S => ((seqR x S).bind boolsOf).map fun bs => .bl (bs.all id)
  | _, _ => none
theorem one_list {F : Hp} {S : Store} {ι : List Addr} {G H : Hp} {α : Type} {f : List D → Option α} {g : α → D} {x d : D} {vs : List V} (em : Em T K F S ι G H) (dr : DRs T K G ι [x] vs) (e : ((seqR x S).bind f).map g = some d) :
    ∃ a us ds y, vs = [.ref a] ∧ SqL K H a us ∧ DRs T K G ι ds us ∧ f ds = some y ∧ d = g y := by
  obtain ⟨v, rfl, r⟩ := dr.one
  cases e1 : seqR x S with
  | none => rw [e1] at e; cases e
  | some ds =>
    rw [e1] at e
    obtain ⟨a, us, rfl, h1, h2⟩ := seqR_ok em r e1
    cases e2 : f ds with
    | none => simp only [Option.bind_some, e2] at e; cases e
    | some y =>
      simp only [Option.bind_some, e2, Option.map_some] at e
      cases e
      exact ⟨a, us, ds, y, rfl, h1, h2, e2, rfl⟩
theorem allD_ok : CaS T K (rAll K) allD := by
  intro F S ι G H xs d vs Q em dr e q
  unfold allD at e
  split at e
  · obtain ⟨a, us, ds, bs, rfl, h1, h2, h3, rfl⟩ := one_list em dr e
    rw [boolsOf_ok h2 h3] at h1
    exact ⟨a, bs, rfl, h1, q _ G H em (Ext.refl _ _) (by simp only [DR])⟩
  · cases e
end
end J
set_option Elab.async false
set_option linter.all false
set_option maxRecDepth 100000
set_option maxHeartbeats 410000
/-! J7: methods of texts and lists, stores into lists, what is walked -/
namespace J
open PySem PySem.Spec L2
open PySem.StrLaws (occBody occ_eq subAt_one occ_head At)
/-! ### one sign in a text: count, find, index -/
theorem at_one {a : List Nat} {c i : Nat} : At ⟨a.toArray⟩ ⟨#[c]⟩ (⟨a.toArray⟩ : Str).length i ↔ a[i]? = some c := by
  have := subAt_one ⟨a.toArray⟩ c i
  simpa [At] using this
/-- where a sign first stands -/
def fstAt (c : Nat) : List Nat → Option Nat
  | [] => none
  | x :: xs => if x = c then some 0 else (fstAt c xs).map (· + 1)
theorem fstAt_none {c : Nat} : ∀ {a : List Nat}, (∀ i : Nat, a[i]? ≠ some c) → fstAt c a = none
  | [], _ => rfl
  | x :: xs, h => by
    unfold fstAt
    rw [if_neg fun z => h 0 (by simp [z]), fstAt_none (a := xs) fun i => by simpa using h (i + 1)]
    rfl
theorem fstAt_some {c : Nat} : ∀ {a : List Nat} {i : Nat}, a[i]? = some c → (∀ k, k < i → a[k]? ≠ some c) → fstAt c a = some i
  | x :: xs, 0, h, _ => by
    unfold fstAt
    rw [if_pos (by simpa using h)]
  | x :: xs, i + 1, h, n => by
    unfold fstAt
    rw [if_neg fun z => n 0 (by omega) (by simp [z]), fstAt_some (a := xs) (i := i) (by simpa using h) fun k hk => by simpa using n (k + 1) (by omega)]
    rfl
theorem occ_one (a : List Nat) (c lim : Nat) (hl : 1 ≤ lim) : match Builtin.Str.occurrences ⟨a.toArray⟩ ⟨#[c]⟩ 0 (⟨a.toArray⟩ : Str).length lim with
    | i :: _ => fstAt c a = some i
    | [] => fstAt c a = none := by
  rcases occ_head ⟨a.toArray⟩ ⟨#[c]⟩ lim hl with ⟨e, h⟩ | ⟨i, r, e, h1, h2⟩
  · rw [e]
    exact fstAt_none fun i z => h i (at_one.mpr z)
  · rw [e]
    exact fstAt_some (at_one.mp h1) fun k hk z => h2 k hk (at_one.mpr z)
theorem find_one (a : List Nat) (c : Nat) : Txt.find ⟨a.toArray⟩ ⟨#[c]⟩ = (match fstAt c a with | some i => (i : Int) | none => -1) := by
  unfold Txt.find
  have h := occ_one a c 1 (Nat.le_refl _)
  split at h
  · rename_i i _ e
    rw [e, h]
  · rename_i e
    rw [e, h]
def strFind : OpM
  | .str a, [.str [c]] => M.ret (.int (match fstAt c a with | some i => (i : Int) | none => -1))
  | _, _ => M.no
def strIndex : OpM
  | .str a, [.str [c]] => match fstAt c a with
    | some i => M.ret (.int (i : Int))
    | none => M.no
  | _, _ => M.no
def joinL : List Nat → List (List Nat) → List Nat := TL.joinL
def strJoin : OpM
  | .str a, [x] => fun S => match (seqA x S).bind strsOf with
    | some ys => if ys.length ≤ 1000 ∧ a.length ≤ 1000 ∧ (ys.all fun y => decide (y.length ≤ 1000)) = true then .ok (.str (TL.joinL a ys)) S else .no
    | none => .no
  | _, _ => M.no
section
variable {T : Tab} {K : PySem.W.Frag}
theorem strFind_ok : MtS T K (fun x xs H Q => ∃ a b, x = .str a ∧ xs = [.str b] ∧ Q (.int (Txt.find a b)) H) strFind := by
  intro F S ι G H x xs vx vs W σ Q em dx dr h
  unfold strFind at h
  split at h
  · obtain ⟨v, rfl, r⟩ := dr.one
    simp only [DR] at dx r
    refine ⟨_, _, dx, by rw [r], ?_⟩
    exact Thn.ok h em (by simp only [DR]; rw [find_one])
  · exact h.elim
theorem strIndex_ok : MtS T K (fun x xs H Q => ∃ a b i rest, x = .str a ∧ xs = [.str b] ∧ Builtin.Str.occurrences a b 0 a.length 1 = i :: rest ∧ Q (.int (i : Nat)) H) strIndex := by
  intro F S ι G H x xs vx vs W σ Q em dx dr h
  unfold strIndex at h
  split at h
  · rename_i a c
    obtain ⟨v, rfl, r⟩ := dr.one
    simp only [DR] at dx r
    have ho := occ_one a c 1 (Nat.le_refl _)
    cases e : fstAt c a with
    | some i =>
      rw [e] at h ho
      split at ho
      · rename_i j rest e2
        cases ho
        exact ⟨_, _, i, rest, dx, by rw [r], e2, Thn.ok h em (by simp only [DR])⟩
      · cases ho
    | none => rw [e] at h; exact h.elim
  · exact h.elim
theorem join_mk (a : List Nat) (ys : List (List Nat)) : Txt.join ⟨a.toArray⟩ (ys.map fun l => (⟨l.toArray⟩ : Str)) = ⟨(TL.joinL a ys).toArray⟩ := by
  rw [TL.join_eq]
  apply TL.ext_tl
  rw [TL.tl_join]
  show TL.joinL a ((ys.map fun l => (⟨l.toArray⟩ : Str)).map TL.tl) = TL.joinL a ys
  congr 1
  rw [List.map_map]
  conv => rhs; rw [← List.map_id ys]
  apply List.map_congr_left
  intro l _
  simp [TL.tl]
theorem join_fits {a : List Nat} {ys : List (List Nat)} (h1 : ys.length ≤ 1000) (h2 : a.length ≤ 1000) (h3 : (ys.all fun y => decide (y.length ≤ 1000)) = true) : (((ys.map fun l => (⟨l.toArray⟩ : Str)).map (·.length)).sum + (ys.map fun l => (⟨l.toArray⟩ : Str)).length * (⟨a.toArray⟩ : Str).length) ≤ 16777216 := by
  have key : ∀ zs : List (List Nat), (zs.all fun y => decide (y.length ≤ 1000)) = true → ((zs.map fun l => (⟨l.toArray⟩ : Str)).map (·.length)).sum ≤ zs.length * 1000 := by
    intro zs
    induction zs with
    | nil => intro _; simp
    | cons z zs ih =>
      intro h
      rw [List.all_cons, Bool.and_eq_true_iff] at h
      have := ih h.2
      have hz : z.length ≤ 1000 := of_decide_eq_true h.1
      simp only [List.sum_cons, List.length_cons, List.map_cons]
      rw [str_len]
      omega
  have h4 := key ys h3
  rw [List.length_map, str_len]
  have h5 : ys.length * 1000 ≤ 1000 * 1000 := Nat.mul_le_mul h1 (Nat.le_refl _)
  have h6 : ys.length * a.length ≤ 1000 * 1000 := Nat.mul_le_mul h1 h2
  omega
theorem strJoin_ok : MtS T K (fun x xs H Q => ∃ a p, ∃ ys : List Str, x = .str a ∧ xs = [.ref p] ∧ (SqL K H p (ys.map V.str) ∨ SqT K H p (ys.map V.str)) ∧
    (ys.map (·.length)).sum + ys.length * a.length ≤ 16777216 ∧ Q (.str (Txt.join a ys)) H) strJoin := by
  intro F S ι G H x xs vx vs W σ Q em dx dr h
  unfold strJoin at h
  split at h
  · rename_i a y
    obtain ⟨v, rfl, r⟩ := dr.one
    simp only [DR] at dx
    cases e1 : seqA y S with
    | none => rw [e1] at h; exact h.elim
    | some ds =>
      rw [e1] at h
      dsimp only [Option.bind_some] at h
      cases e2 : strsOf ds with
      | none => rw [e2] at h; exact h.elim
      | some ys =>
        rw [e2] at h
        dsimp only at h
        split at h
        · rename_i hc
          obtain ⟨p, us, rfl, hs, r2⟩ := seqA_ok em r e1
          rw [strsOf_ok r2 e2] at hs
          refine ⟨_, p, ys.map fun l => (⟨l.toArray⟩ : Str), dx, rfl, hs, join_fits hc.1 hc.2.1 hc.2.2, ?_⟩
          rw [join_mk]
          exact Thn.ok h em (by simp only [DR])
        · exact h.elim
  · exact h.elim
/-! ### xs.append(e) -/
def lstApp : OpM
  | .ref n, [y] => fun S => match S.get n with
    | some (.lst xs) => if xs.length < 100000 then .ok .non (S.set n (.lst (xs ++ [y]))) else .no
    | _ => .no
  | _, _ => M.no
theorem obj_at {F : Hp} {S : Store} {ι : List Addr} {G H : Hp} {n : Nat} {v : V} {o : MO} (em : Em T K F S ι G H) (h : DR T K G ι (.ref n) v) (e : S.get n = some o) : ∃ a u, v = .ref a ∧ ι[n]? = some a ∧ H a = some u ∧ OR T K G ι o u := by
  simp only [DR] at h
  obtain ⟨a, ha, rfl⟩ := h
  obtain ⟨a', u, h1, _, _, h4, h5⟩ := em.obj n o e
  rw [ha] at h1
  cases h1
  exact ⟨a, u, rfl, ha, h4, h5⟩
theorem lstApp_ok : MtS T K rAppend lstApp := by
  intro F S ι G H x xs vx vs W σ Q em dx dr h
  unfold lstApp at h
  split at h
  · rename_i n y
    obtain ⟨v, rfl, r⟩ := dr.one
    cases e : S.get n with
    | none => rw [e] at h; exact h.elim
    | some o =>
      rw [e] at h
      cases o with
      | lst ds =>
        dsimp only at h
        split at h
        · rename_i hl
          obtain ⟨a, u, rfl, ha, hu, us, rfl, hr⟩ := obj_at em dx e
          refine ⟨a, us, v, rfl, rfl, hu, by rw [← hr.length]; exact Nat.lt_of_lt_of_le hl (by decide), ?_⟩
          exact h _ _ _ _ (em.set (by rw [e]; rfl) ha ⟨_, rfl, hr.append (DRs.cons r DRs.nil)⟩) (Ext.refl _ _) (by simp only [DR])
        · exact h.elim
      | _ => exact h.elim
  · exact h.elim
end
end J
set_option Elab.async false
set_option linter.all false
set_option maxRecDepth 100000
set_option maxHeartbeats 410000
/-! J8: assignments, what is walked -/
namespace J
open PySem PySem.Spec L2
/-! ### target = value, the target names -/
def sAsgG (g : NG) (ie : IE) : IS := fun ρ => sBind (ie ρ) ρ fun d => match ngD g d ρ with
  | some ρ' => M.ret (.nx ρ')
  | none => M.no
section
variable {T : Tab} {X : Cx} {W : WX} {e tg : Expr} {ie : IE} {g : NG} {pos : Pos}
theorem js_asg (he : JE T X W e ie) (hg : PG X tg (ngV X.K g)) (hs : swapsWithSole [tg] e pos.line X.env = pure false := by rfl) (hw : swappedStores [tg] e X.env = pure none := by rfl)
    (h1 : (assignEach [tg] X.env).map (·.2) = [assign tg X.env] := by rfl) : JS T X W (.Assign [tg] e pos) (sAsgG g ie) := by
  refine PS.mono (ps_asg he hg hs hw h1) fun D σ H ⟨ρ, F, S, ι, G, em, sr, h⟩ => ⟨ρ, F, S, ι, G, em, sr, ThnS.bind (rel := DR T X.K) h sr fun a S1 v ι1 G1 H1 em1 x1 r h1 => ?_⟩
  cases q : ngD g a ρ with
  | none => rw [q] at h1; exact h1.elim
  | some ρ' =>
    rw [q] at h1
    exact ng_ok em1 (sr.mono x1) r q fun σ' sr' _ => h1.nx em1 sr'
/-- a, b = x, y -/
def sPar (i j : Nat) (ia : IA) : IS := fun ρ => sBind (ia ρ) ρ fun xs => match xs with
  | [x, y] => M.ret (.nx ((ρ.set i (some x)).set j (some y)))
  | _ => M.no
theorem js_par {i j : Nat} {x y : Str} {a b : Expr} {ia : IA} {px py pt : Pos} {kt k2 pt2} (hc : X.calm = true) (hN : X.N.Nodup) (hi : X.N[i]? = some x) (hj : X.N[j]? = some y) (hij : i ≠ j)
    (hx : X.env.scope.names.lookup x = some .local) (hy : X.env.scope.names.lookup y = some .local) (ha : JA T X W [a, b] ia)
    (hw : swappedStores [.Tuple [.Name x px, .Name y py] kt pt] (.Tuple [a, b] k2 pt2) X.env = pure (some [x, y]) := by rfl)
    (sole : swapsWithSole [.Tuple [.Name x px, .Name y py] kt pt] (.Tuple [a, b] k2 pt2) pos.line X.env = pure false := by rfl) :
    JS T X W (.Assign [.Tuple [.Name x px, .Name y py] kt pt] (.Tuple [a, b] k2 pt2) pos) (sPar i j ia) := by
  refine PS.mono (ps_par hc hN hi hj hij hx hy ha hw sole) fun D σ H ⟨ρ, F, S, ι, G, em, sr, h⟩ => ⟨ρ, F, S, ι, G, em, sr, ThnS.bind (rel := DRs T X.K) h sr fun xs S1 vs ι1 G1 H1 em1 x1 r h1 => ?_⟩
  match xs, r, h1 with
  | [d1, d2], r, h1 =>
    obtain ⟨v, w, rfl, r1, r2⟩ := r.two
    exact ⟨v, w, rfl, h1.nx em1 (((sr.mono x1).set r1 i).set r2 j)⟩
  | [], _, h1 => exact h1.elim
  | [_], _, h1 => exact h1.elim
  | _ :: _ :: _ :: _, _, h1 => exact h1.elim
end
/-! ### o[i] = v -/
abbrev OpSet := D → D → D → Store → Option Store
def setL : OpSet
  | .ref n, .int k, v, S => match S.get n with
    | some (.lst xs) => (ixN xs.length k).map fun j => S.set n (.lst (xs.set j v))
    | _ => none
  | _, _, _, _ => none
def SetS (T : Tab) (K : PySem.W.Frag) (r : TSet) (f : OpSet) : Prop := ∀ F S S' ι G H o i v vo vi vv (Q : Hp → Prop), Em T K F S ι G H → DR T K G ι o vo → DR T K G ι i vi → DR T K G ι v vv → f o i v S = some S' →
  (∀ G' H', Em T K F S' ι G' H' → Ext G ι G' ι → Q H') → r vo vi vv H Q
theorem setL_ok {T : Tab} {K : PySem.W.Frag} : SetS T K rSetL setL := by
  intro F S S' ι G H o i v vo vi vv Q em d1 d2 d3 e q
  cases o with
  | ref n =>
    cases i with
    | int k =>
      simp only [setL] at e
      cases e1 : S.get n with
      | none => rw [e1] at e; cases e
      | some ob =>
        rw [e1] at e
        cases ob with
        | lst xs =>
          dsimp only at e
          cases e2 : ixN xs.length k with
          | none => rw [e2] at e; cases e
          | some j =>
            rw [e2] at e
            cases e
            obtain ⟨a, u, rfl, ha, hu, us, rfl, hr⟩ := obj_at em d1 e1
            simp only [DR] at d2
            exact ⟨a, us, k, j, rfl, d2, hu, by rw [← hr.length]; exact e2, q G _ (em.set (by rw [e1]; rfl) ha ⟨_, rfl, hr.set d3 j⟩) (Ext.refl _ _)⟩
        | _ => cases e
    | _ => cases e
  | _ => cases e
def sSetI (f : OpSet) (ie io ii : IE) : IS := fun ρ => sBind (ie ρ) ρ fun v => sBind (io ρ) ρ fun o => sBind (ii ρ) ρ fun i => fun S => match f o i v S with
  | some S' => .ok (.nx ρ) S'
  | none => .no
section
variable {T : Tab} {X : Cx} {W : WX} {e o i : Expr} {ie io ii : IE} {pos p1 : Pos} {r : TSet} {f : OpSet}
theorem js_setI (hp : PSet X r) (hf : SetS T X.K r f) (he : JE T X W e ie) (ho : JE T X W o io) (hi : JE T X W i ii)
    (ha : ∀ v, assign (.Subscript o i p1) X.env v = (do
      let obv ← holding [v] (eval o X.env)
      let idx ← holding [v, obv] (eval i X.env)
      standAt p1
      holding [v, obv, idx] (setItem obv idx v)
      release [v, obv, idx] []) := by intro _; rfl)
    (hs : swapsWithSole [.Subscript o i p1] e pos.line X.env = pure false := by rfl) (hw : swappedStores [.Subscript o i p1] e X.env = pure none := by rfl)
    (h1 : (assignEach [.Subscript o i p1] X.env).map (·.2) = [assign (.Subscript o i p1) X.env] := by rfl) : JS T X W (.Assign [.Subscript o i p1] e pos) (sSetI f ie io ii) := by
  refine PS.mono (ps_asg he (pg_sub ho hi hp ha) hs hw h1) fun D σ H ⟨ρ, F, S, ι, G, em, sr, h⟩ => ⟨ρ, F, S, ι, G, em, sr, ThnS.bind (rel := DR T X.K) h sr fun v S1 vv ι1 G1 H1 em1 x1 d1 h1 => ?_⟩
  refine ⟨ρ, F, S1, ι1, G1, em1, sr.mono x1, ThnS.bind (rel := DR T X.K) h1 (sr.mono x1) fun ob S2 vo ι2 G2 H2 em2 x2 d2 h2 => ?_⟩
  refine ⟨ρ, F, S2, ι2, G2, em2, (sr.mono x1).mono x2, ThnS.bind (rel := DR T X.K) h2 ((sr.mono x1).mono x2) fun iv S3 vi ι3 G3 H3 em3 x3 d3 h3 => ?_⟩
  cases q : f ob iv v S3 with
  | none => rw [q] at h3; exact h3.elim
  | some S4 =>
    rw [q] at h3
    exact hf F S3 S4 ι3 G3 H3 ob iv v vo vi vv _ em3 (d2.mono x3.1 x3.2) d3 ((d1.mono x2.1 x2.2).mono x3.1 x3.2) q fun G' H' em' x' => h3 _ _ _ _ em' x' (((sr.mono x1).mono x2).mono (x3.trans x'))
/-- o[i], name = a tuple -/
def sSetIN (f : OpSet) (ie io ii : IE) (j : Nat) : IS := fun ρ => sBind (ie ρ) ρ fun d => match d with
  | .tup [v, w] => sBind (io ρ) ρ fun o => sBind (ii ρ) ρ fun i => fun S => match f o i v S with
    | some S' => .ok (.nx (ρ.set j (some w))) S'
    | none => .no
  | _ => M.no
theorem js_setIN {j : Nat} {x : Str} {pt p2 : Pos} {kt : Nat} (hc : X.calm = true) (hp : PSet X r) (hf : SetS T X.K r f) (hN : X.N.Nodup) (hj : X.N[j]? = some x) (hx : Loc X.env.scope x) (he : JE T X W e ie) (ho : JE T X W o io) (hi : JE T X W i ii)
    (ha : ∀ v, assign (.Subscript o i p1) X.env v = (do
      let obv ← holding [v] (eval o X.env)
      let idx ← holding [v, obv] (eval i X.env)
      standAt p1
      holding [v, obv, idx] (setItem obv idx v)
      release [v, obv, idx] []) := by intro _; rfl)
    (hfn : X.fn x = true ∨ X.env.scope.names.lookup x = some .local := by first | exact .inl rfl | exact .inr rfl | assumption)
    (hs : swapsWithSole [.Tuple [.Subscript o i p1, .Name x p2] kt pt] e pos.line X.env = pure false := by rfl) (hw : swappedStores [.Tuple [.Subscript o i p1, .Name x p2] kt pt] e X.env = pure none := by rfl)
    (h1 : (assignEach [.Tuple [.Subscript o i p1, .Name x p2] kt pt] X.env).map (·.2) = [assign (.Tuple [.Subscript o i p1, .Name x p2] kt pt) X.env] := by rfl)
    (ht : (assignEach [.Subscript o i p1, .Name x p2] X.env).map (·.2) = assign (.Subscript o i p1) X.env :: (assignEach [.Name x p2] X.env).map (·.2) := by rfl)
    (hn : (assignEach [.Subscript o i p1, .Name x p2] X.env).length = 2 := by rfl) (hst : (assignEach [.Subscript o i p1, .Name x p2] X.env).findIdx? (·.1) = none := by rfl) :
    JS T X W (.Assign [.Tuple [.Subscript o i p1, .Name x p2] kt pt] e pos) (sSetIN f ie io ii j) := by
  refine PS.mono (ps_asg he (pg_tup (n := 2) hc (pgs_cons (pg_sub ho hi hp ha) (pgs_cons (pg_name (i := j) hN hj hx hfn) pgs_nil) ht) hn hst) hs hw h1) fun D σ H ⟨ρ, F, S, ι, G, em, sr, h⟩ => ⟨ρ, F, S, ι, G, em, sr, ThnS.bind (rel := DR T X.K) h sr fun d S1 vd ι1 G1 H1 em1 x1 d1 h1 => ?_⟩
  match d, d1, h1 with
  | .tup [v, w], d1, h1 =>
    simp only [DR] at d1
    obtain ⟨a, vs, rfl, hG, rs⟩ := d1
    obtain ⟨vv, vw, rfl, r1, r2⟩ := rs.two
    refine ⟨a, _, rfl, SqT.of (em1.sub _ _ hG), rfl, vv, [vw], rfl, ?_⟩
    refine ⟨ρ, F, S1, ι1, G1, em1, sr.mono x1, ThnS.bind (rel := DR T X.K) h1 (sr.mono x1) fun ob S2 vo ι2 G2 H2 em2 x2 d2 h2 => ?_⟩
    refine ⟨ρ, F, S2, ι2, G2, em2, (sr.mono x1).mono x2, ThnS.bind (rel := DR T X.K) h2 ((sr.mono x1).mono x2) fun iv S3 vi ι3 G3 H3 em3 x3 d3 h3 => ?_⟩
    cases q : f ob iv v S3 with
    | none => rw [q] at h3; exact h3.elim
    | some S4 =>
      rw [q] at h3
      refine hf F S3 S4 ι3 G3 H3 ob iv v vo vi vv _ em3 (d2.mono x3.1 x3.2) d3 ((r1.mono x2.1 x2.2).mono x3.1 x3.2) q fun G' H' em' x' => ?_
      refine ⟨vw, [], rfl, rfl, ?_⟩
      exact h3 _ _ _ _ em' x' ((((sr.mono x1).mono x2).mono (x3.trans x')).set (r2.mono (x2.trans (x3.trans x')).1 (x2.trans (x3.trans x')).2) j)
  | .tup [], _, h1 => exact h1.elim
  | .tup [_], _, h1 => exact h1.elim
  | .tup (_ :: _ :: _ :: _), _, h1 => exact h1.elim
  | .non, _, h1 => exact h1.elim
  | .bl _, _, h1 => exact h1.elim
  | .int _, _, h1 => exact h1.elim
  | .str _, _, h1 => exact h1.elim
  | .ty _, _, h1 => exact h1.elim
  | .glo _, _, h1 => exact h1.elim
  | .lst _, _, h1 => exact h1.elim
  | .scr _, _, h1 => exact h1.elim
  | .dct _ _, _, h1 => exact h1.elim
  | .dcu _ _, _, h1 => exact h1.elim
  | .ins _ _, _, h1 => exact h1.elim
  | .exn _ _ _, _, h1 => exact h1.elim
  | .ref _, _, h1 => exact h1.elim
end
/-! ### name op= e -/
def sAug (i : Nat) (f : Op2) (ie : IE) : IS := fun ρ => match ρ.getD i none with
  | some x => sBind (ie ρ) ρ fun y => fun S => match f x y S with
    | some d => .ok (.nx (ρ.set i (some d))) S
    | none => .no
  | none => M.no
theorem js_aug {T : Tab} {X : Cx} {W : WX} {i : Nat} {x : Str} {e : Expr} {ie : IE} {op : Operator} {r : TIp} {f : Op2} {pos pos' : Pos} (hN : X.N.Nodup) (hi : X.N[i]? = some x) (hx : Loc X.env.scope x) (he : JE T X W e ie) (ho : PIp X op r) (hf : OpS T X.K r f)
    (hfn : X.fn x = true ∨ X.env.scope.names.lookup x = some .local := by first | exact .inl rfl | exact .inr rfl | assumption) : JS T X W (.AugAssign (.Name x pos') op e pos) (sAug i f ie) := by
  refine PS.mono (ps_aug hN hi hx he ho hfn) fun D σ H ⟨ρ, F, S, ι, G, em, sr, h⟩ => ?_
  unfold sAug at h
  rw [List.getD_eq_getElem?_getD] at h
  cases q : ρ[i]? with
  | none => rw [q] at h; exact h.elim
  | some ox =>
    rw [q] at h
    cases ox with
    | none => exact h.elim
    | some d =>
      obtain ⟨v, hv, dr⟩ := sr.at_ i d q
      refine ⟨v, hv, ρ, F, S, ι, G, em, sr, ThnS.bind (rel := DR T X.K) h sr fun y S1 vy ι1 G1 H1 em1 x1 dy h1 => ?_⟩
      cases qf : f d y S1 with
      | none => rw [qf] at h1; exact h1.elim
      | some z =>
        rw [qf] at h1
        exact hf F S1 ι1 G1 H1 d y z v vy _ em1 (dr.mono x1.1 x1.2) dy qf fun w G' H' em' x' r' => h1 _ _ _ _ em' x' ((sr.mono (x1.trans x')).set r' i)
/-! ### what is walked: lists, tuples, texts -/
def items : D → Option (List D)
  | .lst xs => some xs
  | .scr xs => some xs
  | .tup xs => some xs
  | .str a => some (a.map fun c => .str [c])
  | _ => none
def iItems (ie : IE) : IA := fun ρ => M.bind (ie ρ) fun d => lift (items d)
theorem PI.or {X : Cx} {tg e : Expr} {t u : TI} (h : PI X tg e t) (k : PI X tg e u) : PI X tg e (fun σ H R => t σ H R ∨ u σ H R) := ⟨fun pins s σ H R I q => q.elim (h.run pins s σ H R I) (k.run pins s σ H R I)⟩
section
variable {T : Tab} {K : PySem.W.Frag} {ι : List Addr} {G : Hp}
theorem walk_list {a : Addr} {xs : List D} {vs : List V} (h : SqL K G a vs) (r : DRs T K G ι xs vs) : Walk T K ι G (Itl K a) xs := by
  intro i F S ι1 G1 H1 em x
  have hs := Same.seq em.sub (Same.seq x.1 h)
  refine ⟨fun d e => ?_, fun e => ⟨vs, hs, by rw [e, r.length]; exact Nat.le_refl _⟩⟩
  obtain ⟨v, hv, dv⟩ := r.get e
  refine ⟨⟨vs, v, hs, hv⟩, fun w H2 hy => ?_⟩
  obtain ⟨rfl, hw⟩ := hy
  have e2 := hw vs hs
  rw [hv] at e2
  cases e2
  exact ⟨G1, em, Ext.refl _ _, dv.mono x.1 x.2⟩
theorem walk_tup {a : Addr} {xs : List D} {vs : List V} (h : G a = some (.tup vs)) (r : DRs T K G ι xs vs) : Walk T K ι G (Itt K a) xs := by
  intro i F S ι1 G1 H1 em x
  have hs : SqT K H1 a vs := SqT.of (em.sub _ _ (x.1 _ _ h))
  refine ⟨fun d e => ?_, fun e => ⟨vs, hs, by rw [e, r.length]; exact Nat.le_refl _⟩⟩
  obtain ⟨v, hv, dv⟩ := r.get e
  refine ⟨⟨vs, v, hs, hv⟩, fun w H2 hy => ?_⟩
  obtain ⟨rfl, hw⟩ := hy
  have e2 := hw vs hs
  rw [hv] at e2
  cases e2
  exact ⟨G1, em, Ext.refl _ _, dv.mono x.1 x.2⟩
theorem walk_str {l : List Nat} : Walk T K ι G (Its ⟨l.toArray⟩) (l.map fun c => .str [c]) := by
  intro i F S ι1 G1 H1 em x
  refine ⟨fun d e => ?_, fun e => ?_⟩
  · rw [List.getElem?_map] at e
    cases q : l[i]? with
    | none => (rw [q] at e); exact nomatch e
    | some c =>
      rw [q] at e
      cases e
      have hl := (List.getElem?_eq_some_iff.mp q).1
      refine ⟨by show i < l.toArray.size; simpa using hl, fun w H2 hy => ?_⟩
      obtain ⟨rfl, c', hc, rfl⟩ := hy
      have hc2 : l[i]? = some c' := by simpa using hc
      rw [q] at hc2
      cases hc2
      exact ⟨G1, em, Ext.refl _ _, by simp only [DR]⟩
  · show l.toArray.size ≤ i
    rw [e]
    simp
theorem walk_range {lo : Int} {n : Nat} : Walk T K ι G (Itr lo n) ((List.range n).map fun i : Nat => .int (lo + (i : Int))) := by
  intro i F S ι1 G1 H1 em x
  refine ⟨fun d e => ?_, fun e => ?_⟩
  · rw [List.getElem?_map] at e
    cases q : (List.range n)[i]? with
    | none => (rw [q] at e); exact nomatch e
    | some c =>
      rw [q] at e
      cases e
      obtain ⟨hl, e2⟩ := List.getElem?_eq_some_iff.mp q
      rw [List.getElem_range] at e2
      subst e2
      refine ⟨by show i < n; simpa using hl, fun w H2 hy => ?_⟩
      obtain ⟨rfl, rfl⟩ := hy
      exact ⟨G1, em, Ext.refl _ _, by simp only [DR]⟩
  · show n ≤ i
    rw [e]
    simp
end
section
variable {T : Tab} {X : Cx} {W : WX} {e tg : Expr} {ie : IE} {ia : IA} {p pos : Pos}
theorem ji_items (he : JE T X W e ie) : JI T X W tg e (iItems ie) := by
  refine PI.mono (PI.or (pi_list he) (PI.or (pi_tup he) (pi_str he))) fun σ H R ⟨ρ, F, S, ι, G, em, sr, h⟩ => ?_
  unfold iItems M.bind at h
  cases q : ie ρ S with
  | no => rw [q] at h; exact h.elim
  | ex c fs S1 =>
    rw [q] at h
    exact .inl ⟨ρ, F, S, ι, G, em, sr, by rw [q]; exact h⟩
  | ok d S1 =>
    rw [q] at h
    dsimp only at h
    cases d with
    | lst xs =>
      refine .inl ⟨ρ, F, S, ι, G, em, sr, ?_⟩
      rw [q]
      intro v ι1 G1 H1 em1 x1 dr
      simp only [DR] at dr
      obtain ⟨a, vs, rfl, hG, r⟩ := dr
      exact ⟨a, rfl, ⟨vs, SqL.of (em1.sub _ _ hG)⟩, h _ _ _ _ em1 x1 (walk_list (SqL.of hG) r)⟩
    | scr xs =>
      refine .inl ⟨ρ, F, S, ι, G, em, sr, ?_⟩
      rw [q]
      intro v ι1 G1 H1 em1 x1 dr
      simp only [DR] at dr
      obtain ⟨a, vs, rfl, hG, r⟩ := dr
      exact ⟨a, rfl, ⟨vs, Same.seq em1.sub hG⟩, h _ _ _ _ em1 x1 (walk_list hG r)⟩
    | tup xs =>
      refine .inr (.inl ⟨ρ, F, S, ι, G, em, sr, ?_⟩)
      rw [q]
      intro v ι1 G1 H1 em1 x1 dr
      simp only [DR] at dr
      obtain ⟨a, vs, rfl, hG, r⟩ := dr
      exact ⟨a, rfl, ⟨vs, SqT.of (em1.sub _ _ hG)⟩, h _ _ _ _ em1 x1 (walk_tup hG r)⟩
    | str l =>
      refine .inr (.inr ⟨ρ, F, S, ι, G, em, sr, ?_⟩)
      rw [q]
      intro v ι1 G1 H1 em1 x1 dr
      simp only [DR] at dr
      exact ⟨_, dr, h _ _ _ _ em1 x1 walk_str⟩
    | _ => exact h.elim
/-- range(n) -/
def rng (lo : Int) (n : Nat) : List D := (List.range n).map fun i : Nat => .int (lo + (i : Int))
def range1 : List D → Option (List D)
  | [.int n] => if -100000 ≤ n ∧ n ≤ 100000 then some (rng 0 n.toNat) else none
  | _ => none
theorem range1_some {xs ys : List D} (h : range1 xs = some ys) : ∃ n : Int, xs = [.int n] ∧ -100000 ≤ n ∧ n ≤ 100000 ∧ ys = rng 0 n.toNat := by
  unfold range1 at h
  split at h
  · split at h
    · rename_i hn
      cases h
      exact ⟨_, rfl, hn.1, hn.2, rfl⟩
    · cases h
  · cases h
def iRange (f : List D → Option (List D)) (ia : IA) : IA := fun ρ => M.bind (ia ρ) fun xs => lift (f xs)
theorem src_go {f : List D → Option (List D)} {σ : L2.St} {H : Hp} {R : It → Hp → Prop} {Q : List V → Hp → Prop} (h : tI T X.K W (iRange f ia) σ H R)
    (k : ∀ xs ys F S vs ι1 G1 H1, Em T X.K F S ι1 G1 H1 → DRs T X.K G1 ι1 xs vs → f xs = some ys → (∀ J, Walk T X.K ι1 G1 J ys → R J H1) → Q vs H1) : tA T X.K W ia σ H Q := by
  obtain ⟨ρ, F, S, ι, G, em, sr, h⟩ := h
  refine ⟨ρ, F, S, ι, G, em, sr, ?_⟩
  unfold iRange M.bind at h
  cases q : ia ρ S with
  | no => rw [q] at h; exact h.elim
  | ex c fs S1 => rw [q] at h; exact h
  | ok xs S1 =>
    rw [q] at h
    intro vs ι1 G1 H1 em1 x1 dr
    cases e : f xs with
    | none => simp only [e] at h; exact h.elim
    | some ys =>
      simp only [e] at h
      exact k xs ys F S1 vs ι1 G1 H1 em1 dr e fun J wk => h J ι1 G1 H1 em1 x1 wk
theorem ji_range1 {a : Expr} (hg : Gl X "range") (hm : X.mg "range" = none) (ha : JA T X W [a] ia) (hs : starEach [a] X.env = [(false, eval a X.env)] := by rfl) : JI T X W tg (.Call (.Name "range" p) [a] [] pos) (iRange range1 ia) := by
  refine PI.mono (pi_range1 hg hm ha hs) fun σ H R h => src_go h fun xs ys F S vs ι1 G1 H1 em dr e k => ?_
  obtain ⟨n, rfl, h1, h2, rfl⟩ := range1_some e
  obtain ⟨v, rfl, r⟩ := dr.one
  simp only [DR] at r
  subst r
  exact ⟨n, rfl, by omega, by omega, k _ walk_range⟩
end
end J
set_option Elab.async false
set_option linter.all false
set_option maxRecDepth 100000
set_option maxHeartbeats 410000
/-! J9: instances of own classes -/
namespace J
open PySem PySem.Spec L2
def pick (f : Nat) : List Nat → List D → Option D
  | g :: gs, x :: xs => if g = f then some x else pick f gs xs
  | _, _ => none
def getF (f : Nat) : List (Nat × D) → Option D
  | [] => none
  | (g, x) :: r => if g = f then some x else getF f r
def putD (f : Nat) (d : D) : List (Nat × D) → List (Nat × D)
  | [] => [(f, d)]
  | (g, x) :: r => if g = f then (g, d) :: r else (g, x) :: putD f d r
section
variable {T : Tab} {K : PySem.W.Frag} {ι : List Addr} {G : Hp}
theorem lk_hit {f : Str} {v : V} {r : List (Str × V)} : List.lookup f ((f, v) :: r) = some v := by simp [List.lookup]
theorem lk_miss {f g : Str} {v : V} {r : List (Str × V)} (h : g ≠ f) : List.lookup f ((g, v) :: r) = List.lookup f r := by
  have : (f == g) = false := by simpa using fun z => h z.symm
  simp [List.lookup, this]
theorem getF_ok {f : Nat} {d : D} : ∀ {fs : List (Nat × D)} {vs : List (Str × V)}, FRs T K G ι fs vs → getF f fs = some d → ∃ v, vs.lookup (T.fn f) = some v ∧ DR T K G ι d v
  | [], _, _, e => by cases e
  | (g, x) :: r, _, ⟨v, us, h, r1, r2⟩, e => by
    subst h
    unfold getF at e
    by_cases h : g = f
    · subst h
      rw [if_pos rfl] at e
      cases e
      exact ⟨v, lk_hit, r1⟩
    · rw [if_neg h] at e
      rw [lk_miss fun z => h (T.inj _ _ z)]
      exact getF_ok r2 e
theorem FRs.none {m : Str} : ∀ {fs : List (Nat × D)} {vs : List (Str × V)}, FRs T K G ι fs vs → (∀ p ∈ fs, T.fn p.1 ≠ m) → vs.lookup m = none
  | [], _, h, _ => by
    have h' : _ = [] := h
    subst h'
    rfl
  | (g, x) :: r, _, ⟨v, us, h, r1, r2⟩, n => by
    subst h
    rw [lk_miss (n (g, x) List.mem_cons_self)]
    exact FRs.none r2 fun p hp => n p (List.mem_cons_of_mem _ hp)
theorem putD_ok {f : Nat} {d : D} {v : V} (hd : DR T K G ι d v) : ∀ {fs : List (Nat × D)} {vs : List (Str × V)}, FRs T K G ι fs vs → FRs T K G ι (putD f d fs) (putF (T.fn f) v vs)
  | [], _, h => by
    have h' : _ = [] := h
    subst h'
    exact ⟨v, [], rfl, hd, rfl⟩
  | (g, x) :: r, _, ⟨u, us, h, r1, r2⟩ => by
    subst h
    unfold putD putF
    by_cases hg : g = f
    · subst hg
      rw [if_pos rfl, if_pos rfl]
      exact ⟨v, us, rfl, hd, r2⟩
    · rw [if_neg hg, if_neg fun z => hg (T.inj _ _ z)]
      exact ⟨u, _, rfl, r1, putD_ok hd r2⟩
theorem FRs.length : ∀ {fs : List (Nat × D)} {vs : List (Str × V)}, FRs T K G ι fs vs → fs.length = vs.length
  | [], _, h => by
    have h' : _ = [] := h
    subst h'
    rfl
  | (g, x) :: r, _, ⟨u, us, h, r1, r2⟩ => by
    subst h
    simp [FRs.length r2]
/-- an object's fields become a tree -/
theorem FRs.named : ∀ {fs : List (Nat × D)} {vs : List (Str × V)}, FRs T K G ι fs vs → ∃ us, vs = J.named T (fs.map (·.1)) us ∧ us.length = fs.length ∧ DRs T K G ι (fs.map (·.2)) us
  | [], _, h => by
    have h' : _ = [] := h
    subst h'
    exact ⟨[], rfl, rfl, DRs.nil⟩
  | (g, x) :: r, _, ⟨u, us, h, r1, r2⟩ => by
    subst h
    obtain ⟨ws, e, l, dr⟩ := FRs.named r2
    subst e
    exact ⟨u :: ws, rfl, by simp [l], DRs.cons r1 dr⟩
end
/-- what the text says of a class -/
structure ClsJ (T : Tab) (K : PySem.W.Frag) (c : Nat) : Prop where
  cl : Cls K (He.ga K (T.cn c))
  no : ∀ f ∈ T.fs c, NoAttr K (He.ga K (T.cn c)) (T.fn f)
/-- the class and the fields of an instance -/
def insOf (T : Tab) : D → Store → Option (Nat × List (Nat × D))
  | .ins c xs, _ => if xs.length = (T.fs c).length then some (c, (T.fs c).zip xs) else none
  | .ref n, S => match S.get n with
    | some (.ins c fs) => some (c, fs)
    | _ => none
  | _, _ => none
section
variable {T : Tab} {K : PySem.W.Frag} {ι : List Addr} {G : Hp}
theorem FRs.zip : ∀ {fs : List Nat} {xs : List D} {vs : List V}, DRs T K G ι xs vs → fs.length = xs.length → FRs T K G ι (fs.zip xs) (J.named T fs vs)
  | [], [], _, r, _ => by simp only [DRs] at r; subst r; rfl
  | f :: fs, x :: xs, _, r, h => by
    simp only [DRs] at r
    obtain ⟨v, us, rfl, r1, r2⟩ := r
    exact ⟨v, _, rfl, r1, FRs.zip r2 (by simpa using h)⟩
  | [], _ :: _, _, _, h => by simp at h
  | _ :: _, [], _, _, h => by simp at h
theorem insOf_ok {F : Hp} {S : Store} {H : Hp} {x : D} {v : V} {c : Nat} {fs : List (Nat × D)} (em : Em T K F S ι G H) (h : DR T K G ι x v) (e : insOf T x S = some (c, fs)) : ∃ a dx vs, v = .ref a ∧ H a = some (.ins (He.ga K (T.cn c)) dx vs) ∧ FRs T K G ι fs vs := by
  cases x with
  | ins c' xs =>
    simp only [insOf] at e
    split at e
    · rename_i hl
      cases e
      simp only [DR] at h
      obtain ⟨a, dx, vs, rfl, l, q, r⟩ := h
      exact ⟨a, dx, _, rfl, em.sub _ _ q, FRs.zip r hl.symm⟩
    · cases e
  | ref n =>
    simp only [insOf] at e
    cases q : S.get n with
    | none => (rw [q] at e); exact nomatch e
    | some o =>
      rw [q] at e
      cases o with
      | ins c' fs' =>
        cases e
        obtain ⟨a, u, rfl, ha, hu, dx, vs, rfl, r⟩ := obj_at em h q
        exact ⟨a, dx, vs, rfl, hu, r⟩
      | _ => cases e
  | _ => cases e
end
/-! ### e.f -/
def iFld (T : Tab) (cs : List Nat) (f : Nat) (ie : IE) : IE := fun ρ => M.bind (ie ρ) fun d => fun S => match insOf T d S with
  | some (c, fs) => if cs.contains c = true then lift (getF f fs) S else .no
  | none => .no
section
variable {T : Tab} {X : Cx} {W : WX} {e : Expr} {ie : IE} {cs : List Nat} {f : Nat} {x : Str} {pos : Pos}
theorem je_fld (he : JE T X W e ie) (hc : ∀ c ∈ cs, ClsJ T X.K c ∧ f ∈ T.fs c) (hx : x = T.fn f) (hb : attributeBase e x X.env (eval e X.env) = eval e X.env := by rfl) : JE T X W (.Attribute e x pos) (iFld T cs f ie) := by
  refine PE.mono (pe_fld he hb) fun σ H Q ⟨ρ, F, S, ι, G, em, sr, h⟩ => ?_
  refine ⟨ρ, F, S, ι, G, em, sr, Thn.bind (rel2 := DR T X.K) h fun d S1 v ι1 G1 H1 em1 x1 dr h1 => ?_⟩
  cases q : insOf T d S1 with
  | none => simp only [q] at h1; exact h1.elim
  | some p =>
    obtain ⟨c, fs⟩ := p
    simp only [q] at h1
    split at h1
    · rename_i hm
      obtain ⟨y, e2, h2⟩ := Thn.lift h1
      obtain ⟨a, dx, vs, rfl, ha, r⟩ := insOf_ok em1 dr q
      obtain ⟨u, hu, ru⟩ := getF_ok r e2
      obtain ⟨C, hf⟩ := hc c (by simpa using hm)
      subst hx
      exact ⟨a, _, dx, vs, u, rfl, ha, C.cl, C.no f hf, hu, Thn.ok h2 em1 ru⟩
    · exact h1.elim
end
/-! ### e.f = v -/
def sSetA (T : Tab) (cs : List Nat) (f : Nat) (ie io : IE) : IS := fun ρ => sBind (ie ρ) ρ fun v => sBind (io ρ) ρ fun o => fun S => match o with
  | .ref n => (match S.get n with
    | some (.ins c fs) => if (cs.contains c && decide (fs.length < 100)) = true then .ok (.nx ρ) (S.set n (.ins c (putD f v fs))) else .no
    | _ => .no)
  | _ => .no
section
variable {T : Tab} {X : Cx} {W : WX} {o value : Expr} {io ie : IE} {cs : List Nat} {f : Nat} {x : Str} {pos pos' : Pos}
theorem js_setA (ho : JE T X W o io) (hv : JE T X W value ie) (hc : ∀ c ∈ cs, ClsJ T X.K c ∧ f ∈ T.fs c) (hx : x = T.fn f) (hs : swapsWith value (some (.Attribute o x pos')) pos.line X.env = pure false := by rfl) : JS T X W (.Assign [.Attribute o x pos'] value pos) (sSetA T cs f ie io) := by
  refine PS.mono (ps_fld ho hv hs) fun D σ H ⟨ρ, F, S, ι, G, em, sr, h⟩ => ⟨ρ, F, S, ι, G, em, sr, ThnS.bind (rel := DR T X.K) h sr fun d S1 v ι1 G1 H1 em1 x1 dr h1 => ?_⟩
  refine ⟨ρ, F, S1, ι1, G1, em1, sr.mono x1, ThnS.bind (rel := DR T X.K) h1 (sr.mono x1) fun ob S2 vo ι2 G2 H2 em2 x2 d2 h2 => ?_⟩
  cases ob with
  | ref n =>
    cases q : S2.get n with
    | none => simp only [q] at h2; exact h2.elim
    | some u =>
      cases u with
      | ins c fs =>
        simp only [q] at h2
        split at h2
        · rename_i hm
          rw [Bool.and_eq_true_iff] at hm
          obtain ⟨a, u, rfl, ha, hu, dx, vs, rfl, r⟩ := obj_at em2 d2 q
          obtain ⟨C, hf⟩ := hc c (by simpa using hm.1)
          have hl : fs.length < 100 := of_decide_eq_true hm.2
          subst hx
          refine ⟨a, _, dx, vs, rfl, hu, C.cl, C.no f hf, by rw [← r.length]; omega, ?_⟩
          exact h2 _ _ _ _ (em2.set (by rw [q]; rfl) ha ⟨dx, _, rfl, putD_ok (dr.mono x2.1 x2.2) r⟩) (Ext.refl _ _) ((sr.mono x1).mono x2)
        · exact h2.elim
      | _ => simp only [q] at h2; exact h2.elim
  | _ => exact h2.elim
end
/-! ### C(..) -/
/-- __init__ of a class -/
def GoodI (P : Program) (w : World) (T : Tab) (K : PySem.W.Frag) (mg : Str → Option Value) (base : Heap) (k : Nat) (c : Nat) (ps : List Str) (sem : List D → M D) : Prop :=
  ∃ f fd, FnG P w K mg base k f fd ps (spJ T K ps.length sem) ∧ Binds K fd ps [] ∧ Mk K (He.ga K (T.cn c)) f ∧ mg (T.cn c) = some (.ref (He.ga K (T.cn c)))
/-- what is made: a tree (frz) or an object of the store -/
def madeD (T : Tab) (frz : Bool) (c n : Nat) : M D := fun S => if frz = true then (match S.get n with
    | some (.ins c' fs) => if c' = c ∧ fs.map (·.1) = T.fs c then .ok (.ins c (fs.map (·.2))) (S.del n) else .no
    | _ => .no) else .ok (.ref n) S
def makeD (T : Tab) (frz : Bool) (c k : Nat) (sem : List D → M D) (xs : List D) : M D := fun S => if xs.length + 1 = k then (match sem (.ref S.next :: xs) (S.alloc (.ins c [])) with
    | .ok .non S' => madeD T frz c S.next S'
    | .ex c fs S' => .ex c fs S'
    | _ => .no) else .no
def iMake (T : Tab) (frz : Bool) (c k : Nat) (sem : List D → M D) (ia : IA) : IE := fun ρ => M.bind (ia ρ) (makeD T frz c k sem)
theorem made_ok {T : Tab} {K : PySem.W.Frag} {F : Hp} {S : Store} {ι : List Addr} {G H : Hp} {W : WX} {σ : L2.St} {Q : VK} {frz : Bool} {c n : Nat} {a : Addr} (em : Em T K F S ι G H) (ha : ι[n]? = some a) (h : Thn T K F W σ G ι (DR T K) (madeD T frz c n S) Q) : Q (.ref a) H := by
  unfold madeD at h
  cases frz with
  | false => exact Thn.ok h em (by simp only [DR]; exact ⟨a, ha, rfl⟩)
  | true =>
    rw [if_pos rfl] at h
    cases q : S.get n with
    | none => rw [q] at h; exact h.elim
    | some o =>
      rw [q] at h
      cases o with
      | ins c' fs =>
        dsimp only at h
        split at h
        · rename_i hc
          obtain ⟨a', u, h1, h2, ⟨dx, vs, rfl, r⟩, em2, x2⟩ := em.freeze q
          rw [ha] at h1
          cases h1
          obtain ⟨us, e1, e2, dr⟩ := (r.mono x2.1 x2.2).named
          refine h _ _ _ _ em2 x2 ?_
          simp only [DR]
          refine ⟨a, dx, us, rfl, ?_, ?_, dr⟩
          · rw [← hc.2, List.length_map]
            exact e2.symm
          · rw [upd_same, ← hc.2, ← e1, hc.1]
        · exact h.elim
      | _ => exact h.elim
section
variable {T : Tab} {X : Cx} {W : WX} {e : Expr} {es : List Expr} {ia : IA} {pos p : Pos} {sem : List D → M D} {x : Str} {ps : List Str} {k c : Nat} {frz : Bool}
theorem make_g {pins : List (Addr × Obj)} {σ : L2.St} {H : Hp} {s : Shared} {Q : VK} {us : List Value} {vs : List V} {f : Addr} {fd : FuncData} {F : Hp} {S : Store} {ι : List Addr} {G : Hp} {xs : List D}
    (Fg : FnG X.prog X.w X.K X.mg X.base k f fd ps (spJ T X.K ps.length sem)) (hb : Binds X.K fd ps []) (mk : Mk X.K (He.ga X.K (T.cn c)) f) (hr : Rg (k + 1) X.A) (tk : L2N.Takes X W) (I : Inv X pins σ H s) (r : Vals vs us)
    (em : Em T X.K F S ι G H) (dr : DRs T X.K G ι xs vs) (h : Thn T X.K F W σ G ι (DR T X.K) (makeD T frz c ps.length sem xs S) Q) : wpAny (model X.prog X.w) X.A (call (.ref (He.ga X.K (T.cn c))) us) (EP X pins σ Q) X.xe s := by
  unfold makeD at h
  by_cases hl : xs.length + 1 = ps.length
  case neg => rw [if_neg hl] at h; exact h.elim
  rw [if_pos hl] at h
  have I2 := Inv.made (C := He.ga X.K (T.cn c)) I
  have n0 : H s.heap.objs.size = none := I.hok.fresh (Nat.le_refl _)
  have n1 : (upd H s.heap.objs.size (.own (s.heap.objs.size + 1))) (s.heap.objs.size + 1) = none := by
    rw [upd_ne (Nat.succ_ne_self _)]
    exact I.hok.fresh (Nat.le_succ _)
  obtain ⟨em2, x2, hn⟩ := (em.junk (o := .own (s.heap.objs.size + 1)) n0).alloc (o := .ins c []) (u := .ins (He.ga X.K (T.cn c)) s.heap.objs.size []) n1 ⟨_, _, rfl, rfl⟩
  have want : spJ T X.K ps.length sem (.ref (s.heap.objs.size + 1) :: vs) (upd (upd H s.heap.objs.size (.own (s.heap.objs.size + 1))) (s.heap.objs.size + 1) (.ins (He.ga X.K (T.cn c)) s.heap.objs.size []))
      (fun v H2 => v = .non ∧ Q (.ref (s.heap.objs.size + 1)) H2) (fun cl d H => W cl d σ H) := by
    refine ⟨by rw [List.length_cons, ← dr.length]; exact hl, .ref S.next :: xs, F, _, _, G, em2, DRs.cons (by simp only [DR]; exact ⟨_, hn, rfl⟩) (dr.mono x2.1 x2.2), ?_⟩
    cases q : sem (.ref S.next :: xs) (S.alloc (.ins c [])) with
    | no => rw [q] at h; exact h.elim
    | ex c' fs S' =>
      rw [q] at h
      exact fun dd ι' G' H' em' y xr => h dd ι' G' H' em' (x2.trans y) xr
    | ok d S' =>
      rw [q] at h
      cases d with
      | non =>
        intro v ι' G' H' em' y dv
        simp only [DR] at dv
        exact ⟨dv, made_ok em' (y.2 _ _ hn) (Thn.ext h (x2.trans y))⟩
      | _ => exact h.elim
  have r2 : Vals (V.ref (s.heap.objs.size + 1) :: vs) (Value.ref (s.heap.objs.size + 1) :: us) := by exact .cons rfl r
  have ll : (Value.ref (s.heap.objs.size + 1) :: us ++ []).length = ps.length := by
    have e := r2.length
    rw [Fg.len _ _ _ _ want] at e
    rw [List.append_nil]
    exact e.symm
  have bt := hb _ (Value.ref (s.heap.objs.size + 1) :: us) I2.kIn ll
  rw [List.append_nil] at bt
  have gd : (X.A.under (.builtin "type.__call__" ⟨.ref (He.ga X.K (T.cn c)) :: us, []⟩)).guards = some [] := by
    first | exact hr.g | (simpa [Around.under, Code.guards, Code.isGuard, guardIds, pushGuards] using hr.g)
  refine wpAny_call (make_map (f := f) I.kIn mk.makes mk.init (beq_iff_eq.mp mk.fn) (codeAny_mono (Fg.run _ X.stack _ _ _ _ _ _ _ (hr.r.make _ us []) gd (I2.env0.make _ us []) bt r2 want) fun rs s' z => ?_))
  cases rs with
  | error e => exact tk e s' (L2N.XE.of_call (W := W) I2 (fun _ _ _ h => h) z)
  | ok fl =>
    cases fl with
    | ret u =>
      obtain ⟨v, H', I3, rv, ev, q3⟩ := I2.after z
      subst ev
      exact ⟨rv, V.ref (s.heap.objs.size + 1), H', I3, rfl, q3⟩
    | _ => exact False.elim z
/-- C(e, ..) -/
theorem je_make (g : GoodI X.prog X.w T X.K X.mg X.base k c ps sem) (frz : Bool) (hr : Rg (k + 1) X.A) (hx : x = T.cn c) (hg : Gl X x) (tk : L2N.Takes X W) (ha : JA T X W (e :: es) ia) (hdb : (x == ("__debug__" : Str)) = false := by decide)
    (he : starEach (e :: es) X.env = (false, eval e X.env) :: starEach es X.env := by rfl) (hpl : (backTo pos (starEach es X.env)).any (·.1) = false := by rfl) : JE T X W (.Call (.Name x p) (e :: es) [] pos) (iMake T frz c ps.length sem ia) := by
  obtain ⟨f, fd, Fg, b, mk, m⟩ := g
  subst hx
  constructor; intro pins s σ H Q I hq
  have key : tA T X.K W ia σ H fun vs H1 => ∃ xs F S ι G, Em T X.K F S ι G H1 ∧ DRs T X.K G ι xs vs ∧ Thn T X.K F W σ G ι (DR T X.K) (makeD T frz c ps.length sem xs S) Q := by
    obtain ⟨ρ, F, S, ι, G, em, sr, h⟩ := hq
    exact ⟨ρ, F, S, ι, G, em, sr, Thn.bind (rel2 := DRs T X.K) h fun xs S1 vs ι1 G1 H1 em1 x1 dr h1 => ⟨xs, F, S1, ι1, G1, em1, dr, h1⟩⟩
  refine wpAny_Call_Name_kw (ld_glob I hg m ?_ hdb)
  refine PySem.W.callWith_K (h₀ := X.base) I.ok.mod.kin mk.kp (thn (ha.run pos pins s σ H _ I key) ?_) he hpl
  rintro us s1 ⟨vs, H1, I1, r, xs, F, S, ι, G, em, dr, h⟩
  exact ⟨I1.kIn, make_g Fg b mk hr tk I1 r em dr h⟩
end
end J
set_option Elab.async false
set_option linter.all false
set_option maxRecDepth 100000
set_option maxHeartbeats 410000
/-! JA: ghosts, constants of the module, small things -/
namespace J
open PySem PySem.Spec L2
def sNever : IS := fun _ => M.no
section
variable {T : Tab} {X : Cx} {W : WX} {st : Stmt} {rest : List Stmt} {ir : IS} {pos : Pos}
theorem js_never : JS T X W st sNever := PS.mono ps_never fun D σ H ⟨ρ, F, S, ι, G, em, sr, h⟩ => h.elim
/-- a list (a dict) that will not change any more -/
def frzO : MO → Option D
  | .lst xs => some (.lst xs)
  | .dct kvs => some (.dct (kvs.map (·.1)) (kvs.map (·.2)))
  | .dcT kvs => some (.dcu (kvs.map (·.1)) (kvs.map (·.2)))
  | _ => none
def sFrz (i : Nat) : IS := fun ρ S => match ρ.getD i none with
  | some (.ref n) => (match (S.get n).bind frzO with
    | some d => .ok (.nx (ρ.set i (some d))) (S.del n)
    | none => .no)
  | _ => .no
theorem keyed_of {K : PySem.W.Frag} {G : Hp} {ι : List Addr} : ∀ {kvs : List (Ky × D)} {vs : List (Key × V)}, KRs T K G ι kvs vs → ∃ us, vs = keyed (kvs.map (·.1)) us ∧ us.length = kvs.length ∧ DRs T K G ι (kvs.map (·.2)) us
  | [], _, h => by
    have h' : _ = [] := h
    subst h'
    exact ⟨[], rfl, rfl, DRs.nil⟩
  | (g, x) :: r, _, ⟨u, us, h, r1, r2⟩ => by
    subst h
    obtain ⟨ws, e, l, dr⟩ := keyed_of r2
    subst e
    exact ⟨u :: ws, rfl, by simp [l], DRs.cons r1 dr⟩
theorem keyedT_of {K : PySem.W.Frag} {G : Hp} {ι : List Addr} : ∀ {kvs : List (List Ky × D)} {vs : List (List Key × V)}, TRs T K G ι kvs vs → ∃ us, vs = keyedT (kvs.map (·.1)) us ∧ us.length = kvs.length ∧ DRs T K G ι (kvs.map (·.2)) us
  | [], _, h => by
    have h' : _ = [] := h
    subst h'
    exact ⟨[], rfl, rfl, DRs.nil⟩
  | (g, x) :: r, _, ⟨u, us, h, r1, r2⟩ => by
    subst h
    obtain ⟨ws, e, l, dr⟩ := keyedT_of r2
    subst e
    exact ⟨u :: ws, rfl, by simp [l], DRs.cons r1 dr⟩
theorem pss_lock {X : Cx} {sts : List Stmt} {t : TS} (h : PSs X sts t) : PSs X sts (fun D σ H => t D σ H ∨ ∃ d u, H d = some u ∧ Mut (some u) ∧ ∀ od, t D σ (upd H d (.frz od u))) := by
  refine ⟨fun pins sh σ H D I hw => ?_⟩
  rcases hw with hw | ⟨d, u, hd, mu, hw⟩
  · exact h.run pins sh σ H D I hw
  · obtain ⟨od, I1⟩ := I.lock hd mu
    exact h.run pins sh σ _ D I1 (hw od)
theorem set_self {σ : L2.St} {i : Nat} {v : V} (hv : σ[i]? = some (some v)) : σ.set i (some v) = σ := by
  apply List.ext_getElem?
  intro j
  rw [List.getElem?_set]
  by_cases hj : i = j
  · subst hj
    rw [if_pos rfl, hv]
    split
    · rfl
    · rename_i hl
      rw [List.getElem?_eq_none (by omega)] at hv
      cases hv
  · rw [if_neg hj]
theorem jss_frz {i : Nat} (h : JSs T X W rest ir) : JSs T X W rest (sSeq (sFrz i) ir) := by
  refine PSs.mono (pss_lock h) fun E σ H ⟨ρ, F, S, ι, G, em, sr, h⟩ => ?_
  unfold sSeq sFrz at h
  rw [List.getD_eq_getElem?_getD] at h
  cases q : ρ[i]? with
  | none => rw [q] at h; exact h.elim
  | some ox =>
    rw [q] at h
    cases ox with
    | none => exact h.elim
    | some d =>
      cases d with
      | ref n =>
        dsimp only [Option.getD] at h
        cases q2 : S.get n with
        | none => rw [q2] at h; exact h.elim
        | some o =>
          rw [q2] at h
          dsimp only [Option.bind_some] at h
          obtain ⟨v, hv, dv⟩ := sr.at_ i _ q
          simp only [DR] at dv
          obtain ⟨a, ha, rfl⟩ := dv
          cases o with
          | lst xs =>
            obtain ⟨a', u, h1, h2, ⟨vs, rfl, r⟩, em2, x2⟩ := em.freeze q2
            rw [ha] at h1
            cases h1
            refine .inl ⟨_, _, _, _, _, em2, ?_, ThnS.ext h x2⟩
            have k := (sr.mono x2).set (d := .lst xs) (v := .ref a) (by simp only [DR]; exact ⟨a, vs, rfl, upd_same, r.mono x2.1 x2.2⟩) i
            rw [set_self hv] at k
            exact k
          | dct kvs =>
            by_cases hk : kvs = []
            · subst hk
              obtain ⟨a', u, h1, h2, ⟨vs, rfl, r⟩, em2, x2⟩ := em.freeze q2
              rw [ha] at h1
              cases h1
              obtain rfl : vs = [] := r
              refine .inl ⟨_, _, _, _, _, em2, ?_, ThnS.ext h x2⟩
              have k := (sr.mono x2).set (d := .dct [] []) (v := .ref a) (by simp only [DR]; exact ⟨a, [], rfl, rfl, .inl ⟨trivial, upd_same⟩, DRs.nil⟩) i
              rw [set_self hv] at k
              exact k
            · obtain ⟨a', u, h1, h2, ⟨vs, rfl, r⟩, lk⟩ := em.freezeL q2
              rw [ha] at h1
              cases h1
              obtain ⟨us, rfl, l, dr⟩ := keyed_of r
              refine .inr ⟨a, _, h2, trivial, fun od => ?_⟩
              obtain ⟨em2, x2⟩ := lk (.frz od (.dK (keyed (kvs.map (·.1)) us))) rfl
              refine ⟨_, _, _, _, _, em2, ?_, ThnS.ext h x2⟩
              have k := (sr.mono x2).set (d := .dct (kvs.map (·.1)) (kvs.map (·.2))) (v := .ref a) (by
                simp only [DR]
                exact ⟨a, us, rfl, by rw [List.length_map]; exact l.symm, .inr ⟨by simpa using hk, od, upd_same⟩, dr.mono x2.1 x2.2⟩) i
              rw [set_self hv] at k
              exact k
          | dcT kvs =>
            obtain ⟨a', u, h1, h2, ⟨vs, rfl, r⟩, lk⟩ := em.freezeL q2
            rw [ha] at h1
            cases h1
            obtain ⟨us, rfl, l, dr⟩ := keyedT_of r
            refine .inr ⟨a, _, h2, trivial, fun od => ?_⟩
            obtain ⟨em2, x2⟩ := lk (.frz od (.dT (keyedT (kvs.map (·.1)) us))) rfl
            refine ⟨_, _, _, _, _, em2, ?_, ThnS.ext h x2⟩
            have k := (sr.mono x2).set (d := .dcu (kvs.map (·.1)) (kvs.map (·.2))) (v := .ref a) (by
              simp only [DR]
              exact ⟨a, od, us, rfl, by rw [List.length_map]; exact l.symm, upd_same, dr.mono x2.1 x2.2⟩) i
            rw [set_self hv] at k
            exact k
          | _ => exact h.elim
      | _ => exact h.elim
/-! ### constants of the module -/
theorem je_gint {x : Str} {i : Int} (hg : Gl X x) (hm : ∃ t, X.mg x = some (.int i t)) (hd : (x == ("__debug__" : Str)) = false := by decide) : JE T X W (.Name x pos) (iC (.int i)) := by
  obtain ⟨t, e⟩ := hm
  exact je_c (pe_glob (v := .int i) hg e ⟨t, rfl⟩ hd) fun _ _ => by simp only [DR]
theorem je_gstr {x : Str} {l : List Nat} (hg : Gl X x) (hm : ∃ t, X.mg x = some (.str ⟨l.toArray⟩ t)) (hd : (x == ("__debug__" : Str)) = false := by decide) : JE T X W (.Name x pos) (iC (.str l)) := by
  obtain ⟨t, e⟩ := hm
  exact je_c (pe_glob (v := .str ⟨l.toArray⟩) hg e ⟨t, rfl⟩ hd) fun _ _ => by simp only [DR]
end
theorem op_inD {X : Cx} : OpR X (compareOp .In) (fun x y H Q => (∃ (c : Nat) (z : Str), x = .str ⟨#[c]⟩ ∧ y = .str z ∧ Q (.bl (decide (c ∈ z.cps.toList))) H) ∨ rIn X.K false x y H Q) := OpR.or op_in_sign op_in_seq
end J
set_option Elab.async false
set_option linter.all false
set_option maxRecDepth 100000
set_option maxHeartbeats 410000
/-! JB: classes as values, isinstance, truth, sorted, str of an int, f-strings, zip -/
namespace J
open PySem PySem.Spec L2
section
variable {T : Tab} {X : Cx} {W : WX} {pos : Pos}
theorem je_ty {x : Str} {n : String} (hg : Gl X x) (hm : X.mg x = none) (hv : bootBuiltins x = some (.type n)) (hn : x ≠ "__name__" := by decide) (hd : (x == ("__debug__" : Str)) = false := by decide) : JE T X W (.Name x pos) (iC (.ty n)) :=
  je_c (pe_bltn (v := .ty n) hg hm hv rfl hn hd) fun _ _ => by simp only [DR]
theorem je_cls {x : Str} {c : Nat} (hg : Gl X x) (hm : X.mg (T.cn c) = some (.ref (He.ga X.K (T.cn c)))) (hx : x = T.cn c) (hd : (x == ("__debug__" : Str)) = false := by decide) : JE T X W (.Name x pos) (iC (.glo c)) := by
  subst hx
  exact je_c (pe_glob (v := .ref (He.ga X.K (T.cn c))) hg hm rfl hd) fun _ _ => by simp only [DR]
end
/-! ### isinstance -/
inductive Tg where
  | b (n : String) | o (c : Nat)
  deriving DecidableEq
def tagD : D → Store → Option Tg
  | .non, _ => some (.b "NoneType")
  | .bl _, _ => some (.b "bool")
  | .int _, _ => some (.b "int")
  | .str _, _ => some (.b "str")
  | .tup _, _ => some (.b "tuple")
  | .lst _, _ => some (.b "list")
  | .scr _, _ => some (.b "list")
  | .dct [] _, _ => some (.b "dict")
  | .ins c _, _ => some (.o c)
  | .ref n, S => (match S.get n with
    | some (.lst _) => some (.b "list")
    | some (.dct _) => some (.b "dict")
    | some (.dcT _) => some (.b "dict")
    | some (.ins c _) => some (.o c)
    | none => none)
  | _, _ => none
def Tg.v (T : Tab) (K : PySem.W.Frag) : Tg → Value
  | .b n => .type n
  | .o c => .ref (He.ga K (T.cn c))
/-- what isinstance asks of a class -/
structure ClsT (K : PySem.W.Frag) (C : Addr) : Prop where
  cl : Cls K C
  asks : PySem.W.findIn K (.ref C) "__class__" = some (some (.builtin "object.__class__")) ∧ PySem.W.specialIn K (.builtin "object.__class__") "__get__" = some (some (.builtin "getset_descriptor.__get__")) ∧
    PySem.W.takesIn K (.builtin "object.__class__") = some true ∧ PySem.W.mroIn K C (.type "object") = some true
def clsTB (K : PySem.W.Frag) (C : Addr) : Bool := PySem.W.plainGet K C Str.empty && (PySem.W.hasDictIn K C && (PySem.W.plainOver K C && (decide (PySem.W.findIn K (.ref C) "__setattr__" = some (some (.builtin "object.__setattr__"))) &&
  (decide (PySem.W.findIn K (.ref C) "__class__" = some (some (.builtin "object.__class__"))) && (decide (PySem.W.specialIn K (.builtin "object.__class__") "__get__" = some (some (.builtin "getset_descriptor.__get__"))) &&
    (decide (PySem.W.takesIn K (.builtin "object.__class__") = some true) && decide (PySem.W.mroIn K C (.type "object") = some true)))))))
theorem clsTB_ok {K : PySem.W.Frag} {C : Addr} (h : clsTB K C = true) : ClsT K C := by
  unfold clsTB at h
  simp only [decide_eq_true_eq, Bool.and_eq_true] at h
  obtain ⟨h1, h2, h3, h4, h5, h6, h7, h8⟩ := h
  exact ⟨⟨h1, h2, h3, h4⟩, h5, h6, h7, h8⟩
/-- cs: the classes whose instances are asked; tb: the answers that are not of two built-in types -/
structure IsK (T : Tab) (K : PySem.W.Frag) (cs : List Nat) (tb : List (Tg × Tg × Bool)) : Prop where
  cls : ∀ c ∈ cs, ClsT K (He.ga K (T.cn c))
  ans : ∀ p ∈ tb, PySem.W.kitOne K (p.1.v T K) (p.2.1.v T K) = some p.2.2
def lookT (t u : Tg) : List (Tg × Tg × Bool) → Option Bool
  | [] => none
  | p :: r => if p.1 = t ∧ p.2.1 = u then some p.2.2 else lookT t u r
theorem lookT_ok {t u : Tg} {b : Bool} : ∀ {tb : List (Tg × Tg × Bool)}, lookT t u tb = some b → (t, u, b) ∈ tb
  | [], h => nomatch h
  | p :: r, h => by
    unfold lookT at h
    split at h
    · rename_i e
      obtain ⟨x, y, z⟩ := p
      obtain ⟨rfl, rfl⟩ := e
      cases h
      exact List.mem_cons_self
    · exact List.mem_cons_of_mem _ (lookT_ok h)
def isiT (tb : List (Tg × Tg × Bool)) (t u : Tg) : Option Bool := match t, u with
  | .b a, .b c => kitB a c
  | _, _ => lookT t u tb
def okTg (cs : List Nat) : Tg → Bool
  | .b _ => true
  | .o c => cs.contains c
def clsOf : D → Option Tg
  | .ty n => some (.b n)
  | .glo c => some (.o c)
  | _ => none
def isiD (cs : List Nat) (tb : List (Tg × Tg × Bool)) : OpN := fun xs S => match xs with
  | [x, c] => (match tagD x S, clsOf c with
    | some t, some u => if okTg cs t = true then (isiT tb t u).map .bl else none
    | _, _ => none)
  | _ => none
section
variable {T : Tab} {K : PySem.W.Frag} {F : Hp} {S : Store} {ι : List Addr} {G H : Hp} {cs : List Nat} {tb : List (Tg × Tg × Bool)}
theorem isiT_ok (k : IsK T K cs tb) {t u : Tg} {b : Bool} (h : isiT tb t u = some b) : PySem.W.kitOne K (t.v T K) (u.v T K) = some b := by
  unfold isiT at h
  split at h
  · exact kit_ty h
  · exact k.ans _ (lookT_ok h)
theorem tag_ins {a dx : Addr} {fs : List (Str × V)} {c : Nat} (k : IsK T K cs tb) (h : cs.contains c = true) (e : H a = some (.ins (He.ga K (T.cn c)) dx fs)) : TyX K H (.ref a) (Tg.v T K (.o c)) := by
  have z := k.cls c (by simpa using h)
  exact .base (.ins e z.cl z.asks.1 z.asks.2.1 z.asks.2.2.1 z.asks.2.2.2)
theorem tag_ok (k : IsK T K cs tb) (em : Em T K F S ι G H) {x : D} {v : V} {t : Tg} (dx : DR T K G ι x v) (h : tagD x S = some t) (o : okTg cs t = true) : TyX K H v (t.v T K) := by
  cases x with
  | non => simp only [DR] at dx; subst dx; cases h; exact .base .non
  | bl b => simp only [DR] at dx; subst dx; cases h; exact .base (.bl _)
  | int i => simp only [DR] at dx; subst dx; cases h; exact .base (.int _)
  | str i => simp only [DR] at dx; subst dx; cases h; exact .base (.str _)
  | ty n => cases h
  | glo n => cases h
  | tup xs =>
    simp only [DR] at dx
    obtain ⟨a, vs, rfl, q, _⟩ := dx
    cases h
    exact .base (.tup (em.sub _ _ q))
  | lst xs =>
    simp only [DR] at dx
    obtain ⟨a, vs, rfl, q, _⟩ := dx
    cases h
    exact .base (.lst (em.sub _ _ q))
  | scr xs =>
    simp only [DR] at dx
    obtain ⟨a, vs, rfl, q, _⟩ := dx
    cases h
    rcases Same.seq em.sub q with (q | ⟨ob, q⟩) | ⟨ob, its, n, q, c, _⟩
    · exact .base (.lst q)
    · exact .base (.frz q)
    · exact .kList q c
  | dct ks xs =>
    simp only [DR] at dx
    obtain ⟨a, vs, rfl, _, q, _⟩ := dx
    cases ks with
    | nil =>
      cases h
      rcases q with ⟨_, q⟩ | ⟨n, _⟩
      · exact .base (.dK (em.sub _ _ q))
      · exact absurd rfl n
    | cons k ks => cases h
  | dcu ks xs => cases h
  | exn c fl xs => cases h
  | ins c xs =>
    simp only [DR] at dx
    obtain ⟨a, dd, vs, rfl, _, q, _⟩ := dx
    cases h
    exact tag_ins k o (em.sub _ _ q)
  | ref n =>
    unfold tagD at h
    dsimp only at h
    cases q : S.get n with
    | none => rw [q] at h; cases h
    | some ob =>
      rw [q] at h
      cases ob with
      | lst xs =>
        obtain ⟨a, u, rfl, ha, hu, vs, rfl, r⟩ := obj_at em dx q
        cases h
        exact .base (.lst hu)
      | dct xs =>
        obtain ⟨a, u, rfl, ha, hu, vs, rfl, r⟩ := obj_at em dx q
        cases h
        exact .base (.dK hu)
      | dcT xs =>
        obtain ⟨a, u, rfl, ha, hu, vs, rfl, r⟩ := obj_at em dx q
        cases h
        exact .base (.dT hu)
      | ins c fs =>
        obtain ⟨a, u, rfl, ha, hu, dd, vs, rfl, r⟩ := obj_at em dx q
        cases h
        exact tag_ins k o hu
theorem isiD_ok (k : IsK T K cs tb) : CaS T K (rIsi K) (isiD cs tb) := by
  intro F S ι G H xs d vs Q em dr e q
  match xs, dr, e with
  | [x, c], dr, e =>
    obtain ⟨v, w, rfl, r1, r2⟩ := dr.two
    unfold isiD at e
    dsimp only at e
    split at e
    · rename_i t u ht hu
      split at e
      · rename_i ok
        cases hb : isiT tb t u with
        | none => rw [hb] at e; cases e
        | some b =>
          rw [hb] at e
          cases e
          have hk := isiT_ok k hb
          have ty := tag_ok k em r1 ht ok
          have cv : ClsV w (u.v T K) := by
            cases c with
            | ty n => cases hu; simp only [DR] at r2; subst r2; exact .ty n
            | glo n => cases hu; simp only [DR] at r2; subst r2; exact .own _
            | _ => cases hu
          exact ⟨v, w, _, _, b, rfl, cv, ty, hk, q _ G H em (Ext.refl _ _) (by simp only [DR])⟩
      · cases e
    · cases e
  | [], _, e => cases e
  | [_], _, e => cases e
  | _ :: _ :: _ :: _, _, e => cases e
end
/-! ### truth -/
def truD : D → Store → Option Bool
  | .non, _ => some false
  | .bl b, _ => some b
  | .int i, _ => some (i != 0)
  | .str x, _ => if x.length ≤ 100000 then some (!x.isEmpty) else none
  | .lst xs, _ => some (!xs.isEmpty)
  | .scr xs, _ => some (!xs.isEmpty)
  | .tup xs, _ => some (!xs.isEmpty)
  | .dct [] [], _ => some false
  | .ref n, S => (match S.get n with
    | some (.lst xs) => some (!xs.isEmpty)
    | some (.dct xs) => some (!xs.isEmpty)
    | _ => none)
  | _, _ => none
theorem DRs.emp {T : Tab} {K : PySem.W.Frag} {G : Hp} {ι : List Addr} {xs : List D} {vs : List V} (r : DRs T K G ι xs vs) : (!xs.isEmpty) = !vs.isEmpty := by
  have := r.length
  cases xs <;> cases vs <;> simp_all
/-! ### str of an int, of a text -/
def digits (i : Int) : List Nat := (Str.ofString (toString i)).cps.toList
end J
set_option Elab.async false
set_option linter.all false
set_option maxRecDepth 100000
set_option maxHeartbeats 410000
/-! JC: what a class's own defs answer: properties, str, repr, ==, != ; a method by its class -/
namespace J
open PySem PySem.Spec L2
/-- the def m of the class c -/
def GoodM (P : Program) (w : World) (T : Tab) (K : PySem.W.Frag) (mg : Str → Option Value) (base : Heap) (k c : Nat) (m : Str) (ps : List Str) (sem : List D → M D) : Prop :=
  ∃ f fd, FnG P w K mg base k f fd ps (spJ T K ps.length sem) ∧ Binds K fd ps [] ∧ PySem.W.findIn K (.ref (He.ga K (T.cn c))) m = some (some (.ref f)) ∧ PySem.W.isFn K (.ref f) = true ∧ PySem.W.keepIn K (.ref f) = true
/-- what is asked of a run that raises nothing -/
abbrev Quiet (T : Tab) (K : PySem.W.Frag) (H : Hp) (sem : List D → M D) (n : Nat) (vs : List V) (Q : VK) : Prop :=
  vs.length = n ∧ ∃ ds F S ι G, Em T K F S ι G H ∧ DRs T K G ι ds vs ∧ Thn T K F W0 [] G ι (DR T K) (nox (sem ds) S) Q
section
variable {T : Tab} {X : Cx} {W : WX} {k : Nat} {f : Addr} {fd : FuncData} {ps : List Str} {sem : List D → M D}
theorem Quiet.sp {K : PySem.W.Frag} {H : Hp} {vs : List V} {Q : VK} (h : Quiet T K H sem ps.length vs Q) : spJ T K ps.length sem vs H Q fun _ _ _ => False := by
  obtain ⟨l, ds, F, S, ι, G, em, dr, h⟩ := h
  refine ⟨l, ds, F, S, ι, G, em, dr, ?_⟩
  unfold nox at h
  cases q : sem ds S with
  | ok a S' => rw [q] at h; exact h
  | ex c fs S' => rw [q] at h; exact h.elim
  | no => rw [q] at h; exact h.elim
theorem Rg.in1 {k : Nat} {A : Around} (r : Rg (k + 1) A) : Rg k A.in1 := ⟨r.r.in1, r.g⟩
end
/-! ### built-ins that call -/
def iCM (f : List D → M D) (ia : IA) : IE := fun ρ => M.bind (ia ρ) f
def CaM (T : Tab) (K : PySem.W.Frag) (r : List V → Hp → VK → Prop) (f : List D → M D) : Prop := ∀ F S ι G H xs vs W σ (Q : VK), Em T K F S ι G H → DRs T K G ι xs vs → Thn T K F W σ G ι (DR T K) (f xs S) Q → r vs H Q
theorem CallR.or {X : Cx} {c : Value} {r r' : List V → Hp → VK → Prop} (h : CallR X c r) (h' : CallR X c r') : CallR X c (fun xs H Q => r xs H Q ∨ r' xs H Q) :=
  fun pins s σ H xs us Q I rv z => z.elim (h pins s σ H xs us Q I rv) (h' pins s σ H xs us Q I rv)
/-! ### str(x), repr(x), x an instance -/
/-! ### e.f, a property -/
/-- the getter of the property m of c -/
def GoodP (P : Program) (w : World) (T : Tab) (K : PySem.W.Frag) (mg : Str → Option Value) (base : Heap) (k c : Nat) (m : Str) (ps : List Str) (sem : List D → M D) : Prop :=
  ∃ p f fd, FnG P w K mg base k f fd ps (spJ T K ps.length sem) ∧ Binds K fd ps [] ∧ PropOf K (He.ga K (T.cn c)) m p f ∧ Cls K (He.ga K (T.cn c))
def iProp (T : Tab) (c : Nat) (sem : List D → M D) (ie : IE) : IE := fun ρ => M.bind (ie ρ) fun d S => match insOf T d S with
  | some (c', _) => if c' = c then nox (sem [d]) S else .no
  | none => .no
section
variable {T : Tab} {X : Cx} {W : WX} {c k : Nat} {ps : List Str} {sem : List D → M D} {e : Expr} {ie : IE} {m : Str} {pos : Pos}
theorem thn_nox {K : PySem.W.Frag} {F : Hp} {σ σ' : L2.St} {G : Hp} {ι : List Addr} {S : Store} {α β : Type} {rel : Hp → List Addr → α → β → Prop} {md : M α} {Q : β → Hp → Prop} (h : Thn T K F W σ G ι rel (nox md S) Q) : Thn T K F W0 σ' G ι rel (nox md S) Q := by
  unfold nox at h ⊢
  cases q : md S with
  | ok a S' => rw [q] at h; exact h
  | ex c fs S' => rw [q] at h; exact h.elim
  | no => rw [q] at h; exact h.elim
theorem je_prop (g : GoodP X.prog X.w T X.K X.mg X.base k c m ps sem) (h1 : ps.length = 1) (hr : Rg (k + 1) X.A) (he : JE T X W e ie) (hab : attributeBase e m X.env (eval e X.env) = eval e X.env := by rfl) : JE T X W (.Attribute e m pos) (iProp T c sem ie) := by
  obtain ⟨p, f, fd, Fg, b, hp, cl⟩ := g
  constructor; intro pins s σ H Q I hq
  have key : tE T X.K W ie σ H fun v H1 => ∃ a dx fs, v = .ref a ∧ H1 a = some (.ins (He.ga X.K (T.cn c)) dx fs) ∧ Quiet T X.K H1 sem ps.length [v] Q := by
    obtain ⟨ρ, F, S, ι, G, em, sr, h⟩ := hq
    refine ⟨ρ, F, S, ι, G, em, sr, Thn.bind (rel2 := DR T X.K) h fun d S1 v ι1 G1 H1 em1 x1 dr h1' => ?_⟩
    cases q : insOf T d S1 with
    | none => rw [q] at h1'; exact h1'.elim
    | some p =>
      obtain ⟨c', fs⟩ := p
      rw [q] at h1'
      dsimp only at h1'
      split at h1'
      · rename_i e
        subst e
        obtain ⟨a, dx, ws, rfl, ha, _⟩ := insOf_ok em1 dr q
        exact ⟨a, dx, ws, rfl, ha, h1.symm, [d], F, S1, ι1, G1, em1, DRs.cons dr DRs.nil, thn_nox h1'⟩
      · exact h1'.elim
  refine attr_of hab (thn (he.run pins s σ H _ I key) ?_)
  rintro u s1 ⟨v, H1, I1, ru, a, dx, fs, rfl, ha, z⟩
  have eu : u = Value.ref a := ru; subst eu
  obtain ⟨mA, O, _⟩ := ins_get I1.hok ha
  obtain ⟨od, J, _⟩ := O.look
  rcases hp.rec_ with ⟨rest, hrec⟩
  have I2 := I1.tok (s1.toks + 1)
  have ic : (PySem.W.clsIn X.K (He.ga X.K (T.cn c))).isSome = true := by
    obtain ⟨cd, hc, _⟩ := PySem.W.any_some cl.hd
    rw [hc]
    rfl
  have pg := PySem.W.plainGet_of (cl.get m)
  refine PySem.W.get_bind I1.kIn J pg.1 (PySem.W.findObj_data ic hp.at_ hp.get hp.tak) pg.2 (wpAny_call (PySem.W.prop_get (s := { s1 with toks := s1.toks + 1 }) I1.kIn hrec ?_))
  have hl : ([Value.ref a] ++ []).length = ps.length := h1.symm
  have bt := b { s1 with toks := s1.toks + 1 } [.ref a] I2.kIn hl
  refine codeAny_mono (Fg.run X.A.in1 X.stack { s1 with toks := s1.toks + 1 } H1 ⟨[.ref a], []⟩ [.ref a] [.ref a] Q _ hr.in1.r hr.in1.g I2.env0.in1 bt (.cons rfl .nil) z.sp) fun rs s' y => ?_
  cases rs with
  | error er =>
    obtain ⟨_, _, _, _, _, _, _, _, _, _, _, _, y⟩ := y
    exact y.elim
  | ok fl =>
    cases fl with
    | ret u =>
      obtain ⟨v, H', I3, rv, q3⟩ := I2.after y
      change wpAny _ _ (handedOut u) _ _ _
      rw [(PySem.W.handedOut_of (handed_of rv))]
      refine wpAny_pure ⟨v, H', I3, rv, q3⟩
    | _ => exact False.elim y
end
end J
set_option Elab.async false
set_option linter.all false
set_option maxRecDepth 100000
set_option maxHeartbeats 410000
/-! JD: == and != by the class's own def; an instance's truth; zip, f-strings, three names at once, sorted texts -/
namespace J
open PySem PySem.Spec L2
/-! ### the machine's side of != -/
/-! ### operators that call -/
abbrev OpB := D → D → M D
def iOpM (f : OpB) (ia ib : IE) : IE := fun ρ => M.bind (ia ρ) fun x => M.bind (ib ρ) fun y => f x y
end J
set_option Elab.async false
set_option linter.all false
set_option maxRecDepth 100000
set_option maxHeartbeats 410000
/-! JE: an instance's truth; zip, f-strings, three names at once, sorted texts, keywords -/
namespace J
open PySem PySem.Spec L2 PyProof.Rows
/-! ### truth, instances among the values -/
structure PlainTru (K : PySem.W.Frag) (C : Addr) : Prop where
  b : PySem.W.findIn K (.ref C) "__bool__" = some none
  l : PySem.W.findIn K (.ref C) "__len__" = some none
def truO (T : Tab) (cs : List Nat) (d : D) (S : Store) : Option Bool := match insOf T d S with
  | some (c, _) => if cs.contains c = true then some true else none
  | none => truD d S
def iTr (T : Tab) (cs : List Nat) (ie : IE) : IT := fun ρ => M.bind (ie ρ) fun d => fun S => lift (truO T cs d S) S
/-! ### zip of two lists, of two tuples -/
def zipD : List D → List D → List D
  | x :: xs, y :: ys => .tup [x, y] :: zipD xs ys
  | _, _ => []
def zipOf : List D → Option (List D)
  | [.lst xs, .lst ys] => some (zipD xs ys)
  | [.tup xs, .tup ys] => some (zipD xs ys)
  | _ => none
def iZip (ia : IA) : IA := fun ρ => M.bind (ia ρ) fun xs => lift (zipOf xs)
theorem zipD_get : ∀ {xs ys : List D} {i : Nat} {d : D}, (zipD xs ys)[i]? = some d → ∃ x y, d = .tup [x, y] ∧ xs[i]? = some x ∧ ys[i]? = some y
  | [], _, i, d, h => by simp [zipD] at h
  | _ :: _, [], i, d, h => by simp [zipD] at h
  | x :: xs, y :: ys, 0, d, h => by
    have e : D.tup [x, y] = d := by simpa [zipD] using h
    exact ⟨x, y, e.symm, rfl, rfl⟩
  | x :: xs, y :: ys, i + 1, d, h => by
    have h' : (zipD xs ys)[i]? = some d := by simpa [zipD] using h
    simpa using zipD_get h'
theorem zipD_len : ∀ xs ys : List D, (zipD xs ys).length = min xs.length ys.length
  | [], ys => by simp [zipD]
  | _ :: _, [] => by simp [zipD]
  | x :: xs, y :: ys => by
    simp only [zipD, List.length_cons, zipD_len xs ys]
    omega
section
variable {T : Tab} {X : Cx} {W : WX} {ia : IA} {e e2 : Expr} {p pos tpos : Pos} {elts : List Expr} {kk : Nat}
theorem pair_dr {K : PySem.W.Frag} {F : Hp} {S : Store} {ι : List Addr} {G H : Hp} {q : Addr} {x y : D} {vx vy : V} (em : Em T K F S ι G H) (hq : H q = none) (dx : DR T K G ι x vx) (dy : DR T K G ι y vy) :
    ∃ G2, Em T K F S ι G2 (upd H q (.tup [vx, vy])) ∧ Ext G ι G2 ι ∧ DR T K G2 ι (.tup [x, y]) (.ref q) := by
  obtain ⟨em2, x2⟩ := em.frz (o := .tup [vx, vy]) hq
  exact ⟨_, em2, x2, by simp only [DR]; exact ⟨q, _, rfl, upd_same, DRs.cons (dx.mono x2.1 x2.2) (DRs.cons (dy.mono x2.1 x2.2) DRs.nil)⟩⟩
theorem walk_zipL {K : PySem.W.Frag} {ι : List Addr} {G : Hp} {a b : Addr} {xs ys : List D} {vs ws : List V} (ha : G a = some (.lst vs)) (hb : G b = some (.lst ws)) (r : DRs T K G ι xs vs) (r2 : DRs T K G ι ys ws) : Walk T K ι G (Itz K a b) (zipD xs ys) := by
  intro i F S ι1 G1 H1 em x
  have h1 : SqL K H1 a vs := SqL.of (em.sub _ _ (x.1 _ _ ha))
  have h2 : SqL K H1 b ws := SqL.of (em.sub _ _ (x.1 _ _ hb))
  refine ⟨fun d e => ?_, fun e => ⟨vs, ws, h1, h2, ?_⟩⟩
  · obtain ⟨dx, dy, rfl, ex, ey⟩ := zipD_get e
    obtain ⟨v, hv, dv⟩ := r.get ex
    obtain ⟨w, hw, dw⟩ := r2.get ey
    refine ⟨⟨vs, ws, v, w, h1, h2, hv, hw⟩, fun u H2 hy => ?_⟩
    obtain ⟨q, vx, vy, rfl, hq, rfl, f1, f2⟩ := hy
    have e1 := f1 vs h1
    have e2 := f2 ws h2
    rw [hv] at e1
    rw [hw] at e2
    cases e1
    cases e2
    exact pair_dr em hq (dv.mono x.1 x.2) (dw.mono x.1 x.2)
  · have := zipD_len xs ys
    have l1 := r.length
    have l2 := r2.length
    omega
theorem walk_zipT {K : PySem.W.Frag} {ι : List Addr} {G : Hp} {a b : Addr} {xs ys : List D} {vs ws : List V} (ha : G a = some (.tup vs)) (hb : G b = some (.tup ws)) (r : DRs T K G ι xs vs) (r2 : DRs T K G ι ys ws) : Walk T K ι G (RZ.ItzT K a b) (zipD xs ys) := by
  intro i F S ι1 G1 H1 em x
  have h1 : SqT K H1 a vs := SqT.of (em.sub _ _ (x.1 _ _ ha))
  have h2 : SqT K H1 b ws := SqT.of (em.sub _ _ (x.1 _ _ hb))
  refine ⟨fun d e => ?_, fun e => ⟨vs, ws, h1, h2, ?_⟩⟩
  · obtain ⟨dx, dy, rfl, ex, ey⟩ := zipD_get e
    obtain ⟨v, hv, dv⟩ := r.get ex
    obtain ⟨w, hw, dw⟩ := r2.get ey
    refine ⟨⟨vs, ws, v, w, h1, h2, hv, hw⟩, fun u H2 hy => ?_⟩
    obtain ⟨q, vx, vy, rfl, hq, rfl, f1, f2⟩ := hy
    have e1 := f1 vs h1
    have e2 := f2 ws h2
    rw [hv] at e1
    rw [hw] at e2
    cases e1
    cases e2
    exact pair_dr em hq (dv.mono x.1 x.2) (dw.mono x.1 x.2)
  · have := zipD_len xs ys
    have l1 := r.length
    have l2 := r2.length
    omega
theorem ji_zip (hg : Gl X "zip") (hm : X.mg "zip" = none) (ha : JA T X W [e, e2] ia) (hs : starEach [e, e2] X.env = (false, eval e X.env) :: starEach [e2] X.env := by rfl) (hpl : (backTo pos (starEach [e2] X.env)).any (·.1) = false := by rfl) :
    JI T X W (.Tuple elts kk tpos) (.Call (.Name "zip" p) [e, e2] [] pos) (iZip ia) := by
  refine PI.mono (RZ.pi_zipA hg hm ha hs hpl) fun σ H R ⟨ρ, F, S, ι, G, em, sr, h⟩ => ⟨ρ, F, S, ι, G, em, sr, ?_⟩
  unfold iZip M.bind at h
  cases q : ia ρ S with
  | no => rw [q] at h; exact h.elim
  | ex c fs S1 => rw [q] at h; exact h
  | ok xs S1 =>
    rw [q] at h
    intro vs ι1 G1 H1 em1 x1 dr
    dsimp only at h
    unfold lift at h
    unfold zipOf at h
    split at h
    · rename_i zs hz
      split at hz
      · rename_i xs ys
        cases hz
        obtain ⟨v, w, rfl, r1, r2⟩ := dr.two
        simp only [DR] at r1 r2
        obtain ⟨a, us, rfl, ha, ra⟩ := r1
        obtain ⟨b, ws, rfl, hb, rb⟩ := r2
        exact ⟨a, b, us, ws, rfl, .inl ⟨SqL.of (em1.sub _ _ ha), SqL.of (em1.sub _ _ hb), h _ ι1 G1 H1 em1 x1 (walk_zipL ha hb ra rb)⟩⟩
      · rename_i xs ys
        cases hz
        obtain ⟨v, w, rfl, r1, r2⟩ := dr.two
        simp only [DR] at r1 r2
        obtain ⟨a, us, rfl, ha, ra⟩ := r1
        obtain ⟨b, ws, rfl, hb, rb⟩ := r2
        exact ⟨a, b, us, ws, rfl, .inr ⟨SqT.of (em1.sub _ _ ha), SqT.of (em1.sub _ _ hb), h _ ι1 G1 H1 em1 x1 (walk_zipT ha hb ra rb)⟩⟩
      · cases hz
    · exact h.elim
end
/-! ### f-strings -/
def fmtOf : D → Option (List Nat)
  | .str l => if l.length ≤ 100000 then some l else none
  | .int i => if i.natAbs.log2 < 1920 then some (digits i) else none
  | _ => none
def iFmt (ie : IE) : IE := fun ρ => M.bind (ie ρ) fun d => lift ((fmtOf d).map .str)
def joinF : List IE → List Nat → Rho → M (List Nat)
  | [], acc, _ => M.ret acc
  | i :: is, acc, ρ => M.bind (i ρ) fun d => match d with
    | .str l => if (acc ++ l).length ≤ 100000 then joinF is (acc ++ l) ρ else M.no
    | _ => M.no
def iJoin (is : List IE) : IE := fun ρ => M.bind (joinF is [] ρ) fun l => M.ret (.str l)
/-! ### three names at once -/
def sPar3 (i j l : Nat) (ia : IA) : IS := fun ρ => sBind (ia ρ) ρ fun xs => match xs with
  | [x, y, z] => M.ret (.nx (((ρ.set i (some x)).set j (some y)).set l (some z)))
  | _ => M.no
section
variable {T : Tab} {X : Cx} {W : WX} {pos : Pos}
theorem DRs.three {K : PySem.W.Frag} {G : Hp} {ι : List Addr} {x y z : D} {vs : List V} (h : DRs T K G ι [x, y, z] vs) : ∃ u v w, vs = [u, v, w] ∧ DR T K G ι x u ∧ DR T K G ι y v ∧ DR T K G ι z w := by
  simp only [DRs] at h
  obtain ⟨u, _, rfl, h1, v, _, rfl, h2, w, _, rfl, h3, rfl⟩ := h
  exact ⟨u, v, w, rfl, h1, h2, h3⟩
theorem js_par3 {i j l : Nat} {x y z : Str} {a b c : Expr} {ia : IA} {px py pz pt : Pos} {kt k2 pt2} (hc : X.calm = true) (hN : X.N.Nodup) (hi : X.N[i]? = some x) (hj : X.N[j]? = some y) (hl : X.N[l]? = some z) (hij : i ≠ j) (hil : i ≠ l) (hjl : j ≠ l)
    (hx : X.env.scope.names.lookup x = some .local) (hy : X.env.scope.names.lookup y = some .local) (hz : X.env.scope.names.lookup z = some .local) (ha : JA T X W [a, b, c] ia)
    (hw : swappedStores [.Tuple [.Name x px, .Name y py, .Name z pz] kt pt] (.Tuple [a, b, c] k2 pt2) X.env = pure (some [x, y, z]) := by rfl)
    (sole : swapsWithSole [.Tuple [.Name x px, .Name y py, .Name z pz] kt pt] (.Tuple [a, b, c] k2 pt2) pos.line X.env = pure false := by rfl) :
    JS T X W (.Assign [.Tuple [.Name x px, .Name y py, .Name z pz] kt pt] (.Tuple [a, b, c] k2 pt2) pos) (sPar3 i j l ia) := by
  refine PS.mono (L2.ps_par3 hc hN hi hj hl hij hil hjl hx hy hz ha hw sole) fun D σ H ⟨ρ, F, S, ι, G, em, sr, h⟩ => ⟨ρ, F, S, ι, G, em, sr, ThnS.bind (rel := DRs T X.K) h sr fun xs S1 vs ι1 G1 H1 em1 x1 r h1 => ?_⟩
  rcases xs with _ | ⟨d1, _ | ⟨d2, _ | ⟨d3, _ | ⟨d4, rest⟩⟩⟩⟩
  · exact h1.elim
  · exact h1.elim
  · exact h1.elim
  · obtain ⟨u, v, w, rfl, r1, r2, r3⟩ := r.three
    exact ⟨u, v, w, rfl, h1.nx em1 ((((sr.mono x1).set r1 i).set r2 j).set r3 l)⟩
  · exact h1.elim
end
end J
set_option Elab.async false
set_option linter.all false
set_option maxRecDepth 100000
set_option maxHeartbeats 410000
/-! JF: sorted texts, keywords -/
namespace J
open PySem PySem.Spec L2 PyProof.Rows
/-! ### texts in order -/
def insS (x : List Nat) : List (List Nat) → List (List Nat)
  | [] => [x]
  | y :: r => if ltCps y x = true then y :: insS x r else x :: y :: r
def sortS : List (List Nat) → List (List Nat)
  | [] => []
  | x :: r => insS x (sortS r)
theorem insS_perm (x : List Nat) : ∀ l, (insS x l).Perm (x :: l)
  | [] => .refl _
  | y :: r => by
    unfold insS
    split
    · exact ((insS_perm x r).cons y).trans (.swap x y r)
    · exact .refl _
theorem sortS_perm : ∀ l, (sortS l).Perm l
  | [] => .refl _
  | x :: r => (insS_perm x (sortS r)).trans ((sortS_perm r).cons x)
def LeS (a b : List Nat) : Prop := ltCps b a = false
theorem le_iff (a b : List Nat) : LeS a b ↔ ¬ b < a := by
  unfold LeS
  rw [ltCps_eq]
  simp
theorem lt_tri : ∀ a b : List Nat, a < b ∨ a = b ∨ b < a
  | [], [] => .inr (.inl rfl)
  | [], _ :: _ => .inl (List.nil_lt_cons ..)
  | _ :: _, [] => .inr (.inr (List.nil_lt_cons ..))
  | x :: a, y :: b => by
    rcases Nat.lt_trichotomy x y with h | h | h
    · exact .inl (List.cons_lt_cons_iff.mpr (.inl h))
    · subst h
      rcases lt_tri a b with k | k | k
      · exact .inl (List.cons_lt_cons_iff.mpr (.inr ⟨rfl, k⟩))
      · exact .inr (.inl (by rw [k]))
      · exact .inr (.inr (List.cons_lt_cons_iff.mpr (.inr ⟨rfl, k⟩)))
    · exact .inr (.inr (List.cons_lt_cons_iff.mpr (.inl h)))
theorem LeS.antisymm {a b : List Nat} (h : LeS a b) (k : LeS b a) : a = b := by
  rw [le_iff] at h k
  rcases lt_tri a b with z | z | z
  · exact absurd z k
  · exact z
  · exact absurd z h
theorem LeS.trans {a b c : List Nat} (h : LeS a b) (k : LeS b c) : LeS a c := by
  rw [le_iff] at *
  intro z
  rcases lt_tri a b with y | y | y
  · exact k (List.lt_trans z y)
  · subst y; exact k z
  · exact h y
theorem insS_sorted (x : List Nat) : ∀ l : List (List Nat), l.Pairwise LeS → (insS x l).Pairwise LeS
  | [], _ => List.pairwise_singleton ..
  | y :: r, h => by
    have ⟨h1, h2⟩ := List.pairwise_cons.mp h
    unfold insS
    split
    · rename_i lt
      refine List.pairwise_cons.mpr ⟨fun z hz => ?_, insS_sorted x r h2⟩
      rcases List.mem_cons.mp ((insS_perm x r).mem_iff.mp hz) with e | e
      · subst e
        rw [le_iff]
        rw [ltCps_eq] at lt
        exact List.lt_asymm (of_decide_eq_true lt)
      · exact h1 z e
    · rename_i lt
      have le : LeS x y := by simpa [LeS] using lt
      exact List.pairwise_cons.mpr ⟨fun z hz => (List.mem_cons.mp hz).elim (fun e => e ▸ le) fun e => le.trans (h1 z e), h⟩
theorem sortS_sorted : ∀ l : List (List Nat), (sortS l).Pairwise LeS
  | [] => .nil
  | x :: r => insS_sorted x _ (sortS_sorted r)
theorem sorted_eq : ∀ {l m : List (List Nat)}, l.Pairwise LeS → m.Pairwise LeS → l.Perm m → l = m
  | [], m, _, _, p => (List.nil_perm.mp p).symm
  | x :: l, [], _, _, p => absurd p (by simp)
  | x :: l, y :: m, h, k, p => by
    have ⟨h1, h2⟩ := List.pairwise_cons.mp h
    obtain ⟨k1, k2⟩ := List.pairwise_cons.mp k
    have e : x = y := by
      have a : x ∈ y :: m := p.mem_iff.mp (List.mem_cons_self ..)
      have b : y ∈ x :: l := p.mem_iff.mpr (List.mem_cons_self ..)
      rcases List.mem_cons.mp a with e | a
      · exact e
      · rcases List.mem_cons.mp b with e | b
        · exact e.symm
        · exact (h1 y b).antisymm (k1 x a)
    subst e
    rw [sorted_eq h2 k2 (List.Perm.cons_inv p)]
theorem rising_pw : ∀ (r : List Str) (p : Str), risingS p r = true → (p :: r).Pairwise fun a b => LeS a.cps.toList b.cps.toList
  | [], p, _ => List.pairwise_singleton ..
  | x :: r, p, h => by
    have h' : (!ltCps x.cps.toList p.cps.toList && risingS x r) = true := h
    have ⟨h1, h2⟩ := Bool.and_eq_true_iff.mp h'
    have ih := rising_pw r x h2
    have le : LeS p.cps.toList x.cps.toList := by simpa [LeS] using h1
    refine List.pairwise_cons.mpr ⟨fun z hz => ?_, ih⟩
    rcases List.mem_cons.mp hz with e | e
    · subst e; exact le
    · exact le.trans ((List.pairwise_cons.mp ih).1 z e)
theorem sortedS_pw : ∀ l : List Str, sortedS l = true → l.Pairwise fun a b => LeS a.cps.toList b.cps.toList
  | [], _ => .nil
  | x :: r, h => rising_pw r x h
def sortD : OpN := fun xs S => match xs with
  | [d] => (match seqL d S with
    | some l => (match strsOf l with
      | some ss => if ss.length < 64 then some (.lst ((sortS ss).map .str)) else none
      | none => none)
    | none => none)
  | _ => none
theorem str_of_cps (y : Str) : (⟨(y.cps.toList).toArray⟩ : Str) = y := by
  cases y
  simp
theorem strs_dr {T : Tab} {K : PySem.W.Frag} {G : Hp} {ι : List Addr} : ∀ ss : List (List Nat), DRs T K G ι (ss.map .str) ((ss.map fun l => (⟨l.toArray⟩ : Str)).map V.str)
  | [] => DRs.nil
  | x :: r => DRs.cons (by simp only [DR]) (strs_dr r)
theorem sort_same {ss : List (List Nat)} {ys : List Str} (p : ys.Perm (ss.map fun l => (⟨l.toArray⟩ : Str))) (h : sortedS ys = true) : ys = (sortS ss).map fun l => (⟨l.toArray⟩ : Str) := by
  have e : ys.map (fun y => y.cps.toList) = sortS ss := by
    refine sorted_eq (List.pairwise_map.mpr (sortedS_pw ys h)) (sortS_sorted ss) (((p.map _).trans ?_).trans (sortS_perm ss).symm)
    rw [List.map_map]
    exact List.Perm.of_eq ((List.map_congr_left fun l _ => by simp).trans (List.map_id ss))
  rw [← e, List.map_map]
  exact ((List.map_congr_left fun y _ => str_of_cps y).trans (List.map_id ys)).symm
theorem sortD_ok {T : Tab} {K : PySem.W.Frag} : CaS T K (rSortedS K) sortD := by
  intro F S ι G H xs d vs Q em dr e q
  rcases xs with _ | ⟨x, _ | ⟨y, r⟩⟩
  · cases e
  · obtain ⟨v, rfl, r⟩ := dr.one
    unfold sortD at e
    dsimp only at e
    cases h1 : seqL x S with
    | none => rw [h1] at e; cases e
    | some l =>
      rw [h1] at e
      dsimp only at e
      cases h2 : strsOf l with
      | none => rw [h2] at e; cases e
      | some ss =>
        rw [h2] at e
        dsimp only at e
        split at e
        · rename_i hl
          cases e
          obtain ⟨a, ws, rfl, ha, ra⟩ := seqL_ok em r h1
          have hw := strsOf_ok ra h2
          refine ⟨a, ss.map fun l => (⟨l.toArray⟩ : Str), rfl, by rw [← hw]; exact SqL.of ha, by rw [List.length_map]; exact hl, fun ys p perm so hp => ?_⟩
          have ey := sort_same perm so
          obtain ⟨em2, x2⟩ := em.frz (o := .lst (ys.map V.str)) hp
          refine q _ _ _ em2 x2 ?_
          simp only [DR]
          refine ⟨p, ys.map V.str, rfl, upd_same, ?_⟩
          rw [ey]
          exact strs_dr _
        · cases e
  · cases e
/-! ### keywords -/
def pickL {α : Type} (pm : List Nat) (l : List α) : List α := pm.filterMap fun i => l[i]?
theorem pick_vals {vs : List V} {us : List Value} (r : Vals vs us) : ∀ pm : List Nat, Vals (pickL pm vs) (pickL pm us)
  | [] => .nil
  | i :: pm => by
    have ih := pick_vals r pm
    unfold pickL at ih ⊢
    cases q : vs[i]? with
    | none =>
      have z : us[i]? = none := by
        rw [List.getElem?_eq_none_iff] at q ⊢
        rw [← r.length]
        exact q
      simp only [List.filterMap_cons, q, z]
      exact ih
    | some v =>
      obtain ⟨u, e, ru⟩ := r.get q
      simp only [List.filterMap_cons, q, e]
      exact .cons ru ih
theorem pick_drs {T : Tab} {K : PySem.W.Frag} {G : Hp} {ι : List Addr} {xs : List D} {vs : List V} (r : DRs T K G ι xs vs) : ∀ pm : List Nat, DRs T K G ι (pickL pm xs) (pickL pm vs)
  | [] => DRs.nil
  | i :: pm => by
    have ih := pick_drs r pm
    unfold pickL at ih ⊢
    cases q : xs[i]? with
    | none =>
      have z : vs[i]? = none := by
        rw [List.getElem?_eq_none_iff] at q ⊢
        rw [← r.length]
        exact q
      simp only [List.filterMap_cons, q, z]
      exact ih
    | some v =>
      obtain ⟨u, e, ru⟩ := r.get q
      simp only [List.filterMap_cons, q, e]
      exact DRs.cons ru ih
/-- a call of n values and the keywords ks: the parameters are found at the places pm -/
def BindsW (K : PySem.W.Frag) (fd : FuncData) (ps : List Str) (n : Nat) (ks : List Str) (pm : List Nat) : Prop := ∀ (s : Shared) (us ws : List Value), K.In s.heap → us.length = n → ws.length = ks.length → BindsTo s fd ⟨us, ks.zip ws⟩ (ps.zip (pickL pm (us ++ ws)))
theorem bindsW_of {K : PySem.W.Frag} {x qual : Str} {params : Arguments} {body : List Stmt} {scope : Scope} {kws : List (Str × V)} {f : Addr} {fd : FuncData} {ps : List Str} (F : FunD K x qual params body scope [] kws f fd) {n : Nat} {ks : List Str} {pm : List Nat}
    (h : ∀ (kV doc pm' : Value) (an : Option Addr) (cdv ct : Value) (us ws : List Value), us.length = n → ws.length = ks.length → bindArgs (PySem.W.fnOf x qual params body scope .none kV doc pm' an cdv ct) ⟨us, ks.zip ws⟩ = pure (ps.zip (pickL pm (us ++ ws)))) : BindsW K fd ps n ks pm := by
  obtain ⟨oc, od, dV, kV, doc, pm', an, cdv, ct, osl, rfl, lk, hcd, hD, hK⟩ := F.ex
  obtain ⟨_, rfl⟩ | ⟨e, _⟩ := hD
  · intro s us ws X l1 l2
    exact BindsTo.of_looks fun M => .of_pure (h kV doc pm' an cdv ct us ws l1 l2)
  · exact absurd rfl e
abbrev JK (T : Tab) (X : Cx) (W : WX) (ks : List Keyword) (ia : IA) : Prop := PK X ks (tA T X.K W ia)
theorem PK.mono {X : Cx} {e : List Keyword} {t t' : TA} (h : PK X e t) (k : ∀ σ H Q, t' σ H Q → t σ H Q) : PK X e t' := ⟨fun pos pins s σ H Q I q => h.run pos pins s σ H Q I (k σ H Q q)⟩
section
variable {T : Tab} {X : Cx} {W : WX} {e : Expr} {ie : IE} {ik : IA} {kws : List Keyword} {nm : Option Str} {kpos p pos : Pos} {x : Str} {ps ks : List Str} {k n c : Nat} {pm : List Nat} {sem : List D → M D}
theorem jk_nil : JK T X W [] iNil := PK.mono pk_nil fun σ H Q ⟨ρ, F, S, ι, G, em, sr, h⟩ => Thn.ok h em DRs.nil
theorem jk_cons (ha : JE T X W e ie) (hr : JK T X W kws ik) : JK T X W (⟨nm, e, kpos⟩ :: kws) (iCons ie ik) := PK.mono (pk_cons ha hr) fun σ H Q h => cons_go (T := T) (X := X) (W := W) h
/-- f(k = v, ..) -/
def iCallK (n : Nat) (pm : List Nat) (sem : List D → M D) (ik : IA) : IE := fun ρ => M.bind (ik ρ) fun xs => if xs.length = n ∧ (pickL pm xs).length = pm.length then sem (pickL pm xs) else M.no
/-- C(k = v, ..): pm tells the places of __init__'s parameters behind self -/
def iMakeK (T : Tab) (frz : Bool) (c k n : Nat) (pm : List Nat) (sem : List D → M D) (ik : IA) : IE := fun ρ => M.bind (ik ρ) fun xs => if xs.length = n ∧ (pickL pm xs).length = pm.length then makeD T frz c k sem (pickL pm xs) else M.no
theorem pick_self {α : Type} (a : α) (l : List α) : ∀ pm : List Nat, pickL (0 :: pm.map (· + 1)) (a :: l) = a :: pickL pm l := by
  intro pm
  unfold pickL
  simp only [List.filterMap_cons, List.getElem?_cons_zero, List.filterMap_map]
  congr 1
end
end J
set_option Elab.async false
set_option linter.all false
set_option maxRecDepth 100000
set_option maxHeartbeats 410000
/-! JG: one of two ways, methods of instances -/
namespace J
open PySem PySem.Spec L2 PyProof.Rows
theorem tk0 {X : Cx} : L2N.Takes X W0 := fun _ _ h => by
  obtain ⟨_, _, _, _, _, _, _, _, _, _, _, _, _, _, _, _, h⟩ := h
  exact h.elim
def orM (f g : List D → M D) : List D → M D := fun xs S => match f xs S with
  | .no => g xs S
  | r => r
theorem CaM.or {T : Tab} {K : PySem.W.Frag} {r r' : List V → Hp → VK → Prop} {f g : List D → M D} (h : CaM T K r f) (h' : CaM T K r' g) : CaM T K (fun xs H Q => r xs H Q ∨ r' xs H Q) (orM f g) := by
  intro F S ι G H xs vs W σ Q em dr t
  unfold orM at t
  cases q : f xs S with
  | no => rw [q] at t; exact .inr (h' F S ι G H xs vs W σ Q em dr t)
  | ok a S' => rw [q] at t; exact .inl (h F S ι G H xs vs W σ Q em dr (by rw [q]; exact t))
  | ex c fs S' => rw [q] at t; exact .inl (h F S ι G H xs vs W σ Q em dr (by rw [q]; exact t))
/-! ### o.m(e, ..) -/
/-- o is an instance of c; the def is called with it and the arguments -/
def iMeth (T : Tab) (c m n : Nat) (sem : List D → M D) (io : IE) (ia : IA) : IE := fun ρ => M.bind (io ρ) fun o => fun S => match insOf T o S with
  | some (c', fs) => if c' = c ∧ getF m fs = none then M.bind (ia ρ) (fun xs => if xs.length + 1 = n then sem (o :: xs) else M.no) S else .no
  | none => .no
section
variable {T : Tab} {X : Cx} {W : WX} {o e : Expr} {es : List Expr} {io : IE} {ia : IA} {apos pos : Pos} {ps : List Str} {k c m : Nat} {sem : List D → M D} {pl : Sem Bool} {x : Str}
theorem getF_none {K : PySem.W.Frag} {G : Hp} {ι : List Addr} : ∀ {fs : List (Nat × D)} {vs : List (Str × V)}, FRs T K G ι fs vs → getF m fs = none → vs.lookup (T.fn m) = none
  | [], _, r, _ => by
    have r' : _ = [] := r
    subst r'
    rfl
  | (g, d) :: fs, _, ⟨u, us, h, r1, r2⟩, e => by
    subst h
    unfold getF at e
    split at e
    · cases e
    · rename_i hne
      have e2 := getF_none r2 e
      have hn : (T.fn m == T.fn g) = false := by
        rw [beq_eq_false_iff_ne]
        intro z
        exact hne (T.inj _ _ z).symm
      simp only [List.lookup_cons, hn]
      exact e2
end
end J
set_option Elab.async false
set_option linter.all false
set_option maxRecDepth 100000
set_option maxHeartbeats 410000
/-! JH: the head's facts by one Bool, the law's end -/
namespace J
open PySem PySem.Spec L2 PyProof.Rows
/-! ### the facts of the top -/
abbrev AlZ : Type := Bool × List He.FnW
/-- one def: where its function stands, what the text says of it -/
structure Df where
  at_ : PySem.W.Frag → Addr
  name : Str
  qual : Str
  params : Arguments
  body : List Stmt
  scope : Scope
  dfl : List He.Dv := []
  kwd : List (Str × He.Dv) := []
def Df.val (d : Df) : He.FnW := some (d.name, d.qual, d.params, .stmts d.body, d.scope, mainGlobals, [], builtinsNs)
def Df.dvs (K : PySem.W.Frag) (d : Df) : List V := d.dfl.map (He.Dv.v K)
def Df.kws (K : PySem.W.Frag) (d : Df) : List (Str × V) := d.kwd.map fun q => (q.1, q.2.v K)
def fdAt (K : PySem.W.Frag) (a : Addr) : Option FuncData := match K.lookup a with
  | some ⟨_, _, .func fd, _⟩ => some fd
  | _ => none
def seenF (K : PySem.W.Frag) (a : Addr) : He.FnW := (fdAt K a).map fun fd => (fd.name, fd.qualname, fd.params, fd.body, fd.scope, fd.globals, fd.closure, fd.builtins)
def Df.ok (K : PySem.W.Frag) (d : Df) : Bool := PySem.W.keepIn K (.ref (d.at_ K)) && (match fdAt K (d.at_ K) with
  | some fd => PySem.W.codeIn K fd.code d.qual && (He.dflB K fd.defaults (d.dvs K) && He.kwdB K fd.kwdefaults (d.kws K))
  | none => false)
abbrev Df.Fun (K : PySem.W.Frag) (d : Df) (fd : FuncData) : Prop := FunD K d.name d.qual d.params d.body d.scope (d.dvs K) (d.kws K) (d.at_ K) fd
theorem Df.fun_of {K : PySem.W.Frag} {d : Df} (e : seenF K (d.at_ K) = d.val) (c : d.ok K = true) : ∃ fd, d.Fun K fd := by
  obtain ⟨kp, c⟩ := Bool.and_eq_true_iff.mp c
  cases q : (K.lookup (d.at_ K)) with
  | none =>
    have z : fdAt K (d.at_ K) = none := by simp only [fdAt, q]
    rw [z] at c
    cases c
  | some o =>
    obtain ⟨oc, od, dt, osl⟩ := o
    cases dt with
    | func fd =>
      have z : fdAt K (d.at_ K) = some fd := by simp only [fdAt, q]
      unfold seenF at e
      rw [z] at c e
      obtain ⟨a1, a2, a3, a4, a5, a6, a7, a8, a9, a10, a11, a12, a13, a14, a15⟩ := fd
      have e2 : (some (a1, a2, a3, a4, a5, a6, a7, a15) : He.FnW) = d.val := e
      unfold Df.val at e2
      simp only [Prod.mk.injEq, Option.some.injEq] at e2
      obtain ⟨e1, e2, e3, e4, e5, e6, e7, e8⟩ := e2
      subst e1 e2 e3 e4 e5 e6 e7 e8
      obtain ⟨k1, k2⟩ := Bool.and_eq_true_iff.mp c
      obtain ⟨k3, k4⟩ := Bool.and_eq_true_iff.mp k2
      exact ⟨_, ⟨oc, od, a8, a9, a10, a11, a12, a13, a14, osl, rfl, q, k1, He.dflB_ok k3, He.kwdB_ok k4⟩, kp⟩
    | _ =>
      have z : fdAt K (d.at_ K) = none := by simp only [fdAt, q]
      rw [z] at c
      cases c
/-- the getter of a property -/
def pa (K : PySem.W.Frag) (C : Addr) (m : Str) : Addr := match PySem.W.recIn K (He.ma K C m) "property" with
  | some (.ref g :: _) => g
  | _ => 0
def obsZ (ex : PySem.W.Frag → Bool) (fn : List Df) (K : PySem.W.Frag) : AlZ := (ex K && fn.all (fun d => d.ok K), fn.map fun d => seenF K (d.at_ K))
structure SaysZ (ex : PySem.W.Frag → Bool) (fn : List Df) (K : PySem.W.Frag) : Prop where
  fact : ex K = true
  defs : ∀ d ∈ fn, ∃ fd, d.Fun K fd
theorem saysZ_of {ex : PySem.W.Frag → Bool} {fn : List Df} {K : PySem.W.Frag} (h : obsZ ex fn K = (true, fn.map Df.val)) : SaysZ ex fn K := by
  obtain ⟨h1, h2⟩ := Prod.mk.inj h
  obtain ⟨h3, h4⟩ := Bool.and_eq_true_iff.mp h1
  refine ⟨h3, fun d hd => ?_⟩
  exact Df.fun_of (List.map_inj_left.mp h2 d hd) (List.all_eq_true.mp h4 d hd)
/-! ### the law's end -/
section
variable {P : Program} {w : World} {K : PySem.W.Frag} {mg mb : Str → Option Value} {k : Nat} {fa a : Addr} {fd : FuncData} {x : Str} {sp : Sp} {s1 : Shared} {vs : List Value} {ns : List Int}
/-- what is wanted of the call -/
abbrev Told (s1 : Shared) : Result → Shared → Prop := fun r s' => r = .ok (.ret (.bool true)) ∧ OldK s1.heap s'.heap ∧ s'.os = s1.os ∧ AllBare s'.gens
/-- the tables of code objects: c a code object, P its table, empty, not told in K -/
structure TabFacts (K : PySem.W.Frag) (h : Heap) (cs : List (Addr × Addr)) : Prop where
  empty : ∀ p ∈ cs, h.get? p.2 = some { cls := .none, data := .fields #[] }
  out : ∀ p ∈ cs, K.lookup p.2 = none
  code : ∀ p ∈ cs, PySem.W.CodeHd h p.1 p.2
/-- the module that __builtins__ names -/
abbrev BmAt (mg : Str → Option Value) (h : Heap) : Prop := ∃ (bm : Addr) (ob : Obj), mg "__builtins__" = some (.ref bm) ∧ bm ≠ builtinsNs ∧ h.get? bm = some ob ∧ ob.cls = .type "module" ∧ ob.dict = some builtinsNs ∧ ob.data = .plain
/-- what stands in the abstract heap at the law's call -/
structure Start (K : PySem.W.Frag) (cs : List (Addr × Addr)) (a : Addr) (H : Hp) : Prop where
  tab : ∀ p ∈ cs, H p.2 = some (.tbl #[])
  one : ∀ b u, H b = some u → (b = a ∧ ∃ o xs, u = .frz o (.lst xs)) ∨ ((∃ p ∈ cs, b = p.2) ∧ u = .tbl #[])
  out : H a ≠ none → K.lookup a = none
theorem law_from {H : Hp} {cs : List (Addr × Addr)} (KX : K.In s1.heap) (gl : s1.heap.Ns mainGlobals mg) (bl : s1.heap.Ns builtinsNs mb) (bb : ∀ y : Str, y ≠ "__name__" → mb y = bootBuiltins y) (nl : s1.heap.NoLimit) (gn : s1.gens = #[]) (tf : TabFacts K s1.heap cs) (bmA : BmAt mg s1.heap)
    (ha : s1.heap.get? a = some { cls := .type "list", data := .seq vs.toArray }) (hr : Room k callerA)
    (F : ∀ base : Heap, K.In base → base.Ns mainGlobals mg → (∀ p ∈ cs, LamX.TabB base mg p.1 p.2) → FnG P w K mg base k fa fd [x] sp) (bd : ∀ (s : Shared) (u : Value), BindsTo s fd ⟨[u], []⟩ [(x, u)])
    (want : sp [.ref a] H (fun v _ => v = .bl true) fun _ _ _ => False) (st : Start K cs a H) (hok : HOk P w H s1.heap) :
    codeAny (model P w) callerA (.call (.ref fa) ⟨[.ref a], []⟩) (Told s1) s1 := by
  -- an object that is neither a list nor an empty record is not tracked
  have free : ∀ {b : Addr} {o : Obj}, s1.heap.get? b = some o → (∀ l n, o.data ≠ .seq l n) → o.data ≠ .fields #[] → H b = none := by
    intro b o e n1 n2
    rcases Option.eq_none_or_eq_some (H b) with q | ⟨u, q⟩
    · exact q
    · rcases st.one b u q with ⟨z, _⟩ | ⟨⟨p, hp, z⟩, _⟩
      · rw [z, ha] at e
        cases e
        exact absurd rfl (n1 _ _)
      · rw [z, tf.empty p hp] at e
        cases e
        exact absurd rfl n2
  have space : ∀ {b : Addr} {m : Str → Option Value}, s1.heap.Ns b m → (hidT s1.heap H).Ns b m := by
    rintro b m ⟨o, es, n, e, d, r⟩
    exact ⟨o, es, n, hidT_get e (free e (fun _ _ z => by rw [d] at z; cases z) (fun z => by rw [d] at z; cases z)), d, r⟩
  have KB : K.In (hidT s1.heap H) := by
    intro b o e
    refine hidT_get (KX b o e) ?_
    rcases Option.eq_none_or_eq_some (H b) with q | ⟨u, q⟩
    · exact q
    · rcases st.one b u q with ⟨z, _⟩ | ⟨⟨p, hp, z⟩, _⟩
      · rw [z] at e q
        rw [st.out (fun y => by rw [q] at y; cases y)] at e
        cases e
      · rw [z, tf.out p hp] at e
        cases e
  have TBs : ∀ p ∈ cs, LamX.TabB (hidT s1.heap H) mg p.1 p.2 := by
    intro p hp
    have hP := tf.empty p hp
    constructor
    · obtain ⟨o, us, r0, r1, r2, r3, r4, r5, r6, g, c1, c2, rest⟩ := tf.code p hp
      refine ⟨o, us, r0, r1, r2, r3, r4, r5, r6, hidT_get g (free g (fun _ _ z => by rw [c2] at z; cases z) (fun z => ?_)), c1, c2, rest⟩
      rw [c2] at z
      cases z
      have := rest.1
      simp at this
    · obtain ⟨bm, ob, y1, y2, y3, y4, y5, y6⟩ := bmA
      refine ⟨bm, ob, y1, y2, fun z => ?_, fun z => ?_, hidT_get y3 (free y3 (fun _ _ z => by rw [y6] at z; cases z) (fun z => by rw [y6] at z; cases z)), y4, y5, y6⟩
      · obtain ⟨o, es, n, g, d, _⟩ := gl
        rw [z, g] at y3
        cases y3
        rw [y6] at d
        cases d
      · rw [z, hP] at y3
        cases y3
        cases y6
    · intro z
      obtain ⟨o, es, n, g, d, _⟩ := gl
      rw [z, hP] at g
      cases g
      cases d
  obtain ⟨mc, l1, l2⟩ := nl
  have E0 : Env0 P w K mg (hidT s1.heap H) callerA [] s1 H := {
    frames := rfl, mod := ⟨KB, space gl, ⟨mb, space bl, bb⟩, ⟨mc, space l1, l2⟩⟩, bs := fun b o e => of_hidT e, bsz := Nat.le_of_eq (hidT_size _ _), funs := trivial,
    frf := fun b z => (List.not_mem_nil z).elim, hok := hok, bare := .of_eq gn }
  refine codeAny_mono ((F _ KB (space gl) TBs).run callerA [] s1 H ⟨[.ref a], []⟩ [.ref a] [.ref a] _ _ hr rfl E0 (bd s1 (.ref a)) (.cons rfl .nil) want) ?_
  intro r s' z
  match r, z with
  | .error e, z =>
    obtain ⟨_, _, _, _, _, _, _, _, _, _, _, _, f⟩ := z
    exact f.elim
  | .ok (.ret u), ⟨v, H', os, bare, un, hok', rv, q⟩ =>
    cases (show v = .bl true from q)
    cases (show u = Value.bool true from rv)
    -- a table grows, all else stays
    have end_ : ∀ b o, s1.heap.get? b = some o → s'.heap.get? b = some o ∨ (∃ p ∈ cs, b = p.2 ∧ o = { cls := .none, data := .fields #[] } ∧ ∃ more : Array Value, s'.heap.get? b = some { cls := .none, data := .fields more }) := by
      intro b o e
      rcases Option.eq_none_or_eq_some (H b) with q | ⟨w', q⟩
      · exact .inl (un.keep b o e q (fun z => by cases z) (fun z => by cases z))
      · rcases st.one b w' q with ⟨_, ob, xs, rfl⟩ | ⟨⟨p, hp, rfl⟩, rfl⟩
        · have e1 := (hok b _ q).1
          rw [e] at e1
          cases e1
          exact .inl (hok' b _ (un.frzs b o _ q)).1
        · obtain ⟨more, g⟩ := un.tbls p.2 #[] q
          have e1 := tf.empty p hp
          rw [e] at e1
          exact .inr ⟨p, hp, rfl, Option.some.inj e1, _, hok' p.2 _ g⟩
    refine ⟨rfl, ⟨fun b o at1 => ?_, fun b o at1 => ?_⟩, os, bare⟩
    · rcases end_ b o at1 with g | ⟨p, hp, rfl, rfl, more, g⟩
      · exact .inl g
      · exact .inr (.inl ⟨((tf.code p hp).tab at1).isCodeTable, rfl, #[], more, rfl, by simpa using g⟩)
    · rcases end_ b o at1 with g | ⟨p, hp, rfl, rfl, more, g⟩
      · exact ⟨_, g⟩
      · exact ⟨_, g⟩
theorem law_to {cs : List (Addr × Addr)} (KX : K.In s1.heap) (gl : s1.heap.Ns mainGlobals mg) (bl : s1.heap.Ns builtinsNs mb) (bb : ∀ y : Str, y ≠ "__name__" → mb y = bootBuiltins y) (nl : s1.heap.NoLimit) (gn : s1.gens = #[]) (tf : TabFacts K s1.heap cs) (bmA : BmAt mg s1.heap)
    (ha : s1.heap.get? a = some { cls := .type "list", data := .seq vs.toArray }) (hi : IntsAre vs ns) (hl : ns.length ≤ sizeLine) (hr : Room k callerA)
    (F : ∀ base : Heap, K.In base → base.Ns mainGlobals mg → (∀ p ∈ cs, LamX.TabB base mg p.1 p.2) → FnG P w K mg base k fa fd [x] sp) (bd : ∀ (s : Shared) (u : Value), BindsTo s fd ⟨[u], []⟩ [(x, u)])
    (want : ∀ H : Hp, Start K cs a H → SqL K H a (ns.map V.int) → sp [.ref a] H (fun v _ => v = .bl true) fun _ _ _ => False) :
    codeAny (model P w) callerA (.call (.ref fa) ⟨[.ref a], []⟩) (Told s1) s1 := by
  have rv := vals_ints hi
  have sz : vs.length = ns.length := hi.length
  let tabs : List Addr := cs.map (·.2)
  have inT : ∀ {b : Addr}, b ∈ tabs → ∃ p ∈ cs, b = p.2 := fun hb => by
    obtain ⟨p, hp, same⟩ := List.mem_map.mp hb
    exact ⟨p, hp, same.symm⟩
  have ofT : ∀ {p : Addr × Addr}, p ∈ cs → p.2 ∈ tabs := fun hp => List.mem_map.mpr ⟨_, hp, rfl⟩
  have na : a ∉ tabs := fun z => by
    obtain ⟨p, hp, e⟩ := inT z
    rw [e, tf.empty p hp] at ha
    cases ha
  cases hk : K.lookup a with
  | some o =>
    have e := KX a o hk
    rw [ha] at e
    cases e
    let H : Hp := fun b => if b ∈ tabs then some (.tbl #[]) else none
    have get : ∀ b u, H b = some u → b ∈ tabs ∧ u = .tbl #[] := fun b u q => by
      by_cases hb : b ∈ tabs
      · rw [show H b = some (.tbl #[]) from if_pos hb] at q
        cases q
        exact ⟨hb, rfl⟩
      · rw [show H b = none from if_neg hb] at q
        cases q
    have st : Start K cs a H := ⟨fun p hp => if_pos (ofT hp), fun b u q => .inr ⟨inT (get b u q).1, (get b u q).2⟩, fun z => absurd (show H a = none from if_neg na) z⟩
    refine law_from (H := H) KX gl bl bb nl gn tf bmA ha hr F bd (want _ st (.inr ⟨_, vs.toArray, _, hk, rfl, rfl, rfl, by simpa [sz] using hl, by simpa using rv⟩)) st (fun b u q => ?_)
    obtain ⟨hb, rfl⟩ := get b u q
    obtain ⟨p, hp, rfl⟩ := inT hb
    exact tf.empty p hp
  | none =>
    let ob : Obj := { cls := .type "list", data := .seq vs.toArray }
    let H : Hp := fun b => if b ∈ tabs then some (.tbl #[]) else if b = a then some (.frz ob (.lst (ns.map V.int))) else none
    have Ha : H a = some (.frz ob (.lst (ns.map V.int))) := (if_neg na).trans (if_pos rfl)
    have get : ∀ b u, H b = some u → (b = a ∧ u = .frz ob (.lst (ns.map V.int))) ∨ (b ∈ tabs ∧ u = .tbl #[]) := fun b u q => by
      by_cases hb : b ∈ tabs
      · rw [show H b = some (.tbl #[]) from if_pos hb] at q
        cases q
        exact .inr ⟨hb, rfl⟩
      · by_cases hc : b = a
        · rw [hc, Ha] at q
          cases q
          exact .inl ⟨hc, rfl⟩
        · rw [show H b = none from (if_neg hb).trans (if_neg hc)] at q
          cases q
    have st : Start K cs a H := ⟨fun p hp => if_pos (ofT hp), fun b u q => (get b u q).imp (fun z => ⟨z.1, ob, _, z.2⟩) (fun z => ⟨inT z.1, z.2⟩), fun _ => hk⟩
    refine law_from (H := H) KX gl bl bb nl gn tf bmA ha hr F bd (want H st (.inl (.inr ⟨ob, Ha⟩))) st (fun b u q => ?_)
    rcases get b u q with ⟨rfl, rfl⟩ | ⟨hb, rfl⟩
    · exact ⟨ha, (List.length_map ..).symm ▸ hl, vs, _, rv, ha⟩
    · obtain ⟨p, hp, rfl⟩ := inT hb
      exact tf.empty p hp
end
/-- the law's call, from the facts of the top -/
theorem walk_g {l : PySem.W.OpenLaw} {n k : Nat} {q : Program} {loose : List Str} {XP : (Str → Option Value) → Heap → Prop} {YP : World → Heap → Prop} {d : DefRec} {x : Str} (hn : l.most = some n) (hn2 : n ≤ sizeLine) (hdf : d.params.defaults = []) (hr : Room k callerA)
    (F : ∀ (wd : World) (mg : Str → Option Value) (at_ : Addr) (hp : Heap), YP wd hp → hp.Ns mainGlobals mg → mg d.name = some (.ref at_) → ∃ (K : PySem.W.Frag) (fd : FuncData) (sp : Sp) (cs : List (Addr × Addr)), K.In hp ∧ TabFacts K hp cs ∧ (∀ (st : Shared) (u : Value), BindsTo st fd ⟨[u], []⟩ [(x, u)]) ∧
      (∀ (H : Hp) (p : Addr) (script : List Int), script.length ≤ n → Start K cs p H → SqL K H p (script.map V.int) → sp [.ref p] H (fun v _ => v = .bl true) fun _ _ _ => False) ∧ ∀ base : Heap, K.In base → base.Ns mainGlobals mg → (∀ p ∈ cs, LamX.TabB base mg p.1 p.2) → FnG l.prog wd K mg base k at_ fd [x] sp) : PySem.W.WalkO q loose XP YP l.row.toRowW d [] (fun f vs => PySem.call f vs) := by
  refine Att.attach_call hn hdf ?_
  intro w s0 s1 mg mb fa o pm cd doc a vs ns G Y ho hd hcd hmg hobj hints hlen hg
  rcases F w mg fa _ Y G.T.g hmg with ⟨K, fd, sp, cs, KX, tf, hb, hsp, hF⟩
  exact law_to KX G.T.g G.T.b G.T.builtins G.T.nolimit hg tf G.T.bmain hobj hints (Nat.le_trans hlen hn2) hr hF hb fun H st hS => hsp H a ns hlen st hS
theorem ints_dr {T : Tab} {K : PySem.W.Frag} {G : Hp} {ι : List Addr} : ∀ ns : List Int, DRs T K G ι (ns.map D.int) (ns.map V.int)
  | [] => DRs.nil
  | n :: r => DRs.cons (by simp only [DR]) (ints_dr r)
/-- no table -/
def offT (H : Hp) : Hp := fun b => match H b with
  | some (.tbl _) => none
  | o => o
theorem offT_sub (H : Hp) : Same (offT H) H := fun b u q => by
  unfold offT at q
  split at q
  · cases q
  · exact q
theorem offT_of {H : Hp} {b : Addr} {o : HO} (h : H b = some o) (n : noTab o = true) : offT H b = some o := by
  unfold offT
  rw [h]
  cases o <;> first | rfl | cases n
theorem offT_no (H : Hp) : ∀ b o, offT H b = some o → noTab o = true := fun b o q => by
  have e := offT_sub H b o q
  cases o with
  | tbl ps =>
    unfold offT at q
    rw [e] at q
    cases q
  | _ => rfl
theorem sq_off {K : PySem.W.Frag} {H : Hp} {a : Addr} {vs : List V} (h : SqL K H a vs) : SqL K (offT H) a vs := by
  rcases h with (told | ⟨o, told⟩) | inK
  · exact .inl (.inl (offT_of told rfl))
  · exact .inl (.inr ⟨o, offT_of told rfl⟩)
  · exact .inr inK
/-- the law's def, at the script -/
theorem law_sp {T : Tab} {K : PySem.W.Frag} {sem : List D → M D} {H : Hp} {a : Addr} {ns : List Int} {cs : List (Addr × Addr)} (st : Start K cs a H) (hT : ∀ q ∈ T.tabs K, ∃ p ∈ cs, q.1 = p.2) (hS : SqL K H a (ns.map V.int)) (S0 : Store) (hS0 : S0 = ⟨[], 0⟩) (h : ∃ S', sem [.scr (ns.map D.int)] S0 = .ok (.bl true) S') (hh : T.hot = none := by rfl) :
    spJ T K 1 sem [.ref a] H (fun v _ => v = .bl true) fun _ _ _ => False := by
  obtain ⟨S', h⟩ := h
  subst hS0
  refine ⟨rfl, [.scr (ns.map D.int)], fun _ => none, ⟨[], 0⟩, [], offT H, ?em, DRs.cons (by simp only [DR]; exact ⟨a, _, rfl, sq_off hS, ints_dr ns⟩) DRs.nil, ?th⟩
  case em =>
    refine { sub := offT_sub H, fr := (fun _ _ e => by cases e), len := rfl, nd := List.nodup_nil, old := (fun _ z => (List.not_mem_nil z).elim), oldP := (fun _ z => (List.not_mem_nil z).elim), obj := (fun n o e => by cases e), dis := (fun _ _ e => by cases e), tb := fun q hq => ?_, noG := offT_no H, noF := (fun _ _ e => by cases e), ht := (fun a e => by rw [hh] at e; cases e) }
    obtain ⟨p, hp, e⟩ := hT q hq
    exact LamX.TabS.nil (by rw [e]; exact st.tab p hp)
  case th =>
    rw [h]
    intro v ι' G' H' em x r
    simpa only [DR] using r
/-! ### the facts of the top, the tables left out of K -/
def obsY (ex : PySem.W.Frag → Bool) (fn : List Df) (tf : List He.Defn) (g : Addr → Option Obj) (K : PySem.W.Frag) : AlZ := ((obsZ ex fn K).1 && He.tabsB g tf K, (obsZ ex fn K).2)
structure SaysY (ex : PySem.W.Frag → Bool) (fn : List Df) (tf : List He.Defn) (h : Heap) (K : PySem.W.Frag) : Prop where
  z : SaysZ ex fn K
  t : TabFacts K h (tf.map (He.cT K))
end J
set_option Elab.async false
set_option linter.all false
set_option maxRecDepth 100000
set_option maxHeartbeats 410000
/-! JI: tables of names, the facts' Bools -/
namespace J
open PySem PySem.Spec L2 PyProof.Rows
def nameAt (l : List Str) (i : Nat) : Str := match l[i]? with
  | some x => x
  | none => ⟨#[i]⟩
theorem nameAt_inj {l : List Str} (nd : l.Nodup) (no : ∀ x ∈ l, x.cps.size ≠ 1) (i j : Nat) (h : nameAt l i = nameAt l j) : i = j := by
  unfold nameAt at h
  cases a : l[i]? with
  | none =>
    cases b : l[j]? with
    | none =>
      rw [a, b] at h
      have h' : (#[i] : Array Nat) = #[j] := congrArg Str.cps h
      simpa using h'
    | some y =>
      rw [a, b] at h
      have h' : (⟨#[i]⟩ : Str) = y := h
      exact absurd (by rw [← h']; rfl) (no y (List.mem_of_getElem? b))
  | some x =>
    cases b : l[j]? with
    | none =>
      rw [a, b] at h
      have h' : x = (⟨#[j]⟩ : Str) := h
      exact absurd (by rw [h']; rfl) (no x (List.mem_of_getElem? a))
    | some y =>
      rw [a, b] at h
      have h' : x = y := h
      obtain ⟨hi, ei⟩ := List.getElem?_eq_some_iff.mp a
      obtain ⟨hj, ej⟩ := List.getElem?_eq_some_iff.mp b
      exact (List.getElem_inj nd).mp (by rw [ei, ej, h'])
def mkTab (cn fn : List Str) (fs : List (List Nat)) (nd : fn.Nodup) (no : ∀ x ∈ fn, x.cps.size ≠ 1) (tabs : PySem.W.Frag → List (Addr × Str) := fun _ => []) : Tab where
  cn := fun c => cn.getD c ⟨#[]⟩
  fn := nameAt fn
  fs := fun c => fs.getD c []
  inj := nameAt_inj nd no
  tabs := tabs
theorem noats {K : PySem.W.Frag} {C : Addr} (T : Tab) {c : Nat} (ids : List Nat) (e : T.fs c = ids) (h : ∀ n ∈ ids, NoAttr K C (T.fn n)) : ∀ f ∈ T.fs c, NoAttr K C (T.fn f) := by
  rw [e]
  exact h
def plainTB (K : PySem.W.Frag) (C : Addr) : Bool := decide (PySem.W.findIn K (.ref C) "__bool__" = some none) && decide (PySem.W.findIn K (.ref C) "__len__" = some none)
theorem plainTB_ok {K : PySem.W.Frag} {C : Addr} (h : plainTB K C = true) : PlainTru K C := by
  unfold plainTB at h
  simp only [decide_eq_true_eq, Bool.and_eq_true] at h
  exact ⟨h.1, h.2⟩
def propB (K : PySem.W.Frag) (C : Addr) (m : Str) : Bool := decide (PySem.W.findIn K (.ref C) m = some (some (.ref (He.ma K C m)))) && (decide (PySem.W.specialIn K (.ref (He.ma K C m)) "__get__" = some (some (.builtin "property.__get__"))) &&
  (decide (PySem.W.takesIn K (.ref (He.ma K C m)) = some true) && (match PySem.W.recIn K (He.ma K C m) "property" with
    | some (.ref _ :: _) => true
    | _ => false)))
theorem propB_ok {K : PySem.W.Frag} {C : Addr} {m : Str} (h : propB K C m = true) : PropOf K C m (He.ma K C m) (pa K C m) := by
  unfold propB at h
  simp only [decide_eq_true_eq, Bool.and_eq_true] at h
  obtain ⟨h1, h2, h3, h4⟩ := h
  refine ⟨h1, h2, h3, ?_⟩
  unfold pa
  split at h4
  · rename_i g rest e
    rw [e]
    exact ⟨rest, rfl⟩
  · cases h4
end J
set_option Elab.async false
set_option linter.all false
set_option maxRecDepth 100000
set_option maxHeartbeats 1010000
/-! JIr: the facts of the top over all its objects (no reaching from the globals) -/
namespace J
open PySem PySem.Spec L2
def seeA (n : Nat) (g : Addr → Option Obj) : PySem.W.Frag := He.frT g (List.range n)
theorem saysA_of {as : List Addr} {ex : PySem.W.Frag → Bool} {fn : List Df} {tf : List He.Defn} {h : Heap} (e : obsY ex fn tf h.get? (He.frT h.get? as) = (true, fn.map Df.val)) : (He.frT h.get? as).In h ∧ SaysY ex fn tf h (He.frT h.get? as) := by
  have inH : (He.frT h.get? as).In h := He.frT_in
  obtain ⟨e1, vals⟩ := Prod.mk.inj e
  obtain ⟨e3, e4⟩ := Bool.and_eq_true_iff.mp e1
  have each : ∀ d ∈ tf, PySem.W.codeHdIn (He.frT h.get? as) (He.cT (He.frT h.get? as) d).1 (He.cT (He.frT h.get? as) d).2 = true ∧ ∃ o, h.get? (He.cT (He.frT h.get? as) d).2 = some o ∧ He.emptyTab o = true := by
    intro d hd
    obtain ⟨y1, y2⟩ := Bool.and_eq_true_iff.mp (List.all_eq_true.mp e4 d hd)
    refine ⟨y1, ?_⟩
    rcases Option.eq_none_or_eq_some (h.get? (He.cT (He.frT h.get? as) d).2) with q | ⟨o, q⟩
    · rw [q] at y2
      cases y2
    · rw [q] at y2
      exact ⟨o, q, y2⟩
  refine ⟨inH, saysZ_of (Prod.ext e3 vals), fun p hp => ?_, fun p hp => ?_, fun p hp => ?_⟩
  · obtain ⟨d, hd, rfl⟩ := List.mem_map.mp hp
    obtain ⟨_, o, q, y⟩ := each d hd
    rw [q, He.emptyTab_eq y]
  · obtain ⟨d, hd, rfl⟩ := List.mem_map.mp hp
    obtain ⟨_, o, q, y⟩ := each d hd
    exact He.frT_none q y
  · obtain ⟨d, hd, rfl⟩ := List.mem_map.mp hp
    exact PySem.W.codeHd_of_K inH (each d hd).1
def hookA (ex : PySem.W.Frag → Bool) (fn : List Df) (tf : List He.Defn) : PySem.W.Hook where
  α := AlZ
  obs := fun s => obsY ex fn tf s.heap.get? (seeA s.heap.objs.size s.heap.get?)
  val := fun _ => (true, fn.map Df.val)
  says := fun _ h => ∃ K : PySem.W.Frag, K.In h ∧ SaysY ex fn tf h K
  of := fun _ _ e => ⟨_, saysA_of e⟩
  keeps := fun _ _ _ z k => z.elim fun K y => ⟨K, PySem.W.Frag.In.keeps y.1 k, y.2.z, fun p hp => k _ _ (y.2.t.empty p hp), y.2.t.out, fun p hp => (y.2.t.code p hp).keeps k⟩
def seeB (ex : PySem.W.Frag → Bool) (fn : List Df) (tf : List He.Defn) (s : PySem.W.SharedT) : AlZ := obsY ex fn tf (HandSHeadRun.getT s) (seeA s.n (HandSHeadRun.getT s))
theorem seeB_eq {ex : PySem.W.Frag → Bool} {fn : List Df} {tf : List He.Defn} (s : PySem.W.SharedT) : seeB ex fn tf s = (hookA ex fn tf).obs s.abs := by
  have q : HandSHeadRun.getT s = s.abs.heap.get? := funext (HandSHeadRun.getT_eq s)
  have z : s.n = s.abs.heap.objs.size := (PySem.W.absHeap_size s.tree s.n s.life).symm
  unfold seeB
  rw [q, z]
  rfl
end J
set_option Elab.async false
set_option linter.all false
set_option maxRecDepth 100000
set_option maxHeartbeats 410000
/-! JK: methods of instances, called -/
namespace J
open PySem PySem.Spec L2 PyProof.Rows
section
variable {T : Tab} {X : Cx} {W : WX} {o e : Expr} {es : List Expr} {io : IE} {ia : IA} {apos pos : Pos} {ps : List Str} {k c m : Nat} {sem : List D → M D} {pl : Sem Bool} {x : Str}
theorem je_meth (g : GoodM X.prog X.w T X.K X.mg X.base k c x ps sem) (cl : Cls X.K (He.ga X.K (T.cn c))) (hx : x = T.fn m) (hr : Rg k X.A) (tk : L2N.Takes X W) (ho : JE T X W o io) (hA : JA T X W (e :: es) ia)
    (plain1 : starEach (e :: es) X.env = (false, eval e X.env) :: starEach es X.env := by rfl) (plain2 : (backTo pos (starEach es X.env)).any (·.1) = false := by rfl)
    (ht : eval (.Call (.Attribute o x apos) (e :: es) [] pos) X.env = (do
      let ov ← eval o X.env
      standAt apos.atName
      let (fv, ahead) ← holding [ov] (getMethod ov x pl)
      callWith pos fv ahead (backTo pos (starEach (e :: es) X.env)) (backToKw pos (keywordEach [] X.env))) := by rfl) :
    JE T X W (.Call (.Attribute o x apos) (e :: es) [] pos) (iMeth T c m ps.length sem io ia) := by
  obtain ⟨f, fd, Fg, b, at_, fn, kp⟩ := g
  constructor; intro pins s σ H Q I hq
  have key : tE T X.K W io σ H fun v H1 => ∃ a dx fs, v = .ref a ∧ H1 a = some (.ins (He.ga X.K (T.cn c)) dx fs) ∧ fs.lookup x = none ∧
      tA T X.K W ia σ H1 fun vs H2 => spJ T X.K ps.length sem (.ref a :: vs) H2 Q fun c d H => W c d σ H := by
    obtain ⟨ρ, F, S, ι, G, em, sr, h⟩ := hq
    refine ⟨ρ, F, S, ι, G, em, sr, Thn.bind (rel2 := DR T X.K) h fun d S1 v ι1 G1 H1 em1 x1 dr h1 => ?_⟩
    cases q : insOf T d S1 with
    | none => rw [q] at h1; exact h1.elim
    | some p =>
      obtain ⟨c', fs⟩ := p
      rw [q] at h1
      dsimp only at h1
      split at h1
      · rename_i hc
        obtain ⟨rfl, hn⟩ := hc
        obtain ⟨a, dx, ws, rfl, ha, rr⟩ := insOf_ok em1 dr q
        refine ⟨a, dx, ws, rfl, ha, by rw [hx]; exact getF_none rr hn, ρ, F, S1, ι1, G1, em1, sr.mono x1, Thn.bind (rel2 := DRs T X.K) h1 fun xs S2 vs ι2 G2 H2 em2 x2 d2 h2 => ?_⟩
        by_cases hl : xs.length + 1 = ps.length
        · rw [if_pos hl] at h2
          exact ⟨by rw [List.length_cons, ← d2.length]; exact hl, d :: xs, F, S2, ι2, G2, em2, DRs.cons (dr.mono x2.1 x2.2) d2, h2.slots fun _ _ _ z => z⟩
        · rw [if_neg hl] at h2
          exact h2.elim
      · exact h1.elim
  refine PySem.W.methodCall_KW (pl := pl) (thn (ho.run pins s σ H _ I key) ?_) ht
  rintro u s1 ⟨v, H1, I1, ru, a, dx, fs, rfl, ha, hl, q⟩
  have eu : u = Value.ref a := ru; subst eu
  refine getmeth_ok I1 ha cl ⟨at_, fn, kp⟩ hl ?_
  refine PySem.W.callWith_K (first := [.ref a]) (h₀ := X.base) I1.ok.mod.kin kp (thn (hA.run pos pins s1 σ H1 _ I1 q) ?_) plain1 plain2
  rintro us s2 ⟨vs, H2, I2, r, q2⟩
  exact ⟨I2.kIn, call_g (vs := .ref a :: vs) Fg hr tk b I2 (.cons rfl r) q2⟩
end
end J
set_option Elab.async false
set_option linter.all false
set_option maxRecDepth 100000
set_option maxHeartbeats 410000
/-! JL: repr of data, tuple(..), list(..), max and min of a list -/
namespace J
open PySem PySem.Spec L2 PyProof.Rows
open Builtin in
/-- the built-in repr, by the type's own slot -/
theorem repr_slot {prog : Program} {w : World} {A : Around} {E : Value → Shared → Prop} {s : Shared} {T id : String} {v : Value} {Q : Value → Shared → Prop} (hu : A.in1.units < cLine) (hT : s.TypeIs v T) (slot : SlotG T "__repr__" id)
    (h : wpAny (model prog w) A.in1 (call (.builtin id) [v]) (fun r s' => ∃ x u, r = .str x u ∧ Q r s') E s) : wpAny (model prog w) A (call (.builtin "repr") [v]) Q E s := by
  apply Calls.call_function_entry F.kind_repr F.plain_repr F.entry_repr (F.args_repr1 _)
  unfold Builtin.«repr»
  apply wpAny_bind (m := oneArg "repr" _); apply wpAny_pure
  apply wpAny_bind; refine wpAny_cRoomFor hu ?_
  apply wpAny_bind; refine wpAny_specialOf (name := Str.ofString "__repr__") hT slot.lookup ?_
  refine wpAny_bind (m := callSpecialIfBound? v (Str.ofString "__repr__")) (wpAny_callSpecialIfBound?_slotG (name := Str.ofString "__repr__") hT slot (wpAny_mono h ?_ fun _ _ z => z))
  rintro r s' ⟨x, u, rfl, q⟩
  apply wpAny_bind; refine wpAny_isInstance (T := "str") (b := true) rfl isSubtype_str_str ?_
  exact wpAny_pure ⟨_, rfl, q⟩
theorem repr_reads {prog : Program} {w : World} {s : Shared} : ∀ {v : Value} {d : PyData} {as : List Addr}, Reads s.heap v d as → d.showable = true → d.hasDict = false → d.shown.length ≤ sizeLine →
    ∀ (A : Around) (E : Value → Shared → Prop) (Q : Value → Shared → Prop), A.guards = some [] → A.units + 66 < cLine → d.depth ≤ 64 →
    (∀ h' u tk, (∀ b o, s.heap.get? b = some o → h'.get? b = some o) → Q (.str d.shown u) { s with heap := h', toks := tk }) → wpAny (model prog w) A (call (.builtin "repr") [v]) Q E s
  | _, _, _, .none, _, _, _, A, E, Q, _, _, _, hQ => by
    rw [PyData.shown] at hQ
    exact P.repr_of_none (hQ s.heap _ _ fun _ _ e => e)
  | _, _, _, .bool b, _, _, _, A, E, Q, _, _, _, hQ => by
    rw [PyData.shown] at hQ
    exact P.repr_of_bool (by cases b <;> exact hQ s.heap _ _ fun _ _ e => e)
  | _, _, _, .int i t, hs, _, _, A, E, Q, _, _, _, hQ => by
    rw [PyData.shown] at hQ
    exact P.repr_of_int (by simpa [PyData.showable] using hs) (hQ s.heap _ _ fun _ _ e => e)
  | _, _, _, .str x t, _, _, hz, A, E, Q, _, _, _, hQ => by
    rw [PyData.shown] at hQ
    exact P.repr_of_str (hQ s.heap _ _ fun _ _ e => e) (by simpa only [PyData.shown] using hz)
  | _, _, _, .list (a := a) (vs := vs) (xs := xs) h1 h2 h3 h4, hs, hd, hz, A, E, Q, hg, hu, hdp, hQ => by
    have hz' : (listText (PyData.shownAll xs)).length ≤ sizeLine := by rw [PyData.shown] at hz; exact hz
    have hd' : PyData.hasDictAll xs = false := by simpa [PyData.hasDict] using hd
    obtain ⟨bs, hb, hk⟩ := ReprAllK.of_readsAll (prog := prog) (w := w) h4 (by simpa [PyData.showable] using hs) (fun hx => by rw [hd'] at hx; cases hx) (fun t ht => Nat.le_trans (listText_mem_le ht) hz')
    have hna : a ∉ bs := not_mem_of_deeper (Reads.list h1 h2 h3 h4) (by simp only [PyData.depth]; omega) hb
    simp only [PyData.depth] at hdp
    rw [PyData.shown] at hQ
    have hTy : s.TypeIs (.ref a) "list" := ⟨_, h1, h2⟩
    have hu1 : A.in1.units = A.units + 1 := rfl
    refine repr_slot (by omega) hTy F.slot_list_repr.toG ?_
    obtain ⟨l⟩ := vs
    cases l with
    | nil =>
      have h5 : ReadsAll s.heap [] xs _ := h4
      cases h5
      simp only [listText_nil, PyData.shownAll] at hQ
      exact call_list_repr_empty hTy h1 h3 ⟨_, _, rfl, hQ s.heap _ _ fun _ _ e => e⟩
    | cons x l => exact call_list_reprK h1 h2 h3 hna (by simpa using hk.length_eq) (fun i y e => hk.item i y (by simpa using e)) hg (fun b _ => Clear.nil b) (by omega) (fun _ _ e => e) (fun h' u tk k => ⟨_, _, rfl, hQ h' u tk k⟩) hz'
  | _, _, _, .tuple (a := a) (xs := xs) h1 h2 h3 h4, hs, hd, hz, A, E, Q, hg, hu, hdp, hQ => by
    have hz' : (tupleText (PyData.shownAll xs)).length ≤ sizeLine := by rw [PyData.shown] at hz; exact hz
    have hd' : PyData.hasDictAll xs = false := by simpa [PyData.hasDict] using hd
    obtain ⟨bs, hb, hk⟩ := ReprAllK.of_readsAll (prog := prog) (w := w) h4 (by simpa [PyData.showable] using hs) (fun hx => by rw [hd'] at hx; cases hx) (fun t ht => Nat.le_trans (tupleText_mem_le ht) hz')
    have hna : a ∉ bs := not_mem_of_deeper (Reads.tuple h1 h2 h3 h4) (by simp only [PyData.depth]; omega) hb
    simp only [PyData.depth] at hdp
    rw [PyData.shown] at hQ
    have hTy : s.TypeIs (.ref a) "tuple" := ⟨_, h1, h2⟩
    have hu1 : A.in1.units = A.units + 1 := rfl
    refine repr_slot (by omega) hTy F.slot_tuple_repr ?_
    exact call_tuple_reprK h1 h2 h3 hna hk hg (fun b _ => Clear.nil b) (by omega) (fun _ _ e => e) (fun h' u tk k => ⟨_, _, rfl, hQ h' u tk k⟩) hz'
  | _, _, _, .dict .., _, hd, _, _, _, _, _, _, _, _ => by simp [PyData.hasDict] at hd
end J
set_option Elab.async false
set_option linter.all false
set_option maxRecDepth 100000
set_option maxHeartbeats 410000
/-! JLz: repr of data that hold empty dicts -/
namespace J
open PySem PySem.Spec L2 PyProof.Rows
mutual
/-- read off the heap: data whose dicts are empty and none of them the modules' own -/
inductive Rz (h : Heap) : Value → PyData → Prop
  | non : Rz h .none .none
  | bl (b) : Rz h (.bool b) (.bool b)
  | num (i t) : Rz h (.int i t) (.int i)
  | txt (x t) : Rz h (.str x t) (.str x)
  | lst {a o vs n xs} : h.get? a = some o → o.cls = .type "list" → o.data = .seq vs n → RzAll h vs.toList xs → Rz h (.ref a) (.list xs)
  | tup {a o vs n xs} : h.get? a = some o → o.cls = .type "tuple" → o.data = .seq vs n → RzAll h vs.toList xs → Rz h (.ref a) (.tuple xs)
  | emp {a o n} : h.get? a = some o → o.cls = .type "dict" → o.data = .dict #[] n → (a == sysModules) = false → Rz h (.ref a) (.dict [])
inductive RzAll (h : Heap) : List Value → List PyData → Prop
  | nil : RzAll h [] []
  | cons {v vs d ds} : Rz h v d → RzAll h vs ds → RzAll h (v :: vs) (d :: ds)
end
mutual
theorem Rz.reads {h : Heap} : ∀ {v : Value} {d : PyData}, Rz h v d → ∃ as, Reads h v d as
  | _, _, .non => ⟨_, .none⟩
  | _, _, .bl b => ⟨_, .bool b⟩
  | _, _, .num i t => ⟨_, .int i t⟩
  | _, _, .txt x t => ⟨_, .str x t⟩
  | _, _, .lst h1 h2 h3 h4 => let ⟨_, r⟩ := RzAll.reads h4; ⟨_, .list h1 h2 h3 r⟩
  | _, _, .tup h1 h2 h3 h4 => let ⟨_, r⟩ := RzAll.reads h4; ⟨_, .tuple h1 h2 h3 r⟩
  | _, _, .emp h1 h2 h3 _ => ⟨_, .dict (kvs := []) h1 h2 h3 .nil .nil⟩
theorem RzAll.reads {h : Heap} : ∀ {v : List Value} {d : List PyData}, RzAll h v d → ∃ as, ReadsAll h v d as
  | _, _, .nil => ⟨_, .nil⟩
  | _, _, .cons h1 h2 => let ⟨_, r⟩ := Rz.reads h1; let ⟨_, q⟩ := RzAll.reads h2; ⟨_, .cons r q⟩
end
theorem empty_text : dictText [] = PyData.shown (.dict []) := by simp only [PyData.shown, PyData.shownKv]
variable {h₀ : Heap} {w : World} {prog : Program}
mutual
theorem Rz.says : ∀ {v : Value} {d : PyData}, Rz h₀ v d → d.showable = true → d.shown.length ≤ sizeLine → ∃ bs, ReadAtMost h₀ d.depth bs ∧ ReprK prog w bs h₀ d.depth v d.shown
  | _, _, .non, s, z => ReprK.of_reads .none s (by simp [PyData.hasDict]) z
  | _, _, .bl b, s, z => ReprK.of_reads (.bool b) s (by simp [PyData.hasDict]) z
  | _, _, .num i t, s, z => ReprK.of_reads (.int i t) s (by simp [PyData.hasDict]) z
  | _, _, .txt x t, s, z => ReprK.of_reads (.str x t) s (by simp [PyData.hasDict]) z
  | _, _, .emp (a := a) h1 h2 h3 h4, _, z => by
    have r : Reads h₀ (.ref a) (.dict []) _ := .dict (kvs := []) h1 h2 h3 .nil .nil
    refine ⟨[a], ReadAtMost.cons (n := 0) r (Nat.zero_le _) (fun _ q => nomatch q), ?_⟩
    rw [← empty_text]
    exact ReprK.dict (as := []) h1 h2 h3 h4 (by simp) .nil
  | _, _, .lst (a := a) (vs := vs) (xs := xs) h1 h2 h3 h4, s, z => by
    have z1 : (listText (PyData.shownAll xs)).length ≤ sizeLine := by rw [PyData.shown] at z; exact z
    obtain ⟨bs, k1, k2⟩ := RzAll.says h4 (by simpa only [PyData.showable] using s) fun t m => Nat.le_trans (listText_mem_le m) z1
    obtain ⟨_, r⟩ := RzAll.reads h4
    have r1 := Reads.list h1 h2 h3 r
    have na : a ∉ bs := not_mem_of_deeper r1 (Nat.lt_succ_of_le (Nat.le_of_eq (by rfl))) k1
    refine ⟨a :: bs, ReadAtMost.cons r1 (Nat.le_succ_of_le (Nat.le_of_eq (by rfl))) k1, ?_⟩
    rw [PyData.shown, PyData.depth]
    rcases vs with ⟨_ | ⟨x, l⟩⟩
    · cases (show RzAll h₀ [] xs from h4)
      rw [PyData.shownAll, listText_nil]
      exact (ReprK.listEmpty h1 h2 h3 :)
    · exact ReprK.list h1 h2 h3 na (by simpa using k2.length_eq) fun i y e => k2.item i y (by simpa using e)
  | _, _, .tup (a := a) (vs := vs) (xs := xs) h1 h2 h3 h4, s, z => by
    have z1 : (tupleText (PyData.shownAll xs)).length ≤ sizeLine := by rw [PyData.shown] at z; exact z
    obtain ⟨bs, k1, k2⟩ := RzAll.says h4 (by simpa only [PyData.showable] using s) fun t m => Nat.le_trans (tupleText_mem_le m) z1
    obtain ⟨_, r⟩ := RzAll.reads h4
    have r1 := Reads.tuple h1 h2 h3 r
    have na : a ∉ bs := not_mem_of_deeper r1 (Nat.lt_succ_of_le (Nat.le_of_eq (by rfl))) k1
    refine ⟨a :: bs, ReadAtMost.cons r1 (Nat.le_succ_of_le (Nat.le_of_eq (by rfl))) k1, ?_⟩
    rw [PyData.shown, PyData.depth]
    exact ReprK.tuple h1 h2 h3 na k2
theorem RzAll.says : ∀ {v : List Value} {d : List PyData}, RzAll h₀ v d → PyData.showableAll d = true → (∀ t ∈ PyData.shownAll d, t.length ≤ sizeLine) →
    ∃ bs, ReadAtMost h₀ (PyData.depthAll d) bs ∧ ReprAllK prog w bs h₀ (PyData.depthAll d) v (PyData.shownAll d)
  | _, _, .nil, _, _ => ⟨[], (fun _ q => nomatch q), by rw [PyData.shownAll]; exact .nil⟩
  | _, _, .cons (d := d) (ds := ds) h1 h2, s, z => by
    rw [PyData.showableAll, Bool.and_eq_true] at s
    rw [PyData.shownAll] at z ⊢
    obtain ⟨b1, m1, k1⟩ := Rz.says h1 s.1 (z _ (List.mem_cons_self ..))
    obtain ⟨b2, m2, k2⟩ := RzAll.says h2 s.2 fun t q => z t (List.mem_cons_of_mem _ q)
    rw [PyData.depthAll]
    refine ⟨b1 ++ b2, (m1.mono (Nat.le_max_left _ _)).append (m2.mono (Nat.le_max_right _ _)), ?_⟩
    exact .cons ((k1.more fun _ q => List.mem_append_left _ q).level_le (Nat.le_max_left _ _)) (k2.more_le (fun _ q => List.mem_append_right _ q) (Nat.le_max_right _ _))
end
theorem repr_z {s : Shared} {v : Value} {d : PyData} (rz : Rz s.heap v d) (hs : d.showable = true) (hz : d.shown.length ≤ sizeLine) (A : Around) (E : Value → Shared → Prop) (Q : Value → Shared → Prop) (hg : A.guards = some []) (hu : A.units + 66 < cLine) (hdp : d.depth ≤ 64)
    (hQ : ∀ h' u tk, (∀ b o, s.heap.get? b = some o → h'.get? b = some o) → Q (.str d.shown u) { s with heap := h', toks := tk }) : wpAny (model prog w) A (call (.builtin "repr") [v]) Q E s := by
  have hu1 : A.in1.units = A.units + 1 := rfl
  cases rz with
  | non => exact repr_reads .none hs (by simp [PyData.hasDict]) hz A E Q hg hu hdp hQ
  | bl b => exact repr_reads (.bool b) hs (by simp [PyData.hasDict]) hz A E Q hg hu hdp hQ
  | num i t => exact repr_reads (.int i t) hs (by simp [PyData.hasDict]) hz A E Q hg hu hdp hQ
  | txt x t => exact repr_reads (.str x t) hs (by simp [PyData.hasDict]) hz A E Q hg hu hdp hQ
  | @emp a o n h1 h2 h3 h4 =>
    rw [← empty_text] at hQ hz
    refine repr_slot (by omega) ⟨_, h1, h2⟩ F.slot_dict_repr ?_
    exact call_dict_reprK (d := 0) (as := []) h1 h2 h3 h4 (by simp) .nil hg (fun b _ => Clear.nil b) (by omega) (fun _ _ e => e) (fun h' u tk k => ⟨_, _, rfl, hQ h' u tk k⟩) hz
  | @lst a o vs n xs h1 h2 h3 h4 =>
    rw [PyData.shown] at hz hQ
    obtain ⟨bs, k1, k2⟩ := RzAll.says (prog := prog) (w := w) h4 (by simpa only [PyData.showable] using hs) fun t m => Nat.le_trans (listText_mem_le m) hz
    obtain ⟨_, r⟩ := RzAll.reads h4
    have na : a ∉ bs := not_mem_of_deeper (Reads.list h1 h2 h3 r) (Nat.lt_succ_of_le (Nat.le_of_eq (by rfl))) k1
    rw [PyData.depth] at hdp
    refine repr_slot (by omega) ⟨_, h1, h2⟩ F.slot_list_repr.toG ?_
    rcases vs with ⟨_ | ⟨x, l⟩⟩
    · cases (show RzAll s.heap [] xs from h4)
      rw [PyData.shownAll, listText_nil] at hQ
      exact call_list_repr_empty ⟨_, h1, h2⟩ h1 h3 ⟨_, _, rfl, hQ s.heap _ _ fun _ _ e => e⟩
    · exact call_list_reprK h1 h2 h3 na (by simpa using k2.length_eq) (fun i y e => k2.item i y (by simpa using e)) hg (fun b _ => Clear.nil b) (by omega) (fun _ _ e => e) (fun h' u tk k => ⟨_, _, rfl, hQ h' u tk k⟩) hz
  | @tup a o vs n xs h1 h2 h3 h4 =>
    rw [PyData.shown] at hz hQ
    obtain ⟨bs, k1, k2⟩ := RzAll.says (prog := prog) (w := w) h4 (by simpa only [PyData.showable] using hs) fun t m => Nat.le_trans (tupleText_mem_le m) hz
    obtain ⟨_, r⟩ := RzAll.reads h4
    have na : a ∉ bs := not_mem_of_deeper (Reads.tuple h1 h2 h3 r) (Nat.lt_succ_of_le (Nat.le_of_eq (by rfl))) k1
    rw [PyData.depth] at hdp
    refine repr_slot (by omega) ⟨_, h1, h2⟩ F.slot_tuple_repr ?_
    exact call_tuple_reprK h1 h2 h3 na k2 hg (fun b _ => Clear.nil b) (by omega) (fun _ _ e => e) (fun h' u tk k => ⟨_, _, rfl, hQ h' u tk k⟩) hz
mutual
/-- data in the abstract heap, empty dicts among them -/
inductive Dz (K : PySem.W.Frag) (H : Hp) : V → PyData → Prop
  | non : Dz K H .non .none
  | bl (b : Bool) : Dz K H (.bl b) (.bool b)
  | num (i : Int) : Dz K H (.int i) (.int i)
  | txt (x : Str) : Dz K H (.str x) (.str x)
  | lst {a : Addr} {xs : List V} {ds : List PyData} : SqL K H a xs → DzAll K H xs ds → Dz K H (.ref a) (.list ds)
  | tup {a : Addr} {xs : List V} {ds : List PyData} : SqT K H a xs → DzAll K H xs ds → Dz K H (.ref a) (.tuple ds)
  | emp {a : Addr} : H a = some (.dK []) → Dz K H (.ref a) (.dict [])
inductive DzAll (K : PySem.W.Frag) (H : Hp) : List V → List PyData → Prop
  | nil : DzAll K H [] []
  | cons {v : V} {vs : List V} {d : PyData} {ds : List PyData} : Dz K H v d → DzAll K H vs ds → DzAll K H (v :: vs) (d :: ds)
end
section
variable {s : Shared} {H : Hp} {X : Cx} {σ : L2.St} {pins : List (Addr × Obj)}
mutual
theorem Dz.rz (I : Inv X pins σ H s) : ∀ {d : PyData} {v : V} {u : Value}, Dz X.K H v d → RelV v u → Rz s.heap u d
  | _, _, _, .non, r => by cases r; exact .non
  | _, _, _, .bl b, r => by cases r; exact .bl b
  | _, _, _, .num i, r => by obtain ⟨t, rfl⟩ := r; exact .num i t
  | _, _, _, .txt x, r => by obtain ⟨t, rfl⟩ := r; exact .txt x t
  | _, _, _, .lst hs ha, r => by
    cases r
    obtain ⟨us, ru, ⟨ob, m, a1, a2, _, a3⟩, _⟩ := I.list hs
    exact .lst a1 a2 a3 (DzAll.rz I ha ru)
  | _, _, _, .tup hs ha, r => by
    cases r
    obtain ⟨us, ru, ⟨ob, a1, a2, m, a3⟩, _⟩ := I.tuple hs
    exact .tup a1 a2 a3 (DzAll.rz I ha ru)
  | _, _, _, .emp he, r => by
    cases r
    obtain ⟨_, hm, vs, kv, o, es, ep, ho, hx, hd, _, hes, _⟩ := dk_of I.hok he
    cases kv
    have : es = #[] := by
      rcases es with ⟨l⟩
      cases l with
      | nil => rfl
      | cons x l => cases hes
    subst this
    exact .emp ho hx.1 hd hm
theorem DzAll.rz (I : Inv X pins σ H s) : ∀ {d : List PyData} {v : List V} {u : List Value}, DzAll X.K H v d → Vals v u → RzAll s.heap u d
  | _, _, _, .nil, r => by cases r; exact .nil
  | _, _, _, .cons h1 h2, r => by cases r with | cons r1 r2 => exact .cons (Dz.rz I h1 r1) (DzAll.rz I h2 r2)
end
end
mutual
def toPz : D → Option PyData
  | .non => some .none
  | .bl b => some (.bool b)
  | .int i => some (.int i)
  | .str x => some (.str ⟨x.toArray⟩)
  | .lst xs => (toPzs xs).map .list
  | .tup xs => (toPzs xs).map .tuple
  | .dct [] [] => some (.dict [])
  | _ => none
def toPzs : List D → Option (List PyData)
  | [] => some []
  | x :: xs => match toPz x, toPzs xs with
    | some a, some b => some (a :: b)
    | _, _ => none
end
section
variable {T : Tab} {K : PySem.W.Frag}
mutual
theorem toPz_ok {F : Hp} {S : Store} {ι : List Addr} {G H : Hp} (em : Em T K F S ι G H) : ∀ {x : D} {v : V} {p : PyData}, DR T K G ι x v → toPz x = some p → Dz K H v p
  | .non, _, _, h, e => by simp only [DR] at h; rw [toPz] at e; cases e; subst h; exact .non
  | .bl b, _, _, h, e => by simp only [DR] at h; rw [toPz] at e; cases e; subst h; exact .bl b
  | .int b, _, _, h, e => by simp only [DR] at h; rw [toPz] at e; cases e; subst h; exact .num b
  | .str b, _, _, h, e => by simp only [DR] at h; rw [toPz] at e; cases e; subst h; exact .txt _
  | .lst xs, _, _, h, e => by
    simp only [DR] at h
    rw [toPz, Option.map_eq_some_iff] at e
    obtain ⟨a, vs, rfl, q, r⟩ := h
    obtain ⟨ps, e1, rfl⟩ := e
    exact .lst (SqL.of (em.sub _ _ q)) (toPzs_ok em r e1)
  | .tup xs, _, _, h, e => by
    simp only [DR] at h
    rw [toPz, Option.map_eq_some_iff] at e
    obtain ⟨a, vs, rfl, q, r⟩ := h
    obtain ⟨ps, e1, rfl⟩ := e
    exact .tup (SqT.of (em.sub _ _ q)) (toPzs_ok em r e1)
  | .dct [] [], _, _, h, e => by
    simp only [DR, DRs] at h
    rw [toPz] at e
    cases e
    obtain ⟨a, vs, rfl, _, q, rfl⟩ := h
    rcases q with ⟨_, q⟩ | ⟨n, _⟩
    · exact .emp (em.sub _ _ q)
    · exact absurd rfl n
  | .dct (_ :: _) _, _, _, _, e => by simp [toPz] at e
  | .dct [] (_ :: _), _, _, _, e => by simp [toPz] at e
  | .dcu _ _, _, _, _, e => by simp [toPz] at e
  | .ty _, _, _, _, e => by simp [toPz] at e
  | .glo _, _, _, _, e => by simp [toPz] at e
  | .scr _, _, _, _, e => by simp [toPz] at e
  | .ins _ _, _, _, _, e => by simp [toPz] at e
  | .exn _ _ _, _, _, _, e => by simp [toPz] at e
  | .ref _, _, _, _, e => by simp [toPz] at e
theorem toPzs_ok {F : Hp} {S : Store} {ι : List Addr} {G H : Hp} (em : Em T K F S ι G H) : ∀ {x : List D} {v : List V} {p : List PyData}, DRs T K G ι x v → toPzs x = some p → DzAll K H v p
  | [], _, _, h, e => by simp only [DRs] at h; rw [toPzs] at e; cases e; subst h; exact .nil
  | x :: xs, _, _, h, e => by
    simp only [DRs] at h
    obtain ⟨v, r, rfl, h1, h2⟩ := h
    rw [toPzs] at e
    split at e
    · rename_i a b e1 e2
      cases e
      exact .cons (toPz_ok em h1 e1) (toPzs_ok em h2 e2)
    · cases e
end
theorem derefz_ok {F : Hp} {S : Store} {ι : List Addr} {G H : Hp} (em : Em T K F S ι G H) {x : D} {v : V} {p : PyData} (h : DR T K G ι x v) (e : toPz (deref x S) = some p) : Dz K H v p := by
  cases x with
  | ref n =>
    rw [deref] at e
    split at e
    · rename_i xs q
      obtain ⟨a, vs, e1, h1, h2⟩ := seqL_ok (xs := xs) em h (by simp only [seqL, q])
      subst e1
      rw [toPz, Option.map_eq_some_iff] at e
      obtain ⟨ps, e1, rfl⟩ := e
      exact .lst (SqL.of h1) (toPzs_ok em h2 e1)
    · simp [toPz] at e
  | _ => exact toPz_ok em h e
end
end J
set_option Elab.async false
set_option linter.all false
set_option maxRecDepth 100000
set_option maxHeartbeats 410000
/-! JM: repr(x), tuple(..), list(..), max and min of a list -/
namespace J
open PySem PySem.Spec L2 PyProof.Rows
def rReprD (K : PySem.W.Frag) : List V → Hp → VK → Prop := fun vs H Q => ∃ v d, vs = [v] ∧ Dz K H v d ∧ d.showable = true ∧ d.depth ≤ 64 ∧ d.shown.length ≤ sizeLine ∧ Q (.str d.shown) H
theorem call_reprD {X : Cx} {k : Nat} (hr : Rg k X.A) : CallR X (.builtin "repr") (rReprD X.K) := by
  rintro pins s σ H xs us Q I r h
  obtain ⟨v, d, rfl, dp, h1, h3, h4, q⟩ := h
  rcases vals1 r with ⟨u, rfl, ru⟩
  have hu := hr.r.un
  exact repr_z (Dz.rz I dp ru) h1 h4 X.A _ _ hr.g (by omega) h3 fun h' u tk hk => ⟨.str d.shown, H, I.kept (t' := tk) hk, ⟨_, rfl⟩, q⟩
/-- the text of a value -/
def repOf (d : D) (S : Store) : Option (List Nat) := match toPz (deref d S) with
  | some p => if (p.showable && (decide (p.depth ≤ 64) && decide (p.shown.length ≤ 100000))) = true then some p.shown.cps.toList else none
  | none => none
def reprD : OpN := fun xs S => match xs with
  | [x] => (repOf x S).map .str
  | _ => none
theorem reprD_ok {T : Tab} {K : PySem.W.Frag} : CaS T K (rReprD K) reprD := by
  intro F S ι G H xs d vs Q em dr e q
  rcases xs with _ | ⟨x, _ | ⟨y, r⟩⟩
  · cases e
  · obtain ⟨v, rfl, r⟩ := dr.one
    unfold reprD repOf at e
    dsimp only at e
    cases hp : toPz (deref x S) with
    | none => rw [hp] at e; cases e
    | some p =>
      rw [hp] at e
      dsimp only at e
      split at e
      · rename_i hc
        simp only [decide_eq_true_eq, Bool.and_eq_true] at hc
        cases e
        refine ⟨v, p, rfl, derefz_ok em r hp, hc.1, hc.2.1, sz_of hc.2.2, q _ G H em (Ext.refl _ _) ?_⟩
        simp only [DR, str_of_cps]
      · cases e
  · cases e
end J
set_option Elab.async false
set_option linter.all false
set_option maxRecDepth 100000
set_option maxHeartbeats 1010000
/-! JN: zip of texts, enumerate of tuples, lists and texts -/
namespace J
open PySem PySem.Spec L2 PyProof.Rows
/-! ### iterators that hand out new pairs, by what the library's GoesN says of them -/
/-! ### zip of two texts -/
/-! ### enumerate of a tuple, of a text -/
/-! ### zip and enumerate as they are walked -/
def zipOfA : List D → Option (List D)
  | [.lst xs, .lst ys] => some (zipD xs ys)
  | [.tup xs, .tup ys] => some (zipD xs ys)
  | [.str a, .str b] => some (zipD (a.map fun c => .str [c]) (b.map fun c => .str [c]))
  | _ => none
def iZipA (ia : IA) : IA := fun ρ => M.bind (ia ρ) fun xs => lift (zipOfA xs)
def enumF : Nat → List D → List D
  | _, [] => []
  | n, x :: xs => .tup [.int (n : Nat), x] :: enumF (n + 1) xs
def enumOf : List D → Option (List D)
  | [.lst xs] => some (enumF 0 xs)
  | [.tup xs] => some (enumF 0 xs)
  | [.str a] => some (enumF 0 (a.map fun c => .str [c]))
  | _ => none
def iEnumD (ia : IA) : IA := fun ρ => M.bind (ia ρ) fun xs => lift (enumOf xs)
end J
set_option Elab.async false
set_option linter.all false
set_option maxRecDepth 100000
set_option maxHeartbeats 1010000
/-! JO: dicts (int and text keys), comprehensions that make a thing of the store -/
namespace J
open PySem PySem.Spec L2 PyProof.Rows
def kyOf : D → Option Ky
  | .int i => some (.i i)
  | .str x => some (.s x)
  | _ => none
theorem kyK_inj {a b : Ky} (h : kyK a = kyK b) : a = b := by
  cases a <;> cases b <;> simp only [kyK] at h
  · cases h; rfl
  · cases h
  · cases h
  · have e := Sum.inr.inj h
    have e2 := str_inj.mp e
    rw [e2]
def getKy (k : Ky) : List (Ky × D) → Option D
  | [] => none
  | (j, d) :: r => if j = k then some d else getKy k r
section
variable {T : Tab} {K : PySem.W.Frag} {G : Hp} {ι : List Addr}
theorem KRs.any {k : Ky} : ∀ {kvs : List (Ky × D)} {vs : List (Key × V)}, KRs T K G ι kvs vs → (kvs.any fun q => decide (q.1 = k)) = vs.any fun q => decide (q.1 = kyK k)
  | [], _, h => by cases h; rfl
  | (j, x) :: r, _, ⟨v, w, rfl, dr, rr⟩ => by
    simp only [List.any_cons, KRs.any rr]
    congr 1
    by_cases h : j = k
    · simp [h]
    · have h2 : ¬ kyK j = kyK k := fun z => h (kyK_inj z)
      simp [h, h2]
theorem KRs.length : ∀ {kvs : List (Ky × D)} {vs : List (Key × V)}, KRs T K G ι kvs vs → kvs.length = vs.length
  | [], _, h => by cases h; rfl
  | (j, x) :: r, _, ⟨u, w, rfl, dr, rr⟩ => by simp [KRs.length rr]
end
/-- a dict's entries -/
def dctOf : D → Store → Option (List (Ky × D))
  | .dct ks xs, _ => some (ks.zip xs)
  | .ref n, S => match S.get n with
    | some (.dct kvs) => some kvs
    | _ => none
  | _, _ => none
/-- d[k] -/
def dgetD : Op2 := fun x y S => match dctOf x S, kyOf y with
  | some kvs, some k => getKy k kvs
  | _, _ => none
/-! ### comprehensions that lay a thing of the store -/
end J
set_option Elab.async false
set_option linter.all false
set_option maxRecDepth 100000
set_option maxHeartbeats 1010000
/-! JP: star arguments, defs with *args, methods by keyword, tuple(..), list(..), max and min of a list -/
namespace J
open PySem PySem.Spec L2 PyProof.Rows
def iStar (ie : IE) (ir : IA) : IA := fun ρ => M.bind (ie ρ) fun x => M.bind (fun S => lift (seqA x S) S) fun xs => M.bind (ir ρ) fun ys => M.ret (xs ++ ys)
/-! ### defs with *args -/
/-- the arguments as they are bound: n by name, the rest in a tuple -/
def packV (n : Nat) (ds : List D) : List D := ds.take n ++ [.tup (ds.drop n)]
def iCallV (n : Nat) (sem : List D → M D) (ia : IA) : IE := fun ρ => M.bind (ia ρ) fun xs => if n ≤ xs.length ∧ xs.length ≤ 100000 then sem (packV n xs) else M.no
/-- n: the parameters behind self -/
def makeV (T : Tab) (frz : Bool) (c n : Nat) (sem : List D → M D) (xs : List D) : M D := fun S => if n ≤ xs.length ∧ xs.length < 100000 then (match sem (.ref S.next :: packV n xs) (S.alloc (.ins c [])) with
    | .ok .non S' => madeD T frz c S.next S'
    | .ex c fs S' => .ex c fs S'
    | _ => .no) else .no
def iMakeV (T : Tab) (frz : Bool) (c n : Nat) (sem : List D → M D) (ia : IA) : IE := fun ρ => M.bind (ia ρ) (makeV T frz c n sem)
/-! ### methods by keyword, methods without arguments -/
def GoodMK (P : Program) (w : World) (T : Tab) (K : PySem.W.Frag) (mg : Str → Option Value) (base : Heap) (k c : Nat) (m : Str) (ps : List Str) (sem : List D → M D) (ks : List Str) (pm : List Nat) : Prop :=
  ∃ f fd, FnG P w K mg base k f fd ps (spJ T K ps.length sem) ∧ BindsW K fd ps 1 ks (0 :: pm.map (· + 1)) ∧ Meth K (He.ga K (T.cn c)) m f
def iMethK (T : Tab) (c m n : Nat) (pm : List Nat) (sem : List D → M D) (io : IE) (ik : IA) : IE := fun ρ => M.bind (io ρ) fun o => fun S => match insOf T o S with
  | some (c', fs) => if c' = c ∧ getF m fs = none then M.bind (ik ρ) (fun xs => if xs.length = n ∧ (pickL pm xs).length = pm.length then sem (o :: pickL pm xs) else M.no) S else .no
  | none => .no
section
variable {T : Tab} {X : Cx} {W : WX} {o e : Expr} {es : List Expr} {io : IE} {ia ik : IA} {apos pos : Pos} {ps ks : List Str} {k c m : Nat} {pm : List Nat} {sem : List D → M D} {pl : Sem Bool} {x : Str} {kws : List Keyword}
theorem je_methK (g : GoodMK X.prog X.w T X.K X.mg X.base k c x ps sem ks pm) (hpm : pm.length + 1 = ps.length) (cl : Cls X.K (He.ga X.K (T.cn c))) (hx : x = T.fn m) (hr : Rg k X.A) (tk : L2N.Takes X W) (ho : JE T X W o io) (hkw : JK T X W kws ik)
    (hall : (backToKw pos (keywordEach kws X.env)).all (·.1.isSome) = true := by rfl) (hks : (backToKw pos (keywordEach kws X.env)).filterMap (·.1) = ks := by rfl)
    (hpl : ((backTo pos (starEach [] X.env)).any (·.1) || (backToKw pos (keywordEach kws X.env)).any (·.1.isNone)) = false := by rfl)
    (ht : eval (.Call (.Attribute o x apos) [] kws pos) X.env = (do
      let ov ← eval o X.env
      standAt apos.atName
      let (f, first) ← holding [ov] (getMethod ov x pl)
      callWith pos f first (backTo pos (starEach [] X.env)) (backToKw pos (keywordEach kws X.env))) := by rfl) :
    JE T X W (.Call (.Attribute o x apos) [] kws pos) (iMethK T c m ks.length pm sem io ik) := by
  obtain ⟨f, fd, Fg, b, mt⟩ := g
  constructor; intro pins s σ H Q I hq
  have key : tE T X.K W io σ H fun v H1 => ∃ a dx fs, v = .ref a ∧ H1 a = some (.ins (He.ga X.K (T.cn c)) dx fs) ∧ fs.lookup x = none ∧
      tA T X.K W ik σ H1 fun vs H2 => vs.length = ks.length ∧ spJ T X.K ps.length sem (.ref a :: pickL pm vs) H2 Q fun c d H => W c d σ H := by
    obtain ⟨ρ, F, S, ι, G, em, sr, h⟩ := hq
    refine ⟨ρ, F, S, ι, G, em, sr, Thn.bind (rel2 := DR T X.K) h fun d S1 v ι1 G1 H1 em1 x1 dr h1 => ?_⟩
    cases q : insOf T d S1 with
    | none => rw [q] at h1; exact h1.elim
    | some p =>
      obtain ⟨c', fs⟩ := p
      rw [q] at h1
      dsimp only at h1
      split at h1
      · rename_i hc
        obtain ⟨rfl, hn⟩ := hc
        obtain ⟨a, dx, ws, rfl, ha, rr⟩ := insOf_ok em1 dr q
        refine ⟨a, dx, ws, rfl, ha, by rw [hx]; exact getF_none rr hn, ρ, F, S1, ι1, G1, em1, sr.mono x1, Thn.bind (rel2 := DRs T X.K) h1 fun xs S2 vs ι2 G2 H2 em2 x2 d2 h2 => ?_⟩
        by_cases hl : xs.length = ks.length ∧ (pickL pm xs).length = pm.length
        · rw [if_pos hl] at h2
          have dp := pick_drs d2 pm
          refine ⟨d2.length.symm.trans hl.1, by rw [List.length_cons, ← dp.length, hl.2]; exact hpm, d :: pickL pm xs, F, S2, ι2, G2, em2, DRs.cons (dr.mono x2.1 x2.2) dp, h2.slots fun _ _ _ z => z⟩
        · rw [if_neg hl] at h2
          exact h2.elim
      · exact h1.elim
  refine PySem.W.methodCall_KW (pl := pl) (thn (ho.run pins s σ H _ I key) ?_) ht
  rintro u s1 ⟨v, H1, I1, ru, a, dx, fs, rfl, ha, hl, q⟩
  have eu : u = Value.ref a := ru; subst eu
  refine getmeth_ok I1 ha cl mt hl ?_
  refine PySem.W.callWith_KW0 (first := [.ref a]) (h₀ := X.base) I1.ok.mod.kin mt.kp hall ?_ hpl
  refine thn (hkw.run pos pins s1 σ H1 _ I1 q) ?_
  rintro us s2 ⟨vs, H2, I2, r, hl2, q2⟩
  refine ⟨I2.kIn, ?_⟩
  rw [hks]
  have bt := b s2 [.ref a] us I2.kIn rfl (r.length.symm.trans hl2)
  rw [show [Value.ref a] ++ us = .ref a :: us from rfl, pick_self] at bt
  refine wpAny_call (codeAny_mono (run_g (us := .ref a :: pickL pm us) (vs := .ref a :: pickL pm vs) Fg hr tk I2 bt (.cons rfl (pick_vals r pm)) q2) fun rs s' z => ?_)
  cases rs with
  | error e => exact z
  | ok fl =>
    cases fl with
    | ret u => exact z
    | _ => exact z.elim
end
/-! ### tuple(x), list(x), max, min -/
def tupD : OpN := fun xs S => match xs with
  | [x] => (match x with
    | .tup ys => some (.tup ys)
    | _ => (seqR x S).map .tup)
  | _ => none
end J
set_option Elab.async false
set_option linter.all false
set_option maxRecDepth 100000
set_option maxHeartbeats 1010000
/-! JQ: len(x) and bool(x) of an instance with its own __len__; max and min of a list; bool of plain things -/
namespace J
open PySem PySem.Spec L2 PyProof.Rows
/-! ### max and min of a list of whole numbers -/
end J
set_option Elab.async false
set_option linter.all false
set_option maxRecDepth 100000
set_option maxHeartbeats 1010000
/-! JR: bool(x), x an instance whose class has __len__ and no __bool__ -/
namespace J
open PySem PySem.Spec L2 PyProof.Rows
open PySem.W (InstAt findIn isFn looks_findIn special_fn)
end J
set_option Elab.async false
set_option linter.all false
set_option maxRecDepth 100000
set_option maxHeartbeats 1010000
/-! JS: raise of an own exception that keeps one value -/
namespace J
open PySem PySem.Spec L2 PyProof.Rows
/-! ### what the text says of the class -/
def oexB (K : PySem.W.Frag) (C : Addr) : Bool := match K.lookup C with
  | some ⟨.type k, _, .cls cd, sl⟩ => (match cd.mro, sl.toList with
    | .ref C' :: bm, [_, _, _, _, some (.builtin n), _] => decide (k = "type") && (decide (C' = C) && (decide (n = "ValueError.__new__") && (!cd.hasDel && (cd.hasDict && PySem.HandSPX.refsVE bm))))
    | _, _ => false)
  | _ => false
def raiB (K : PySem.W.Frag) (C : Addr) : Bool := oexB K C && (decide (PySem.W.findIn K (.ref C) "__setattr__" = some (some (.builtin "object.__setattr__"))) && (decide (PySem.W.subIn K (.ref C) (.type "BaseException") = some true) && (decide (PySem.W.typeIn K (.ref C) = some (.type "type")) && PySem.W.keepIn K (.ref C))))
theorem raiB_ok {K : PySem.W.Frag} {C : Addr} (h : raiB K C = true) : OexC K C := by
  simp only [raiB, Bool.and_eq_true, decide_eq_true_eq] at h
  obtain ⟨h0, isSet, isExc, isTy, kp⟩ := h
  refine ⟨?_, isSet, isExc, isTy, kp⟩
  unfold oexB at h0
  split at h0
  · rename_i k od cd sl ho
    split at h0
    · rename_i C' bm s0 s1 s2 s3 n s5 hm hs
      simp only [Bool.and_eq_true, decide_eq_true_eq, Bool.not_eq_true'] at h0
      obtain ⟨rfl, rfl, rfl, nd, hd, ve⟩ := h0
      obtain ⟨f1, f2, f3, f4, f5, f6, f7, f8, f9, f10, f11⟩ := cd
      dsimp only at hm nd hd
      subst hm nd hd
      have e : sl = #[s0, s1, s2, s3, some (.builtin "ValueError.__new__"), s5] := by
        cases sl
        simp only at hs
        rw [hs]
      subst e
      exact ⟨f1, f5, f4, f2, bm, f7, f8, f9, f10, od, s0, s1, s2, s3, s5, ho, ve⟩
    · cases h0
  · cases h0
/-- C's own __init__: self.f = f -/
structure ExcV (P : Program) (w : World) (K : PySem.W.Frag) (mg : Str → Option Value) (base : Heap) (C : Addr) (x f : Str) : Prop where
  oex : OexC K C
  at_ : mg x = some (.ref C)
  ini : ∃ fI fd, PySem.W.findIn K (.ref C) "__init__" = some (some (.ref fI)) ∧ PySem.W.typeIn K (.ref fI) = some (.type "function") ∧ Binds K fd ["self", f] [] ∧
    FnOk P w K mg base (L2N.CX P w) 1 fI fd ["self", f] fun vs H Q _ => ∃ (a : Addr) (y : V), vs = [.ref a, y] ∧ H a = some (exo a C none) ∧ ∀ dx, H dx = none → dx ≠ a → Q .non (upd (upd H dx (exd dx [(f, y)])) a (exo a C (some dx)))
section
variable {w : World} {P : Program} {K : PySem.W.Frag} {base : Heap} {mg : Str → Option Value}
theorem excV_of {C fI : Addr} {x f q : Str} {fd : FuncData} {params : Arguments} {scope : Scope} {p1 p2 p3 p4 : Pos} (oex : OexC K C) (hm : mg x = some (.ref C)) (hI : PySem.W.findIn K (.ref C) "__init__" = some (some (.ref fI))) (hT : PySem.W.typeIn K (.ref fI) = some (.type "function"))
    (hno : PySem.W.findIn K (.ref C) f = some none) (F : FunD K "__init__" q params [.Assign [.Attribute (.Name "self" p1) f p2] (.Name f p3) p4] scope [] [] fI fd) (S : FnScope ["self", f] ["self", f] scope) (hb : Binds K fd ["self", f] [])
    (hd1 : (f == ("__debug__" : Str)) = false) (hd2 : (f == ("__classdict__" : Str)) = false) (hsw : ∀ X : Cx, swapsWith (.Name f p3) (some (.Attribute (.Name "self" p1) f p2)) p4.line X.env = pure false) : ExcV P w K mg base C x f := by
  refine ⟨oex, hm, fI, fd, hI, hT, hb, F.ok (CX := L2N.CX P w) S (fun vs H Q E z => ?_) fun cdv A outer s H vs Q E hr z => ?_⟩
  · obtain ⟨a, y, rfl, _⟩ := z
    rfl
  · obtain ⟨a, y, rfl, ha, q⟩ := z
    have v0 : Vis scope "self" := by
      rcases S.par "self" List.mem_cons_self with e | e
      · exact .inl e
      · exact .inr (.inl e)
    have v1 : Vis scope f := by
      rcases S.par f (List.mem_cons_of_mem _ List.mem_cons_self) with e | e
      · exact .inl e
      · exact .inr (.inl e)
    refine ⟨_, pss_one (ps_ost (pe_var (i := 0) rfl v0 (by decide) (by decide)) (pe_var (i := 1) rfl v1 hd1 hd2) (hsw _)), ?_⟩
    exact ⟨y, rfl, .ref a, rfl, a, C, rfl, oex, hno, .inl ⟨ha, fun dx hn hne => q dx hn hne⟩⟩
end
/-- what is left of the making: the dict -/
theorem made_eq {H : Hp} {a dx C : Addr} {f : Str} {y : V} (ha : H a = none) (hne : dx ≠ a) :
    upd (del (upd (upd (upd H a (exo a C none)) dx (exd dx [(f, y)])) a (exo a C (some dx))) a) dx (.xd [(f, y)]) = upd H dx (.xd [(f, y)]) := by
  funext b
  by_cases h : b = dx
  · subst h
    rw [upd_same, upd_same]
  · rw [upd_ne h, upd_ne h]
    by_cases k : b = a
    · rw [k, del_same, ha]
    · rw [del_ne k, upd_ne k, upd_ne h, upd_ne k]
/-- the end of C(e, ..), its context known -/
theorem mk_endN {X : Cx} {pins : List (Addr × Obj)} {σ : L2.St} {H1 H2 : Hp} {Q : XK} {hp hp2 h2 : Heap} {g1 g2 : Array GenState} {d1 d2 : Drawn} {t1 t2 : Nat} {os1 os2 : OsState} {a C d : Addr} {fs : List (Str × V)} (T : Raises X (.ref C)) (I1 : Inv X pins σ H1 ⟨hp, g1, d1, t1, os1⟩)
    (up : hp.objs.size ≤ a) (more : ∀ b o, hp.get? b = some o → hp2.get? b = some o) (un : Un (frs X.stack) [] (upd H1 a (exo a C none)) H2 hp2 h2) (hok : HOk X.prog X.w H2 h2) (same : os2 = os1) (bare : AllBare g2)
    (isE : H2 a = some (exo a C (some d))) (isD : H2 d = some (exd d fs)) (free : H1 d = none) (told : Q (.ref C) (some d) (upd (del H2 a) d (.xd fs))) : L2N.MkP X pins σ Q (.ref a) ⟨h2, g2, d2, t2, os2⟩ := by
  have z := mk_end0 (d2 := d2) (t2 := t2) I1 up more un hok same bare isE isD free
  obtain ⟨t0, G, J, kG, gone, there, na⟩ := z
  have ctx : PXN.CtxN ({ cls := .ref C, dict := some d, data := .fields #[.ref t0, .none, .none, .none, .bool false, .none] } : Obj) := fun vs hv => by cases hv; rfl
  exact ⟨a, _, _, _, _, _, _, rfl, J, kG, gone, there, ⟨rfl, rfl, ctx⟩, rfl, rfl, na, rfl, bare, T, told⟩
/-- C(e), C over ValueError -/
theorem pmk_ve {X : Cx} {CX : CXT} {x : Str} {C fI : Addr} {k : Nat} {fd : FuncData} {ps : List Str} {sp : Sp} {e : Expr} {ta : TA} {p pos : Pos} (T : OexC X.K C) (hI : PySem.W.findIn X.K (.ref C) "__init__" = some (some (.ref fI)))
    (hF : PySem.W.typeIn X.K (.ref fI) = some (.type "function")) (G : FnOk X.prog X.w X.K X.mg X.base CX k fI fd ps sp) (hr : Room (k + 1) X.A) (hb : Binds X.K fd ps []) (ps0 : Passes CX X (fun _ _ _ => False)) (hg : Gl X x) (hm : X.mg x = some (.ref C)) (ha : PA X [e] ta)
    (hdb : (x == ("__debug__" : Str)) = false := by decide) (h1 : starEach [e] X.env = (false, eval e X.env) :: starEach [] X.env := by rfl) (h2 : (backTo pos (starEach [] X.env)).any (·.1) = false := by rfl) : L2N.PMk X (.Call (.Name x p) [e] [] pos) (tMkO C sp [] ta) := by
  intro pins s σ H Q I want
  refine wpAny_Call_Name_kw (ld_glob I hg hm (PySem.W.callWith_K (h₀ := X.base) I.ok.mod.kin T.kC (thn (ha.run pos pins s σ H _ I want) ?_) h1 h2) hdb)
  rintro us s1 ⟨vs, H1, I1, rel, short, go⟩
  refine ⟨I1.kIn, ?_⟩
  change wpAny _ _ (call (.ref C) us) _ _ _
  obtain ⟨nm, qn, N, bs, bm, sn, sub, ab, col, dd, k0, k1, k2, k3, k5, hC, hbm⟩ := T.cls
  obtain ⟨hp, gs, dr, tk, os⟩ := s1
  have up : hp.objs.size ≤ hp.objs.size + 1 := Nat.le_succ _
  have free : H1 (hp.objs.size + 1) = none := I1.hok.fresh up
  have sp1 := go (hp.objs.size + 1) free
  have more : ∀ b o, hp.get? b = some o → ((hp.push (PySem.W.kdv_tup us)).push (PySem.HandSPX.excO C hp.objs.size)).get? b = some o := fun b o q => Heap.get?_push_of_some _ (Heap.get?_push_of_some _ q)
  have here : ((hp.push (PySem.W.kdv_tup us)).push (PySem.HandSPX.excO C hp.objs.size)).get? (hp.objs.size + 1) = some (PySem.HandSPX.excO C hp.objs.size) := by heap_get
  have I2 : Inv X pins σ (upd H1 (hp.objs.size + 1) (exo (hp.objs.size + 1) C none)) ⟨(hp.push (PySem.W.kdv_tup us)).push (PySem.HandSPX.excO C hp.objs.size), gs, dr, tk, os⟩ := I1.laid (t' := tk) more up (exo_ok here)
  have rel2 : Vals (V.ref (hp.objs.size + 1) :: (vs ++ [])) (Value.ref (hp.objs.size + 1) :: us) := .cons rfl (by rw [List.append_nil]; exact rel)
  have len2 : (Value.ref (hp.objs.size + 1) :: us ++ []).length = ps.length := by
    rw [List.append_nil, ← rel2.length]
    exact G.len _ _ _ _ sp1
  have few : us.length ≤ sizeLine := by
    have := Paired.length rel
    rw [sizeLine_eq]
    omega
  have bnd := hb _ (Value.ref (hp.objs.size + 1) :: us) I2.kIn len2
  rw [List.append_nil] at bnd
  refine wpAny_call (PySem.HandSPX.call_own F.excBase_ValueError (fun Y => PySem.HandSPX.refsVE_contains Y bm hbm) (I1.kIn _ _ hC) (PySem.W.looks_findIn I1.kIn hI) (fun self => PySem.W.bind_fn I1.kIn self hF) few ?_)
  refine codeAny_mono (G.run _ X.stack _ _ ⟨Value.ref (hp.objs.size + 1) :: us, []⟩ (Value.ref (hp.objs.size + 1) :: us) _ _ (fun _ _ _ => False) (hr.make C us []) (I2.env0.make C us []) bnd rel2 sp1) fun r s2 back => ?_
  rcases r with err | fl
  · exact ps0 pins σ _ _ err s2 I2 back
  · cases fl with
    | ret u =>
      obtain ⟨v, H2, os2, bare2, un2, hok2, rv, ev, d, fs, ea, ed, hd1, q2⟩ := back
      subst ev
      obtain ⟨h3, g3, d3, t3, os3⟩ := s2
      exact ⟨rv, mk_endN (raises_own T.exC T.tyC) I1 up more un2 hok2 os2 bare2 ea ed hd1 q2⟩
    | _ => exact False.elim back
/-- raise C(e): c the class, f the field -/
def sRaise (c f : Nat) (ie : IE) : IS := fun ρ => sBind (ie ρ) ρ fun d S => .ok (.xx c [(f, d)] ρ) S
theorem js_raise {T : Tab} {X : Cx} {W : WX} {x : Str} {c f : Nat} {e : Expr} {ie : IE} {p p1 pos : Pos} (V_ : ExcV X.prog X.w X.K X.mg X.base (He.ga X.K (T.cn c)) x (T.fn f)) (hc : X.calm = true) (hr : Room 2 X.A) (tk0 : L2N.Takes X fun _ _ _ _ => False) (tk : L2N.Takes X W) (hg : Gl X x)
    (he : JE T X W e ie) (hdb : (x == ("__debug__" : Str)) = false := by decide) (h1 : starEach [e] X.env = (false, eval e X.env) :: starEach [] X.env := by rfl) : JS T X W (.Raise (some (.Call (.Name x p) [e] [] p1)) none pos) (sRaise c f ie) := by
  obtain ⟨fI, fd, hI, hT, hb, F⟩ := V_.ini
  have m := pmk_ve (p := p) (pos := p1) V_.oex hI hT F hr hb (L2N.passes_call tk0 fun _ _ _ _ z => z) hg V_.at_ (pa_cons he pa_nil h1) hdb h1 rfl
  refine PS.mono (L2N.ps_raise (pos := pos) hc tk m) fun D σ H z => ?_
  obtain ⟨ρ, Fr, S, ι, G, em, sr, h⟩ := z
  refine ⟨ρ, Fr, S, ι, G, em, sr, ?_⟩
  refine ThnS.bind (rel := DR T X.K) h sr fun d S1 y ι1 G1 H1 em1 x1 r q => ?_
  refine ⟨by simp, fun a ha => ⟨a, y, rfl, upd_same, fun dx hdx hne => ⟨rfl, dx, [(T.fn f, y)], upd_same, by rw [upd_ne hne, upd_same], ?_, ?_⟩⟩⟩
  · rw [upd_ne hne] at hdx
    exact hdx
  · rw [upd_ne hne] at hdx
    rw [made_eq ha hne]
    obtain ⟨em2, x2⟩ := em1.frz (o := .xd [(T.fn f, y)]) hdx
    refine q (some dx) σ ι1 (upd G1 dx (.xd [(T.fn f, y)])) _ em2 x2 (sr.mono (x1.trans x2)) (.inr ⟨dx, _, rfl, upd_same, y, [], rfl, r.mono x2.1 x2.2, rfl⟩)
end J
set_option Elab.async false
set_option linter.all false
set_option maxRecDepth 100000
set_option maxHeartbeats 1010000
/-! JT: several clauses 'except C as e' -/
namespace J
open PySem PySem.Spec L2 PyProof.Rows
/-- the ends of a clause's suite: its name goes -/
def goneE (i : Nat) (D : Ends) : Ends := { nx := fun σ H => D.nx (σ.set i none) H, rt := D.rt, bk := fun σ H => D.bk (σ.set i none) H, ct := fun σ H => D.ct (σ.set i none) H }
section
variable {X : Cx} {n : Str} {i : Nat} {pins : List (Addr × Obj)} {D : Ends}
/-- an exception that has landed here -/
structure Landed (X : Cx) (pins : List (Addr × Obj)) (σ : L2.St) (H : Hp) (a : Addr) (cls : Value) (d : Option Addr) (B : Heap) (s : Shared) : Prop where
  fly : HandSPX.FlyingZ B (X.env :: X.outer) a (L2N.Zn cls d) s.heap
  inv : Inv X pins σ H s
  free : H a = none
  next : ∀ h, HandSPX.FlyingZ B (X.env :: X.outer) a (L2N.Zn cls d) h → s.heap.UpToSlots h → Inv X pins σ H { s with heap := h }
  loc : a ≠ X.env.locals
  far : a ∉ X.fs
theorem Landed.pin {σ : L2.St} {H : Hp} {a : Addr} {cls : Value} {d : Option Addr} {B : Heap} {s : Shared} (L : Landed X pins σ H a cls d B s) :
    ∃ oe vs, s.heap.get? a = some oe ∧ L2N.Zn cls d oe ∧ oe.data = .fields vs ∧ Inv (X.suite a ((a, oe) :: (X.pn ++ pins))) [] σ H s := by
  obtain ⟨oe, vs, g, z, dt⟩ := L.fly.there
  exact ⟨oe, vs, g, z, dt, L.inv.suite g dt L.free L.loc L.far⟩
/-- a clause is asked -/
theorem clause_ask {σ : L2.St} {H : Hp} {a : Addr} {cls c : Value} {d : Option Addr} {B : Heap} {s : Shared} {x : Str} {np : Pos} {b : Bool} {Q : Value → Shared → Prop} {E : Value → Shared → Prop} (L : Landed X pins σ H a cls d B s) (nm : Names X x c) (q : Q c s) :
    wpAny (model X.prog X.w) (X.A.mark (some (.ref a))) (eval (.Name x np) X.env) Q E s := by
  obtain ⟨oe, vs, g, z, dt, I⟩ := L.pin
  obtain ⟨hg, hdb, here | ⟨no, boot, hn⟩⟩ := nm
  · exact ld_glob I hg here q hdb
  · exact ld_blt I hg no boot q hn hdb
end
end J
set_option Elab.async false
set_option linter.all false
set_option maxRecDepth 100000
set_option maxHeartbeats 1010000
/-! JU: what the law's clauses say of a caught error -/
namespace J
open PySem PySem.Spec L2 PyProof.Rows
/-- a clause of the law: except x as e: return [nm, e.f, isinstance(e, b1) and isinstance(e, b2)] -/
structure Cl where
  x : Str
  f : Str
  nm : Str
  b1 : Str
  b2 : Str
structure ClPos where
  p0 : Pos
  p1 : Pos
  p2 : Pos
  p3 : Pos
  p4 : Pos
  p5 : Pos
  p6 : Pos
  p7 : Pos
  p8 : Pos
  p9 : Pos
  p10 : Pos
  p11 : Pos
  p12 : Pos
  p13 : Pos
  p14 : Pos
  p15 : Pos
  j : Nat
def Cl.hd (q : Cl) (p : ClPos) : ExceptHandler := .ExceptHandler (some (.Name q.x p.p0)) (some "e") [.Return (some (.List [.Constant (.str q.nm) p.j p.p1, .Attribute (.Name "e" p.p2) q.f p.p3,
  .BoolOp .And [.Call (.Name "isinstance" p.p4) [.Name "e" p.p5, .Name q.b1 p.p6] [] p.p7, .Call (.Name "isinstance" p.p8) [.Name "e" p.p9, .Name q.b2 p.p10] [] p.p11] p.p12] p.p13)) p.p14] p.p15
end J
set_option Elab.async false
set_option linter.all false
set_option maxRecDepth 100000
set_option maxHeartbeats 1010000
/-! JV: the law's def that calls what it gets and tells what came -/
namespace J
open PySem PySem.Spec L2 PyProof.Rows LamX
/-- what a def makes of a function without arguments that it calls (the kit's GivesTo over L2N) -/
def GivesN (X : Cx) (N : List Str) (x : Str) (sc : Scope) (g : Addr) (cd : Value) (bd : List Stmt) (a q : Str) (TQ : (XK → Hp → VK → Prop) → Hp → VK → Prop) : Prop := ∀ (f cv : Addr) (s : Shared) (H : Hp) (Q : VK) (tl : XK → Hp → VK → Prop), (∀ (W : WX) (pn : List (Addr × Obj)) (xe : Value → Shared → Prop) (E : XK) (p1 p2 : Pos),
      L2N.Takes ((cxOf C8.CX0 X.prog X.w X.K X.mg X.base N x sc g cd X.A X.stack s H C8.E0).tr pn xe) W → (∀ cls d σ' H', E cls d H' → W cls d σ' H') →
        PE ((cxOf C8.CX0 X.prog X.w X.K X.mg X.base N x sc g cd X.A X.stack s H C8.E0).tr pn xe) (.Call (.Name a p1) [] [] p2) (fun σ1 H1 Q => σ1[0]? = some (some (.ref f)) ∧ H1 cv = some (LamX.CodeO cv q) ∧ tl E H1 Q)) →
    H cv = some (LamX.CodeO cv q) → TQ tl H Q → ∃ t, PSs (cxOf C8.CX0 X.prog X.w X.K X.mg X.base N x sc g cd X.A X.stack s H C8.E0).nox bd t ∧ t { nx := fun _ H' => Q .non H', rt := Q } (L2.start N [.ref f]) H
end J
set_option Elab.async false
set_option linter.all false
set_option maxRecDepth 100000
set_option maxHeartbeats 1010000
/-! JW: a lambda handed to such a def -/
namespace J
open PySem PySem.Spec L2 PyProof.Rows LamX
/-- the context of a lambda's body, over L2N -/
abbrev lamN (X : Cx) (A : Around) (outer : List Env) (s : Shared) (H : Hp) (E : XK) (scope : Scope) (f c' : Addr) : Cx :=
  (LamX.lamCx X A outer s H E scope f c').wish fun e s' => wpAny (model X.prog X.w) (A.deeper (LamX.lamEnv X scope s.heap.objs.size f c')) (leaving (LamX.lamEnv X scope s.heap.objs.size f c') e) (fun _ t => L2N.CX X.prog X.w outer H s E e t) (fun e' t => L2N.CX X.prog X.w outer H s E e' t) s'
section
variable {X : Cx} {s : Shared} {H : Hp} {σ : L2.St} {pins : List (Addr × Obj)}
/-- the lambda is called in the def that got it -/
theorem act_ok {Ng : List Str} {qg : Str} {sg : Scope} {g f c' : Addr} {cdg pm ctv : Value} {params : Arguments} {body : Expr} {scope : Scope} {k i : Nat} {a : Str} {pn : List (Addr × Obj)} {xe : Value → Shared → Prop} {W : WX} {E : XK} {tb : TE} {p1 p2 : Pos} (I : Inv X pins σ H s) (L : LamS X.env.scope scope)
    (made : s.heap.get? f = some (PySem.W.kla_obj "<lambda>" (X.env.qual ++ "<lambda>") params body scope (cloFrom X.env.cells scope.names []) pm c' ctv)) (new : H f = none) (out : f ∉ frs X.stack)
    (none_ : bindArgs (PySem.W.kla_fn "<lambda>" (X.env.qual ++ "<lambda>") params body scope (cloFrom X.env.cells scope.names []) pm (.ref c') ctv) ⟨[], []⟩ = pure [])
    (tk : L2N.Takes ((cxOf C8.CX0 X.prog X.w X.K X.mg X.base Ng qg sg g cdg X.A X.stack s H C8.E0).tr pn xe) W) (le : ∀ cls d σ' H', E cls d H' → W cls d σ' H') (hr : Room (k + 1) (X.A.deeper (envOfC qg sg s.heap.objs.size g cdg)))
    (inner : ∀ (A : Around) (outer : List Env) (s : Shared) (H : Hp), Room k (A.deeper (lamEnv X scope s.heap.objs.size f c')) → A.guards = X.A.guards → PE (lamN X A outer s H E scope f c') body tb)
    (hN : Ng[i]? = some a) (hv : Vis sg a) (d1 : (a == ("__debug__" : Str)) = false) (d2 : (a == ("__classdict__" : Str)) = false) :
    PE ((cxOf C8.CX0 X.prog X.w X.K X.mg X.base Ng qg sg g cdg X.A X.stack s H C8.E0).tr pn xe) (.Call (.Name a p1) [] [] p2)
      (fun sl Hn Q => sl[i]? = some (some (.ref f)) ∧ Hn c' = some (CodeO c' (X.env.qual ++ "<lambda>")) ∧ tb σ Hn Q) := by
  constructor
  rintro pinsZ sZ σZ HZ Q IZ ⟨slot, code, rd⟩
  have nm := (pe_var (X := (cxOf C8.CX0 X.prog X.w X.K X.mg X.base Ng qg sg g cdg X.A X.stack s H C8.E0).tr pn xe) (pos := p1) hN hv d1 d2).run pinsZ sZ σZ HZ (fun v H1 => v = .ref f ∧ H1 = HZ) IZ ⟨.ref f, slot, rfl, rfl⟩
  refine wpAny_Call_Name_kw (thn nm ?_)
  rintro u s1 ⟨v, H1, I1, ru, rfl, rfl⟩
  obtain rfl : u = Value.ref f := ru
  have still := I1.base.keep f _ made new out (fun z => nomatch (show f ∈ ([] : List Addr) from z))
  refine PySem.W.callWith_F0 ⟨_, _, _, _, still⟩ ?_
  obtain ⟨⟨oc, vs, t, c1, c2, c3⟩, _, _⟩ := I1.hok c' _ code
  have ran : codeAny (model X.prog X.w) (X.A.deeper (envOfC qg sg s.heap.objs.size g cdg)) (.call (.ref f) ⟨[], []⟩) (CR (L2N.CX X.prog X.w) (envOfC qg sg s.heap.objs.size g cdg :: X.stack) X.prog X.w H1 s1 Q E) s1 := by
    refine PySem.W.kla_callFunE hr.depth still rfl L.co L.gen rfl ⟨c', oc, vs, t, rfl, c1, c2, c3⟩ ?_
    rw [none_]
    refine wpAny_pure (wpAny_newFunctionEnv (fun y hy => (L.own y hy).2) (fun y hy => absurd hy (by simp)) (fun h1 ns sb => ⟨I1.nolimit.fresh _ sb, ?_⟩) L.kind)
    have keep : ∀ b o, s1.heap.get? b = some o → h1.get? b = some o := fun b o q => sb.extBut b o (Nat.ne_of_lt (Heap.lt_size q)) (Heap.get?_push_of_some _ q)
    have J := (lam_start2 (E := E) (f := f) (c' := c') (tk := s1.toks + ([] : List (Str × Value)).length) I L I1.env0 hr.hd I1.base ns keep).wish (lamN X (X.A.deeper (envOfC qg sg s.heap.objs.size g cdg)) (envOfC qg sg s.heap.objs.size g cdg :: X.stack) s1 H1 E scope f c').xe
    refine PySem.W.kla_codeExpr (wpAny_mono ((inner _ _ s1 H1 (hr.deeper _) rfl).run [] _ _ H1 Q J rd) ?_ fun e s' z => z)
    rintro v s' ⟨v', H', J', rv, q⟩
    exact ⟨v', H', J'.os, J'.bare, J'.base, J'.hok, rv, q⟩
  refine wpAny_call (codeAny_mono ran fun r s' out => ?_)
  match r, out with
  | .error e, z => exact L2N.passes_call tk le pinsZ σZ H1 s1 e s' I1 z
  | .ok (.ret u), z => exact I1.after z
end
section
variable {X : Cx}
/-- x(lambda: body) -/
theorem lam_ok {T : List (Addr × Str)} {TT : (XK → Hp → VK → Prop) → Hp → VK → Prop} {x a : Str} {g c P : Addr} {k : Nat} {pg : Arguments} {bg : List Stmt} {sg : Scope} {fd : FuncData} {Ng : List Str} {params : Arguments} {body : Expr} {scope : Scope} {t : XK → TE} {p lpos pos : Pos}
    (hg : Gl X x) (hm : X.mg x = some (.ref g)) (kp : PySem.W.keepIn X.K (.ref g) = true) (F : FunD X.K x x pg bg sg [] [] g fd) (hb : L2.Binds X.K fd [a] []) (Sg : FnScope Ng [a] sg) (hN : Ng[0]? = some a) (hv : Vis sg a)
    (gives : ∀ cdv, GivesN X Ng x sg g cdv bg a (X.env.qual ++ "<lambda>") TT) (TB : TabB X.base X.mg c P) (cd : X.env.code = .ref c) (inT : (P, X.env.qual ++ "<lambda>") ∈ T) (uniq : ∀ p ∈ T, p.1 = P → p.2 = X.env.qual ++ "<lambda>") (hr : Room (k + 2) X.A) (L : LamS X.env.scope scope)
    (nodef : defaultsOf params X.env = ([], [])) (nobind : ∀ (q : Str) (cl : List (Str × Addr)) (pm cv ctv : Value), bindArgs (PySem.W.kla_fn "<lambda>" q params body scope cl pm cv ctv) ⟨[], []⟩ = pure [])
    (inner : ∀ (A : Around) (outer : List Env) (s : Shared) (H : Hp) (E : XK) (f c' : Addr), Room k (A.deeper (lamEnv X scope s.heap.objs.size f c')) → A.guards = X.A.guards → PE (lamN X A outer s H E scope f c') body (t E))
    (d0 : (x == ("__debug__" : Str)) = false) (d1 : (a == ("__debug__" : Str)) = false) (d2 : (a == ("__classdict__" : Str)) = false) : PE X (.Call (.Name x p) [.Lambda params body scope lpos] [] pos) (tLam T TT t) := by
  rcases F.ex with ⟨_, _, _, _, _, _, _, cdv, _, _, rfl, lk, hcd, _, _⟩
  constructor
  rintro pins s σ H Q I ⟨hT, h⟩
  refine wpAny_Call_Name_kw (ld_glob I hg hm ?_ d0)
  refine PySem.W.callWith_K (h₀ := X.base) I.ok.mod.kin kp ?_ rfl rfl
  refine Calls.spliced_cons (lam_make2 I TB cd inT uniq hT nodef (L.has I.ok) ?_)
  intro f c' pm' ctv H1 s1 I1 more T1 made new out code
  refine Calls.spliced_nil (And.intro I1.kIn ?_)
  have ran : codeAny (model X.prog X.w) X.A (.call (.ref g) ⟨[.ref f], []⟩) (CR C8.CX0 X.stack X.prog X.w H1 s1 Q C8.E0) s1 := by
    refine run_ofS (N := Ng) (ps := [a]) (us := [.ref f]) (vs := [.ref f]) lk hcd Sg hr I1.env0 (hb s1 [.ref f] I1.kIn rfl) (.cons rfl .nil) rfl fun room => ?_
    obtain ⟨t', w1, w2⟩ := gives cdv f c' s1 H1 Q (fun E H' Q' => t E σ H' Q') (fun W pn xe E q1 q2 tk le => act_ok (i := 0) I1 L made new out (nobind _ _ _ _ _) tk le room (fun A outer s H r2 gu => inner A outer s H E f c' r2 gu) hN hv d1 d2) code (h H1 more T1)
    exact ⟨t', w1.nox, w2⟩
  refine wpAny_call (codeAny_mono ran fun r s2 z => ?_)
  match r, z with
  | .error e, z => exact (show False from z).elim
  | .ok (.ret u), z => exact I1.after z
end
end J
set_option Elab.async false
set_option linter.all false
set_option maxRecDepth 100000
set_option maxHeartbeats 1010000
/-! JX: the law's got(lambda: e), as one expression -/
namespace J
open PySem PySem.Spec L2 PyProof.Rows LamX
/-- a clause: the class, the field, the text, the two bases -/
structure GC where
  c : Nat
  f : Nat
  nm : List Nat
  b1 : Str
  b2 : Str
def GC.cl (T : Tab) (q : GC) : Cl := { x := T.cn q.c, f := T.fn q.f, nm := ⟨q.nm.toArray⟩, b1 := q.b1, b2 := q.b2 }
end J
set_option Elab.async false
set_option linter.all false
set_option maxRecDepth 100000
set_option maxHeartbeats 1010000
/-! JY: a def that makes lambdas: its code object is known -/
namespace J
open PySem PySem.Spec L2 PyProof.Rows LamX
/-- the code object of the function at f -/
def codeAt (K : PySem.W.Frag) (f : Addr) : Addr := match K.lookup f with
  | some ⟨_, _, .func data, _⟩ => (match data.code with
    | .ref c => c
    | _ => 0)
  | _ => 0
theorem codeAt_eq {K : PySem.W.Frag} {f : Addr} {oc : Value} {od : Option Addr} {sl : Array (Option Value)} {fd : FuncData} {q : Str} (lk : K.lookup f = some ⟨oc, od, .func fd, sl⟩) (h : PySem.W.codeIn K fd.code q = true) : fd.code = .ref (codeAt K f) := by
  obtain ⟨c, e⟩ := He.codeIn_ref h
  unfold codeAt
  rw [lk]
  show fd.code = .ref (match fd.code with | .ref c => c | _ => 0)
  rw [e]
section
variable {w : World} {P : Program} {K : PySem.W.Frag} {base : Heap} {mg : Str → Option Value} {T : Tab} {x qual : Str} {params : Arguments} {body : List Stmt} {scope : Scope} {dvs : List V} {kws : List (Str × V)} {f : Addr} {fd : FuncData}
theorem fng_ofc {N ps : List Str} {k : Nat} {sp : Sp} (F : FunD K x qual params body scope dvs kws f fd) (S : FnScope N ps scope) (len : ∀ vs H Q E, sp vs H Q E → vs.length = ps.length)
    (hb : ∀ (A : Around) (fr : List Env) (s : Shared) (H : Hp) (vs : List V) (Q : VK) (E : XK), Room k (A.deeper (envOfC qual scope s.heap.objs.size f (.ref (codeAt K f)))) → A.guards = some [] → sp vs H Q E →
      ∃ t, PSs (cxOf (L2N.CX P w) P w K mg base N qual scope f (.ref (codeAt K f)) A fr s H E) body t ∧ t { nx := fun _ H' => Q .non H', rt := Q } (L2.start N vs) H) : FnG P w K mg base (k + 1) f fd ps sp := by
  rcases F.ex with ⟨_, _, _, _, _, _, _, cdv, _, _, rfl, lk, hcd, _, _⟩
  have isC : cdv = .ref (codeAt K f) := codeAt_eq lk hcd
  subst isC
  constructor
  · exact len
  intro A fr s H ar us vs Q E room gd en bd rel want
  have old : ∀ b o, base.get? b = some o → s.heap.get? b = some o := fun b o q => (en.bs b o q).1
  have KI := en.mod.kin.keeps old
  have NL := en.mod.nolimit.keeps old
  have kinds : ∀ y ∈ ps.zip us, scope.names.lookup y.1 = some .local ∨
      (scope.names.lookup y.1 = some .cell ∧ ((cellsFrom (s.heap.objs.size + 1) scope.names []).lookup y.1).isSome = true) := by
    rintro ⟨n, v⟩ hm
    rcases S.par n (List.of_mem_zip hm).1 with q | q
    · left; exact q
    · right; exact ⟨q, PySem.W.cellsFrom_some _ _ _ (.inl q)⟩
  refine codeAny_call_function room.depth (KI _ _ lk) rfl S.co S.gen rfl (PySem.W.codeRec_of KI hcd) (bd _ _ _ _ ?_)
  refine wpAny_newFunctionEnv_cells S.kind kinds ?_
  intro env henv s1 ic
  subst henv
  refine ⟨NL.keeps ic.toInCall.keep, codeAny_func ?_⟩
  obtain ⟨t, ht, hq⟩ := hb A fr s H vs Q E (room.deeper _) gd want
  have I := inv_start (CX := L2N.CX P w) (E := E) S room.hd en (len _ _ _ _ want) rel ic
  refine wpAny_mono (ht.run [] s1 _ H _ I hq) ?_ (fun e s' z => z)
  intro fl s' z
  cases fl with
  | ret u => exact let ⟨v, σ', H', J, rv, q⟩ := z; ⟨v, H', J.os, J.bare, J.base, J.hok, rv, q⟩
  | next => exact let ⟨σ', H', J, q⟩ := z; ⟨V.non, H', J.os, J.bare, J.base, J.hok, rfl, q⟩
  | brk => exact let ⟨_, _, _, q⟩ := z; q.elim
  | cont => exact let ⟨_, _, _, q⟩ := z; q.elim
theorem fn_jc {N ps : List Str} {k : Nat} {is : IS} (keep : Bool) (F : FunD K x qual params body scope dvs kws f fd) (S : FnScope N ps scope)
    (hb : ∀ (A : Around) (fr : List Env) (s : Shared) (H : Hp) (E : XK), Room k (A.deeper (envOfC qual scope s.heap.objs.size f (.ref (codeAt K f)))) → A.guards = some [] →
      JSs T (cxOf (L2N.CX P w) P w K mg base N qual scope f (.ref (codeAt K f)) A fr s H E) (fun c d _ H => E c d H) body is) : FnG P w K mg base (k + 1) f fd ps (spJ T K ps.length (defJ N.length keep is)) := by
  refine fng_ofc F S (fun vs H Q E h => h.1) (fun A fr s H vs Q E hr gd h => ⟨_, hb A fr s H E hr gd, ?_⟩)
  obtain ⟨_, ds, Fr, S0, ι, G, em, dr, h⟩ := h
  refine ⟨startR N.length ds, Fr, S0, ι, G, em, SR.start dr, ?_⟩
  unfold defJ at h
  cases q : is (startR N.length ds) S0 with
  | no => rw [q] at h; exact h.elim
  | ex c fs S1 => rw [q] at h; exact h.elim
  | ok fl S1 =>
    rw [q] at h
    cases fl with
    | nx ρ => exact fun σ' ι' G' H' em' x' sr' => h .non ι' G' H' (fin_em em') x' (by simp only [DR])
    | rt d => exact fun v ι' G' H' em' x' r' => h v ι' G' H' (fin_em em') x' r'
    | xx c fs ρ => exact fun dd σ' ι' G' H' em' x' sr' xr => h dd ι' G' H' (fin_em em') x' xr
    | bk ρ => exact h.elim
    | ct ρ => exact h.elim
end
/-- the lambda's body -/
theorem lam_in {T : Tab} {X : Cx} {A : Around} {outer : List Env} {s : Shared} {H : Hp} {E : XK} {scope : Scope} {f c' : Addr} {k : Nat} {body : Expr} {ie : IE} (g : X.A.guards = some []) (room : Room k (A.deeper (lamEnv X scope s.heap.objs.size f c'))) (gu : A.guards = X.A.guards)
    (go : Rg k (lamN X A outer s H E scope f c').A → L2N.Takes (lamN X A outer s H E scope f c') (fun cls d _ H => E cls d H) → JE T (lamN X A outer s H E scope f c') (fun cls d _ H => E cls d H) body ie) :
    PE (lamN X A outer s H E scope f c') body (tE T X.K (fun cls d _ H => E cls d H) ie) := go ⟨room, gu.trans g⟩ (L2N.takes_of rfl rfl rfl rfl)
/-! ### facts of the clauses -/
/-! ### facts of a class that is raised -/
def exIB (K : PySem.W.Frag) (x f : Str) : Bool := raiB K (He.ga K x) && (decide (PySem.W.findIn K (.ref (He.ga K x)) "__init__" = some (some (.ref (He.ma K (He.ga K x) "__init__")))) && (decide (PySem.W.typeIn K (.ref (He.ma K (He.ga K x) "__init__")) = some (.type "function")) && decide (PySem.W.findIn K (.ref (He.ga K x)) f = some none)))
structure ExI (K : PySem.W.Frag) (x f : Str) : Prop where
  oex : OexC K (He.ga K x)
  ini : PySem.W.findIn K (.ref (He.ga K x)) "__init__" = some (some (.ref (He.ma K (He.ga K x) "__init__")))
  ty : PySem.W.typeIn K (.ref (He.ma K (He.ga K x) "__init__")) = some (.type "function")
  no : PySem.W.findIn K (.ref (He.ga K x)) f = some none
theorem exIB_ok {K : PySem.W.Frag} {x f : Str} (h : exIB K x f = true) : ExI K x f := by
  simp only [exIB, Bool.and_eq_true, decide_eq_true_eq] at h
  exact ⟨raiB_ok h.1, h.2.1, h.2.2.1, h.2.2.2⟩
end J
set_option Elab.async false
set_option linter.all false
set_option maxRecDepth 100000
set_option maxHeartbeats 1010000
/-! JZ: {} -/
namespace J
open PySem PySem.Spec L2
def iDct0 : IE := fun _ => M.ret (.dct [] [])
theorem je_dct0 {T : Tab} {X : Cx} {W : WX} {pos : Pos} : JE T X W (.Dict [] [] pos) iDct0 := by
  refine PE.mono pe_dnewK fun σ H Q ⟨ρ, F, S, ι, G, em, sr, h⟩ => fun p hp => ?_
  obtain ⟨em2, x2⟩ := em.frz (o := .dK []) hp
  refine h (.ref p) ι _ _ em2 x2 ?_
  simp only [DR]
  exact ⟨p, [], rfl, rfl, .inl ⟨trivial, upd_same⟩, DRs.nil⟩
/-- -n -/
def iNegC (n : Int) : IE := iC (.int (-n))
theorem je_neg {T : Tab} {X : Cx} {W : WX} {n : Int} {k : Nat} {p pos : Pos} : JE T X W (.UnaryOp .USub (.Constant (.int n) k p) pos) (iNegC n) := by
  refine PE.mono (pe_un un_neg pe_int) fun σ H Q ⟨ρ, F, S, ι, G, em, sr, h⟩ => ?_
  exact ⟨n, rfl, Thn.ok h em (by simp only [DR])⟩
end J
set_option Elab.async false
set_option linter.all false
set_option maxRecDepth 100000
set_option maxHeartbeats 1010000
/-! JZa: a list that is a sum and changes; extend; upper -/
namespace J
open PySem PySem.Spec L2
end J
set_option Elab.async false
set_option linter.all false
set_option maxRecDepth 100000
set_option maxHeartbeats 1010000
/-! JZb: try: body / except ..: .., where the body raises nothing -/
namespace J
open PySem PySem.Spec L2
end J
set_option Elab.async false
set_option linter.all false
set_option maxRecDepth 100000
set_option maxHeartbeats 1010000
/-! JZe: texts by order; how often a text is in a list -/
namespace J
open PySem PySem.Spec L2
end J
set_option Elab.async false
set_option linter.all false
set_option maxRecDepth 100000
set_option maxHeartbeats 1010000
/-! JZf: the keys and the pairs of a dict that never changes -/
namespace J
open PySem PySem.Spec L2
end J
set_option Elab.async false
set_option linter.all false
set_option maxRecDepth 100000
set_option maxHeartbeats 1010000
/-! JZg: a repeated list that changes; own methods without arguments; [e for k, x in enumerate(xs)] of a list of the store -/
namespace J
open PySem PySem.Spec L2
/-! ### what leaves the store alone -/
end J
set_option Elab.async false
set_option linter.all false
set_option maxRecDepth 100000
set_option maxHeartbeats 1010000
/-! JZh: is True, is False -/
namespace J
open PySem PySem.Spec L2
end J
set_option Elab.async false
set_option linter.all false
set_option maxRecDepth 100000
set_option maxHeartbeats 1010000
/-! JZi: xs[::-1] -/
namespace J
open PySem PySem.Spec L2
end J
set_option Elab.async false
set_option linter.all false
set_option maxRecDepth 100000
set_option maxHeartbeats 1010000
/-! JZj: dicts whose keys are tuples: d.items() of one that never changes; get, put, {} of one that does -/
namespace J
open PySem PySem.Spec L2
end J
set_option Elab.async false
set_option linter.all false
set_option maxRecDepth 100000
set_option maxHeartbeats 1010000
/-! JZk: dicts whose keys are tuples, over the store -/
namespace J
open PySem PySem.Spec L2
def getT (k : List Ky) : List (List Ky × D) → Option D
  | [] => none
  | (j, x) :: r => if j = k then some x else getT k r
theorem kys_inj : ∀ {a b : List Ky}, a.map kyK = b.map kyK → a = b
  | [], [], _ => rfl
  | [], _ :: _, h => by cases h
  | _ :: _, [], h => by cases h
  | x :: a, y :: b, h => by
    have h1 := (List.cons.inj h).1
    rw [J.kyK_inj h1, kys_inj (List.cons.inj h).2]
section
variable {T : Tab} {K : PySem.W.Frag} {G : Hp} {ι : List Addr}
theorem TRs.length : ∀ {kvs : List (List Ky × D)} {vs : List (List Key × V)}, TRs T K G ι kvs vs → kvs.length = vs.length
  | [], _, h => by
    have h' : _ = [] := h
    subst h'
    rfl
  | (k, x) :: r, _, ⟨v, us, e, _, h⟩ => by
    subst e
    simp [h.length]
theorem TRs.any {k : List Ky} : ∀ {kvs : List (List Ky × D)} {vs : List (List Key × V)}, TRs T K G ι kvs vs → (kvs.any fun q => decide (q.1 = k)) = vs.any fun q => decide (q.1 = k.map kyK)
  | [], _, z => by cases z; rfl
  | (j, x) :: r, _, ⟨v, w, rfl, dr, rr⟩ => by
    rw [List.any_cons, List.any_cons, TRs.any rr]
    by_cases h : j = k
    · simp only [h, decide_true, Bool.true_or]
    · have ne : ¬ j.map kyK = k.map kyK := fun z => h (kys_inj z)
      simp only [h, ne, decide_false, Bool.false_or]
end
end J
set_option Elab.async false
set_option linter.all false
set_option maxRecDepth 100000
set_option maxHeartbeats 1010000
/-! JZl: the pairs of a dict whose keys are tuples; a display with one such pair -/
namespace J
open PySem PySem.Spec L2
/-! ### {k: v} with a tuple as its one key -/
end J
set_option Elab.async false
set_option linter.all false
set_option maxRecDepth 100000
set_option maxHeartbeats 1010000
/-! JZm: list(text), list(xs) as lists that change; l.pop(i), l.remove(text); tuple(range(n)), list(range(n)) -/
namespace J
open PySem PySem.Spec L2
end J
set_option Elab.async false
set_option linter.all false
set_option maxRecDepth 100000
set_option maxHeartbeats 1010000
/-! JZn: zip of a text and a list, of a text and a tuple -/
namespace J
open PySem PySem.Spec L2 PyProof.Rows
end J
set_option Elab.async false
set_option linter.all false
set_option maxRecDepth 100000
set_option maxHeartbeats 1010000
/-! JZo: list(range(a, b)) -/
namespace J
open PySem PySem.Spec L2 PyProof.Rows
end J
set_option Elab.async false
set_option linter.all false
set_option maxRecDepth 100000
set_option maxHeartbeats 1010000
/-! JZp: {}, d.get(k, x), list(d) of a dict with texts or numbers as keys; zip of a tuple and a list -/
namespace J
open PySem PySem.Spec L2 PyProof.Rows
/-! ### zip of a tuple and a list -/
end J
set_option Elab.async false
set_option linter.all false
set_option maxRecDepth 100000
set_option maxHeartbeats 1010000
/-! JZq: list comprehensions of two clauses -/
namespace J
open PySem PySem.Spec L2
end J
set_option Elab.async false
set_option linter.all false
set_option maxRecDepth 100000
set_option maxHeartbeats 1010000
namespace J
open PySem PySem.Spec L2 PyProof.Rows
/-! ### sorted(xs) of texts, at any length up to a line -/
end J
set_option Elab.async false
set_option linter.all false
set_option maxRecDepth 100000
set_option maxHeartbeats 3210000
/-! JZs: len(set(texts)) -/
namespace J
open PySem PySem.Spec L2 PyProof.Rows
/-- how many different texts stand among the first -/
def difN (xs : List Str) : Nat → Nat
  | 0 => 0
  | i + 1 => if (xs.take i).any (· == xs.getD i Str.empty) then difN xs i else difN xs i + 1
end J
namespace J
open PySem PySem.Spec L2 PyProof.Rows PySem.Calls
/-- the number of different texts -/
def difL (ss : List (List Nat)) : Nat := difN (ss.map fun l => (⟨l.toArray⟩ : Str)) ss.length
def lenS (d : D) (S : Store) : Option D := match seqL d S with
  | some l => (match strsOf l with
    | some ss => if ss.length < 4000 then some (.int (difL ss : Nat)) else none
    | none => none)
  | none => none
end J
set_option Elab.async false
set_option linter.all false
set_option maxRecDepth 100000
set_option maxHeartbeats 1010000
/-! JZc: raise of an own exception that keeps one value, over any built-in base -/
namespace J
open PySem PySem.Spec L2 PyProof.Rows
end J
set_option Elab.async false
set_option linter.all false
set_option maxRecDepth 100000
set_option maxHeartbeats 1010000
/-! JZd: raise of an own exception over any built-in base, as a statement -/
namespace J
open PySem PySem.Spec L2 PyProof.Rows
end J
set_option Elab.async false
set_option linter.all false
set_option maxRecDepth 100000
set_option maxHeartbeats 1010000
/-! JZt: a caught error as a value; one clause that names three classes -/
namespace J
open PySem PySem.Spec L2 PyProof.Rows
section
variable {X : Cx} {pins : List (Addr × Obj)} {σ : L2.St} {H : Hp} {s : Shared} {a C : Addr} {d : Option Addr}
theorem exL_ok {P : Program} {w : World} {h : Heap} {oe : Obj} {vs : Array Value} (g : h.get? a = some oe) (z : L2N.Zn (.ref C) d oe) (dt : oe.data = .fields vs) : ObjOk P w H h a (exL a C d) :=
  ⟨⟨oe, vs, g, z, dt⟩, ⟨_, g⟩, fun h1 h2 q k => by
    obtain ⟨o, us, g1, z1, d1⟩ := q
    exact ⟨o, us, k _ g1, z1, d1⟩⟩
theorem exL_at {P : Program} {w : World} {h : Heap} (hok : HOk P w H h) (e : H a = some (exL a C d)) : ∃ (o : Obj) (vs : Array Value), h.get? a = some o ∧ L2N.Zn (.ref C) d o ∧ o.data = .fields vs := by
  have x : ObjOk P w H h a (.ext fun h => ∃ (o : Obj) (vs : Array Value), h.get? a = some o ∧ L2N.Zn (.ref C) d o ∧ o.data = .fields vs) := hok a _ e
  exact x.1
/-- a landed error is taken among what is known -/
theorem inv_hold (I : Inv X pins σ H s) {oe : Obj} {vs : Array Value} (ga : s.heap.get? a = some oe) (hz : L2N.Zn (.ref C) d oe) (dt : oe.data = .fields vs) (na : H a = none) (n0 : X.s_0.heap.get? a = none) (nL : a ≠ X.env.locals) (np : ∀ p ∈ X.pn ++ pins, p.1 ≠ a) : Inv X pins σ (upd H a (exL a C d)) s := by
  have ne : ∀ {b : Addr} {o : HO}, H b = some o → b ≠ a := fun e => ne_of_none e na
  have old : ∀ b o, X.s_0.heap.get? b = some o → b ≠ a := fun b o e z => by
    rw [z, n0] at e
    cases e
  refine ⟨I.ok, I.os, I.bare, ⟨I.base.keep, I.base.slot, fun b o e n x => ?_, I.base.there, fun b xs e => ?_, fun b o u e => ?_, fun b ps e => ?_⟩, I.loc, I.cell, ?_, fun y c e => ?_, fun p hp => ?_, fun b o e => ?_, I.len⟩
  · rw [upd_ne (old b o e)]
    exact I.base.free b o e n x
  · have q1 := I.base.tups b xs e
    rw [upd_ne (ne q1)]
    exact q1
  · have q2 := I.base.frzs b o u e
    rw [upd_ne (ne q2)]
    exact q2
  · obtain ⟨more, q⟩ := I.base.tbls b ps e
    exact ⟨more, by rw [upd_ne (ne q)]; exact q⟩
  · rw [upd_ne (Ne.symm nL)]
    exact I.free
  · have nc : c ≠ a := fun z => by
      obtain ⟨v, o, g, dc⟩ := I.cell y c e
      rw [z, ga] at g
      cases g
      rw [dt] at dc
      cases dc
    rw [upd_ne nc]
    exact I.freeC y c e
  · obtain ⟨g, n, r⟩ := I.pin p hp
    exact ⟨g, by rw [upd_ne (np p hp)]; exact n, r⟩
  · by_cases hb : b = a
    · subst hb
      rw [upd_same] at e
      cases e
      exact exL_ok ga hz dt
    · rw [upd_ne hb] at e
      exact (I.hok b o e).stay (fun c v _ q => q) (fun c q => by rw [upd_ne (ne q)]; exact q) fun c xs q => by rw [upd_ne (ne q)]; exact q
theorem inv_inS (I : Inv X pins σ H s) (a : Addr) : Inv (X.suite a (X.pn ++ pins)) [] σ H s :=
  ⟨I.ok.suite _ _, I.os, I.bare, I.base, I.loc, I.cell, I.free, I.freeC, fun p hp => I.pin p (by rw [List.append_nil] at hp; exact hp), I.hok, I.len⟩
theorem inv_outS {pn' : List (Addr × Obj)} (I : Inv (X.suite a (X.pn ++ pins)) pn' σ H s) (ok : X.Ok) : Inv X pins σ H s :=
  { ok := ok, os := I.os, bare := I.bare, base := I.base, loc := I.loc, cell := I.cell, free := I.free, freeC := I.freeC, pin := fun p hp => I.pin p (List.mem_append_left _ hp), hok := I.hok, len := I.len }
end
/-! ### the value -/
def exnOf (c : Nat) (fs : List (Nat × D)) : D := .exn c (fs.map (·.1)) (fs.map (·.2))
section
variable {T : Tab} {K : PySem.W.Frag} {G : Hp} {ι : List Addr}
theorem frs_named : ∀ {fs : List (Nat × D)} {ws : List (Str × V)}, FRs T K G ι fs ws → ∃ vs, ws = named T (fs.map (·.1)) vs ∧ fs.length = vs.length ∧ DRs T K G ι (fs.map (·.2)) vs
  | [], ws, h => ⟨[], h, rfl, DRs.nil⟩
  | (f, x) :: fs, ws, ⟨v, r, e, q, k⟩ => by
    obtain ⟨vs, e2, l, r2⟩ := frs_named k
    exact ⟨v :: vs, by rw [e, e2]; rfl, by simp [l], DRs.cons q r2⟩
theorem exnOf_ok {c : Nat} {fs : List (Nat × D)} {a : Addr} {dd : Option Addr} (x : XR T K G ι fs dd) (e : G a = some (exL a (He.ga K (T.cn c)) dd)) : DR T K G ι (exnOf c fs) (.ref a) := by
  unfold exnOf
  simp only [DR]
  rcases x with ⟨rfl, rfl⟩ | ⟨d, ws, rfl, isD, r⟩
  · exact ⟨a, none, [], rfl, rfl, e, .inl ⟨rfl, rfl⟩, DRs.nil⟩
  · obtain ⟨vs, e2, l, r2⟩ := frs_named r
    exact ⟨a, some d, vs, rfl, by simp [l], e, .inr ⟨d, rfl, by rw [isD, e2]⟩, r2⟩
end
end J
set_option Elab.async false
set_option linter.all false
set_option maxRecDepth 100000
set_option maxHeartbeats 1010000
/-! JZu: defs that are called while an error is handled; what they ask of it -/
namespace J
open PySem PySem.Spec L2 PyProof.Rows
/-- room, whatever is handled -/
structure RgH (k : Nat) (A : Around) : Prop where
  r : L2H.RoomH k A
  g : A.guards = some []
theorem RgH.mono {j k : Nat} {A : Around} (r : RgH k A) (h : j ≤ k) : RgH j A := ⟨r.r.mono h, r.g⟩
theorem RgH.of {k : Nat} {A : Around} (r : Rg k A) : RgH k A := ⟨L2H.roomH_of r.r, r.g⟩
theorem RgH.suite {k : Nat} {X : Cx} (r : RgH k X.A) (a : Addr) (pn : List (Addr × Obj)) : RgH k (X.suite a pn).A := ⟨⟨r.r.dp, r.r.un⟩, r.g⟩
abbrev WN : WX := fun _ _ _ _ => False
structure FnGH (P : Program) (w : World) (K : PySem.W.Frag) (mg : Str → Option Value) (base : Heap) (k : Nat) (f : Addr) (fd : FuncData) (ps : List Str) (sp : Sp) : Prop where
  len : ∀ (vs : List V) H Q E, sp vs H Q E → vs.length = ps.length
  run : ∀ (A : Around) (fr : List Env) (s : Shared) (H : Hp) (ar : Args) (us : List Value) (vs : List V) (Q : VK), RgH k A →
    Env0 P w K mg base A fr s H → BindsTo s fd ar (ps.zip us) → Vals vs us → sp vs H Q C8.E0 → codeAny (model P w) A (.call (.ref f) ar) (CR C8.CX0 fr P w H s Q C8.E0) s
theorem FnGH.mono {P : Program} {w : World} {K : PySem.W.Frag} {mg : Str → Option Value} {base : Heap} {f : Addr} {fd : FuncData} {k j : Nat} {ps : List Str} {sp : Sp} (F : FnGH P w K mg base j f fd ps sp) (h : j ≤ k) : FnGH P w K mg base k f fd ps sp :=
  ⟨F.len, fun A fr s H ar us vs Q r => F.run A fr s H ar us vs Q (r.mono h)⟩
/-! ### isinstance of a caught error -/
/-- what is known of the classes: c asked for t answers b -/
structure IsX (T : Tab) (K : PySem.W.Frag) (tb : List (Nat × Tg × Bool)) : Prop where
  cls : ∀ p ∈ tb, ExcC K (He.ga K (T.cn p.1))
  ans : ∀ p ∈ tb, PySem.W.kitOne K (.ref (He.ga K (T.cn p.1))) (p.2.1.v T K) = some p.2.2
def lookX (c : Nat) (u : Tg) : List (Nat × Tg × Bool) → Option Bool
  | [] => none
  | p :: r => if p.1 = c ∧ p.2.1 = u then some p.2.2 else lookX c u r
theorem lookX_ok {c : Nat} {u : Tg} {b : Bool} : ∀ {tb : List (Nat × Tg × Bool)}, lookX c u tb = some b → (c, u, b) ∈ tb
  | [], h => nomatch h
  | p :: r, h => by
    unfold lookX at h
    split at h
    · rename_i e
      obtain ⟨x, y, z⟩ := p
      obtain ⟨rfl, rfl⟩ := e
      cases h
      exact List.mem_cons_self
    · exact List.mem_cons_of_mem _ (lookX_ok h)
def rIsC (K : PySem.W.Frag) : List V → Hp → VK → Prop := fun xs H Q => ∃ (a C : Addr) (d : Option Addr) (c : V) (cv : Value) (b : Bool), xs = [.ref a, c] ∧ H a = some (exL a C d) ∧ (d = none ∨ ∃ dd fs, d = some dd ∧ H dd = some (.xd fs)) ∧ ExcC K C ∧ ClsV c cv ∧ PySem.W.kitOne K (.ref C) cv = some b ∧ Q (.bl b) H
theorem call_isC {X : Cx} : CallR X (.builtin "isinstance") (rIsC X.K) := by
  rintro pins s σ H xs us Q I r ⟨a, C, d, c, cv, b, rfl, isE, hd, ex, isC, kit, q⟩
  obtain ⟨u0, u1, rfl, r0, r1⟩ := vals2 r
  obtain rfl : u0 = Value.ref a := r0
  have e1 := isC.eq r1
  subst e1
  obtain ⟨oe, vs, here, hz, dt⟩ := exL_at I.hok isE
  have hcl : (PySem.W.clsIn X.K C).isSome = true := by
    obtain ⟨cd, e, _⟩ := PySem.W.any_some ex.hd
    rw [e]
    rfl
  have nc : PySem.W.notCls oe := by unfold PySem.W.notCls; rw [dt] <;> rfl
  obtain ⟨od, inst⟩ : ∃ od, PySem.W.InstAt s.heap a oe C od := by
    rcases hd with rfl | ⟨dd, fs, rfl, isD⟩
    · exact ⟨none, here, hz.1, nc, by rw [hz.2.1]; trivial⟩
    · obtain ⟨mA, ns, rel⟩ : ObjOk X.prog X.w H s.heap dd (.xd fs) := I.hok dd _ isD
      obtain ⟨od, atD, _⟩ := lookIn_ns ns
      exact ⟨some od, here, hz.1, nc, by rw [hz.2.1]; exact atD⟩
  exact PySem.W.kia_one (PySem.W.kitx_exc hcl ex.hg ex.hk ex.hs ex.ha ex.hn ex.ht ex.hm) I.kIn inst kit (fun z => nomatch z) fun tk => ⟨.bl b, H, I.kept (t' := tk) fun _ _ z => z, rfl, q⟩
def isxD (tb : List (Nat × Tg × Bool)) : OpN := fun xs _ => match xs with
  | [.exn c _ _, y] => (clsOf y).bind fun u => (lookX c u tb).map .bl
  | _ => none
theorem isxD_ok {T : Tab} {K : PySem.W.Frag} {tb : List (Nat × Tg × Bool)} (k : IsX T K tb) : CaS T K (rIsC K) (isxD tb) := by
  intro F S ι G H xs d vs Q em dr e q
  unfold isxD at e
  split at e
  · rename_i c fl xs y
    obtain ⟨v, w, rfl, r1, r2⟩ := dr.two
    cases hu : clsOf y with
    | none => rw [hu] at e; cases e
    | some u =>
      rw [hu] at e
      cases hb : lookX c u tb with
      | none => simp only [Option.bind_some] at e; rw [hb] at e; cases e
      | some b =>
        simp only [Option.bind_some] at e
        rw [hb] at e
        cases e
        have mem := lookX_ok hb
        have cv : ClsV w (u.v T K) := by
          cases y with
          | ty n => cases hu; simp only [DR] at r2; subst r2; exact .ty n
          | glo n => cases hu; simp only [DR] at r2; subst r2; exact .own _
          | _ => cases hu
        simp only [DR] at r1
        obtain ⟨a, dd, us, rfl, _, isE, hd, _⟩ := r1
        refine ⟨a, _, dd, w, _, b, rfl, em.sub _ _ isE, ?_, k.cls _ mem, cv, k.ans _ mem, q _ G H em (Ext.refl _ _) (by simp only [DR])⟩
        exact hd.imp (·.2) fun ⟨d, e, q⟩ => ⟨d, _, e, em.sub _ _ q⟩
  · cases e
/-! ### e.f of a caught error -/
def tXg (K : PySem.W.Frag) (f : Str) (te : TE) : TE := fun σ H Q => te σ H fun x H1 => ∃ (a C dd : Addr) (fs : List (Str × V)) (v : V), x = .ref a ∧ H1 a = some (exL a C (some dd)) ∧ XfC K C ∧ PySem.W.findIn K (.ref C) f = some none ∧ H1 dd = some (.xd fs) ∧ fs.lookup f = some v ∧ Q v H1
theorem pe_xg {X : Cx} {e : Expr} {te : TE} {pos : Pos} {n : Str} (he : PE X e te) (hb : attributeBase e n X.env (eval e X.env) = eval e X.env := by rfl) : PE X (.Attribute e n pos) (tXg X.K n te) := by
  constructor
  intro pins s σ H Q I told
  refine attr_of hb (thn (he.run pins s σ H _ I told) fun u s1 got => ?_)
  obtain ⟨x, H1, I1, rx, a, C, dd, fs, v, rfl, isE, T, no, isD, lk, q⟩ := got
  have eu : u = Value.ref a := rx
  subst eu
  obtain ⟨oe, vs, here, hz, dt⟩ := exL_at I1.hok isE
  obtain ⟨mA, hns, rel⟩ : ObjOk X.prog X.w H1 s1.heap dd (.xd fs) := I1.hok dd _ isD
  obtain ⟨od, atD, isL⟩ := lookIn_ns hns
  obtain ⟨u, hu, ru⟩ := RelO.some_of (v := v) (o := mA n) (by rw [← lk]; exact rel n)
  have inst : PySem.W.InstAt s1.heap a oe C (some od) := ⟨here, hz.1, by unfold PySem.W.notCls; rw [dt] <;> rfl, by rw [hz.2.1]; exact atD⟩
  exact HandSPX.exc_get I1.kIn inst T.ga T.gg T.exC (PySem.W.findObj_own T.hdC no rfl (by rw [isL, hu])) (handed_of ru) ⟨v, H1, I1.tok _, ru, q⟩
def getX (f : Nat) : List Nat → List D → Option D
  | g :: fl, x :: xs => if g = f then some x else getX f fl xs
  | _, _ => none
theorem getX_ok {T : Tab} {K : PySem.W.Frag} {G : Hp} {ι : List Addr} {f : Nat} {d : D} : ∀ {fl : List Nat} {xs : List D} {vs : List V}, DRs T K G ι xs vs → fl.length = vs.length → getX f fl xs = some d → ∃ v, (named T fl vs).lookup (T.fn f) = some v ∧ DR T K G ι d v
  | [], _, _, _, _, e => by simp [getX] at e
  | _ :: _, [], _, _, _, e => by simp [getX] at e
  | g :: fl, x :: xs, vs, h, l, e => by
    simp only [DRs] at h
    obtain ⟨v, r, rfl, h1, h2⟩ := h
    unfold getX at e
    split at e
    · rename_i eg
      subst eg
      cases e
      exact ⟨v, by simp [named], h1⟩
    · rename_i ng
      obtain ⟨v2, l2, r2⟩ := getX_ok h2 (by simpa using l) e
      refine ⟨v2, ?_, r2⟩
      have nn : (T.fn f == T.fn g) = false := beq_eq_false_iff_ne.mpr fun z => ng (T.inj _ _ z).symm
      show (((T.fn g, v) :: named T fl r).lookup (T.fn f)) = some v2
      rw [List.lookup_cons, nn]
      exact l2
def iXf (cs : List Nat) (f : Nat) (ie : IE) : IE := fun ρ => M.bind (ie ρ) fun d S => match d with
  | .exn c fl xs => if cs.contains c = true then lift (getX f fl xs) S else .no
  | _ => .no
theorem je_xf {T : Tab} {X : Cx} {W : WX} {e : Expr} {ie : IE} {cs : List Nat} {f : Nat} {x : Str} {pos : Pos} (he : JE T X W e ie) (hc : ∀ c ∈ cs, XfC X.K (He.ga X.K (T.cn c)) ∧ PySem.W.findIn X.K (.ref (He.ga X.K (T.cn c))) (T.fn f) = some none) (hx : x = T.fn f)
    (hb : attributeBase e x X.env (eval e X.env) = eval e X.env := by rfl) : JE T X W (.Attribute e x pos) (iXf cs f ie) := by
  refine PE.mono (pe_xg he hb) fun σ H Q ⟨ρ, F, S, ι, G, em, sr, h⟩ => ⟨ρ, F, S, ι, G, em, sr, ?_⟩
  refine Thn.bind (rel2 := DR T X.K) h fun d S1 v ι1 G1 H1 em1 x1 dr h1 => ?_
  cases d with
  | exn c fl xs =>
    dsimp only at h1
    split at h1
    · rename_i hcs
      obtain ⟨y, ey, h2⟩ := Thn.lift h1
      have k := hc c (by simpa using hcs)
      simp only [DR] at dr
      obtain ⟨a, dd, vs, rfl, l, isE, hd, r⟩ := dr
      rcases hd with ⟨rfl, rfl⟩ | ⟨da, rfl, isD⟩
      · simp [getX] at ey
      · obtain ⟨v, lk, dv⟩ := getX_ok r l ey
        exact ⟨a, _, da, _, v, rfl, em1.sub _ _ isE, k.1, hx ▸ k.2, em1.sub _ _ isD, hx ▸ lk, h2.ok em1 dv⟩
    · exact h1.elim
  | _ => exact h1.elim
/-! ### xs.count(True), xs.index(True) -/
/-! ### facts of the classes that are caught -/
def excCB (K : PySem.W.Frag) (D : Addr) : Bool := xfB K D && (decide (PySem.W.findIn K (.ref D) "__class__" = some (some (.builtin "object.__class__"))) && (decide (PySem.W.specialIn K (.builtin "object.__class__") "__get__" = some (some (.builtin "getset_descriptor.__get__"))) && (decide (PySem.W.takesIn K (.builtin "object.__class__") = some true) && decide (PySem.W.mroIn K D (.type "object") = some true))))
theorem excCB_xf {K : PySem.W.Frag} {D : Addr} (h : excCB K D = true) : XfC K D := by
  simp only [excCB, Bool.and_eq_true] at h
  exact xfB_ok h.1
theorem excCB_ok {K : PySem.W.Frag} {D : Addr} (h : excCB K D = true) : ExcC K D := by
  have z := excCB_xf h
  simp only [excCB, Bool.and_eq_true, decide_eq_true_eq] at h
  exact ⟨z.ga, z.gg, z.exC, z.hdC, h.2.1, h.2.2.1, h.2.2.2.1, h.2.2.2.2⟩
end J
set_option Elab.async false
set_option linter.all false
set_option maxRecDepth 100000
set_option maxHeartbeats 4100000
namespace K03
open PySem L2 J
def top (i : Nat) : Stmt := PySem.Challenge.pw_guessmarks_k03_whole_words_and_numbers.main.body.getD i (.Pass ⟨0, 0, 0, 0⟩)
def inClass : Stmt → Nat → Stmt
  | .ClassDef (body := b) .., i => b.getD i (.Pass ⟨0, 0, 0, 0⟩)
  | s, _ => s
def TFD : List He.Defn := [("_law_right", none)]
def TT : Tab := mkTab ["Board", "-1", "-2", "-3", "-4", "-5", "-6", "-7", "-8", "-9", "InputError", "-11", "-12", "-13", "-14", "-15", "-16", "-17", "InvalidWord", "-19", "-20", "-21", "-22", "InvalidNumber"] ["letters", "length", "board", "rows", "then", "without", "fits", "size", "word", "number", "allowed", "least", "greatest", "bounds", "held", "counts", "give", "take", "fill", "value", "index", "limit"] [[0, 1], [], [], [], [], [], [], [], [], [], [], [], [], [], [], [], [], [], [], [], [], [], [], []] (by decide) (by decide) (fun K => [((He.cT K ("_law_right", none)).2, "_law_right.<locals>.<lambda>")])
abbrev TBs (K : PySem.W.Frag) (mg : Str → Option Value) (base : Heap) : Prop := ∀ p ∈ TFD.map (He.cT K), LamX.TabB base mg p.1 p.2
theorem tab_of (K : PySem.W.Frag) : ∀ q ∈ TT.tabs K, ∃ p ∈ TFD.map (He.cT K), q.1 = p.2 := fun q hq => ⟨He.cT K ("_law_right", none), List.mem_cons_self, by cases List.mem_singleton.mp hq; rfl⟩
theorem tab_in (K : PySem.W.Frag) {q : Str} (h : q = "_law_right.<locals>.<lambda>") : ((He.cT K ("_law_right", none)).2, q) ∈ TT.tabs K := by subst h; exact List.mem_cons_self
theorem tabs_one (K : PySem.W.Frag) : ∀ p ∈ TT.tabs K, p.1 = (He.cT K ("_law_right", none)).2 → p.2 = "_law_right.<locals>.<lambda>" := fun p hp _ => by cases List.mem_singleton.mp hp; rfl
def CS : List Nat := [0]
def CT : List Nat := [0]
def TB : List (Tg × Tg × Bool) := [(.b "NoneType", .o 0, false), (.b "bool", .o 0, false), (.b "int", .o 0, false), (.b "str", .o 0, false), (.b "tuple", .o 0, false), (.b "list", .o 0, false), (.b "dict", .o 0, false), (.o 0, .o 0, true), (.o 0, .b "int", false), (.o 0, .b "str", false), (.o 0, .b "bool", false), (.o 0, .b "tuple", false), (.o 0, .b "list", false), (.o 0, .b "dict", false)]
def TBX : List (Nat × Tg × Bool) := [(18, .o 10, true), (18, .o 18, true), (18, .o 23, false), (23, .o 10, true), (23, .o 18, false), (23, .o 23, true), (18, .b "ValueError", true), (23, .b "ValueError", true)]
def TSX : List Nat := [18, 23]
abbrev s_bowl : Stmt := top 16
def df_bowl : Df := ⟨fun K => He.ga K "_law_bowl", "_law_bowl", "_law_bowl", defArgs s_bowl, defBody s_bowl, defScope s_bowl, [], []⟩
abbrev s_dip : Stmt := top 17
def df_dip : Df := ⟨fun K => He.ga K "_law_dip", "_law_dip", "_law_dip", defArgs s_dip, defBody s_dip, defScope s_dip, [], []⟩
abbrev s_signs : Stmt := top 19
def df_signs : Df := ⟨fun K => He.ga K "_law_signs", "_law_signs", "_law_signs", defArgs s_signs, defBody s_signs, defScope s_signs, [], []⟩
abbrev s_are_letters : Stmt := top 11
def df_are_letters : Df := ⟨fun K => He.ga K "are_letters", "are_letters", "are_letters", defArgs s_are_letters, defBody s_are_letters, defScope s_are_letters, [], []⟩
abbrev s_is_integer : Stmt := top 10
def df_is_integer : Df := ⟨fun K => He.ga K "is_integer", "is_integer", "is_integer", defArgs s_is_integer, defBody s_is_integer, defScope s_is_integer, [], []⟩
abbrev s_Board_init : Stmt := inClass (top 12) 0
def df_Board_init : Df := ⟨fun K => He.ma K (He.ga K "Board") "__init__", "__init__", "Board.__init__", defArgs s_Board_init, defBody s_Board_init, defScope s_Board_init, [], []⟩
abbrev s_of : Stmt := top 18
def df_of : Df := ⟨fun K => He.ga K "_law_of", "_law_of", "_law_of", defArgs s_of, defBody s_of, defScope s_of, [], []⟩
abbrev s_word : Stmt := top 20
def df_word : Df := ⟨fun K => He.ga K "_law_word", "_law_word", "_law_word", defArgs s_word, defBody s_word, defScope s_word, [], []⟩
abbrev s_is_word : Stmt := top 13
def df_is_word : Df := ⟨fun K => He.ga K "is_word", "is_word", "is_word", defArgs s_is_word, defBody s_is_word, defScope s_is_word, [], []⟩
abbrev s_InvalidWord_init : Stmt := inClass (top 4) 0
def df_InvalidWord_init : Df := ⟨fun K => He.ma K (He.ga K "InvalidWord") "__init__", "__init__", "InvalidWord.__init__", defArgs s_InvalidWord_init, defBody s_InvalidWord_init, defScope s_InvalidWord_init, [], []⟩
abbrev s_check_word : Stmt := top 14
def df_check_word : Df := ⟨fun K => He.ga K "check_word", "check_word", "check_word", defArgs s_check_word, defBody s_check_word, defScope s_check_word, [], []⟩
abbrev s_Board_number : Stmt := inClass (top 12) 3
def df_Board_number : Df := ⟨fun K => He.ma K (He.ga K "Board") "number", "number", "Board.number", defArgs s_Board_number, defBody s_Board_number, defScope s_Board_number, [], []⟩
abbrev s_Board_size : Stmt := inClass (top 12) 1
def df_Board_size : Df := ⟨fun K => pa K (He.ga K "Board") "size", "size", "Board.size", defArgs s_Board_size, defBody s_Board_size, defScope s_Board_size, [], []⟩
abbrev s_InvalidNumber_init : Stmt := inClass (top 5) 0
def df_InvalidNumber_init : Df := ⟨fun K => He.ma K (He.ga K "InvalidNumber") "__init__", "__init__", "InvalidNumber.__init__", defArgs s_InvalidNumber_init, defBody s_InvalidNumber_init, defScope s_InvalidNumber_init, [], []⟩
abbrev s_Board_word : Stmt := inClass (top 12) 2
def df_Board_word : Df := ⟨fun K => He.ma K (He.ga K "Board") "word", "word", "Board.word", defArgs s_Board_word, defBody s_Board_word, defScope s_Board_word, [], []⟩
abbrev s_got : Stmt := top 21
def df_got : Df := ⟨fun K => He.ga K "_law_got", "_law_got", "_law_got", defArgs s_got, defBody s_got, defScope s_got, [], []⟩
abbrev s_right : Stmt := top 22
def df_right : Df := ⟨fun K => He.ga K "_law_right", "_law_right", "_law_right", defArgs s_right, defBody s_right, defScope s_right, [], []⟩
abbrev s_law : Stmt := top 23
def df_law : Df := ⟨fun K => He.ga K "law", "law", "law", defArgs s_law, defBody s_law, defScope s_law, [], []⟩
def fn : List Df := [df_bowl, df_dip, df_signs, df_are_letters, df_is_integer, df_Board_init, df_of, df_word, df_is_word, df_InvalidWord_init, df_check_word, df_Board_number, df_Board_size, df_InvalidNumber_init, df_Board_word, df_got, df_right, df_law]
def fa : List He.Fa := [.free "ValueError", .free "abs", .free "all", .free "bool", .free "divmod", .free "int", .free "isinstance", .free "len", .free "max", .free "min", .free "range", .free "repr", .free "sorted", .free "str", .free "zip", .str "LETTERS" ⟨#[97, 98, 99, 100, 101, 102, 103, 104, 105, 106, 107, 108, 109, 110, 111, 112, 113, 114, 115, 116, 117, 118, 119, 120, 121, 122]⟩, .int "MOST_LENGTH" (6), .int "MOST_LETTERS" (26), .glo "Board", .glo "InputError", .glo "InvalidNumber", .glo "InvalidWord", .cls "Board", .noat "Board" "letters", .noat "Board" "length", .glo "_law_bowl", .glo "_law_dip", .glo "_law_signs", .glo "are_letters", .glo "is_integer", .mkr "Board", .glo "_law_of", .glo "_law_word", .glo "is_word", .glo "check_word", .meth "Board" "number", .meth "Board" "word", .glo "_law_got", .glo "_law_right", .glo "law"]
def ex (K : PySem.W.Frag) : Bool := (fa.all fun f => f.ok K) && ((CS.all fun c => clsTB K (He.ga K (TT.cn c))) && ((TB.all fun q => decide (PySem.W.kitOne K (q.1.v TT K) (q.2.1.v TT K) = some q.2.2)) && ((CT.all fun c => plainTB K (He.ga K (TT.cn c))) && (exIB K "InvalidWord" "value" && (exIB K "InvalidNumber" "value" && ((TSX.all fun c => excCB K (He.ga K (TT.cn c))) && ((TBX.all fun q => decide (PySem.W.kitOne K (.ref (He.ga K (TT.cn q.1))) (q.2.1.v TT K) = some q.2.2)) && ((([23] : List Nat).all fun c => decide (PySem.W.exmOne K (.ref (He.ga K (TT.cn c))) (.ref (He.ga K (TT.cn 23))) = some true)) && ((([18] : List Nat).all fun c => decide (PySem.W.exmOne K (.ref (He.ga K (TT.cn c))) (.ref (He.ga K (TT.cn 23))) = some false)) && ((([18] : List Nat).all fun c => decide (PySem.W.exmOne K (.ref (He.ga K (TT.cn c))) (.ref (He.ga K (TT.cn 18))) = some true)) && ((([23] : List Nat).all fun c => decide (PySem.W.exmOne K (.ref (He.ga K (TT.cn c))) (.ref (He.ga K (TT.cn 18))) = some false)) && ((([23, 18] : List Nat).all fun c => decide (PySem.W.findIn K (.ref (He.ga K (TT.cn c))) (TT.fn 19) = some none)) && (propB K (He.ga K "Board") "size")))))))))))))
abbrev Rw : PySem.W.OpenRow := PySem.W.OpenLaw.row PySem.Challenge.rw_guessmarks_k03_whole_words_and_numbers
abbrev hk : PySem.W.Hook := hookA ex fn TFD
def loose : List Str := (["InputError", "InvalidLetters", "InvalidLength", "InvalidWord", "InvalidNumber", "MOST_LENGTH", "MOST_LETTERS", "LETTERS", "is_integer", "are_letters", "Board", "is_word", "check_word", "_law_bowl", "_law_dip", "_law_of", "_law_signs", "_law_word", "_law_got", "_law_right"] : List Str)
theorem run (w : World) : HandSHeadRun.RunEq Rw (PySem.W.view Rw.prog [23]) hk (seeB ex fn TFD) 9000 loose w := by
  intro os
  kernel_rfl
end K03
set_option Elab.async false
set_option linter.all false
set_option maxRecDepth 100000
set_option maxHeartbeats 1010000
/-! JZv: the law's def that calls what it gets and hands a caught error on -/
namespace J
open PySem PySem.Spec L2 PyProof.Rows LamX
theorem tS_up {T : Tab} {K : PySem.W.Frag} {W : WX} {is : IS} {E E' : Ends} {σ σ' : L2.St} {H : Hp} (h : tS T K W is E σ H) (len : σ.length = σ'.length) (le : ∀ (i : Nat) v, σ[i]? = some (some v) → σ'[i]? = some (some v))
    (h1 : ∀ σ H, E.nx σ H → E'.nx σ H) (h2 : ∀ v H, E.rt v H → E'.rt v H) (h3 : ∀ σ H, E.bk σ H → E'.bk σ H) (h4 : ∀ σ H, E.ct σ H → E'.ct σ H) : tS T K W is E' σ' H := by
  obtain ⟨ρ, F, S, ι, G, em, sr, h⟩ := h
  exact ⟨ρ, F, S, ι, G, em, ⟨sr.len.trans len, fun i d e => let ⟨v, q, r⟩ := sr.at_ i d e; ⟨v, le i v q, r⟩⟩, h.imp h1 h2 h3 h4⟩
/-- one slot alone -/
def only {α : Type} (n i : Nat) (x : α) : List (Option α) := (List.replicate n none).set i (some x)
theorem only_len {α : Type} (n i : Nat) (x : α) : (only n i x).length = n := by simp [only]
theorem only_at {α : Type} {n i j : Nat} {x y : α} (h : (only n i x)[j]? = some (some y)) : j = i ∧ y = x := by
  unfold only at h
  by_cases hj : i = j
  · subst hj
    by_cases hl : i < n
    · rw [List.getElem?_set_self (by simpa using hl)] at h
      exact ⟨rfl, (Option.some.inj (Option.some.inj h)).symm⟩
    · rw [List.getElem?_eq_none (by simp; omega)] at h
      cases h
  · rw [List.getElem?_set_ne hj, List.getElem?_replicate] at h
    split at h <;> cases h
theorem only_here {α : Type} {n i : Nat} (h : i < n) (x : α) : (only n i x)[i]? = some (some x) := by
  unfold only
  rw [List.getElem?_set_self (by simpa using h)]
theorem sr_only {T : Tab} {K : PySem.W.Frag} {G : Hp} {ι : List Addr} {n i : Nat} {d : D} {v : V} (r : DR T K G ι d v) : SR T K G ι (only n i d) (only n i v) := by
  refine ⟨by rw [only_len, only_len], fun j e q => ?_⟩
  obtain ⟨rfl, rfl⟩ := only_at q
  have hl : j < n := by
    have := (List.getElem?_eq_some_iff.mp q).1
    rwa [only_len] at this
  exact ⟨v, only_here hl v, r⟩
theorem pss_len {X : Cx} {st : List Stmt} {t : TS} (h : PSs X st t) : PSs X st (fun D σ H => σ.length = X.N.length → t D σ H) := ⟨fun pins s σ H D I q => h.run pins s σ H D I (q I.len)⟩
def retR : R Fl → R D
  | .ok (.rt d) S => .ok d S
  | _ => .no
end J
set_option Elab.async false
set_option linter.all false
set_option maxRecDepth 100000
set_option maxHeartbeats 1010000
/-! JZw: raise of an own exception that keeps nothing -/
namespace J
open PySem PySem.Spec L2 PyProof.Rows
end J
set_option Elab.async false
set_option linter.all false
set_option maxRecDepth 100000
set_option maxHeartbeats 1010000
/-! JZx: xs.index(text) -/
namespace J
open PySem PySem.Spec L2 PyProof.Rows
/-! ### list(xs), never changed -/
end J
set_option Elab.async false
set_option linter.all false
set_option maxRecDepth 100000
set_option maxHeartbeats 1010000
/-! JZy: t < u of pairs, the least of a list of pairs, a key not in a dict -/
namespace J
open PySem PySem.Spec L2 PyProof.Rows
/-! ### t < u of pairs; the least of a list of pairs; a key not in a dict -/
end J
set_option Elab.async false
set_option linter.all false
set_option maxRecDepth 100000
set_option maxHeartbeats 1010000
/-! JYb: t < u of pairs of a number and a tuple of numbers -/
namespace J
open PySem PySem.Spec L2 PyProof.Rows
end J
set_option Elab.async false
set_option linter.all false
set_option maxRecDepth 100000
set_option maxHeartbeats 1010000
/-! JYc: a target within a target -/
namespace J
open PySem PySem.Spec L2 PyProof.Rows
end J
set_option Elab.async false
set_option linter.all false
set_option maxRecDepth 100000
set_option maxHeartbeats 1010000
/-! JZz: try: body / except (A, B, C) as e: suite, as a statement -/
namespace J
open PySem PySem.Spec L2 PyProof.Rows
end J
set_option Elab.async false
set_option linter.all false
set_option maxRecDepth 100000
set_option maxHeartbeats 1010000
/-! JYd: several clauses 'except C as e', each with a suite of its own over the error as a value -/
namespace J
open PySem PySem.Spec L2 PyProof.Rows LamX
/-- what the clauses wish -/
def wAsY (K : PySem.W.Frag) (i : Nat) (D : Ends) : List (Value × TS) → WX
  | [] => fun _ _ _ _ => False
  | q :: r => fun cls d σ H => ∃ C, cls = .ref C ∧ ∃ b, PySem.W.exmOne K cls q.1 = some b ∧ (b = true → ∀ a, H a = none → q.2 (goneE i D) (σ.set i (some (.ref a))) (upd H a (exL a C d))) ∧ (b = false → wAsY K i D r cls d σ H)
inductive HdY (X : Cx) (n : Str) : List ExceptHandler → List (Value × TS) → Prop
  | nil : HdY X n [] []
  | cons {x : Str} {c : Value} {ts : TS} {st : Stmt} {more : List Stmt} {p1 p2 : Pos} {hds : List ExceptHandler} {l : List (Value × TS)} (nm : Names X x c)
      (su : ∀ (a : Addr) (pn : List (Addr × Obj)), PSs (X.suite a pn) (st :: more) ts) (tl : HdY X n hds l) : HdY X n (.ExceptHandler (some (.Name x p1)) (some n) (st :: more) p2 :: hds) ((c, ts) :: l)
section
variable {X : Cx} {n : Str} {i : Nat} {pins : List (Addr × Obj)} {D : Ends}
theorem clausesY_go (ok : X.Ok) (nd : X.N.Nodup) (hi : X.N[i]? = some n) (hl : X.env.kindOf n = some .local) {σ : L2.St} {H : Hp} {a : Addr} {cls : Value} {d : Option Addr} {B : Heap} {s : Shared} (L : Landed X pins σ H a cls d B s) (new0 : X.s_0.heap.get? a = none) (np : ∀ p ∈ X.pn ++ pins, p.1 ≠ a) :
    ∀ {hds : List ExceptHandler} {l : List (Value × TS)}, HdY X n hds l → wAsY X.K i D l cls d σ H → wpAny (model X.prog X.w) X.A (handleBy (.ref a) X.env hds) (SP X pins D) X.xe s := by
  intro hds l hh
  induction hh with
  | nil => exact fun z => z.elim
  | @cons x c ts st more p1 p2 hds l nm su tl ih =>
    rintro ⟨C, rfl, b, isB, hit, miss⟩
    refine wpAny_handleBy_cons (codeAny_handlers_test ?_) (by intro z; cases z)
    obtain ⟨oe, vs, g, z, dt, I⟩ := L.pin
    have ty : PySem.W.Looks (model X.prog X.w) s.heap (typeOf (.ref a)) (.ref C) := fun A Q E s1 kp q => wpAny_typeOf_ref (kp _ _ g) (by rw [z.1]; exact q)
    refine clause_ask (b := b) L nm ((PySem.W.exm_one (M := model X.prog X.w) L.inv.kIn ty isB).here ?_)
    cases b with
    | false => exact ih (miss rfl)
    | true =>
      refine codeAny_handlers_suite_as (HandSPX.lands_againZ L.fly fun h1 fly1 up1 => ?_)
      have I1 := L.next h1 fly1 up1
      obtain ⟨oe1, vs1, g1, z1, dt1⟩ := fly1.there
      have I5 := inv_hold I1 g1 z1 dt1 L.free new0 L.loc np
      refine store_ok (X := X.suite a (X.pn ++ pins)) (v := .ref a) (inv_inS I5 a) nd hi (.inl hl) rfl (fun s2 I2 => ?_) (.inr hl)
      refine wpAny_mono ((su a (X.pn ++ pins)).run [] s2 _ _ _ I2 (hit rfl a L.free)) (fun fl s3 out => ?_) (fun _ _ f => f.elim)
      have bye : ∀ {σ3 : L2.St} {H3 : Hp} {Q : Shared → Prop}, Inv (X.suite a (X.pn ++ pins)) [] σ3 H3 s3 → (∀ s4, Inv X pins (σ3.set i none) H3 s4 → Q s4) →
          wpAny (model X.prog X.w) X.A (do bindName X.env n .none; unbindBehindTheSuite X.env n p2) (fun _ s4 => Q s4) X.xe s3 := fun J q => gone_ok (inv_outS J ok) nd hi hl q
      cases fl with
      | ret u => exact let ⟨v, σ3, H3, J, rv, q⟩ := out; bye J fun s4 J4 => ⟨v, _, H3, J4, rv, q⟩
      | next => exact let ⟨σ3, H3, J, q⟩ := out; bye J fun s4 J4 => ⟨_, H3, J4, q⟩
      | brk => exact let ⟨σ3, H3, J, q⟩ := out; bye J fun s4 J4 => ⟨_, H3, J4, q⟩
      | cont => exact let ⟨σ3, H3, J, q⟩ := out; bye J fun s4 J4 => ⟨_, H3, J4, q⟩
/-- try: body, except .. as n: .., except .. as n: .. -/
theorem ps_tryY {body : List Stmt} {h0 : ExceptHandler} {hds : List ExceptHandler} {l : List (Value × TS)} {tb : WX → TS} {pos : Pos} (stk : X.stack = X.env :: X.outer) (frm : X.env.frame = some X.env.locals) (nd : X.N.Nodup) (hi : X.N[i]? = some n) (hl : X.env.kindOf n = some .local) (ex : X.ex = [])
    (bd : ∀ (W : WX) (pn : List (Addr × Obj)) (xe : Value → Shared → Prop), L2N.Takes (X.tr pn xe) W → PSs (X.tr pn xe) body (tb W)) (hh : HdY X n (h0 :: hds) l) :
    PS X (.Try body (h0 :: hds) [] [] pos) (fun D σ H => tb (wAsY X.K i D l) D σ H) := by
  constructor
  intro pins s σ H D I h
  have ok := I.ok
  let xe : Value → Shared → Prop := fun e s1 => wpAny (model X.prog X.w) X.A (noteFrame e X.env) (fun _ s2 => wpAny (model X.prog X.w) X.A (setFlight e none) (fun _ s3 => wpAny (model X.prog X.w) X.A (handleBy e X.env (h0 :: hds)) (SP X pins D) X.xe s3) X.xe s2) X.xe s1
  have tk : L2N.Takes (X.tr (X.pn ++ pins) xe) (wAsY X.K i D l) := by
    rintro u s1 ⟨a, B, s0, pins', σ1, H1, cls, d, rfl, J, nb, up, sky, na, os, ag, wish⟩
    have J0 : Inv X pins σ1 H1 s0 := J.ofTry ok
    rw [show (X.tr (X.pn ++ pins) xe).stack = X.env :: X.outer from stk] at sky
    refine L2N.Sky.land L2N.Zn.steady (by rw [ok.frames, stk]) frm sky fun h2 fly up2 => ?_
    obtain ⟨oe, vs, g, z, dt⟩ := fly.there
    have out : a ∉ frs (X.env :: X.outer) := fun hm => by
      obtain ⟨_, o, g', no⟩ := fly.2.2.1.mem hm
      rw [g] at g'
      cases g'
      exact no _ dt
    have noS : ∀ o, s0.heap.get? a = some o → False := fun o e => by
      have e2 := nb a o e (by rw [show (X.tr (X.pn ++ pins) xe).stack = X.env :: X.outer from stk]; exact out)
      rw [fly.2.1] at e2
      cases e2
    have new0 : X.s_0.heap.get? a = none := by
      rcases Option.eq_none_or_eq_some (X.s_0.heap.get? a) with q | ⟨o, q⟩
      · exact q
      · obtain ⟨o', q'⟩ := J0.base.there a o q (by rw [ex]; simp)
        exact (noS o' q').elim
    have np : ∀ p ∈ X.pn ++ pins, p.1 ≠ a := fun p hp e => by
      have q := (J0.pin p hp).1
      rw [e] at q
      exact noS _ q
    refine clausesY_go ok nd hi hl (B := B) (cls := cls) (d := d) (s := { s1 with heap := h2 }) { fly := fly, inv := J0.landed nb fly.1 (up.trans up2) os ag, free := na, next := ?_, loc := ?_, far := ?_ } new0 np hh wish
    · exact fun h3 fly3 up3 => J0.landed nb fly3.1 ((up.trans up2).trans up3) os ag
    · exact fun e => out (List.mem_filterMap.mpr ⟨X.env, List.mem_cons_self, by rw [frm, e]⟩)
    · exact fun hm => by
        obtain ⟨env, inO, at_⟩ := List.mem_filterMap.mp hm
        exact out (List.mem_filterMap.mpr ⟨env, List.mem_cons_of_mem _ inO, at_⟩)
  refine wpAny_Try_except (wpAny_mono ((bd _ _ xe tk).run [] s σ H D (I.toTry _) h) (fun fl s1 out => ?_) fun e s1 z => z)
  cases fl with
  | ret u => exact let ⟨v, σ1, H1, J, rv, q⟩ := out; ⟨v, σ1, H1, J.ofTry ok, rv, q⟩
  | next => exact let ⟨σ1, H1, J, q⟩ := out; wpAny_execs_nil ⟨σ1, H1, J.ofTry ok, q⟩
  | brk => exact let ⟨σ1, H1, J, q⟩ := out; ⟨σ1, H1, J.ofTry ok, q⟩
  | cont => exact let ⟨σ1, H1, J, q⟩ := out; ⟨σ1, H1, J.ofTry ok, q⟩
end
/-! ### the clauses, told -/
/-- the first clause that takes the class: which it takes, which it does not take, its suite -/
def pickY (c : Nat) : List (List Nat × List Nat × IS) → Option IS
  | [] => none
  | q :: r => if q.1.contains c = true then some q.2.2 else if q.2.1.contains c = true then pickY c r else none
/-- what the classes' numbers say of the clauses' classes -/
inductive FitY (T : Tab) (K : PySem.W.Frag) : List (List Nat × List Nat × IS) → List (Value × IS) → Prop
  | nil : FitY T K [] []
  | cons {ys ns : List Nat} {is : IS} {c : Value} {hs : List (List Nat × List Nat × IS)} {l : List (Value × IS)} (hy : ∀ k ∈ ys, PySem.W.exmOne K (.ref (He.ga K (T.cn k))) c = some true) (hn : ∀ k ∈ ns, PySem.W.exmOne K (.ref (He.ga K (T.cn k))) c = some false) (tl : FitY T K hs l) : FitY T K ((ys, ns, is) :: hs) ((c, is) :: l)
/-- the suites of the clauses -/
inductive HdJ (T : Tab) (X : Cx) (n : Str) : List ExceptHandler → List (Value × IS) → Prop
  | nil : HdJ T X n [] []
  | cons {x : Str} {c : Value} {is : IS} {st : Stmt} {more : List Stmt} {p1 p2 : Pos} {hds : List ExceptHandler} {l : List (Value × IS)} (nm : Names X x c)
      (su : ∀ (a : Addr) (pn : List (Addr × Obj)), JSs T (X.suite a pn) WN (st :: more) is) (tl : HdJ T X n hds l) : HdJ T X n (.ExceptHandler (some (.Name x p1)) (some n) (st :: more) p2 :: hds) ((c, is) :: l)
/-! ### the law's def that calls what it gets, with such clauses -/
def ECauY (T : Tab) (K : PySem.W.Frag) (n i : Nat) (Q : VK) : List (Value × IS) → XK
  | [] => fun _ _ _ => False
  | q :: r => fun cls d H => ∃ C, cls = .ref C ∧ ∃ b, PySem.W.exmOne K cls q.1 = some b ∧ (b = true → ∀ a, H a = none → tS T K WN q.2 { nx := fun _ _ => False, rt := Q } (only n i (.ref a)) (upd H a (exL a C d))) ∧ (b = false → ECauY T K n i Q r cls d H)
def TCauY (T : Tab) (K : PySem.W.Frag) (n i m : Nat) (l : List (Value × IS)) (is2 : IS) : (XK → Hp → VK → Prop) → Hp → VK → Prop := fun tl H Q => tl (ECauY T K n i Q l) H fun v H1 => tS T K WN is2 { nx := fun _ H' => Q .non H', rt := Q } (only n m v) H1
structure CauYPos where
  q1 : Pos
  q2 : Pos
  q3 : Pos
  q4 : Pos
  q10 : Pos
def cauYBody (a g : Str) (hds : List ExceptHandler) (st2 : Stmt) (q : CauYPos) : List Stmt :=
  [.Try [.Assign [.Name g q.q1] (.Call (.Name a q.q2) [] [] q.q3) q.q4] hds [] [] q.q10, st2]
theorem HdY.len {X : Cx} {n : Str} {hds : List ExceptHandler} {T : Tab} {l : List (Value × IS)} {k : Nat} (hk : X.N.length = k) (h : HdJ T X n hds l) : HdY X n hds (l.map fun q => (q.1, fun D σ H => σ.length = k → tS T X.K WN q.2 D σ H)) := by
  induction h with
  | nil => exact .nil
  | cons nm su tl ih => exact .cons nm (fun a pn => PSs.mono (pss_len (su a pn)) fun D σ H z l => z (by rw [l]; exact hk)) ih
theorem wish_len {T : Tab} {K : PySem.W.Frag} {n i : Nat} {D : Ends} (hin : i < n) {cls : Value} {d : Option Addr} {σ : L2.St} {H : Hp} (hb : ∀ σ H, D.nx σ H → True) : ∀ l : List (Value × IS), ECauY T K n i D.rt l cls d H → wAsY K i D (l.map fun q => (q.1, fun D σ H => σ.length = n → tS T K WN q.2 D σ H)) cls d σ H
  | [], z => z
  | q :: l, ⟨C, e, b, isB, hit, miss⟩ => ⟨C, e, b, isB, fun hb2 a na len => by
      refine tS_up (hit hb2 a na) (by rw [only_len, len]) (fun j w e => ?_) (fun _ _ z => z.elim) (fun _ _ z => z) (fun _ _ z => z.elim) (fun _ _ z => z.elim)
      obtain ⟨rfl, rfl⟩ := only_at e
      rw [List.length_set] at len
      exact List.getElem?_set_self (by omega), fun hb2 => wish_len hin hb l (miss hb2)⟩
theorem cauY_gives {T : Tab} {X : Cx} {Ng : List Str} {x a g e q : Str} {sg : Scope} {at_ : Addr} {cdg : Value} {i m n : Nat} {h0 : ExceptHandler} {hds : List ExceptHandler} {l : List (Value × IS)} {st2 : Stmt} {is2 : IS} {gp : CauYPos} (ln : Ng.length = n) (nd : Ng.Nodup) (hi : Ng[i]? = some e) (hm : Ng[m]? = some g)
    (kE : sg.names.lookup e = some .local) (kG : sg.names.lookup g = some .local) (h00 : ∀ f : Addr, (L2.start Ng [V.ref f])[0]? = some (some (V.ref f))) (hl0 : (L2.start Ng [V.ref 0]).length = Ng.length)
    (hsw : ∀ Y : Cx, swapsWith (.Call (.Name a gp.q2) [] [] gp.q3) (some (.Name g gp.q1)) gp.q4.line Y.env = pure false)
    (s1 : ∀ (s : Shared) (H : Hp), HdJ T ((cxOf C8.CX0 X.prog X.w X.K X.mg X.base Ng x sg at_ cdg X.A X.stack s H C8.E0).nox) e (h0 :: hds) l)
    (s2 : ∀ (s : Shared) (H : Hp), JSs T (cxOf C8.CX0 X.prog X.w X.K X.mg X.base Ng x sg at_ cdg X.A X.stack s H C8.E0).nox WN [st2] is2) :
    GivesN X Ng x sg at_ cdg (cauYBody a g (h0 :: hds) st2 gp) a q (TCauY T X.K n i m l is2) := by
  intro f c' s H Q tl act hc h
  let Z := (cxOf C8.CX0 X.prog X.w X.K X.mg X.base Ng x sg at_ cdg X.A X.stack s H C8.E0).nox
  have lenS : (L2.start Ng [V.ref f]).length = n := by
    have z : (L2.start Ng [V.ref f]).length = (L2.start Ng [V.ref 0]).length := by simp [L2.start]
    rw [z, hl0, ln]
  have hin : i < n := ln ▸ (List.getElem?_eq_some_iff.mp hi).1
  have hmn : m < n := ln ▸ (List.getElem?_eq_some_iff.mp hm).1
  let tb : WX → TS := fun W D σ H => ∃ Ech : XK, (∀ cls d σ' H', Ech cls d H' → W cls d σ' H') ∧ σ[0]? = some (some (.ref f)) ∧ H c' = some (CodeO c' q) ∧ tl Ech H (fun v H1 => D.nx (σ.set m (some v)) H1)
  have body : ∀ (W : WX) (pn : List (Addr × Obj)) (xe : Value → Shared → Prop), L2N.Takes (Z.tr pn xe) W → PSs (Z.tr pn xe) [.Assign [.Name g gp.q1] (.Call (.Name a gp.q2) [] [] gp.q3) gp.q4] (tb W) := by
    intro W pn xe tk
    constructor
    rintro pins s1 σ1 H1 D I ⟨Ech, hW, e0, e1, e2⟩
    have st := pss_one (ps_set (X := Z.tr pn xe) (i := m) (pos := gp.q4) (pos' := gp.q1) nd hm (.inl kG) (act W pn xe Ech gp.q2 gp.q3 tk hW) (hsw _) (.inr kG))
    exact st.run pins s1 σ1 H1 D I ⟨e0, e1, e2⟩
  have tr := ps_tryY (X := Z) (pos := gp.q10) rfl rfl nd hi kE rfl body (HdY.len ln (s1 s H))
  let t2 : TS := fun D σ H => ∀ v, σ[m]? = some (some v) → tS T X.K WN is2 D (only n m v) H
  have r2 : PSs Z [st2] (fun D σ H => ∃ v, σ[m]? = some (some v) ∧ tS T X.K WN is2 D (only n m v) H) := by
    refine PSs.mono (pss_len (s2 s H)) fun D σ H ⟨v, q, k⟩ l => ?_
    refine tS_up k (by rw [only_len, l]; exact ln.symm) (fun j w e => ?_) (fun _ _ z => z) (fun _ _ z => z) (fun _ _ z => z) (fun _ _ z => z)
    obtain ⟨rfl, rfl⟩ := only_at e
    exact q
  refine ⟨_, pss_cons tr r2, ?_⟩
  have same : (fun (v : V) (H1 : Hp) => ∃ w, ((L2.start Ng [V.ref f]).set m (some v))[m]? = some (some w) ∧ tS T X.K WN is2 { nx := fun _ H' => Q .non H', rt := Q } (only n m w) H1) = fun v H1 => tS T X.K WN is2 { nx := fun _ H' => Q .non H', rt := Q } (only n m v) H1 := by
    funext v H1
    have here : ((L2.start Ng [V.ref f]).set m (some v))[m]? = some (some v) := List.getElem?_set_self (by rw [lenS]; exact hmn)
    refine propext ⟨fun ⟨w, z, k⟩ => ?_, fun k => ⟨v, here, k⟩⟩
    rw [here] at z
    cases z
    exact k
  refine ⟨ECauY T X.K n i Q l, fun cls d σ' H' z => ?_, h00 f, hc, ?_⟩
  · exact wish_len (D := { nx := _, rt := Q }) hin (fun _ _ _ => trivial) l z
  · show tl (ECauY T X.K n i Q l) H (fun (v : V) (H1 : Hp) => ∃ w, ((L2.start Ng [V.ref f]).set m (some v))[m]? = some (some w) ∧ tS T X.K WN is2 { nx := fun _ H' => Q .non H', rt := Q } (only n m w) H1)
    rw [same]
    exact h
/-- x(lambda: e): n slots, i the error's, m the value's; the clauses -/
def iCauY (n i m : Nat) (hs : List (List Nat × List Nat × IS)) (is2 : IS) (ie : IE) : IE := fun ρ S => match ie ρ S with
  | .ok d S' => retR (is2 (only n m d) S')
  | .ex c fs S' => (match pickY c hs with
    | some is1 => retR (is1 (only n i (exnOf c fs)) S')
    | none => .no)
  | .no => .no
theorem echo_pick {T : Tab} {K : PySem.W.Frag} {n i c : Nat} {Q : VK} {d : Option Addr} {H : Hp} {is : IS} (fin : ∀ a, H a = none → tS T K WN is { nx := fun _ _ => False, rt := Q } (only n i (.ref a)) (upd H a (exL a (He.ga K (T.cn c)) d))) :
    ∀ {hs : List (List Nat × List Nat × IS)} {l : List (Value × IS)}, FitY T K hs l → pickY c hs = some is → ECauY T K n i Q l (.ref (He.ga K (T.cn c))) d H := by
  intro hs l f
  induction f with
  | nil => intro e; cases e
  | @cons ys ns is2 cv hs l hy hn tl ih =>
    intro e
    unfold pickY at e
    dsimp only at e
    split at e
    · rename_i h1
      cases e
      exact ⟨_, rfl, true, hy c (by simpa using h1), fun _ => fin, fun z => by cases z⟩
    · split at e
      · rename_i h2
        exact ⟨_, rfl, false, hn c (by simpa using h2), (fun z => by cases z), fun _ => ih e⟩
      · cases e
theorem je_cauY {T : Tab} {X : Cx} {W : WX} {e : Expr} {n i m : Nat} {hs : List (List Nat × List Nat × IS)} {l : List (Value × IS)} {is2 : IS} {ie : IE} (fit : FitY T X.K hs l)
    (lam : PE X e (tLam (T.tabs X.K) (TCauY T X.K n i m l is2) fun E => tE T X.K (fun cls d _ H => E cls d H) ie)) : JE T X W e (iCauY n i m hs is2 ie) := by
  refine PE.mono lam fun σ H Q ⟨ρ, F, S, ι, G, em, sr, h⟩ => ⟨em.tb, fun H1 more tb => ⟨ρ, F, S, ι, G, em.lam more tb, sr, ?_⟩⟩
  unfold iCauY at h
  cases q : ie ρ S with
  | no => rw [q] at h; exact h.elim
  | ok d S1 =>
    rw [q] at h
    dsimp only at h
    intro v ι' G' H' em' x' r
    refine ⟨only n m d, F, S1, ι', G', em', sr_only r, ?_⟩
    cases q2 : is2 (only n m d) S1 with
    | no => rw [q2] at h; exact h.elim
    | ex _ _ _ => rw [q2] at h; exact h.elim
    | ok fl S2 =>
      rw [q2] at h
      cases fl with
      | rt d2 => exact fun v ι2 G2 H2 em2 x2 r2 => h v ι2 G2 H2 em2 (x'.trans x2) r2
      | _ => exact h.elim
  | ex c fs S1 =>
    rw [q] at h
    dsimp only at h
    cases pk : pickY c hs with
    | none => rw [pk] at h; exact h.elim
    | some is1 =>
      rw [pk] at h
      dsimp only at h
      intro dd ι' G' H' em' x' xr
      refine echo_pick (fun a na => ?_) fit pk
      obtain ⟨em2, x2⟩ := em'.frz (o := exL a (He.ga X.K (T.cn c)) dd) na
      have xr2 : XR T X.K (upd G' a (exL a (He.ga X.K (T.cn c)) dd)) ι' fs dd := xr.imp id fun ⟨d, vs, e, q, r⟩ => ⟨d, vs, e, x2.1 _ _ q, r.mono x2.1 x2.2⟩
      refine ⟨only n i (exnOf c fs), F, S1, ι', _, em2, sr_only (exnOf_ok xr2 upd_same), ?_⟩
      cases q2 : is1 (only n i (exnOf c fs)) S1 with
      | no => rw [q2] at h; exact h.elim
      | ex _ _ _ => rw [q2] at h; exact h.elim
      | ok fl S2 =>
        rw [q2] at h
        cases fl with
        | rt d2 => exact fun v ι3 G3 H3 em3 x3 r3 => h v ι3 G3 H3 em3 ((x'.trans x2).trans x3) r3
        | _ => exact h.elim
end J
set_option Elab.async false
set_option linter.all false
set_option maxRecDepth 100000
set_option maxHeartbeats 1010000
/-! JYj: l.pop(); an instance made by places and keywords, keyword-only parameters among them -/
namespace J
open PySem PySem.Spec L2 PyProof.Rows
/-! ### C(e, ..), further parameters by their defaults -/
end J
set_option Elab.async false
set_option linter.all false
set_option maxRecDepth 100000
set_option maxHeartbeats 1010000
/-! JYk: a list walked, a tuple unpacked, while an error is handled -/
namespace J
open PySem PySem.Spec L2 PyProof.Rows HotX
/-! ### in the context -/
/-- the error at a is told -/
def HotIs (a : Addr) (H : Hp) : Prop := ∃ C d, H a = some (exL a C d)
theorem HotIs.at {X : Cx} {pins : List (Addr × Obj)} {σ : L2.St} {H : Hp} {s : Shared} {a : Addr} (hh : X.A.handled = some (.ref a)) (I : Inv X pins σ H s) (k : HotIs a H) : HotAt X.A a s.heap := by
  obtain ⟨C, d, e⟩ := k
  obtain ⟨o, vs, g, z, dt⟩ := exL_at I.hok e
  exact ⟨hh, o, vs, g, dt, z.2.2 vs dt⟩
end J
set_option Elab.async false
set_option linter.all false
set_option maxRecDepth 100000
set_option maxHeartbeats 1010000
/-! JYl: a list comprehension over a list while an error is handled -/
namespace J
open PySem PySem.Spec L2 PyProof.Rows HotX
end J
set_option Elab.async false
set_option linter.all false
set_option maxRecDepth 100000
set_option maxHeartbeats 1010000
/-! JYm: comprehensions in the suites of clauses, defs called there that know the error -/
namespace J
open PySem PySem.Spec L2 PyProof.Rows HotX
/-! ### a def that knows which error is handled -/
end J
set_option Elab.async false
set_option linter.all false
set_option maxRecDepth 100000
set_option maxHeartbeats 1010000
/-! JYn: a def called in a suite that knows the error; the clause whose suite knows it -/
namespace J
open PySem PySem.Spec L2 PyProof.Rows HotX
end J
set_option Elab.async false
set_option linter.all false
set_option maxRecDepth 100000
set_option maxHeartbeats 1010000
/-! JYo: try: body / finally: suite, where the body may raise; the suite raises nothing -/
namespace J
open PySem PySem.Spec L2 PyProof.Rows
/-! ### as a statement -/
end J
set_option Elab.async false
set_option linter.all false
set_option maxRecDepth 100000
set_option maxHeartbeats 1010000
/-! JYp: methods with a star parameter and one by keyword alone, None by default; two fields set at once -/
namespace J
open PySem PySem.Spec L2 PyProof.Rows
/-! ### o.f, o.g = a, b -/
end J
set_option Elab.async false
set_option linter.all false
set_option maxRecDepth 100000
set_option maxHeartbeats 1010000
/-! JYq: repr of lists and tuples that hold instances whose classes have a __repr__ of their own -/
namespace J
open PySem PySem.Spec L2 PyProof.Rows
/-! ### a def called under any repr, whatever is handled -/
structure FnGU (P : Program) (w : World) (K : PySem.W.Frag) (mg : Str → Option Value) (base : Heap) (k : Nat) (f : Addr) (fd : FuncData) (ps : List Str) (sp : Sp) : Prop where
  len : ∀ (vs : List V) H Q E, sp vs H Q E → vs.length = ps.length
  run : ∀ (A : Around) (fr : List Env) (s : Shared) (H : Hp) (ar : Args) (us : List Value) (vs : List V) (Q : VK), L2H.RoomH k A →
    Env0 P w K mg base A fr s H → BindsTo s fd ar (ps.zip us) → Vals vs us → sp vs H Q C8.E0 → codeAny (model P w) A (.call (.ref f) ar) (CR C8.CX0 fr P w H s Q C8.E0) s
theorem FnGU.mono {P : Program} {w : World} {K : PySem.W.Frag} {mg : Str → Option Value} {base : Heap} {f : Addr} {fd : FuncData} {k j : Nat} {ps : List Str} {sp : Sp} (F : FnGU P w K mg base j f fd ps sp) (h : j ≤ k) : FnGU P w K mg base k f fd ps sp :=
  ⟨F.len, fun A fr s H ar us vs Q r => F.run A fr s H ar us vs Q (r.mono h)⟩
/-- the class c answers repr by rp, which looks at an instance's fields alone -/
def RepC (P : Program) (w : World) (T : Tab) (K : PySem.W.Frag) (mg : Str → Option Value) (base : Heap) (k c : Nat) (rp : List D → Option (List Nat)) : Prop :=
  ∃ f fd sem, FnGU P w K mg base k f fd ["self"] (spJ T K 1 sem) ∧ Binds K fd ["self"] [] ∧ PySem.W.findIn K (.ref (He.ga K (T.cn c))) "__repr__" = some (some (.ref f)) ∧ PySem.W.isFn K (.ref f) = true ∧
    ∀ fs l S, rp fs = some l → sem [.ins c fs] S = .ok (.str l) S ∨ sem [.ins c fs] S = .ok (.str l) (S.trim S.next)
/-! ### the state between two items -/
section
variable (T : Tab) (X : Cx) (F : Hp) (S : Store) (G : Hp) (ι : List Addr)
def StX (pins : List (Addr × Obj)) (σ : L2.St) (s : Shared) : Prop := ∃ ι1 G1 H1, Em T X.K F S ι1 G1 H1 ∧ Ext G ι G1 ι1 ∧ Inv X pins σ H1 s
structure Bx (X : Cx) (k : Nat) (A : Around) : Prop where
  r : L2H.RoomH k A
  fr : A.frames = some X.stack
/-- u's text is t, under any repr -/
def SayX (k : Nat) (as : List Addr) (u : Value) (t : Str) : Prop :=
  ∀ (b : Nat) (A : Around) (g : List Code) (E : Value → Shared → Prop) (pins : List (Addr × Obj)) (σ : L2.St) (s : Shared) (Q : Str → Shared → Prop), b + t.length ≤ sizeLine → A.guards = some g → (∀ a ∈ as, Clear g a) → Bx X k A →
    StX T X F S G ι pins σ s → (∀ s', StX T X F S G ι pins σ s' → Q t s') → wpAny (model X.prog X.w) A (pyReprUnder b u) Q E s
def SayV (k : Nat) (as : List Addr) (v : V) (t : Str) : Prop := ∀ u, RelV v u → SayX T X F S G ι k as u t
end
section
variable {T : Tab} {X : Cx} {F : Hp} {S : Store} {G : Hp} {ι : List Addr} {pins : List (Addr × Obj)} {σ : L2.St} {s : Shared} {k j : Nat} {as as' : List Addr} {u : Value} {v : V} {t : Str} {A : Around}
theorem Bx.le (b : Bx X k A) (h : j ≤ k) : Bx X j A := ⟨⟨by have := b.r.dp; omega, by have := b.r.un; omega⟩, b.fr⟩
theorem StX.kept {h' : Heap} {tk : Nat} (st : StX T X F S G ι pins σ s) (kp : ∀ b o, s.heap.get? b = some o → h'.get? b = some o) : StX T X F S G ι pins σ { s with heap := h', toks := tk } :=
  let ⟨ι1, G1, H1, em, x, I⟩ := st
  ⟨ι1, G1, H1, em, x, I.kept kp⟩
theorem SayX.le (h : SayX T X F S G ι j as u t) (hj : j ≤ k) (sub : ∀ b ∈ as, b ∈ as') : SayX T X F S G ι k as' u t := fun b A g E pins σ s Q hb hg hc hx => h b A g E pins σ s Q hb hg (fun a ha => hc a (sub a ha)) (hx.le hj)
theorem SayV.le (h : SayV T X F S G ι j as v t) (hj : j ≤ k) (sub : ∀ b ∈ as, b ∈ as') : SayV T X F S G ι k as' v t := fun u r => (h u r).le hj sub
/-! ### an instance -/
/-! ### a list -/
/-- all items are told -/
inductive SayL (T : Tab) (X : Cx) (F : Hp) (S : Store) (G : Hp) (ι : List Addr) (k : Nat) (as : List Addr) : List V → List Str → Prop
  | nil : SayL T X F S G ι k as [] []
  | cons {v : V} {t : Str} {vs : List V} {ts : List Str} : SayV T X F S G ι k as v t → SayL T X F S G ι k as vs ts → SayL T X F S G ι k as (v :: vs) (t :: ts)
theorem SayL.le (hj : j ≤ k) (sub : ∀ b ∈ as, b ∈ as') : ∀ {vs : List V} {ts : List Str}, SayL T X F S G ι j as vs ts → SayL T X F S G ι k as' vs ts
  | _, _, .nil => .nil
  | _, _, .cons h r => .cons (h.le hj sub) (r.le hj sub)
theorem SayL.length : ∀ {vs : List V} {ts : List Str}, SayL T X F S G ι k as vs ts → ts.length = vs.length
  | _, _, .nil => rfl
  | _, _, .cons _ r => by rw [List.length_cons, List.length_cons, r.length]
theorem SayL.at_ : ∀ {vs : List V} {ts : List Str}, SayL T X F S G ι k as vs ts → ∀ (i : Nat) (v : V), vs[i]? = some v → ∃ t, ts[i]? = some t ∧ SayV T X F S G ι k as v t
  | _, _, .nil, _, _, e => by simp only [List.getElem?_nil] at e; exact nomatch e
  | _, _, .cons h _, 0, _, e => by
    cases (show some _ = some _ from e)
    exact ⟨_, rfl, h⟩
  | _, _, .cons _ r, i + 1, v, e => r.at_ i v (by simpa using e)
/-! ### a tuple -/
end
end J
set_option Elab.async false
set_option linter.all false
set_option maxRecDepth 100000
set_option maxHeartbeats 1010000
/-! JYr: repr(x), x a list or a tuple that holds instances, or an instance, whatever is handled -/
namespace J
open PySem PySem.Spec L2 PyProof.Rows
/-! ### how deep lists and tuples lie -/
mutual
inductive Rk (G : Hp) : V → Nat → Prop
  | leaf {v : V} : (∀ a, v = .ref a → ∀ vs, G a ≠ some (.lst vs) ∧ G a ≠ some (.tup vs)) → Rk G v 0
  | lst {a : Addr} {vs : List V} {n : Nat} : G a = some (.lst vs) → RkS G vs n → Rk G (.ref a) (n + 1)
  | tup {a : Addr} {vs : List V} {n : Nat} : G a = some (.tup vs) → RkS G vs n → Rk G (.ref a) (n + 1)
inductive RkS (G : Hp) : List V → Nat → Prop
  | nil : RkS G [] 0
  | cons {v : V} {vs : List V} {n m : Nat} : Rk G v n → RkS G vs m → RkS G (v :: vs) (max n m)
end
mutual
theorem Rk.det {G : Hp} : ∀ {v : V} {n m : Nat}, Rk G v n → Rk G v m → n = m
  | _, _, _, .leaf h, k => by
    cases k with
    | leaf _ => rfl
    | lst e _ => exact absurd e (h _ rfl _).1
    | tup e _ => exact absurd e (h _ rfl _).2
  | _, _, _, .lst e r, k => by
    cases k with
    | leaf h => exact absurd e (h _ rfl _).1
    | lst e2 r2 =>
      rw [e] at e2
      cases e2
      rw [RkS.det r r2]
    | tup e2 _ =>
      rw [e] at e2
      exact nomatch e2
  | _, _, _, .tup e r, k => by
    cases k with
    | leaf h => exact absurd e (h _ rfl _).2
    | lst e2 _ =>
      rw [e] at e2
      exact nomatch e2
    | tup e2 r2 =>
      rw [e] at e2
      cases e2
      rw [RkS.det r r2]
theorem RkS.det {G : Hp} : ∀ {vs : List V} {n m : Nat}, RkS G vs n → RkS G vs m → n = m
  | _, _, _, .nil, k => by cases k; rfl
  | _, _, _, .cons h r, k => by
    cases k with
    | cons h2 r2 => rw [Rk.det h h2, RkS.det r r2]
end
/-- addresses of lists and tuples not deeper than n -/
def Low (G : Hp) (as : List Addr) (n : Nat) : Prop := ∀ b ∈ as, ∃ m, m ≤ n ∧ Rk G (.ref b) m
theorem Low.le {G : Hp} {as : List Addr} {n m : Nat} (h : Low G as n) (k : n ≤ m) : Low G as m := fun b hb => let ⟨j, l, r⟩ := h b hb; ⟨j, Nat.le_trans l k, r⟩
theorem Low.no {G : Hp} {as : List Addr} {n : Nat} {a : Addr} (h : Low G as n) (r : Rk G (.ref a) (n + 1)) : a ∉ as := fun hm => by
  obtain ⟨m, l, r2⟩ := h a hm
  have := r.det r2
  omega
theorem Low.cons {G : Hp} {as : List Addr} {n : Nat} {a : Addr} (h : Low G as n) (r : Rk G (.ref a) (n + 1)) : Low G (a :: as) (n + 1) := fun b hb => by
  rcases (List.mem_cons.mp hb) with rfl | hb
  · exact ⟨n + 1, Nat.le_refl _, r⟩
  · exact (h.le (Nat.le_succ n)) b hb
/-! ### the text of a tree -/
mutual
def txX (rp : Nat → List D → Option (List Nat)) : D → Option (Str × Nat)
  | .non => some (PyData.shown .none, 0)
  | .bl b => some (PyData.shown (.bool b), 0)
  | .int i => if i.natAbs.log2 < 1920 then some (PyData.shown (.int i), 0) else none
  | .str x => some (PyData.shown (.str ⟨x.toArray⟩), 0)
  | .dct [] [] => some (PyData.shown (.dict []), 0)
  | .ins c fs => (rp c fs).map fun l => (⟨l.toArray⟩, 0)
  | .lst xs => (txXs rp xs).map fun p => (listText p.1, p.2 + 1)
  | .tup xs => (txXs rp xs).map fun p => (tupleText p.1, p.2 + 1)
  | _ => none
def txXs (rp : Nat → List D → Option (List Nat)) : List D → Option (List Str × Nat)
  | [] => some ([], 0)
  | x :: xs => (txX rp x).bind fun p => (txXs rp xs).map fun q => (p.1 :: q.1, max p.2 q.2)
end
/-! ### the call -/
end J
set_option Elab.async false
set_option linter.all false
set_option maxRecDepth 100000
set_option maxHeartbeats 1010000
/-! JYs: what repr of a board and of a history say -/
namespace J
open PySem PySem.Spec L2 PyProof.Rows
theorem RepC.mono {P : Program} {w : World} {T : Tab} {K : PySem.W.Frag} {mg : Str → Option Value} {base : Heap} {k j c : Nat} {rp : List D → Option (List Nat)} (h : RepC P w T K mg base j c rp) (hj : j ≤ k) : RepC P w T K mg base k c rp :=
  let ⟨f, fd, sem, F, r⟩ := h
  ⟨f, fd, sem, F.mono hj, r⟩
theorem RepC.of_eq {P : Program} {w : World} {T : Tab} {K : PySem.W.Frag} {mg : Str → Option Value} {base : Heap} {k c : Nat} {rp rp' : List D → Option (List Nat)} (h : RepC P w T K mg base k c rp) (e : ∀ fs, rp' fs = rp fs) : RepC P w T K mg base k c rp' := by
  have : rp' = rp := funext e
  rw [this]
  exact h
end J
set_option Elab.async false
set_option linter.all false
set_option maxRecDepth 100000
set_option maxHeartbeats 1010000
/-! JYi: zip whose tuples are kept -/
namespace J
open PySem PySem.Spec L2 PyProof.Rows
/-- a zip that has handed out the tuple at T -/
abbrev ZipAt (h : Heap) (z TI TO T : Addr) (b : Bool) : Prop := h.get? z = some { cls := .type "zip", data := .fields #[rawInt T, .bool b, .bool false, .ref TI, .ref TO] }
section
variable {prog : Program} {w : World} {A : Around} {E : Value → Shared → Prop} {s : Shared} {z TI TO i1 i2 T : Addr} {fp1 fp2 : List Addr} {n1 n2 i : Nat} {P1 P2 : Nat → Value → Prop} {St1 St2 : Nat → Heap → Prop} {b : Bool}
theorem kept_next {Q : Value → Shared → Prop} (S : ZipSep2 z TI TO i1 i2 fp1 fp2) (D1 : Draws prog w A i1 fp1 n1 P1 St1) (D2 : Draws prog w A i2 fp2 n2 P2 St2)
    (hz : ZipAt s.heap z TI TO T b) (hTI : IsTupOf2 s.heap TI (.ref i1) (.ref i2)) (alive : ∃ o, s.heap.get? T = some o) (st1 : St1 i s.heap) (st2 : St2 i s.heap) (lt1 : i < n1) (lt2 : i < n2)
    (go : ∀ x1 x2 h2 tk, P1 i x1 → P2 i x2 → ZipAt h2 z TI TO T true → St1 (i + 1) h2 → St2 (i + 1) h2 → IsTupOf2 h2 s.heap.objs.size x1 x2 → h2.objs.size = s.heap.objs.size + 1 →
      (∀ c o, c ≠ z → c ≠ i1 → c ≠ i2 → s.heap.get? c = some o → h2.get? c = some o) → Q (.ref s.heap.objs.size) { s with heap := h2, toks := tk }) :
    wpAny (model prog w) A (Builtin.«zip.__next__» ⟨[.ref z], []⟩) (fun fin s2 => ∃ v, fin = .done (.ret v) ∧ Q v s2) E s := by
  obtain ⟨hp, gen, dr, tk0, os⟩ := s
  obtain ⟨ob, aliveT⟩ := alive
  change wpAny _ _ (field (.ref z) 2 >>= _) _ _ _
  refine wpAny_bind (wpAny_field hz rfl (x := .bool false) rfl (?_ : _))
  change wpAny _ _ (field (.ref z) 3 >>= _) _ _ _
  refine wpAny_bind (wpAny_field hz rfl (x := .ref TI) rfl (?_ : _))
  refine wpAny_bind (wpAny_seqItems hTI rfl (?_ : _))
  change wpAny _ _ (Builtin.SmallTypes.ownedTupleIsFree (.ref z) >>= _) _ _ _
  have key : ∀ (R : Bool → Shared → Prop), (∀ h1, ZipAt h1 z TI TO T true → (∀ c o, c ≠ z → hp.get? c = some o → h1.get? c = some o) → h1.objs.size = hp.objs.size → R false ⟨h1, gen, dr, tk0, os⟩) → wpAny (model prog w) A (Builtin.SmallTypes.ownedTupleIsFree (.ref z)) R E ⟨hp, gen, dr, tk0, os⟩ := by
    intro R r
    delta Builtin.SmallTypes.ownedTupleIsFree
    refine wpAny_bind (wpAny_field hz rfl (x := rawInt T) rfl (?_ : _))
    show wpAny _ _ (loadIfAlive T >>= _) _ _ _
    refine wpAny_bind (PySem.W.kdx_alive aliveT ?_)
    dsimp only
    simp only [if_false, Option.isNone_some, Bool.false_eq_true]
    refine wpAny_bind (wpAny_field hz rfl (x := .bool b) rfl (?_ : _))
    cases b with
    | true =>
      rw [if_neg (show ¬ (Value.bool true != Value.bool true) = true by decide)]
      exact wpAny_pure (r hp hz (fun c o _ e => e) rfl)
    | false =>
      rw [if_pos (show (Value.bool false != Value.bool true) = true by decide)]
      exact wpAny_bind (wpAny_setField_rec hz (by simp) fun h1 z1 s1 => wpAny_pure (r h1 z1 (fun c o hc e => s1.extBut _ _ hc e) s1.1))
  refine wpAny_bind (key _ fun h1 hz1 k1 sz1 => ?_)
  simp only [if_false, Bool.false_eq_true]
  have st1h : St1 i h1 := D1.frame i hp h1 st1 fun c hc o e => k1 c o (fun q => S.zf1 (q ▸ hc)) e
  have st2h : St2 i h1 := D2.frame i hp h1 st2 fun c hc o e => k1 c o (fun q => S.zf2 (q ▸ hc)) e
  refine wpAny_bind ?_
  rw [← Array.forIn_toList]
  simp only [List.forIn_nil, List.forIn_cons]
  refine wpAny_bind (wpAny_bind (wpAny_holding (?_ : _)))
  show wpAny _ _ (Builtin.SmallTypes.nextOf (.ref i1) >>= _) _ _ ⟨h1, gen, dr, tk0, os⟩
  refine wpAny_bind (D1.item i _ _ _ lt1 st1h fun x1 p1 tk1 hx1 sn1 hp1 => wpAny_pure ?_)
  replace hp1 : Heap.SameBut i1 h1 p1 := hp1
  refine wpAny_pure ?_
  refine wpAny_bind (wpAny_bind (wpAny_holding (?_ : _)))
  show wpAny _ _ (Builtin.SmallTypes.nextOf (.ref i2) >>= _) _ _ ⟨p1, gen, dr, tk1, os⟩
  refine wpAny_bind (D2.item i _ _ _ lt2 (D2.over st2h hp1 S.sep1_2) fun x2 p2 tk2 hx2 sn2 hp2 => wpAny_pure ?_)
  replace hp2 : Heap.SameBut i2 p1 p2 := hp2
  refine wpAny_pure (wpAny_pure (?_ : _))
  refine wpAny_bind (wpAny_newTuple ?_ (by show 2 ≤ sizeLine; rw [sizeLine_eq]; omega))
  have size2 : p2.objs.size = hp.objs.size := by rw [hp2.1, hp1.1, sz1]
  have z2 : ZipAt p2 z TI TO T true := hp2.extBut _ _ S.zi2 (hp1.extBut _ _ S.zi1 hz1)
  refine wpAny_pure ⟨_, rfl, (?_ : _)⟩
  have push : ∀ {c o}, p2.get? c = some o → (p2.push { cls := .type "tuple", data := .seq #[x1, x2] }).get? c = some o := fun e => Heap.get?_push_of_some _ e
  have end_ := go x1 x2 (p2.push { cls := .type "tuple", data := .seq #[x1, x2] }) tk2 hx1 hx2 (push z2)
    (D1.frame _ _ _ (D1.over sn1 hp2 S.sep2_1) fun c _ o e => push e) (D2.frame _ _ _ sn2 fun c _ o e => push e)
    (by show (p2.push _).get? hp.objs.size = _; rw [← size2]; exact Heap.get?_push_size _ rfl) (by show (p2.push _).objs.size = hp.objs.size + 1; rw [size_push', size2])
    (fun c o cz c1 c2 e => push (hp2.extBut _ _ c2 (hp1.extBut _ _ c1 (k1 c o cz e))))
  show Q (.ref p2.objs.size) _
  rw [size2]
  exact end_
theorem kept_free {R : Bool → Shared → Prop} (hz : ZipAt s.heap z TI TO T b) (alive : ∃ o, s.heap.get? T = some o)
    (r : ∀ h1, ZipAt h1 z TI TO T true → (∀ c o, c ≠ z → s.heap.get? c = some o → h1.get? c = some o) → h1.objs.size = s.heap.objs.size → R false { s with heap := h1 }) : wpAny (model prog w) A (Builtin.SmallTypes.ownedTupleIsFree (.ref z)) R E s := by
  obtain ⟨ob, aliveT⟩ := alive
  delta Builtin.SmallTypes.ownedTupleIsFree
  refine wpAny_bind (wpAny_field hz rfl (x := rawInt T) rfl (?_ : _))
  show wpAny _ _ (loadIfAlive T >>= _) _ _ _
  refine wpAny_bind (PySem.W.kdx_alive aliveT ?_)
  dsimp only
  simp only [if_false, Option.isNone_some, Bool.false_eq_true]
  refine wpAny_bind (wpAny_field hz rfl (x := .bool b) rfl (?_ : _))
  cases b with
  | true =>
    rw [if_neg (show ¬ (Value.bool true != Value.bool true) = true by decide)]
    exact wpAny_pure (r s.heap hz (fun c o _ e => e) rfl)
  | false =>
    rw [if_pos (show (Value.bool false != Value.bool true) = true by decide)]
    exact wpAny_bind (wpAny_setField_rec hz (by simp) fun h1 z1 s1 => wpAny_pure (r h1 z1 (fun c o hc e => s1.extBut _ _ hc e) s1.1))
theorem kept_end {Q : Fin → Shared → Prop} (S : ZipSep2 z TI TO i1 i2 fp1 fp2) (D1 : Draws prog w A i1 fp1 n1 P1 St1)
    (hz : ZipAt s.heap z TI TO T b) (hTI : IsTupOf2 s.heap TI (.ref i1) (.ref i2)) (alive : ∃ o, s.heap.get? T = some o) (st1 : St1 n1 s.heap)
    (bad : ∀ h2 tk e, (∀ c o, c ≠ z → c ≠ i1 → s.heap.get? c = some o → h2.get? c = some o) → (∃ o, h2.get? e = some o ∧ o.cls = .type "StopIteration") → E (.ref e) { s with heap := h2, toks := tk }) : wpAny (model prog w) A (Builtin.«zip.__next__» ⟨[.ref z], []⟩) Q E s := by
  obtain ⟨hp, gen, dr, tk0, os⟩ := s
  change wpAny _ _ (field (.ref z) 2 >>= _) _ _ _
  refine wpAny_bind (wpAny_field hz rfl (x := .bool false) rfl (?_ : _))
  change wpAny _ _ (field (.ref z) 3 >>= _) _ _ _
  refine wpAny_bind (wpAny_field hz rfl (x := .ref TI) rfl (?_ : _))
  refine wpAny_bind (wpAny_seqItems hTI rfl (?_ : _))
  change wpAny _ _ (Builtin.SmallTypes.ownedTupleIsFree (.ref z) >>= _) _ _ _
  refine wpAny_bind (kept_free hz alive fun h1 hz1 k1 sz1 => ?_)
  simp only [if_false, Bool.false_eq_true]
  have st1h : St1 n1 h1 := D1.frame n1 hp h1 st1 fun c hc o e => k1 c o (fun q => S.zf1 (q ▸ hc)) e
  refine wpAny_bind ?_
  rw [← Array.forIn_toList]
  simp only [List.forIn_nil, List.forIn_cons]
  refine wpAny_bind (wpAny_bind (wpAny_holding (?_ : _)))
  show wpAny _ _ (Builtin.SmallTypes.nextOf (.ref i1) >>= _) _ _ ⟨h1, gen, dr, tk0, os⟩
  refine wpAny_bind (D1.done ⟨h1, gen, dr, tk0, os⟩ _ _ st1h fun q e hq he => ?_)
  exact bad q tk0 e (fun c o cz c1 x => hq c o c1 (k1 c o cz x)) he
theorem kept_pyNext {Q : Option Value → Shared → Prop} (S : ZipSep2 z TI TO i1 i2 fp1 fp2) (D1 : Draws prog w A.in1 i1 fp1 n1 P1 St1) (D2 : Draws prog w A.in1 i2 fp2 n2 P2 St2)
    (hz : ZipAt s.heap z TI TO T b) (hTI : IsTupOf2 s.heap TI (.ref i1) (.ref i2)) (alive : ∃ o, s.heap.get? T = some o) (st1 : St1 i s.heap) (st2 : St2 i s.heap) (lt1 : i < n1) (lt2 : i < n2)
    (go : ∀ x1 x2 h2 tk, P1 i x1 → P2 i x2 → ZipAt h2 z TI TO T true → St1 (i + 1) h2 → St2 (i + 1) h2 → IsTupOf2 h2 s.heap.objs.size x1 x2 → h2.objs.size = s.heap.objs.size + 1 →
      (∀ c o, c ≠ z → c ≠ i1 → c ≠ i2 → s.heap.get? c = some o → h2.get? c = some o) → Q (some (.ref s.heap.objs.size)) { s with heap := h2, toks := tk }) : wpAny (model prog w) A (pyNext (.ref z)) Q E s := by
  have ty : s.TypeIs (.ref z) "zip" := ⟨_, hz, rfl⟩
  unfold pyNext
  exact wpAny_bind (wpAny_attempt (wpAny_callSpecial?_slot (name := Str.ofString "__next__") ty F.slot_zip_next (wpAny_call_entry F.slot_zip_next ty F.entry_zip_next
    (kept_next S D1 D2 hz hTI alive st1 st2 lt1 lt2 fun x1 x2 h2 tk y1 y2 b1 b2 b3 b4 b5 b6 => wpAny_pure (go x1 x2 h2 tk y1 y2 b1 b2 b3 b4 b5 b6)) (F.args_zip_next_1 _))))
theorem kept_pyEnd {Q : Option Value → Shared → Prop} (S : ZipSep2 z TI TO i1 i2 fp1 fp2) (D1 : Draws prog w A.in1 i1 fp1 n1 P1 St1)
    (hz : ZipAt s.heap z TI TO T b) (hTI : IsTupOf2 s.heap TI (.ref i1) (.ref i2)) (alive : ∃ o, s.heap.get? T = some o) (st1 : St1 n1 s.heap)
    (go : ∀ h2 tk, (∀ c o, c ≠ z → c ≠ i1 → s.heap.get? c = some o → h2.get? c = some o) → Q none { s with heap := h2, toks := tk }) : wpAny (model prog w) A (pyNext (.ref z)) Q E s := by
  have ty : s.TypeIs (.ref z) "zip" := ⟨_, hz, rfl⟩
  unfold pyNext
  refine wpAny_bind (wpAny_attempt (wpAny_callSpecial?_slot (name := Str.ofString "__next__") ty F.slot_zip_next (wpAny_call_entry F.slot_zip_next ty F.entry_zip_next
    (kept_end S D1 hz hTI alive st1 fun h2 tk e k stop => ?_) (F.args_zip_next_1 _))))
  obtain ⟨ob, at_, cl⟩ := stop
  refine wpAny_bind (wpAny_isInstance (T := "StopIteration") (b := true) ⟨ob, at_, cl⟩ isSubtype_stop (?_ : _))
  exact wpAny_pure (go h2 tk k)
/-- a zip on its way over two iterators -/
def ZS (St1 St2 : Nat → Heap → Prop) (z TI TO i1 i2 : Addr) (i : Nat) (h : Heap) : Prop := ((IsZip h z TI TO .none ∧ ∃ a1 a2, IsTupOf2 h TO a1 a2) ∨ ∃ T b, ZipAt h z TI TO T b ∧ ∃ o, h.get? T = some o) ∧ IsTupOf2 h TI (.ref i1) (.ref i2) ∧ St1 i h ∧ St2 i h
theorem zs_next {Q : Option Value → Shared → Prop} (S : ZipSep2 z TI TO i1 i2 fp1 fp2) (D1 : Draws prog w A.in1 i1 fp1 n1 P1 St1) (D2 : Draws prog w A.in1 i2 fp2 n2 P2 St2) (zs : ZS St1 St2 z TI TO i1 i2 i s.heap) (lt1 : i < n1) (lt2 : i < n2)
    (go : ∀ x1 x2 h2 tk, P1 i x1 → P2 i x2 → ZS St1 St2 z TI TO i1 i2 (i + 1) h2 → IsTupOf2 h2 s.heap.objs.size x1 x2 → h2.objs.size = s.heap.objs.size + 1 →
      (∀ c o, c ≠ z → c ≠ TO → c ≠ i1 → c ≠ i2 → s.heap.get? c = some o → h2.get? c = some o) → Q (some (.ref s.heap.objs.size)) { s with heap := h2, toks := tk }) : wpAny (model prog w) A (pyNext (.ref z)) Q E s := by
  obtain ⟨zz, hTI, st1, st2⟩ := zs
  rcases zz with ⟨hz, a1, a2, hTO⟩ | ⟨T, b, hz, alive⟩
  · refine wpAny_pyNext_zipD2_item S D1 D2 hz hTI hTO st1 st2 lt1 lt2 fun x1 x2 h2 tk y1 y2 b1 b2 d1 d2 b5 b6 k => ?_
    exact go x1 x2 h2 tk y1 y2 ⟨.inr ⟨_, false, b1, ⟨_, b5⟩⟩, k _ _ S.TIz S.TITO S.TIi1 S.TIi2 hTI, d1, d2⟩ b5 b6 k
  · refine kept_pyNext S D1 D2 hz hTI alive st1 st2 lt1 lt2 fun x1 x2 h2 tk y1 y2 b1 d1 d2 b5 b6 k => ?_
    obtain ⟨o, ho⟩ := alive
    have live : ∃ o, h2.get? T = some o := by
      by_cases e1 : T = z
      · exact ⟨_, by rw [e1]; exact b1⟩
      by_cases e2 : T = i1
      · obtain ⟨o1, q⟩ := D1.live _ _ d1
        exact ⟨o1, e2 ▸ q⟩
      by_cases e3 : T = i2
      · obtain ⟨o1, q⟩ := D2.live _ _ d2
        exact ⟨o1, e3 ▸ q⟩
      exact ⟨o, k T o e1 e2 e3 ho⟩
    exact go x1 x2 h2 tk y1 y2 ⟨.inr ⟨T, true, b1, live⟩, k _ _ S.TIz S.TIi1 S.TIi2 hTI, d1, d2⟩ b5 b6 fun c o cz _ c1 c2 e => k c o cz c1 c2 e
theorem zs_end {Q : Option Value → Shared → Prop} (S : ZipSep2 z TI TO i1 i2 fp1 fp2) (D1 : Draws prog w A.in1 i1 fp1 n1 P1 St1) (D2 : Draws prog w A.in1 i2 fp2 n1 P2 St2) (zs : ZS St1 St2 z TI TO i1 i2 n1 s.heap)
    (go : ∀ h2 tk, (∀ c o, c ≠ z → c ≠ TO → c ≠ i1 → c ≠ i2 → s.heap.get? c = some o → h2.get? c = some o) → Q none { s with heap := h2, toks := tk }) : wpAny (model prog w) A (pyNext (.ref z)) Q E s := by
  obtain ⟨zz, hTI, st1, st2⟩ := zs
  rcases zz with ⟨hz, a1, a2, hTO⟩ | ⟨T, b, hz, alive⟩
  · exact wpAny_pyNext_zipD2_end S D1 D2 hz hTI hTO st1 st2 (Nat.le_refl _) (Nat.le_refl _) (.inl rfl) go
  · exact kept_pyEnd S D1 hz hTI alive st1 fun h2 tk k => go h2 tk fun c o cz _ c1 _ e => k c o cz c1 e
theorem zs_over {L : Addr} {h h2 : Heap} (D1 : Draws prog w A i1 fp1 n1 P1 St1) (D2 : Draws prog w A i2 fp2 n2 P2 St2) (zs : ZS St1 St2 z TI TO i1 i2 i h) (but : Heap.SameBut L h h2) (hL : ∃ o, h2.get? L = some o) (lz : L ≠ z) (lTI : L ≠ TI) (lTO : L ≠ TO) (l1 : L ∉ fp1) (l2 : L ∉ fp2) : ZS St1 St2 z TI TO i1 i2 i h2 := by
  obtain ⟨zz, hTI, st1, st2⟩ := zs
  refine ⟨?_, but.extBut _ _ (Ne.symm lTI) hTI, D1.over st1 but l1, D2.over st2 but l2⟩
  rcases zz with ⟨hz, a1, a2, hTO⟩ | ⟨T, b, hz, o, ho⟩
  · exact .inl ⟨but.extBut _ _ (Ne.symm lz) hz, a1, a2, but.extBut _ _ (Ne.symm lTO) hTO⟩
  · refine .inr ⟨T, b, but.extBut _ _ (Ne.symm lz) hz, ?_⟩
    by_cases e : T = L
    · rw [e]; exact hL
    · exact ⟨o, but.extBut _ _ e ho⟩
/-- what a list holds that was made from a zip -/
def ZRec (P1 P2 : Nat → Value → Prop) (bad : List Addr) (lo : Nat) (h : Heap) (acc : Array Value) (i : Nat) : Prop := acc.size = i ∧ (∀ j, j < i → ∃ T x1 x2, acc[j]? = some (.ref T) ∧ (T ∉ bad ∧ lo ≤ T) ∧ P1 j x1 ∧ P2 j x2 ∧ IsTupOf2 h T x1 x2) ∧ ∀ j j', j < j' → j' < i → acc[j]? ≠ acc[j']?
theorem zip_loop {R : Result → Shared → Prop} {n : Nat} {L : Addr} {res : Value} (S : ZipSep2 z TI TO i1 i2 fp1 fp2) (D1 : Draws prog w A.in1.in1 i1 fp1 n P1 St1) (D2 : Draws prog w A.in1.in1 i2 fp2 n P2 St2)
    (lz : L ≠ z) (lTI : L ≠ TI) (lTO : L ≠ TO) (li1 : L ≠ i1) (li2 : L ≠ i2) (l1 : L ∉ fp1) (l2 : L ∉ fp2) (few : n ≤ sizeLine) {lo : Nat} :
    ∀ (k i : Nat) (s : Shared) (acc : Array Value) (c : Nat), n - i = k → i ≤ n → lo ≤ s.heap.objs.size → ZS St1 St2 z TI TO i1 i2 i s.heap → (∀ b ∈ [L, z, TO, i1, i2], b < s.heap.objs.size) → s.heap.get? L = some { cls := .type "list", dict := none, data := .seq acc c, slots := #[] } → ZRec P1 P2 [L, z, TO, i1, i2] lo s.heap acc i →
    (∀ h2 tk acc2 c2, (∀ b o, b ∉ [L, z, TO, i1, i2] → s.heap.get? b = some o → h2.get? b = some o) → h2.get? L = some { cls := .type "list", dict := none, data := .seq acc2 c2, slots := #[] } → ZRec P1 P2 [L, z, TO, i1, i2] lo h2 acc2 n → R (.ok (.ret res)) { s with heap := h2, toks := tk }) →
    codeAny (model prog w) A (.builtin "list.extend.loop" ⟨[.ref L, .ref z, res], []⟩) R s := by
  intro k
  induction k with
  | zero =>
    intro i s acc c hk hi hlo zs low at_ rec fin
    obtain rfl : i = n := by omega
    refine codeAny_builtin F.entry_extend_loop (?_ : _)
    rw [Around.under_plainId (F.plain_extend_loop) _]
    show wpAny _ A.in1 (pyNext (.ref z) >>= _) _ _ s
    refine wpAny_bind (zs_end S D1 D2 zs fun h2 tk k2 => ?_)
    have keep : ∀ b o, b ∉ [L, z, TO, i1, i2] → s.heap.get? b = some o → h2.get? b = some o := fun b o hb e => k2 b o (fun x => hb (by simp [x])) (fun x => hb (by simp [x])) (fun x => hb (by simp [x])) (fun x => hb (by simp [x])) e
    refine wpAny_pure (fin h2 tk acc c keep (k2 L _ lz lTO li1 li2 at_) ⟨rec.1, fun j hj => ?_, rec.2.2⟩)
    obtain ⟨T, x1, x2, r1, r2, r3, r4, r5⟩ := rec.2.1 j hj
    exact ⟨T, x1, x2, r1, r2, r3, r4, keep T _ r2.1 r5⟩
  | succ k ih =>
    intro i s acc c hk hi hlo zs low at_ rec fin
    have lt : i < n := by omega
    refine codeAny_builtin F.entry_extend_loop (?_ : _)
    rw [Around.under_plainId (F.plain_extend_loop) _]
    show wpAny _ A.in1 (pyNext (.ref z) >>= _) _ _ s
    refine wpAny_bind (zs_next S D1 D2 zs lt lt fun x1 x2 h2 tk p1 p2 zs2 tup sz k2 => ?_)
    have keep : ∀ b o, b ∉ [L, z, TO, i1, i2] → s.heap.get? b = some o → h2.get? b = some o := fun b o hb e => k2 b o (fun x => hb (by simp [x])) (fun x => hb (by simp [x])) (fun x => hb (by simp [x])) (fun x => hb (by simp [x])) e
    have at2 := k2 L _ lz lTO li1 li2 at_
    show wpAny _ A.in1 (updateSeq L (·.push (.ref s.heap.objs.size)) >>= _) _ _ { s with heap := h2, toks := tk }
    refine wpAny_bind ?_
    have but := Heap.SameBut.update h2 L (Obj.mapSeq (·.push (Value.ref s.heap.objs.size)))
    have at3 := Heap.get?_update_self (Obj.mapSeq (·.push (Value.ref s.heap.objs.size))) at2 rfl
    have fresh : s.heap.objs.size ∉ [L, z, TO, i1, i2] := fun hm => Nat.lt_irrefl _ (low _ hm)
    have keep3 : ∀ b o, b ≠ L → h2.get? b = some o → (h2.update L (Obj.mapSeq (·.push (Value.ref s.heap.objs.size)))).get? b = some o := fun b o hb e => but.extBut _ _ hb e
    refine wpAny_updateSeq at2 rfl (wpAny_pure ⟨plainId_quiet (F.plain_extend_loop) _, ih (i + 1) _ (acc.push (.ref s.heap.objs.size)) _ (by omega) lt (by show lo ≤ (h2.update L _).objs.size; rw [Heap.size_update, sz]; exact Nat.le_succ_of_le hlo) (zs_over D1 D2 zs2 but ⟨_, at3⟩ lz lTI lTO l1 l2) (fun b hb => ?_) at3 ⟨?_, fun j hj => ?_, fun j j' jj hj => ?_⟩ fun h4 tk4 acc4 c4 k4 at4 rec4 => ?_⟩) (by rw [rec.1]; omega) (by show (acc.push _).size ≤ sizeLine + 1; rw [Array.size_push, rec.1]; omega)
    · have := low b hb
      show b < (h2.update L _).objs.size
      rw [Heap.size_update, sz]
      exact Nat.lt_of_lt_of_le this (Nat.le_succ _)
    · rw [Array.size_push, rec.1]
    · by_cases e : j = i
      · refine ⟨s.heap.objs.size, x1, x2, ?_, ⟨fresh, hlo⟩, e ▸ p1, e ▸ p2, keep3 _ _ (fun q => fresh (by simp [q])) tup⟩
        rw [e, ← rec.1]
        exact Array.getElem?_push_size
      · obtain ⟨T, y1, y2, r1, r2, r3, r4, r5⟩ := rec.2.1 j (by omega)
        refine ⟨T, y1, y2, ?_, r2, r3, r4, keep3 _ _ (fun q => r2.1 (by simp [q])) (keep T _ r2.1 r5)⟩
        rw [Array.getElem?_push_lt (by rw [rec.1]; omega)]
        rw [Array.getElem?_eq_getElem (by rw [rec.1]; omega)] at r1
        exact r1
    · have jl : j < acc.size := by rw [rec.1]; omega
      by_cases e : j' = i
      · obtain ⟨T, y1, y2, r1, _, _, _, r5⟩ := rec.2.1 j (by omega)
        rw [e, ← rec.1, Array.getElem?_push_size, Array.getElem?_push_lt jl]
        rw [Array.getElem?_eq_getElem jl] at r1
        rw [r1]
        intro q
        have lt := Heap.lt_size r5
        have q2 : T = s.heap.objs.size := by
          injection q with q
          injection q
        exact absurd (q2 ▸ lt : s.heap.objs.size < s.heap.objs.size) (Nat.lt_irrefl _)
      · have jl' : j' < acc.size := by rw [rec.1]; omega
        rw [Array.getElem?_push_lt jl, Array.getElem?_push_lt jl', ← Array.getElem?_eq_getElem jl, ← Array.getElem?_eq_getElem jl']
        exact rec.2.2 j j' jj (by omega)
    · exact fin h4 tk4 acc4 c4 (fun b o hb e => k4 b o hb (keep3 b o (fun q => hb (by simp [q])) (keep b o hb e))) at4 rec4
theorem nolen_zip : typeLookup (.type "zip") "__len__" = pure none := by rw [typeLookup_type, builtinLookup_eq_fast]; kernel_rfl
theorem nohint_zip : typeLookup (.type "zip") "__length_hint__" = pure none := by rw [typeLookup_type, builtinLookup_eq_fast]; kernel_rfl
/-- the tuples of a new zip, gathered -/
theorem collect_zip {n : Nat} {a1 a2 : Value} {Q : List Value → Shared → Prop} (S : ZipSep2 z TI TO i1 i2 fp1 fp2) (D1 : Draws prog w A.in1.in1 i1 fp1 n P1 St1) (D2 : Draws prog w A.in1.in1 i2 fp2 n P2 St2)
    (hz : IsZip s.heap z TI TO .none) (hTI : IsTupOf2 s.heap TI (.ref i1) (.ref i2)) (hTO : IsTupOf2 s.heap TO a1 a2) (st1 : St1 0 s.heap) (st2 : St2 0 s.heap) (low1 : ∀ b ∈ fp1, b < s.heap.objs.size) (low2 : ∀ b ∈ fp2, b < s.heap.objs.size) (few : n ≤ sizeLine)
    (go : ∀ h2 tk acc, (∀ b o, b ∉ [z, TO, i1, i2] → s.heap.get? b = some o → h2.get? b = some o) → ZRec P1 P2 [s.heap.objs.size, z, TO, i1, i2] s.heap.objs.size h2 acc n → Q acc.toList { s with heap := h2, toks := tk }) : wpAny (model prog w) A (collect (.ref z)) Q E s := by
  have lz : s.heap.objs.size ≠ z := Nat.ne_of_gt (Heap.lt_size hz)
  have lTI : s.heap.objs.size ≠ TI := Nat.ne_of_gt (Heap.lt_size hTI)
  have lTO : s.heap.objs.size ≠ TO := Nat.ne_of_gt (Heap.lt_size hTO)
  have l1 : s.heap.objs.size ∉ fp1 := fun hm => Nat.lt_irrefl _ (low1 _ hm)
  have l2 : s.heap.objs.size ∉ fp2 := fun hm => Nat.lt_irrefl _ (low2 _ hm)
  have li1 : s.heap.objs.size ≠ i1 := fun e => l1 (e ▸ S.mem1)
  have li2 : s.heap.objs.size ≠ i2 := fun e => l2 (e ▸ S.mem2)
  unfold collect
  refine wpAny_bind (wpAny_runValue (codeAny_builtin F.entry_proto_collect (?_ : _)))
  rw [Around.under_plainId (F.plain_proto_collect) _]
  change wpAny _ A.in1 (newList [] >>= fun l => again (.builtin "list.__iadd__" ⟨[l, .ref z], []⟩)) _ _ s
  refine wpAny_bind (wpAny_newObj_type (?_ : _))
  refine wpAny_pure ⟨plainId_quiet (F.plain_list_iadd) _, codeAny_builtin F.entry_list_iadd (?_ : _)⟩
  rw [Around.under_plainId (F.plain_list_iadd) _]
  have push : ∀ b o, s.heap.get? b = some o → (s.heap.push { cls := .type "list", data := .seq ([] : List Value).toArray }).get? b = some o := fun b o e => Heap.get?_push_of_some _ e
  change wpAny _ A.in1 (Builtin.List.listExtendWith (.ref s.heap.objs.size) (.ref z) (.ref s.heap.objs.size)) _ _ _
  delta Builtin.List.listExtendWith
  have ty : ∀ (h2 : Heap) (tk : Nat), h2.get? z = s.heap.get? z → Shared.TypeIs { s with heap := h2, toks := tk } (.ref z) "zip" := fun h2 tk e => ⟨_, e.trans hz, rfl⟩
  have zp := (push z _ hz).trans hz.symm
  refine wpAny_bind (wpAny_typeOf (ty _ s.toks zp) (?_ : _))
  have same : Builtin.List.listSameRef (.ref s.heap.objs.size) (.ref z) = false := by simp [Builtin.List.listSameRef, lz]
  have no1 : (Value.type "zip" == Value.type "list") = false := by decide
  have no2 : (Value.type "zip" == Value.type "tuple") = false := by decide
  simp only [same, no1, no2, if_false, Bool.false_eq_true, Bool.or_false]
  have walk := WalksT.zipD2 S D1 D2
  refine wpAny_bind (walk.self 0 { s with heap := s.heap.push { cls := .type "list", data := .seq ([] : List Value).toArray } } _ _ ⟨push _ _ hz, push _ _ hTI, ⟨a1, a2, push _ _ hTO⟩, D1.frame _ _ _ st1 fun b _ o e => push b o e, D2.frame _ _ _ st2 fun b _ o e => push b o e⟩ (?_ : _))
  refine wpAny_bind (wpAny_holding (?_ : _))
  delta Builtin.List.listLengthHint
  refine wpAny_bind (wpAny_specialOf (ty _ s.toks zp) nolen_zip (?_ : _))
  change wpAny _ A.in1 (specialOf (Value.ref z) (Str.ofString "__length_hint__") >>= _) _ _ _
  refine wpAny_bind (wpAny_specialOf (ty _ s.toks zp) nohint_zip (?_ : _))
  refine wpAny_pure (?_ : _)
  change wpAny _ A.in1 (rule "list.extend.makes-room" >>= fun _ => Builtin.List.listTouch (.ref s.heap.objs.size) >>= fun _ => again (.builtin "list.extend.loop" ⟨[.ref s.heap.objs.size, .ref z, .ref s.heap.objs.size], []⟩)) _ _ _
  refine wpAny_bind (wpAny_rule (?_ : _))
  have at1 : (s.heap.push { cls := .type "list", data := .seq ([] : List Value).toArray }).get? s.heap.objs.size = some { cls := .type "list", data := .seq ([] : List Value).toArray } := Heap.get?_push_size _ (by rfl)
  refine wpAny_bind (?_ : _)
  change wpAny _ A.in1 (updateSeq s.heap.objs.size (·.push .none) >>= fun _ => updateSeq s.heap.objs.size (·.pop)) _ _ _
  refine wpAny_bind (wpAny_updateSeq at1 (by rfl) (?_ : _))
  have at2 := Heap.get?_update_self (Obj.mapSeq (·.push Value.none)) at1 (by rfl)
  refine wpAny_updateSeq at2 (by rfl) (?_ : _)
  have at3 := Heap.get?_update_self (Obj.mapSeq (·.pop)) at2 (by rfl)
  have others : ∀ b o, b ≠ s.heap.objs.size → s.heap.get? b = some o → (((s.heap.push { cls := .type "list", data := .seq ([] : List Value).toArray }).update s.heap.objs.size (Obj.mapSeq (·.push Value.none))).update s.heap.objs.size (Obj.mapSeq (·.pop))).get? b = some o :=
    fun b o hb e => (Heap.get?_update_other _ _ (Ne.symm hb)).trans ((Heap.get?_update_other _ _ (Ne.symm hb)).trans (push b o e))
  have zs : ZS St1 St2 z TI TO i1 i2 0 (((s.heap.push { cls := .type "list", data := .seq ([] : List Value).toArray }).update s.heap.objs.size (Obj.mapSeq (·.push Value.none))).update s.heap.objs.size (Obj.mapSeq (·.pop))) :=
    ⟨.inl ⟨others _ _ (Ne.symm lz) hz, a1, a2, others _ _ (Ne.symm lTO) hTO⟩, others _ _ (Ne.symm lTI) hTI, D1.frame _ _ _ st1 fun b hb o e => others b o (fun q => l1 (q ▸ hb)) e, D2.frame _ _ _ st2 fun b hb o e => others b o (fun q => l2 (q ▸ hb)) e⟩
  have low : ∀ b ∈ [s.heap.objs.size, z, TO, i1, i2], b < (((s.heap.push { cls := .type "list", data := .seq ([] : List Value).toArray }).update s.heap.objs.size (Obj.mapSeq (·.push Value.none))).update s.heap.objs.size (Obj.mapSeq (·.pop))).objs.size := fun b hb => by
    rw [Heap.size_update, Heap.size_update, size_push']
    have c1 := Heap.lt_size hz
    have c2 := Heap.lt_size hTO
    have c3 := low1 _ S.mem1
    have c4 := low2 _ S.mem2
    simp only [or_false, List.mem_cons, List.not_mem_nil] at hb
    rcases hb with rfl | rfl | rfl | rfl | rfl
    · exact Nat.lt_succ_self _
    · exact Nat.lt_succ_of_lt c1
    · exact Nat.lt_succ_of_lt c2
    · exact Nat.lt_succ_of_lt c3
    · exact Nat.lt_succ_of_lt c4
  refine wpAny_pure ⟨plainId_quiet (F.plain_extend_loop) _, zip_loop S D1 D2 lz lTI lTO li1 li2 l1 l2 few n 0 _ _ _ (Nat.sub_zero n) (Nat.zero_le _) (by rw [Heap.size_update, Heap.size_update, size_push']; exact Nat.le_succ _) zs low at3 ⟨rfl, fun j hj => absurd hj (Nat.not_lt_zero j), fun _ j _ hj => absurd hj (Nat.not_lt_zero j)⟩ fun h2 tk acc2 c2 k4 at4 rec4 => ?_⟩
  change wpAny _ A (load s.heap.objs.size >>= _) _ _ _
  refine wpAny_bind (wpAny_load at4 (?_ : _))
  refine wpAny_pure (go h2 tk acc2 (fun b o hb e => k4 b o (fun q => ?_) (others b o (Nat.ne_of_lt (Heap.lt_size e)) e)) rec4)
  rcases List.mem_cons.mp q with q | q
  · exact Nat.ne_of_lt (Heap.lt_size e) q
  · exact hb q
end
end J
set_option Elab.async false
set_option linter.all false
set_option maxRecDepth 100000
set_option maxHeartbeats 1010000
/-! JYu: sorted(zip(xs, ys)), xs whole numbers, ys texts -/
namespace J
open PySem PySem.Spec PySem.W PySem.Calls L2 PyProof.Rows
abbrev ZB : Type := (Int × Str) × Addr
abbrev encZ (b : Int × Str) : PyData := .tuple [.int b.1, .str b.2]
abbrev srtZ (bs : List (Int × Str)) : List (Int × Str) := bs.mergeSort (dataLe false encZ)
/-- at b's address: the pair -/
def PairAt (h : Heap) (lo : Nat) (b : ZB) : Prop := ∃ t u : Tok, lo ≤ b.2 ∧ IsTupOf2 h b.2 (.int b.1.1 t) (.str b.1.2 u)
theorem pair_reads {h : Heap} {lo : Nat} {b : ZB} (p : PairAt h lo b) : Reads h (.ref b.2) (encZ b.1) [] := by
  obtain ⟨t, u, _, z⟩ := p
  exact .tuple z rfl rfl (.cons (.int _ _) (.cons (.str _ _) .nil))
theorem each_of_list {β : Type} {R : Value → β → Prop} {f : β → Value} : ∀ {bs : List β}, (∀ b ∈ bs, R (f b) b) → EachIs R (bs.map f) bs
  | [], _ => .nil
  | b :: bs, h => .cons (h b List.mem_cons_self) (each_of_list fun x hx => h x (List.mem_cons_of_mem _ hx))
theorem each_to_list {β : Type} {R : Value → β → Prop} {f : β → Value} (hR : ∀ v b, R v b → v = f b) : ∀ {vs : List Value} {bs : List β}, EachIs R vs bs → vs = bs.map f
  | _, _, .nil => rfl
  | _, _, .cons r t => by rw [List.map_cons, ← hR _ _ r, ← each_to_list hR t]
theorem alike_z (bs : List ZB) : AllAlike (bs.map fun b => encZ b.1) := AllAlike.of fun b b' => rfl
/-- the pairs that collect_zip gathers -/
theorem zrec_out {is ws : List Value} {bs : List (Int × Str)} {bad : List Addr} {lo : Nat} {h : Heap} {acc : Array Value} (e1 : ∀ (j : Nat) (b : Int × Str), bs[j]? = some b → ∃ t, is[j]? = some (Value.int b.1 t)) (e2 : ∀ (j : Nat) (b : Int × Str), bs[j]? = some b → ∃ t, ws[j]? = some (Value.str b.2 t))
    (z : ZRec (fun i v => is.toArray[i]? = some v) (fun i v => ws.toArray[i]? = some v) bad lo h acc bs.length) : ∃ zs : List ZB, zs.map (·.1) = bs ∧ (zs.map (·.2)).Nodup ∧ acc.toList = zs.map (fun b => Value.ref b.2) ∧ ∀ b ∈ zs, PairAt h lo b := by
  obtain ⟨sz, each, dis⟩ := z
  have sz2 : acc.toList.length = bs.length := by rw [Array.length_toList]; exact sz
  have pick : ∀ j (hj : j < bs.length), ∃ T : Addr, acc[j]? = some (.ref T) ∧ PairAt h lo (bs[j], T) := fun j hj => by
    obtain ⟨T, x1, x2, r1, r2, r3, r4, r5⟩ := each j hj
    obtain ⟨t, q1⟩ := e1 j _ (List.getElem?_eq_getElem hj)
    obtain ⟨u, q2⟩ := e2 j _ (List.getElem?_eq_getElem hj)
    have r3' : is[j]? = some x1 := by simpa using r3
    have r4' : ws[j]? = some x2 := by simpa using r4
    rw [q1] at r3'
    rw [q2] at r4'
    cases r3'
    cases r4'
    exact ⟨T, r1, t, u, r2.2, r5⟩
  have all : ∀ (k : Nat) (as : List Value) (cs : List (Int × Str)), as.length = cs.length → (∀ j (hj : j < cs.length), ∃ T : Addr, as[j]? = some (.ref T) ∧ PairAt h lo (cs[j], T)) → ∃ zs : List ZB, zs.map (·.1) = cs ∧ as = zs.map (fun b => Value.ref b.2) ∧ ∀ b ∈ zs, PairAt h lo b := by
    intro k as
    induction as with
    | nil =>
      intro cs hl _
      cases cs with
      | nil => exact ⟨[], rfl, rfl, fun _ hb => by cases hb⟩
      | cons c cs => simp at hl
    | cons a as ih =>
      intro cs hl hp
      cases cs with
      | nil => simp at hl
      | cons c cs =>
        obtain ⟨zs, z1, z2, z3⟩ := ih cs (by simpa using hl) fun j hj => by
          obtain ⟨T, p1, p2⟩ := hp (j + 1) (by simpa using hj)
          exact ⟨T, by simpa using p1, by simpa using p2⟩
        obtain ⟨T, p1, p2⟩ := hp 0 (by simp)
        refine ⟨(c, T) :: zs, by rw [List.map_cons, z1], ?_, fun b hb => ?_⟩
        · rw [List.map_cons, ← z2]
          simp only [List.getElem?_cons_zero, Option.some.injEq] at p1
          rw [p1]
        · rcases List.mem_cons.mp hb with e | e
          · rw [e]; exact p2
          · exact z3 b e
  obtain ⟨zs, z1, z2, z3⟩ := all 0 acc.toList bs sz2 fun j hj => by
    obtain ⟨T, p1, p2⟩ := pick j hj
    exact ⟨T, by rw [Array.getElem?_toList]; exact p1, p2⟩
  refine ⟨zs, z1, ?_, z2, z3⟩
  have zl : zs.length = bs.length := by rw [← z1, List.length_map]
  refine List.pairwise_iff_getElem.mpr fun i j hi hj hij e => ?_
  rw [List.length_map, zl] at hi hj
  refine dis i j hij hj ?_
  have hi2 : i < zs.length := by omega
  have hj2 : j < zs.length := by omega
  rw [← Array.getElem?_toList, ← Array.getElem?_toList, z2, List.getElem?_map, List.getElem?_map, List.getElem?_eq_getElem hi2, List.getElem?_eq_getElem hj2]
  rw [List.getElem_map, List.getElem_map] at e
  show some (Value.ref zs[i].2) = some (Value.ref zs[j].2)
  rw [e]
theorem near5 {N l b : Nat} (h : l < N) (e : (b = N ∨ b = N + 1) ∨ b = l) : b < N + 5 := by omega
theorem far5 {N b : Nat} (h : b < N) (e : b = N + 4 ∨ b = N + 3 ∨ b = N ∨ b = N + 1) : False := by omega
theorem near2 {N m : Nat} (h : N + 2 < m) (q : m < N) : False := by omega
/-- sorted(zip(xs, ys)) -/
theorem sorted_zip {prog : Program} {w : World} {A : Around} {E : Value → Shared → Prop} {s : Shared} {l1 l2 : Addr} {is ws : List Value} {bs : List (Int × Str)} {Q : Value → Shared → Prop} (calm : A.handled = none) (room : A.units + 8 < cLine) (h1 : s.heap.IsList l1 is.toArray) (h2 : s.heap.IsList l2 ws.toArray)
    (n1 : is.length = bs.length) (n2 : ws.length = bs.length) (few : bs.length ≤ 1000) (e1 : ∀ (j : Nat) (b : Int × Str), bs[j]? = some b → ∃ t, is[j]? = some (Value.int b.1 t)) (e2 : ∀ (j : Nat) (b : Int × Str), bs[j]? = some b → ∃ t, ws[j]? = some (Value.str b.2 t))
    (go : ∀ (h3 : Heap) (tk : Nat) (p : Addr) (n : Nat) (zs : List ZB), (∀ b o, s.heap.get? b = some o → h3.get? b = some o) → s.heap.objs.size ≤ p → h3.get? p = some (seqObj "list" (zs.map fun b => Value.ref b.2).toArray n) → zs.map (·.1) = srtZ bs → (zs.map (·.2)).Nodup → (∀ b ∈ zs, PairAt h3 s.heap.objs.size b ∧ b.2 ≠ p) → Q (.ref p) { s with heap := h3, toks := tk }) :
    wpAny (model prog w) A (call (.type "zip") [.ref l1, .ref l2]) (fun v s1 => wpAny (model prog w) A (call (.builtin "sorted") [v]) Q E s1) E s := by
  have lt1 : l1 < s.heap.objs.size := let ⟨o, ho, _⟩ := h1; Heap.lt_size ho
  have lt2 : l2 < s.heap.objs.size := let ⟨o, ho, _⟩ := h2; Heap.lt_size ho
  refine zip_begins2 (begins_list l1 is.toArray) (begins_list l2 ws.toArray) h1 h2 fun h' z ti to it1 it2 sz old => ?_
  have sep : ZipSep2 (s.heap.objs.size + 4) (s.heap.objs.size + 2) (s.heap.objs.size + 3) s.heap.objs.size (s.heap.objs.size + 1) [s.heap.objs.size, l1] [s.heap.objs.size + 1, l2] := zip_sep2 (by simpa using lt1) (by simpa using lt2)
  refine Calls.call_function_entry kind_sorted plain_sorted entry_sorted (args_sorted1 _) (?_ : _)
  delta Builtin.«sorted»
  refine wpAny_bind (m := checkCount "sorted" 1 1 _) (wpAny_pure (?_ : _))
  have D1 := Draws.list (prog := prog) (w := w) (A := A.in1.in1.in1) calm s.heap.objs.size l1 (Nat.ne_of_lt lt1) is.toArray
  have D2 := Draws.list (prog := prog) (w := w) (A := A.in1.in1.in1) calm (s.heap.objs.size + 1) l2 (Nat.ne_of_lt (Nat.lt_succ_of_lt lt2)) ws.toArray
  rw [show is.toArray.size = bs.length from by simpa using n1] at D1
  rw [show ws.toArray.size = bs.length from by simpa using n2] at D2
  refine wpAny_bind (collect_zip (A := A.in1) sep D1 D2 z ti to ⟨⟨_, it1, rfl, rfl⟩, h1.at fun o e => old _ _ e⟩ ⟨⟨_, it2, rfl, rfl⟩, h2.at fun o e => old _ _ e⟩ (fun b hb => ?_) (fun b hb => ?_) (by rw [sizeLine_eq]; omega) fun h2' tk acc k rec => ?_)
  · show b < h'.objs.size
    rw [sz]
    simp only [List.not_mem_nil, List.mem_cons, or_false] at hb
    exact near5 lt1 (hb.imp_left .inl)
  · show b < h'.objs.size
    rw [sz]
    simp only [List.not_mem_nil, List.mem_cons, or_false] at hb
    exact near5 lt2 (hb.imp_left .inr)
  obtain ⟨zs, z1, z2, z3, z4⟩ := zrec_out e1 e2 rec
  have zl : zs.length = bs.length := by rw [← z1, List.length_map]
  have k0 : ∀ b o, s.heap.get? b = some o → h2'.get? b = some o := fun b o e => k b o (fun hb => by
    have lt := Heap.lt_size e
    simp only [List.not_mem_nil, List.mem_cons, or_false] at hb
    exact far5 lt hb) (old b o e)
  have bigger : s.heap.objs.size ≤ h2'.objs.size := by
    exact Nat.le_of_not_lt fun q => by
      have zz : h2'.get? (s.heap.objs.size + 2) = h'.get? (s.heap.objs.size + 2) := by
        rw [ti]
        exact k _ _ (by simp) ti
      exact near2 (Heap.lt_size (zz.trans ti)) q
  have line : acc.toList.length ≤ sizeLine := by rw [z3, List.length_map, zl, sizeLine_eq]; omega
  refine wpAny_bind (wpAny_newList ?_ line)
  have oL : (h2'.push (seqObj "list" acc.toList.toArray 0)).get? h2'.objs.size = some (seqObj "list" acc.toList.toArray 0) := Heap.get?_push_size _ (by rfl)
  have kp : ∀ b o, h2'.get? b = some o → (h2'.push (seqObj "list" acc.toList.toArray 0)).get? b = some o := fun b o e => Heap.get?_push_of_some _ e
  have up : ∀ b ∈ zs, PairAt (h2'.push (seqObj "list" acc.toList.toArray 0)) s.heap.objs.size b := fun b hb => by
    obtain ⟨t, u, c1, c2⟩ := z4 b hb
    exact ⟨t, u, Nat.le_trans (by rw [sz]; exact Nat.le_add_right _ 5) c1, kp _ _ c2⟩
  rw [z3] at oL up line kp ⊢
  refine wpAny_bind (wpAny_holding (list_sort_data (enc := fun b : ZB => encZ b.1) (R := fun v b => v = .ref b.2 ∧ b ∈ zs) oL (each_of_list fun b hb => ⟨rfl, hb⟩) (each_of_list fun b hb => ⟨[], pair_reads (up b hb), by simp⟩) (alike_z zs) (Sortable.tuples fun b => ⟨_, _, rfl⟩) (by rw [zl, sizeLine_eq]; omega)
    (fun b hb => by simp only [PyData.depth, PyData.depthAll]; omega) fun out ol eo => ?_))
  have oe := each_to_list (f := fun b : ZB => Value.ref b.2) (fun v b r => r.1) eo
  obtain ⟨n, hn⟩ := sortedHeap_at (vs := zs.map fun b => Value.ref b.2) (out := out.toArray) oL
  have pm : (zs.mergeSort (dataLe false fun b : ZB => encZ b.1)).Perm zs := List.mergeSort_perm _ _
  refine wpAny_pure ⟨_, rfl, go _ tk h2'.objs.size n (zs.mergeSort (dataLe false fun b : ZB => encZ b.1)) (fun b o e => ?_) bigger (by rw [← oe]; exact hn) ?_ ((pm.map _).nodup_iff.mpr z2) fun b hb => ?_⟩
  · have e1 := k0 b o e
    have low := Heap.lt_size e1
    exact (sortedHeap_old (Nat.ne_of_lt low) (by rw [Heap.size_push]; exact Nat.lt_succ_of_lt low)).trans (kp _ _ e1)
  · rw [← z1]
    exact List.map_mergeSort fun a _ b _ => rfl
  · have hb2 := pm.mem_iff.mp hb
    obtain ⟨t, u, c1, c2⟩ := z4 b hb2
    have low := Heap.lt_size c2
    exact ⟨⟨t, u, Nat.le_trans (by rw [sz]; exact Nat.le_add_right _ 5) c1, (sortedHeap_old (Nat.ne_of_lt low) (by rw [Heap.size_push]; exact Nat.lt_succ_of_lt low)).trans (kp _ _ c2)⟩, Nat.ne_of_lt low⟩
/-- the pairs laid -/
def layP : List ZB → Hp → Hp
  | [], H => H
  | b :: r, H => layP r (upd H b.2 (.tup [.int b.1.1, .str b.1.2]))
theorem layP_old {p : Addr} : ∀ {zs : List ZB} {H : Hp}, (∀ b ∈ zs, b.2 ≠ p) → layP zs H p = H p
  | [], _, _ => rfl
  | b :: r, H, h => by
    show layP r _ p = _
    rw [layP_old fun c hc => h c (List.mem_cons_of_mem _ hc), upd_ne (h b List.mem_cons_self).symm]
theorem layP_cases {p : Addr} {o : HO} : ∀ {zs : List ZB} {H : Hp}, layP zs H p = some o → H p = some o ∨ ∃ b ∈ zs, b.2 = p ∧ o = .tup [.int b.1.1, .str b.1.2]
  | [], _, h => .inl h
  | b :: r, H, h => by
    rcases layP_cases (zs := r) h with q | ⟨c, hc, e⟩
    · by_cases e : p = b.2
      · rw [e, upd_same] at q
        cases q
        exact .inr ⟨b, List.mem_cons_self, e.symm, rfl⟩
      · rw [upd_ne e] at q
        exact .inl q
    · exact .inr ⟨c, List.mem_cons_of_mem _ hc, e⟩
/-- sorted(zip(xs, ys)) -/
def tSrtZ (K : PySem.W.Frag) (ta : TA) : TE := fun σ H Q => ta σ H fun vs H1 => ∃ (l1 l2 : Addr) (bs : List (Int × Str)), vs = [.ref l1, .ref l2] ∧ SqL K H1 l1 (bs.map fun b => V.int b.1) ∧ SqL K H1 l2 (bs.map fun b => V.str b.2) ∧ bs.length ≤ 1000 ∧
  ∀ (zs : List ZB) (p : Addr), zs.map (·.1) = srtZ bs → (zs.map (·.2)).Nodup → (∀ b ∈ zs, H1 b.2 = none ∧ b.2 ≠ p) → H1 p = none → Q (.ref p) (upd (layP zs H1) p (.lst (zs.map fun b => V.ref b.2)))
theorem vals_ref : ∀ as : List ZB, Vals (as.map fun b => V.ref b.2) (as.map fun b => Value.ref b.2)
  | [] => .nil
  | _ :: as => .cons rfl (vals_ref as)
theorem int_at {bs : List (Int × Str)} {us : List Value} (r : Vals (bs.map fun b => V.int b.1) us) (j : Nat) (b : Int × Str) (e : bs[j]? = some b) : ∃ t, us[j]? = some (Value.int b.1 t) := by
  obtain ⟨u, hu, ru⟩ := r.get (i := j) (x := .int b.1) (by rw [List.getElem?_map, e]; rfl)
  obtain ⟨t, rfl⟩ := ru
  exact ⟨t, hu⟩
theorem str_at {bs : List (Int × Str)} {us : List Value} (r : Vals (bs.map fun b => V.str b.2) us) (j : Nat) (b : Int × Str) (e : bs[j]? = some b) : ∃ t, us[j]? = some (Value.str b.2 t) := by
  obtain ⟨u, hu, ru⟩ := r.get (i := j) (x := .str b.2) (by rw [List.getElem?_map, e]; rfl)
  obtain ⟨t, rfl⟩ := ru
  exact ⟨t, hu⟩
theorem pe_srtZ {X : Cx} {a b : Expr} {ta : TA} {p p2 q pos : Pos} (calm : X.calm = true) (room : X.A.units + 8 < cLine) (hg : Gl X "sorted") (hm : X.mg "sorted" = none) (hg2 : Gl X "zip") (hm2 : X.mg "zip" = none) (ha : PA X [a, b] ta)
    (na : starEach [a, b] X.env = (false, eval a X.env) :: starEach [b] X.env := by rfl) (nb : (backTo q (starEach [b] X.env)).any (·.1) = false := by rfl) : PE X (.Call (.Name "sorted" p) [.Call (.Name "zip" p2) [a, b] [] q] [] pos) (tSrtZ X.K ta) := by
  constructor
  intro pins s σ H Q inv want
  refine Call_ (ld_blt inv hg hm (show bootBuiltins "sorted" = some (.builtin "sorted") by decide +kernel) (callWith_builtin1 (args_cons ?_ (by rfl)) (by rfl) (by rfl)))
  refine Call_ (ld_blt inv hg2 hm2 PyProof.Rows.boot_zip (PyProof.Rows.callWith_type1 (thn (ha.run q pins s σ H _ inv want) ?_) na nb))
  rintro us s1 ⟨vs, H1, inv1, rel, l1, l2, bs, rfl, sq1, sq2, few, fin⟩
  obtain ⟨u1, u2, rfl, r1, r2⟩ := vals2 rel
  obtain rfl : u1 = .ref l1 := r1
  obtain rfl : u2 = .ref l2 := r2
  obtain ⟨is, rv1, isL1, _⟩ := inv1.list sq1
  obtain ⟨ws, rv2, isL2, _⟩ := inv1.list sq2
  refine wpAny_mono (sorted_zip (inv1.ok.hd calm) room isL1.isList isL2.isList (by rw [← rv1.length, List.length_map]) (by rw [← rv2.length, List.length_map]) few (int_at rv1) (str_at rv2) fun h3 tk pl n zs k hp hn z1 z2 z3 => ?_) (fun v s2 z => args_nil z) (fun _ _ z => z)
  have new : ∀ b ∈ zs, H1 b.2 = none := fun b hb => let ⟨⟨_, _, lo, _⟩, _⟩ := z3 b hb; inv1.hok.fresh lo
  have fresh : H1 pl = none := inv1.hok.fresh hp
  have old : ∀ c o, H1 c = some o → (upd (layP zs H1) pl (.lst (zs.map fun b => V.ref b.2))) c = some o := fun c o e => by
    rw [upd_ne (ne_of_none e fresh), layP_old fun b hb z => by rw [← z, new b hb] at e; cases e]
    exact e
  have line : (zs.map fun b => V.ref b.2).length ≤ sizeLine := by
    have zl := congrArg List.length z1
    rw [List.length_map, List.length_mergeSort] at zl
    rw [List.length_map, zl, sizeLine_eq]
    omega
  have hok : HOk X.prog X.w (upd (layP zs H1) pl (.lst (zs.map fun b => V.ref b.2))) h3 := fun c o e => by
    by_cases hc : c = pl
    · rw [hc, upd_same] at e
      cases e
      rw [hc]
      exact ⟨line, _, n, vals_ref zs, hn⟩
    · rw [upd_ne hc] at e
      rcases layP_cases e with e | ⟨b, hb, rfl, rfl⟩
      · exact (inv1.hok c o e).stay (fun d u _ x => k d u x) (fun d x => old d _ x) fun d xs x => old d _ x
      · obtain ⟨⟨t, u, _, tup⟩, _⟩ := z3 b hb
        exact ⟨Nat.le_of_ble_eq_true rfl, [.int b.1.1 t, .str b.1.2 u], .cons ⟨t, rfl⟩ (.cons ⟨u, rfl⟩ .nil), _, tup, rfl, _, rfl⟩
  have un : Un (frs X.stack) [] H1 (upd (layP zs H1) pl (.lst (zs.map fun b => V.ref b.2))) s1.heap h3 :=
    ⟨fun c o e _ _ _ => k c o e, fun c o e _ _ _ => ⟨o.slots, k c o e⟩, fun c o e nn _ => by
      have lt := Heap.lt_size e
      rw [upd_ne (Nat.ne_of_lt (Nat.lt_of_lt_of_le lt hp)), layP_old fun b hb z => ?_]
      · exact nn
      · obtain ⟨⟨_, _, lo, _⟩, _⟩ := z3 b hb
        exact absurd (Nat.lt_of_lt_of_le (z ▸ lt : b.2 < s1.heap.objs.size) lo) (Nat.lt_irrefl _), fun c o e _ => ⟨o, k c o e⟩, fun c xs e => old c _ e, fun c o u e => old c _ e, fun c ps e => ⟨#[], by rw [old c _ e]; simp⟩⟩
  have inv3 : Inv X pins σ (upd (layP zs H1) pl (.lst (zs.map fun b => V.ref b.2))) { s1 with heap := h3, toks := tk } := inv1.call (ch := []) un hok inv1.bare (fun _ z => nomatch z)
  exact ⟨.ref pl, _, inv3, rfl, fin zs pl z1 z2 (fun b hb => ⟨new b hb, (z3 b hb).2⟩) fresh⟩
/-! ### told -/
abbrev toS2 (p : Int × List Nat) : Int × Str := (p.1, ⟨p.2.toArray⟩)
def leZ (p q : Int × List Nat) : Bool := decide (p.1 < q.1 ∨ (p.1 = q.1 ∧ p.2 ≤ q.2))
theorem leZ_eq (a b : Int × List Nat) : dataLe false encZ (toS2 a) (toS2 b) = leZ a b := by
  show (!dataLt (.tuple [.int b.1, .str ⟨b.2.toArray⟩]) (.tuple [.int a.1, .str ⟨a.2.toArray⟩])) = _
  rw [dataLt_pair (by simp [alike]) (by simp [alike]), dataLt_int, dataLt_str]
  unfold leZ
  have es : PyData.eqv (.str ⟨b.2.toArray⟩) (.str ⟨a.2.toArray⟩) = decide (b.2 = a.2) := by
    simp only [PyData.eqv]
    by_cases e : b.2 = a.2
    · simp [e]
    · have ne : ¬ (⟨b.2.toArray⟩ : Str) = ⟨a.2.toArray⟩ := fun z => e (by
        injection z with z
        simpa using congrArg Array.toList z)
      rw [decide_eq_false e]
      exact beq_eq_false_iff_ne.mpr ne
  have ei : PyData.eqv (.int b.1) (.int a.1) = decide (b.1 = a.1) := by
    simp only [PyData.eqv]
    by_cases e : b.1 = a.1
    · simp [e]
    · rw [decide_eq_false e]
      exact beq_eq_false_iff_ne.mpr e
  rw [es, ei]
  simp only [decide_eq_true_eq]
  by_cases h1 : b.1 = a.1
  · rw [if_pos h1]
    have n1 : ¬ a.1 < b.1 := by omega
    by_cases h2 : b.2 = a.2
    · rw [if_pos h2]
      simp [h1, h2]
    · rw [if_neg h2, not_lt_str]
      simp [h1]
  · rw [if_neg h1]
    have n1 : ¬ a.1 = b.1 := fun z => h1 z.symm
    by_cases h3 : b.1 < a.1
    · have : ¬ a.1 < b.1 := by omega
      simp [h3, n1, this]
    · have : a.1 < b.1 := by omega
      simp [h3, this]
def srtP (ps : List (Int × List Nat)) : List (Int × List Nat) := ps.mergeSort leZ
theorem srtP_eq (ps : List (Int × List Nat)) : srtZ (ps.map toS2) = (srtP ps).map toS2 := (List.map_mergeSort fun a _ b _ => (leZ_eq a b).symm).symm
abbrev pairD (p : Int × List Nat) : D := .tup [.int p.1, .str p.2]
def pairsZ : List D → List D → Option (List (Int × List Nat))
  | [], [] => some []
  | .int i :: xs, .str s :: ys => (pairsZ xs ys).map ((i, s) :: ·)
  | _, _ => none
section
variable {T : Tab} {K : PySem.W.Frag} {G : Hp} {ι : List Addr}
theorem pairsZ_ok : ∀ {xs ys : List D} {ps : List (Int × List Nat)} {us ws : List V}, DRs T K G ι xs us → DRs T K G ι ys ws → pairsZ xs ys = some ps → us = (ps.map toS2).map (fun b => V.int b.1) ∧ ws = (ps.map toS2).map (fun b => V.str b.2)
  | xs, ys, ps, us, ws, hx, hy, e => by
    unfold pairsZ at e
    split at e
    · cases e
      simp only [DRs] at hx hy
      subst hx hy
      exact ⟨rfl, rfl⟩
    · rename_i i xs s ys
      cases q : pairsZ xs ys with
      | none => rw [q] at e; exact nomatch e
      | some qs =>
        rw [q] at e
        cases e
        simp only [DRs, DR] at hx hy
        obtain ⟨v, r, rfl, rfl, hx2⟩ := hx
        obtain ⟨v2, r2, rfl, rfl, hy2⟩ := hy
        obtain ⟨rfl, rfl⟩ := pairsZ_ok hx2 hy2 q
        exact ⟨rfl, rfl⟩
    · cases e
theorem pairs_dr : ∀ {zs : List ZB} {qs : List (Int × List Nat)}, zs.map (·.1) = qs.map toS2 → (∀ b ∈ zs, G b.2 = some (.tup [.int b.1.1, .str b.1.2])) → DRs T K G ι (qs.map pairD) (zs.map fun b => V.ref b.2)
  | [], [], _, _ => DRs.nil
  | [], _ :: _, e, _ => by cases e
  | _ :: _, [], e, _ => by cases e
  | b :: zs, q :: qs, e, h => by
    rw [List.map_cons, List.map_cons, List.cons.injEq] at e
    refine DRs.cons ?_ (pairs_dr e.2 fun c hc => h c (List.mem_cons_of_mem _ hc))
    simp only [DR]
    refine ⟨b.2, _, rfl, h b List.mem_cons_self, ?_⟩
    rw [e.1]
    exact DRs.cons (by simp only [DR]) (DRs.cons (by simp only [DR]) DRs.nil)
theorem em_lay {F : Hp} {S : Store} : ∀ {zs : List ZB} {G H : Hp}, Em T K F S ι G H → (zs.map (·.2)).Nodup → (∀ b ∈ zs, H b.2 = none) → ∃ G', Em T K F S ι G' (layP zs H) ∧ Ext G ι G' ι ∧ ∀ b ∈ zs, G' b.2 = some (.tup [.int b.1.1, .str b.1.2])
  | [], G, H, em, _, _ => ⟨G, em, Ext.refl _ _, fun _ hb => by cases hb⟩
  | b :: zs, G, H, em, nd, free => by
    rw [List.map_cons] at nd; rw [List.nodup_cons] at nd
    obtain ⟨em2, x2⟩ := em.frz (o := .tup [.int b.1.1, .str b.1.2]) (free b List.mem_cons_self)
    obtain ⟨G', em3, x3, at3⟩ := em_lay (zs := zs) em2 nd.2 fun c hc => by
      rw [upd_ne fun z => nd.1 (List.mem_map.mpr ⟨c, hc, z⟩)]
      exact free c (List.mem_cons_of_mem _ hc)
    refine ⟨G', em3, x2.trans x3, fun c hc => ?_⟩
    rcases List.mem_cons.mp hc with e | e
    · rw [e]
      exact x3.1 _ _ upd_same
    · exact at3 c e
end
def iSrtZ (ia : IA) : IE := fun ρ => M.bind (ia ρ) fun xs S => match xs with
  | [.lst as, .lst bs] => (match pairsZ as bs with
    | some ps => if ps.length ≤ 1000 then .ok (.lst ((srtP ps).map pairD)) S else .no
    | none => .no)
  | _ => .no
theorem je_srtZ {T : Tab} {X : Cx} {W : WX} {a b : Expr} {ia : IA} {k : Nat} {p p2 q pos : Pos} (calm : X.calm = true) (hr : RgH k X.A) (hg : Gl X "sorted") (hm : X.mg "sorted" = none) (hg2 : Gl X "zip") (hm2 : X.mg "zip" = none) (ha : JA T X W [a, b] ia)
    (na : starEach [a, b] X.env = (false, eval a X.env) :: starEach [b] X.env := by rfl) (nb : (backTo q (starEach [b] X.env)).any (·.1) = false := by rfl) : JE T X W (.Call (.Name "sorted" p) [.Call (.Name "zip" p2) [a, b] [] q] [] pos) (iSrtZ ia) := by
  refine PE.mono (pe_srtZ calm (by have := hr.r.un; omega) hg hm hg2 hm2 ha na nb) fun σ H Q ⟨ρ, F, S, ι, G, em, sr, h⟩ => ⟨ρ, F, S, ι, G, em, sr, Thn.bind (rel2 := DRs T X.K) h fun xs S1 vs ι1 G1 H1 em1 x1 dr h1 => ?_⟩
  split at h1
  · rename_i as bs
    cases e1 : pairsZ as bs with
    | none => rw [e1] at h1; exact h1.elim
    | some ps =>
      rw [e1] at h1
      dsimp only at h1
      by_cases few : ps.length ≤ 1000
      · rw [if_pos few] at h1
        obtain ⟨v, w, rfl, r1, r2⟩ := dr.two
        simp only [DR] at r1 r2
        obtain ⟨l1, us, rfl, at1, d1⟩ := r1
        obtain ⟨l2, ws, rfl, at2, d2⟩ := r2
        obtain ⟨rfl, rfl⟩ := pairsZ_ok d1 d2 e1
        refine ⟨l1, l2, ps.map toS2, rfl, SqL.of (em1.sub _ _ at1), SqL.of (em1.sub _ _ at2), by rw [List.length_map]; exact few, fun zs pl z1 nd free fp => ?_⟩
        obtain ⟨G2, em2, x2, atz⟩ := em_lay em1 nd fun c hc => (free c hc).1
        have fp2 : layP zs H1 pl = none := by
          rw [layP_old fun c hc => (free c hc).2]
          exact fp
        obtain ⟨em3, x3⟩ := em2.frz (o := .lst (zs.map fun c => V.ref c.2)) fp2
        refine Thn.ok (Thn.ext h1 (x2.trans x3)) em3 (v := .ref pl) ?_
        simp only [DR]
        refine ⟨pl, _, rfl, upd_same, pairs_dr (by rw [z1, srtP_eq]) fun c hc => x3.1 _ _ (atz c hc)⟩
      · rw [if_neg few] at h1
        exact h1.elim
  · exact h1.elim
end J
set_option Elab.async false
set_option linter.all false
set_option maxRecDepth 100000
set_option maxHeartbeats 4100000
namespace K03
open PySem L2 J
structure FX (K : PySem.W.Frag) (mg : Str → Option Value) : Prop where
  b_ValueError : mg "ValueError" = none
  b_abs : mg "abs" = none
  b_all : mg "all" = none
  b_bool : mg "bool" = none
  b_divmod : mg "divmod" = none
  b_int : mg "int" = none
  b_isinstance : mg "isinstance" = none
  b_len : mg "len" = none
  b_max : mg "max" = none
  b_min : mg "min" = none
  b_range : mg "range" = none
  b_repr : mg "repr" = none
  b_sorted : mg "sorted" = none
  b_str : mg "str" = none
  b_zip : mg "zip" = none
  c_LETTERS : ∃ t, mg "LETTERS" = some (.str ⟨#[97, 98, 99, 100, 101, 102, 103, 104, 105, 106, 107, 108, 109, 110, 111, 112, 113, 114, 115, 116, 117, 118, 119, 120, 121, 122]⟩ t)
  c_MOST_LENGTH : ∃ t, mg "MOST_LENGTH" = some (.int 6 t)
  c_MOST_LETTERS : ∃ t, mg "MOST_LETTERS" = some (.int 26 t)
  k_Board : mg (TT.cn 0) = some (.ref (He.ga K (TT.cn 0)))
  k_InputError : mg (TT.cn 10) = some (.ref (He.ga K (TT.cn 10)))
  k_InvalidNumber : mg (TT.cn 23) = some (.ref (He.ga K (TT.cn 23)))
  k_InvalidWord : mg (TT.cn 18) = some (.ref (He.ga K (TT.cn 18)))
  j_Board : ClsJ TT K 0
  f_letters : ∀ c ∈ ([0] : List Nat), ClsJ TT K c ∧ 0 ∈ TT.fs c
  f_length : ∀ c ∈ ([0] : List Nat), ClsJ TT K c ∧ 1 ∈ TT.fs c
  isk : IsK TT K CS TB
  tr : ∀ c ∈ CT, PlainTru K (He.ga K (TT.cn c))
  r_InvalidWord : ExI K "InvalidWord" "value"
  r_InvalidNumber : ExI K "InvalidNumber" "value"
  isx : IsX TT K TBX
  yx_InvalidNumber : ∀ c ∈ ([23] : List Nat), PySem.W.exmOne K (.ref (He.ga K (TT.cn c))) (.ref (He.ga K (TT.cn 23))) = some true
  nx_InvalidNumber : ∀ c ∈ ([18] : List Nat), PySem.W.exmOne K (.ref (He.ga K (TT.cn c))) (.ref (He.ga K (TT.cn 23))) = some false
  yx_InvalidWord : ∀ c ∈ ([18] : List Nat), PySem.W.exmOne K (.ref (He.ga K (TT.cn c))) (.ref (He.ga K (TT.cn 18))) = some true
  nx_InvalidWord : ∀ c ∈ ([23] : List Nat), PySem.W.exmOne K (.ref (He.ga K (TT.cn c))) (.ref (He.ga K (TT.cn 18))) = some false
  y_value : ∀ c ∈ ([23, 18] : List Nat), XfC K (He.ga K (TT.cn c)) ∧ PySem.W.findIn K (.ref (He.ga K (TT.cn c))) (TT.fn 19) = some none
  d_bowl : ∃ fd, df_bowl.Fun K fd
  m_bowl : mg "_law_bowl" = some (.ref (He.ga K "_law_bowl"))
  d_dip : ∃ fd, df_dip.Fun K fd
  m_dip : mg "_law_dip" = some (.ref (He.ga K "_law_dip"))
  d_signs : ∃ fd, df_signs.Fun K fd
  m_signs : mg "_law_signs" = some (.ref (He.ga K "_law_signs"))
  d_are_letters : ∃ fd, df_are_letters.Fun K fd
  m_are_letters : mg "are_letters" = some (.ref (He.ga K "are_letters"))
  d_is_integer : ∃ fd, df_is_integer.Fun K fd
  m_is_integer : mg "is_integer" = some (.ref (He.ga K "is_integer"))
  d_Board_init : ∃ fd, df_Board_init.Fun K fd
  m_Board_init : Mk K (He.ga K "Board") (He.ma K (He.ga K "Board") "__init__")
  d_of : ∃ fd, df_of.Fun K fd
  m_of : mg "_law_of" = some (.ref (He.ga K "_law_of"))
  d_word : ∃ fd, df_word.Fun K fd
  m_word : mg "_law_word" = some (.ref (He.ga K "_law_word"))
  d_is_word : ∃ fd, df_is_word.Fun K fd
  m_is_word : mg "is_word" = some (.ref (He.ga K "is_word"))
  d_InvalidWord_init : ∃ fd, df_InvalidWord_init.Fun K fd
  d_check_word : ∃ fd, df_check_word.Fun K fd
  m_check_word : mg "check_word" = some (.ref (He.ga K "check_word"))
  d_Board_number : ∃ fd, df_Board_number.Fun K fd
  m_Board_number : Meth K (He.ga K "Board") "number" (He.ma K (He.ga K "Board") "number")
  d_Board_size : ∃ fd, df_Board_size.Fun K fd
  m_Board_size : PropOf K (He.ga K "Board") "size" (He.ma K (He.ga K "Board") "size") (pa K (He.ga K "Board") "size")
  d_InvalidNumber_init : ∃ fd, df_InvalidNumber_init.Fun K fd
  d_Board_word : ∃ fd, df_Board_word.Fun K fd
  m_Board_word : Meth K (He.ga K "Board") "word" (He.ma K (He.ga K "Board") "word")
  d_got : ∃ fd, df_got.Fun K fd
  m_got : mg "_law_got" = some (.ref (He.ga K "_law_got"))
  d_right : ∃ fd, df_right.Fun K fd
  m_right : mg "_law_right" = some (.ref (He.ga K "_law_right"))
  d_law : ∃ fd, df_law.Fun K fd
  m_law : mg "law" = some (.ref (He.ga K "law"))
abbrev N_bowl : List Str := ["_law_script", "_law_k", "_law_own", "_law_mixed", "_law_entry"]
theorem sc_bowl : FnScope N_bowl ["_law_script", "_law_k"] (defScope s_bowl) := ⟨rfl, rfl, rfl, by decide +kernel, rfl, by decide +kernel, by decide +kernel⟩
def is_bowl : IS := (sSeq (sAsg 2 (iIf (iTst (iOp ltI (iVar 1) (iCB lenD (iCons (iVar 0) iNil)))) (iCB intD (iCons (iOp ixD (iVar 0) (iVar 1)) iNil)) (iOp addD (iOp mulD (iC (.int 17)) (iVar 1)) (iC (.int 3))))) (sSeq (sAsg 3 (iOp addD (iC (.int 60013)) (iOp mulD (iC (.int 911)) (iVar 1)))) (sSeq (sFor (iItems (iSl slD (iVar 0) iNoPart (iPart (iC (.int 12))))) (.n 4) (sAsg 3 (iOp modI (iCB intD (iCons (iOp addD (iOp mulD (iVar 3) (iC (.int 39119))) (iOp modI (iCB intD (iCons (iVar 4) iNil)) (iC (.int 1999999943)))) iNil)) (iC (.int 1999999943))))) (sRet (iLstM (iCons (iOp modI (iCB intD (iCons (iOp addD (iVar 3) (iOp modI (iVar 2) (iC (.int 1999999943)))) iNil)) (iC (.int 1999999943))) (iCons (iIf (iOr (iTst (iOp ltI (iVar 2) (iC (.int 0)))) (iTst (iOp geI (iVar 2) (iOp powI (iC (.int 10)) (iC (.int 15)))))) (iCB absD (iCons (iVar 2) iNil)) (iC (.int 0))) (iCons (iC (.int 0)) iNil))))))))
def d_bowl : List D → M D := defJ 5 true is_bowl
theorem w_bowl {P : Program} {w : World} {K : PySem.W.Frag} {mg : Str → Option Value} {base : Heap} (Fx : FX K mg) (Tb : TBs K mg base) {fd : FuncData} (F : df_bowl.Fun K fd) : FnG P w K mg base 1 (df_bowl.at_ K) fd ["_law_script", "_law_k"] (spJ TT K 2 d_bowl) := by
  refine fn_j (T := TT) true F sc_bowl (fun cdv A fr s H E room gd => ?_)
  have hr : Rg 0 (cxOf (L2N.CX P w) P w K mg base N_bowl "_law_bowl" (defScope s_bowl) (df_bowl.at_ K) cdv A fr s H E).A := ⟨room, gd⟩
  have tk : L2N.Takes (cxOf (L2N.CX P w) P w K mg base N_bowl "_law_bowl" (defScope s_bowl) (df_bowl.at_ K) cdv A fr s H E) (fun c d _ H => E c d H) := L2N.takes_of rfl rfl rfl rfl
  have po : PassesOwn (model P w) (cxOf (L2N.CX P w) P w K mg base N_bowl "_law_bowl" (defScope s_bowl) (df_bowl.at_ K) cdv A fr s H E).A (cxOf (L2N.CX P w) P w K mg base N_bowl "_law_bowl" (defScope s_bowl) (df_bowl.at_ K) cdv A fr s H E).env (cxOf (L2N.CX P w) P w K mg base N_bowl "_law_bowl" (defScope s_bowl) (df_bowl.at_ K) cdv A fr s H E).xe := passes_of rfl
  have S := sc_bowl
  exact (jss_cons (js_set (i := 2) S.nd rfl (Or.inl rfl) (je_if (jt_cmp op_lt ltI_ok (je_var 1) (je_callB call_len lenD_ok (by rfl) Fx.b_len (by decide +kernel) (ja_cons (je_var 0) ja_nil)) (nomark _)) (je_callTy call_int1 intD_ok (by rfl) Fx.b_int (by decide +kernel) (ja_cons (je_ix ix_seq ixD_ok (je_var 0) (je_var 1) (fun _ _ => rfl)) ja_nil)) (je_op op_addD addD_ok (je_op op_mulD mulD_ok je_int (je_var 1)) je_int))) (jss_cons (js_set (i := 3) S.nd rfl (Or.inl rfl) (je_op op_addD addD_ok je_int (je_op op_mulD mulD_ok je_int (je_var 1)))) (jss_cons (js_for po rfl (ji_items (je_slice sl_D slD_ok (je_var 0) jo_none (jo_some je_int))) (jg_name (i := 4) S.nd rfl (Or.inl rfl)) (jss_one (js_set (i := 3) S.nd rfl (Or.inl rfl) (je_op op_mod modI_ok (je_callTy call_int1 intD_ok (by rfl) Fx.b_int (by decide +kernel) (ja_cons (je_op op_addD addD_ok (je_op op_mulD mulD_ok (je_var 3) je_int) (je_op op_mod modI_ok (je_callTy call_int1 intD_ok (by rfl) Fx.b_int (by decide +kernel) (ja_cons (je_var 4) ja_nil)) je_int)) ja_nil)) je_int)))) (jss_one (js_ret (je_lstM (ja_cons (je_op op_mod modI_ok (je_callTy call_int1 intD_ok (by rfl) Fx.b_int (by decide +kernel) (ja_cons (je_op op_addD addD_ok (je_var 3) (je_op op_mod modI_ok (je_var 2) je_int)) ja_nil)) je_int) (ja_cons (je_if (jt_w (jw_or (jt_cmp op_lt ltI_ok (je_var 2) je_int (nomark _)) (jw_or1 (jt_cmp op_ge geI_ok (je_var 2) (je_op op_pow powI_ok je_int je_int) (nomark _))))) (je_callB call_abs absD_ok (by rfl) Fx.b_abs (by decide +kernel) (ja_cons (je_var 2) ja_nil)) je_int) (ja_cons je_int ja_nil)))))))))
theorem g_bowl {P : Program} {w : World} {K : PySem.W.Frag} {mg : Str → Option Value} {base : Heap} (Fx : FX K mg) (Tb : TBs K mg base) : Good P w TT K mg base 1 "_law_bowl" ["_law_script", "_law_k"] d_bowl := Fx.d_bowl.elim fun fd F => ⟨fd, w_bowl Fx Tb F, F.bindsN fun _ _ _ _ _ _ us hl => match us, hl with | [_, _], _ => rfl, Fx.m_bowl, F.kp⟩
abbrev N_dip : List Str := ["_law_bowl_here", "_law_many", "_law_digit"]
theorem sc_dip : FnScope N_dip ["_law_bowl_here", "_law_many"] (defScope s_dip) := ⟨rfl, rfl, rfl, by decide +kernel, rfl, by decide +kernel, by decide +kernel⟩
def is_dip : IS := (sSeq (sSetI setL (iOp addD (iOp ixD (iVar 0) (iC (.int 2))) (iC (.int 1))) (iVar 0) (iC (.int 2))) (sSeq (sIf (iTst (iOp gtI (iOp ixD (iVar 0) (iC (.int 1))) (iC (.int 0)))) (sSeq (sSetIN setL (iCB divmodD (iCons (iCB intD (iCons (iOp ixD (iVar 0) (iC (.int 1))) iNil)) (iCons (iVar 1) iNil))) (iVar 0) (iC (.int 1)) 2) (sRet (iVar 2))) sNext) (sSeq (sSetI setL (iOp modI (iCB intD (iCons (iOp addD (iOp addD (iOp mulD (iOp ixD (iVar 0) (iC (.int 0))) (iC (.int 50021))) (iOp mulD (iOp ixD (iVar 0) (iC (.int 2))) (iC (.int 90001)))) (iOp mulD (iOp fdivI (iOp ixD (iVar 0) (iC (.int 0))) (iC (.int 7001))) (iC (.int 13)))) iNil)) (iC (.int 1999999943))) (iVar 0) (iC (.int 0))) (sRet (iOp modI (iCB intD (iCons (iOp fdivI (iOp ixD (iVar 0) (iC (.int 0))) (iC (.int 173))) iNil)) (iVar 1))))))
def d_dip : List D → M D := defJ 3 false is_dip
theorem w_dip {P : Program} {w : World} {K : PySem.W.Frag} {mg : Str → Option Value} {base : Heap} (Fx : FX K mg) (Tb : TBs K mg base) {fd : FuncData} (F : df_dip.Fun K fd) : FnG P w K mg base 1 (df_dip.at_ K) fd ["_law_bowl_here", "_law_many"] (spJ TT K 2 d_dip) := by
  refine fn_j (T := TT) false F sc_dip (fun cdv A fr s H E room gd => ?_)
  have hr : Rg 0 (cxOf (L2N.CX P w) P w K mg base N_dip "_law_dip" (defScope s_dip) (df_dip.at_ K) cdv A fr s H E).A := ⟨room, gd⟩
  have tk : L2N.Takes (cxOf (L2N.CX P w) P w K mg base N_dip "_law_dip" (defScope s_dip) (df_dip.at_ K) cdv A fr s H E) (fun c d _ H => E c d H) := L2N.takes_of rfl rfl rfl rfl
  have po : PassesOwn (model P w) (cxOf (L2N.CX P w) P w K mg base N_dip "_law_dip" (defScope s_dip) (df_dip.at_ K) cdv A fr s H E).A (cxOf (L2N.CX P w) P w K mg base N_dip "_law_dip" (defScope s_dip) (df_dip.at_ K) cdv A fr s H E).env (cxOf (L2N.CX P w) P w K mg base N_dip "_law_dip" (defScope s_dip) (df_dip.at_ K) cdv A fr s H E).xe := passes_of rfl
  have S := sc_dip
  exact (jss_cons (js_setI set_list setL_ok (je_op op_addD addD_ok (je_ix ix_seq ixD_ok (je_var 0) je_int (fun _ _ => rfl)) je_int) (je_var 0) je_int) (jss_cons (js_if (jt_cmp op_gt gtI_ok (je_ix ix_seq ixD_ok (je_var 0) je_int (fun _ _ => rfl)) je_int (nomark _)) (jss_cons (js_setIN (j := 2) rfl set_list setL_ok S.nd rfl (Or.inl rfl) (je_callB call_divmod divmodD_ok (by rfl) Fx.b_divmod (by decide +kernel) (ja_cons (je_callTy call_int1 intD_ok (by rfl) Fx.b_int (by decide +kernel) (ja_cons (je_ix ix_seq ixD_ok (je_var 0) je_int (fun _ _ => rfl)) ja_nil)) (ja_cons (je_var 1) ja_nil))) (je_var 0) je_int) (jss_one (js_ret (je_var 2)))) jss_nil) (jss_cons (js_setI set_list setL_ok (je_op op_mod modI_ok (je_callTy call_int1 intD_ok (by rfl) Fx.b_int (by decide +kernel) (ja_cons (je_op op_addD addD_ok (je_op op_addD addD_ok (je_op op_mulD mulD_ok (je_ix ix_seq ixD_ok (je_var 0) je_int (fun _ _ => rfl)) je_int) (je_op op_mulD mulD_ok (je_ix ix_seq ixD_ok (je_var 0) je_int (fun _ _ => rfl)) je_int)) (je_op op_mulD mulD_ok (je_op op_fdiv fdivI_ok (je_ix ix_seq ixD_ok (je_var 0) je_int (fun _ _ => rfl)) je_int) je_int)) ja_nil)) je_int) (je_var 0) je_int) (jss_one (js_ret (je_op op_mod modI_ok (je_callTy call_int1 intD_ok (by rfl) Fx.b_int (by decide +kernel) (ja_cons (je_op op_fdiv fdivI_ok (je_ix ix_seq ixD_ok (je_var 0) je_int (fun _ _ => rfl)) je_int) ja_nil)) (je_var 1)))))))
theorem g_dip {P : Program} {w : World} {K : PySem.W.Frag} {mg : Str → Option Value} {base : Heap} (Fx : FX K mg) (Tb : TBs K mg base) : Good P w TT K mg base 1 "_law_dip" ["_law_bowl_here", "_law_many"] d_dip := Fx.d_dip.elim fun fd F => ⟨fd, w_dip Fx Tb F, F.bindsN fun _ _ _ _ _ _ us hl => match us, hl with | [_, _], _ => rfl, Fx.m_dip, F.kp⟩
abbrev N_signs : List Str := ["_law_bowl_here", "_law_least", "_law_most", "_law_turn", "_law_many", "_law_left", "_law_found", "_law_at"]
theorem sc_signs : FnScope N_signs ["_law_bowl_here", "_law_least", "_law_most"] (defScope s_signs) := ⟨rfl, rfl, rfl, by decide +kernel, rfl, by decide +kernel, by decide +kernel⟩
def is_signs : IS := (sSeq (sPar3 4 5 6 (iCons (iOp addD (iVar 1) (iCall 2 d_dip (iCons (iVar 0) (iCons (iOp addD (iOp subI (iVar 2) (iVar 1)) (iC (.int 1))) iNil)))) (iCons (iC (.str [97, 98, 99, 100, 101, 102, 103, 104, 105, 106, 107, 108, 109, 110, 111, 112, 113, 114, 115, 116, 117, 118, 119, 120, 121, 122])) (iCons (iLstM iNil) iNil)))) (sSeq (sIf (iTst (iOp gtI (iCall 2 d_dip (iCons (iVar 0) (iCons (iC (.int 3)) iNil))) (iC (.int 0)))) (sRet (iSl slD (iVar 5) iNoPart (iPart (iVar 4)))) sNext) (sSeq (sFor (iRange range1 (iCons (iVar 4) iNil)) (.n 3) (sSeq (sAsg 7 (iCall 2 d_dip (iCons (iVar 0) (iCons (iCB lenD (iCons (iVar 5) iNil)) iNil)))) (sSeq (sExpr (iBM .l lstApp (iVar 6) (iCons (iOp ixD (iVar 5) (iVar 7)) iNil))) (sAsg 5 (iOp addD (iSl slD (iVar 5) iNoPart (iPart (iVar 7))) (iSl slD (iVar 5) (iPart (iOp addD (iVar 7) (iC (.int 1)))) iNoPart)))))) (sSeq (sFrz 6) (sRet (iBM .s strJoin (iC (.str [])) (iCons (iCB sortD (iCons (iVar 6) iNil)) iNil)))))))
def d_signs : List D → M D := defJ 8 false is_signs
theorem w_signs {P : Program} {w : World} {K : PySem.W.Frag} {mg : Str → Option Value} {base : Heap} (Fx : FX K mg) (Tb : TBs K mg base) {fd : FuncData} (F : df_signs.Fun K fd) : FnG P w K mg base 2 (df_signs.at_ K) fd ["_law_bowl_here", "_law_least", "_law_most"] (spJ TT K 3 d_signs) := by
  refine fn_j (T := TT) false F sc_signs (fun cdv A fr s H E room gd => ?_)
  have hr : Rg 1 (cxOf (L2N.CX P w) P w K mg base N_signs "_law_signs" (defScope s_signs) (df_signs.at_ K) cdv A fr s H E).A := ⟨room, gd⟩
  have tk : L2N.Takes (cxOf (L2N.CX P w) P w K mg base N_signs "_law_signs" (defScope s_signs) (df_signs.at_ K) cdv A fr s H E) (fun c d _ H => E c d H) := L2N.takes_of rfl rfl rfl rfl
  have po : PassesOwn (model P w) (cxOf (L2N.CX P w) P w K mg base N_signs "_law_signs" (defScope s_signs) (df_signs.at_ K) cdv A fr s H E).A (cxOf (L2N.CX P w) P w K mg base N_signs "_law_signs" (defScope s_signs) (df_signs.at_ K) cdv A fr s H E).env (cxOf (L2N.CX P w) P w K mg base N_signs "_law_signs" (defScope s_signs) (df_signs.at_ K) cdv A fr s H E).xe := passes_of rfl
  have S := sc_signs
  exact (jss_cons (js_par3 (i := 4) (j := 5) (l := 6) rfl S.nd rfl rfl rfl (by decide) (by decide) (by decide) rfl rfl rfl (ja_cons (je_op op_addD addD_ok (je_var 1) (je_call (g_dip Fx Tb) (hr.mono (by decide)) (by rfl) tk (ja_cons (je_var 0) (ja_cons (je_op op_addD addD_ok (je_op op_sub subI_ok (je_var 2) (je_var 1)) je_int) ja_nil)))) (ja_cons (je_str (l := [97, 98, 99, 100, 101, 102, 103, 104, 105, 106, 107, 108, 109, 110, 111, 112, 113, 114, 115, 116, 117, 118, 119, 120, 121, 122])) (ja_cons (je_lstM ja_nil) ja_nil)))) (jss_cons (js_if (jt_cmp op_gt gtI_ok (je_call (g_dip Fx Tb) (hr.mono (by decide)) (by rfl) tk (ja_cons (je_var 0) (ja_cons je_int ja_nil))) je_int (nomark _)) (jss_one (js_ret (je_slice sl_D slD_ok (je_var 5) jo_none (jo_some (je_var 4))))) jss_nil) (jss_cons (js_for po rfl (ji_range1 (by rfl) Fx.b_range (ja_cons (je_var 4) ja_nil)) (jg_name (i := 3) S.nd rfl (Or.inl rfl)) (jss_cons (js_set (i := 7) S.nd rfl (Or.inl rfl) (je_call (g_dip Fx Tb) (hr.mono (by decide)) (by rfl) tk (ja_cons (je_var 0) (ja_cons (je_callB call_len lenD_ok (by rfl) Fx.b_len (by decide +kernel) (ja_cons (je_var 5) ja_nil)) ja_nil)))) (jss_cons (js_expr (je_bm (Ty := .l) PySem.F.plainAttrs_list PySem.F.slot_list_append PySem.F.type_list_append mt_append lstApp_ok (je_var 6) (ja_cons (je_ix ix_seq ixD_ok (je_var 5) (je_var 7) (fun _ _ => rfl)) ja_nil))) (jss_one (js_set (i := 5) S.nd rfl (Or.inl rfl) (je_op op_addD addD_ok (je_slice sl_D slD_ok (je_var 5) jo_none (jo_some (je_var 7))) (je_slice sl_D slD_ok (je_var 5) (jo_some (je_op op_addD addD_ok (je_var 7) je_int)) jo_none))))))) (jss_frz (jss_one (js_ret (je_bm (Ty := .s) PySem.F.plainAttrs_str PySem.F.slot_str_join PySem.F.type_str_join mt_join strJoin_ok (je_str (l := [])) (ja_cons (je_callB cr_sortedS sortD_ok (by rfl) Fx.b_sorted (by decide +kernel) (ja_cons (je_var 6) ja_nil)) ja_nil))))))))
theorem g_signs {P : Program} {w : World} {K : PySem.W.Frag} {mg : Str → Option Value} {base : Heap} (Fx : FX K mg) (Tb : TBs K mg base) : Good P w TT K mg base 2 "_law_signs" ["_law_bowl_here", "_law_least", "_law_most"] d_signs := Fx.d_signs.elim fun fd F => ⟨fd, w_signs Fx Tb F, F.bindsN fun _ _ _ _ _ _ us hl => match us, hl with | [_, _, _], _ => rfl, Fx.m_signs, F.kp⟩
abbrev N_are_letters : List Str := ["value", "places", "letter", "one", "two"]
theorem sc_are_letters : FnScope N_are_letters ["value"] (defScope s_are_letters) := ⟨rfl, rfl, rfl, by decide +kernel, rfl, by decide +kernel, by decide +kernel⟩
def is_are_letters : IS := (sSeq (sIf (iOr (iNot (iTst (iCB (isiD CS TB) (iCons (iVar 0) (iCons (iC (.ty "str")) iNil))))) (iNot (iTst (iChain leI leI (iC (.int 2)) (iCB lenD (iCons (iVar 0) iNil)) (iC (.int 26)))))) (sRet (iC (.bl false))) sNext) (sSeq (sAsg 1 (iLc (iItems (iVar 0)) (.n 2) iYes (iBM .s strFind (iC (.str [97, 98, 99, 100, 101, 102, 103, 104, 105, 106, 107, 108, 109, 110, 111, 112, 113, 114, 115, 116, 117, 118, 119, 120, 121, 122])) (iCons (iVar 2) iNil)) [2])) (sRet (iAndV (iOp geI (iOp ixD (iVar 1) (iC (.int 0))) (iC (.int 0))) (iCB allD (iCons (iLc (iZip (iCons (iVar 1) (iCons (iSl slD (iVar 1) (iPart (iC (.int 1))) iNoPart) iNil))) (.t [3, 4]) iYes (iOp ltI (iVar 3) (iVar 4)) [3, 4]) iNil))))))
def d_are_letters : List D → M D := defJ 5 false is_are_letters
theorem w_are_letters {P : Program} {w : World} {K : PySem.W.Frag} {mg : Str → Option Value} {base : Heap} (Fx : FX K mg) (Tb : TBs K mg base) {fd : FuncData} (F : df_are_letters.Fun K fd) : FnG P w K mg base 1 (df_are_letters.at_ K) fd ["value"] (spJ TT K 1 d_are_letters) := by
  refine fn_j (T := TT) false F sc_are_letters (fun cdv A fr s H E room gd => ?_)
  have hr : Rg 0 (cxOf (L2N.CX P w) P w K mg base N_are_letters "are_letters" (defScope s_are_letters) (df_are_letters.at_ K) cdv A fr s H E).A := ⟨room, gd⟩
  have tk : L2N.Takes (cxOf (L2N.CX P w) P w K mg base N_are_letters "are_letters" (defScope s_are_letters) (df_are_letters.at_ K) cdv A fr s H E) (fun c d _ H => E c d H) := L2N.takes_of rfl rfl rfl rfl
  have po : PassesOwn (model P w) (cxOf (L2N.CX P w) P w K mg base N_are_letters "are_letters" (defScope s_are_letters) (df_are_letters.at_ K) cdv A fr s H E).A (cxOf (L2N.CX P w) P w K mg base N_are_letters "are_letters" (defScope s_are_letters) (df_are_letters.at_ K) cdv A fr s H E).env (cxOf (L2N.CX P w) P w K mg base N_are_letters "are_letters" (defScope s_are_letters) (df_are_letters.at_ K) cdv A fr s H E).xe := passes_of rfl
  have S := sc_are_letters
  exact (jss_cons (js_if (jt_w (jw_or (jt_not (jt_val (je_callB call_isi (isiD_ok Fx.isk) (by rfl) Fx.b_isinstance (by decide +kernel) (ja_cons (je_var 0) (ja_cons (je_ty (n := "str") rfl Fx.b_str (by decide +kernel)) ja_nil))))) (jw_or1 (jt_not (jt_chain op_le op_le leI_ok leI_ok je_int (je_callB call_len lenD_ok (by rfl) Fx.b_len (by decide +kernel) (ja_cons (je_var 0) ja_nil)) (je_gint rfl Fx.c_MOST_LETTERS)))))) (jss_one (js_ret je_bl)) jss_nil) (jss_cons (js_setLc (i := 1) (own := [("letter", 2)]) (g := (.n 2)) rfl S.nd rfl rfl (sw_true rfl rfl rfl (by decide +kernel)) (ji_items (je_var 0)) (blkOk_by (by kernel_rfl)) (fun _ _ _ _ _ => (jg_name (i := 2) S.nd rfl (Or.inl rfl))) (fun _ _ _ _ _ => jts_nil) (fun _ _ _ _ _ => (je_bm (Ty := .s) PySem.F.plainAttrs_str PySem.F.slot_str_find PySem.F.type_str_find mt_find strFind_ok (je_gstr rfl Fx.c_LETTERS) (ja_cons (je_var 2) ja_nil)))) (jss_one (js_ret (je_and (je_cmp op_ge geI_ok (je_ix ix_seq ixD_ok (je_var 1) je_int (fun _ _ => rfl)) je_int (nomark _)) (je_one (je_callB (cr_all rfl) allD_ok (by rfl) Fx.b_all (by decide +kernel) (ja_cons (je_lc (own := [("one", 3), ("two", 4)]) (g := (.t [3, 4])) rfl S.nd (ji_zip (by rfl) Fx.b_zip (ja_cons (je_var 1) (ja_cons (je_slice sl_D slD_ok (je_var 1) (jo_some je_int) jo_none) ja_nil))) (blkOk_by (by kernel_rfl)) (fun _ _ _ _ _ => (jg_tup rfl (jgs_cons (i := 3) S.nd rfl (Or.inl rfl) (jgs_cons (i := 4) S.nd rfl (Or.inl rfl) jgs_nil)))) (fun _ _ _ _ _ => jts_nil) (fun _ _ _ _ _ => (je_cmp op_lt ltI_ok (je_var 3) (je_var 4) (nomark _)))) ja_nil))))))))
theorem g_are_letters {P : Program} {w : World} {K : PySem.W.Frag} {mg : Str → Option Value} {base : Heap} (Fx : FX K mg) (Tb : TBs K mg base) : Good P w TT K mg base 1 "are_letters" ["value"] d_are_letters := Fx.d_are_letters.elim fun fd F => ⟨fd, w_are_letters Fx Tb F, F.bindsN fun _ _ _ _ _ _ us hl => match us, hl with | [_], _ => rfl, Fx.m_are_letters, F.kp⟩
abbrev N_is_integer : List Str := ["value"]
theorem sc_is_integer : FnScope N_is_integer ["value"] (defScope s_is_integer) := ⟨rfl, rfl, rfl, by decide +kernel, rfl, by decide +kernel, by decide +kernel⟩
def is_is_integer : IS := (sRet (iAndV (iCB (isiD CS TB) (iCons (iVar 0) (iCons (iC (.ty "int")) iNil))) (iNotV (iTst (iCB (isiD CS TB) (iCons (iVar 0) (iCons (iC (.ty "bool")) iNil)))))))
def d_is_integer : List D → M D := defJ 1 false is_is_integer
theorem w_is_integer {P : Program} {w : World} {K : PySem.W.Frag} {mg : Str → Option Value} {base : Heap} (Fx : FX K mg) (Tb : TBs K mg base) {fd : FuncData} (F : df_is_integer.Fun K fd) : FnG P w K mg base 1 (df_is_integer.at_ K) fd ["value"] (spJ TT K 1 d_is_integer) := by
  refine fn_j (T := TT) false F sc_is_integer (fun cdv A fr s H E room gd => ?_)
  have hr : Rg 0 (cxOf (L2N.CX P w) P w K mg base N_is_integer "is_integer" (defScope s_is_integer) (df_is_integer.at_ K) cdv A fr s H E).A := ⟨room, gd⟩
  have tk : L2N.Takes (cxOf (L2N.CX P w) P w K mg base N_is_integer "is_integer" (defScope s_is_integer) (df_is_integer.at_ K) cdv A fr s H E) (fun c d _ H => E c d H) := L2N.takes_of rfl rfl rfl rfl
  have po : PassesOwn (model P w) (cxOf (L2N.CX P w) P w K mg base N_is_integer "is_integer" (defScope s_is_integer) (df_is_integer.at_ K) cdv A fr s H E).A (cxOf (L2N.CX P w) P w K mg base N_is_integer "is_integer" (defScope s_is_integer) (df_is_integer.at_ K) cdv A fr s H E).env (cxOf (L2N.CX P w) P w K mg base N_is_integer "is_integer" (defScope s_is_integer) (df_is_integer.at_ K) cdv A fr s H E).xe := passes_of rfl
  have S := sc_is_integer
  exact (jss_one (js_ret (je_and (je_callB call_isi (isiD_ok Fx.isk) (by rfl) Fx.b_isinstance (by decide +kernel) (ja_cons (je_var 0) (ja_cons (je_ty (n := "int") rfl Fx.b_int (by decide +kernel)) ja_nil))) (je_one (je_not (je_callB call_isi (isiD_ok Fx.isk) (by rfl) Fx.b_isinstance (by decide +kernel) (ja_cons (je_var 0) (ja_cons (je_ty (n := "bool") rfl Fx.b_bool (by decide +kernel)) ja_nil))))))))
theorem g_is_integer {P : Program} {w : World} {K : PySem.W.Frag} {mg : Str → Option Value} {base : Heap} (Fx : FX K mg) (Tb : TBs K mg base) : Good P w TT K mg base 1 "is_integer" ["value"] d_is_integer := Fx.d_is_integer.elim fun fd F => ⟨fd, w_is_integer Fx Tb F, F.bindsN fun _ _ _ _ _ _ us hl => match us, hl with | [_], _ => rfl, Fx.m_is_integer, F.kp⟩
abbrev N_Board_init : List Str := ["self", "letters", "length"]
theorem sc_Board_init : FnScope N_Board_init ["self", "letters", "length"] (defScope s_Board_init) := ⟨rfl, rfl, rfl, by decide +kernel, rfl, by decide +kernel, by decide +kernel⟩
def is_Board_init : IS := (sSeq (sIf (iNot (iTst (iCall 1 d_are_letters (iCons (iVar 1) iNil)))) sNever sNext) (sSeq (sIf (iOr (iNot (iTst (iCall 1 d_is_integer (iCons (iVar 2) iNil)))) (iNot (iTst (iChain leI leI (iC (.int 1)) (iVar 2) (iC (.int 6)))))) sNever sNext) (sSeq (sSetA TT [0] 0 (iVar 1) (iVar 0)) (sSetA TT [0] 1 (iVar 2) (iVar 0)))))
def d_Board_init : List D → M D := defJ 3 true is_Board_init
theorem w_Board_init {P : Program} {w : World} {K : PySem.W.Frag} {mg : Str → Option Value} {base : Heap} (Fx : FX K mg) (Tb : TBs K mg base) {fd : FuncData} (F : df_Board_init.Fun K fd) : FnG P w K mg base 2 (df_Board_init.at_ K) fd ["self", "letters", "length"] (spJ TT K 3 d_Board_init) := by
  refine fn_j (T := TT) true F sc_Board_init (fun cdv A fr s H E room gd => ?_)
  have hr : Rg 1 (cxOf (L2N.CX P w) P w K mg base N_Board_init "Board.__init__" (defScope s_Board_init) (df_Board_init.at_ K) cdv A fr s H E).A := ⟨room, gd⟩
  have tk : L2N.Takes (cxOf (L2N.CX P w) P w K mg base N_Board_init "Board.__init__" (defScope s_Board_init) (df_Board_init.at_ K) cdv A fr s H E) (fun c d _ H => E c d H) := L2N.takes_of rfl rfl rfl rfl
  have po : PassesOwn (model P w) (cxOf (L2N.CX P w) P w K mg base N_Board_init "Board.__init__" (defScope s_Board_init) (df_Board_init.at_ K) cdv A fr s H E).A (cxOf (L2N.CX P w) P w K mg base N_Board_init "Board.__init__" (defScope s_Board_init) (df_Board_init.at_ K) cdv A fr s H E).env (cxOf (L2N.CX P w) P w K mg base N_Board_init "Board.__init__" (defScope s_Board_init) (df_Board_init.at_ K) cdv A fr s H E).xe := passes_of rfl
  have S := sc_Board_init
  exact (jss_cons (js_if (jt_not (jt_val (je_call (g_are_letters Fx Tb) (hr.mono (by decide)) (by rfl) tk (ja_cons (je_var 1) ja_nil)))) (jss_one js_never) jss_nil) (jss_cons (js_if (jt_w (jw_or (jt_not (jt_val (je_call (g_is_integer Fx Tb) (hr.mono (by decide)) (by rfl) tk (ja_cons (je_var 2) ja_nil)))) (jw_or1 (jt_not (jt_chain op_le op_le leI_ok leI_ok je_int (je_var 2) (je_gint rfl Fx.c_MOST_LENGTH)))))) (jss_one js_never) jss_nil) (jss_cons (js_setA (cs := [0]) (f := 0) (je_var 0) (je_var 1) Fx.f_letters (by rfl)) (jss_one (js_setA (cs := [0]) (f := 1) (je_var 0) (je_var 2) Fx.f_length (by rfl))))))
theorem g_Board_init {P : Program} {w : World} {K : PySem.W.Frag} {mg : Str → Option Value} {base : Heap} (Fx : FX K mg) (Tb : TBs K mg base) : GoodI P w TT K mg base 2 0 ["self", "letters", "length"] d_Board_init := Fx.d_Board_init.elim fun fd F => ⟨_, fd, w_Board_init Fx Tb F, F.bindsN fun _ _ _ _ _ _ us hl => match us, hl with | [_, _, _], _ => rfl, Fx.m_Board_init, Fx.k_Board⟩
abbrev N_of : List Str := ["_law_bowl_here", "_law_things"]
theorem sc_of : FnScope N_of ["_law_bowl_here", "_law_things"] (defScope s_of) := ⟨rfl, rfl, rfl, by decide +kernel, rfl, by decide +kernel, by decide +kernel⟩
def is_of : IS := (sRet (iOp ixD (iVar 1) (iCall 2 d_dip (iCons (iVar 0) (iCons (iCB lenD (iCons (iVar 1) iNil)) iNil)))))
def d_of : List D → M D := defJ 2 false is_of
theorem w_of {P : Program} {w : World} {K : PySem.W.Frag} {mg : Str → Option Value} {base : Heap} (Fx : FX K mg) (Tb : TBs K mg base) {fd : FuncData} (F : df_of.Fun K fd) : FnG P w K mg base 2 (df_of.at_ K) fd ["_law_bowl_here", "_law_things"] (spJ TT K 2 d_of) := by
  refine fn_j (T := TT) false F sc_of (fun cdv A fr s H E room gd => ?_)
  have hr : Rg 1 (cxOf (L2N.CX P w) P w K mg base N_of "_law_of" (defScope s_of) (df_of.at_ K) cdv A fr s H E).A := ⟨room, gd⟩
  have tk : L2N.Takes (cxOf (L2N.CX P w) P w K mg base N_of "_law_of" (defScope s_of) (df_of.at_ K) cdv A fr s H E) (fun c d _ H => E c d H) := L2N.takes_of rfl rfl rfl rfl
  have po : PassesOwn (model P w) (cxOf (L2N.CX P w) P w K mg base N_of "_law_of" (defScope s_of) (df_of.at_ K) cdv A fr s H E).A (cxOf (L2N.CX P w) P w K mg base N_of "_law_of" (defScope s_of) (df_of.at_ K) cdv A fr s H E).env (cxOf (L2N.CX P w) P w K mg base N_of "_law_of" (defScope s_of) (df_of.at_ K) cdv A fr s H E).xe := passes_of rfl
  have S := sc_of
  exact (jss_one (js_ret (je_ix ix_seq ixD_ok (je_var 1) (je_call (g_dip Fx Tb) (hr.mono (by decide)) (by rfl) tk (ja_cons (je_var 0) (ja_cons (je_callB call_len lenD_ok (by rfl) Fx.b_len (by decide +kernel) (ja_cons (je_var 1) ja_nil)) ja_nil))) (fun _ _ => rfl))))
theorem g_of {P : Program} {w : World} {K : PySem.W.Frag} {mg : Str → Option Value} {base : Heap} (Fx : FX K mg) (Tb : TBs K mg base) : Good P w TT K mg base 2 "_law_of" ["_law_bowl_here", "_law_things"] d_of := Fx.d_of.elim fun fd F => ⟨fd, w_of Fx Tb F, F.bindsN fun _ _ _ _ _ _ us hl => match us, hl with | [_, _], _ => rfl, Fx.m_of, F.kp⟩
abbrev N_word : List Str := ["_law_bowl_here", "_law_signs_here", "_law_size", "_law_some", "_law_k"]
theorem sc_word : FnScope N_word ["_law_bowl_here", "_law_signs_here", "_law_size"] (defScope s_word) := ⟨rfl, rfl, rfl, by decide +kernel, rfl, by decide +kernel, by decide +kernel⟩
def is_word : IS := (sSeq (sAsg 3 (iVar 1)) (sSeq (sIf (iTst (iOp eqD (iCall 2 d_dip (iCons (iVar 0) (iCons (iC (.int 3)) iNil))) (iC (.int 0)))) (sAsg 3 (iOp addD (iCall 2 d_of (iCons (iVar 0) (iCons (iVar 1) iNil))) (iCall 2 d_of (iCons (iVar 0) (iCons (iVar 1) iNil))))) sNext) (sRet (iBM .s strJoin (iC (.str [])) (iCons (iLc (iRange range1 (iCons (iVar 2) iNil)) (.n 4) iYes (iCall 2 d_of (iCons (iVar 0) (iCons (iVar 3) iNil))) [4]) iNil)))))
def d_word : List D → M D := defJ 5 false is_word
theorem w_word {P : Program} {w : World} {K : PySem.W.Frag} {mg : Str → Option Value} {base : Heap} (Fx : FX K mg) (Tb : TBs K mg base) {fd : FuncData} (F : df_word.Fun K fd) : FnG P w K mg base 3 (df_word.at_ K) fd ["_law_bowl_here", "_law_signs_here", "_law_size"] (spJ TT K 3 d_word) := by
  refine fn_j (T := TT) false F sc_word (fun cdv A fr s H E room gd => ?_)
  have hr : Rg 2 (cxOf (L2N.CX P w) P w K mg base N_word "_law_word" (defScope s_word) (df_word.at_ K) cdv A fr s H E).A := ⟨room, gd⟩
  have tk : L2N.Takes (cxOf (L2N.CX P w) P w K mg base N_word "_law_word" (defScope s_word) (df_word.at_ K) cdv A fr s H E) (fun c d _ H => E c d H) := L2N.takes_of rfl rfl rfl rfl
  have po : PassesOwn (model P w) (cxOf (L2N.CX P w) P w K mg base N_word "_law_word" (defScope s_word) (df_word.at_ K) cdv A fr s H E).A (cxOf (L2N.CX P w) P w K mg base N_word "_law_word" (defScope s_word) (df_word.at_ K) cdv A fr s H E).env (cxOf (L2N.CX P w) P w K mg base N_word "_law_word" (defScope s_word) (df_word.at_ K) cdv A fr s H E).xe := passes_of rfl
  have S := sc_word
  exact (jss_cons (js_set (i := 3) S.nd rfl (Or.inr rfl) (je_var 1)) (jss_cons (js_if (jt_cmp (op_eqJ hr) eqD_ok (je_call (g_dip Fx Tb) (hr.mono (by decide)) (by rfl) tk (ja_cons (je_var 0) (ja_cons je_int ja_nil))) je_int (nomark _)) (jss_one (js_set (i := 3) S.nd rfl (Or.inr rfl) (je_op op_addD addD_ok (je_call (g_of Fx Tb) (hr.mono (by decide)) (by rfl) tk (ja_cons (je_var 0) (ja_cons (je_var 1) ja_nil))) (je_call (g_of Fx Tb) (hr.mono (by decide)) (by rfl) tk (ja_cons (je_var 0) (ja_cons (je_var 1) ja_nil)))))) jss_nil) (jss_one (js_ret (je_bm (Ty := .s) PySem.F.plainAttrs_str PySem.F.slot_str_join PySem.F.type_str_join mt_join strJoin_ok (je_str (l := [])) (ja_cons (je_lc (own := [("_law_k", 4)]) (g := (.n 4)) rfl S.nd (ji_range1 (by rfl) Fx.b_range (ja_cons (je_var 2) ja_nil)) (blkOk_by (by kernel_rfl)) (fun _ _ _ _ _ => (jg_name (i := 4) S.nd rfl (Or.inl rfl))) (fun _ _ _ _ _ => jts_nil) (fun _ _ _ _ _ => (je_call (g_of Fx Tb) (hr.mono (by decide)) (by rfl) tk0 (ja_cons (je_var 0) (ja_cons (je_var 3) ja_nil))))) ja_nil))))))
theorem g_word {P : Program} {w : World} {K : PySem.W.Frag} {mg : Str → Option Value} {base : Heap} (Fx : FX K mg) (Tb : TBs K mg base) : Good P w TT K mg base 3 "_law_word" ["_law_bowl_here", "_law_signs_here", "_law_size"] d_word := Fx.d_word.elim fun fd F => ⟨fd, w_word Fx Tb F, F.bindsN fun _ _ _ _ _ _ us hl => match us, hl with | [_, _, _], _ => rfl, Fx.m_word, F.kp⟩
abbrev N_is_word : List Str := ["board", "value", "letter"]
theorem sc_is_word : FnScope N_is_word ["board", "value"] (defScope s_is_word) := ⟨rfl, rfl, rfl, by decide +kernel, rfl, by decide +kernel, by decide +kernel⟩
def is_is_word : IS := (sSeq (sIf (iOr (iNot (iTst (iCB (isiD CS TB) (iCons (iVar 1) (iCons (iC (.ty "str")) iNil))))) (iTst (iOp neD (iCB lenD (iCons (iVar 1) iNil)) (iFld TT [0] 1 (iVar 0))))) (sRet (iC (.bl false))) sNext) (sRet (iCB allD (iCons (iLc (iItems (iVar 1)) (.n 2) iYes (iOp inD (iVar 2) (iFld TT [0] 0 (iVar 0))) [2]) iNil))))
def d_is_word : List D → M D := defJ 3 false is_is_word
theorem w_is_word {P : Program} {w : World} {K : PySem.W.Frag} {mg : Str → Option Value} {base : Heap} (Fx : FX K mg) (Tb : TBs K mg base) {fd : FuncData} (F : df_is_word.Fun K fd) : FnG P w K mg base 1 (df_is_word.at_ K) fd ["board", "value"] (spJ TT K 2 d_is_word) := by
  refine fn_j (T := TT) false F sc_is_word (fun cdv A fr s H E room gd => ?_)
  have hr : Rg 0 (cxOf (L2N.CX P w) P w K mg base N_is_word "is_word" (defScope s_is_word) (df_is_word.at_ K) cdv A fr s H E).A := ⟨room, gd⟩
  have tk : L2N.Takes (cxOf (L2N.CX P w) P w K mg base N_is_word "is_word" (defScope s_is_word) (df_is_word.at_ K) cdv A fr s H E) (fun c d _ H => E c d H) := L2N.takes_of rfl rfl rfl rfl
  have po : PassesOwn (model P w) (cxOf (L2N.CX P w) P w K mg base N_is_word "is_word" (defScope s_is_word) (df_is_word.at_ K) cdv A fr s H E).A (cxOf (L2N.CX P w) P w K mg base N_is_word "is_word" (defScope s_is_word) (df_is_word.at_ K) cdv A fr s H E).env (cxOf (L2N.CX P w) P w K mg base N_is_word "is_word" (defScope s_is_word) (df_is_word.at_ K) cdv A fr s H E).xe := passes_of rfl
  have S := sc_is_word
  exact (jss_cons (js_if (jt_w (jw_or (jt_not (jt_val (je_callB call_isi (isiD_ok Fx.isk) (by rfl) Fx.b_isinstance (by decide +kernel) (ja_cons (je_var 1) (ja_cons (je_ty (n := "str") rfl Fx.b_str (by decide +kernel)) ja_nil))))) (jw_or1 (jt_cmp (op_neJ hr) neD_ok (je_callB call_len lenD_ok (by rfl) Fx.b_len (by decide +kernel) (ja_cons (je_var 1) ja_nil)) (je_fld (cs := [0]) (f := 1) (je_var 0) Fx.f_length (by rfl)) (nomark _))))) (jss_one (js_ret je_bl)) jss_nil) (jss_one (js_ret (je_callB (cr_all rfl) allD_ok (by rfl) Fx.b_all (by decide +kernel) (ja_cons (je_lc (own := [("letter", 2)]) (g := (.n 2)) rfl S.nd (ji_items (je_var 1)) (blkOk_by (by kernel_rfl)) (fun _ _ _ _ _ => (jg_name (i := 2) S.nd rfl (Or.inl rfl))) (fun _ _ _ _ _ => jts_nil) (fun _ _ _ _ _ => (je_cmp op_inD inD_ok (je_var 2) (je_fld (cs := [0]) (f := 0) (je_var 0) Fx.f_letters (by rfl)) (by rfl)))) ja_nil)))))
theorem g_is_word {P : Program} {w : World} {K : PySem.W.Frag} {mg : Str → Option Value} {base : Heap} (Fx : FX K mg) (Tb : TBs K mg base) : Good P w TT K mg base 1 "is_word" ["board", "value"] d_is_word := Fx.d_is_word.elim fun fd F => ⟨fd, w_is_word Fx Tb F, F.bindsN fun _ _ _ _ _ _ us hl => match us, hl with | [_, _], _ => rfl, Fx.m_is_word, F.kp⟩
abbrev N_InvalidWord_init : List Str := ["self", "value"]
theorem sc_InvalidWord_init : FnScope N_InvalidWord_init ["self", "value"] (defScope s_InvalidWord_init) := ⟨rfl, rfl, rfl, by decide +kernel, rfl, by decide +kernel, by decide +kernel⟩
theorem v_InvalidWord {P : Program} {w : World} {K : PySem.W.Frag} {mg : Str → Option Value} {base : Heap} (Fx : FX K mg) : ExcV P w K mg base (He.ga K (TT.cn 18)) "InvalidWord" (TT.fn 19) := Fx.d_InvalidWord_init.elim fun fd F => excV_of (f := "value") Fx.r_InvalidWord.oex Fx.k_InvalidWord Fx.r_InvalidWord.ini Fx.r_InvalidWord.ty Fx.r_InvalidWord.no F sc_InvalidWord_init (F.bindsN fun _ _ _ _ _ _ us hl => match us, hl with | [_, _], _ => rfl) (by decide) (by decide) (fun _ => rfl)
abbrev N_check_word : List Str := ["board", "value"]
theorem sc_check_word : FnScope N_check_word ["board", "value"] (defScope s_check_word) := ⟨rfl, rfl, rfl, by decide +kernel, rfl, by decide +kernel, by decide +kernel⟩
def is_check_word : IS := (sIf (iNot (iTst (iCall 2 d_is_word (iCons (iVar 0) (iCons (iVar 1) iNil))))) (sRaise 18 19 (iVar 1)) sNext)
def d_check_word : List D → M D := defJ 2 false is_check_word
theorem w_check_word {P : Program} {w : World} {K : PySem.W.Frag} {mg : Str → Option Value} {base : Heap} (Fx : FX K mg) (Tb : TBs K mg base) {fd : FuncData} (F : df_check_word.Fun K fd) : FnG P w K mg base 3 (df_check_word.at_ K) fd ["board", "value"] (spJ TT K 2 d_check_word) := by
  refine fn_j (T := TT) false F sc_check_word (fun cdv A fr s H E room gd => ?_)
  have hr : Rg 2 (cxOf (L2N.CX P w) P w K mg base N_check_word "check_word" (defScope s_check_word) (df_check_word.at_ K) cdv A fr s H E).A := ⟨room, gd⟩
  have tk : L2N.Takes (cxOf (L2N.CX P w) P w K mg base N_check_word "check_word" (defScope s_check_word) (df_check_word.at_ K) cdv A fr s H E) (fun c d _ H => E c d H) := L2N.takes_of rfl rfl rfl rfl
  have po : PassesOwn (model P w) (cxOf (L2N.CX P w) P w K mg base N_check_word "check_word" (defScope s_check_word) (df_check_word.at_ K) cdv A fr s H E).A (cxOf (L2N.CX P w) P w K mg base N_check_word "check_word" (defScope s_check_word) (df_check_word.at_ K) cdv A fr s H E).env (cxOf (L2N.CX P w) P w K mg base N_check_word "check_word" (defScope s_check_word) (df_check_word.at_ K) cdv A fr s H E).xe := passes_of rfl
  have S := sc_check_word
  exact (jss_one (js_if (jt_not (jt_val (je_call (g_is_word Fx Tb) (hr.mono (by decide)) (by rfl) tk (ja_cons (je_var 0) (ja_cons (je_var 1) ja_nil))))) (jss_one (js_raise (T := TT) (c := 18) (f := 19) (v_InvalidWord Fx) rfl (hr.r.mono (by decide)) tk0 tk rfl (je_var 1))) jss_nil))
theorem g_check_word {P : Program} {w : World} {K : PySem.W.Frag} {mg : Str → Option Value} {base : Heap} (Fx : FX K mg) (Tb : TBs K mg base) : Good P w TT K mg base 3 "check_word" ["board", "value"] d_check_word := Fx.d_check_word.elim fun fd F => ⟨fd, w_check_word Fx Tb F, F.bindsN fun _ _ _ _ _ _ us hl => match us, hl with | [_, _], _ => rfl, Fx.m_check_word, F.kp⟩
abbrev N_Board_number : List Str := ["self", "word", "count", "letter"]
theorem sc_Board_number : FnScope N_Board_number ["self", "word"] (defScope s_Board_number) := ⟨rfl, rfl, rfl, by decide +kernel, rfl, by decide +kernel, by decide +kernel⟩
def is_Board_number : IS := (sSeq (sExpr (iCall 2 d_check_word (iCons (iVar 0) (iCons (iVar 1) iNil)))) (sSeq (sAsg 2 (iC (.int 0))) (sSeq (sFor (iItems (iVar 1)) (.n 3) (sAsg 2 (iOp addD (iOp mulD (iVar 2) (iCB lenD (iCons (iFld TT [0] 0 (iVar 0)) iNil))) (iBM .s strIndex (iFld TT [0] 0 (iVar 0)) (iCons (iVar 3) iNil))))) (sRet (iVar 2)))))
def d_Board_number : List D → M D := defJ 4 false is_Board_number
theorem w_Board_number {P : Program} {w : World} {K : PySem.W.Frag} {mg : Str → Option Value} {base : Heap} (Fx : FX K mg) (Tb : TBs K mg base) {fd : FuncData} (F : df_Board_number.Fun K fd) : FnG P w K mg base 4 (df_Board_number.at_ K) fd ["self", "word"] (spJ TT K 2 d_Board_number) := by
  refine fn_j (T := TT) false F sc_Board_number (fun cdv A fr s H E room gd => ?_)
  have hr : Rg 3 (cxOf (L2N.CX P w) P w K mg base N_Board_number "Board.number" (defScope s_Board_number) (df_Board_number.at_ K) cdv A fr s H E).A := ⟨room, gd⟩
  have tk : L2N.Takes (cxOf (L2N.CX P w) P w K mg base N_Board_number "Board.number" (defScope s_Board_number) (df_Board_number.at_ K) cdv A fr s H E) (fun c d _ H => E c d H) := L2N.takes_of rfl rfl rfl rfl
  have po : PassesOwn (model P w) (cxOf (L2N.CX P w) P w K mg base N_Board_number "Board.number" (defScope s_Board_number) (df_Board_number.at_ K) cdv A fr s H E).A (cxOf (L2N.CX P w) P w K mg base N_Board_number "Board.number" (defScope s_Board_number) (df_Board_number.at_ K) cdv A fr s H E).env (cxOf (L2N.CX P w) P w K mg base N_Board_number "Board.number" (defScope s_Board_number) (df_Board_number.at_ K) cdv A fr s H E).xe := passes_of rfl
  have S := sc_Board_number
  exact (jss_cons (js_expr (je_call (g_check_word Fx Tb) (hr.mono (by decide)) (by rfl) tk (ja_cons (je_var 0) (ja_cons (je_var 1) ja_nil)))) (jss_cons (js_set (i := 2) S.nd rfl (Or.inl rfl) je_int) (jss_cons (js_for po rfl (ji_items (je_var 1)) (jg_name (i := 3) S.nd rfl (Or.inl rfl)) (jss_one (js_set (i := 2) S.nd rfl (Or.inl rfl) (je_op op_addD addD_ok (je_op op_mulD mulD_ok (je_var 2) (je_callB call_len lenD_ok (by rfl) Fx.b_len (by decide +kernel) (ja_cons (je_fld (cs := [0]) (f := 0) (je_var 0) Fx.f_letters (by rfl)) ja_nil))) (je_bm (Ty := .s) PySem.F.plainAttrs_str PySem.F.slot_str_index PySem.F.type_str_index mt_sindex strIndex_ok (je_fld (cs := [0]) (f := 0) (je_var 0) Fx.f_letters (by rfl)) (ja_cons (je_var 3) ja_nil)))))) (jss_one (js_ret (je_var 2))))))
theorem g_Board_number {P : Program} {w : World} {K : PySem.W.Frag} {mg : Str → Option Value} {base : Heap} (Fx : FX K mg) (Tb : TBs K mg base) : GoodM P w TT K mg base 4 0 "number" ["self", "word"] d_Board_number := Fx.d_Board_number.elim fun fd F => ⟨_, fd, w_Board_number Fx Tb F, F.bindsN fun _ _ _ _ _ _ us hl => match us, hl with | [_, _], _ => rfl, Fx.m_Board_number.at_, Fx.m_Board_number.fn, Fx.m_Board_number.kp⟩
theorem k_Board_number_0 {P : Program} {w : World} {K : PySem.W.Frag} {mg : Str → Option Value} {base : Heap} (Fx : FX K mg) (Tb : TBs K mg base) : GoodMK P w TT K mg base 4 0 "number" ["self", "word"] d_Board_number ["word"] [0] := Fx.d_Board_number.elim fun fd F => ⟨_, fd, w_Board_number Fx Tb F, bindsW_of F fun _ _ _ _ _ _ us ws hl hk => match us, hl, ws, hk with | [_], _, [_], _ => rfl, Fx.m_Board_number⟩
abbrev N_Board_size : List Str := ["self", "count", "turn"]
theorem sc_Board_size : FnScope N_Board_size ["self"] (defScope s_Board_size) := ⟨rfl, rfl, rfl, by decide +kernel, rfl, by decide +kernel, by decide +kernel⟩
def is_Board_size : IS := (sSeq (sAsg 1 (iC (.int 1))) (sSeq (sFor (iRange range1 (iCons (iFld TT [0] 1 (iVar 0)) iNil)) (.n 2) (sAug 1 mulI (iCB lenD (iCons (iFld TT [0] 0 (iVar 0)) iNil)))) (sRet (iVar 1))))
def d_Board_size : List D → M D := defJ 3 false is_Board_size
theorem w_Board_size {P : Program} {w : World} {K : PySem.W.Frag} {mg : Str → Option Value} {base : Heap} (Fx : FX K mg) (Tb : TBs K mg base) {fd : FuncData} (F : df_Board_size.Fun K fd) : FnG P w K mg base 1 (df_Board_size.at_ K) fd ["self"] (spJ TT K 1 d_Board_size) := by
  refine fn_j (T := TT) false F sc_Board_size (fun cdv A fr s H E room gd => ?_)
  have hr : Rg 0 (cxOf (L2N.CX P w) P w K mg base N_Board_size "Board.size" (defScope s_Board_size) (df_Board_size.at_ K) cdv A fr s H E).A := ⟨room, gd⟩
  have tk : L2N.Takes (cxOf (L2N.CX P w) P w K mg base N_Board_size "Board.size" (defScope s_Board_size) (df_Board_size.at_ K) cdv A fr s H E) (fun c d _ H => E c d H) := L2N.takes_of rfl rfl rfl rfl
  have po : PassesOwn (model P w) (cxOf (L2N.CX P w) P w K mg base N_Board_size "Board.size" (defScope s_Board_size) (df_Board_size.at_ K) cdv A fr s H E).A (cxOf (L2N.CX P w) P w K mg base N_Board_size "Board.size" (defScope s_Board_size) (df_Board_size.at_ K) cdv A fr s H E).env (cxOf (L2N.CX P w) P w K mg base N_Board_size "Board.size" (defScope s_Board_size) (df_Board_size.at_ K) cdv A fr s H E).xe := passes_of rfl
  have S := sc_Board_size
  exact (jss_cons (js_set (i := 1) S.nd rfl (Or.inl rfl) je_int) (jss_cons (js_for po rfl (ji_range1 (by rfl) Fx.b_range (ja_cons (je_fld (cs := [0]) (f := 1) (je_var 0) Fx.f_length (by rfl)) ja_nil)) (jg_name (i := 2) S.nd rfl (Or.inl rfl)) (jss_one (js_aug (i := 1) S.nd rfl (Or.inl rfl) (je_callB call_len lenD_ok (by rfl) Fx.b_len (by decide +kernel) (ja_cons (je_fld (cs := [0]) (f := 0) (je_var 0) Fx.f_letters (by rfl)) ja_nil)) iop_mul mulI_ok))) (jss_one (js_ret (je_var 1)))))
theorem g_Board_size {P : Program} {w : World} {K : PySem.W.Frag} {mg : Str → Option Value} {base : Heap} (Fx : FX K mg) (Tb : TBs K mg base) : GoodP P w TT K mg base 1 0 "size" ["self"] d_Board_size := Fx.d_Board_size.elim fun fd F => ⟨_, _, fd, w_Board_size Fx Tb F, F.bindsN fun _ _ _ _ _ _ us hl => match us, hl with | [_], _ => rfl, Fx.m_Board_size, Fx.j_Board.cl⟩
abbrev N_InvalidNumber_init : List Str := ["self", "value"]
theorem sc_InvalidNumber_init : FnScope N_InvalidNumber_init ["self", "value"] (defScope s_InvalidNumber_init) := ⟨rfl, rfl, rfl, by decide +kernel, rfl, by decide +kernel, by decide +kernel⟩
theorem v_InvalidNumber {P : Program} {w : World} {K : PySem.W.Frag} {mg : Str → Option Value} {base : Heap} (Fx : FX K mg) : ExcV P w K mg base (He.ga K (TT.cn 23)) "InvalidNumber" (TT.fn 19) := Fx.d_InvalidNumber_init.elim fun fd F => excV_of (f := "value") Fx.r_InvalidNumber.oex Fx.k_InvalidNumber Fx.r_InvalidNumber.ini Fx.r_InvalidNumber.ty Fx.r_InvalidNumber.no F sc_InvalidNumber_init (F.bindsN fun _ _ _ _ _ _ us hl => match us, hl with | [_, _], _ => rfl) (by decide) (by decide) (fun _ => rfl)
abbrev N_Board_word : List Str := ["self", "number", "turn", "found", "rest"]
theorem sc_Board_word : FnScope N_Board_word ["self", "number"] (defScope s_Board_word) := ⟨rfl, rfl, rfl, by decide +kernel, rfl, by decide +kernel, by decide +kernel⟩
def is_Board_word : IS := (sSeq (sIf (iOr (iNot (iTst (iCall 1 d_is_integer (iCons (iVar 1) iNil)))) (iNot (iTst (iChain leI ltI (iC (.int 0)) (iVar 1) (iProp TT 0 d_Board_size (iVar 0)))))) (sRaise 23 19 (iVar 1)) sNext) (sSeq (sPar 3 4 (iCons (iC (.str [])) (iCons (iVar 1) iNil))) (sSeq (sFor (iRange range1 (iCons (iFld TT [0] 1 (iVar 0)) iNil)) (.n 2) (sSeq (sAsg 3 (iOp addD (iOp ixD (iFld TT [0] 0 (iVar 0)) (iOp modI (iCB intD (iCons (iVar 4) iNil)) (iCB lenD (iCons (iFld TT [0] 0 (iVar 0)) iNil)))) (iVar 3))) (sAsg 4 (iOp fdivI (iVar 4) (iCB lenD (iCons (iFld TT [0] 0 (iVar 0)) iNil)))))) (sRet (iVar 3)))))
def d_Board_word : List D → M D := defJ 5 false is_Board_word
theorem w_Board_word {P : Program} {w : World} {K : PySem.W.Frag} {mg : Str → Option Value} {base : Heap} (Fx : FX K mg) (Tb : TBs K mg base) {fd : FuncData} (F : df_Board_word.Fun K fd) : FnG P w K mg base 3 (df_Board_word.at_ K) fd ["self", "number"] (spJ TT K 2 d_Board_word) := by
  refine fn_j (T := TT) false F sc_Board_word (fun cdv A fr s H E room gd => ?_)
  have hr : Rg 2 (cxOf (L2N.CX P w) P w K mg base N_Board_word "Board.word" (defScope s_Board_word) (df_Board_word.at_ K) cdv A fr s H E).A := ⟨room, gd⟩
  have tk : L2N.Takes (cxOf (L2N.CX P w) P w K mg base N_Board_word "Board.word" (defScope s_Board_word) (df_Board_word.at_ K) cdv A fr s H E) (fun c d _ H => E c d H) := L2N.takes_of rfl rfl rfl rfl
  have po : PassesOwn (model P w) (cxOf (L2N.CX P w) P w K mg base N_Board_word "Board.word" (defScope s_Board_word) (df_Board_word.at_ K) cdv A fr s H E).A (cxOf (L2N.CX P w) P w K mg base N_Board_word "Board.word" (defScope s_Board_word) (df_Board_word.at_ K) cdv A fr s H E).env (cxOf (L2N.CX P w) P w K mg base N_Board_word "Board.word" (defScope s_Board_word) (df_Board_word.at_ K) cdv A fr s H E).xe := passes_of rfl
  have S := sc_Board_word
  exact (jss_cons (js_if (jt_w (jw_or (jt_not (jt_val (je_call (g_is_integer Fx Tb) (hr.mono (by decide)) (by rfl) tk (ja_cons (je_var 1) ja_nil)))) (jw_or1 (jt_not (jt_chain op_le op_lt leI_ok ltI_ok je_int (je_var 1) (je_prop (T := TT) (c := 0) (g_Board_size Fx Tb) rfl (hr.mono (by decide)) (je_var 0))))))) (jss_one (js_raise (T := TT) (c := 23) (f := 19) (v_InvalidNumber Fx) rfl (hr.r.mono (by decide)) tk0 tk rfl (je_var 1))) jss_nil) (jss_cons (js_par (i := 3) (j := 4) rfl S.nd rfl rfl (by decide) rfl rfl (ja_cons (je_str (l := [])) (ja_cons (je_var 1) ja_nil))) (jss_cons (js_for po rfl (ji_range1 (by rfl) Fx.b_range (ja_cons (je_fld (cs := [0]) (f := 1) (je_var 0) Fx.f_length (by rfl)) ja_nil)) (jg_name (i := 2) S.nd rfl (Or.inl rfl)) (jss_cons (js_set (i := 3) S.nd rfl (Or.inl rfl) (je_op op_addD addD_ok (je_ix ix_seq ixD_ok (je_fld (cs := [0]) (f := 0) (je_var 0) Fx.f_letters (by rfl)) (je_op op_mod modI_ok (je_callTy call_int1 intD_ok (by rfl) Fx.b_int (by decide +kernel) (ja_cons (je_var 4) ja_nil)) (je_callB call_len lenD_ok (by rfl) Fx.b_len (by decide +kernel) (ja_cons (je_fld (cs := [0]) (f := 0) (je_var 0) Fx.f_letters (by rfl)) ja_nil))) (fun _ _ => rfl)) (je_var 3))) (jss_one (js_set (i := 4) S.nd rfl (Or.inl rfl) (je_op op_fdiv fdivI_ok (je_var 4) (je_callB call_len lenD_ok (by rfl) Fx.b_len (by decide +kernel) (ja_cons (je_fld (cs := [0]) (f := 0) (je_var 0) Fx.f_letters (by rfl)) ja_nil))))))) (jss_one (js_ret (je_var 3))))))
theorem g_Board_word {P : Program} {w : World} {K : PySem.W.Frag} {mg : Str → Option Value} {base : Heap} (Fx : FX K mg) (Tb : TBs K mg base) : GoodM P w TT K mg base 3 0 "word" ["self", "number"] d_Board_word := Fx.d_Board_word.elim fun fd F => ⟨_, fd, w_Board_word Fx Tb F, F.bindsN fun _ _ _ _ _ _ us hl => match us, hl with | [_, _], _ => rfl, Fx.m_Board_word.at_, Fx.m_Board_word.fn, Fx.m_Board_word.kp⟩
theorem k_Board_word_0 {P : Program} {w : World} {K : PySem.W.Frag} {mg : Str → Option Value} {base : Heap} (Fx : FX K mg) (Tb : TBs K mg base) : GoodMK P w TT K mg base 3 0 "word" ["self", "number"] d_Board_word ["number"] [0] := Fx.d_Board_word.elim fun fd F => ⟨_, fd, w_Board_word Fx Tb F, bindsW_of F fun _ _ _ _ _ _ us ws hl hk => match us, hl, ws, hk with | [_], _, [_], _ => rfl, Fx.m_Board_word⟩
abbrev N_got : List Str := ["_law_ask", "e", "_law_given"]
theorem sc_got : FnScope N_got ["_law_ask"] (defScope s_got) := ⟨rfl, rfl, rfl, by decide +kernel, rfl, by decide +kernel, by decide +kernel⟩
def is1_got_0 : IS := (sRet (iLst (iCons (iC (.str [73, 110, 118, 97, 108, 105, 100, 78, 117, 109, 98, 101, 114])) (iCons (iXf [23, 18] 19 (iVar 1)) (iCons (iAndV (iCB (isxD TBX) (iCons (iVar 1) (iCons (iC (.glo 10)) iNil))) (iCB (isxD TBX) (iCons (iVar 1) (iCons (iC (.ty "ValueError")) iNil)))) iNil)))))
def is1_got_1 : IS := (sRet (iLst (iCons (iC (.str [73, 110, 118, 97, 108, 105, 100, 87, 111, 114, 100])) (iCons (iXf [23, 18] 19 (iVar 1)) (iCons (iAndV (iCB (isxD TBX) (iCons (iVar 1) (iCons (iC (.glo 10)) iNil))) (iCB (isxD TBX) (iCons (iVar 1) (iCons (iC (.ty "ValueError")) iNil)))) iNil)))))
def is2_got : IS := (sRet (iLst (iCons (iC (.str [103, 105, 118, 101, 110])) (iCons (iVar 2) iNil))))
def HSX : List (List Nat × List Nat × IS) := [([23], [18], is1_got_0), ([18], [23], is1_got_1)]
theorem fit_got {K : PySem.W.Frag} {mg : Str → Option Value} (Fx : FX K mg) : FitY TT K HSX [(.ref (He.ga K (TT.cn 23)), is1_got_0), (.ref (He.ga K (TT.cn 18)), is1_got_1)] := (.cons Fx.yx_InvalidNumber Fx.nx_InvalidNumber (.cons Fx.yx_InvalidWord Fx.nx_InvalidWord .nil))
theorem gv_got {K : PySem.W.Frag} {mg : Str → Option Value} (Fx : FX K mg) {X : Cx} (Tb : TBs K mg X.base) (hK : X.K = K) (hm : X.mg = mg) (q : Str) (cdv : Value) (hr0 : RgH 1 X.A) : GivesN X N_got "_law_got" (defScope s_got) (He.ga K "_law_got") cdv (defBody s_got) "_law_ask" q (TCauY TT X.K 3 1 2 [(.ref (He.ga X.K (TT.cn 23)), is1_got_0), (.ref (He.ga X.K (TT.cn 18)), is1_got_1)] is2_got) := by
  subst hK hm
  refine cauY_gives (T := TT) (n := 3) (i := 1) (m := 2) (g := "_law_given") (e := "e") (gp := ⟨_, _, _, _, _⟩) rfl (by decide) rfl rfl rfl rfl (fun f => rfl) (by decide) (fun _ => rfl) (fun s H => ?_) (fun s H => ?_)
  · refine .cons ⟨rfl, by decide, .inl Fx.k_InvalidNumber⟩ (fun b pn => ?_) ?_
    · have hr : RgH 0 ((cxOf C8.CX0 X.prog X.w X.K X.mg X.base N_got "_law_got" (defScope s_got) (He.ga X.K "_law_got") cdv X.A X.stack s H C8.E0).nox.suite b pn).A := RgH.suite (X := (cxOf C8.CX0 X.prog X.w X.K X.mg X.base N_got "_law_got" (defScope s_got) (He.ga X.K "_law_got") cdv X.A X.stack s H C8.E0).nox) ⟨hr0.r.deeper _, hr0.g⟩ b pn
      exact (jss_one (js_ret (je_lst (ja_cons (je_str (l := [73, 110, 118, 97, 108, 105, 100, 78, 117, 109, 98, 101, 114])) (ja_cons (je_xf (cs := [23, 18]) (f := 19) (je_var 1) Fx.y_value (by rfl)) (ja_cons (je_and (je_callB call_isC (isxD_ok Fx.isx) (by rfl) Fx.b_isinstance (by decide +kernel) (ja_cons (je_var 1) (ja_cons (je_cls (c := 10) rfl Fx.k_InputError (by rfl)) ja_nil))) (je_one (je_callB call_isC (isxD_ok Fx.isx) (by rfl) Fx.b_isinstance (by decide +kernel) (ja_cons (je_var 1) (ja_cons (je_ty (n := "ValueError") rfl Fx.b_ValueError (by decide +kernel)) ja_nil))))) ja_nil))))))
    refine .cons ⟨rfl, by decide, .inl Fx.k_InvalidWord⟩ (fun b pn => ?_) ?_
    · have hr : RgH 0 ((cxOf C8.CX0 X.prog X.w X.K X.mg X.base N_got "_law_got" (defScope s_got) (He.ga X.K "_law_got") cdv X.A X.stack s H C8.E0).nox.suite b pn).A := RgH.suite (X := (cxOf C8.CX0 X.prog X.w X.K X.mg X.base N_got "_law_got" (defScope s_got) (He.ga X.K "_law_got") cdv X.A X.stack s H C8.E0).nox) ⟨hr0.r.deeper _, hr0.g⟩ b pn
      exact (jss_one (js_ret (je_lst (ja_cons (je_str (l := [73, 110, 118, 97, 108, 105, 100, 87, 111, 114, 100])) (ja_cons (je_xf (cs := [23, 18]) (f := 19) (je_var 1) Fx.y_value (by rfl)) (ja_cons (je_and (je_callB call_isC (isxD_ok Fx.isx) (by rfl) Fx.b_isinstance (by decide +kernel) (ja_cons (je_var 1) (ja_cons (je_cls (c := 10) rfl Fx.k_InputError (by rfl)) ja_nil))) (je_one (je_callB call_isC (isxD_ok Fx.isx) (by rfl) Fx.b_isinstance (by decide +kernel) (ja_cons (je_var 1) (ja_cons (je_ty (n := "ValueError") rfl Fx.b_ValueError (by decide +kernel)) ja_nil))))) ja_nil))))))
    exact .nil
  · have hr : RgH 0 ((cxOf C8.CX0 X.prog X.w X.K X.mg X.base N_got "_law_got" (defScope s_got) (He.ga X.K "_law_got") cdv X.A X.stack s H C8.E0).nox).A := ⟨hr0.r.deeper _, hr0.g⟩
    exact (jss_one (js_ret (je_lst (ja_cons (je_str (l := [103, 105, 118, 101, 110])) (ja_cons (je_var 2) ja_nil)))))
abbrev N_right : List Str := ["_law_bowl_here", "_law_turn", "_law_box", "_law_some", "_law_due", "_law_hidden", "_law_bad", "_law_low", "_law_odd", "_law_signs_here", "_law_size", "_law_worth", "_law_sign", "_law_k", "_law_each"]
theorem sc_right : FnScope N_right ["_law_bowl_here"] (defScope s_right) := ⟨rfl, rfl, rfl, by decide +kernel, rfl, by decide +kernel, by decide +kernel⟩
def is_right : IS := (sSeq (sFor (iRange range1 (iCons (iC (.int 3)) iNil)) (.n 1) (sSeq (sAsgG (.t [9, 10]) (iTup (iCons (iCall 3 d_signs (iCons (iVar 0) (iCons (iC (.int 2)) (iCons (iC (.int 26)) iNil)))) (iCons (iOp addD (iC (.int 1)) (iCall 2 d_dip (iCons (iVar 0) (iCons (iC (.int 6)) iNil)))) iNil)))) (sSeq (sAsg 2 (iMake TT true 0 3 d_Board_init (iCons (iVar 9) (iCons (iVar 10) iNil)))) (sSeq (sAsg 3 (iOp addD (iLc (iRange range1 (iCons (iC (.int 6)) iNil)) (.n 13) iYes (iCall 3 d_word (iCons (iVar 0) (iCons (iVar 9) (iCons (iVar 10) iNil)))) [13]) (iLst (iCons (iOp mulD (iOp ixD (iVar 9) (iC (.int 0))) (iVar 10)) (iCons (iOp mulD (iOp ixD (iVar 9) (iNegC 1)) (iVar 10)) iNil))))) (sSeq (sAsg 4 (iLstM iNil)) (sSeq (sFor (iItems (iVar 3)) (.n 5) (sSeq (sAsg 11 (iC (.int 0))) (sSeq (sFor (iItems (iVar 5)) (.n 12) (sAsg 11 (iOp addD (iOp mulD (iVar 11) (iCB lenD (iCons (iVar 9) iNil))) (iBM .s strIndex (iVar 9) (iCons (iVar 12) iNil))))) (sExpr (iBM .l lstApp (iVar 4) (iCons (iVar 11) iNil)))))) (sSeq (sFrz 4) (sSeq (sIf (iOr (iTst (iOp neD (iLc (iItems (iVar 3)) (.n 5) iYes (iMeth TT 0 9 2 d_Board_number (iVar 2) (iCons (iVar 5) iNil)) [5]) (iVar 4))) (iTst (iOp neD (iLc (iItems (iVar 4)) (.n 11) iYes (iMethK TT 0 8 1 [0] d_Board_word (iVar 2) (iCons (iVar 11) iNil)) [11]) (iVar 3)))) (sRet (iC (.bl false))) sNext) (sSeq (sIf (iOr (iTst (iOp neD (iLc (iItems (iSrtZ (iCons (iVar 4) (iCons (iVar 3) iNil)))) (.t [11, 14]) iYes (iVar 14) [11, 14]) (iCB sortD (iCons (iVar 3) iNil)))) (iTst (iOp neD (iOp ixD (iVar 4) (iNegC 1)) (iOp subI (iProp TT 0 d_Board_size (iVar 2)) (iC (.int 1)))))) (sRet (iC (.bl false))) sNext) (sSeq (sAsg 6 (iCall 2 d_of (iCons (iVar 0) (iCons (iLst (iCons (iC .non) (iCons (iNegC 1) (iCons (iProp TT 0 d_Board_size (iVar 2)) (iCons (iC (.bl true)) (iCons (iC (.str [48])) (iCons (iTup iNil) (iCons (iLst (iCons (iC (.int 1)) iNil)) (iCons (iOp powI (iC (.int 10)) (iC (.int 19))) (iCons iDct0 iNil)))))))))) iNil)))) (sSeq (sAsg 7 (iOp mulD (iOp ixD (iVar 9) (iC (.int 0))) (iVar 10))) (sSeq (sAsg 8 (iCall 2 d_of (iCons (iVar 0) (iCons (iLst (iCons (iC .non) (iCons (iC (.str [])) (iCons (iOp addD (iVar 7) (iOp ixD (iVar 9) (iC (.int 0)))) (iCons (iOp addD (iVar 7) (iC (.str [32]))) (iCons (iOp addD (iSl slD (iVar 7) (iPart (iC (.int 1))) iNoPart) (iC (.str [65]))) (iCons (iC (.int 5)) (iCons (iTup (iCons (iVar 7) iNil)) (iCons (iLst (iCons (iVar 7) iNil)) (iCons iDct0 iNil)))))))))) iNil)))) (sSeq (sIf (iTst (iOp neD (iCB reprD (iCons (iCauY 3 1 2 HSX is2_got (iMeth TT 0 8 2 d_Board_word (iVar 2) (iCons (iVar 6) iNil))) iNil)) (iCB reprD (iCons (iLst (iCons (iC (.str [73, 110, 118, 97, 108, 105, 100, 78, 117, 109, 98, 101, 114])) (iCons (iVar 6) (iCons (iC (.bl true)) iNil)))) iNil)))) (sRet (iC (.bl false))) sNext) (sIf (iTst (iOp neD (iCB reprD (iCons (iCauY 3 1 2 HSX is2_got (iMethK TT 0 9 1 [0] d_Board_number (iVar 2) (iCons (iVar 8) iNil))) iNil)) (iCB reprD (iCons (iLst (iCons (iC (.str [73, 110, 118, 97, 108, 105, 100, 87, 111, 114, 100])) (iCons (iVar 8) (iCons (iC (.bl true)) iNil)))) iNil)))) (sRet (iC (.bl false))) sNext)))))))))))))) (sRet (iC (.bl true))))
def d_right : List D → M D := defJ 15 false is_right
theorem w_right {P : Program} {w : World} {K : PySem.W.Frag} {mg : Str → Option Value} {base : Heap} (Fx : FX K mg) (Tb : TBs K mg base) {fd : FuncData} (F : df_right.Fun K fd) : FnG P w K mg base 7 (df_right.at_ K) fd ["_law_bowl_here"] (spJ TT K 1 d_right) := by
  refine fn_jc (T := TT) false F sc_right (fun A fr s H E room gd => ?_)
  have hr : Rg 6 (cxOf (L2N.CX P w) P w K mg base N_right "_law_right" (defScope s_right) (df_right.at_ K) (.ref (codeAt K (df_right.at_ K))) A fr s H E).A := ⟨room, gd⟩
  have tk : L2N.Takes (cxOf (L2N.CX P w) P w K mg base N_right "_law_right" (defScope s_right) (df_right.at_ K) (.ref (codeAt K (df_right.at_ K))) A fr s H E) (fun c d _ H => E c d H) := L2N.takes_of rfl rfl rfl rfl
  have po : PassesOwn (model P w) (cxOf (L2N.CX P w) P w K mg base N_right "_law_right" (defScope s_right) (df_right.at_ K) (.ref (codeAt K (df_right.at_ K))) A fr s H E).A (cxOf (L2N.CX P w) P w K mg base N_right "_law_right" (defScope s_right) (df_right.at_ K) (.ref (codeAt K (df_right.at_ K))) A fr s H E).env (cxOf (L2N.CX P w) P w K mg base N_right "_law_right" (defScope s_right) (df_right.at_ K) (.ref (codeAt K (df_right.at_ K))) A fr s H E).xe := passes_of rfl
  have S := sc_right
  exact (jss_cons (js_for po rfl (ji_range1 (by rfl) Fx.b_range (ja_cons je_int ja_nil)) (jg_name (i := 1) S.nd rfl (Or.inl rfl)) (jss_cons (js_asg (je_tup (ja_cons (je_call (g_signs Fx Tb) (hr.mono (by decide)) (by rfl) tk (ja_cons (je_var 0) (ja_cons je_int (ja_cons je_int ja_nil)))) (ja_cons (je_op op_addD addD_ok je_int (je_call (g_dip Fx Tb) (hr.mono (by decide)) (by rfl) tk (ja_cons (je_var 0) (ja_cons je_int ja_nil)))) ja_nil))) (jg_tup rfl (jgs_cons (i := 9) S.nd rfl (Or.inr rfl) (jgs_cons (i := 10) S.nd rfl (Or.inr rfl) jgs_nil)))) (jss_cons (js_set (i := 2) S.nd rfl (Or.inr rfl) (je_make (g_Board_init Fx Tb) true (hr.mono (by decide)) (by rfl) (by rfl) tk (ja_cons (je_var 9) (ja_cons (je_var 10) ja_nil)))) (jss_cons (js_set (i := 3) S.nd rfl (Or.inl rfl) (je_op op_addD addD_ok (je_lc (own := [("_law_k", 13)]) (g := (.n 13)) rfl S.nd (ji_range1 (by rfl) Fx.b_range (ja_cons je_int ja_nil)) (blkOk_by (by kernel_rfl)) (fun _ _ _ _ _ => (jg_name (i := 13) S.nd rfl (Or.inl rfl))) (fun _ _ _ _ _ => jts_nil) (fun _ _ _ _ _ => (je_call (g_word Fx Tb) (hr.mono (by decide)) (by rfl) tk0 (ja_cons (je_var 0) (ja_cons (je_var 9) (ja_cons (je_var 10) ja_nil)))))) (je_lst (ja_cons (je_op op_mulD mulD_ok (je_ix ix_seq ixD_ok (je_var 9) je_int (fun _ _ => rfl)) (je_var 10)) (ja_cons (je_op op_mulD mulD_ok (je_ix ix_seq ixD_ok (je_var 9) je_neg (fun _ _ => rfl)) (je_var 10)) ja_nil))))) (jss_cons (js_set (i := 4) S.nd rfl (Or.inl rfl) (je_lstM ja_nil)) (jss_cons (js_for po rfl (ji_items (je_var 3)) (jg_name (i := 5) S.nd rfl (Or.inl rfl)) (jss_cons (js_set (i := 11) S.nd rfl (Or.inl rfl) je_int) (jss_cons (js_for po rfl (ji_items (je_var 5)) (jg_name (i := 12) S.nd rfl (Or.inl rfl)) (jss_one (js_set (i := 11) S.nd rfl (Or.inl rfl) (je_op op_addD addD_ok (je_op op_mulD mulD_ok (je_var 11) (je_callB call_len lenD_ok (by rfl) Fx.b_len (by decide +kernel) (ja_cons (je_var 9) ja_nil))) (je_bm (Ty := .s) PySem.F.plainAttrs_str PySem.F.slot_str_index PySem.F.type_str_index mt_sindex strIndex_ok (je_var 9) (ja_cons (je_var 12) ja_nil)))))) (jss_one (js_expr (je_bm (Ty := .l) PySem.F.plainAttrs_list PySem.F.slot_list_append PySem.F.type_list_append mt_append lstApp_ok (je_var 4) (ja_cons (je_var 11) ja_nil))))))) (jss_frz (jss_cons (js_if (jt_w (jw_or (jt_cmp (op_neJ hr) neD_ok (je_lc (own := [("_law_hidden", 5)]) (g := (.n 5)) rfl S.nd (ji_items (je_var 3)) (blkOk_by (by kernel_rfl)) (fun _ _ _ _ _ => (jg_name (i := 5) S.nd rfl (Or.inl rfl))) (fun _ _ _ _ _ => jts_nil) (fun _ _ _ _ _ => (je_meth (T := TT) (c := 0) (m := 9) (g_Board_number Fx Tb) Fx.j_Board.cl (by rfl) (hr.mono (by decide)) tk0 (je_var 2) (ja_cons (je_var 5) ja_nil)))) (je_var 4) (nomark _)) (jw_or1 (jt_cmp (op_neJ hr) neD_ok (je_lc (own := [("_law_worth", 11)]) (g := (.n 11)) rfl S.nd (ji_items (je_var 4)) (blkOk_by (by kernel_rfl)) (fun _ _ _ _ _ => (jg_name (i := 11) S.nd rfl (Or.inl rfl))) (fun _ _ _ _ _ => jts_nil) (fun _ _ _ _ _ => (je_methK (T := TT) (c := 0) (m := 8) (ks := ["number"]) (pm := [0]) (k_Board_word_0 Fx Tb) rfl Fx.j_Board.cl (by rfl) (hr.mono (by decide)) tk0 (je_var 2) (jk_cons (je_var 11) jk_nil)))) (je_var 3) (nomark _))))) (jss_one (js_ret je_bl)) jss_nil) (jss_cons (js_if (jt_w (jw_or (jt_cmp (op_neJ hr) neD_ok (je_lc (own := [("_law_worth", 11), ("_law_each", 14)]) (g := (.t [11, 14])) rfl S.nd (ji_items (je_srtZ rfl (RgH.of hr) (by rfl) Fx.b_sorted (by rfl) Fx.b_zip (ja_cons (je_var 4) (ja_cons (je_var 3) ja_nil)))) (blkOk_by (by kernel_rfl)) (fun _ _ _ _ _ => (jg_tup rfl (jgs_cons (i := 11) S.nd rfl (Or.inl rfl) (jgs_cons (i := 14) S.nd rfl (Or.inl rfl) jgs_nil)))) (fun _ _ _ _ _ => jts_nil) (fun _ _ _ _ _ => (je_var 14))) (je_callB cr_sortedS sortD_ok (by rfl) Fx.b_sorted (by decide +kernel) (ja_cons (je_var 3) ja_nil)) (nomark _)) (jw_or1 (jt_cmp (op_neJ hr) neD_ok (je_ix ix_seq ixD_ok (je_var 4) je_neg (fun _ _ => rfl)) (je_op op_sub subI_ok (je_prop (T := TT) (c := 0) (g_Board_size Fx Tb) rfl (hr.mono (by decide)) (je_var 2)) je_int) (nomark _))))) (jss_one (js_ret je_bl)) jss_nil) (jss_cons (js_set (i := 6) S.nd rfl (Or.inr rfl) (je_call (g_of Fx Tb) (hr.mono (by decide)) (by rfl) tk (ja_cons (je_var 0) (ja_cons (je_lst (ja_cons je_non (ja_cons je_neg (ja_cons (je_prop (T := TT) (c := 0) (g_Board_size Fx Tb) rfl (hr.mono (by decide)) (je_var 2)) (ja_cons je_bl (ja_cons (je_str (l := [48])) (ja_cons (je_tup ja_nil) (ja_cons (je_lst (ja_cons je_int ja_nil)) (ja_cons (je_op op_pow powI_ok je_int je_int) (ja_cons je_dct0 ja_nil)))))))))) ja_nil)))) (jss_cons (js_set (i := 7) S.nd rfl (Or.inl rfl) (je_op op_mulD mulD_ok (je_ix ix_seq ixD_ok (je_var 9) je_int (fun _ _ => rfl)) (je_var 10))) (jss_cons (js_set (i := 8) S.nd rfl (Or.inr rfl) (je_call (g_of Fx Tb) (hr.mono (by decide)) (by rfl) tk (ja_cons (je_var 0) (ja_cons (je_lst (ja_cons je_non (ja_cons (je_str (l := [])) (ja_cons (je_op op_addD addD_ok (je_var 7) (je_ix ix_seq ixD_ok (je_var 9) je_int (fun _ _ => rfl))) (ja_cons (je_op op_addD addD_ok (je_var 7) (je_str (l := [32]))) (ja_cons (je_op op_addD addD_ok (je_slice sl_D slD_ok (je_var 7) (jo_some je_int) jo_none) (je_str (l := [65]))) (ja_cons je_int (ja_cons (je_tup (ja_cons (je_var 7) ja_nil)) (ja_cons (je_lst (ja_cons (je_var 7) ja_nil)) (ja_cons je_dct0 ja_nil)))))))))) ja_nil)))) (jss_cons (js_if (jt_cmp (op_neJ hr) neD_ok (je_callB (call_reprD hr) reprD_ok (by rfl) Fx.b_repr (by decide +kernel) (ja_cons (je_cauY (hs := HSX) (fit_got Fx) (Fx.d_got.elim fun _ Fg => lam_ok (k := 4) (c := (He.cT K ("_law_right", none)).1) (P := (He.cT K ("_law_right", none)).2) rfl Fx.m_got Fg.kp Fg (Fg.bindsN fun _ _ _ _ _ _ us hl => match us, hl with | [_], _ => rfl) sc_got rfl (Or.inl rfl) (fun cdv => gv_got Fx Tb rfl rfl _ cdv ((RgH.of hr).mono (by decide))) (Tb _ (List.mem_map.mpr ⟨("_law_right", none), by decide, rfl⟩)) rfl (tab_in K (by rfl)) (tabs_one K) (hr.r.mono (by decide)) (LamX.lamS_by (by kernel_rfl)) rfl (fun _ _ _ _ _ => rfl) (fun A_ o_ s_ H_ E_ f_ c_ room_ gu_ => lam_in hr.g room_ gu_ (fun hr tk => (je_meth (T := TT) (c := 0) (m := 8) (g_Board_word Fx Tb) Fx.j_Board.cl (by rfl) (hr.mono (by decide)) tk (je_var 2) (ja_cons (je_var 6) ja_nil)))) (by decide) (by decide) (by decide))) ja_nil)) (je_callB (call_reprD hr) reprD_ok (by rfl) Fx.b_repr (by decide +kernel) (ja_cons (je_lst (ja_cons (je_str (l := [73, 110, 118, 97, 108, 105, 100, 78, 117, 109, 98, 101, 114])) (ja_cons (je_var 6) (ja_cons je_bl ja_nil)))) ja_nil)) (nomark _)) (jss_one (js_ret je_bl)) jss_nil) (jss_one (js_if (jt_cmp (op_neJ hr) neD_ok (je_callB (call_reprD hr) reprD_ok (by rfl) Fx.b_repr (by decide +kernel) (ja_cons (je_cauY (hs := HSX) (fit_got Fx) (Fx.d_got.elim fun _ Fg => lam_ok (k := 4) (c := (He.cT K ("_law_right", none)).1) (P := (He.cT K ("_law_right", none)).2) rfl Fx.m_got Fg.kp Fg (Fg.bindsN fun _ _ _ _ _ _ us hl => match us, hl with | [_], _ => rfl) sc_got rfl (Or.inl rfl) (fun cdv => gv_got Fx Tb rfl rfl _ cdv ((RgH.of hr).mono (by decide))) (Tb _ (List.mem_map.mpr ⟨("_law_right", none), by decide, rfl⟩)) rfl (tab_in K (by rfl)) (tabs_one K) (hr.r.mono (by decide)) (LamX.lamS_by (by kernel_rfl)) rfl (fun _ _ _ _ _ => rfl) (fun A_ o_ s_ H_ E_ f_ c_ room_ gu_ => lam_in hr.g room_ gu_ (fun hr tk => (je_methK (T := TT) (c := 0) (m := 9) (ks := ["word"]) (pm := [0]) (k_Board_number_0 Fx Tb) rfl Fx.j_Board.cl (by rfl) (hr.mono (by decide)) tk (je_var 2) (jk_cons (je_var 8) jk_nil)))) (by decide) (by decide) (by decide))) ja_nil)) (je_callB (call_reprD hr) reprD_ok (by rfl) Fx.b_repr (by decide +kernel) (ja_cons (je_lst (ja_cons (je_str (l := [73, 110, 118, 97, 108, 105, 100, 87, 111, 114, 100])) (ja_cons (je_var 8) (ja_cons je_bl ja_nil)))) ja_nil)) (nomark _)) (jss_one (js_ret je_bl)) jss_nil))))))))))))))) (jss_one (js_ret je_bl)))
theorem g_right {P : Program} {w : World} {K : PySem.W.Frag} {mg : Str → Option Value} {base : Heap} (Fx : FX K mg) (Tb : TBs K mg base) : Good P w TT K mg base 7 "_law_right" ["_law_bowl_here"] d_right := Fx.d_right.elim fun fd F => ⟨fd, w_right Fx Tb F, F.bindsN fun _ _ _ _ _ _ us hl => match us, hl with | [_], _ => rfl, Fx.m_right, F.kp⟩
abbrev N_law : List Str := ["_law_script", "_law_k"]
theorem sc_law : FnScope N_law ["_law_script"] (defScope s_law) := ⟨rfl, rfl, rfl, by decide +kernel, rfl, by decide +kernel, by decide +kernel⟩
def is_law : IS := (sRet (iCB allD (iCons (iLc (iRange range1 (iCons (iCB max2 (iCons (iC (.int 2)) (iCons (iCB min2 (iCons (iCB lenD (iCons (iVar 0) iNil)) (iCons (iC (.int 6)) iNil))) iNil))) iNil)) (.n 1) iYes (iCall 1 d_right (iCons (iCall 2 d_bowl (iCons (iVar 0) (iCons (iVar 1) iNil))) iNil)) [1]) iNil)))
def d_law : List D → M D := defJ 2 false is_law
theorem w_law {P : Program} {w : World} {K : PySem.W.Frag} {mg : Str → Option Value} {base : Heap} (Fx : FX K mg) (Tb : TBs K mg base) {fd : FuncData} (F : df_law.Fun K fd) : FnG P w K mg base 8 (df_law.at_ K) fd ["_law_script"] (spJ TT K 1 d_law) := by
  refine fn_j (T := TT) false F sc_law (fun cdv A fr s H E room gd => ?_)
  have hr : Rg 7 (cxOf (L2N.CX P w) P w K mg base N_law "law" (defScope s_law) (df_law.at_ K) cdv A fr s H E).A := ⟨room, gd⟩
  have tk : L2N.Takes (cxOf (L2N.CX P w) P w K mg base N_law "law" (defScope s_law) (df_law.at_ K) cdv A fr s H E) (fun c d _ H => E c d H) := L2N.takes_of rfl rfl rfl rfl
  have po : PassesOwn (model P w) (cxOf (L2N.CX P w) P w K mg base N_law "law" (defScope s_law) (df_law.at_ K) cdv A fr s H E).A (cxOf (L2N.CX P w) P w K mg base N_law "law" (defScope s_law) (df_law.at_ K) cdv A fr s H E).env (cxOf (L2N.CX P w) P w K mg base N_law "law" (defScope s_law) (df_law.at_ K) cdv A fr s H E).xe := passes_of rfl
  have S := sc_law
  exact (jss_one (js_ret (je_callB (cr_all rfl) allD_ok (by rfl) Fx.b_all (by decide +kernel) (ja_cons (je_lc (own := [("_law_k", 1)]) (g := (.n 1)) rfl S.nd (ji_range1 (by rfl) Fx.b_range (ja_cons (je_callB (call_max2 rfl) max2_ok (by rfl) Fx.b_max (by decide +kernel) (ja_cons je_int (ja_cons (je_callB (call_min2 rfl) min2_ok (by rfl) Fx.b_min (by decide +kernel) (ja_cons (je_callB call_len lenD_ok (by rfl) Fx.b_len (by decide +kernel) (ja_cons (je_var 0) ja_nil)) (ja_cons je_int ja_nil))) ja_nil))) ja_nil)) (blkOk_by (by kernel_rfl)) (fun _ _ _ _ _ => (jg_name (i := 1) S.nd rfl (Or.inl rfl))) (fun _ _ _ _ _ => jts_nil) (fun _ _ _ _ _ => (je_call (g_right Fx Tb) (hr.mono (by decide)) (by rfl) tk0 (ja_cons (je_call (g_bowl Fx Tb) (hr.mono (by decide)) (by rfl) tk0 (ja_cons (je_var 0) (ja_cons (je_var 1) ja_nil))) ja_nil)))) ja_nil))))
theorem facts {K : PySem.W.Frag} {h : Heap} {mg : Str → Option Value} (X : K.In h) (G : h.Ns mainGlobals mg) (says : SaysZ ex fn K) : FX K mg := by
  obtain ⟨e0, e1⟩ := Bool.and_eq_true_iff.mp says.fact
  obtain ⟨x0, e2⟩ := Bool.and_eq_true_iff.mp e1
  obtain ⟨x1, e3⟩ := Bool.and_eq_true_iff.mp e2
  obtain ⟨x2, e4⟩ := Bool.and_eq_true_iff.mp e3
  obtain ⟨x3, e5⟩ := Bool.and_eq_true_iff.mp e4
  obtain ⟨x4, e6⟩ := Bool.and_eq_true_iff.mp e5
  obtain ⟨x5, e7⟩ := Bool.and_eq_true_iff.mp e6
  obtain ⟨x6, e8⟩ := Bool.and_eq_true_iff.mp e7
  obtain ⟨x7, e9⟩ := Bool.and_eq_true_iff.mp e8
  obtain ⟨x8, e10⟩ := Bool.and_eq_true_iff.mp e9
  obtain ⟨x9, e11⟩ := Bool.and_eq_true_iff.mp e10
  obtain ⟨x10, e12⟩ := Bool.and_eq_true_iff.mp e11
  obtain ⟨x11, e13⟩ := Bool.and_eq_true_iff.mp e12
  have x12 := e13
  have at_ : ∀ (i : Nat) {f : He.Fa}, fa[i]? = some f → f.ok K = true := fun i f e => List.all_eq_true.mp e0 f (List.mem_of_getElem? e)
  have z_b_ValueError : mg "ValueError" = none := He.free_ok X G (at_ 0 rfl)
  have z_b_abs : mg "abs" = none := He.free_ok X G (at_ 1 rfl)
  have z_b_all : mg "all" = none := He.free_ok X G (at_ 2 rfl)
  have z_b_bool : mg "bool" = none := He.free_ok X G (at_ 3 rfl)
  have z_b_divmod : mg "divmod" = none := He.free_ok X G (at_ 4 rfl)
  have z_b_int : mg "int" = none := He.free_ok X G (at_ 5 rfl)
  have z_b_isinstance : mg "isinstance" = none := He.free_ok X G (at_ 6 rfl)
  have z_b_len : mg "len" = none := He.free_ok X G (at_ 7 rfl)
  have z_b_max : mg "max" = none := He.free_ok X G (at_ 8 rfl)
  have z_b_min : mg "min" = none := He.free_ok X G (at_ 9 rfl)
  have z_b_range : mg "range" = none := He.free_ok X G (at_ 10 rfl)
  have z_b_repr : mg "repr" = none := He.free_ok X G (at_ 11 rfl)
  have z_b_sorted : mg "sorted" = none := He.free_ok X G (at_ 12 rfl)
  have z_b_str : mg "str" = none := He.free_ok X G (at_ 13 rfl)
  have z_b_zip : mg "zip" = none := He.free_ok X G (at_ 14 rfl)
  have z_c_LETTERS : ∃ t, mg "LETTERS" = some (.str ⟨#[97, 98, 99, 100, 101, 102, 103, 104, 105, 106, 107, 108, 109, 110, 111, 112, 113, 114, 115, 116, 117, 118, 119, 120, 121, 122]⟩ t) := He.str_ok X G (at_ 15 rfl)
  have z_c_MOST_LENGTH : ∃ t, mg "MOST_LENGTH" = some (.int 6 t) := He.int_ok X G (at_ 16 rfl)
  have z_c_MOST_LETTERS : ∃ t, mg "MOST_LETTERS" = some (.int 26 t) := He.int_ok X G (at_ 17 rfl)
  have z_k_Board : mg (TT.cn 0) = some (.ref (He.ga K (TT.cn 0))) := He.glo_ok X G (at_ 18 rfl)
  have z_k_InputError : mg (TT.cn 10) = some (.ref (He.ga K (TT.cn 10))) := He.glo_ok X G (at_ 19 rfl)
  have z_k_InvalidNumber : mg (TT.cn 23) = some (.ref (He.ga K (TT.cn 23))) := He.glo_ok X G (at_ 20 rfl)
  have z_k_InvalidWord : mg (TT.cn 18) = some (.ref (He.ga K (TT.cn 18))) := He.glo_ok X G (at_ 21 rfl)
  have z_j_Board : ClsJ TT K 0 := ⟨He.cls_ok (at_ 22 rfl), by intro f hf; exact noats TT [0, 1] (by rfl) (fun n hn => by simp only [List.mem_cons, List.not_mem_nil, or_false] at hn; rcases hn with rfl | rfl; exact He.noat_ok (at_ 23 rfl); exact He.noat_ok (at_ 24 rfl)) f hf⟩
  have z_isk : IsK TT K CS TB := ⟨fun c hc => clsTB_ok (List.all_eq_true.mp x0 c hc), fun q hq => of_decide_eq_true (List.all_eq_true.mp x1 q hq)⟩
  have z_tr : ∀ c ∈ CT, PlainTru K (He.ga K (TT.cn c)) := fun c hc => plainTB_ok (List.all_eq_true.mp x2 c hc)
  have z_r_InvalidWord : ExI K "InvalidWord" "value" := exIB_ok x3
  have z_r_InvalidNumber : ExI K "InvalidNumber" "value" := exIB_ok x4
  have z_isx : IsX TT K TBX := ⟨fun p hp => excCB_ok (List.all_eq_true.mp x5 p.1 (List.contains_iff_mem.mp (List.all_eq_true.mp (show (TBX.all fun q => TSX.contains q.1) = true by decide) p hp))), fun p hp => of_decide_eq_true (List.all_eq_true.mp x6 p hp)⟩
  have z_yx_InvalidNumber : ∀ c ∈ ([23] : List Nat), PySem.W.exmOne K (.ref (He.ga K (TT.cn c))) (.ref (He.ga K (TT.cn 23))) = some true := fun c hc => of_decide_eq_true (List.all_eq_true.mp x7 c hc)
  have z_nx_InvalidNumber : ∀ c ∈ ([18] : List Nat), PySem.W.exmOne K (.ref (He.ga K (TT.cn c))) (.ref (He.ga K (TT.cn 23))) = some false := fun c hc => of_decide_eq_true (List.all_eq_true.mp x8 c hc)
  have z_yx_InvalidWord : ∀ c ∈ ([18] : List Nat), PySem.W.exmOne K (.ref (He.ga K (TT.cn c))) (.ref (He.ga K (TT.cn 18))) = some true := fun c hc => of_decide_eq_true (List.all_eq_true.mp x9 c hc)
  have z_nx_InvalidWord : ∀ c ∈ ([23] : List Nat), PySem.W.exmOne K (.ref (He.ga K (TT.cn c))) (.ref (He.ga K (TT.cn 18))) = some false := fun c hc => of_decide_eq_true (List.all_eq_true.mp x10 c hc)
  have z_y_value : ∀ c ∈ ([23, 18] : List Nat), XfC K (He.ga K (TT.cn c)) ∧ PySem.W.findIn K (.ref (He.ga K (TT.cn c))) (TT.fn 19) = some none := fun c hc => ⟨excCB_xf (List.all_eq_true.mp x5 c (List.contains_iff_mem.mp (List.all_eq_true.mp (show (([23, 18] : List Nat).all fun q => TSX.contains q) = true by decide) c hc))), of_decide_eq_true (List.all_eq_true.mp x11 c hc)⟩
  have z_d_bowl : ∃ fd, df_bowl.Fun K fd := says.defs _ (List.mem_of_getElem? (i := 0) rfl)
  have z_m_bowl : mg "_law_bowl" = some (.ref (He.ga K "_law_bowl")) := He.glo_ok X G (at_ 25 rfl)
  have z_d_dip : ∃ fd, df_dip.Fun K fd := says.defs _ (List.mem_of_getElem? (i := 1) rfl)
  have z_m_dip : mg "_law_dip" = some (.ref (He.ga K "_law_dip")) := He.glo_ok X G (at_ 26 rfl)
  have z_d_signs : ∃ fd, df_signs.Fun K fd := says.defs _ (List.mem_of_getElem? (i := 2) rfl)
  have z_m_signs : mg "_law_signs" = some (.ref (He.ga K "_law_signs")) := He.glo_ok X G (at_ 27 rfl)
  have z_d_are_letters : ∃ fd, df_are_letters.Fun K fd := says.defs _ (List.mem_of_getElem? (i := 3) rfl)
  have z_m_are_letters : mg "are_letters" = some (.ref (He.ga K "are_letters")) := He.glo_ok X G (at_ 28 rfl)
  have z_d_is_integer : ∃ fd, df_is_integer.Fun K fd := says.defs _ (List.mem_of_getElem? (i := 4) rfl)
  have z_m_is_integer : mg "is_integer" = some (.ref (He.ga K "is_integer")) := He.glo_ok X G (at_ 29 rfl)
  have z_d_Board_init : ∃ fd, df_Board_init.Fun K fd := says.defs _ (List.mem_of_getElem? (i := 5) rfl)
  have z_m_Board_init : Mk K (He.ga K "Board") (He.ma K (He.ga K "Board") "__init__") := He.mkr_ok (at_ 30 rfl)
  have z_d_of : ∃ fd, df_of.Fun K fd := says.defs _ (List.mem_of_getElem? (i := 6) rfl)
  have z_m_of : mg "_law_of" = some (.ref (He.ga K "_law_of")) := He.glo_ok X G (at_ 31 rfl)
  have z_d_word : ∃ fd, df_word.Fun K fd := says.defs _ (List.mem_of_getElem? (i := 7) rfl)
  have z_m_word : mg "_law_word" = some (.ref (He.ga K "_law_word")) := He.glo_ok X G (at_ 32 rfl)
  have z_d_is_word : ∃ fd, df_is_word.Fun K fd := says.defs _ (List.mem_of_getElem? (i := 8) rfl)
  have z_m_is_word : mg "is_word" = some (.ref (He.ga K "is_word")) := He.glo_ok X G (at_ 33 rfl)
  have z_d_InvalidWord_init : ∃ fd, df_InvalidWord_init.Fun K fd := says.defs _ (List.mem_of_getElem? (i := 9) rfl)
  have z_d_check_word : ∃ fd, df_check_word.Fun K fd := says.defs _ (List.mem_of_getElem? (i := 10) rfl)
  have z_m_check_word : mg "check_word" = some (.ref (He.ga K "check_word")) := He.glo_ok X G (at_ 34 rfl)
  have z_d_Board_number : ∃ fd, df_Board_number.Fun K fd := says.defs _ (List.mem_of_getElem? (i := 11) rfl)
  have z_m_Board_number : Meth K (He.ga K "Board") "number" (He.ma K (He.ga K "Board") "number") := He.meth_ok (at_ 35 rfl)
  have z_d_Board_size : ∃ fd, df_Board_size.Fun K fd := says.defs _ (List.mem_of_getElem? (i := 12) rfl)
  have z_m_Board_size : PropOf K (He.ga K "Board") "size" (He.ma K (He.ga K "Board") "size") (pa K (He.ga K "Board") "size") := propB_ok x12
  have z_d_InvalidNumber_init : ∃ fd, df_InvalidNumber_init.Fun K fd := says.defs _ (List.mem_of_getElem? (i := 13) rfl)
  have z_d_Board_word : ∃ fd, df_Board_word.Fun K fd := says.defs _ (List.mem_of_getElem? (i := 14) rfl)
  have z_m_Board_word : Meth K (He.ga K "Board") "word" (He.ma K (He.ga K "Board") "word") := He.meth_ok (at_ 36 rfl)
  have z_d_got : ∃ fd, df_got.Fun K fd := says.defs _ (List.mem_of_getElem? (i := 15) rfl)
  have z_m_got : mg "_law_got" = some (.ref (He.ga K "_law_got")) := He.glo_ok X G (at_ 37 rfl)
  have z_d_right : ∃ fd, df_right.Fun K fd := says.defs _ (List.mem_of_getElem? (i := 16) rfl)
  have z_m_right : mg "_law_right" = some (.ref (He.ga K "_law_right")) := He.glo_ok X G (at_ 38 rfl)
  have z_d_law : ∃ fd, df_law.Fun K fd := says.defs _ (List.mem_of_getElem? (i := 17) rfl)
  have z_m_law : mg "law" = some (.ref (He.ga K "law")) := He.glo_ok X G (at_ 39 rfl)
  have z_f_letters : ∀ c ∈ ([0] : List Nat), ClsJ TT K c ∧ 0 ∈ TT.fs c := by
    intro c hc
    simp only [List.mem_cons, List.not_mem_nil, or_false] at hc
    subst hc
    exact ⟨z_j_Board, by decide⟩
  have z_f_length : ∀ c ∈ ([0] : List Nat), ClsJ TT K c ∧ 1 ∈ TT.fs c := by
    intro c hc
    simp only [List.mem_cons, List.not_mem_nil, or_false] at hc
    subst hc
    exact ⟨z_j_Board, by decide⟩
  exact { b_ValueError := z_b_ValueError, b_abs := z_b_abs, b_all := z_b_all, b_bool := z_b_bool, b_divmod := z_b_divmod, b_int := z_b_int, b_isinstance := z_b_isinstance, b_len := z_b_len, b_max := z_b_max, b_min := z_b_min, b_range := z_b_range, b_repr := z_b_repr, b_sorted := z_b_sorted, b_str := z_b_str, b_zip := z_b_zip, c_LETTERS := z_c_LETTERS, c_MOST_LENGTH := z_c_MOST_LENGTH, c_MOST_LETTERS := z_c_MOST_LETTERS, k_Board := z_k_Board, k_InputError := z_k_InputError, k_InvalidNumber := z_k_InvalidNumber, k_InvalidWord := z_k_InvalidWord, j_Board := z_j_Board, f_letters := z_f_letters, f_length := z_f_length, isk := z_isk, tr := z_tr, r_InvalidWord := z_r_InvalidWord, r_InvalidNumber := z_r_InvalidNumber, isx := z_isx, yx_InvalidNumber := z_yx_InvalidNumber, nx_InvalidNumber := z_nx_InvalidNumber, yx_InvalidWord := z_yx_InvalidWord, nx_InvalidWord := z_nx_InvalidWord, y_value := z_y_value, d_bowl := z_d_bowl, m_bowl := z_m_bowl, d_dip := z_d_dip, m_dip := z_m_dip, d_signs := z_d_signs, m_signs := z_m_signs, d_are_letters := z_d_are_letters, m_are_letters := z_m_are_letters, d_is_integer := z_d_is_integer, m_is_integer := z_m_is_integer, d_Board_init := z_d_Board_init, m_Board_init := z_m_Board_init, d_of := z_d_of, m_of := z_m_of, d_word := z_d_word, m_word := z_m_word, d_is_word := z_d_is_word, m_is_word := z_m_is_word, d_InvalidWord_init := z_d_InvalidWord_init, d_check_word := z_d_check_word, m_check_word := z_m_check_word, d_Board_number := z_d_Board_number, m_Board_number := z_m_Board_number, d_Board_size := z_d_Board_size, m_Board_size := z_m_Board_size, d_InvalidNumber_init := z_d_InvalidNumber_init, d_Board_word := z_d_Board_word, m_Board_word := z_m_Board_word, d_got := z_d_got, m_got := z_m_got, d_right := z_d_right, m_right := z_m_right, d_law := z_d_law, m_law := z_m_law }
theorem k03_holds (plain : ∀ ns : List Int, ns.length ≤ 63 → ∃ S', d_law [.scr (ns.map D.int)] ⟨[], 0⟩ = .ok (.bl true) S') : PySem.Challenge.rw_guessmarks_k03_whole_words_and_numbers.Holds := by
  w_on; o_law
  refine HandSHeadRun.head_any (r := PySem.W.OpenLaw.row PySem.Challenge.rw_guessmarks_k03_whole_words_and_numbers) (q := PySem.W.view Rw.prog [23]) (H := hk) (ob := seeB ex fn TFD) (M := 9000) (loose := loose) (d := HandSHeadRun.topDef Rw.prog 23) (kwd := []) seeB_eq
    (by kernel_rfl) (fun s => by kernel_rfl) run (by kernel_rfl) (by kernel_rfl) (by kernel_rfl) (by rfl) (by first | assumption | decide +kernel) (by decide +kernel) ⟨rfl, rfl, rfl, rfl, rfl, by decide +kernel⟩ ?hw ?hc
  case hw => w_witness2
  case hc =>
    refine walk_g (l := PySem.Challenge.rw_guessmarks_k03_whole_words_and_numbers) (n := 63) (k := 8) (x := "_law_script") rfl (by decide) (by kernel_rfl) ⟨rfl, by decide, by decide⟩ ?F
    intro w mg fa h Y G hmg0
    obtain ⟨K, KX, c⟩ := Y
    have Fx := facts KX G c.z
    have hmg : mg ("law" : Str) = some (.ref fa) := by
      have e : (HandSHeadRun.topDef Rw.prog 23).name = ("law" : Str) := by kernel_rfl
      rw [← e]
      exact hmg0
    obtain ⟨fd, F⟩ := Fx.d_law
    have e := hmg.symm.trans Fx.m_law
    cases e
    have b := FunD.bindsA (ps := ["_law_script"]) F fun _ _ _ _ _ _ us hl => match us, hl with | [_], _ => rfl
    exact ⟨K, fd, _, TFD.map (He.cT K), KX, c.t, fun s v => b s [v] rfl, fun H a ns hl st hS => law_sp (T := TT) st (tab_of K) hS ⟨[], 0⟩ rfl (plain ns hl), fun base _ _ Tb => w_law Fx Tb F⟩
end K03
set_option Elab.async false
set_option linter.all false
set_option maxRecDepth 100000
set_option maxHeartbeats 1010000
/-! PA: plain laws: draws -/
namespace J
/-- the bowl at n -/
def Bw (S : Store) (n : Nat) : Prop := n < S.next ∧ ∃ a b c : Int, S.get n = some (.lst [.int a, .int b, .int c])
/-- all but the object at n is kept -/
structure Kp (n : Nat) (S S' : Store) : Prop where
  next : S.next ≤ S'.next
  get : ∀ m, m < S.next → m ≠ n → S'.get m = S.get m
structure Kq (S S' : Store) : Prop where
  next : S.next ≤ S'.next
  get : ∀ m, m < S.next → S'.get m = S.get m
theorem Kp.trans {n : Nat} {S S1 S2 : Store} (h : Kp n S S1) (k : Kp n S1 S2) : Kp n S S2 := ⟨Nat.le_trans h.next k.next, fun m hm hn => (k.get m (Nat.lt_of_lt_of_le hm h.next) hn).trans (h.get m hm hn)⟩
theorem Kq.trans {S S1 S2 : Store} (h : Kq S S1) (k : Kq S1 S2) : Kq S S2 := ⟨Nat.le_trans h.next k.next, fun m hm => (k.get m (Nat.lt_of_lt_of_le hm h.next)).trans (h.get m hm)⟩
theorem Kq.refl (S : Store) : Kq S S := ⟨Nat.le_refl _, fun _ _ => rfl⟩
theorem Kp.refl (n : Nat) (S : Store) : Kp n S S := ⟨Nat.le_refl _, fun _ _ _ => rfl⟩
theorem Kq.kp {n : Nat} {S S' : Store} (h : Kq S S') : Kp n S S' := ⟨h.next, fun m hm _ => h.get m hm⟩
theorem Bw.kq {n : Nat} {S S' : Store} (b : Bw S n) (h : Kq S S') : Bw S' n := ⟨Nat.lt_of_lt_of_le b.1 h.next, by rw [h.get n b.1]; exact b.2⟩
theorem Bw.kp {n m : Nat} {S S' : Store} (b : Bw S n) (h : Kp m S S') (hn : n ≠ m) : Bw S' n := ⟨Nat.lt_of_lt_of_le b.1 h.next, by rw [h.get n b.1 hn]; exact b.2⟩
theorem kq_trim {S S' : Store} (h : Kq S S') : Kq S (S'.trim S.next) := ⟨h.next, fun m hm => by rw [Store.get_trim, if_pos hm]; exact h.get m hm⟩
theorem kp_trim {n : Nat} {S S' : Store} (h : Kp n S S') : Kp n S (S'.trim S.next) := ⟨h.next, fun m hm hn => by rw [Store.get_trim, if_pos hm]; exact h.get m hm hn⟩
theorem bw_trim {n : Nat} {S S' : Store} (h : Bw S' n) (hn : n < S.next) : Bw (S'.trim S.next) n := ⟨h.1, by rw [Store.get_trim, if_pos hn]; exact h.2⟩
theorem kp_set {n : Nat} {S : Store} {o : MO} : Kp n S (S.set n o) := ⟨Nat.le_refl _, fun m _ hm => S.get_set_ne o hm⟩
theorem kq_alloc {S : Store} {o : MO} : Kq S (S.alloc o) := ⟨Nat.le_succ _, fun m hm => S.get_alloc_ne o (Nat.ne_of_lt hm)⟩
def isDip : IS := (sSeq (sSetI setL (iOp addD (iOp ixD (iVar 0) (iC (.int 2))) (iC (.int 1))) (iVar 0) (iC (.int 2))) (sSeq (sIf (iTst (iOp gtI (iOp ixD (iVar 0) (iC (.int 1))) (iC (.int 0)))) (sSeq (sSetIN setL (iCB divmodD (iCons (iCB intD (iCons (iOp ixD (iVar 0) (iC (.int 1))) iNil)) (iCons (iVar 1) iNil))) (iVar 0) (iC (.int 1)) 2) (sRet (iVar 2))) sNext) (sSeq (sSetI setL (iOp modI (iCB intD (iCons (iOp addD (iOp addD (iOp mulD (iOp ixD (iVar 0) (iC (.int 0))) (iC (.int 50021))) (iOp mulD (iOp ixD (iVar 0) (iC (.int 2))) (iC (.int 90001)))) (iOp mulD (iOp fdivI (iOp ixD (iVar 0) (iC (.int 0))) (iC (.int 7001))) (iC (.int 13)))) iNil)) (iC (.int 1999999943))) (iVar 0) (iC (.int 0))) (sRet (iOp modI (iCB intD (iCons (iOp fdivI (iOp ixD (iVar 0) (iC (.int 0))) (iC (.int 173))) iNil)) (iVar 1))))))
def dDip : List D → M D := defJ 3 false isDip
theorem dip_end {S : Store} {n : Nat} {o o' : MO} (hn : n < S.next) (h : ∃ a b c : Int, o' = .lst [.int a, .int b, .int c]) : Bw (((S.set n o).set n o').trim S.next) n ∧ Kp n S (((S.set n o).set n o').trim S.next) := by
  obtain ⟨a, b, c, rfl⟩ := h
  exact ⟨bw_trim ⟨hn, a, b, c, Store.get_set_self ..⟩ hn, kp_trim (kp_set.trans kp_set)⟩
theorem dip_ok {S : Store} {n : Nat} {k : Int} (h : Bw S n) (hk : 0 < k) (hk2 : k < 1073741824) : ∃ r S', dDip [.ref n, .int k] S = .ok (.int r) S' ∧ 0 ≤ r ∧ r < k ∧ Bw S' n ∧ Kp n S S' := by
  obtain ⟨hn, a, b, c, e⟩ := h
  unfold dDip defJ isDip startR
  by_cases hb : 0 < b
  · simp [sSeq, sSetI, sSetIN, sBind, iOp, M.bind, lift, iVar, iC, M.ret, ixD, op2, ixL, seqR, seqL, seqT, setL, L2.ixN, L2.atI, addD, addI, subI, opI0, sIf, iTst, isB, gtI, ltI, leI, geI, iCB, iCons, iNil, intD, divmodD, absD, sRet, sNext, sAsg, sExpr, sPar, sPar3, modI, mulD, mulI, powI, opI, fdivI, iCall, iIf, iOr, iAnd, iNot, iNotV, iAndV, iOrV, M.no, iLstM, iLst, iTup, sAsgG, ngD, nsD, e, hb, hk, hk2]
    exact ⟨_, _, ⟨rfl, rfl⟩, Int.emod_nonneg _ (by omega), Int.emod_lt_of_pos _ hk, dip_end hn ⟨_, _, _, rfl⟩⟩
  · simp [sSeq, sSetI, sSetIN, sBind, iOp, M.bind, lift, iVar, iC, M.ret, ixD, op2, ixL, seqR, seqL, seqT, setL, L2.ixN, L2.atI, addD, addI, subI, opI0, sIf, iTst, isB, gtI, ltI, leI, geI, iCB, iCons, iNil, intD, divmodD, absD, sRet, sNext, sAsg, sExpr, sPar, sPar3, modI, mulD, mulI, powI, opI, fdivI, iCall, iIf, iOr, iAnd, iNot, iNotV, iAndV, iOrV, M.no, iLstM, iLst, iTup, sAsgG, ngD, nsD, e, hb, hk, hk2]
    exact ⟨_, _, ⟨rfl, rfl⟩, Int.emod_nonneg _ (by omega), Int.emod_lt_of_pos _ hk, dip_end hn ⟨_, _, _, rfl⟩⟩
/-! ### loops -/
theorem forL_inv {g : NG} {body : IS} (I : Nat → Rho → Store → Prop) : ∀ (xs : List D) (i : Nat) (ρ : Rho) (S : Store), I i ρ S →
    (∀ j x ρ S, xs[j]? = some x → I (i + j) ρ S → ∃ ρ1 ρ2 S2, ngD g x ρ = some ρ1 ∧ body ρ1 S = .ok (.nx ρ2) S2 ∧ I (i + j + 1) ρ2 S2) → ∃ ρ' S', forL g body xs ρ S = .ok (.nx ρ') S' ∧ I (i + xs.length) ρ' S'
  | [], i, ρ, S, h, _ => ⟨ρ, S, rfl, h⟩
  | x :: xs, i, ρ, S, h, k => by
    obtain ⟨ρ1, ρ2, S2, e1, e2, h2⟩ := k 0 x ρ S rfl h
    obtain ⟨ρ', S', e3, h3⟩ := forL_inv I xs (i + 1) ρ2 S2 h2 (fun j y ρ S hj hI => by
      have := k (j + 1) y ρ S (by simpa using hj) (by rw [show i + (j + 1) = i + 1 + j by omega]; exact hI)
      rw [show i + (j + 1) + 1 = i + 1 + j + 1 by omega] at this
      exact this)
    refine ⟨ρ', S', ?_, by rw [show i + (x :: xs).length = i + 1 + xs.length by simp; omega]; exact h3⟩
    unfold forL
    simp only [e1, e2]
    exact e3
/-- a comprehension: each item by its place -/
theorem lcL_inv {g : NG} {t : IT} {ie : IE} {ρ : Rho} (I : Nat → Store → Prop) (P : Nat → D → Prop) : ∀ (xs : List D) (i : Nat) (S : Store), I i S →
    (∀ j x S, xs[j]? = some x → I (i + j) S → ∃ ρ1 d S1 S2, ngD g x ρ = some ρ1 ∧ t ρ1 S = .ok true S1 ∧ ie ρ1 S1 = .ok d S2 ∧ P (i + j) d ∧ I (i + j + 1) S2) → ∃ rs S', lcL g t ie ρ xs S = .ok rs S' ∧ rs.length = xs.length ∧ (∀ j d, rs[j]? = some d → P (i + j) d) ∧ I (i + xs.length) S'
  | [], i, S, h, _ => ⟨[], S, rfl, rfl, fun j d e => by simp at e, h⟩
  | x :: xs, i, S, h, k => by
    obtain ⟨ρ1, d, S1, S2, e1, e2, e3, p, h2⟩ := k 0 x S rfl h
    obtain ⟨rs, S', e4, l4, p4, h4⟩ := lcL_inv I P xs (i + 1) S2 h2 (fun j y S hj hI => by
      have := k (j + 1) y S (by simpa using hj) (by rw [show i + (j + 1) = i + 1 + j by omega]; exact hI)
      rw [show i + (j + 1) + 1 = i + 1 + j + 1 by omega, show i + (j + 1) = i + 1 + j by omega] at this
      exact this)
    refine ⟨d :: rs, S', ?_, by simp [l4], fun j y hy => ?_, by rw [show i + (x :: xs).length = i + 1 + xs.length by simp; omega]; exact h4⟩
    · rw [lcL_cons_some e1]
      simp [M.bind, nox, e2, e3, e4, M.ret]
    · cases j with
      | zero =>
        have e : d = y := by simpa using hy
        subst e
        exact p
      | succ j =>
        have := p4 j y (by simpa using hy)
        rw [show i + (j + 1) = i + 1 + j by omega]
        exact this
end J
set_option Elab.async false
set_option linter.all false
set_option maxRecDepth 100000
set_option maxHeartbeats 1010000
/-! PB: plain laws: the bowl, signs -/
namespace J
theorem sSeq_nx {a b : IS} {ρ ρ1 : Rho} {S S1 : Store} (h : a ρ S = .ok (.nx ρ1) S1) : sSeq a b ρ S = b ρ1 S1 := by
  unfold sSeq
  rw [h]
def bw1 : IS := sAsg 2 (iIf (iTst (iOp ltI (iVar 1) (iCB lenD (iCons (iVar 0) iNil)))) (iCB intD (iCons (iOp ixD (iVar 0) (iVar 1)) iNil)) (iOp addD (iOp mulD (iC (.int 17)) (iVar 1)) (iC (.int 3))))
def bw2 : IS := sAsg 3 (iOp addD (iC (.int 60013)) (iOp mulD (iC (.int 911)) (iVar 1)))
def bw3b : IS := sAsg 3 (iOp modI (iCB intD (iCons (iOp addD (iOp mulD (iVar 3) (iC (.int 39119))) (iOp modI (iCB intD (iCons (iVar 4) iNil)) (iC (.int 1999999943)))) iNil)) (iC (.int 1999999943)))
def bw3 : IS := sFor (iItems (iSl slD (iVar 0) iNoPart (iPart (iC (.int 12))))) (.n 4) bw3b
def bw4 : IS := sRet (iLstM (iCons (iOp modI (iCB intD (iCons (iOp addD (iVar 3) (iOp modI (iVar 2) (iC (.int 1999999943)))) iNil)) (iC (.int 1999999943))) (iCons (iIf (iOr (iTst (iOp ltI (iVar 2) (iC (.int 0)))) (iTst (iOp geI (iVar 2) (iOp powI (iC (.int 10)) (iC (.int 15)))))) (iCB absD (iCons (iVar 2) iNil)) (iC (.int 0))) (iCons (iC (.int 0)) iNil))))
def isBowl : IS := sSeq bw1 (sSeq bw2 (sSeq bw3 bw4))
def dBowl : List D → M D := defJ 5 true isBowl
theorem bw1_ok {S : Store} {ns : List Int} {k : Nat} : ∃ own : Int, bw1 [some (.scr (ns.map D.int)), some (.int k), none, none, none] S = .ok (.nx [some (.scr (ns.map D.int)), some (.int k), some (.int own), none, none]) S := by
  unfold bw1
  by_cases h : k < ns.length
  · refine ⟨ns[k], ?_⟩
    have h1 : ((k : Int) < ((ns.length : Nat) : Int)) := by omega
    simp [sSeq, sSetI, sSetIN, sBind, iOp, M.bind, lift, iVar, iC, M.ret, ixD, op2, ixL, seqR, seqL, seqT, setL, L2.ixN, L2.atI, addD, addI, subI, opI0, sIf, iTst, isB, gtI, ltI, leI, geI, iCB, iCons, iNil, intD, divmodD, absD, sRet, sNext, sAsg, sExpr, sPar, sPar3, modI, mulD, mulI, powI, opI, fdivI, iCall, iIf, iOr, iAnd, iNot, iNotV, iAndV, iOrV, M.no, iLstM, iLst, iTup, sAsgG, ngD, nsD, lenD, seqA, h1, h]
  · refine ⟨17 * (k : Int) + 3, ?_⟩
    have h1 : ¬ ((k : Int) < ((ns.length : Nat) : Int)) := by omega
    simp [sSeq, sSetI, sSetIN, sBind, iOp, M.bind, lift, iVar, iC, M.ret, ixD, op2, ixL, seqR, seqL, seqT, setL, L2.ixN, L2.atI, addD, addI, subI, opI0, sIf, iTst, isB, gtI, ltI, leI, geI, iCB, iCons, iNil, intD, divmodD, absD, sRet, sNext, sAsg, sExpr, sPar, sPar3, modI, mulD, mulI, powI, opI, fdivI, iCall, iIf, iOr, iAnd, iNot, iNotV, iAndV, iOrV, M.no, iLstM, iLst, iTup, sAsgG, ngD, nsD, lenD, seqA, h1, h]
theorem bw3_ok {S : Store} {ns : List Int} {k : Nat} {own m : Int} : ∃ (m' : Int) (x : Option D), bw3 [some (.scr (ns.map D.int)), some (.int k), some (.int own), some (.int m), none] S = .ok (.nx [some (.scr (ns.map D.int)), some (.int k), some (.int own), some (.int m'), x]) S := by
  have key := forL_inv (g := .n 4) (body := bw3b) (fun _ ρ S' => S' = S ∧ ∃ (m' : Int) (x : Option D), ρ = [some (.scr (ns.map D.int)), some (.int k), some (.int own), some (.int m'), x]) (cutD (ns.map D.int) none (some 12)) 0 [some (.scr (ns.map D.int)), some (.int k), some (.int own), some (.int m), none] S ⟨rfl, m, none, rfl⟩ (by
    rintro j x ρ S1 hx ⟨rfl, m', y, rfl⟩
    have hm : x ∈ ns.map D.int := List.mem_of_mem_drop (List.mem_of_mem_take (List.mem_of_getElem? hx))
    obtain ⟨i, _, rfl⟩ := List.mem_map.mp hm
    refine ⟨_, [some (.scr (ns.map D.int)), some (.int k), some (.int own), some (.int ((m' * 39119 + i % 1999999943) % 1999999943)), some (.int i)], S1, rfl, ?_, rfl, _, _, rfl⟩
    simp [sSeq, sSetI, sSetIN, sBind, iOp, M.bind, lift, iVar, iC, M.ret, ixD, op2, ixL, seqR, seqL, seqT, setL, L2.ixN, L2.atI, addD, addI, subI, opI0, sIf, iTst, isB, gtI, ltI, leI, geI, iCB, iCons, iNil, intD, divmodD, absD, sRet, sNext, sAsg, sExpr, sPar, sPar3, modI, mulD, mulI, powI, opI, fdivI, iCall, iIf, iOr, iAnd, iNot, iNotV, iAndV, iOrV, M.no, iLstM, iLst, iTup, sAsgG, ngD, nsD, bw3b])
  obtain ⟨ρ', S', e, rfl, m', x, rfl⟩ := key
  refine ⟨m', x, ?_⟩
  rw [← e]
  simp [sSeq, sSetI, sSetIN, sBind, iOp, M.bind, lift, iVar, iC, M.ret, ixD, op2, ixL, seqR, seqL, seqT, setL, L2.ixN, L2.atI, addD, addI, subI, opI0, sIf, iTst, isB, gtI, ltI, leI, geI, iCB, iCons, iNil, intD, divmodD, absD, sRet, sNext, sAsg, sExpr, sPar, sPar3, modI, mulD, mulI, powI, opI, fdivI, iCall, iIf, iOr, iAnd, iNot, iNotV, iAndV, iOrV, M.no, iLstM, iLst, iTup, sAsgG, ngD, nsD, bw3, sFor, iItems, iSl, slD, opc2, slL, items, iNoPart, iPart]
theorem bowl_ok {S : Store} {ns : List Int} {k : Nat} : ∃ S', dBowl [.scr (ns.map D.int), .int k] S = .ok (.ref S.next) S' ∧ Bw S' S.next ∧ Kq S S' := by
  obtain ⟨own, e1⟩ := bw1_ok (S := S) (ns := ns) (k := k)
  obtain ⟨m', x, e3⟩ := bw3_ok (S := S) (ns := ns) (k := k) (own := own) (m := 60013 + 911 * (k : Int))
  have e2 : bw2 [some (.scr (ns.map D.int)), some (.int k), some (.int own), none, none] S = .ok (.nx [some (.scr (ns.map D.int)), some (.int k), some (.int own), some (.int (60013 + 911 * (k : Int))), none]) S := by
    simp [sSeq, sSetI, sSetIN, sBind, iOp, M.bind, lift, iVar, iC, M.ret, ixD, op2, ixL, seqR, seqL, seqT, setL, L2.ixN, L2.atI, addD, addI, subI, opI0, sIf, iTst, isB, gtI, ltI, leI, geI, iCB, iCons, iNil, intD, divmodD, absD, sRet, sNext, sAsg, sExpr, sPar, sPar3, modI, mulD, mulI, powI, opI, fdivI, iCall, iIf, iOr, iAnd, iNot, iNotV, iAndV, iOrV, M.no, iLstM, iLst, iTup, sAsgG, ngD, nsD, bw2]
  have e4 : ∃ a b : Int, bw4 [some (.scr (ns.map D.int)), some (.int k), some (.int own), some (.int m'), x] S = .ok (.rt (.ref S.next)) (S.alloc (.lst [.int a, .int b, .int 0])) := by
    by_cases h1 : own < 0
    · refine ⟨(m' + own % 1999999943) % 1999999943, -own, ?_⟩
      simp [sSeq, sSetI, sSetIN, sBind, iOp, M.bind, lift, iVar, iC, M.ret, ixD, op2, ixL, seqR, seqL, seqT, setL, L2.ixN, L2.atI, addD, addI, subI, opI0, sIf, iTst, isB, gtI, ltI, leI, geI, iCB, iCons, iNil, intD, divmodD, absD, sRet, sNext, sAsg, sExpr, sPar, sPar3, modI, mulD, mulI, powI, opI, fdivI, iCall, iIf, iOr, iAnd, iNot, iNotV, iAndV, iOrV, M.no, iLstM, iLst, iTup, sAsgG, ngD, nsD, bw4, h1]
    · by_cases h2 : (1000000000000000 : Int) ≤ own
      · refine ⟨(m' + own % 1999999943) % 1999999943, own, ?_⟩
        simp [sSeq, sSetI, sSetIN, sBind, iOp, M.bind, lift, iVar, iC, M.ret, ixD, op2, ixL, seqR, seqL, seqT, setL, L2.ixN, L2.atI, addD, addI, subI, opI0, sIf, iTst, isB, gtI, ltI, leI, geI, iCB, iCons, iNil, intD, divmodD, absD, sRet, sNext, sAsg, sExpr, sPar, sPar3, modI, mulD, mulI, powI, opI, fdivI, iCall, iIf, iOr, iAnd, iNot, iNotV, iAndV, iOrV, M.no, iLstM, iLst, iTup, sAsgG, ngD, nsD, bw4, h1, h2]
      · refine ⟨(m' + own % 1999999943) % 1999999943, 0, ?_⟩
        simp [sSeq, sSetI, sSetIN, sBind, iOp, M.bind, lift, iVar, iC, M.ret, ixD, op2, ixL, seqR, seqL, seqT, setL, L2.ixN, L2.atI, addD, addI, subI, opI0, sIf, iTst, isB, gtI, ltI, leI, geI, iCB, iCons, iNil, intD, divmodD, absD, sRet, sNext, sAsg, sExpr, sPar, sPar3, modI, mulD, mulI, powI, opI, fdivI, iCall, iIf, iOr, iAnd, iNot, iNotV, iAndV, iOrV, M.no, iLstM, iLst, iTup, sAsgG, ngD, nsD, bw4, h1, h2]
  obtain ⟨a, b, e4⟩ := e4
  refine ⟨_, ?_, ⟨Nat.lt_succ_self _, a, b, 0, Store.get_alloc_self ..⟩, kq_alloc⟩
  show defJ 5 true isBowl _ S = _
  unfold defJ isBowl
  have e0 : startR 5 [.scr (ns.map D.int), .int k] = [some (.scr (ns.map D.int)), some (.int k), none, none, none] := rfl
  rw [e0, sSeq_nx e1, sSeq_nx e2, sSeq_nx e3, e4]
  rfl
end J
set_option Elab.async false
set_option linter.all false
set_option maxRecDepth 100000
set_option maxHeartbeats 1010000
/-! PC: plain laws: signs -/
namespace J
theorem ixD_str {l : List Nat} {i : Nat} {S : Store} (h : i < l.length) (h2 : l.length ≤ 100000) : ixD (.str l) (.int (i : Int)) S = some (.str [l[i]]) := by
  simp [ixD, op2, ixL, seqR, seqL, ixT, ixS, h2, L2.atI, L2.ixN, h]
theorem cut_take {α : Type} (l : List α) (k : Nat) : cutD l none (some (k : Int)) = l.take k := by
  unfold cutD
  rw [HT.sIx_none, HT.sIx_nat]
  simp
theorem cut_drop {α : Type} (l : List α) (k : Nat) : cutD l (some (k : Int)) none = l.drop k := by
  unfold cutD
  rw [HT.sIx_none, HT.sIx_nat]
  by_cases h : k ≤ l.length
  · rw [Nat.min_eq_left h]; rw [List.take_of_length_le (by simp)]
  · rw [Nat.min_eq_right (by omega), List.drop_of_length_le (Nat.le_refl _), List.drop_of_length_le (show l.length ≤ k by omega)]
    simp
theorem slD_str {l : List Nat} {a b : Option Int} {S : Store} (h2 : l.length ≤ 100000) : slD (.str l) a b S = some (.str (cutD l a b)) := by
  simp [slD, opc2, slL, slS, slT, seqR, seqL, h2]
theorem addD_str {a b : List Nat} {S : Store} (h : a.length + b.length ≤ 100000) : addD (.str a) (.str b) S = some (.str (a ++ b)) := by
  simp [addD, op2, addI, opI0, addS, h]
theorem addD_int {a b : Int} {S : Store} : addD (.int a) (.int b) S = some (.int (a + b)) := by
  simp [addD, op2, addI, opI0]
theorem subI_int {a b : Int} {S : Store} : subI (.int a) (.int b) S = some (.int (a - b)) := by
  simp [subI, opI0]
theorem gtI_int {a b : Int} {S : Store} : gtI (.int a) (.int b) S = some (.bl (decide (b < a))) := by
  simp [gtI, opI0]
theorem lenD_str {l : List Nat} {S : Store} (h : l.length ≤ 100000) : lenD [.str l] S = some (.int l.length) := by
  simp [lenD, h]
def abc : List Nat := [97, 98, 99, 100, 101, 102, 103, 104, 105, 106, 107, 108, 109, 110, 111, 112, 113, 114, 115, 116, 117, 118, 119, 120, 121, 122]
theorem abc_up : abc.Pairwise (· < ·) := by decide
theorem abc_in : ∀ c ∈ abc, 97 ≤ c ∧ c ≤ 122 := by decide
structure Sg (l : List Nat) : Prop where
  up : l.Pairwise (· < ·)
  abc : ∀ c ∈ l, 97 ≤ c ∧ c ≤ 122
theorem up_len : ∀ (l : List Nat) (lo : Nat), l.Pairwise (· < ·) → (∀ c ∈ l, lo ≤ c ∧ c ≤ 122) → l.length + lo ≤ 123 ∨ l = []
  | [], _, _, _ => .inr rfl
  | c :: r, lo, h, k => by
    have ⟨h1, h2⟩ := List.pairwise_cons.mp h
    have kc := k c (List.mem_cons_self ..)
    left
    rcases up_len r (c + 1) h2 (fun d hd => ⟨h1 d hd, (k d (List.mem_cons_of_mem _ hd)).2⟩) with z | z
    · rw [List.length_cons]
      omega
    · subst z
      simp only [List.length_nil, List.length_cons]
      omega
theorem Sg.len {l : List Nat} (h : Sg l) : l.length ≤ 26 := by
  rcases up_len l 97 h.up h.abc with z | z
  · omega
  · subst z
    decide
theorem flat_one : ∀ l : List Nat, (l.map fun c => [c]).flatten = l
  | [] => rfl
  | c :: l => by
    rw [List.map_cons, List.flatten_cons, flat_one l]
    rfl
theorem joinL_nil : ∀ ys : List (List Nat), TL.joinL [] ys = ys.flatten
  | [] => rfl
  | [p] => by simp [TL.joinL]
  | p :: q :: r => by
    have := joinL_nil (q :: r)
    simp only [TL.joinL, this, List.nil_append, List.flatten_cons]
theorem sort_one : ∀ ls : List (List Nat), (∀ y ∈ ls, ∃ c, y = [c]) → ∃ l : List Nat, ls = l.map fun c => [c]
  | [], _ => ⟨[], rfl⟩
  | y :: ys, h => by
    obtain ⟨c, rfl⟩ := h y (List.mem_cons_self ..)
    obtain ⟨l, rfl⟩ := sort_one ys fun z hz => h z (List.mem_cons_of_mem _ hz)
    exact ⟨c :: l, rfl⟩
theorem sort_sg {f : List Nat} (nd : f.Nodup) (h : ∀ c ∈ f, 97 ≤ c ∧ c ≤ 122) : Sg (sortS (f.map fun c => [c])).flatten ∧ (sortS (f.map fun c => [c])).flatten.length = f.length := by
  have p := sortS_perm (f.map fun c => [c])
  obtain ⟨l, e⟩ := sort_one (sortS (f.map fun c => [c])) fun y hy => by
    obtain ⟨c, _, rfl⟩ := List.mem_map.mp (p.mem_iff.mp hy)
    exact ⟨c, rfl⟩
  have so := sortS_sorted (f.map fun c => [c])
  have fl := flat_one l
  rw [e] at p so ⊢
  rw [fl]
  have pl : l.Perm f := by
    have := p.flatten
    rw [fl] at this
    rw [flat_one f] at this
    exact this
  have ndl : l.Nodup := pl.nodup_iff.mpr nd
  refine ⟨⟨?_, fun c hc => h c (pl.mem_iff.mp hc)⟩, pl.length_eq⟩
  have s2 : l.Pairwise fun a b => a ≤ b := (List.pairwise_map.mp so).imp fun {a b} h => by
    rw [le_iff] at h
    rcases Nat.lt_or_ge b a with z | z
    · exact absurd (List.cons_lt_cons_iff.mpr (.inl z)) h
    · exact z
  exact (s2.and ndl).imp fun {a b} h => Nat.lt_of_le_of_ne h.1 h.2
end J
set_option Elab.async false
set_option linter.all false
set_option maxRecDepth 100000
set_option maxHeartbeats 1010000
/-! PD: plain laws: signs, the walk's part -/
namespace J
def sg1 : IS := sPar3 4 5 6 (iCons (iOp addD (iVar 1) (iCall 2 dDip (iCons (iVar 0) (iCons (iOp addD (iOp subI (iVar 2) (iVar 1)) (iC (.int 1))) iNil)))) (iCons (iC (.str abc)) (iCons (iLstM iNil) iNil)))
def sg2 : IS := sIf (iTst (iOp gtI (iCall 2 dDip (iCons (iVar 0) (iCons (iC (.int 3)) iNil))) (iC (.int 0)))) (sRet (iSl slD (iVar 5) iNoPart (iPart (iVar 4)))) sNext
def sg3x : IS := sAsg 7 (iCall 2 dDip (iCons (iVar 0) (iCons (iCB lenD (iCons (iVar 5) iNil)) iNil)))
def sg3y : IS := sExpr (iBM .l lstApp (iVar 6) (iCons (iOp ixD (iVar 5) (iVar 7)) iNil))
def sg3z : IS := sAsg 5 (iOp addD (iSl slD (iVar 5) iNoPart (iPart (iVar 7))) (iSl slD (iVar 5) (iPart (iOp addD (iVar 7) (iC (.int 1)))) iNoPart))
def sg3b : IS := sSeq sg3x (sSeq sg3y sg3z)
def sg3 : IS := sFor (iRange range1 (iCons (iVar 4) iNil)) (.n 3) sg3b
def sg4 : IS := sRet (iBM .s strJoin (iC (.str [])) (iCons (iCB sortD (iCons (iVar 6) iNil)) iNil))
def isSigns : IS := sSeq sg1 (sSeq sg2 (sSeq sg3 (sSeq (sFrz 6) sg4)))
def dSigns : List D → M D := defJ 8 false isSigns
theorem strsOf_one : ∀ f : List Nat, strsOf (f.map fun c => D.str [c]) = some (f.map fun c => [c])
  | [] => rfl
  | c :: r => by simp [strsOf, strsOf_one r]
theorem strsOf_str : ∀ f : List (List Nat), strsOf (f.map D.str) = some f
  | [] => rfl
  | c :: r => by simp [strsOf, strsOf_str r]
structure SgI (n f : Nat) (S0 S : Store) (left found : List Nat) : Prop where
  bw : Bw S n
  ne : f ≠ n
  lt : f < S.next
  old : S0.next ≤ f
  kp : ∀ m, m < S0.next → m ≠ n → S.get m = S0.get m
  fd : S.get f = some (.lst (found.map fun c => D.str [c]))
  up : left.Pairwise (· < ·)
  pm : (left ++ found).Perm abc
theorem sg3b_ok {n f : Nat} {S0 S : Store} {left found : List Nat} {a b c e7 : Option D} {t : D} (h : SgI n f S0 S left found) (hl : 0 < left.length) :
    ∃ q S2, ∃ hq : q < left.length, sg3b [some (.ref n), a, b, some t, c, some (.str left), some (.ref f), e7] S = .ok (.nx [some (.ref n), a, b, some t, c, some (.str (left.take q ++ left.drop (q + 1))), some (.ref f), some (.int (q : Nat))]) S2 ∧ SgI n f S0 S2 (left.take q ++ left.drop (q + 1)) (found ++ [left[q]]) := by
  have len : left.length + found.length = 26 := by
    have := h.pm.length_eq
    rw [List.length_append] at this
    exact this
  have l1 : left.length ≤ 100000 := by omega
  obtain ⟨r, S1, e, r0, r1, b1, k1⟩ := dip_ok (k := (left.length : Int)) h.bw (by omega) (by omega)
  obtain ⟨q, rfl⟩ := Int.eq_ofNat_of_zero_le r0
  have hq : q < left.length := by omega
  have f1 : S1.get f = some (.lst (found.map fun c => D.str [c])) := (k1.get f h.lt h.ne).trans h.fd
  refine ⟨q, S1.set f (.lst ((found ++ [left[q]]).map fun c => D.str [c])), hq, ?_, ?_⟩
  · have t1 : (left.take q).length + (left.drop (q + 1)).length ≤ 100000 := by
      rw [List.length_take]; rw [List.length_drop]
      omega
    have l2 : found.length < 100000 := by omega
    have c1 : (q : Int) + 1 = ((q + 1 : Nat) : Int) := by omega
    have x1 : sg3x [some (.ref n), a, b, some t, c, some (.str left), some (.ref f), e7] S = .ok (.nx [some (.ref n), a, b, some t, c, some (.str left), some (.ref f), some (.int (q : Nat))]) S1 := by
      unfold sg3x
      simp [sSeq, sSetI, sSetIN, sBind, iOp, M.bind, lift, iVar, iC, M.ret, sIf, iTst, isB, iCB, iCons, iNil, sRet, sNext, sAsg, sExpr, sPar, sPar3, iCall, iIf, iOr, iAnd, iNot, iNotV, iAndV, iOrV, M.no, iLstM, iLst, iTup, sAsgG, ngD, nsD, iSl, iPart, iNoPart, iBM, iCM, iYes, lenD_str l1, e]
    have x2 : sg3y [some (.ref n), a, b, some t, c, some (.str left), some (.ref f), some (.int (q : Nat))] S1 = .ok (.nx [some (.ref n), a, b, some t, c, some (.str left), some (.ref f), some (.int (q : Nat))]) (S1.set f (.lst ((found ++ [left[q]]).map fun c => D.str [c]))) := by
      have ap : lstApp (.ref f) [.str [left[q]]] S1 = .ok .non (S1.set f (.lst ((found ++ [left[q]]).map fun c => D.str [c]))) := by
        unfold lstApp
        simp [f1, l2]
      have kd : kindIs .l (.ref f) S1 = true := by simp [kindIs, f1]
      unfold sg3y
      simp [sSeq, sSetI, sSetIN, sBind, iOp, M.bind, lift, iVar, iC, M.ret, sIf, iTst, isB, iCB, iCons, iNil, sRet, sNext, sAsg, sExpr, sPar, sPar3, iCall, iIf, iOr, iAnd, iNot, iNotV, iAndV, iOrV, M.no, iLstM, iLst, iTup, sAsgG, ngD, nsD, iSl, iPart, iNoPart, iBM, iCM, iYes, kd, ixD_str hq l1, ap]
    have x3 : ∀ S2, sg3z [some (.ref n), a, b, some t, c, some (.str left), some (.ref f), some (.int (q : Nat))] S2 = .ok (.nx [some (.ref n), a, b, some t, c, some (.str (left.take q ++ left.drop (q + 1))), some (.ref f), some (.int (q : Nat))]) S2 := by
      intro S2
      unfold sg3z
      simp only [sSeq, sSetI, sSetIN, sBind, iOp, M.bind, lift, iVar, iC, M.ret, sIf, iTst, isB, iCB, iCons, iNil, sRet, sNext, sAsg, sExpr, sPar, sPar3, iCall, iIf, iOr, iAnd, iNot, iNotV, iAndV, iOrV, M.no, iLstM, iLst, iTup, sAsgG, ngD, nsD, iSl, iPart, iNoPart, iBM, iCM, iYes, List.getD_cons_zero, List.getD_cons_succ, slD_str l1, addD_int, c1, cut_take, cut_drop, addD_str t1]
      rfl
    unfold sg3b
    rw [sSeq_nx x1, sSeq_nx x2, x3]
  · have h2 : left.take q ++ left[q] :: left.drop (q + 1) = left := by
      rw [List.getElem_cons_drop hq, List.take_append_drop]
    refine ⟨b1.kp kp_set (Ne.symm h.ne), h.ne, Nat.lt_of_lt_of_le h.lt k1.next, h.old, fun m hm hn => ?_, Store.get_set_self .., ?_, ?_⟩
    · rw [S1.get_set_ne _ (by have := h.old; omega), k1.get m (by have := h.old; have := h.lt; omega) hn]
      exact h.kp m hm hn
    · have u := h.up
      rw [← h2] at u
      refine u.sublist ?_
      exact List.Sublist.append_left (List.sublist_cons_self ..) _
    · refine List.Perm.trans ?_ h.pm
      have p1 : (left.take q ++ left.drop (q + 1) ++ (found ++ [left[q]])).Perm (left.take q ++ (left[q] :: left.drop (q + 1)) ++ found) := by
        have : (left.take q ++ left.drop (q + 1) ++ (found ++ [left[q]])).Perm (left[q] :: (left.take q ++ left.drop (q + 1) ++ found)) := by
          rw [← List.append_assoc]
          exact List.perm_append_singleton _ _
        refine this.trans ?_
        refine List.Perm.trans ?_ (List.perm_middle.symm.append_right found)
        exact List.Perm.refl _
      rw [h2] at p1
      exact p1
theorem signs_ok {S : Store} {n : Nat} {lo hi : Int} (b : Bw S n) (h1 : 0 ≤ lo) (h2 : lo ≤ hi) (h3 : hi ≤ 26) : ∃ l S', dSigns [.ref n, .int lo, .int hi] S = .ok (.str l) S' ∧ Sg l ∧ lo ≤ l.length ∧ (l.length : Int) ≤ hi ∧ Bw S' n ∧ Kp n S S' := by
  obtain ⟨r, S1, e1, r0, r1, b1, k1⟩ := dip_ok (k := hi - lo + 1) b (by omega) (by omega)
  obtain ⟨m, hm⟩ := Int.eq_ofNat_of_zero_le (show 0 ≤ lo + r by omega)
  have m26 : m ≤ 26 := by omega
  have s1 : sg1 [some (.ref n), some (.int lo), some (.int hi), none, none, none, none, none] S = .ok (.nx [some (.ref n), some (.int lo), some (.int hi), none, some (.int (m : Nat)), some (.str abc), some (.ref S1.next), none]) (S1.alloc (.lst [])) := by
    unfold sg1
    simp [sSeq, sSetI, sSetIN, sBind, iOp, M.bind, lift, iVar, iC, M.ret, sIf, iTst, isB, iCB, iCons, iNil, sRet, sNext, sAsg, sExpr, sPar, sPar3, iCall, iIf, iOr, iAnd, iNot, iNotV, iAndV, iOrV, M.no, iLstM, iLst, iTup, sAsgG, ngD, nsD, iSl, iPart, iNoPart, iBM, iCM, iYes, addD_int, subI_int, e1, hm]
  have bA : Bw (S1.alloc (.lst [])) n := b1.kq kq_alloc
  obtain ⟨r', S2, e2, r0', r1', b2, k2⟩ := dip_ok (k := 3) bA (by omega) (by omega)
  have e0 : startR 8 [.ref n, .int lo, .int hi] = [some (.ref n), some (.int lo), some (.int hi), none, none, none, none, none] := rfl
  have kA : Kp n S (S1.alloc (.lst [])) := k1.trans kq_alloc.kp
  have la : abc.length ≤ 100000 := by decide
  by_cases hr : 0 < r'
  · refine ⟨abc.take m, S2.trim S.next, ?_, ⟨abc_up.sublist (List.take_sublist ..), fun c hc => abc_in c (List.mem_of_mem_take hc)⟩, ?_, ?_, bw_trim b2 b.1, kp_trim (kA.trans k2)⟩
    · have s2 : sg2 [some (.ref n), some (.int lo), some (.int hi), none, some (.int (m : Nat)), some (.str abc), some (.ref S1.next), none] (S1.alloc (.lst [])) = .ok (.rt (.str (abc.take m))) S2 := by
        unfold sg2
        simp [sSeq, sSetI, sSetIN, sBind, iOp, M.bind, lift, iVar, iC, M.ret, sIf, iTst, isB, iCB, iCons, iNil, sRet, sNext, sAsg, sExpr, sPar, sPar3, iCall, iIf, iOr, iAnd, iNot, iNotV, iAndV, iOrV, M.no, iLstM, iLst, iTup, sAsgG, ngD, nsD, iSl, iPart, iNoPart, iBM, iCM, iYes, e2, gtI_int, hr, slD_str la, cut_take]
      show defJ 8 false isSigns _ S = _
      unfold defJ isSigns
      rw [e0, sSeq_nx s1]
      unfold sSeq
      rw [s2]
      rfl
    · have : (abc.take m).length = m := by
        rw [List.length_take]
        exact Nat.min_eq_left m26
      rw [this]
      omega
    · have : (abc.take m).length = m := by
        rw [List.length_take]
        exact Nat.min_eq_left m26
      rw [this]
      omega
  · have s2 : sg2 [some (.ref n), some (.int lo), some (.int hi), none, some (.int (m : Nat)), some (.str abc), some (.ref S1.next), none] (S1.alloc (.lst [])) = .ok (.nx [some (.ref n), some (.int lo), some (.int hi), none, some (.int (m : Nat)), some (.str abc), some (.ref S1.next), none]) S2 := by
      unfold sg2
      simp [sSeq, sSetI, sSetIN, sBind, iOp, M.bind, lift, iVar, iC, M.ret, sIf, iTst, isB, iCB, iCons, iNil, sRet, sNext, sAsg, sExpr, sPar, sPar3, iCall, iIf, iOr, iAnd, iNot, iNotV, iAndV, iOrV, M.no, iLstM, iLst, iTup, sAsgG, ngD, nsD, iSl, iPart, iNoPart, iBM, iCM, iYes, e2, gtI_int, hr]
    have i0 : SgI n S1.next S S2 abc [] := by
      have ne : S1.next ≠ n := by have := b1.1; omega
      refine ⟨b2, ne, Nat.lt_of_lt_of_le (Nat.lt_succ_self _) k2.next, k1.next, fun m hm hn => ?_, ?_, abc_up, by simp⟩
      · exact (kA.trans k2).get m hm hn
      · rw [k2.get S1.next (Nat.lt_succ_self _) ne]
        exact Store.get_alloc_self ..
    have key := forL_inv (g := .n 3) (body := sg3b) (fun j ρ S' => ∃ left found e7 t, ρ = [some (.ref n), some (.int lo), some (.int hi), t, some (.int (m : Nat)), some (.str left), some (.ref S1.next), e7] ∧ SgI n S1.next S S' left found ∧ left.length + j = 26 ∧ found.length = j) (rng 0 m) 0 [some (.ref n), some (.int lo), some (.int hi), none, some (.int (m : Nat)), some (.str abc), some (.ref S1.next), none] S2 ⟨abc, [], none, none, rfl, i0, rfl, rfl⟩ (by
      rintro j x ρ S3 hx ⟨left, found, e7, t, rfl, hi', hl, hf⟩
      have hj : j < m := by
        have := (List.getElem?_eq_some_iff.mp hx).1
        simpa [rng] using this
      obtain ⟨q, S4, hq, e, hI⟩ := sg3b_ok (a := some (.int lo)) (b := some (.int hi)) (c := some (.int (m : Nat))) (e7 := e7) (t := x) hi' (by omega)
      refine ⟨_, _, S4, rfl, e, _, _, _, _, rfl, hI, ?_, ?_⟩
      · rw [List.length_append, List.length_take, List.length_drop]
        omega
      · rw [List.length_append]
        simp
        omega)
    obtain ⟨ρ', S3, e3, left, found, e7, t, rfl, hI, hl, hf⟩ := key
    have hfm : found.length = m := by
      rw [hf]
      simp [rng]
    have s3 : sg3 [some (.ref n), some (.int lo), some (.int hi), none, some (.int (m : Nat)), some (.str abc), some (.ref S1.next), none] S2 = .ok (.nx [some (.ref n), some (.int lo), some (.int hi), t, some (.int (m : Nat)), some (.str left), some (.ref S1.next), e7]) S3 := by
      rw [← e3]
      have z : -100000 ≤ (m : Int) ∧ (m : Int) ≤ 100000 := by omega
      unfold sg3
      simp [sSeq, sSetI, sSetIN, sBind, iOp, M.bind, lift, iVar, iC, M.ret, sIf, iTst, isB, iCB, iCons, iNil, sRet, sNext, sAsg, sExpr, sPar, sPar3, iCall, iIf, iOr, iAnd, iNot, iNotV, iAndV, iOrV, M.no, iLstM, iLst, iTup, sAsgG, ngD, nsD, iSl, iPart, iNoPart, iBM, iCM, iYes, sFor, iRange, range1, z]
    have s4 : sFrz 6 [some (.ref n), some (.int lo), some (.int hi), t, some (.int (m : Nat)), some (.str left), some (.ref S1.next), e7] S3 = .ok (.nx [some (.ref n), some (.int lo), some (.int hi), t, some (.int (m : Nat)), some (.str left), some (.lst (found.map fun c => D.str [c])), e7]) (S3.del S1.next) := by
      simp [sFrz, hI.fd, frzO]
    have nd : found.Nodup := by
      have : (left ++ found).Nodup := hI.pm.nodup_iff.mpr (abc_up.imp fun h => Nat.ne_of_lt h)
      exact (List.nodup_append.mp this).2.1
    have inn : ∀ c ∈ found, 97 ≤ c ∧ c ≤ 122 := fun c hc => abc_in c (hI.pm.mem_iff.mp (List.mem_append_right _ hc))
    obtain ⟨sg, sl⟩ := sort_sg nd inn
    have one : (sortS (found.map fun c => [c])).all (fun y => decide (y.length ≤ 1000)) = true := by
      rw [List.all_eq_true]
      intro y hy
      obtain ⟨c, _, rfl⟩ := List.mem_map.mp ((sortS_perm _).mem_iff.mp hy)
      simp
    have sl2 : (sortS (found.map fun c => [c])).length = found.length := by
      rw [(sortS_perm _).length_eq, List.length_map]
    have s5 : sg4 [some (.ref n), some (.int lo), some (.int hi), t, some (.int (m : Nat)), some (.str left), some (.lst (found.map fun c => D.str [c])), e7] (S3.del S1.next) = .ok (.rt (.str (sortS (found.map fun c => [c])).flatten)) (S3.del S1.next) := by
      have h64 : found.length < 64 := by omega
      have h1000 : found.length ≤ 1000 := by omega
      have sd : sortD [.lst (found.map fun c => D.str [c])] (S3.del S1.next) = some (.lst ((sortS (found.map fun c => [c])).map .str)) := by
        unfold sortD
        simp only [seqL, strsOf_one, List.length_map]
        rw [if_pos h64]
      have jn : strJoin (.str []) [.lst ((sortS (found.map fun c => [c])).map .str)] (S3.del S1.next) = .ok (.str (sortS (found.map fun c => [c])).flatten) (S3.del S1.next) := by
        unfold strJoin
        simp only [seqA, seqR, seqL, Option.some_or, Option.bind_some, strsOf_str, joinL_nil]
        rw [if_pos ⟨by rw [sl2]; exact h1000, by decide, one⟩]
      unfold sg4
      simp [sSeq, sSetI, sSetIN, sBind, iOp, M.bind, lift, iVar, iC, M.ret, sIf, iTst, isB, iCB, iCons, iNil, sRet, sNext, sAsg, sExpr, sPar, sPar3, iCall, iIf, iOr, iAnd, iNot, iNotV, iAndV, iOrV, M.no, iLstM, iLst, iTup, sAsgG, ngD, nsD, iSl, iPart, iNoPart, iBM, iCM, iYes, sd, kindIs, jn]
    have kF : Kp n S (S3.del S1.next) := by
      refine ⟨?_, fun m hm hn => ?_⟩
      · have := hI.lt
        have := hI.old
        show S.next ≤ S3.next
        omega
      · rw [Store.get_del, if_neg (by have := hI.old; omega)]
        exact hI.kp m hm hn
    have bF : Bw (S3.del S1.next) n := by
      refine ⟨hI.bw.1, ?_⟩
      rw [Store.get_del, if_neg (Ne.symm hI.ne)]
      exact hI.bw.2
    refine ⟨_, (S3.del S1.next).trim S.next, ?_, sg, by rw [sl, hfm]; omega, by rw [sl, hfm]; omega, bw_trim bF b.1, kp_trim kF⟩
    show defJ 8 false isSigns _ S = _
    unfold defJ isSigns
    rw [e0, sSeq_nx s1, sSeq_nx s2, sSeq_nx s3, sSeq_nx s4, s5]
    rfl
end J
set_option Elab.async false
set_option linter.all false
set_option maxRecDepth 100000
set_option maxHeartbeats 1010000
/-! PE: plain laws: boards -/
namespace J
theorem lcL_pure {g : NG} {t : IT} {ie : IE} {ρ : Rho} {S : Store} (f : D → D) : ∀ xs : List D, (∀ x ∈ xs, ∃ ρ1, ngD g x ρ = some ρ1 ∧ t ρ1 S = .ok true S ∧ ie ρ1 S = .ok (f x) S) → lcL g t ie ρ xs S = .ok (xs.map f) S
  | [], _ => rfl
  | x :: xs, h => by
    obtain ⟨ρ1, e1, e2, e3⟩ := h x (List.mem_cons_self ..)
    rw [lcL_cons_some e1]
    simp [M.bind, nox, e2, e3, lcL_pure f xs fun y hy => h y (List.mem_cons_of_mem _ hy), M.ret]
theorem boolsOf_true {α : Type} : ∀ xs : List α, boolsOf (xs.map fun _ => D.bl true) = some (xs.map fun _ => true)
  | [] => rfl
  | x :: xs => by simp [boolsOf, boolsOf_true xs]
theorem all_true {α : Type} {xs : List α} {S : Store} : allD [.lst (xs.map fun _ => D.bl true)] S = some (.bl true) := by
  simp [allD, seqA, seqR, seqL, boolsOf_true]
theorem leI_int {a b : Int} {S : Store} : leI (.int a) (.int b) S = some (.bl (decide (a ≤ b))) := by simp [leI, opI0]
theorem geI_int {a b : Int} {S : Store} : geI (.int a) (.int b) S = some (.bl (decide (b ≤ a))) := by simp [geI, opI0]
theorem ltI_int {a b : Int} {S : Store} : ltI (.int a) (.int b) S = some (.bl (decide (a < b))) := by simp [ltI, opI0]
theorem isi_b {cs : List Nat} {tb : List (Tg × Tg × Bool)} {x : D} {n t : String} {S : Store} {b : Bool} (ht : tagD x S = some (.b t)) (h : L2.kitB t n = some b) : isiD cs tb [x, .ty n] S = some (.bl b) := by
  simp [isiD, ht, clsOf, okTg, isiT, h]
theorem kit_ss : L2.kitB "str" "str" = some true := by decide +kernel
theorem kit_ii : L2.kitB "int" "int" = some true := by decide +kernel
theorem kit_ib : L2.kitB "int" "bool" = some false := by decide +kernel
section
variable (cs : List Nat) (tb : List (Tg × Tg × Bool))
def al1 : IS := sIf (iOr (iNot (iTst (iCB (isiD cs tb) (iCons (iVar 0) (iCons (iC (.ty "str")) iNil))))) (iNot (iTst (iChain leI leI (iC (.int 2)) (iCB lenD (iCons (iVar 0) iNil)) (iC (.int 26)))))) (sRet (iC (.bl false))) sNext
def al2 : IS := sAsg 1 (iLc (iItems (iVar 0)) (.n 2) iYes (iBM .s strFind (iC (.str abc)) (iCons (iVar 2) iNil)) [2])
def al3 : IS := sRet (iAndV (iOp geI (iOp ixD (iVar 1) (iC (.int 0))) (iC (.int 0))) (iCB allD (iCons (iLc (iZip (iCons (iVar 1) (iCons (iSl slD (iVar 1) (iPart (iC (.int 1))) iNoPart) iNil))) (.t [3, 4]) iYes (iOp ltI (iVar 3) (iVar 4)) [3, 4]) iNil)))
def isAre : IS := sSeq (al1 cs tb) (sSeq al2 al3)
def dAre : List D → M D := defJ 5 false (isAre cs tb)
def isInt : IS := sRet (iAndV (iCB (isiD cs tb) (iCons (iVar 0) (iCons (iC (.ty "int")) iNil))) (iNotV (iTst (iCB (isiD cs tb) (iCons (iVar 0) (iCons (iC (.ty "bool")) iNil))))))
def dInt : List D → M D := defJ 1 false (isInt cs tb)
theorem int_ok {i : Int} {S : Store} : dInt cs tb [.int i] S = .ok (.bl true) (S.trim S.next) := by
  have h1 := isi_b (cs := cs) (tb := tb) (x := .int i) (S := S) (t := "int") rfl kit_ii
  have h2 := isi_b (cs := cs) (tb := tb) (x := .int i) (S := S) (t := "int") rfl kit_ib
  unfold dInt defJ isInt startR
  simp [sSeq, sSetI, sSetIN, sBind, iOp, M.bind, lift, iVar, iC, M.ret, sIf, iTst, isB, iCB, iCons, iNil, sRet, sNext, sAsg, sExpr, sPar, sPar3, iCall, iIf, iOr, iAnd, iNot, iNotV, iAndV, iOrV, M.no, iLstM, iLst, iTup, sAsgG, ngD, nsD, iSl, iPart, iNoPart, iBM, iCM, iYes, h1, h2]
theorem fst_abc {c : Nat} (h : 97 ≤ c ∧ c ≤ 122) : fstAt c abc = some (c - 97) := by
  obtain ⟨d, rfl⟩ : ∃ d, c = 97 + d := ⟨c - 97, by omega⟩
  have hd : d < 26 := by omega
  have all : ∀ d < 26, fstAt (97 + d) abc = some (97 + d - 97) := by decide
  exact all d hd
def plc (l : List Nat) : List D := l.map fun (c : Nat) => D.int ((c : Int) - 97)
theorem zip_up : ∀ l : List Nat, l.Pairwise (· < ·) → ∀ x ∈ zipD (plc l) ((plc l).drop 1), ∃ a b : Int, x = .tup [.int a, .int b] ∧ a < b
  | [], _, x, hx => by simp [plc, zipD] at hx
  | [c], _, x, hx => by simp [plc, zipD] at hx
  | c :: d :: r, h, x, hx => by
    have ⟨h1, h2⟩ := List.pairwise_cons.mp h
    have hx' : x = .tup [.int ((c : Int) - 97), .int ((d : Int) - 97)] ∨ x ∈ zipD (plc (d :: r)) ((plc (d :: r)).drop 1) := by
      simpa [plc, zipD] using hx
    rcases hx' with e | e
    · have := h1 d (List.mem_cons_self ..)
      exact ⟨_, _, e, by omega⟩
    · exact zip_up (d :: r) h2 x e
theorem are_ok {l : List Nat} {S : Store} (h : Sg l) (h2 : 2 ≤ l.length) : dAre cs tb [.str l] S = .ok (.bl true) (S.trim S.next) := by
  have l26 := h.len
  have l1 : l.length ≤ 100000 := by omega
  have hs := isi_b (cs := cs) (tb := tb) (x := .str l) (S := S) (t := "str") rfl kit_ss
  have a1 : al1 cs tb [some (.str l), none, none, none, none] S = .ok (.nx [some (.str l), none, none, none, none]) S := by
    have z1 : (2 : Int) ≤ (l.length : Int) := by omega
    have z2 : (l.length : Int) ≤ 26 := by omega
    unfold al1
    simp [sSeq, sSetI, sSetIN, sBind, iOp, M.bind, lift, iVar, iC, M.ret, sIf, iTst, isB, iCB, iCons, iNil, sRet, sNext, sAsg, sExpr, sPar, sPar3, iCall, iIf, iOr, iAnd, iNot, iNotV, iAndV, iOrV, M.no, iLstM, iLst, iTup, sAsgG, ngD, nsD, iSl, iPart, iNoPart, iBM, iCM, iYes, hs, iChain, lenD_str l1, leI_int, z1, z2]
  have a2 : al2 [some (.str l), none, none, none, none] S = .ok (.nx [some (.str l), some (.lst (plc l)), none, none, none]) S := by
    have lc : lcL (.n 2) iYes (iBM .s strFind (iC (.str abc)) (iCons (iVar 2) iNil)) [some (.str l), none, none, none, none] (l.map fun c => .str [c]) S = .ok ((l.map fun c => D.str [c]).map fun x => match x with | .str [c] => .int ((c : Int) - 97) | _ => .non) S := by
      refine lcL_pure _ _ fun x hx => ?_
      obtain ⟨c, hc, rfl⟩ := List.mem_map.mp hx
      have hf := fst_abc (h.abc c hc)
      refine ⟨_, rfl, rfl, ?_⟩
      have sf : strFind (.str abc) [.str [c]] S = .ok (.int ((c : Int) - 97)) S := by
        unfold strFind
        simp only [hf, M.ret]
        have := h.abc c hc
        congr 2
        omega
      simp [sSeq, sSetI, sSetIN, sBind, iOp, M.bind, lift, iVar, iC, M.ret, sIf, iTst, isB, iCB, iCons, iNil, sRet, sNext, sAsg, sExpr, sPar, sPar3, iCall, iIf, iOr, iAnd, iNot, iNotV, iAndV, iOrV, M.no, iLstM, iLst, iTup, sAsgG, ngD, nsD, iSl, iPart, iNoPart, iBM, iCM, iYes, kindIs, sf]
    have e : (l.map fun c => D.str [c]).map (fun x => match x with | .str [c] => D.int ((c : Int) - 97) | _ => .non) = plc l := by
      rw [List.map_map]
      rfl
    rw [e] at lc
    have hlen : l.length < 100000 := by omega
    unfold al2
    simp [sSeq, sSetI, sSetIN, sBind, iOp, M.bind, lift, iVar, iC, M.ret, sIf, iTst, isB, iCB, iCons, iNil, sRet, sNext, sAsg, sExpr, sPar, sPar3, iCall, iIf, iOr, iAnd, iNot, iNotV, iAndV, iOrV, M.no, iLstM, iLst, iTup, sAsgG, ngD, nsD, iSl, iPart, iNoPart, iBM, iCM, iYes, iLc, iItems, items, wipeR, lc, hlen]
  have a3 : al3 [some (.str l), some (.lst (plc l)), none, none, none] S = .ok (.rt (.bl true)) S := by
    have hz := zip_up l h.up
    have lc : lcL (.t [3, 4]) iYes (iOp ltI (iVar 3) (iVar 4)) [some (.str l), some (.lst (plc l)), none, none, none] (zipD (plc l) ((plc l).drop 1)) S = .ok ((zipD (plc l) ((plc l).drop 1)).map fun _ => D.bl true) S := by
      refine lcL_pure _ _ fun x hx => ?_
      obtain ⟨a, b, rfl, hab⟩ := hz x hx
      refine ⟨_, rfl, rfl, ?_⟩
      simp [sSeq, sSetI, sSetIN, sBind, iOp, M.bind, lift, iVar, iC, M.ret, sIf, iTst, isB, iCB, iCons, iNil, sRet, sNext, sAsg, sExpr, sPar, sPar3, iCall, iIf, iOr, iAnd, iNot, iNotV, iAndV, iOrV, M.no, iLstM, iLst, iTup, sAsgG, ngD, nsD, iSl, iPart, iNoPart, iBM, iCM, iYes, ltI_int, hab]
    have hlen : (zipD (plc l) ((plc l).drop 1)).length < 100000 := by
      rw [zipD_len]
      simp [plc]
      omega
    obtain ⟨c, r, rfl⟩ : ∃ c r, l = c :: r := by
      cases l with
      | nil => simp at h2
      | cons c r => exact ⟨c, r, rfl⟩
    have hc := h.abc c (List.mem_cons_self ..)
    have h0 : ixD (.lst (plc (c :: r))) (.int 0) S = some (.int ((c : Int) - 97)) := by
      simp [ixD, op2, ixL, seqR, seqL, L2.atI, L2.ixN, plc]
    have hge : (0 : Int) ≤ (c : Int) - 97 := by omega
    have sl : slD (.lst (plc (c :: r))) (some 1) none S = some (.lst ((plc (c :: r)).drop 1)) := by
      have := cut_drop (plc (c :: r)) 1
      simp only [slD, opc2, slL, seqR, seqL, Option.some_or]
      rw [← this]
      rfl
    unfold al3
    simp only [sSeq, sSetI, sSetIN, sBind, iOp, M.bind, lift, iVar, iC, M.ret, sIf, iTst, isB, iCB, iCons, iNil, sRet, sNext, sAsg, sExpr, sPar, sPar3, iCall, iIf, iOr, iAnd, iNot, iNotV, iAndV, iOrV, M.no, iLstM, iLst, iTup, sAsgG, ngD, nsD, iSl, iPart, iNoPart, iBM, iCM, iYes, List.getD_cons_zero, List.getD_cons_succ, h0, geI_int, hge, decide_true, if_true, iLc, iZip, sl, zipOf, wipeR, List.set_cons_zero, List.set_cons_succ, lc, hlen, all_true]
  show defJ 5 false (isAre cs tb) _ S = _
  unfold defJ isAre
  have e0 : startR 5 [.str l] = [some (.str l), none, none, none, none] := rfl
  rw [e0, sSeq_nx a1, sSeq_nx a2, a3]
  rfl
end
end J
set_option Elab.async false
set_option linter.all false
set_option maxRecDepth 100000
set_option maxHeartbeats 1010000
/-! PF: plain laws: boards made, asked -/
namespace J
section
variable (T : Tab) (cs : List Nat) (tb : List (Tg × Tg × Bool))
def in1 : IS := sIf (iNot (iTst (iCall 1 (dAre cs tb) (iCons (iVar 1) iNil)))) sNever sNext
def in2 : IS := sIf (iOr (iNot (iTst (iCall 1 (dInt cs tb) (iCons (iVar 2) iNil)))) (iNot (iTst (iChain leI leI (iC (.int 1)) (iVar 2) (iC (.int 6)))))) sNever sNext
def in3 : IS := sSetA T [0] 0 (iVar 1) (iVar 0)
def in4 : IS := sSetA T [0] 1 (iVar 2) (iVar 0)
def isInit : IS := sSeq (in1 cs tb) (sSeq (in2 cs tb) (sSeq (in3 T) (in4 T)))
def dInit : List D → M D := defJ 3 true (isInit T cs tb)
theorem init_ok {S : Store} {m : Nat} {l : List Nat} {k : Int} (hm : S.get m = some (.ins 0 [])) (hlt : m < S.next) (h : Sg l) (h2 : 2 ≤ l.length) (k1 : 1 ≤ k) (k2 : k ≤ 6) :
    ∃ S', dInit T cs tb [.ref m, .str l, .int k] S = .ok .non S' ∧ S'.get m = some (.ins 0 [(0, .str l), (1, .int k)]) ∧ Kp m S S' := by
  have a := are_ok cs tb (S := S) h h2
  have b := int_ok cs tb (S := S.trim S.next) (i := k)
  have n1 : (S.trim S.next).next = S.next := rfl
  have g1 : ((S.trim S.next).trim S.next).get m = some (.ins 0 []) := by
    rw [Store.get_trim, if_pos hlt, Store.get_trim, if_pos hlt]
    exact hm
  have e1 : in1 cs tb [some (.ref m), some (.str l), some (.int k)] S = .ok (.nx [some (.ref m), some (.str l), some (.int k)]) (S.trim S.next) := by
    unfold in1
    simp [sSeq, sSetI, sSetIN, sBind, iOp, M.bind, lift, iVar, iC, M.ret, sIf, iTst, isB, iCB, iCons, iNil, sRet, sNext, sAsg, sExpr, sPar, sPar3, iCall, iIf, iOr, iAnd, iNot, iNotV, iAndV, iOrV, M.no, iLstM, iLst, iTup, sAsgG, ngD, nsD, iSl, iPart, iNoPart, iBM, iCM, iYes, a]
  have e2 : in2 cs tb [some (.ref m), some (.str l), some (.int k)] (S.trim S.next) = .ok (.nx [some (.ref m), some (.str l), some (.int k)]) ((S.trim S.next).trim S.next) := by
    rw [n1] at b
    unfold in2
    simp [sSeq, sSetI, sSetIN, sBind, iOp, M.bind, lift, iVar, iC, M.ret, sIf, iTst, isB, iCB, iCons, iNil, sRet, sNext, sAsg, sExpr, sPar, sPar3, iCall, iIf, iOr, iAnd, iNot, iNotV, iAndV, iOrV, M.no, iLstM, iLst, iTup, sAsgG, ngD, nsD, iSl, iPart, iNoPart, iBM, iCM, iYes, b, iChain, leI_int, k1, k2]
  have e3 : in3 T [some (.ref m), some (.str l), some (.int k)] ((S.trim S.next).trim S.next) = .ok (.nx [some (.ref m), some (.str l), some (.int k)]) (((S.trim S.next).trim S.next).set m (.ins 0 [(0, .str l)])) := by
    unfold in3 sSetA
    simp [sSeq, sSetI, sSetIN, sBind, iOp, M.bind, lift, iVar, iC, M.ret, sIf, iTst, isB, iCB, iCons, iNil, sRet, sNext, sAsg, sExpr, sPar, sPar3, iCall, iIf, iOr, iAnd, iNot, iNotV, iAndV, iOrV, M.no, iLstM, iLst, iTup, sAsgG, ngD, nsD, iSl, iPart, iNoPart, iBM, iCM, iYes, g1, putD]
  have e4 : in4 T [some (.ref m), some (.str l), some (.int k)] (((S.trim S.next).trim S.next).set m (.ins 0 [(0, .str l)])) = .ok (.nx [some (.ref m), some (.str l), some (.int k)]) ((((S.trim S.next).trim S.next).set m (.ins 0 [(0, .str l)])).set m (.ins 0 [(0, .str l), (1, .int k)])) := by
    unfold in4 sSetA
    simp [sSeq, sSetI, sSetIN, sBind, iOp, M.bind, lift, iVar, iC, M.ret, sIf, iTst, isB, iCB, iCons, iNil, sRet, sNext, sAsg, sExpr, sPar, sPar3, iCall, iIf, iOr, iAnd, iNot, iNotV, iAndV, iOrV, M.no, iLstM, iLst, iTup, sAsgG, ngD, nsD, iSl, iPart, iNoPart, iBM, iCM, iYes, putD]
  refine ⟨(((S.trim S.next).trim S.next).set m (.ins 0 [(0, .str l)])).set m (.ins 0 [(0, .str l), (1, .int k)]), ?_, Store.get_set_self .., ?_⟩
  · show defJ 3 true (isInit T cs tb) _ S = _
    unfold defJ isInit
    have e0 : startR 3 [.ref m, .str l, .int k] = [some (.ref m), some (.str l), some (.int k)] := rfl
    rw [e0, sSeq_nx e1, sSeq_nx e2, sSeq_nx e3, e4]
    rfl
  · have q1 : Kq S (S.trim S.next) := kq_trim (Kq.refl S)
    have q2 : Kq (S.trim S.next) ((S.trim S.next).trim S.next) := kq_trim (Kq.refl _)
    exact (q1.trans q2).kp.trans (kp_set.trans kp_set)
theorem make_ok (hT : T.fs 0 = [0, 1]) {S : Store} {l : List Nat} {k : Int} (h : Sg l) (h2 : 2 ≤ l.length) (k1 : 1 ≤ k) (k2 : k ≤ 6) :
    ∃ S', makeD T true 0 3 (dInit T cs tb) [.str l, .int k] S = .ok (.ins 0 [.str l, .int k]) S' ∧ Kq S S' := by
  obtain ⟨S1, e, g, kp⟩ := init_ok T cs tb (S := S.alloc (.ins 0 [])) (m := S.next) (Store.get_alloc_self ..) (Nat.lt_succ_self _) h h2 k1 k2
  refine ⟨S1.del S.next, ?_, ?_⟩
  · unfold makeD
    simp [e, madeD, g, hT]
  · refine ⟨Nat.le_trans (Nat.le_succ _) kp.next, fun m hm => ?_⟩
    rw [Store.get_del, if_neg (Nat.ne_of_lt hm), kp.get m (Nat.lt_succ_of_lt hm) (Nat.ne_of_lt hm)]
    exact Store.get_alloc_ne _ _ (Nat.ne_of_lt hm)
/-- a board -/
abbrev bd (l : List Nat) (k : Int) : D := .ins 0 [.str l, .int k]
theorem ins_bd (hT : T.fs 0 = [0, 1]) {l : List Nat} {k : Int} {S : Store} : insOf T (bd l k) S = some (0, [(0, .str l), (1, .int k)]) := by
  simp [insOf, hT]
theorem fld0 (hT : T.fs 0 = [0, 1]) {ie : IE} {ρ : Rho} {S S' : Store} {l : List Nat} {k : Int} (h : ie ρ S = .ok (bd l k) S') : iFld T [0] 0 ie ρ S = .ok (.str l) S' := by
  unfold iFld M.bind
  simp only [h, ins_bd T hT]
  simp [lift, getF]
theorem fld1 (hT : T.fs 0 = [0, 1]) {ie : IE} {ρ : Rho} {S S' : Store} {l : List Nat} {k : Int} (h : ie ρ S = .ok (bd l k) S') : iFld T [0] 1 ie ρ S = .ok (.int k) S' := by
  unfold iFld M.bind
  simp only [h, ins_bd T hT]
  simp [lift, getF]
/-! size -/
def sz1b : IS := sAug 1 mulI (iCB lenD (iCons (iFld T [0] 0 (iVar 0)) iNil))
def sz1 : IS := sFor (iRange range1 (iCons (iFld T [0] 1 (iVar 0)) iNil)) (.n 2) (sz1b T)
def isSize : IS := sSeq (sAsg 1 (iC (.int 1))) (sSeq (sz1 T) (sRet (iVar 1)))
def dSize : List D → M D := defJ 3 false (isSize T)
theorem mulI_int {a b : Int} {S : Store} (h : 0 ≤ b ∧ b ≤ 1000) : mulI (.int a) (.int b) S = some (.int (a * b)) := by
  have z : (decide (-(2 ^ 64) < a ∧ a < 2 ^ 64) || decide (-(2 ^ 64) < b ∧ b < 2 ^ 64)) = true := by
    rw [Bool.or_eq_true]
    exact .inr (decide_eq_true ⟨by omega, by omega⟩)
  unfold mulI opI
  dsimp only
  rw [if_pos z]
theorem size_turn (hT : T.fs 0 = [0, 1]) {S1 : Store} {l : List Nat} {k : Nat} {c : Int} {x : D} (hl : l.length ≤ 26) : sz1b T [some (bd l k), some (.int c), some x] S1 = .ok (.nx [some (bd l k), some (.int (c * (l.length : Int))), some x]) S1 := by
  have l1 : l.length ≤ 100000 := by omega
  have f0 : iFld T [0] 0 (iVar 0) [some (bd l k), some (.int c), some x] S1 = .ok (.str l) S1 := fld0 T hT rfl
  have ar : iCB lenD (iCons (iFld T [0] 0 (iVar 0)) iNil) [some (bd l k), some (.int c), some x] S1 = .ok (.int (l.length : Int)) S1 := by
    simp [sSeq, sSetI, sSetIN, sBind, iOp, M.bind, lift, iVar, iC, M.ret, sIf, iTst, isB, iCB, iCons, iNil, sRet, sNext, sAsg, sExpr, sPar, sPar3, iCall, iIf, iOr, iAnd, iNot, iNotV, iAndV, iOrV, M.no, iLstM, iLst, iTup, sAsgG, ngD, nsD, iSl, iPart, iNoPart, iBM, iCM, iYes, f0, lenD_str l1]
  have mi : mulI (.int c) (.int (l.length : Int)) S1 = some (.int (c * (l.length : Int))) := mulI_int ⟨by omega, by omega⟩
  unfold sz1b sAug
  simp only [List.getD_cons_succ, List.getD_cons_zero, sBind, ar, mi]
  rfl
theorem size_loop (hT : T.fs 0 = [0, 1]) {S : Store} {l : List Nat} {k : Nat} (hl : l.length ≤ 26) : ∃ t, forL (.n 2) (sz1b T) (rng 0 k) [some (bd l k), some (.int 1), none] S = .ok (.nx [some (bd l k), some (.int ((l.length : Int) ^ k)), t]) S := by
  have key := forL_inv (g := .n 2) (body := sz1b T) (fun j ρ S' => S' = S ∧ ∃ t c, c = (l.length : Int) ^ j ∧ ρ = [some (bd l k), some (.int c), t]) (rng 0 k) 0 [some (bd l k), some (.int 1), none] S ⟨rfl, none, 1, by simp, rfl⟩ (by
    intro j x ρ S1 hx hI
    obtain ⟨rfl, t, c, hc, rfl⟩ := hI
    exact ⟨[some (bd l k), some (.int c), some x], _, S1, rfl, size_turn T hT hl, rfl, some x, c * (l.length : Int), by rw [hc, Int.pow_succ], rfl⟩)
  obtain ⟨ρ', S', e, rfl, t, c, hc, rfl⟩ := key
  have len : 0 + (rng 0 k).length = k := by simp [rng]
  rw [len] at hc
  exact ⟨t, by rw [e, hc]⟩
theorem size_ok (hT : T.fs 0 = [0, 1]) {S : Store} {l : List Nat} {k : Nat} (hl : l.length ≤ 26) (hk : k ≤ 6) : dSize T [bd l k] S = .ok (.int ((l.length : Int) ^ k)) (S.trim S.next) := by
  obtain ⟨t, e⟩ := size_loop T hT (S := S) (l := l) (k := k) hl
  have f1 : iFld T [0] 1 (iVar 0) [some (bd l k), some (.int 1), none] S = .ok (.int (k : Int)) S := fld1 T hT rfl
  have e1 : sz1 T [some (bd l k), some (.int 1), none] S = .ok (.nx [some (bd l k), some (.int ((l.length : Int) ^ k)), t]) S := by
    rw [← e]
    have z : -100000 ≤ (k : Int) ∧ (k : Int) ≤ 100000 := by omega
    unfold sz1
    simp [sSeq, sSetI, sSetIN, sBind, iOp, M.bind, lift, iVar, iC, M.ret, sIf, iTst, isB, iCB, iCons, iNil, sRet, sNext, sAsg, sExpr, sPar, sPar3, iCall, iIf, iOr, iAnd, iNot, iNotV, iAndV, iOrV, M.no, iLstM, iLst, iTup, sAsgG, ngD, nsD, iSl, iPart, iNoPart, iBM, iCM, iYes, sFor, iRange, range1, f1, z]
  have a1 : sAsg 1 (iC (.int 1)) [some (bd l k), none, none] S = .ok (.nx [some (bd l k), some (.int 1), none]) S := rfl
  have fin : isSize T [some (bd l k), none, none] S = .ok (.rt (.int ((l.length : Int) ^ k))) S := by
    unfold isSize
    rw [sSeq_nx a1, sSeq_nx e1]
    simp [sSeq, sSetI, sSetIN, sBind, iOp, M.bind, lift, iVar, iC, M.ret, sIf, iTst, isB, iCB, iCons, iNil, sRet, sNext, sAsg, sExpr, sPar, sPar3, iCall, iIf, iOr, iAnd, iNot, iNotV, iAndV, iOrV, M.no, iLstM, iLst, iTup, sAsgG, ngD, nsD, iSl, iPart, iNoPart, iBM, iCM, iYes]
  unfold dSize defJ
  have e0 : startR 3 [bd l k] = [some (bd l k), none, none] := rfl
  rw [e0, fin]
  simp
/-! str, repr -/
theorem dig_one {k : Nat} (h1 : 1 ≤ k) (h2 : k ≤ 6) : digits (k : Int) = [48 + k] := by
  have all : ∀ k : Nat, k ≤ 6 → digits (k : Int) = [48 + k] := by decide
  exact all k h2
theorem fmt_str {ie : IE} {ρ : Rho} {S S' : Store} {l : List Nat} (h : ie ρ S = .ok (.str l) S') (hl : l.length ≤ 100000) : iFmt ie ρ S = .ok (.str l) S' := by
  unfold iFmt M.bind
  simp [h, fmtOf, hl, lift]
theorem fmt_int {ie : IE} {ρ : Rho} {S S' : Store} {i : Int} (h : ie ρ S = .ok (.int i) S') (hl : i.natAbs.log2 < 1920) : iFmt ie ρ S = .ok (.str (digits i)) S' := by
  unfold iFmt M.bind
  simp [h, fmtOf, hl, lift]
theorem log_small {k : Nat} (h : k ≤ 6) : (k : Int).natAbs.log2 < 1920 := by
  have : k.log2 ≤ k := Nat.log2_le_self k
  simp only [Int.natAbs_natCast]
  omega
def isStr : IS := sRet (iJoin [iFmt (iFld T [0] 0 (iVar 0)), iC (.str [32]), iFmt (iFld T [0] 1 (iVar 0))])
def dStr : List D → M D := defJ 1 false (isStr T)
theorem str_ok (hT : T.fs 0 = [0, 1]) {S : Store} {l : List Nat} {k : Nat} (hl : l.length ≤ 26) (h1 : 1 ≤ k) (hk : k ≤ 6) : dStr T [bd l k] S = .ok (.str (l ++ [32, 48 + k])) (S.trim S.next) := by
  have f0 : iFmt (iFld T [0] 0 (iVar 0)) [some (bd l k)] S = .ok (.str l) S := fmt_str (fld0 T hT rfl) (by omega)
  have f1 : iFmt (iFld T [0] 1 (iVar 0)) [some (bd l k)] S = .ok (.str [48 + k]) S := by
    rw [← dig_one h1 hk]
    exact fmt_int (fld1 T hT rfl) (log_small hk)
  have z1 : l.length ≤ 100000 := by omega
  have z2 : l.length + 1 ≤ 100000 := by omega
  have z3 : l.length + 1 + 1 ≤ 100000 := by omega
  unfold dStr defJ isStr startR
  simp [sRet, sBind, iJoin, joinF, M.bind, M.ret, iC, f0, f1, z1, z2, z3, List.append_assoc]
end
end J
set_option Elab.async false
set_option linter.all false
set_option maxRecDepth 100000
set_option maxHeartbeats 1010000
/-! PG: plain laws: boards compared -/
namespace J
section
variable (T : Tab) (cs : List Nat) (tb : List (Tg × Tg × Bool))
theorem eqD_str {a b : List Nat} {S : Store} : eqD (.str a) (.str b) S = some (.bl (decide (a = b))) := by simp [eqD, op2, eqS]
theorem eqD_int {a b : Int} {S : Store} : eqD (.int a) (.int b) S = some (.bl (decide (a = b))) := by simp [eqD, op2, eqS]
end
theorem ok_cps {l : List Nat} (h : ∀ c ∈ l, c < 1114112) : PySem.PyData.strOk ⟨l.toArray⟩ = true := by
  unfold PySem.PyData.strOk
  simp only [Array.all_eq_true, decide_eq_true_eq]
  intro i hi
  exact h _ (List.getElem_mem _)
end J
set_option Elab.async false
set_option linter.all false
set_option maxRecDepth 100000
set_option maxHeartbeats 1010000
/-! PH: plain laws: one of several, words -/
namespace J
def isOf : IS := (sRet (iOp ixD (iVar 1) (iCall 2 dDip (iCons (iVar 0) (iCons (iCB lenD (iCons (iVar 1) iNil)) iNil)))))
def dOf : List D → M D := defJ 2 false isOf
theorem of_str {S : Store} {n : Nat} {l : List Nat} (b : Bw S n) (h : 0 < l.length) (h2 : l.length ≤ 1000) : ∃ c S', dOf [.ref n, .str l] S = .ok (.str [c]) S' ∧ c ∈ l ∧ Bw S' n ∧ Kp n S S' := by
  obtain ⟨r, S1, e1, r0, r1, b1, k1⟩ := dip_ok (k := (l.length : Int)) b (by omega) (by omega)
  obtain ⟨q, rfl⟩ := Int.eq_ofNat_of_zero_le r0
  have hq : q < l.length := by omega
  have hn := b.1
  refine ⟨l[q], S1.trim S.next, ?_, List.getElem_mem _, bw_trim b1 hn, kp_trim k1⟩
  unfold dOf defJ isOf startR
  simp [sSeq, sSetI, sSetIN, sBind, iOp, M.bind, lift, iVar, iC, M.ret, sIf, iTst, isB, iCB, iCons, iNil, sRet, sNext, sAsg, sExpr, sPar, sPar3, iCall, iIf, iOr, iAnd, iNot, iNotV, iAndV, iOrV, M.no, iLstM, iLst, iTup, sAsgG, ngD, nsD, iSl, iPart, iNoPart, iBM, iCM, iYes, lenD_str (show l.length ≤ 100000 by omega), e1, ixD_str hq (show l.length ≤ 100000 by omega)]
theorem ixD_lst {xs : List D} {i : Nat} {S : Store} (h : i < xs.length) : ixD (.lst xs) (.int (i : Int)) S = some xs[i] := by
  simp [ixD, op2, ixL, seqR, seqL, L2.atI, L2.ixN, h]
theorem lenD_lst {xs : List D} {S : Store} (h : xs.length ≤ 100000) : lenD [.lst xs] S = some (.int xs.length) := by
  simp [lenD, h, seqA, seqR, seqL]
theorem of_lst {S : Store} {n : Nat} {xs : List D} (b : Bw S n) (h : 0 < xs.length) (h2 : xs.length ≤ 1000) : ∃ d S', dOf [.ref n, .lst xs] S = .ok d S' ∧ d ∈ xs ∧ Bw S' n ∧ Kp n S S' := by
  obtain ⟨r, S1, e1, r0, r1, b1, k1⟩ := dip_ok (k := (xs.length : Int)) b (by omega) (by omega)
  obtain ⟨q, rfl⟩ := Int.eq_ofNat_of_zero_le r0
  have hq : q < xs.length := by omega
  have hn := b.1
  refine ⟨xs[q], S1.trim S.next, ?_, List.getElem_mem _, bw_trim b1 hn, kp_trim k1⟩
  unfold dOf defJ isOf startR
  simp [sSeq, sSetI, sSetIN, sBind, iOp, M.bind, lift, iVar, iC, M.ret, sIf, iTst, isB, iCB, iCons, iNil, sRet, sNext, sAsg, sExpr, sPar, sPar3, iCall, iIf, iOr, iAnd, iNot, iNotV, iAndV, iOrV, M.no, iLstM, iLst, iTup, sAsgG, ngD, nsD, iSl, iPart, iNoPart, iBM, iCM, iYes, lenD_lst (show xs.length ≤ 100000 by omega), e1, ixD_lst hq]
theorem chars_of : ∀ {rs : List D} {l : List Nat}, (∀ d ∈ rs, ∃ c ∈ l, d = .str [c]) → ∃ w : List Nat, rs = w.map (fun c => .str [c]) ∧ ∀ c ∈ w, c ∈ l
  | [], l, _ => ⟨[], rfl, by simp⟩
  | d :: rs, l, h => by
    obtain ⟨c, hc, rfl⟩ := h d (List.mem_cons_self ..)
    obtain ⟨w, rfl, hw⟩ := chars_of (rs := rs) (l := l) fun x hx => h x (List.mem_cons_of_mem _ hx)
    exact ⟨c :: w, rfl, fun x hx => by rcases List.mem_cons.mp hx with z | z; exact z ▸ hc; exact hw x z⟩
theorem join_chars {w : List Nat} {S : Store} (h : w.length ≤ 1000) : strJoin (.str []) [.lst (w.map fun c => .str [c])] S = .ok (.str w) S := by
  have e : (w.map fun c => [c]).all (fun y => decide (y.length ≤ 1000)) = true := by simp
  simp [strJoin, seqA, seqR, seqL, strsOf_one, h, e, joinL, joinL_nil, flat_one, lift, M.ret]
def wd1 : IS := (sAsg 3 (iVar 1))
def wd2 : IS := (sIf (iTst (iOp eqD (iCall 2 dDip (iCons (iVar 0) (iCons (iC (.int 3)) iNil))) (iC (.int 0)))) (sAsg 3 (iOp addD (iCall 2 dOf (iCons (iVar 0) (iCons (iVar 1) iNil))) (iCall 2 dOf (iCons (iVar 0) (iCons (iVar 1) iNil))))) sNext)
def wd3 : IS := (sRet (iBM .s strJoin (iC (.str [])) (iCons (iLc (iRange range1 (iCons (iVar 2) iNil)) (.n 4) iYes (iCall 2 dOf (iCons (iVar 0) (iCons (iVar 3) iNil))) [4]) iNil)))
def isWord : IS := sSeq wd1 (sSeq wd2 wd3)
def dWord : List D → M D := defJ 5 false isWord
theorem rng_len (a : Int) (n : Nat) : (rng a n).length = n := by simp [rng]
theorem word_ok {S : Store} {n : Nat} {l : List Nat} {k : Nat} (b : Bw S n) (h : 0 < l.length) (h2 : l.length ≤ 500) (hk : k ≤ 500) : ∃ w S', dWord [.ref n, .str l, .int (k : Int)] S = .ok (.str w) S' ∧ w.length = k ∧ (∀ c ∈ w, c ∈ l) ∧ Bw S' n ∧ Kp n S S' := by
  have hn := b.1
  have e1 : wd1 [some (.ref n), some (.str l), some (.int (k : Int)), none, none] S = .ok (.nx [some (.ref n), some (.str l), some (.int (k : Int)), some (.str l), none]) S := by
    simp [sSeq, sSetI, sSetIN, sBind, iOp, M.bind, lift, iVar, iC, M.ret, sIf, iTst, isB, iCB, iCons, iNil, sRet, sNext, sAsg, sExpr, sPar, sPar3, iCall, iIf, iOr, iAnd, iNot, iNotV, iAndV, iOrV, M.no, iLstM, iLst, iTup, sAsgG, ngD, nsD, iSl, iPart, iNoPart, iBM, iCM, iYes, wd1]
  have e2 : ∃ m S1, wd2 [some (.ref n), some (.str l), some (.int (k : Int)), some (.str l), none] S = .ok (.nx [some (.ref n), some (.str l), some (.int (k : Int)), some (.str m), none]) S1 ∧ 0 < m.length ∧ m.length ≤ 500 ∧ (∀ c ∈ m, c ∈ l) ∧ Bw S1 n ∧ Kp n S S1 := by
    obtain ⟨r, S1, d1, r0, r1, b1, k1⟩ := dip_ok (k := 3) b (by omega) (by omega)
    by_cases hr : r = 0
    · obtain ⟨c, S2, d2, hc, b2, k2⟩ := of_str b1 h (by omega)
      obtain ⟨d, S3, d3, hd, b3, k3⟩ := of_str b2 h (by omega)
      refine ⟨[c, d], S3, ?_, by simp, by simp, by simp [hc, hd], b3, (k1.trans k2).trans k3⟩
      simp [sSeq, sSetI, sSetIN, sBind, iOp, M.bind, lift, iVar, iC, M.ret, sIf, iTst, isB, iCB, iCons, iNil, sRet, sNext, sAsg, sExpr, sPar, sPar3, iCall, iIf, iOr, iAnd, iNot, iNotV, iAndV, iOrV, M.no, iLstM, iLst, iTup, sAsgG, ngD, nsD, iSl, iPart, iNoPart, iBM, iCM, iYes, wd2, d1, d2, d3, hr, eqD_int, addD_str]
    · refine ⟨l, S1, ?_, h, h2, fun c hc => hc, b1, k1⟩
      simp [sSeq, sSetI, sSetIN, sBind, iOp, M.bind, lift, iVar, iC, M.ret, sIf, iTst, isB, iCB, iCons, iNil, sRet, sNext, sAsg, sExpr, sPar, sPar3, iCall, iIf, iOr, iAnd, iNot, iNotV, iAndV, iOrV, M.no, iLstM, iLst, iTup, sAsgG, ngD, nsD, iSl, iPart, iNoPart, iBM, iCM, iYes, wd2, d1, hr, eqD_int]
  obtain ⟨m, S1, e2, m0, m1, hm, b1, k1⟩ := e2
  have key := lcL_inv (g := .n 4) (t := iYes) (ie := iCall 2 dOf (iCons (iVar 0) (iCons (iVar 3) iNil))) (ρ := [some (.ref n), some (.str l), some (.int (k : Int)), some (.str m), none]) (fun _ S' => Bw S' n ∧ Kp n S S') (fun _ d => ∃ c ∈ m, d = .str [c]) (rng 0 k) 0 S1 ⟨b1, k1⟩ (by
    rintro j x S2 hx ⟨b2, k2⟩
    obtain ⟨c, S3, d3, hc, b3, k3⟩ := of_str b2 m0 (by omega)
    refine ⟨_, .str [c], S2, S3, rfl, rfl, ?_, ⟨c, hc, rfl⟩, b3, k2.trans k3⟩
    simp [sSeq, sSetI, sSetIN, sBind, iOp, M.bind, lift, iVar, iC, M.ret, sIf, iTst, isB, iCB, iCons, iNil, sRet, sNext, sAsg, sExpr, sPar, sPar3, iCall, iIf, iOr, iAnd, iNot, iNotV, iAndV, iOrV, M.no, iLstM, iLst, iTup, sAsgG, ngD, nsD, iSl, iPart, iNoPart, iBM, iCM, iYes, d3])
  obtain ⟨rs, S2, e3, l3, p3, b2, k2⟩ := key
  obtain ⟨w, rfl, hw⟩ := chars_of (rs := rs) (l := m) fun d hd => by
    obtain ⟨j, hj⟩ := List.mem_iff_getElem?.mp hd
    exact p3 j d hj
  rw [List.length_map, rng_len] at l3
  refine ⟨w, S2.trim S.next, ?_, l3, fun c hc => hm c (hw c hc), bw_trim b2 hn, kp_trim k2⟩
  have er : range1 [.int (k : Int)] = some (rng 0 k) := by
    have z1 : (-100000 : Int) ≤ (k : Int) := by omega
    have z2 : (k : Int) ≤ 100000 := by omega
    simp [range1, z1, z2]
  have e4 : wd3 [some (.ref n), some (.str l), some (.int (k : Int)), some (.str m), none] S1 = .ok (.rt (.str w)) S2 := by
    have hl : (rng 0 k).length < 100000 := by rw [rng_len]; omega
    simp [sSeq, sSetI, sSetIN, sBind, iOp, M.bind, lift, iVar, iC, M.ret, sIf, iTst, isB, iCB, iCons, iNil, sRet, sNext, sAsg, sExpr, sPar, sPar3, iCall, iIf, iOr, iAnd, iNot, iNotV, iAndV, iOrV, M.no, iLstM, iLst, iTup, sAsgG, ngD, nsD, iSl, iPart, iNoPart, iBM, iCM, iYes, wd3, iLc, iRange, er, hl, kindIs, wipeR, e3, join_chars (show w.length ≤ 1000 by omega)]
  show defJ 5 false isWord _ S = _
  unfold defJ isWord
  have e0 : startR 5 [.ref n, .str l, .int (k : Int)] = [some (.ref n), some (.str l), some (.int (k : Int)), none, none] := rfl
  rw [e0, sSeq_nx e1, sSeq_nx e2, e4]
  rfl
end J
set_option Elab.async false
set_option linter.all false
set_option maxRecDepth 100000
set_option maxHeartbeats 1010000
/-! PI: plain laws: marks by their definition (the law's own told) -/
namespace J
def gz (l : List Nat) (j : Nat) : Nat := l.getD j 0
def hitN (g w : List Nat) (c : Nat) : Nat := (List.range g.length).countP fun j => decide (gz g j = c) && decide (gz g j = gz w j)
def nearF (g w : List Nat) : Nat → Nat → Nat
  | 0, _ => 0
  | i + 1, c => nearF g w i c + (if gz g i = c ∧ gz g i ≠ gz w i ∧ hitN g w (gz g i) + nearF g w i (gz g i) < w.count (gz g i) then 1 else 0)
def mkF (g w : List Nat) (i : Nat) : Nat := if gz g i = gz w i then 50 else if hitN g w (gz g i) + nearF g w i (gz g i) < w.count (gz g i) then 49 else 48
theorem range1_nat {n : Nat} (h : n ≤ 1000) : range1 [.int (n : Int)] = some (rng 0 n) := by
  have z1 : (-100000 : Int) ≤ (n : Int) := by omega
  have z2 : (n : Int) ≤ 100000 := by omega
  simp [range1, z1, z2]
theorem neD_str {a b : List Nat} {S : Store} : neD (.str a) (.str b) S = some (.bl (!decide (a = b))) := by simp [neD, op2, neS, eqS]
/-! ### told -/
end J
set_option Elab.async false
set_option linter.all false
set_option maxRecDepth 100000
set_option maxHeartbeats 1010000
/-! PJ: plain laws: the program's marks -/
namespace J
def kd (ks : List Nat) (f : Nat → Int) : List (Ky × D) := ks.map fun c => (Ky.s [c], D.int (f c))
theorem lstApp_get {S : Store} {f : Nat} {xs : List D} {y : D} (hf : S.get f = some (.lst xs)) (hl : xs.length < 100000) : lstApp (.ref f) [y] S = .ok .non (S.set f (.lst (xs ++ [y]))) := by
  simp [lstApp, hf, hl]
abbrev mp (g w : List Nat) (i : Nat) : List D := (List.range i).map fun j => .str [mkF g w j]
end J
set_option Elab.async false
set_option linter.all false
set_option maxRecDepth 100000
set_option maxHeartbeats 1010000
/-! PK: plain laws: words, marks, rows, histories -/
namespace J
theorem neD_int {a b : Int} {S : Store} : neD (.int a) (.int b) S = some (.bl (!decide (a = b))) := by simp [neD, op2, neS, eqS]
theorem inD_chr {c : Nat} {l : List Nat} {S : Store} : inD (.str [c]) (.str l) S = some (.bl (decide (c ∈ l))) := by simp [inD, op2, inS]
theorem boolsOf_map {α : Type} (f : α → Bool) : ∀ xs : List α, boolsOf (xs.map fun x => D.bl (f x)) = some (xs.map f)
  | [] => rfl
  | x :: xs => by simp [boolsOf, boolsOf_map f xs]
theorem allD_map {α : Type} {f : α → Bool} {xs : List α} {S : Store} : allD [.lst (xs.map fun x => D.bl (f x))] S = some (.bl (xs.all f)) := by
  simp [allD, seqA, seqR, seqL, boolsOf_map]
theorem lcL_str {t : IT} {ie : IE} {ρ : Rho} {S : Store} {i : Nat} {w : List Nat} (f : Nat → D) (h : ∀ c ∈ w, t (ρ.set i (some (.str [c]))) S = .ok true S ∧ ie (ρ.set i (some (.str [c]))) S = .ok (f c) S) : lcL (.n i) t ie ρ (w.map fun c => .str [c]) S = .ok (w.map f) S := by
  induction w with
  | nil => rfl
  | cons c w ih =>
    obtain ⟨h1, h2⟩ := h c (List.mem_cons_self ..)
    have e : ngD (.n i) (.str [c]) ρ = some (ρ.set i (some (.str [c]))) := rfl
    rw [List.map_cons, lcL_cons_some e]
    simp [M.bind, nox, h1, h2, ih fun d hd => h d (List.mem_cons_of_mem _ hd), M.ret]
section
variable (T : Tab) (cs : List Nat) (tb : List (Tg × Tg × Bool))
def iw1 : IS := (sIf (iOr (iNot (iTst (iCB (isiD cs tb) (iCons (iVar 1) (iCons (iC (.ty "str")) iNil))))) (iTst (iOp neD (iCB lenD (iCons (iVar 1) iNil)) (iFld T [0] 1 (iVar 0))))) (sRet (iC (.bl false))) sNext)
def iw2 : IS := (sRet (iCB allD (iCons (iLc (iItems (iVar 1)) (.n 2) iYes (iOp inD (iVar 2) (iFld T [0] 0 (iVar 0))) [2]) iNil)))
def isIsWord : IS := sSeq (iw1 T cs tb) (iw2 T)
def dIsWord : List D → M D := defJ 3 false (isIsWord T cs tb)
def amE : IE := iOp inD (iVar 2) (iTup (iCons (iC (.str [48])) (iCons (iC (.str [49])) (iCons (iC (.str [50])) iNil))))
def am2 : IS := (sRet (iCB allD (iCons (iLc (iItems (iVar 1)) (.n 2) iYes amE [2]) iNil)))
def isAreMarks : IS := sSeq (iw1 T cs tb) am2
def dAreMarks : List D → M D := defJ 3 false (isAreMarks T cs tb)
theorem iw1_ok (hT : T.fs 0 = [0, 1]) {S : Store} {l w : List Nat} {k : Nat} (hw : w.length ≤ 1000) (h : w.length = k) : iw1 T cs tb [some (bd l k), some (.str w), none] S = .ok (.nx [some (bd l k), some (.str w), none]) S := by
  have hs := isi_b (cs := cs) (tb := tb) (x := .str w) (S := S) (t := "str") rfl kit_ss
  have f1 : iFld T [0] 1 (iVar 0) [some (bd l k), some (.str w), none] S = .ok (.int (k : Int)) S := fld1 T hT rfl
  subst h
  unfold iw1
  simp [sSeq, sSetI, sSetIN, sBind, iOp, M.bind, lift, iVar, iC, M.ret, sIf, iTst, isB, iCB, iCons, iNil, sRet, sNext, sAsg, sExpr, sPar, sPar3, iCall, iIf, iOr, iAnd, iNot, iNotV, iAndV, iOrV, M.no, iLstM, iLst, iTup, sAsgG, ngD, nsD, iSl, iPart, iNoPart, iBM, iCM, iYes, hs, f1, lenD_str (show w.length ≤ 100000 by omega), neD_int]
theorem isw_ok (hT : T.fs 0 = [0, 1]) {S : Store} {l w : List Nat} {k : Nat} (hw : w.length ≤ 1000) (h : w.length = k) (hl : ∀ c ∈ w, c ∈ l) : dIsWord T cs tb [bd l k, .str w] S = .ok (.bl true) (S.trim S.next) := by
  have e1 := iw1_ok T cs tb hT (S := S) (l := l) hw h
  have lc := lcL_str (t := iYes) (ie := iOp inD (iVar 2) (iFld T [0] 0 (iVar 0))) (ρ := [some (bd l k), some (.str w), none]) (S := S) (i := 2) (w := w) (fun _ => .bl true) (fun c hc => ⟨rfl, by
    have f0 : iFld T [0] 0 (iVar 0) [some (bd l k), some (.str w), some (.str [c])] S = .ok (.str l) S := fld0 T hT rfl
    show iOp inD (iVar 2) (iFld T [0] 0 (iVar 0)) [some (bd l k), some (.str w), some (.str [c])] S = _
    simp [sSeq, sSetI, sSetIN, sBind, iOp, M.bind, lift, iVar, iC, M.ret, sIf, iTst, isB, iCB, iCons, iNil, sRet, sNext, sAsg, sExpr, sPar, sPar3, iCall, iIf, iOr, iAnd, iNot, iNotV, iAndV, iOrV, M.no, iLstM, iLst, iTup, sAsgG, ngD, nsD, iSl, iPart, iNoPart, iBM, iCM, iYes, f0, inD_chr, hl c hc]⟩)
  have e2 : iw2 T [some (bd l k), some (.str w), none] S = .ok (.rt (.bl true)) S := by
    have hlen : (w.map fun c => D.str [c]).length < 100000 := by simp; omega
    have al : allD [.lst (w.map fun _ => D.bl true)] S = some (.bl true) := all_true
    unfold iw2
    simp only [sRet, sBind, iCB, iCons, iNil, iLc, iItems, items, iVar, M.bind, M.ret, lift, List.getD_cons_zero, List.getD_cons_succ, hlen, if_true, wipeR, List.set_cons_succ, List.set_cons_zero, lc, al]
  show defJ 3 false (isIsWord T cs tb) _ S = _
  unfold defJ isIsWord
  have e0 : startR 3 [bd l k, .str w] = [some (bd l k), some (.str w), none] := rfl
  rw [e0, sSeq_nx e1, e2]
  rfl
def rowD (r : List Nat × List Nat) : D := .tup [.str r.1, .str r.2]
/-! ### checks -/
def isCkW : IS := (sIf (iNot (iTst (iCall 2 (dIsWord T cs tb) (iCons (iVar 0) (iCons (iVar 1) iNil))))) sNever sNext)
def dCkW : List D → M D := defJ 2 false (isCkW T cs tb)
def isCkM : IS := (sIf (iNot (iTst (iCall 2 (dAreMarks T cs tb) (iCons (iVar 0) (iCons (iVar 1) iNil))))) sNever sNext)
def dCkM : List D → M D := defJ 2 false (isCkM T cs tb)
theorem ckw_ok (hT : T.fs 0 = [0, 1]) {S : Store} {l w : List Nat} {k : Nat} (hw : w.length ≤ 1000) (h : w.length = k) (hl : ∀ c ∈ w, c ∈ l) : dCkW T cs tb [bd l k, .str w] S = .ok .non ((S.trim S.next).trim S.next) := by
  have a := isw_ok T cs tb hT (S := S) hw h hl
  unfold dCkW defJ isCkW startR
  simp [sSeq, sSetI, sSetIN, sBind, iOp, M.bind, lift, iVar, iC, M.ret, sIf, iTst, isB, iCB, iCons, iNil, sRet, sNext, sAsg, sExpr, sPar, sPar3, iCall, iIf, iOr, iAnd, iNot, iNotV, iAndV, iOrV, M.no, iLstM, iLst, iTup, sAsgG, ngD, nsD, iSl, iPart, iNoPart, iBM, iCM, iYes, a]
theorem kq_t1 (S : Store) : Kq S (S.trim S.next) := kq_trim (Kq.refl S)
theorem kq_t2 (S : Store) : Kq S ((S.trim S.next).trim S.next) := (kq_t1 S).trans (kq_trim (Kq.refl _))
/-! ### histories -/
abbrev hs (b : D) (rows : List (List Nat × List Nat)) : D := .ins 1 [b, .tup (rows.map rowD)]
def hi2 : IS := (sIf (iTst (iOp gtI (iCB lenD (iCons (iVar 2) iNil)) (iC (.int 20)))) sNever sNext)
theorem lenD_tup {xs : List D} {S : Store} : lenD [.tup xs] S = some (.int xs.length) := by simp [lenD, seqA, seqR, seqL, seqT]
def ht1 : IS := (sExpr (iCall 2 (dCkW T cs tb) (iCons (iFld T [1] 2 (iVar 0)) (iCons (iVar 1) iNil))))
def ht2 : IS := (sExpr (iCall 2 (dCkM T cs tb) (iCons (iFld T [1] 2 (iVar 0)) (iCons (iVar 2) iNil))))
end
end J
set_option Elab.async false
set_option linter.all false
set_option maxRecDepth 100000
set_option maxHeartbeats 1010000
/-! PL: plain laws: the law's histories, rows, what fits -/
namespace J
end J
set_option Elab.async false
set_option linter.all false
set_option maxRecDepth 100000
set_option maxHeartbeats 1010000
/-! PM: plain laws: a law over its bowls -/
namespace J
theorem bools_of {v : Bool} : ∀ rs : List D, (∀ (j : Nat) (d : D), rs[j]? = some d → d = D.bl v) → boolsOf rs = some (rs.map fun _ => v)
  | [], _ => rfl
  | x :: rs, h => by
    have e : x = .bl v := h 0 x rfl
    subst e
    simp [boolsOf, bools_of rs fun j d hj => h (j + 1) d (by simpa using hj)]
def isLaw (M_ : Nat) (dR : List D → M D) : IS := (sRet (iCB allD (iCons (iLc (iRange range1 (iCons (iCB max2 (iCons (iC (.int 2)) (iCons (iCB min2 (iCons (iCB lenD (iCons (iVar 0) iNil)) (iCons (iC (.int (M_ : Int))) iNil))) iNil))) iNil)) (.n 1) iYes (iCall 1 dR (iCons (iCall 2 dBowl (iCons (iVar 0) (iCons (iVar 1) iNil))) iNil)) [1]) iNil)))
def dLaw (M_ : Nat) (dR : List D → M D) : List D → M D := defJ 2 false (isLaw M_ dR)
theorem law_gen (M_ : Nat) (h2 : 2 ≤ M_) (hM : M_ ≤ 50) {dR : List D → M D} (right_ok : ∀ {n : Nat} {S : Store}, Bw S n → ∃ S', dR [.ref n] S = .ok (.bl true) S') (ns : List Int) (h : ns.length ≤ 63) : ∃ S', dLaw M_ dR [.scr (ns.map D.int)] ⟨[], 0⟩ = .ok (.bl true) S' := by
  have rg : ∃ m : Nat, m ≤ 50 ∧ iRange range1 (iCons (iCB max2 (iCons (iC (.int 2)) (iCons (iCB min2 (iCons (iCB lenD (iCons (iVar 0) iNil)) (iCons (iC (.int (M_ : Int))) iNil))) iNil))) iNil) [some (.scr (ns.map D.int)), none] ⟨[], 0⟩ = .ok (rng 0 m) ⟨[], 0⟩ := by
    have ln : lenD [.scr (ns.map D.int)] ⟨[], 0⟩ = some (.int (ns.length : Int)) := by simp [lenD, seqA, seqR]
    have mn : min2 [.int (ns.length : Int), .int (M_ : Int)] ⟨[], 0⟩ = some (.int (if (M_ : Int) < ns.length then (M_ : Int) else ns.length)) := rfl
    have mx : ∀ a : Int, max2 [.int 2, .int a] ⟨[], 0⟩ = some (.int (if a > 2 then a else 2)) := fun a => rfl
    refine ⟨((if (if (M_ : Int) < ns.length then (M_ : Int) else (ns.length : Int)) > 2 then (if (M_ : Int) < ns.length then (M_ : Int) else (ns.length : Int)) else 2)).toNat, ?_, ?_⟩
    · split <;> split <;> omega
    · have z : -100000 ≤ (if (if (M_ : Int) < ns.length then (M_ : Int) else (ns.length : Int)) > 2 then (if (M_ : Int) < ns.length then (M_ : Int) else (ns.length : Int)) else 2) ∧ (if (if (M_ : Int) < ns.length then (M_ : Int) else (ns.length : Int)) > 2 then (if (M_ : Int) < ns.length then (M_ : Int) else (ns.length : Int)) else 2) ≤ 100000 := by
        constructor <;> split <;> split <;> omega
      simp only [sSeq, sSetI, sSetIN, sBind, iOp, M.bind, lift, iVar, iC, M.ret, sIf, iTst, isB, iCB, iCons, iNil, sRet, sNext, sAsg, sExpr, sPar, sPar3, iCall, iIf, iOr, iAnd, iNot, iNotV, iAndV, iOrV, M.no, iLstM, iLst, iTup, sAsgG, ngD, nsD, iSl, iPart, iNoPart, iBM, iCM, iYes, iRange, List.getD_cons_zero, ln, mn, mx, range1]
      rw [if_pos z]
  obtain ⟨m, hm, rg⟩ := rg
  have key := lcL_inv (g := .n 1) (t := iYes) (ie := iCall 1 dR (iCons (iCall 2 dBowl (iCons (iVar 0) (iCons (iVar 1) iNil))) iNil)) (ρ := [some (.scr (ns.map D.int)), none]) (fun _ _ => True) (fun _ d => d = .bl true) (rng 0 m) 0 ⟨[], 0⟩ trivial (by
    intro j x S1 hx _
    obtain ⟨hj, hx⟩ := List.getElem?_eq_some_iff.mp hx
    have ex : x = .int ((j : Nat) : Int) := by
      rw [← hx]
      simp [rng]
    subst ex
    obtain ⟨S2, e2, b2, _⟩ := bowl_ok (S := S1) (ns := ns) (k := j)
    obtain ⟨S3, e3⟩ := right_ok b2
    refine ⟨[some (.scr (ns.map D.int)), some (.int (j : Nat))], .bl true, S1, S3, rfl, rfl, ?_, rfl, trivial⟩
    simp [sSeq, sSetI, sSetIN, sBind, iOp, M.bind, lift, iVar, iC, M.ret, sIf, iTst, isB, iCB, iCons, iNil, sRet, sNext, sAsg, sExpr, sPar, sPar3, iCall, iIf, iOr, iAnd, iNot, iNotV, iAndV, iOrV, M.no, iLstM, iLst, iTup, sAsgG, ngD, nsD, iSl, iPart, iNoPart, iBM, iCM, iYes, e2, e3])
  obtain ⟨rs, S', e, ll, p, _⟩ := key
  have bo := bools_of rs (fun j d hj => p j d hj)
  have al : allD [.lst rs] S' = some (.bl true) := by simp [allD, seqR, seqL, bo]
  have ml : (rng 0 m).length < 100000 := by simp [rng]; omega
  refine ⟨S'.trim 0, ?_⟩
  show defJ 2 false (isLaw M_ dR) _ _ = _
  unfold defJ isLaw
  have e0 : startR 2 [.scr (ns.map D.int)] = [some (.scr (ns.map D.int)), none] := rfl
  have w0 : wipeR [some (.scr (ns.map D.int)), none] [1] = [some (.scr (ns.map D.int)), none] := rfl
  rw [e0]
  simp only [sRet, sBind, iCB, iCons, iNil, iLc, M.bind, rg, ml, if_true, w0, e, M.ret, lift, al]
  rfl
end J
set_option Elab.async false
set_option linter.all false
set_option maxRecDepth 100000
set_option maxHeartbeats 1010000
/-! PN: plain laws: repr of data is answered; rows compared -/
namespace J
open PySem (PyData Str)
open PySem.PyData (showable showableAll depth depthAll shown shownAll)
/-- data of depth at most k whose text has at most B signs -/
def Rp (k B : Nat) (d : D) : Prop := ∃ p, toPz d = some p ∧ showable p = true ∧ depth p ≤ k ∧ (shown p).length ≤ B
theorem Rp.up {k k' B B' : Nat} {d : D} (h : Rp k B d) (hk : k ≤ k') (hB : B ≤ B') : Rp k' B' d := by
  obtain ⟨p, e, h1, h3, h4⟩ := h
  exact ⟨p, e, h1, Nat.le_trans h3 hk, Nat.le_trans h4 hB⟩
theorem Rp.bl (b : Bool) : Rp 0 5 (.bl b) := ⟨.bool b, rfl, rfl, Nat.le_refl _, by cases b <;> decide⟩
theorem Rp.non : Rp 0 5 .non := ⟨.none, rfl, rfl, Nat.le_refl _, by decide⟩
theorem Rp.str {l : List Nat} (h : ∀ c ∈ l, c < 1114112) : Rp 0 (10 * l.length + 2) (.str l) := by
  refine ⟨.str ⟨l.toArray⟩, rfl, rfl, Nat.le_refl _, ?_⟩
  have e : (⟨l.toArray⟩ : Str).length = l.length := str_len l
  have z := PySem.StrLaws.reprText_len ⟨l.toArray⟩ (fun c hc => Nat.lt_of_lt_of_le (h c (by simpa using hc)) (by decide))
  rw [e] at z
  exact z
open PyProof.Rows in
theorem Rp.all {k B : Nat} : ∀ {ds : List D}, (∀ d ∈ ds, Rp k B d) → ∃ ps, toPzs ds = some ps ∧ showableAll ps = true ∧ depthAll ps ≤ k ∧ PySem.piled (shownAll ps) ≤ (B + 2) * ds.length ∧ ps.length = ds.length
  | [], _ => ⟨[], rfl, rfl, Nat.zero_le _, by simp [shownAll, PySem.piled], rfl⟩
  | d :: ds, h => by
    obtain ⟨p, e, h1, h3, h4⟩ := h d (List.mem_cons_self ..)
    obtain ⟨ps, f, g1, g3, g4, g5⟩ := Rp.all (k := k) (B := B) (ds := ds) fun x hx => h x (List.mem_cons_of_mem _ hx)
    refine ⟨p :: ps, by simp [toPzs, e, f], by simp [showableAll, h1, g1], by simp only [depthAll]; omega, ?_, by simp [g5]⟩
    rw [shownAll, PySem.piled_cons, List.length_cons, Nat.mul_add]
    omega
theorem lt_len (a b : Str) : (a ++ b).length = a.length + b.length := PySem.strLen_append a b
theorem listText_le : ∀ ts : List Str, (PySem.listText ts).length ≤ PySem.piled ts + 2
  | [] => by decide
  | t :: r => by
    have h := PySem.textFrom_length_pos r 1 (("[" : Str) ++ (if (0 : Nat) > 0 then ", " else "" : String) ++ t) (Nat.succ_pos 0)
    have e : (PySem.listText (t :: r)).length = (PySem.textFrom 1 (("[" : Str) ++ (if (0 : Nat) > 0 then ", " else "" : String) ++ t) r).length + 1 := by
      unfold PySem.listText
      rw [lt_len]
      rfl
    rw [e, h, lt_len, lt_len, PySem.piled_cons]
    have e1 : (("[" : String) : Str).length = 1 := rfl
    have e2 : (((if (0 : Nat) > 0 then ", " else "" : String)) : Str).length = 0 := rfl
    omega
theorem tupleText_le (ts : List Str) : (PySem.tupleText ts).length ≤ PySem.piled ts + 3 := by
  have j : (Str.join ", " ts).length ≤ PySem.piled ts := by
    cases ts with
    | nil => decide
    | cons t r =>
      have := PySem.join_length_add (t :: r) (by simp)
      omega
  unfold PySem.tupleText
  rw [lt_len, lt_len]
  have e1 : (("(" : String) : Str).length = 1 := rfl
  have e2 : (((if (ts.length == 1) = true then ",)" else ")" : String)) : Str).length ≤ 2 := by
    split <;> decide
  omega
theorem Rp.lst {k B n : Nat} {ds : List D} (h : ∀ d ∈ ds, Rp k B d) (hn : ds.length ≤ n) : Rp (k + 1) ((B + 2) * n + 3) (.lst ds) := by
  obtain ⟨ps, f, g1, g3, g4, _⟩ := Rp.all h
  have m : (B + 2) * ds.length ≤ (B + 2) * n := Nat.mul_le_mul_left _ hn
  refine ⟨.list ps, by simp [toPz, f], by simpa [showable] using g1, by simp only [depth]; omega, ?_⟩
  have z := listText_le (shownAll ps)
  rw [shown]
  omega
theorem Rp.tup {k B n : Nat} {ds : List D} (h : ∀ d ∈ ds, Rp k B d) (hn : ds.length ≤ n) : Rp (k + 1) ((B + 2) * n + 3) (.tup ds) := by
  obtain ⟨ps, f, g1, g3, g4, _⟩ := Rp.all h
  have m : (B + 2) * ds.length ≤ (B + 2) * n := Nat.mul_le_mul_left _ hn
  refine ⟨.tuple ps, by simp [toPz, f], by simpa [showable] using g1, by simp only [depth]; omega, ?_⟩
  have z := tupleText_le (shownAll ps)
  rw [shown]
  omega
theorem rep_of {k B : Nat} {d : D} {S : Store} (h : Rp k B d) (hk : k ≤ 64) (hB : B ≤ 100000) : ∃ t, reprD [d] S = some (.str t) := by
  obtain ⟨p, e, h1, h3, h4⟩ := h
  have dr : deref d S = d := by
    cases d <;> first | rfl | (simp [toPz] at e)
  have c1 : decide (depth p ≤ 64) = true := decide_eq_true (by omega)
  have c2 : decide ((shown p).length ≤ 100000) = true := decide_eq_true (by omega)
  exact ⟨(shown p).cps.toList, by simp only [reprD, repOf, dr, e, h1, c1, c2, Bool.and_self, if_true, Option.map_some]⟩
/-! ### rows -/
structure Cp (r : List Nat × List Nat) : Prop where
  a : ∀ c ∈ r.1, c < 1114112
  b : ∀ c ∈ r.2, c < 1114112
theorem Rp.row {r : List Nat × List Nat} {n : Nat} (h : Cp r) (h1 : r.1.length ≤ n) (h2 : r.2.length ≤ n) : Rp 1 ((10 * n + 4) * 2 + 3) (rowD r) := by
  refine Rp.tup (B := 10 * n + 2) (n := 2) (fun d hd => ?_) (by simp)
  simp only [List.mem_cons, List.not_mem_nil, or_false] at hd
  rcases hd with rfl | rfl
  · exact (Rp.str h.a).up (Nat.le_refl _) (by omega)
  · exact (Rp.str h.b).up (Nat.le_refl _) (by omega)
end J
set_option Elab.async false
set_option linter.all false
set_option maxRecDepth 100000
set_option maxHeartbeats 1010000
/-! PO: plain laws: what a history shows; without; == -/
namespace J
end J
set_option Elab.async false
set_option linter.all false
set_option maxRecDepth 100000
set_option maxHeartbeats 1010000
/-! PQ: plain laws: a row taken out; all that is shown of a history -/
namespace J
end J
set_option Elab.async false
set_option linter.all false
set_option maxRecDepth 100000
set_option maxHeartbeats 1010000
/-! PR: plain laws: a run that goes on where another one never came; refusals of boards -/
namespace J
/-- b goes wherever a goes -/
def LeR {α : Type} (a b : R α) : Prop := a = .no ∨ a = b
abbrev LeE {α : Type} (a b : Rho → M α) : Prop := ∀ ρ S, LeR (a ρ S) (b ρ S)
abbrev LeD (f g : List D → M D) : Prop := ∀ xs S, LeR (f xs S) (g xs S)
theorem LeR.of {α : Type} {a b r : R α} (h : LeR a b) (e : a = r) (hr : r ≠ .no) : b = r := by
  rcases h with h | h
  · exact (hr (e.symm.trans h)).elim
  · exact h.symm.trans e
theorem LeR.ok {α : Type} {a b : R α} {x : α} {S : Store} (h : LeR a b) (e : a = .ok x S) : b = .ok x S := h.of e (by intro q; cases q)
theorem le_rfl {α : Type} {a : Rho → M α} : LeE a a := fun _ _ => .inr rfl
theorem le_sBind {α : Type} {m m' : M α} {ρ : Rho} {k k' : α → M Fl} (h : ∀ S, LeR (m S) (m' S)) (g : ∀ a S, LeR (k a S) (k' a S)) (S : Store) : LeR (sBind m ρ k S) (sBind m' ρ k' S) := by
  unfold sBind
  rcases h S with e | e
  · rw [e]; exact .inl rfl
  · rw [e]
    cases m' S with
    | ok a S1 => exact g a S1
    | ex c fs S1 => exact .inr rfl
    | no => exact .inl rfl
theorem le_if {t t' : IT} {a a' b b' : IS} (h0 : LeE t t') (h : LeE a a') (g : LeE b b') : LeE (sIf t a b) (sIf t' a' b') := fun ρ S =>
  le_sBind (h0 ρ) (fun c S1 => by cases c; exact g ρ S1; exact h ρ S1) S
theorem le_never {b : IS} : LeE sNever b := fun _ _ => .inl rfl
theorem le_ifn {t : IT} {b : IS} : LeE (sIf t sNever sNext) (sIf t b sNext) := le_if le_rfl le_never le_rfl
theorem le_def {n : Nat} {k : Bool} {a b : IS} (h : LeE a b) : LeD (defJ n k a) (defJ n k b) := fun xs S => by
  unfold defJ
  rcases h (startR n xs) S with e | e
  · rw [e]; exact .inl rfl
  · rw [e]; exact .inr rfl
/-! ### got -/
/-! ### the list of what was seen -/
theorem Bw.del {n m : Nat} {S : Store} (b : Bw S n) (h : n ≠ m) : Bw (S.del m) n := ⟨b.1, by rw [Store.get_del, if_neg h]; exact b.2⟩
/-! ### what is shown of equal data is equal -/
theorem ne_same {t : List Nat} {S : Store} : neD (.str t) (.str t) S = some (.bl false) := by
  simp [neD, op2, neS, eqS]
/-! ### are_letters, is_integer -/
section
variable (cs : List Nat) (tb : List (Tg × Tg × Bool))
def atA (c : Nat) : Int := match fstAt c abc with | some i => (i : Int) | none => -1
def pairsB : List Int → List Bool
  | a :: b :: r => decide (a < b) :: pairsB (b :: r)
  | _ => []
def areB (l : List Nat) : Bool := decide (2 ≤ l.length ∧ l.length ≤ 26) && (decide (0 ≤ (l.map atA).headD (-1)) && (pairsB (l.map atA)).all id)
/-- the kind of a value, as told without a store -/
def knd : D → Option String
  | .non => some "NoneType"
  | .bl _ => some "bool"
  | .int _ => some "int"
  | .str _ => some "str"
  | .tup _ => some "tuple"
  | .lst _ => some "list"
  | .dct [] _ => some "dict"
  | _ => none
theorem tag_knd {d : D} {t : String} {S : Store} (h : knd d = some t) : tagD d S = some (.b t) := by
  cases d with
  | dct ks xs => cases ks <;> simp [knd] at h <;> subst h <;> rfl
  | _ => simp [knd] at h <;> subst h <;> rfl
/-- not of one kind -/
def notK (n : String) (d : D) : Bool := match knd d with
  | some t => decide (L2.kitB t n = some false)
  | none => false
theorem isi_not {n : String} {d : D} {S : Store} (h : notK n d = true) : isiD cs tb [d, .ty n] S = some (.bl false) := by
  unfold notK at h
  split at h
  · rename_i t e
    exact isi_b (tag_knd e) (of_decide_eq_true h)
  · cases h
/-- no alphabet -/
def badL (d : D) : Bool := match d with
  | .str l => decide (l.length ≤ 1000) && !areB l
  | d => notK "str" d
end
/-! ### what is answered by repr, checked -/
open PySem.PyData (showable depth shown) in
def rpB (k B : Nat) (d : D) : Bool := match toPz d with
  | some p => showable p && (decide (depth p ≤ k) && decide ((shown p).length ≤ B))
  | none => false
theorem rp_of {k B : Nat} {d : D} (h : rpB k B d = true) : Rp k B d := by
  unfold rpB at h
  split at h
  · rename_i p e
    rw [Bool.and_eq_true, Bool.and_eq_true, decide_eq_true_eq, decide_eq_true_eq] at h
    exact ⟨p, e, h.1, h.2.1, h.2.2⟩
  · cases h
end J
set_option Elab.async false
set_option linter.all false
set_option maxRecDepth 100000
set_option maxHeartbeats 1010000
/-! PS: plain laws: the second way to draw (a well) -/
namespace J
/-! an alphabet: letters are dropped -/
theorem Sg.sub {l m : List Nat} (h : Sg l) (s : m.Sublist l) : Sg m := ⟨h.up.sublist s, fun c hc => h.abc c (s.mem hc)⟩
end J
set_option Elab.async false
set_option linter.all false
set_option maxRecDepth 100000
set_option maxHeartbeats 1010000
/-! PT: plain laws: facts, claims, words judged; the law's reply -/
namespace J
/-! ### the law's reply is the marks -/
end J
set_option Elab.async false
set_option linter.all false
set_option maxRecDepth 100000
set_option maxHeartbeats 1010000
/-! PU: plain laws: facts, claims about words -/
namespace J
/-- a fact: a letter at a place (or not), least (or most) copies -/
inductive Ft where
  | pl (b : Bool) (p c : Nat) | cn (b : Bool) (c m : Nat)
theorem eqD_bl {a b : Bool} {S : Store} : eqD (.bl a) (.bl b) S = some (.bl (decide (a = b))) := by
  cases a <;> cases b <;> rfl
/-! ### all([f(x) for x in xs]) -/
section
variable (T : Tab) (cs : List Nat) (tb : List (Tg × Tg × Bool))
/-! ### is_word of anything -/
def wordB (l : List Nat) (k : Nat) (w : List Nat) : Bool := decide (w.length = k) && w.all fun c => decide (c ∈ l)
theorem isw_gen (hT : T.fs 0 = [0, 1]) {S : Store} {l w : List Nat} {k : Nat} (hw : w.length ≤ 1000) : dIsWord T cs tb [bd l k, .str w] S = .ok (.bl (wordB l k w)) (S.trim S.next) := by
  have e0 : startR 3 [bd l k, .str w] = [some (bd l k), some (.str w), none] := rfl
  by_cases h : w.length = k
  · have e1 := iw1_ok T cs tb hT (S := S) (l := l) hw h
    have lc := lcL_str (t := iYes) (ie := iOp inD (iVar 2) (iFld T [0] 0 (iVar 0))) (ρ := [some (bd l k), some (.str w), none]) (S := S) (i := 2) (w := w) (fun c => .bl (decide (c ∈ l))) (fun c hc => ⟨rfl, by
      have f0 : iFld T [0] 0 (iVar 0) [some (bd l k), some (.str w), some (.str [c])] S = .ok (.str l) S := fld0 T hT rfl
      show iOp inD (iVar 2) (iFld T [0] 0 (iVar 0)) [some (bd l k), some (.str w), some (.str [c])] S = _
      simp [sSeq, sSetI, sSetIN, sBind, iOp, M.bind, lift, iVar, iC, M.ret, sIf, iTst, isB, iCB, iCons, iNil, sRet, sNext, sAsg, sExpr, sPar, sPar3, iCall, iIf, iOr, iAnd, iNot, iNotV, iAndV, iOrV, M.no, iLstM, iLst, iTup, sAsgG, ngD, nsD, iSl, iPart, iNoPart, iBM, iCM, iYes, f0, inD_chr]⟩)
    have e2 : iw2 T [some (bd l k), some (.str w), none] S = .ok (.rt (.bl (wordB l k w))) S := by
      have hlen : (w.map fun c => D.str [c]).length < 100000 := by simp; omega
      have al : allD [.lst (w.map fun c => D.bl (decide (c ∈ l)))] S = some (.bl (w.all fun c => decide (c ∈ l))) := allD_map
      unfold iw2 wordB
      simp only [sRet, sBind, iCB, iCons, iNil, iLc, iItems, items, iVar, M.bind, M.ret, lift, List.getD_cons_zero, List.getD_cons_succ, hlen, if_true, wipeR, List.set_cons_succ, List.set_cons_zero, lc, al, h, decide_true, Bool.true_and]
    show defJ 3 false (isIsWord T cs tb) _ S = _
    unfold defJ isIsWord
    rw [e0, sSeq_nx e1, e2]
    rfl
  · have hs := isi_b (cs := cs) (tb := tb) (x := .str w) (S := S) (t := "str") rfl kit_ss
    have f1 : iFld T [0] 1 (iVar 0) [some (bd l k), some (.str w), none] S = .ok (.int (k : Int)) S := fld1 T hT rfl
    have h' : ¬ ((w.length : Int) = (k : Int)) := by omega
    have e1 : iw1 T cs tb [some (bd l k), some (.str w), none] S = .ok (.rt (.bl false)) S := by
      unfold iw1
      simp [sSeq, sSetI, sSetIN, sBind, iOp, M.bind, lift, iVar, iC, M.ret, sIf, iTst, isB, iCB, iCons, iNil, sRet, sNext, sAsg, sExpr, sPar, sPar3, iCall, iIf, iOr, iAnd, iNot, iNotV, iAndV, iOrV, M.no, iLstM, iLst, iTup, sAsgG, ngD, nsD, iSl, iPart, iNoPart, iBM, iCM, iYes, hs, f1, lenD_str (show w.length ≤ 100000 by omega), neD_int, h']
    have wb : wordB l k w = false := by unfold wordB; rw [decide_eq_false h, Bool.false_and]
    show defJ 3 false (isIsWord T cs tb) _ S = _
    unfold defJ isIsWord sSeq
    rw [e0, e1, wb]
    rfl
theorem isw_not {S : Store} {b d : D} (h : notK "str" d = true) : dIsWord T cs tb [b, d] S = .ok (.bl false) (S.trim S.next) := by
  have hs := isi_not cs tb (S := S) h
  have e0 : startR 3 [b, d] = [some b, some d, none] := rfl
  show defJ 3 false (isIsWord T cs tb) _ S = _
  unfold defJ isIsWord iw1
  rw [e0]
  simp [sSeq, sSetI, sSetIN, sBind, iOp, M.bind, lift, iVar, iC, M.ret, sIf, iTst, isB, iCB, iCons, iNil, sRet, sNext, sAsg, sExpr, sPar, sPar3, iCall, iIf, iOr, iAnd, iNot, iNotV, iAndV, iOrV, M.no, iLstM, iLst, iTup, sAsgG, ngD, nsD, iSl, iPart, iNoPart, iBM, iCM, iYes, hs]
/-! ### is_fact -/
end
end J
set_option Elab.async false
set_option linter.all false
set_option maxRecDepth 100000
set_option maxHeartbeats 1010000
/-! PV: plain laws: claims about words -/
namespace J
theorem Kq.t {S S' : Store} (h : Kq S S') : Kq S (S'.trim S.next) := kq_trim h
theorem defJ_rt {n : Nat} {b : IS} {ds : List D} {S S1 : Store} {d : D} (h : b (startR n ds) S = .ok (.rt d) S1) : defJ n false b ds S = .ok d (S1.trim S.next) := by
  unfold defJ
  rw [h]
  rfl
end J
set_option Elab.async false
set_option linter.all false
set_option maxRecDepth 100000
set_option maxHeartbeats 1010000
/-! PW: plain laws: holds, the law's own due, drawn facts, all words -/
namespace J
def clm (s l : List Nat) (k : Int) (a b : D) : D := .tup [.str s, .str l, .int k, a, b]
section
variable {s l : List Nat} {k : Int} {a b : D} {S : Store}
theorem cl0 : ixD (clm s l k a b) (.int 0) S = some (.str s) := rfl
theorem cl1 : ixD (clm s l k a b) (.int 1) S = some (.str l) := rfl
end
end J
set_option Elab.async false
set_option linter.all false
set_option maxRecDepth 100000
set_option maxHeartbeats 1010000
/-! PX: plain laws: drawn facts, all words of a small board -/
namespace J
/-! ### all words -/
end J
set_option Elab.async false
set_option linter.all false
set_option maxRecDepth 100000
set_option maxHeartbeats 1010000
/-! PZ: plain laws: refusals of histories -/
namespace J
section
variable (T : Tab) (cs : List Nat) (tb : List (Tg × Tg × Bool)) (rb rw_ rm r5a r5b rt rp : IS)
/-! ### marks of anything -/
/-- no word, no marks: as told of any value -/
def noW (l : List Nat) (k : Nat) (d : D) : Bool := match d with
  | .str w => decide (w.length ≤ 1000) && !wordB l k w
  | d => notK "str" d
theorem noW_is (hT : T.fs 0 = [0, 1]) {S : Store} {l : List Nat} {k : Nat} {d : D} (h : noW l k d = true) : dIsWord T cs tb [bd l k, d] S = .ok (.bl false) (S.trim S.next) := by
  unfold noW at h
  split at h
  · rename_i w
    rw [Bool.and_eq_true, decide_eq_true_eq, Bool.not_eq_true'] at h
    rw [isw_gen T cs tb hT h.1, h.2]
  · exact isw_not T cs tb h
/-! ### checks that raise -/
def dCkBX : List D → M D := defJ 1 false (sIf (iNot (iTst (iCB (isiD cs tb) (iCons (iVar 0) (iCons (iC (.glo 0)) iNil))))) rb sNext)
def dCkWX : List D → M D := defJ 2 false (sIf (iNot (iTst (iCall 2 (dIsWord T cs tb) (iCons (iVar 0) (iCons (iVar 1) iNil))))) rw_ sNext)
theorem ckwX_ex (hT : T.fs 0 = [0, 1]) {c f : Nat} {S : Store} {l : List Nat} {k : Nat} {d : D} (h : noW l k d = true) : ∃ S', dCkWX T cs tb (sRaise c f (iVar 1)) [bd l k, d] S = .ex c [(f, d)] S' ∧ Kq S S' := by
  have iw := noW_is T cs tb hT (S := S) h
  refine ⟨(S.trim S.next).trim S.next, ?_, kq_t2 S⟩
  unfold dCkWX defJ startR
  simp [sSeq, sSetI, sSetIN, sBind, iOp, M.bind, lift, iVar, iC, M.ret, sIf, iTst, isB, iCB, iCons, iNil, sRet, sNext, sAsg, sExpr, sPar, sPar3, iCall, iIf, iOr, iAnd, iNot, iNotV, iAndV, iOrV, M.no, iLstM, iLst, iTup, sAsgG, ngD, nsD, iSl, iPart, iNoPart, iBM, iCM, iYes, iw, sRaise]
theorem ckwX_ok (hT : T.fs 0 = [0, 1]) {S : Store} {l w : List Nat} {k : Nat} (hw : w.length ≤ 1000) (h : w.length = k) (hl : ∀ c ∈ w, c ∈ l) : ∃ S', dCkWX T cs tb rw_ [bd l k, .str w] S = .ok .non S' ∧ Kq S S' :=
  ⟨_, (le_def (le_ifn (b := rw_)) _ _).ok (ckw_ok T cs tb hT (S := S) hw h hl), kq_t2 S⟩
/-! ### History(..) -/
def hx1 : IS := (sExpr (iCall 1 (dCkBX cs tb rb) (iCons (iVar 1) iNil)))
def hx2 : IS := (sIf (iTst (iOp gtI (iCB lenD (iCons (iVar 2) iNil)) (iC (.int 20)))) r5a sNext)
/-! ### then, without, fits -/
end
/-! ### repr of a list that changes -/
end J
set_option Elab.async false
set_option linter.all false
set_option maxRecDepth 100000
set_option maxHeartbeats 1010000
/-! QA: plain laws: a row's marks, as bounds -/
namespace J
end J
set_option Elab.async false
set_option linter.all false
set_option maxRecDepth 100000
set_option maxHeartbeats 1010000
/-! QB: plain laws: letters at places by exchanges (give, take, fill), as functions; what they find -/
namespace J
def one (b : Bool) : Nat := if b then 1 else 0
end J
set_option Elab.async false
set_option linter.all false
set_option maxRecDepth 100000
set_option maxHeartbeats 1010000
/-! QC: plain laws: take, and fuel enough -/
namespace J
end J
set_option Elab.async false
set_option linter.all false
set_option maxRecDepth 100000
set_option maxHeartbeats 1010000
/-! QD: plain laws: filling finds a word within bounds, or there is an obstacle and no word -/
namespace J
end J
set_option Elab.async false
set_option linter.all false
set_option maxRecDepth 100000
set_option maxHeartbeats 1010000
/-! RA: what an expression or a statement gives, at every store that keeps S0's objects -/
namespace J
def Gm {α : Type} (S0 : Store) (m : M α) (a : α) : Prop := ∀ S, Kq S0 S → ∃ S', m S = .ok a S' ∧ Kq S S'
theorem Gm.mono {α : Type} {S0 S1 : Store} {m : M α} {a : α} (h : Gm S0 m a) (k : Kq S0 S1) : Gm S1 m a := fun S q => h S (k.trans q)
theorem Gm.at {α : Type} {S : Store} {m : M α} {a : α} (h : Gm S m a) : ∃ S', m S = .ok a S' ∧ Kq S S' := h S (Kq.refl S)
theorem Gm.ret {α : Type} {S0 : Store} {a : α} : Gm S0 (M.ret a) a := fun S _ => ⟨S, rfl, Kq.refl S⟩
theorem Gm.bind {α β : Type} {S0 : Store} {m : M α} {k : α → M β} {a : α} {b : β} (h : Gm S0 m a) (g : Gm S0 (k a) b) : Gm S0 (M.bind m k) b := fun S q => by
  obtain ⟨S1, e1, q1⟩ := h S q
  obtain ⟨S2, e2, q2⟩ := g S1 (q.trans q1)
  exact ⟨S2, by unfold M.bind; rw [e1]; exact e2, q1.trans q2⟩
theorem Gm.sb {α : Type} {S0 : Store} {m : M α} {ρ : Rho} {k : α → M Fl} {a : α} {b : Fl} (h : Gm S0 m a) (g : Gm S0 (k a) b) : Gm S0 (sBind m ρ k) b := fun S q => by
  obtain ⟨S1, e1, q1⟩ := h S q
  obtain ⟨S2, e2, q2⟩ := g S1 (q.trans q1)
  exact ⟨S2, by unfold sBind; rw [e1]; exact e2, q1.trans q2⟩
theorem Gm.nox {α : Type} {S0 : Store} {m : M α} {a : α} (h : Gm S0 m a) : Gm S0 (nox m) a := fun S q => by
  obtain ⟨S1, e1, q1⟩ := h S q
  exact ⟨S1, by unfold J.nox; rw [e1], q1⟩
theorem Gm.lft {α : Type} {S0 : Store} {o : Store → Option α} {a : α} (h : ∀ S, Kq S0 S → o S = some a) : Gm S0 (fun S => lift (o S) S) a := fun S q => ⟨S, by show lift (o S) S = _; rw [h S q]; rfl, Kq.refl S⟩
theorem Gm.lft0 {α : Type} {S0 : Store} {o : Option α} {a : α} (h : o = some a) : Gm S0 (lift o) a := fun S q => ⟨S, by rw [h]; rfl, Kq.refl S⟩
section
variable {S0 : Store} {ρ : Rho}
theorem gv_var {i : Nat} {d : D} (h : ρ.getD i none = some d) : Gm S0 (iVar i ρ) d := .lft0 h
theorem gv_c {d : D} : Gm S0 (iC d ρ) d := .ret
theorem gv_op {f : Op2} {a b : IE} {x y d : D} (ha : Gm S0 (a ρ) x) (hb : Gm S0 (b ρ) y) (h : ∀ S, Kq S0 S → f x y S = some d) : Gm S0 (iOp f a b ρ) d := ha.bind (hb.bind (.lft h))
theorem ga_nil : Gm S0 (iNil ρ) [] := .ret
theorem ga_cons {a : IE} {r : IA} {x : D} {xs : List D} (ha : Gm S0 (a ρ) x) (hr : Gm S0 (r ρ) xs) : Gm S0 (iCons a r ρ) (x :: xs) := ha.bind (hr.bind .ret)
theorem gv_cb {f : OpN} {ia : IA} {xs : List D} {d : D} (ha : Gm S0 (ia ρ) xs) (h : ∀ S, Kq S0 S → f xs S = some d) : Gm S0 (iCB f ia ρ) d := ha.bind (.lft h)
theorem gv_cb1 {f : OpN} {a : IE} {x d : D} (ha : Gm S0 (a ρ) x) (h : ∀ S, Kq S0 S → f [x] S = some d) : Gm S0 (iCB f (iCons a iNil) ρ) d := gv_cb (ga_cons ha ga_nil) h
theorem gv_andV {s t : IE} {a b : Bool} (hs : Gm S0 (s ρ) (.bl a)) (ht : a = true → Gm S0 (t ρ) (.bl b)) : Gm S0 (iAndV s t ρ) (.bl (a && b)) := by
  refine hs.bind (Gm.bind (Gm.lft0 (a := a) rfl) ?_)
  cases a with
  | true => exact ht rfl
  | false => exact .ret
/-! ### statements -/
theorem gs_ret {a : IE} {d : D} (h : Gm S0 (a ρ) d) : Gm S0 (sRet a ρ) (.rt d) := h.sb .ret
theorem gd_def {n : Nat} {b : IS} {ds : List D} {d : D} (h : Gm S0 (b (startR n ds)) (.rt d)) : Gm S0 (defJ n false b ds) d := fun S q => by
  obtain ⟨S1, e1, q1⟩ := h S q
  exact ⟨S1.trim S.next, defJ_rt e1, kq_trim q1⟩
end
end J
set_option Elab.async false
set_option linter.all false
set_option maxRecDepth 100000
set_option maxHeartbeats 1010000
/-! RB: bounds of rows and facts, as the program works them out -/
namespace J
theorem neD_bl {a b : Bool} {S : Store} : neD (.bl a) (.bl b) S = some (.bl (!decide (a = b))) := by
  cases a <;> cases b <;> rfl
/-! ### letters at places -/
/-! ### numbers of letters -/
end J
set_option Elab.async false
set_option linter.all false
set_option maxRecDepth 100000
set_option maxHeartbeats 1010000
/-! RC: lists that grow in a loop; greatest numbers, rows in order -/
namespace J
theorem addD_list {a b : List D} {S : Store} (h : a.length + b.length ≤ 100000) : addD (.lst a) (.lst b) S = some (.lst (a ++ b)) := by
  simp [addD, op2, addI, opI0, addS, addL, seqL, h]
end J
set_option Elab.async false
set_option linter.all false
set_option maxRecDepth 100000
set_option maxHeartbeats 1010000
/-! RD: rows in order; dicts of letters; the bounds -/
namespace J
end J
set_option Elab.async false
set_option linter.all false
set_option maxRecDepth 100000
set_option maxHeartbeats 1010000
/-! RE: dicts of letters; the bounds as an object -/
namespace J
def dictD (l : List Nat) (f : Nat → D) : D := .dct (l.map fun c => Ky.s [c]) (l.map f)
theorem dget_ok {f : Nat → D} {c : Nat} {S : Store} : ∀ {l : List Nat}, c ∈ l → dgetD (dictD l f) (.str [c]) S = some (f c) := by
  have go : ∀ l : List Nat, c ∈ l → getKy (.s [c]) ((l.map fun c => Ky.s [c]).zip (l.map f)) = some (f c) := fun l => by
    induction l with
    | nil => intro h; cases h
    | cons a l ih =>
      intro h
      rw [List.map_cons, List.map_cons, List.zip_cons_cons, getKy]
      by_cases e : a = c
      · rw [if_pos (by rw [e]), e]
      · rw [if_neg (by intro z; injection z with z; injection z with z; exact e z)]
        exact ih ((List.mem_cons.mp h).resolve_left fun z => e z.symm)
  intro l h
  exact go l h
abbrev bnds (a x y : D) : D := .ins 5 [a, x, y]
section
variable {S0 : Store} {l : List Nat} {k : Nat} {rows : List (List Nat × List Nat)} {fs : List Ft} {R F : D} (T : Tab) (ct : List Nat)
theorem ins_bnds (hT1 : T.fs 5 = [10, 11, 12]) {a x y : D} {S : Store} : insOf T (bnds a x y) S = some (5, [(10, a), (11, x), (12, y)]) := by
  simp [insOf, hT1]
theorem gv_al (hT1 : T.fs 5 = [10, 11, 12]) {ie : IE} {ρ : Rho} {a x y : D} (h : Gm S0 (ie ρ) (bnds a x y)) : Gm S0 (iFld T [5] 10 ie ρ) a := h.bind fun S _ => ⟨S, by simp [ins_bnds T hT1, lift, getF], Kq.refl S⟩
theorem gv_lo (hT1 : T.fs 5 = [10, 11, 12]) {ie : IE} {ρ : Rho} {a x y : D} (h : Gm S0 (ie ρ) (bnds a x y)) : Gm S0 (iFld T [5] 11 ie ρ) x := h.bind fun S _ => ⟨S, by simp [ins_bnds T hT1, lift, getF], Kq.refl S⟩
theorem gv_hi (hT1 : T.fs 5 = [10, 11, 12]) {ie : IE} {ρ : Rho} {a x y : D} (h : Gm S0 (ie ρ) (bnds a x y)) : Gm S0 (iFld T [5] 12 ie ρ) y := h.bind fun S _ => ⟨S, by simp [ins_bnds T hT1, lift, getF], Kq.refl S⟩
end
end J
set_option Elab.async false
set_option linter.all false
set_option maxRecDepth 100000
set_option maxHeartbeats 1010000
/-! RF: papers that show that there is none -/
namespace J
theorem sl_str1 {w : List Nat} {S : Store} (h : w.length ≤ 1000) : slD (.str w) (some 1) none S = some (.str (w.drop 1)) := by
  rw [slD_str (by omega), show (some (1 : Int)) = some ((1 : Nat) : Int) from rfl, cut_drop]
section
variable {S0 : Store} {l : List Nat} {k : Nat} {rows : List (List Nat × List Nat)} {fs : List Ft} {R F : D} (T : Tab) (cs : List Nat) (tb : List (Tg × Tg × Bool)) (ct : List Nat)
theorem toPys_ints : ∀ xs : List Nat, toPys (xs.map fun p : Nat => D.int (p : Int)) = some (xs.map fun p : Nat => PySem.PyData.int (p : Int))
  | [] => rfl
  | x :: xs => by simp [toPys, toPy, toPys_ints xs]
theorem lay_ints : ∀ xs : List Nat, PySem.PyData.canLayAll0 (xs.map fun p : Nat => PySem.PyData.int (p : Int)) = true ∧ PySem.PyData.depthAll (xs.map fun p : Nat => PySem.PyData.int (p : Int)) ≤ 1
  | [] => ⟨rfl, Nat.zero_le _⟩
  | x :: xs => by
    obtain ⟨h1, h2⟩ := lay_ints xs
    constructor
    · simp [PySem.PyData.canLayAll0, PySem.PyData.canLay0, h1]
    · simp only [List.map_cons, PySem.PyData.depthAll, PySem.PyData.depth]
      omega
end
end J
set_option Elab.async false
set_option linter.all false
set_option maxRecDepth 100000
set_option maxHeartbeats 1010000
/-! RG: the judge on papers of the four forms -/
namespace J
end J
set_option Elab.async false
set_option linter.all false
set_option maxRecDepth 100000
set_option maxHeartbeats 1010000
/-! RH: the raw bounds as the law works them out -/
namespace J
end J
set_option Elab.async false
set_option linter.all false
set_option maxRecDepth 100000
set_option maxHeartbeats 1010000
/-! RI: rows that are crossed, room for letters, as the law works them out -/
namespace J
end J
set_option Elab.async false
set_option linter.all false
set_option maxRecDepth 100000
set_option maxHeartbeats 1010000
/-! RJ: room for letters, as the law works it out -/
namespace J
end J
set_option Elab.async false
set_option linter.all false
set_option maxRecDepth 100000
set_option maxHeartbeats 1010000
/-! RK: all words, and those that fit -/
namespace J
def wordsN (l : List Nat) : Nat → List (List Nat)
  | 0 => [[]]
  | n + 1 => (wordsN l n).flatMap fun w => l.map fun c => w ++ [c]
end J
set_option Elab.async false
set_option linter.all false
set_option maxRecDepth 100000
set_option maxHeartbeats 1010000
/-! RL: the law's own judge of papers -/
namespace J
end J
set_option Elab.async false
set_option linter.all false
set_option maxRecDepth 100000
set_option maxHeartbeats 1010000
/-! RM: papers of the four forms show exactly that there is no word -/
namespace J
end J
set_option Elab.async false
set_option linter.all false
set_option maxRecDepth 100000
set_option maxHeartbeats 1010000
/-! RN: small things for laws about papers -/
namespace J
section
variable {S0 : Store} {ρ : Rho}
theorem addD_tupA {a b : List D} {S : Store} (h : a.length + b.length ≤ 100000) : addD (.tup a) (.tup b) S = some (.tup (a ++ b)) := by
  simp [addD, op2, addI, opI0, addS, addL, seqL, addT, h]
theorem tup_lst {xs : List D} {S : Store} : tupD [.lst xs] S = some (.tup xs) := rfl
theorem toPys_strs : ∀ ws : List (List Nat), toPys (ws.map D.str) = some (ws.map fun w => PySem.PyData.str ⟨w.toArray⟩)
  | [] => rfl
  | w :: ws => by simp [toPys, toPy, toPys_strs ws]
theorem lay_strs : ∀ {ws : List (List Nat)}, (∀ w ∈ ws, ∀ c ∈ w, c < 1114112) → PySem.PyData.canLayAll0 (ws.map fun w => PySem.PyData.str ⟨w.toArray⟩) = true ∧ PySem.PyData.depthAll (ws.map fun w => PySem.PyData.str ⟨w.toArray⟩) ≤ 1
  | [], _ => ⟨rfl, Nat.zero_le _⟩
  | w :: ws, h => by
    obtain ⟨h1, h2⟩ := lay_strs (ws := ws) fun x hx => h x (List.mem_cons_of_mem _ hx)
    have o := ok_cps (h w (by simp))
    constructor
    · simp [PySem.PyData.canLayAll0, PySem.PyData.canLay0, o, h1]
    · simp only [List.map_cons, PySem.PyData.depthAll, PySem.PyData.depth]
      omega
end
end J
set_option Elab.async false
set_option linter.all false
set_option maxRecDepth 100000
set_option maxHeartbeats 1010000
/-! VM: counting words by the places of one letter after another -/
namespace Cnt
/-- all ways to put letters of cs on places -/
def asg (al : Nat → Nat → Bool) (cs : List Nat) : List Nat → List (List Nat)
  | [] => [[]]
  | p :: E => (cs.filter (al p)).flatMap fun c => (asg al cs E).map fun w => c :: w
/-- the copies of each letter, with some that stand already, within the bounds -/
def okC (lo hi k : Nat → Nat) (cs w : List Nat) : Bool := cs.all fun c => decide (lo c ≤ w.count c + k c) && decide (w.count c + k c ≤ hi c)
def F (al : Nat → Nat → Bool) (lo hi : Nat → Nat) (cs E : List Nat) (k : Nat → Nat) : Nat := (asg al cs E).countP (okC lo hi k cs)
/-! ### the dict of places -/
end Cnt
set_option Elab.async false
set_option linter.all false
set_option maxRecDepth 100000
set_option maxHeartbeats 1010000
/-! VA: what a run ends with, step by step -/
namespace J
def Wp {α : Type} (m : M α) (S : Store) (Q : α → Store → Prop) : Prop := ∃ a S', m S = .ok a S' ∧ Q a S'
section
variable {α β : Type} {S : Store} {ρ : Rho}
theorem Wp.imp {m : M α} {Q Q' : α → Store → Prop} (h : Wp m S Q) (k : ∀ a S', Q a S' → Q' a S') : Wp m S Q' := let ⟨a, S', e, q⟩ := h; ⟨a, S', e, k a S' q⟩
theorem wp_ok {m : M α} {a : α} {S' : Store} {Q : α → Store → Prop} (e : m S = .ok a S') (q : Q a S') : Wp m S Q := ⟨a, S', e, q⟩
theorem wp_mret {a : α} {Q : α → Store → Prop} (q : Q a S) : Wp (M.ret a) S Q := ⟨a, S, rfl, q⟩
theorem wp_bind {m : M α} {k : α → M β} {Q : β → Store → Prop} (h : Wp m S fun a S1 => Wp (k a) S1 Q) : Wp (M.bind m k) S Q := by
  obtain ⟨a, S1, e, b, S2, e2, q⟩ := h
  exact ⟨b, S2, by unfold M.bind; rw [e]; exact e2, q⟩
theorem wp_sb {m : M α} {k : α → M Fl} {Q : Fl → Store → Prop} (h : Wp m S fun a S1 => Wp (k a) S1 Q) : Wp (sBind m ρ k) S Q := by
  obtain ⟨a, S1, e, b, S2, e2, q⟩ := h
  exact ⟨b, S2, by unfold sBind; rw [e]; exact e2, q⟩
theorem wp_nox {m : M α} {Q : α → Store → Prop} (h : Wp m S Q) : Wp (nox m) S Q := by
  obtain ⟨a, S1, e, q⟩ := h
  exact ⟨a, S1, by unfold nox; rw [e], q⟩
theorem wp_lift {o : Option α} {a : α} {Q : α → Store → Prop} (h : o = some a) (q : Q a S) : Wp (lift o) S Q := ⟨a, S, by rw [h]; rfl, q⟩
theorem wp_liftS {o : Store → Option α} {Q : α → Store → Prop} (h : ∃ a, o S = some a ∧ Q a S) : Wp (fun S => lift (o S) S) S Q := by
  obtain ⟨a, e, q⟩ := h
  exact ⟨a, S, by show lift (o S) S = _; rw [e]; rfl, q⟩
/-! ### expressions -/
variable {Q : D → Store → Prop} {QA : List D → Store → Prop} {QB : Bool → Store → Prop} {QF : Fl → Store → Prop} {QO : Option Int → Store → Prop}
theorem wp_var {i : Nat} {d : D} (h : ρ.getD i none = some d) (q : Q d S) : Wp (iVar i ρ) S Q := wp_lift h q
theorem wp_c {d : D} (q : Q d S) : Wp (iC d ρ) S Q := wp_mret q
theorem wp_op {f : Op2} {a b : IE} (h : Wp (a ρ) S fun x S1 => Wp (b ρ) S1 fun y S2 => ∃ d, f x y S2 = some d ∧ Q d S2) : Wp (iOp f a b ρ) S Q :=
  wp_bind (h.imp fun _ _ k => wp_bind (k.imp fun _ _ e => wp_liftS e))
theorem wp_opM {f : OpB} {a b : IE} (h : Wp (a ρ) S fun x S1 => Wp (b ρ) S1 fun y S2 => Wp (f x y) S2 Q) : Wp (iOpM f a b ρ) S Q :=
  wp_bind (h.imp fun _ _ k => wp_bind k)
theorem wp_nil (q : QA [] S) : Wp (iNil ρ) S QA := wp_mret q
theorem wp_cons {a : IE} {r : IA} (h : Wp (a ρ) S fun x S1 => Wp (r ρ) S1 fun xs S2 => QA (x :: xs) S2) : Wp (iCons a r ρ) S QA :=
  wp_bind (h.imp fun _ _ k => wp_bind (k.imp fun _ _ e => wp_mret e))
theorem wp_star {a : IE} {r : IA} (h : Wp (a ρ) S fun x S1 => ∃ xs, seqA x S1 = some xs ∧ Wp (r ρ) S1 fun ys S2 => QA (xs ++ ys) S2) : Wp (iStar a r ρ) S QA :=
  wp_bind (h.imp fun _ _ ⟨_, e, k⟩ => wp_bind (wp_liftS ⟨_, e, wp_bind (k.imp fun _ _ z => wp_mret z)⟩))
theorem wp_cb {f : OpN} {ia : IA} (h : Wp (ia ρ) S fun xs S1 => ∃ d, f xs S1 = some d ∧ Q d S1) : Wp (iCB f ia ρ) S Q := wp_bind (h.imp fun _ _ e => wp_liftS e)
theorem wp_cm {f : List D → M D} {ia : IA} (h : Wp (ia ρ) S fun xs S1 => Wp (f xs) S1 Q) : Wp (iCM f ia ρ) S Q := wp_bind h
theorem wp_call {n : Nat} {f : List D → M D} {ia : IA} (h : Wp (ia ρ) S fun xs S1 => xs.length = n ∧ Wp (f xs) S1 Q) : Wp (iCall n f ia ρ) S Q :=
  wp_bind (h.imp fun _ _ ⟨e, k⟩ => by rw [if_pos e]; exact k)
theorem wp_callV {n : Nat} {f : List D → M D} {ia : IA} (h : Wp (ia ρ) S fun xs S1 => (n ≤ xs.length ∧ xs.length ≤ 100000) ∧ Wp (f (packV n xs)) S1 Q) : Wp (iCallV n f ia ρ) S Q :=
  wp_bind (h.imp fun _ _ ⟨e, k⟩ => by rw [if_pos e]; exact k)
theorem wp_tup {ia : IA} (h : Wp (ia ρ) S fun xs S1 => xs.length ≤ 100000 ∧ Q (.tup xs) S1) : Wp (iTup ia ρ) S Q :=
  wp_bind (h.imp fun _ _ ⟨e, k⟩ => by rw [if_pos e]; exact wp_mret k)
theorem wp_lst {ia : IA} (h : Wp (ia ρ) S fun xs S1 => xs.length ≤ 100000 ∧ Q (.lst xs) S1) : Wp (iLst ia ρ) S Q :=
  wp_bind (h.imp fun _ _ ⟨e, k⟩ => by rw [if_pos e]; exact wp_mret k)
theorem wp_lstM {ia : IA} (h : Wp (ia ρ) S fun xs S1 => xs.length ≤ 100000 ∧ Q (.ref S1.next) (S1.alloc (.lst xs))) : Wp (iLstM ia ρ) S Q :=
  wp_bind (h.imp fun _ S1 ⟨e, k⟩ => by rw [if_pos e]; exact ⟨_, _, rfl, k⟩)
theorem wp_if {t : IT} {x y : IE} (h : Wp (t ρ) S fun b S1 => Wp (if b = true then x ρ else y ρ) S1 Q) : Wp (iIf t x y ρ) S Q := wp_bind h
theorem wp_notV {t : IT} (h : Wp (t ρ) S fun b S1 => Q (.bl !b) S1) : Wp (iNotV t ρ) S Q := wp_bind (h.imp fun _ _ k => wp_mret k)
theorem wp_andV {a b : IE} (h : Wp (a ρ) S fun d S1 => ∃ c, isB d = some c ∧ if c = true then Wp (b ρ) S1 Q else Q (.bl false) S1) : Wp (iAndV a b ρ) S Q :=
  wp_bind (h.imp fun _ _ ⟨c, e, k⟩ => wp_bind (wp_lift e (by cases c <;> first | exact k | exact wp_mret k)))
theorem wp_orV {a b : IE} (h : Wp (a ρ) S fun d S1 => ∃ c, isB d = some c ∧ if c = true then Q (.bl true) S1 else Wp (b ρ) S1 Q) : Wp (iOrV a b ρ) S Q :=
  wp_bind (h.imp fun _ _ ⟨c, e, k⟩ => wp_bind (wp_lift e (by cases c <;> first | exact k | exact wp_mret k)))
theorem wp_chain {f g : Op2} {a b c : IE} (h : Wp (a ρ) S fun x S1 => Wp (b ρ) S1 fun y S2 => ∃ p, f x y S2 = some (.bl p) ∧ if p = true then Wp (c ρ) S2 fun z S3 => ∃ d, g y z S3 = some d ∧ Q d S3 else Q (.bl false) S2) : Wp (iChain f g a b c ρ) S Q :=
  wp_bind (h.imp fun _ _ k => wp_bind (k.imp fun _ _ ⟨p, e, k⟩ => wp_bind (wp_liftS ⟨p, by rw [e]; rfl, by
    cases p with
    | true => exact wp_bind (k.imp fun _ _ e => wp_liftS e)
    | false => exact wp_mret k⟩)))
theorem wp_bm {Ty : Kd} {f : OpM} {a : IE} {ia : IA} (h : Wp (a ρ) S fun x S1 => kindIs Ty x S1 = true ∧ Wp (ia ρ) S1 fun xs S2 => Wp (f x xs) S2 Q) : Wp (iBM Ty f a ia ρ) S Q :=
  wp_bind (h.imp fun _ _ ⟨e, k⟩ => by
    obtain ⟨d, S3, e3, q⟩ := wp_bind k
    exact ⟨d, S3, by dsimp only; rw [if_pos e]; exact e3, q⟩)
theorem wp_bm0 {Ty : Kd} {f : OpM} {a : IE} (h : Wp (a ρ) S fun x S1 => kindIs Ty x S1 = true ∧ Wp (f x []) S1 Q) : Wp (iBM0 Ty f a ρ) S Q :=
  wp_bind (h.imp fun _ _ ⟨e, k⟩ => by
    obtain ⟨d, S3, e3, q⟩ := k
    exact ⟨d, S3, by dsimp only; rw [if_pos e]; exact e3, q⟩)
theorem wp_noP (q : QO none S) : Wp (iNoPart ρ) S QO := wp_mret q
theorem wp_part {a : IE} (h : Wp (a ρ) S fun d S1 => ∃ i, d = .int i ∧ QO (some i) S1) : Wp (iPart a ρ) S QO := wp_bind (h.imp fun _ _ ⟨_, e, k⟩ => by subst e; exact wp_mret k)
theorem wp_sl {f : OpC} {a : IE} {l u : IO} (h : Wp (a ρ) S fun x S1 => Wp (l ρ) S1 fun lo S2 => Wp (u ρ) S2 fun hi S3 => ∃ d, f x lo hi S3 = some d ∧ Q d S3) : Wp (iSl f a l u ρ) S Q :=
  wp_bind (h.imp fun _ _ k => wp_bind (k.imp fun _ _ k => wp_bind (k.imp fun _ _ e => wp_liftS e)))
theorem wp_fld {T : Tab} {cs : List Nat} {f : Nat} {a : IE} (h : Wp (a ρ) S fun d S1 => ∃ c fs v, insOf T d S1 = some (c, fs) ∧ cs.contains c = true ∧ getF f fs = some v ∧ Q v S1) : Wp (iFld T cs f a ρ) S Q :=
  wp_bind (h.imp fun d S1 ⟨c, fs, v, e1, e2, e3, k⟩ => ⟨v, S1, by
    show (match insOf T d S1 with | some (c, fs) => if cs.contains c = true then lift (getF f fs) S1 else .no | none => .no) = _
    rw [e1]
    dsimp only
    rw [if_pos e2, e3]
    rfl, k⟩)
theorem wp_meth {T : Tab} {c m n : Nat} {f : List D → M D} {a : IE} {ia : IA} (h : Wp (a ρ) S fun o S1 => ∃ fs, insOf T o S1 = some (c, fs) ∧ getF m fs = none ∧ Wp (ia ρ) S1 fun xs S2 => xs.length + 1 = n ∧ Wp (f (o :: xs)) S2 Q) : Wp (iMeth T c m n f a ia ρ) S Q :=
  wp_bind (h.imp fun o S1 ⟨fs, e1, e2, k⟩ => by
    obtain ⟨d, S3, e3, q⟩ := wp_bind (k.imp fun xs _ ⟨e, k⟩ => show Wp (if xs.length + 1 = n then f (o :: xs) else M.no) _ Q by rw [if_pos e]; exact k)
    refine ⟨d, S3, ?_, q⟩
    show (match insOf T o S1 with | some (c', fs) => if c' = c ∧ getF m fs = none then M.bind (ia ρ) (fun xs => if xs.length + 1 = n then f (o :: xs) else M.no) S1 else .no | none => .no) = _
    rw [e1]
    dsimp only
    rw [if_pos ⟨rfl, e2⟩]
    exact e3)
theorem wp_prop {T : Tab} {c : Nat} {f : List D → M D} {a : IE} (h : Wp (a ρ) S fun o S1 => ∃ fs, insOf T o S1 = some (c, fs) ∧ Wp (f [o]) S1 Q) : Wp (iProp T c f a ρ) S Q :=
  wp_bind (h.imp fun o S1 ⟨fs, e1, k⟩ => by
    obtain ⟨d, S3, e3, q⟩ := wp_nox k
    refine ⟨d, S3, ?_, q⟩
    show (match insOf T o S1 with | some (c', _) => if c' = c then nox (f [o]) S1 else .no | none => .no) = _
    rw [e1]
    dsimp only
    rw [if_pos rfl]
    exact e3)
theorem wp_make {T : Tab} {z : Bool} {c k : Nat} {f : List D → M D} {ia : IA} (h : Wp (ia ρ) S fun xs S1 => Wp (makeD T z c k f xs) S1 Q) : Wp (iMake T z c k f ia ρ) S Q := wp_bind h
theorem wp_makeV {T : Tab} {z : Bool} {c k : Nat} {f : List D → M D} {ia : IA} (h : Wp (ia ρ) S fun xs S1 => Wp (makeV T z c k f xs) S1 Q) : Wp (iMakeV T z c k f ia ρ) S Q := wp_bind h
/-! ### tests -/
theorem wp_tst {a : IE} (h : Wp (a ρ) S fun d S1 => ∃ b, isB d = some b ∧ QB b S1) : Wp (iTst a ρ) S QB := wp_bind (h.imp fun _ _ ⟨_, e, k⟩ => wp_lift e k)
theorem wp_tr {T : Tab} {cs : List Nat} {a : IE} (h : Wp (a ρ) S fun d S1 => ∃ b, truO T cs d S1 = some b ∧ QB b S1) : Wp (iTr T cs a ρ) S QB := wp_bind (h.imp fun _ _ e => wp_liftS e)
theorem wp_yes (q : QB true S) : Wp (iYes ρ) S QB := wp_mret q
theorem wp_not {t : IT} (h : Wp (t ρ) S fun b S1 => QB (!b) S1) : Wp (iNot t ρ) S QB := wp_bind (h.imp fun _ _ k => wp_mret k)
theorem wp_and {s t : IT} (h : Wp (s ρ) S fun b S1 => if b = true then Wp (t ρ) S1 QB else QB false S1) : Wp (iAnd s t ρ) S QB :=
  wp_bind (h.imp fun b _ k => by cases b <;> first | exact k | exact wp_mret k)
theorem wp_or {s t : IT} (h : Wp (s ρ) S fun b S1 => if b = true then QB true S1 else Wp (t ρ) S1 QB) : Wp (iOr s t ρ) S QB :=
  wp_bind (h.imp fun b _ k => by cases b <;> first | exact k | exact wp_mret k)
/-! ### what is walked -/
theorem wp_range {f : List D → Option (List D)} {ia : IA} (h : Wp (ia ρ) S fun xs S1 => ∃ ys, f xs = some ys ∧ QA ys S1) : Wp (iRange f ia ρ) S QA := wp_bind (h.imp fun _ _ ⟨_, e, k⟩ => wp_lift e k)
theorem wp_items {a : IE} (h : Wp (a ρ) S fun d S1 => ∃ ys, items d = some ys ∧ QA ys S1) : Wp (iItems a ρ) S QA := wp_bind (h.imp fun _ _ ⟨_, e, k⟩ => wp_lift e k)
theorem wp_zip {ia : IA} (h : Wp (ia ρ) S fun xs S1 => ∃ ys, zipOfA xs = some ys ∧ QA ys S1) : Wp (iZipA ia ρ) S QA := wp_bind (h.imp fun _ _ ⟨_, e, k⟩ => wp_lift e k)
theorem wp_enum {ia : IA} (h : Wp (ia ρ) S fun xs S1 => ∃ ys, enumOf xs = some ys ∧ QA ys S1) : Wp (iEnumD ia ρ) S QA := wp_bind (h.imp fun _ _ ⟨_, e, k⟩ => wp_lift e k)
/-! ### statements -/
def sK (b : IS) (QF : Fl → Store → Prop) (fl : Fl) (S : Store) : Prop := match fl with
  | .nx ρ => Wp (b ρ) S QF
  | fl => QF fl S
theorem sK_nx {b : IS} (h : Wp (b ρ) S QF) : sK b QF (.nx ρ) S := h
theorem sK_rt {b : IS} {d : D} (h : QF (.rt d) S) : sK b QF (.rt d) S := h
theorem wp_seq {a b : IS} (h : Wp (a ρ) S (sK b QF)) : Wp (sSeq a b ρ) S QF := by
  obtain ⟨fl, S1, e, k⟩ := h
  cases fl with
  | nx ρ1 =>
    obtain ⟨fl2, S2, e2, q⟩ := k
    exact ⟨fl2, S2, by unfold sSeq; rw [e]; exact e2, q⟩
  | _ => exact ⟨_, S1, by unfold sSeq; rw [e], k⟩
theorem wp_next (q : QF (.nx ρ) S) : Wp (sNext ρ) S QF := wp_mret q
theorem wp_expr {a : IE} (h : Wp (a ρ) S fun _ S1 => QF (.nx ρ) S1) : Wp (sExpr a ρ) S QF := wp_sb (h.imp fun _ _ k => wp_mret k)
theorem wp_asg {i : Nat} {a : IE} (h : Wp (a ρ) S fun d S1 => QF (.nx (ρ.set i (some d))) S1) : Wp (sAsg i a ρ) S QF := wp_sb (h.imp fun _ _ k => wp_mret k)
theorem wp_asgG {g : NG} {a : IE} (h : Wp (a ρ) S fun d S1 => ∃ ρ1, ngD g d ρ = some ρ1 ∧ QF (.nx ρ1) S1) : Wp (sAsgG g a ρ) S QF := wp_sb (h.imp fun _ _ ⟨_, e, k⟩ => by rw [e]; exact wp_mret k)
theorem wp_retS {a : IE} (h : Wp (a ρ) S fun d S1 => QF (.rt d) S1) : Wp (sRet a ρ) S QF := wp_sb (h.imp fun _ _ k => wp_mret k)
theorem wp_retN (q : QF (.rt .non) S) : Wp (sRetN ρ) S QF := wp_mret q
theorem wp_ifS {t : IT} {a b : IS} (h : Wp (t ρ) S fun c S1 => Wp (if c = true then a ρ else b ρ) S1 QF) : Wp (sIf t a b ρ) S QF := wp_sb h
theorem wp_par {i j : Nat} {a b : IE} (h : Wp (a ρ) S fun x S1 => Wp (b ρ) S1 fun y S2 => QF (.nx ((ρ.set i (some x)).set j (some y))) S2) : Wp (sPar i j (iCons a (iCons b iNil)) ρ) S QF :=
  wp_sb (wp_cons (h.imp fun _ _ k => wp_cons (k.imp fun _ _ q => wp_nil (wp_mret q))))
theorem wp_par3 {i j l : Nat} {a b c : IE} (h : Wp (a ρ) S fun x S1 => Wp (b ρ) S1 fun y S2 => Wp (c ρ) S2 fun z S3 => QF (.nx (((ρ.set i (some x)).set j (some y)).set l (some z))) S3) : Wp (sPar3 i j l (iCons a (iCons b (iCons c iNil))) ρ) S QF :=
  wp_sb (wp_cons (h.imp fun _ _ k => wp_cons (k.imp fun _ _ k => wp_cons (k.imp fun _ _ q => wp_nil (wp_mret q)))))
theorem wp_frz {i m : Nat} {o : MO} {d : D} (h : ρ.getD i none = some (.ref m)) (g : S.get m = some o) (z : frzO o = some d) (q : QF (.nx (ρ.set i (some d))) (S.del m)) : Wp (sFrz i ρ) S QF :=
  ⟨_, _, by unfold sFrz; rw [h]; dsimp only; rw [g]; dsimp only [Option.bind_some]; rw [z], q⟩
/-- a def: its value -/
def dK (N : Nat) (Q : D → Store → Prop) (fl : Fl) (S : Store) : Prop := match fl with
  | .nx _ => Q .non (S.trim N)
  | .rt d => Q d (S.trim N)
  | _ => False
theorem dK_rt {N : Nat} {d : D} (h : Q d (S.trim N)) : dK N Q (.rt d) S := h
theorem wp_def {n : Nat} {b : IS} {ds : List D} (h : Wp (b (startR n ds)) S (dK S.next Q)) : Wp (defJ n false b ds) S Q := by
  obtain ⟨fl, S1, e, k⟩ := h
  cases fl with
  | nx ρ1 => exact ⟨.non, _, by unfold defJ; rw [e]; rfl, k⟩
  | rt d => exact ⟨d, _, by unfold defJ; rw [e]; rfl, k⟩
  | _ => exact k.elim
end
/-! ### loops -/
def updR (ρ : Rho) : List Nat → List (Option D) → Rho
  | i :: is, y :: ys => updR (ρ.set i y) is ys
  | _, _ => ρ
def lK {γ : Type} (ρ0 : Rho) (is : List Nat) (I : List γ → List (Option D) → Store → Prop) (QF : Fl → Store → Prop) (pre : List γ) (fl : Fl) (S : Store) : Prop := match fl with
  | .nx ρ => ∃ ys, ys.length = is.length ∧ ρ = updR ρ0 is ys ∧ I pre ys S
  | .ct ρ => ∃ ys, ys.length = is.length ∧ ρ = updR ρ0 is ys ∧ I pre ys S
  | .bk ρ => QF (.nx ρ) S
  | fl => QF fl S
section
variable {γ : Type} {S : Store} {ρ0 : Rho} {is : List Nat} {I : List γ → List (Option D) → Store → Prop} {QF : Fl → Store → Prop}
theorem lK_nx {pre : List γ} {ρ : Rho} (ys : List (Option D)) (hl : ys.length = is.length) (e : ρ = updR ρ0 is ys) (h : I pre ys S) : lK ρ0 is I QF pre (.nx ρ) S := ⟨ys, hl, e, h⟩
theorem lK_rt {pre : List γ} {d : D} (h : QF (.rt d) S) : lK ρ0 is I QF pre (.rt d) S := h
theorem wp_forL {g : NG} {body : IS} (e : γ → D) (step : ∀ (x : γ) (pre : List γ) (ys : List (Option D)) (S : Store), ys.length = is.length → I pre ys S → (∃ post, xs = pre ++ x :: post) → ∃ ρ1, ngD g (e x) (updR ρ0 is ys) = some ρ1 ∧ Wp (body ρ1) S (lK ρ0 is I QF (pre ++ [x])))
    (fin : ∀ ys S, ys.length = is.length → I xs ys S → QF (.nx (updR ρ0 is ys)) S) : ∀ (post pre : List γ) (ys : List (Option D)) (S : Store), xs = pre ++ post → ys.length = is.length → I pre ys S → Wp (forL g body (post.map e) (updR ρ0 is ys)) S QF
  | [], pre, ys, S, hx, hl, hI => by
    rw [List.append_nil] at hx
    subst hx
    exact wp_mret (fin ys S hl hI)
  | x :: post, pre, ys, S, hx, hl, hI => by
    obtain ⟨ρ1, e1, fl, S1, b1, k⟩ := step x pre ys S hl hI ⟨post, hx⟩
    cases fl with
    | nx ρ2 =>
      obtain ⟨zs, hz, rfl, hI2⟩ := k
      obtain ⟨fl, S2, e2, q⟩ := wp_forL e step fin post (pre ++ [x]) zs S1 (by rw [hx]; simp) hz hI2
      exact ⟨fl, S2, by
        show forL g body (e x :: post.map e) _ S = _
        unfold forL
        simp only [e1, b1]
        exact e2, q⟩
    | ct ρ2 =>
      obtain ⟨zs, hz, rfl, hI2⟩ := k
      obtain ⟨fl, S2, e2, q⟩ := wp_forL e step fin post (pre ++ [x]) zs S1 (by rw [hx]; simp) hz hI2
      exact ⟨fl, S2, by
        show forL g body (e x :: post.map e) _ S = _
        unfold forL
        simp only [e1, b1]
        exact e2, q⟩
    | bk ρ2 => exact ⟨_, S1, by
      show forL g body (e x :: post.map e) _ S = _
      unfold forL
      simp only [e1, b1], k⟩
    | rt d => exact ⟨_, S1, by
      show forL g body (e x :: post.map e) _ S = _
      unfold forL
      simp only [e1, b1], k⟩
    | xx c fs ρ2 => exact ⟨_, S1, by
      show forL g body (e x :: post.map e) _ S = _
      unfold forL
      simp only [e1, b1], k⟩
/-- for x in ..: the slots is change, everything else stays; I: what holds of the slots' values and the store behind the elements pre -/
theorem wp_for {src : IA} {g : NG} {body : IS} (e : γ → D) (xs : List γ) (is : List Nat) (I : List γ → List (Option D) → Store → Prop)
    (hs : Wp (src ρ0) S fun ys S1 => ys = xs.map e ∧ ∃ zs, zs.length = is.length ∧ ρ0 = updR ρ0 is zs ∧ I [] zs S1)
    (step : ∀ (x : γ) (pre : List γ) (ys : List (Option D)) (S : Store), ys.length = is.length → I pre ys S → (∃ post, xs = pre ++ x :: post) → ∃ ρ1, ngD g (e x) (updR ρ0 is ys) = some ρ1 ∧ Wp (body ρ1) S (lK ρ0 is I QF (pre ++ [x])))
    (fin : ∀ ys S, ys.length = is.length → I xs ys S → QF (.nx (updR ρ0 is ys)) S) : Wp (sFor src g body ρ0) S QF := by
  refine wp_sb (hs.imp fun ys S1 ⟨e1, zs, hz, e2, hI⟩ => ?_)
  subst e1
  have := wp_forL (g := g) (body := body) e step fin xs [] zs S1 rfl hz hI
  rwa [← e2] at this
end
/-! ### comprehensions that draw -/
section
variable {γ : Type} {S : Store} {ρ : Rho}
theorem wp_lcL {g : NG} {t : IT} {ie : IE} {QA : List D → Store → Prop} (e : γ → D) (I : List γ → List D → Store → Prop) (step : ∀ (x : γ) (pre : List γ) (r : List D) (S : Store), (∃ post, xs = pre ++ x :: post) → I pre r S → ∃ ρ1, ngD g (e x) ρ = some ρ1 ∧ Wp (t ρ1) S fun b S1 => if b = true then Wp (ie ρ1) S1 fun d S2 => I (pre ++ [x]) (r ++ [d]) S2 else I (pre ++ [x]) r S1) :
    ∀ (post pre : List γ) (r : List D) (S : Store), xs = pre ++ post → I pre r S → (∀ r' S', I xs (r ++ r') S' → QA r' S') → Wp (lcL g t ie ρ (post.map e)) S QA
  | [], pre, r, S, hx, hI, fin => by
    rw [List.append_nil] at hx
    subst hx
    exact wp_mret (fin [] S (by rw [List.append_nil]; exact hI))
  | x :: post, pre, r, S, hx, hI, fin => by
    obtain ⟨ρ1, e1, h1⟩ := step x pre r S ⟨post, hx⟩ hI
    rw [List.map_cons]
    rw [lcL_cons_some e1]
    refine wp_bind (wp_nox (h1.imp fun b S1 k => ?_))
    cases b with
    | true =>
      rw [if_pos rfl] at k ⊢
      refine wp_bind (wp_nox (k.imp fun d S2 k2 => wp_bind ?_))
      refine (wp_lcL (QA := fun r' S' => QA (d :: r') S') e I step post (pre ++ [x]) (r ++ [d]) S2 (by rw [hx]; simp) k2 fun r' S' q => fin (d :: r') S' ?_).imp fun _ _ q => wp_mret q
      rw [List.append_assoc] at q
      exact q
    | false =>
      rw [if_neg Bool.false_ne_true] at k ⊢
      exact wp_lcL e I step post (pre ++ [x]) r S1 (by rw [hx]; simp) k fin
theorem wp_lc {src : IA} {g : NG} {t : IT} {ie : IE} {vs : List Nat} {Q : D → Store → Prop} (e : γ → D) (xs : List γ) (I : List γ → List D → Store → Prop)
    (hs : Wp (src ρ) S fun ys S1 => ys = xs.map e ∧ I [] [] S1) (hl : xs.length < 100000)
    (step : ∀ (x : γ) (pre : List γ) (r : List D) (S : Store), (∃ post, xs = pre ++ x :: post) → I pre r S → ∃ ρ1, ngD g (e x) (wipeR ρ vs) = some ρ1 ∧ Wp (t ρ1) S fun b S1 => if b = true then Wp (ie ρ1) S1 fun d S2 => I (pre ++ [x]) (r ++ [d]) S2 else I (pre ++ [x]) r S1)
    (fin : ∀ r S, I xs r S → Q (.lst r) S) : Wp (iLc src g t ie vs ρ) S Q := by
  refine wp_bind (hs.imp fun ys S1 ⟨e1, hI⟩ => ?_)
  subst e1
  rw [if_pos (by rw [List.length_map]; exact hl)]
  exact wp_bind ((wp_lcL (QA := fun r S => Q (.lst r) S) e I step xs [] [] S1 rfl hI fun r' S' q => fin r' S' q).imp fun _ _ q => wp_mret q)
end
/-! ### what is known of the store: the bowl at n, and lists that are being made -/
structure Kn (S : Store) (n : Nat) (L : List (Nat × MO)) : Prop where
  bw : Bw S n
  at_ : ∀ p ∈ L, S.get p.1 = some p.2
  lt : ∀ p ∈ L, n < p.1 ∧ p.1 < S.next
  nd : L.Pairwise fun p q => p.1 ≠ q.1
section
variable {S S' : Store} {n m : Nat} {o : MO} {L : List (Nat × MO)}
theorem Kn.of (b : Bw S n) : Kn S n [] := ⟨b, by simp, by simp, by simp⟩
theorem Kn.kp (k : Kn S n L) (h : Kp n S S') (b : Bw S' n) : Kn S' n L := ⟨b, fun p hp => (h.get _ (k.lt p hp).2 (Nat.ne_of_gt (k.lt p hp).1)).trans (k.at_ p hp), fun p hp => ⟨(k.lt p hp).1, Nat.lt_of_lt_of_le (k.lt p hp).2 h.next⟩, k.nd⟩
theorem Kn.kq (k : Kn S n L) (h : Kq S S') : Kn S' n L := k.kp h.kp (k.bw.kq h)
theorem Kn.new (k : Kn S n L) : Kn (S.alloc o) n ((S.next, o) :: L) := by
  have z := k.kq (kq_alloc (o := o))
  refine ⟨z.bw, fun p hp => ?_, fun p hp => ?_, List.pairwise_cons.mpr ⟨fun q hq => (Nat.ne_of_gt (k.lt q hq).2), k.nd⟩⟩
  · rcases List.mem_cons.mp hp with rfl | h
    · exact Store.get_alloc_self _ _
    · exact z.at_ p h
  · rcases List.mem_cons.mp hp with rfl | h
    · exact ⟨k.bw.1, Nat.lt_succ_self _⟩
    · exact z.lt p h
theorem Kn.swap {p q : Nat × MO} (k : Kn S n (p :: q :: L)) : Kn S n (q :: p :: L) := by
  refine ⟨k.bw, fun r hr => k.at_ r ?_, fun r hr => k.lt r ?_, ?_⟩
  · simp only [List.mem_cons] at hr ⊢
    rcases hr with h | h | h
    · exact .inr (.inl h)
    · exact .inl h
    · exact .inr (.inr h)
  · simp only [List.mem_cons] at hr ⊢
    rcases hr with h | h | h
    · exact .inr (.inl h)
    · exact .inl h
    · exact .inr (.inr h)
  · have h := k.nd
    rw [List.pairwise_cons, List.pairwise_cons] at h ⊢
    refine ⟨fun r hr => ?_, fun r hr => h.1 r (List.mem_cons_of_mem _ hr), h.2.2⟩
    rcases List.mem_cons.mp hr with rfl | hr2
    · exact Ne.symm (h.1 _ (by simp))
    · exact h.2.1 r hr2
theorem Kn.get (k : Kn S n ((m, o) :: L)) : S.get m = some o := k.at_ _ (List.mem_cons_self ..)
theorem Kn.set {o' : MO} (k : Kn S n ((m, o) :: L)) : Kn (S.set m o') n ((m, o') :: L) := by
  have hm := k.lt (m, o) (by simp)
  have hL := List.pairwise_cons.mp k.nd
  refine ⟨k.bw.kp kp_set (Nat.ne_of_lt hm.1), fun p hp => ?_, fun p hp => ?_, List.pairwise_cons.mpr ⟨fun q hq => hL.1 q hq, hL.2⟩⟩
  · rcases List.mem_cons.mp hp with rfl | h
    · exact Store.get_set_self _ _ _
    · rw [Store.get_set_ne _ _ (Ne.symm (hL.1 p h))]
      exact k.at_ p (List.mem_cons_of_mem _ h)
  · rcases List.mem_cons.mp hp with rfl | h
    · exact hm
    · exact k.lt p (List.mem_cons_of_mem _ h)
theorem Kn.del (k : Kn S n ((m, o) :: L)) : Kn (S.del m) n L := by
  have hm := k.lt (m, o) (by simp)
  have hL := List.pairwise_cons.mp k.nd
  refine ⟨k.bw.del (Nat.ne_of_lt hm.1), fun p hp => ?_, fun p hp => k.lt p (List.mem_cons_of_mem _ hp), hL.2⟩
  rw [Store.get_del, if_neg (Ne.symm (hL.1 p hp))]
  exact k.at_ p (List.mem_cons_of_mem _ hp)
end
/-! ### the tactics -/
theorem ex_of {α : Type} {p : Option α} {q : α → Prop} {d : α} (h : p = some d) (k : q d) : ∃ d, p = some d ∧ q d := ⟨d, h, k⟩
theorem ex_int {i : Int} {q : Int → Prop} (k : q i) : ∃ j, D.int i = .int j ∧ q j := ⟨i, rfl, k⟩
theorem ex_fld {T : Tab} {d : D} {S : Store} {cs : List Nat} {f c : Nat} {fs : List (Nat × D)} {v : D} {q : D → Prop} (h1 : insOf T d S = some (c, fs)) (h2 : cs.contains c = true) (h3 : getF f fs = some v) (k : q v) : ∃ c fs v, insOf T d S = some (c, fs) ∧ cs.contains c = true ∧ getF f fs = some v ∧ q v := ⟨c, fs, v, h1, h2, h3, k⟩
theorem if_t {p : Prop} [Decidable p] {a b : Prop} (hp : p) (h : a) : if p then a else b := by rw [if_pos hp]; exact h
theorem if_f {p : Prop} [Decidable p] {a b : Prop} (hp : ¬p) (h : b) : if p then a else b := by rw [if_neg hp]; exact h
end J
set_option Elab.async false
set_option linter.all false
set_option maxRecDepth 100000
set_option maxHeartbeats 1010000
/-! VB: tactics for runs, draws -/
namespace J
theorem range1_map {n : Nat} {S : Store} (h : n ≤ 1000) : range1 [.int (n : Int)] = some ((List.range n).map fun i : Nat => D.int (i : Int)) := by
  rw [range1_nat h]
  simp [rng]
local macro_rules | `(tactic| walk_at "wop") => `(tactic| first | (with_reducible exact addD_int) | (with_reducible exact subI_int) | (with_reducible exact eqD_int) | (with_reducible exact eqD_str) | (with_reducible exact eqD_bl) | (with_reducible exact neD_int) | (with_reducible exact neD_str) | (with_reducible exact neD_bl) | (with_reducible exact ltI_int) | (with_reducible exact leI_int) | (with_reducible exact gtI_int) | (with_reducible exact geI_int) | (with_reducible exact lenD_tup) | (with_reducible exact tup_lst) | (with_reducible exact addD_str (by first | omega | (simp; done) | (simp; omega))) | (with_reducible exact lenD_str (by first | omega | (simp; done) | (simp; omega))) | (with_reducible exact lenD_lst (by first | omega | (simp; done) | (simp; omega))) | (with_reducible exact slD_str (by first | omega | (simp; done) | (simp; omega))) | (with_reducible exact addD_list (by first | omega | (simp; done) | (simp; omega))) | (with_reducible exact range1_map (S := ⟨[], 0⟩) (by first | omega | (simp; done) | (simp; omega))) | (with_reducible exact addD_tupA (by first | omega | (simp; done) | (simp; omega))) | (exact rfl))
local macro_rules | `(tactic| walk_at "wx1") => `(tactic| first | (((with_reducible apply wp_var); · rfl)) | (with_reducible refine wp_seq ?_) | (with_reducible refine sK_nx ?_) | (with_reducible refine sK_rt ?_) | (with_reducible refine dK_rt ?_) | (with_reducible refine wp_c ?_) | (with_reducible refine wp_asg ?_) | (with_reducible refine wp_par ?_) | (with_reducible refine wp_par3 ?_) | (with_reducible refine wp_ifS ?_) | (with_reducible refine wp_retS ?_) | (with_reducible refine wp_expr ?_) | (with_reducible refine wp_next ?_) | (with_reducible refine wp_op ?_) | (with_reducible refine wp_cons ?_) | (with_reducible refine wp_nil ?_) | (with_reducible refine wp_call ?_) | (with_reducible refine wp_cb ?_) | (with_reducible refine wp_tst ?_) | (with_reducible refine wp_not ?_) | (with_reducible refine wp_and ?_) | (with_reducible refine wp_or ?_) | (with_reducible refine wp_andV ?_) | (with_reducible refine wp_orV ?_) | (with_reducible refine wp_notV ?_) | (with_reducible refine wp_if ?_) | (with_reducible refine wp_tup ?_) | (with_reducible refine wp_lst ?_) | (with_reducible refine wp_lstM ?_) | (with_reducible refine wp_bm ?_) | (with_reducible refine wp_sl ?_) | (with_reducible refine wp_noP ?_) | (with_reducible refine wp_part ?_) | (with_reducible refine wp_chain ?_) | (with_reducible refine wp_fld ?_) | (with_reducible refine wp_make ?_) | (with_reducible refine wp_range ?_) | (with_reducible refine wp_items ?_) | (with_reducible refine wp_zip ?_) | (with_reducible refine wp_enum ?_) | (with_reducible refine wp_yes ?_) | (with_reducible refine wp_star ?_) | (with_reducible refine wp_callV ?_) | (with_reducible refine wp_makeV ?_) | (with_reducible refine wp_meth ?_) | (with_reducible refine wp_retN ?_) | (with_reducible refine wp_cm ?_) | (with_reducible refine wp_asgG ?_) | (with_reducible refine ex_int ?_) | (with_reducible refine wp_opM ?_) | (with_reducible refine wp_prop ?_) | (with_reducible refine wp_tr ?_) | (with_reducible refine wp_bm0 ?_) | (with_reducible refine lK_rt ?_) | (((with_reducible apply ex_of); · walk_at "wop")) | (((with_reducible apply ex_fld); · rfl; · rfl; · rfl)) | (((with_reducible apply And.intro); · first | rfl | decide | (simp; done))))
theorem p_ite {b : Bool} {p q : Prop} (h1 : b = true → p) (h2 : b = false → q) : if b = true then p else q := by
  cases b with
  | true => exact h1 rfl
  | false => exact h2 rfl
theorem p_itp {p : Prop} [Decidable p] {a b : Prop} (h1 : p → a) (h2 : ¬p → b) : if decide p = true then a else b :=
  p_ite (fun h => h1 (of_decide_eq_true h)) (fun h => h2 (of_decide_eq_false h))
/-! draws -/
section
variable {S : Store} {n : Nat} {L : List (Nat × MO)} {Q : D → Store → Prop}
/-- xs.append(e) for a list that is being made -/
theorem wp_app {ρ : Rho} {i m : Nat} {xs : List D} {a : IE} {QF : Fl → Store → Prop} (hi : ρ.getD i none = some (.ref m)) (kn : Kn S n ((m, .lst xs) :: L)) (hx : xs.length < 100000)
    (h : Wp (a ρ) S fun d S1 => Kn S1 n ((m, .lst xs) :: L) ∧ ∀ S', Kn S' n ((m, .lst (xs ++ [d])) :: L) → QF (.nx ρ) S') : Wp (sExpr (iBM .l lstApp (iVar i) (iCons a iNil)) ρ) S QF := by
  refine wp_expr (wp_bm (wp_var hi ⟨by simp [kindIs, kn.get], ?_⟩))
  refine wp_cons (h.imp fun d S1 ⟨k1, q⟩ => wp_nil ?_)
  exact wp_ok (lstApp_get k1.get hx) (q _ k1.set)
end
end J
set_option Elab.async false
set_option linter.all false
set_option maxRecDepth 100000
set_option maxHeartbeats 1010000
/-! VC: filling within bounds, as the program runs it -/
namespace J
local macro_rules | `(tactic| walk_at "wop") => `(tactic| first | (with_reducible exact addD_int) | (with_reducible exact subI_int) | (with_reducible exact eqD_int) | (with_reducible exact eqD_str) | (with_reducible exact eqD_bl) | (with_reducible exact neD_int) | (with_reducible exact neD_str) | (with_reducible exact neD_bl) | (with_reducible exact ltI_int) | (with_reducible exact leI_int) | (with_reducible exact gtI_int) | (with_reducible exact geI_int) | (with_reducible exact lenD_tup) | (with_reducible exact tup_lst) | (with_reducible exact addD_str (by first | omega | (simp; done) | (simp; omega))) | (with_reducible exact lenD_str (by first | omega | (simp; done) | (simp; omega))) | (with_reducible exact lenD_lst (by first | omega | (simp; done) | (simp; omega))) | (with_reducible exact slD_str (by first | omega | (simp; done) | (simp; omega))) | (with_reducible exact addD_list (by first | omega | (simp; done) | (simp; omega))) | (with_reducible exact range1_map (S := ⟨[], 0⟩) (by first | omega | (simp; done) | (simp; omega))) | (with_reducible exact addD_tupA (by first | omega | (simp; done) | (simp; omega))) | (exact rfl))
local macro_rules | `(tactic| walk_at "wx1") => `(tactic| first | (((with_reducible apply wp_var); · rfl)) | (with_reducible refine wp_seq ?_) | (with_reducible refine sK_nx ?_) | (with_reducible refine sK_rt ?_) | (with_reducible refine dK_rt ?_) | (with_reducible refine wp_c ?_) | (with_reducible refine wp_asg ?_) | (with_reducible refine wp_par ?_) | (with_reducible refine wp_par3 ?_) | (with_reducible refine wp_ifS ?_) | (with_reducible refine wp_retS ?_) | (with_reducible refine wp_expr ?_) | (with_reducible refine wp_next ?_) | (with_reducible refine wp_op ?_) | (with_reducible refine wp_cons ?_) | (with_reducible refine wp_nil ?_) | (with_reducible refine wp_call ?_) | (with_reducible refine wp_cb ?_) | (with_reducible refine wp_tst ?_) | (with_reducible refine wp_not ?_) | (with_reducible refine wp_and ?_) | (with_reducible refine wp_or ?_) | (with_reducible refine wp_andV ?_) | (with_reducible refine wp_orV ?_) | (with_reducible refine wp_notV ?_) | (with_reducible refine wp_if ?_) | (with_reducible refine wp_tup ?_) | (with_reducible refine wp_lst ?_) | (with_reducible refine wp_lstM ?_) | (with_reducible refine wp_bm ?_) | (with_reducible refine wp_sl ?_) | (with_reducible refine wp_noP ?_) | (with_reducible refine wp_part ?_) | (with_reducible refine wp_chain ?_) | (with_reducible refine wp_fld ?_) | (with_reducible refine wp_make ?_) | (with_reducible refine wp_range ?_) | (with_reducible refine wp_items ?_) | (with_reducible refine wp_zip ?_) | (with_reducible refine wp_enum ?_) | (with_reducible refine wp_yes ?_) | (with_reducible refine wp_star ?_) | (with_reducible refine wp_callV ?_) | (with_reducible refine wp_makeV ?_) | (with_reducible refine wp_meth ?_) | (with_reducible refine wp_retN ?_) | (with_reducible refine wp_cm ?_) | (with_reducible refine wp_asgG ?_) | (with_reducible refine ex_int ?_) | (with_reducible refine wp_opM ?_) | (with_reducible refine wp_prop ?_) | (with_reducible refine wp_tr ?_) | (with_reducible refine wp_bm0 ?_) | (with_reducible refine lK_rt ?_) | (((with_reducible apply ex_of); · walk_at "wop")) | (((with_reducible apply ex_fld); · rfl; · rfl; · rfl)) | (((with_reducible apply And.intro); · first | rfl | decide | (simp; done))))
/-! ### what stands in the store -/
structure Ks (A : List Nat) (S S' : Store) : Prop where
  next : S.next ≤ S'.next
  get : ∀ m, m < S.next → m ∉ A → S'.get m = S.get m
theorem Ks.refl (A : List Nat) (S : Store) : Ks A S S := ⟨Nat.le_refl _, fun _ _ _ => rfl⟩
theorem Ks.trans {A : List Nat} {S S1 S2 : Store} (h : Ks A S S1) (k : Ks A S1 S2) : Ks A S S2 := ⟨Nat.le_trans h.next k.next, fun m hm hn => (k.get m (Nat.lt_of_lt_of_le hm h.next) hn).trans (h.get m hm hn)⟩
theorem Ks.set {A : List Nat} {S : Store} {m : Nat} {o : MO} (h : m ∈ A) : Ks A S (S.set m o) := ⟨Nat.le_refl _, fun i _ hi => S.get_set_ne o fun e => hi (e ▸ h)⟩
theorem Ks.trim {A : List Nat} {S S' : Store} (h : Ks A S S') : Ks A S (S'.trim S.next) := ⟨h.next, fun m hm hn => by rw [Store.get_trim, if_pos hm]; exact h.get m hm hn⟩
theorem Ks.alloc {A : List Nat} {S : Store} {o : MO} : Ks A S (S.alloc o) := ⟨Nat.le_succ _, fun m hm _ => S.get_alloc_ne o (Nat.ne_of_lt hm)⟩
theorem Ks.sub {A B : List Nat} {S S' : Store} (h : Ks A S S') (k : ∀ m, m < S.next → m ∉ B → m ∉ A) : Ks B S S' := ⟨h.next, fun m hm hn => h.get m hm (k m hm hn)⟩
theorem Ks.kq {S S' : Store} (h : Ks [] S S') : Kq S S' := ⟨h.next, fun m hm => h.get m hm (by simp)⟩
/-! ### give -/
structure SO (n : Nat) (s : List Nat) : Prop where
  nd : s.Nodup
  lt : ∀ p ∈ s, p < n
theorem SO.len {n : Nat} {s : List Nat} (h : SO n s) : s.length ≤ n := by
  have := (List.nodup_range (n := n)).length_le_of_subset (l₂ := s)
  have k := h.nd.length_le_of_subset (l₂ := List.range n) (fun p hp => List.mem_range.mpr (h.lt p hp))
  rwa [List.length_range] at k
end J
set_option Elab.async false
set_option linter.all false
set_option maxRecDepth 100000
set_option maxHeartbeats 1010000
/-! VD: take, fill -/
namespace J
local macro_rules | `(tactic| walk_at "wop") => `(tactic| first | (with_reducible exact addD_int) | (with_reducible exact subI_int) | (with_reducible exact eqD_int) | (with_reducible exact eqD_str) | (with_reducible exact eqD_bl) | (with_reducible exact neD_int) | (with_reducible exact neD_str) | (with_reducible exact neD_bl) | (with_reducible exact ltI_int) | (with_reducible exact leI_int) | (with_reducible exact gtI_int) | (with_reducible exact geI_int) | (with_reducible exact lenD_tup) | (with_reducible exact tup_lst) | (with_reducible exact addD_str (by first | omega | (simp; done) | (simp; omega))) | (with_reducible exact lenD_str (by first | omega | (simp; done) | (simp; omega))) | (with_reducible exact lenD_lst (by first | omega | (simp; done) | (simp; omega))) | (with_reducible exact slD_str (by first | omega | (simp; done) | (simp; omega))) | (with_reducible exact addD_list (by first | omega | (simp; done) | (simp; omega))) | (with_reducible exact range1_map (S := ⟨[], 0⟩) (by first | omega | (simp; done) | (simp; omega))) | (with_reducible exact addD_tupA (by first | omega | (simp; done) | (simp; omega))) | (exact rfl))
local macro_rules | `(tactic| walk_at "wx1") => `(tactic| first | (((with_reducible apply wp_var); · rfl)) | (with_reducible refine wp_seq ?_) | (with_reducible refine sK_nx ?_) | (with_reducible refine sK_rt ?_) | (with_reducible refine dK_rt ?_) | (with_reducible refine wp_c ?_) | (with_reducible refine wp_asg ?_) | (with_reducible refine wp_par ?_) | (with_reducible refine wp_par3 ?_) | (with_reducible refine wp_ifS ?_) | (with_reducible refine wp_retS ?_) | (with_reducible refine wp_expr ?_) | (with_reducible refine wp_next ?_) | (with_reducible refine wp_op ?_) | (with_reducible refine wp_cons ?_) | (with_reducible refine wp_nil ?_) | (with_reducible refine wp_call ?_) | (with_reducible refine wp_cb ?_) | (with_reducible refine wp_tst ?_) | (with_reducible refine wp_not ?_) | (with_reducible refine wp_and ?_) | (with_reducible refine wp_or ?_) | (with_reducible refine wp_andV ?_) | (with_reducible refine wp_orV ?_) | (with_reducible refine wp_notV ?_) | (with_reducible refine wp_if ?_) | (with_reducible refine wp_tup ?_) | (with_reducible refine wp_lst ?_) | (with_reducible refine wp_lstM ?_) | (with_reducible refine wp_bm ?_) | (with_reducible refine wp_sl ?_) | (with_reducible refine wp_noP ?_) | (with_reducible refine wp_part ?_) | (with_reducible refine wp_chain ?_) | (with_reducible refine wp_fld ?_) | (with_reducible refine wp_make ?_) | (with_reducible refine wp_range ?_) | (with_reducible refine wp_items ?_) | (with_reducible refine wp_zip ?_) | (with_reducible refine wp_enum ?_) | (with_reducible refine wp_yes ?_) | (with_reducible refine wp_star ?_) | (with_reducible refine wp_callV ?_) | (with_reducible refine wp_makeV ?_) | (with_reducible refine wp_meth ?_) | (with_reducible refine wp_retN ?_) | (with_reducible refine wp_cm ?_) | (with_reducible refine wp_asgG ?_) | (with_reducible refine ex_int ?_) | (with_reducible refine wp_opM ?_) | (with_reducible refine wp_prop ?_) | (with_reducible refine wp_tr ?_) | (with_reducible refine wp_bm0 ?_) | (with_reducible refine lK_rt ?_) | (((with_reducible apply ex_of); · walk_at "wop")) | (((with_reducible apply ex_fld); · rfl; · rfl; · rfl)) | (((with_reducible apply And.intro); · first | rfl | decide | (simp; done))))
section
variable {T : Tab} (hT1 : T.fs 5 = [10, 11, 12]) {al : Nat → List Nat} {n : Nat} {lo : D} {hi : Nat → Nat} {L : List Nat} {fi nh nc : Nat}
structure SL (L s : List Nat) : Prop where
  nd : s.Nodup
  sub : ∀ c ∈ s, c ∈ L
theorem SL.len {s : List Nat} (h : SL L s) : s.length ≤ L.length := h.nd.length_le_of_subset h.sub
end
end J
set_option Elab.async false
set_option linter.all false
set_option maxRecDepth 100000
set_option maxHeartbeats 1010000
/-! VE: a filling made and filled; word_within -/
namespace J
local macro_rules | `(tactic| walk_at "wop") => `(tactic| first | (with_reducible exact addD_int) | (with_reducible exact subI_int) | (with_reducible exact eqD_int) | (with_reducible exact eqD_str) | (with_reducible exact eqD_bl) | (with_reducible exact neD_int) | (with_reducible exact neD_str) | (with_reducible exact neD_bl) | (with_reducible exact ltI_int) | (with_reducible exact leI_int) | (with_reducible exact gtI_int) | (with_reducible exact geI_int) | (with_reducible exact lenD_tup) | (with_reducible exact tup_lst) | (with_reducible exact addD_str (by first | omega | (simp; done) | (simp; omega))) | (with_reducible exact lenD_str (by first | omega | (simp; done) | (simp; omega))) | (with_reducible exact lenD_lst (by first | omega | (simp; done) | (simp; omega))) | (with_reducible exact slD_str (by first | omega | (simp; done) | (simp; omega))) | (with_reducible exact addD_list (by first | omega | (simp; done) | (simp; omega))) | (with_reducible exact range1_map (S := ⟨[], 0⟩) (by first | omega | (simp; done) | (simp; omega))) | (with_reducible exact addD_tupA (by first | omega | (simp; done) | (simp; omega))) | (exact rfl))
local macro_rules | `(tactic| walk_at "wx1") => `(tactic| first | (((with_reducible apply wp_var); · rfl)) | (with_reducible refine wp_seq ?_) | (with_reducible refine sK_nx ?_) | (with_reducible refine sK_rt ?_) | (with_reducible refine dK_rt ?_) | (with_reducible refine wp_c ?_) | (with_reducible refine wp_asg ?_) | (with_reducible refine wp_par ?_) | (with_reducible refine wp_par3 ?_) | (with_reducible refine wp_ifS ?_) | (with_reducible refine wp_retS ?_) | (with_reducible refine wp_expr ?_) | (with_reducible refine wp_next ?_) | (with_reducible refine wp_op ?_) | (with_reducible refine wp_cons ?_) | (with_reducible refine wp_nil ?_) | (with_reducible refine wp_call ?_) | (with_reducible refine wp_cb ?_) | (with_reducible refine wp_tst ?_) | (with_reducible refine wp_not ?_) | (with_reducible refine wp_and ?_) | (with_reducible refine wp_or ?_) | (with_reducible refine wp_andV ?_) | (with_reducible refine wp_orV ?_) | (with_reducible refine wp_notV ?_) | (with_reducible refine wp_if ?_) | (with_reducible refine wp_tup ?_) | (with_reducible refine wp_lst ?_) | (with_reducible refine wp_lstM ?_) | (with_reducible refine wp_bm ?_) | (with_reducible refine wp_sl ?_) | (with_reducible refine wp_noP ?_) | (with_reducible refine wp_part ?_) | (with_reducible refine wp_chain ?_) | (with_reducible refine wp_fld ?_) | (with_reducible refine wp_make ?_) | (with_reducible refine wp_range ?_) | (with_reducible refine wp_items ?_) | (with_reducible refine wp_zip ?_) | (with_reducible refine wp_enum ?_) | (with_reducible refine wp_yes ?_) | (with_reducible refine wp_star ?_) | (with_reducible refine wp_callV ?_) | (with_reducible refine wp_makeV ?_) | (with_reducible refine wp_meth ?_) | (with_reducible refine wp_retN ?_) | (with_reducible refine wp_cm ?_) | (with_reducible refine wp_asgG ?_) | (with_reducible refine ex_int ?_) | (with_reducible refine wp_opM ?_) | (with_reducible refine wp_prop ?_) | (with_reducible refine wp_tr ?_) | (with_reducible refine wp_bm0 ?_) | (with_reducible refine lK_rt ?_) | (((with_reducible apply ex_of); · walk_at "wop")) | (((with_reducible apply ex_fld); · rfl; · rfl; · rfl)) | (((with_reducible apply And.intro); · first | rfl | decide | (simp; done))))
end J
set_option Elab.async false
set_option linter.all false
set_option maxRecDepth 100000
set_option maxHeartbeats 1010000
/-! VF: fill, word_within -/
namespace J
local macro_rules | `(tactic| walk_at "wop") => `(tactic| first | (with_reducible exact addD_int) | (with_reducible exact subI_int) | (with_reducible exact eqD_int) | (with_reducible exact eqD_str) | (with_reducible exact eqD_bl) | (with_reducible exact neD_int) | (with_reducible exact neD_str) | (with_reducible exact neD_bl) | (with_reducible exact ltI_int) | (with_reducible exact leI_int) | (with_reducible exact gtI_int) | (with_reducible exact geI_int) | (with_reducible exact lenD_tup) | (with_reducible exact tup_lst) | (with_reducible exact addD_str (by first | omega | (simp; done) | (simp; omega))) | (with_reducible exact lenD_str (by first | omega | (simp; done) | (simp; omega))) | (with_reducible exact lenD_lst (by first | omega | (simp; done) | (simp; omega))) | (with_reducible exact slD_str (by first | omega | (simp; done) | (simp; omega))) | (with_reducible exact addD_list (by first | omega | (simp; done) | (simp; omega))) | (with_reducible exact range1_map (S := ⟨[], 0⟩) (by first | omega | (simp; done) | (simp; omega))) | (with_reducible exact addD_tupA (by first | omega | (simp; done) | (simp; omega))) | (exact rfl))
local macro_rules | `(tactic| walk_at "wx1") => `(tactic| first | (((with_reducible apply wp_var); · rfl)) | (with_reducible refine wp_seq ?_) | (with_reducible refine sK_nx ?_) | (with_reducible refine sK_rt ?_) | (with_reducible refine dK_rt ?_) | (with_reducible refine wp_c ?_) | (with_reducible refine wp_asg ?_) | (with_reducible refine wp_par ?_) | (with_reducible refine wp_par3 ?_) | (with_reducible refine wp_ifS ?_) | (with_reducible refine wp_retS ?_) | (with_reducible refine wp_expr ?_) | (with_reducible refine wp_next ?_) | (with_reducible refine wp_op ?_) | (with_reducible refine wp_cons ?_) | (with_reducible refine wp_nil ?_) | (with_reducible refine wp_call ?_) | (with_reducible refine wp_cb ?_) | (with_reducible refine wp_tst ?_) | (with_reducible refine wp_not ?_) | (with_reducible refine wp_and ?_) | (with_reducible refine wp_or ?_) | (with_reducible refine wp_andV ?_) | (with_reducible refine wp_orV ?_) | (with_reducible refine wp_notV ?_) | (with_reducible refine wp_if ?_) | (with_reducible refine wp_tup ?_) | (with_reducible refine wp_lst ?_) | (with_reducible refine wp_lstM ?_) | (with_reducible refine wp_bm ?_) | (with_reducible refine wp_sl ?_) | (with_reducible refine wp_noP ?_) | (with_reducible refine wp_part ?_) | (with_reducible refine wp_chain ?_) | (with_reducible refine wp_fld ?_) | (with_reducible refine wp_make ?_) | (with_reducible refine wp_range ?_) | (with_reducible refine wp_items ?_) | (with_reducible refine wp_zip ?_) | (with_reducible refine wp_enum ?_) | (with_reducible refine wp_yes ?_) | (with_reducible refine wp_star ?_) | (with_reducible refine wp_callV ?_) | (with_reducible refine wp_makeV ?_) | (with_reducible refine wp_meth ?_) | (with_reducible refine wp_retN ?_) | (with_reducible refine wp_cm ?_) | (with_reducible refine wp_asgG ?_) | (with_reducible refine ex_int ?_) | (with_reducible refine wp_opM ?_) | (with_reducible refine wp_prop ?_) | (with_reducible refine wp_tr ?_) | (with_reducible refine wp_bm0 ?_) | (with_reducible refine lK_rt ?_) | (((with_reducible apply ex_of); · walk_at "wop")) | (((with_reducible apply ex_fld); · rfl; · rfl; · rfl)) | (((with_reducible apply And.intro); · first | rfl | decide | (simp; done))))
end J
set_option Elab.async false
set_option linter.all false
set_option maxRecDepth 100000
set_option maxHeartbeats 1010000
/-! VG: word_within, can_come -/
namespace J
local macro_rules | `(tactic| walk_at "wop") => `(tactic| first | (with_reducible exact addD_int) | (with_reducible exact subI_int) | (with_reducible exact eqD_int) | (with_reducible exact eqD_str) | (with_reducible exact eqD_bl) | (with_reducible exact neD_int) | (with_reducible exact neD_str) | (with_reducible exact neD_bl) | (with_reducible exact ltI_int) | (with_reducible exact leI_int) | (with_reducible exact gtI_int) | (with_reducible exact geI_int) | (with_reducible exact lenD_tup) | (with_reducible exact tup_lst) | (with_reducible exact addD_str (by first | omega | (simp; done) | (simp; omega))) | (with_reducible exact lenD_str (by first | omega | (simp; done) | (simp; omega))) | (with_reducible exact lenD_lst (by first | omega | (simp; done) | (simp; omega))) | (with_reducible exact slD_str (by first | omega | (simp; done) | (simp; omega))) | (with_reducible exact addD_list (by first | omega | (simp; done) | (simp; omega))) | (with_reducible exact range1_map (S := ⟨[], 0⟩) (by first | omega | (simp; done) | (simp; omega))) | (with_reducible exact addD_tupA (by first | omega | (simp; done) | (simp; omega))) | (exact rfl))
local macro_rules | `(tactic| walk_at "wx1") => `(tactic| first | (((with_reducible apply wp_var); · rfl)) | (with_reducible refine wp_seq ?_) | (with_reducible refine sK_nx ?_) | (with_reducible refine sK_rt ?_) | (with_reducible refine dK_rt ?_) | (with_reducible refine wp_c ?_) | (with_reducible refine wp_asg ?_) | (with_reducible refine wp_par ?_) | (with_reducible refine wp_par3 ?_) | (with_reducible refine wp_ifS ?_) | (with_reducible refine wp_retS ?_) | (with_reducible refine wp_expr ?_) | (with_reducible refine wp_next ?_) | (with_reducible refine wp_op ?_) | (with_reducible refine wp_cons ?_) | (with_reducible refine wp_nil ?_) | (with_reducible refine wp_call ?_) | (with_reducible refine wp_cb ?_) | (with_reducible refine wp_tst ?_) | (with_reducible refine wp_not ?_) | (with_reducible refine wp_and ?_) | (with_reducible refine wp_or ?_) | (with_reducible refine wp_andV ?_) | (with_reducible refine wp_orV ?_) | (with_reducible refine wp_notV ?_) | (with_reducible refine wp_if ?_) | (with_reducible refine wp_tup ?_) | (with_reducible refine wp_lst ?_) | (with_reducible refine wp_lstM ?_) | (with_reducible refine wp_bm ?_) | (with_reducible refine wp_sl ?_) | (with_reducible refine wp_noP ?_) | (with_reducible refine wp_part ?_) | (with_reducible refine wp_chain ?_) | (with_reducible refine wp_fld ?_) | (with_reducible refine wp_make ?_) | (with_reducible refine wp_range ?_) | (with_reducible refine wp_items ?_) | (with_reducible refine wp_zip ?_) | (with_reducible refine wp_enum ?_) | (with_reducible refine wp_yes ?_) | (with_reducible refine wp_star ?_) | (with_reducible refine wp_callV ?_) | (with_reducible refine wp_makeV ?_) | (with_reducible refine wp_meth ?_) | (with_reducible refine wp_retN ?_) | (with_reducible refine wp_cm ?_) | (with_reducible refine wp_asgG ?_) | (with_reducible refine ex_int ?_) | (with_reducible refine wp_opM ?_) | (with_reducible refine wp_prop ?_) | (with_reducible refine wp_tr ?_) | (with_reducible refine wp_bm0 ?_) | (with_reducible refine lK_rt ?_) | (((with_reducible apply ex_of); · walk_at "wop")) | (((with_reducible apply ex_fld); · rfl; · rfl; · rfl)) | (((with_reducible apply And.intro); · first | rfl | decide | (simp; done))))
end J
set_option Elab.async false
set_option linter.all false
set_option maxRecDepth 100000
set_option maxHeartbeats 1010000
/-! VH: draws of the first family as runs; boards, marks, can_come -/
namespace J
local macro_rules | `(tactic| walk_at "wop") => `(tactic| first | (with_reducible exact addD_int) | (with_reducible exact subI_int) | (with_reducible exact eqD_int) | (with_reducible exact eqD_str) | (with_reducible exact eqD_bl) | (with_reducible exact neD_int) | (with_reducible exact neD_str) | (with_reducible exact neD_bl) | (with_reducible exact ltI_int) | (with_reducible exact leI_int) | (with_reducible exact gtI_int) | (with_reducible exact geI_int) | (with_reducible exact lenD_tup) | (with_reducible exact tup_lst) | (with_reducible exact addD_str (by first | omega | (simp; done) | (simp; omega))) | (with_reducible exact lenD_str (by first | omega | (simp; done) | (simp; omega))) | (with_reducible exact lenD_lst (by first | omega | (simp; done) | (simp; omega))) | (with_reducible exact slD_str (by first | omega | (simp; done) | (simp; omega))) | (with_reducible exact addD_list (by first | omega | (simp; done) | (simp; omega))) | (with_reducible exact range1_map (S := ⟨[], 0⟩) (by first | omega | (simp; done) | (simp; omega))) | (with_reducible exact addD_tupA (by first | omega | (simp; done) | (simp; omega))) | (exact rfl))
local macro_rules | `(tactic| walk_at "wx1") => `(tactic| first | (((with_reducible apply wp_var); · rfl)) | (with_reducible refine wp_seq ?_) | (with_reducible refine sK_nx ?_) | (with_reducible refine sK_rt ?_) | (with_reducible refine dK_rt ?_) | (with_reducible refine wp_c ?_) | (with_reducible refine wp_asg ?_) | (with_reducible refine wp_par ?_) | (with_reducible refine wp_par3 ?_) | (with_reducible refine wp_ifS ?_) | (with_reducible refine wp_retS ?_) | (with_reducible refine wp_expr ?_) | (with_reducible refine wp_next ?_) | (with_reducible refine wp_op ?_) | (with_reducible refine wp_cons ?_) | (with_reducible refine wp_nil ?_) | (with_reducible refine wp_call ?_) | (with_reducible refine wp_cb ?_) | (with_reducible refine wp_tst ?_) | (with_reducible refine wp_not ?_) | (with_reducible refine wp_and ?_) | (with_reducible refine wp_or ?_) | (with_reducible refine wp_andV ?_) | (with_reducible refine wp_orV ?_) | (with_reducible refine wp_notV ?_) | (with_reducible refine wp_if ?_) | (with_reducible refine wp_tup ?_) | (with_reducible refine wp_lst ?_) | (with_reducible refine wp_lstM ?_) | (with_reducible refine wp_bm ?_) | (with_reducible refine wp_sl ?_) | (with_reducible refine wp_noP ?_) | (with_reducible refine wp_part ?_) | (with_reducible refine wp_chain ?_) | (with_reducible refine wp_fld ?_) | (with_reducible refine wp_make ?_) | (with_reducible refine wp_range ?_) | (with_reducible refine wp_items ?_) | (with_reducible refine wp_zip ?_) | (with_reducible refine wp_enum ?_) | (with_reducible refine wp_yes ?_) | (with_reducible refine wp_star ?_) | (with_reducible refine wp_callV ?_) | (with_reducible refine wp_makeV ?_) | (with_reducible refine wp_meth ?_) | (with_reducible refine wp_retN ?_) | (with_reducible refine wp_cm ?_) | (with_reducible refine wp_asgG ?_) | (with_reducible refine ex_int ?_) | (with_reducible refine wp_opM ?_) | (with_reducible refine wp_prop ?_) | (with_reducible refine wp_tr ?_) | (with_reducible refine wp_bm0 ?_) | (with_reducible refine lK_rt ?_) | (((with_reducible apply ex_of); · walk_at "wop")) | (((with_reducible apply ex_fld); · rfl; · rfl; · rfl)) | (((with_reducible apply And.intro); · first | rfl | decide | (simp; done))))
section
variable {S : Store} {n : Nat} {L : List (Nat × MO)} {Q : D → Store → Prop}
theorem dip_w {k : Int} (kn : Kn S n L) (hk : 0 < k := by omega) (hk2 : k < 1073741824 := by omega) (h : ∀ (q : Nat) (S' : Store), (q : Int) < k → Kn S' n L → Q (.int (q : Int)) S') : Wp (dDip [.ref n, .int k]) S Q := by
  obtain ⟨r, S1, e, r0, r1, b, kp⟩ := dip_ok kn.bw hk hk2
  obtain ⟨q, rfl⟩ := Int.eq_ofNat_of_zero_le r0
  exact wp_ok e (h q S1 r1 (kn.kp kp b))
theorem ofl_w {xs : List D} (kn : Kn S n L) (h0 : 0 < xs.length) (h1 : xs.length ≤ 1000) (h : ∀ (d : D) (S' : Store), d ∈ xs → Kn S' n L → Q d S') : Wp (dOf [.ref n, .lst xs]) S Q := by
  obtain ⟨d, S1, e, hc, b, kp⟩ := of_lst kn.bw h0 h1
  exact wp_ok e (h d S1 hc (kn.kp kp b))
theorem word_w {l : List Nat} {k : Nat} (kn : Kn S n L) (h0 : 0 < l.length) (h1 : l.length ≤ 500) (hk : k ≤ 500) (h : ∀ (w : List Nat) (S' : Store), w.length = k → (∀ c ∈ w, c ∈ l) → Kn S' n L → Q (.str w) S') : Wp (dWord [.ref n, .str l, .int (k : Int)]) S Q := by
  obtain ⟨w, S1, e, w1, w2, b, kp⟩ := word_ok kn.bw h0 h1 hk
  exact wp_ok e (h w S1 w1 w2 (kn.kp kp b))
theorem signs_w {lo hi : Int} (kn : Kn S n L) (h1 : 0 ≤ lo) (h2 : lo ≤ hi) (h3 : hi ≤ 26) (h : ∀ (l : List Nat) (S' : Store), Sg l → lo ≤ l.length → (l.length : Int) ≤ hi → Kn S' n L → Q (.str l) S') : Wp (dSigns [.ref n, .int lo, .int hi]) S Q := by
  obtain ⟨l, S1, e, sg, l1, l2, b, kp⟩ := signs_ok kn.bw h1 h2 h3
  exact wp_ok e (h l S1 sg l1 l2 (kn.kp kp b))
theorem board_w {T : Tab} {cs : List Nat} {tb : List (Tg × Tg × Bool)} (hT : T.fs 0 = [0, 1]) {l : List Nat} {k : Nat} (kn : Kn S n L) (sg : Sg l) (h2 : 2 ≤ l.length) (k1 : 1 ≤ k) (k2 : k ≤ 6) (h : ∀ S', Kn S' n L → Q (bd l k) S') : Wp (makeD T true 0 3 (dInit T cs tb) [.str l, .int (k : Int)]) S Q := by
  obtain ⟨S1, e, kq⟩ := make_ok T cs tb hT (S := S) (l := l) (k := (k : Int)) sg h2 (by omega) (by omega)
  exact wp_ok e (h S1 (kn.kq kq))
end
/-! ### texts compared -/
theorem eqv_strs : ∀ as bs : List (List Nat), PySem.PyData.eqvAll (as.map fun w => PySem.PyData.str ⟨w.toArray⟩) (bs.map fun w => PySem.PyData.str ⟨w.toArray⟩) = decide (as = bs)
  | [], [] => by simp [PySem.PyData.eqvAll]
  | [], b :: bs => by simp [PySem.PyData.eqvAll]
  | a :: as, [] => by simp [PySem.PyData.eqvAll]
  | a :: as, b :: bs => by
    rw [List.map_cons, List.map_cons, PySem.PyData.eqvAll, eqv_strs as bs, Bool.eq_iff_iff]
    simp only [PySem.PyData.eqv, Bool.and_eq_true, decide_eq_true_eq, List.cons.injEq, beq_iff_eq]
    rw [str_inj]
theorem ne_strs {as bs : List (List Nat)} {S : Store} (ha : ∀ w ∈ as, ∀ c ∈ w, c < 1114112) (hb : ∀ w ∈ bs, ∀ c ∈ w, c < 1114112) : neD (.lst (as.map D.str)) (.lst (bs.map D.str)) S = some (.bl (!decide (as = bs))) := by
  have sh : ∀ ws : List (List Nat), (∀ w ∈ ws, ∀ c ∈ w, c < 1114112) → PySem.SeqAt.shaped (.list (ws.map fun w => PySem.PyData.str ⟨w.toArray⟩)) = true := fun ws h => by
    obtain ⟨a1, a2⟩ := lay_strs h
    rw [PySem.SeqAt.shaped, Bool.and_eq_true]
    exact ⟨by simp [PySem.PyData.canLay0, a1], decide_eq_true (by simp only [PySem.PyData.depth]; omega)⟩
  simp only [neD, op2, neS, eqS, neG, eqP, deref, toPy, toPys_strs, Option.map_some, sh as ha, sh bs hb, PySem.PyData.eqv, eqv_strs]
  rfl
/-! ### marks that are all hits -/
end J
set_option Elab.async false
set_option linter.all false
set_option maxRecDepth 100000
set_option maxHeartbeats 1010000
/-! VI: cuts between statements, ends -/
namespace J
section
variable {S : Store} {ρ : Rho} {QF : Fl → Store → Prop}
theorem wp_callK {n : Nat} {pm : List Nat} {f : List D → M D} {ia : IA} {Q : D → Store → Prop} (h : Wp (ia ρ) S fun xs S1 => (xs.length = n ∧ (pickL pm xs).length = pm.length) ∧ Wp (f (pickL pm xs)) S1 Q) : Wp (iCallK n pm f ia ρ) S Q :=
  wp_bind (h.imp fun _ _ ⟨e, k⟩ => by rw [if_pos e]; exact k)
theorem wp_makeK {T : Tab} {z : Bool} {c k n : Nat} {pm : List Nat} {f : List D → M D} {ia : IA} {Q : D → Store → Prop} (h : Wp (ia ρ) S fun xs S1 => (xs.length = n ∧ (pickL pm xs).length = pm.length) ∧ Wp (makeD T z c k f (pickL pm xs)) S1 Q) : Wp (iMakeK T z c k n pm f ia ρ) S Q :=
  wp_bind (h.imp fun _ _ ⟨e, k⟩ => by rw [if_pos e]; exact k)
theorem wp_methK {T : Tab} {c m n : Nat} {pm : List Nat} {f : List D → M D} {a : IE} {ia : IA} {Q : D → Store → Prop} (h : Wp (a ρ) S fun o S1 => ∃ fs, insOf T o S1 = some (c, fs) ∧ getF m fs = none ∧ Wp (ia ρ) S1 fun xs S2 => (xs.length = n ∧ (pickL pm xs).length = pm.length) ∧ Wp (f (o :: pickL pm xs)) S2 Q) : Wp (iMethK T c m n pm f a ia ρ) S Q :=
  wp_bind (h.imp fun o S1 ⟨fs, e1, e2, k⟩ => by
    obtain ⟨d, S3, e3, q⟩ := wp_bind (k.imp fun xs _ ⟨e, k⟩ => show Wp (if xs.length = n ∧ (pickL pm xs).length = pm.length then f (o :: pickL pm xs) else M.no) _ Q by rw [if_pos e]; exact k)
    refine ⟨d, S3, ?_, q⟩
    show (match insOf T o S1 with | some (c', fs) => if c' = c ∧ getF m fs = none then M.bind (ia ρ) (fun xs => if xs.length = n ∧ (pickL pm xs).length = pm.length then f (o :: pickL pm xs) else M.no) S1 else .no | none => .no) = _
    rw [e1]
    dsimp only
    rw [if_pos ⟨rfl, e2⟩]
    exact e3)
theorem run_of {f : List D → M D} {ds : List D} {d : D} (h : Wp (f ds) S fun d' _ => d' = d) : ∃ S', f ds S = .ok d S' := by
  obtain ⟨a, S', e, rfl⟩ := h
  exact ⟨S', e⟩
end
end J
set_option Elab.async false
set_option linter.all false
set_option maxRecDepth 100000
set_option maxHeartbeats 1010000
/-! VJ: all words (first family); loops over what is drawn -/
namespace J
local macro_rules | `(tactic| walk_at "wop") => `(tactic| first | (with_reducible exact addD_int) | (with_reducible exact subI_int) | (with_reducible exact eqD_int) | (with_reducible exact eqD_str) | (with_reducible exact eqD_bl) | (with_reducible exact neD_int) | (with_reducible exact neD_str) | (with_reducible exact neD_bl) | (with_reducible exact ltI_int) | (with_reducible exact leI_int) | (with_reducible exact gtI_int) | (with_reducible exact geI_int) | (with_reducible exact lenD_tup) | (with_reducible exact tup_lst) | (with_reducible exact addD_str (by first | omega | (simp; done) | (simp; omega))) | (with_reducible exact lenD_str (by first | omega | (simp; done) | (simp; omega))) | (with_reducible exact lenD_lst (by first | omega | (simp; done) | (simp; omega))) | (with_reducible exact slD_str (by first | omega | (simp; done) | (simp; omega))) | (with_reducible exact addD_list (by first | omega | (simp; done) | (simp; omega))) | (with_reducible exact range1_map (S := ⟨[], 0⟩) (by first | omega | (simp; done) | (simp; omega))) | (with_reducible exact addD_tupA (by first | omega | (simp; done) | (simp; omega))) | (exact rfl))
local macro_rules | `(tactic| walk_at "wx1") => `(tactic| first | (((with_reducible apply wp_var); · rfl)) | (with_reducible refine wp_seq ?_) | (with_reducible refine wp_callK ?_) | (with_reducible refine wp_makeK ?_) | (with_reducible refine wp_methK ?_) | (with_reducible refine sK_nx ?_) | (with_reducible refine sK_rt ?_) | (with_reducible refine dK_rt ?_) | (with_reducible refine wp_c ?_) | (with_reducible refine wp_asg ?_) | (with_reducible refine wp_par ?_) | (with_reducible refine wp_par3 ?_) | (with_reducible refine wp_ifS ?_) | (with_reducible refine wp_retS ?_) | (with_reducible refine wp_expr ?_) | (with_reducible refine wp_next ?_) | (with_reducible refine wp_op ?_) | (with_reducible refine wp_cons ?_) | (with_reducible refine wp_nil ?_) | (with_reducible refine wp_call ?_) | (with_reducible refine wp_cb ?_) | (with_reducible refine wp_tst ?_) | (with_reducible refine wp_not ?_) | (with_reducible refine wp_and ?_) | (with_reducible refine wp_or ?_) | (with_reducible refine wp_andV ?_) | (with_reducible refine wp_orV ?_) | (with_reducible refine wp_notV ?_) | (with_reducible refine wp_if ?_) | (with_reducible refine wp_tup ?_) | (with_reducible refine wp_lst ?_) | (with_reducible refine wp_lstM ?_) | (with_reducible refine wp_bm ?_) | (with_reducible refine wp_sl ?_) | (with_reducible refine wp_noP ?_) | (with_reducible refine wp_part ?_) | (with_reducible refine wp_chain ?_) | (with_reducible refine wp_fld ?_) | (with_reducible refine wp_make ?_) | (with_reducible refine wp_range ?_) | (with_reducible refine wp_items ?_) | (with_reducible refine wp_zip ?_) | (with_reducible refine wp_enum ?_) | (with_reducible refine wp_yes ?_) | (with_reducible refine wp_star ?_) | (with_reducible refine wp_callV ?_) | (with_reducible refine wp_makeV ?_) | (with_reducible refine wp_meth ?_) | (with_reducible refine wp_retN ?_) | (with_reducible refine wp_cm ?_) | (with_reducible refine wp_asgG ?_) | (with_reducible refine ex_int ?_) | (with_reducible refine wp_opM ?_) | (with_reducible refine wp_prop ?_) | (with_reducible refine wp_tr ?_) | (with_reducible refine wp_bm0 ?_) | (with_reducible refine lK_rt ?_) | (((with_reducible apply ex_of); · walk_at "wop")) | (((with_reducible apply ex_fld); · rfl; · rfl; · rfl)) | (((with_reducible apply And.intro); · first | rfl | exact ⟨rfl, rfl⟩ | decide | (simp; done))))
end J
set_option Elab.async false
set_option linter.all false
set_option maxRecDepth 100000
set_option maxHeartbeats 1010000
/-! VK: tables -/
namespace J
local macro_rules | `(tactic| walk_at "wop") => `(tactic| first | (with_reducible exact addD_int) | (with_reducible exact subI_int) | (with_reducible exact eqD_int) | (with_reducible exact eqD_str) | (with_reducible exact eqD_bl) | (with_reducible exact neD_int) | (with_reducible exact neD_str) | (with_reducible exact neD_bl) | (with_reducible exact ltI_int) | (with_reducible exact leI_int) | (with_reducible exact gtI_int) | (with_reducible exact geI_int) | (with_reducible exact lenD_tup) | (with_reducible exact tup_lst) | (with_reducible exact addD_str (by first | omega | (simp; done) | (simp; omega))) | (with_reducible exact lenD_str (by first | omega | (simp; done) | (simp; omega))) | (with_reducible exact lenD_lst (by first | omega | (simp; done) | (simp; omega))) | (with_reducible exact slD_str (by first | omega | (simp; done) | (simp; omega))) | (with_reducible exact addD_list (by first | omega | (simp; done) | (simp; omega))) | (with_reducible exact range1_map (S := ⟨[], 0⟩) (by first | omega | (simp; done) | (simp; omega))) | (with_reducible exact addD_tupA (by first | omega | (simp; done) | (simp; omega))) | (exact rfl))
local macro_rules | `(tactic| walk_at "wx1") => `(tactic| first | (((with_reducible apply wp_var); · rfl)) | (with_reducible refine wp_seq ?_) | (with_reducible refine wp_callK ?_) | (with_reducible refine wp_makeK ?_) | (with_reducible refine wp_methK ?_) | (with_reducible refine sK_nx ?_) | (with_reducible refine sK_rt ?_) | (with_reducible refine dK_rt ?_) | (with_reducible refine wp_c ?_) | (with_reducible refine wp_asg ?_) | (with_reducible refine wp_par ?_) | (with_reducible refine wp_par3 ?_) | (with_reducible refine wp_ifS ?_) | (with_reducible refine wp_retS ?_) | (with_reducible refine wp_expr ?_) | (with_reducible refine wp_next ?_) | (with_reducible refine wp_op ?_) | (with_reducible refine wp_cons ?_) | (with_reducible refine wp_nil ?_) | (with_reducible refine wp_call ?_) | (with_reducible refine wp_cb ?_) | (with_reducible refine wp_tst ?_) | (with_reducible refine wp_not ?_) | (with_reducible refine wp_and ?_) | (with_reducible refine wp_or ?_) | (with_reducible refine wp_andV ?_) | (with_reducible refine wp_orV ?_) | (with_reducible refine wp_notV ?_) | (with_reducible refine wp_if ?_) | (with_reducible refine wp_tup ?_) | (with_reducible refine wp_lst ?_) | (with_reducible refine wp_lstM ?_) | (with_reducible refine wp_bm ?_) | (with_reducible refine wp_sl ?_) | (with_reducible refine wp_noP ?_) | (with_reducible refine wp_part ?_) | (with_reducible refine wp_chain ?_) | (with_reducible refine wp_fld ?_) | (with_reducible refine wp_make ?_) | (with_reducible refine wp_range ?_) | (with_reducible refine wp_items ?_) | (with_reducible refine wp_zip ?_) | (with_reducible refine wp_enum ?_) | (with_reducible refine wp_yes ?_) | (with_reducible refine wp_star ?_) | (with_reducible refine wp_callV ?_) | (with_reducible refine wp_makeV ?_) | (with_reducible refine wp_meth ?_) | (with_reducible refine wp_retN ?_) | (with_reducible refine wp_cm ?_) | (with_reducible refine wp_asgG ?_) | (with_reducible refine ex_int ?_) | (with_reducible refine wp_opM ?_) | (with_reducible refine wp_prop ?_) | (with_reducible refine wp_tr ?_) | (with_reducible refine wp_bm0 ?_) | (with_reducible refine lK_rt ?_) | (((with_reducible apply ex_of); · walk_at "wop")) | (((with_reducible apply ex_fld); · rfl; · rfl; · rfl)) | (((with_reducible apply And.intro); · first | rfl | exact ⟨rfl, rfl⟩ | decide | (simp; done))))
abbrev Tb := Option (List (List Nat) × List (Nat × Nat))
end J
set_option Elab.async false
set_option linter.all false
set_option maxRecDepth 100000
set_option maxHeartbeats 1010000
/-! VL: tables compared; the words that are left (first family) -/
namespace J
local macro_rules | `(tactic| walk_at "wop") => `(tactic| first | (with_reducible exact addD_int) | (with_reducible exact subI_int) | (with_reducible exact eqD_int) | (with_reducible exact eqD_str) | (with_reducible exact eqD_bl) | (with_reducible exact neD_int) | (with_reducible exact neD_str) | (with_reducible exact neD_bl) | (with_reducible exact ltI_int) | (with_reducible exact leI_int) | (with_reducible exact gtI_int) | (with_reducible exact geI_int) | (with_reducible exact lenD_tup) | (with_reducible exact tup_lst) | (with_reducible exact addD_str (by first | omega | (simp; done) | (simp; omega))) | (with_reducible exact lenD_str (by first | omega | (simp; done) | (simp; omega))) | (with_reducible exact lenD_lst (by first | omega | (simp; done) | (simp; omega))) | (with_reducible exact slD_str (by first | omega | (simp; done) | (simp; omega))) | (with_reducible exact addD_list (by first | omega | (simp; done) | (simp; omega))) | (with_reducible exact range1_map (S := ⟨[], 0⟩) (by first | omega | (simp; done) | (simp; omega))) | (with_reducible exact addD_tupA (by first | omega | (simp; done) | (simp; omega))) | (exact rfl))
local macro_rules | `(tactic| walk_at "wx1") => `(tactic| first | (((with_reducible apply wp_var); · rfl)) | (with_reducible refine wp_seq ?_) | (with_reducible refine wp_callK ?_) | (with_reducible refine wp_makeK ?_) | (with_reducible refine wp_methK ?_) | (with_reducible refine sK_nx ?_) | (with_reducible refine sK_rt ?_) | (with_reducible refine dK_rt ?_) | (with_reducible refine wp_c ?_) | (with_reducible refine wp_asg ?_) | (with_reducible refine wp_par ?_) | (with_reducible refine wp_par3 ?_) | (with_reducible refine wp_ifS ?_) | (with_reducible refine wp_retS ?_) | (with_reducible refine wp_expr ?_) | (with_reducible refine wp_next ?_) | (with_reducible refine wp_op ?_) | (with_reducible refine wp_cons ?_) | (with_reducible refine wp_nil ?_) | (with_reducible refine wp_call ?_) | (with_reducible refine wp_cb ?_) | (with_reducible refine wp_tst ?_) | (with_reducible refine wp_not ?_) | (with_reducible refine wp_and ?_) | (with_reducible refine wp_or ?_) | (with_reducible refine wp_andV ?_) | (with_reducible refine wp_orV ?_) | (with_reducible refine wp_notV ?_) | (with_reducible refine wp_if ?_) | (with_reducible refine wp_tup ?_) | (with_reducible refine wp_lst ?_) | (with_reducible refine wp_lstM ?_) | (with_reducible refine wp_bm ?_) | (with_reducible refine wp_sl ?_) | (with_reducible refine wp_noP ?_) | (with_reducible refine wp_part ?_) | (with_reducible refine wp_chain ?_) | (with_reducible refine wp_fld ?_) | (with_reducible refine wp_make ?_) | (with_reducible refine wp_range ?_) | (with_reducible refine wp_items ?_) | (with_reducible refine wp_zip ?_) | (with_reducible refine wp_enum ?_) | (with_reducible refine wp_yes ?_) | (with_reducible refine wp_star ?_) | (with_reducible refine wp_callV ?_) | (with_reducible refine wp_makeV ?_) | (with_reducible refine wp_meth ?_) | (with_reducible refine wp_retN ?_) | (with_reducible refine wp_cm ?_) | (with_reducible refine wp_asgG ?_) | (with_reducible refine ex_int ?_) | (with_reducible refine wp_opM ?_) | (with_reducible refine wp_prop ?_) | (with_reducible refine wp_tr ?_) | (with_reducible refine wp_bm0 ?_) | (with_reducible refine lK_rt ?_) | (((with_reducible apply ex_of); · walk_at "wop")) | (((with_reducible apply ex_fld); · rfl; · rfl; · rfl)) | (((with_reducible apply And.intro); · first | rfl | exact ⟨rfl, rfl⟩ | decide | (simp; done))))
end J
set_option Elab.async false
set_option linter.all false
set_option maxRecDepth 100000
set_option maxHeartbeats 1010000
/-! VN: the program's counting -/
namespace J
def isFree (T : Tab) : IS := (sRet (iAndV (iOp eqD (iOp dgetD (iFld T [5] 11 (iVar 0)) (iVar 1)) (iC (.int 0))) (iOp geI (iOp dgetD (iFld T [5] 12 (iVar 0)) (iVar 1)) (iCB lenD (iCons (iFld T [5] 10 (iVar 0)) iNil)))))
def dFree (T : Tab) : List D → M D := defJ 2 false (isFree T)
end J
set_option Elab.async false
set_option linter.all false
set_option maxRecDepth 100000
set_option maxHeartbeats 1010000
/-! VO: the dict of places -/
namespace J
end J
set_option Elab.async false
set_option linter.all false
set_option maxRecDepth 100000
set_option maxHeartbeats 1010000
/-! VP: after_letter -/
namespace J
def bD (al : List (List Nat)) (l : List Nat) (lo hi : Nat → Nat) : D := bnds (.lst (al.map D.str)) (dictD l fun c => .int (lo c : Int)) (dictD l fun c => .int (hi c : Int))
end J
set_option Elab.async false
set_option linter.all false
set_option maxRecDepth 100000
set_option maxHeartbeats 1010000
/-! VQ: what after_letter keeps -/
namespace J
open Cnt
end J
set_option Elab.async false
set_option linter.all false
set_option maxRecDepth 100000
set_option maxHeartbeats 1010000
/-! VR: number_within: its parts -/
namespace J
open Cnt
section
variable {S0 : Store} (T : Tab) {al : List (List Nat)} {l : List Nat} {lo hi : Nat → Nat} {c : Nat}
def freeB (al : List (List Nat)) (lo hi : Nat → Nat) (c : Nat) : Bool := decide (lo c = 0) && decide (al.length ≤ hi c)
theorem free_ok (hT : T.fs 5 = [10, 11, 12]) (hc : c ∈ l) (ha : al.length ≤ 1000) : Gm S0 (dFree T [bD al l lo hi, .str [c]]) (.bl (freeB al lo hi c)) := by
  refine gd_def (gs_ret (gv_andV (a := decide (lo c = 0)) (b := decide (al.length ≤ hi c)) ?_ fun _ => ?_))
  · refine gv_op (gv_op (gv_lo T hT (gv_var rfl)) (gv_var rfl) fun S _ => dget_ok hc) gv_c fun S _ => ?_
    rw [eqD_int]
    congr 2
    exact decide_eq_decide.mpr ⟨fun h => by omega, fun h => by omega⟩
  · refine gv_op (gv_op (gv_hi T hT (gv_var rfl)) (gv_var rfl) fun S _ => dget_ok hc) (gv_cb1 (gv_al T hT (gv_var rfl)) fun S _ => lenD_lst (by rw [List.length_map]; omega)) fun S _ => ?_
    rw [geI_int, List.length_map]
    congr 2
    exact decide_eq_decide.mpr ⟨fun h => by omega, fun h => by omega⟩
end
end J
set_option Elab.async false
set_option linter.all false
set_option maxRecDepth 100000
set_option maxHeartbeats 1010000
/-! VS: number_within -/
namespace J
open Cnt
end J
set_option Elab.async false
set_option linter.all false
set_option maxRecDepth 100000
set_option maxHeartbeats 1010000
/-! VW: number_within gives the number of ways -/
namespace J
open Cnt
end J
set_option Elab.async false
set_option linter.all false
set_option maxRecDepth 100000
set_option maxHeartbeats 1010000
/-! VX: number_left -/
namespace J
open Cnt
end J
set_option Elab.async false
set_option linter.all false
set_option maxRecDepth 100000
set_option maxHeartbeats 1010000
/-! VY: the number of ways is the number of words that fit -/
namespace J
open Cnt
end J
set_option Elab.async false
set_option linter.all false
set_option maxRecDepth 100000
set_option maxHeartbeats 1010000
/-! VZ: draws of the counting laws -/
namespace J
def BwF (S : Store) (n : Nat) (f : Int) : Prop := n < S.next ∧ ∃ a b c : Int, S.get n = some (.lst [.int a, .int b, .int c]) ∧ 0 ≤ c ∧ c ≤ f
end J
set_option Elab.async false
set_option linter.all false
set_option maxRecDepth 100000
set_option maxHeartbeats 1010000
/-! VZa: the counting laws' draws, with lists that are being made -/
namespace J
local macro_rules | `(tactic| walk_at "wop") => `(tactic| first | (with_reducible exact addD_int) | (with_reducible exact subI_int) | (with_reducible exact eqD_int) | (with_reducible exact eqD_str) | (with_reducible exact eqD_bl) | (with_reducible exact neD_int) | (with_reducible exact neD_str) | (with_reducible exact neD_bl) | (with_reducible exact ltI_int) | (with_reducible exact leI_int) | (with_reducible exact gtI_int) | (with_reducible exact geI_int) | (with_reducible exact lenD_tup) | (with_reducible exact tup_lst) | (with_reducible exact addD_str (by first | omega | (simp; done) | (simp; omega))) | (with_reducible exact lenD_str (by first | omega | (simp; done) | (simp; omega))) | (with_reducible exact lenD_lst (by first | omega | (simp; done) | (simp; omega))) | (with_reducible exact slD_str (by first | omega | (simp; done) | (simp; omega))) | (with_reducible exact addD_list (by first | omega | (simp; done) | (simp; omega))) | (with_reducible exact range1_map (S := ⟨[], 0⟩) (by first | omega | (simp; done) | (simp; omega))) | (with_reducible exact addD_tupA (by first | omega | (simp; done) | (simp; omega))) | (exact rfl))
local macro_rules | `(tactic| walk_at "wx1") => `(tactic| first | (((with_reducible apply wp_var); · rfl)) | (with_reducible refine wp_seq ?_) | (with_reducible refine wp_callK ?_) | (with_reducible refine wp_makeK ?_) | (with_reducible refine wp_methK ?_) | (with_reducible refine sK_nx ?_) | (with_reducible refine sK_rt ?_) | (with_reducible refine dK_rt ?_) | (with_reducible refine wp_c ?_) | (with_reducible refine wp_asg ?_) | (with_reducible refine wp_par ?_) | (with_reducible refine wp_par3 ?_) | (with_reducible refine wp_ifS ?_) | (with_reducible refine wp_retS ?_) | (with_reducible refine wp_expr ?_) | (with_reducible refine wp_next ?_) | (with_reducible refine wp_op ?_) | (with_reducible refine wp_cons ?_) | (with_reducible refine wp_nil ?_) | (with_reducible refine wp_call ?_) | (with_reducible refine wp_cb ?_) | (with_reducible refine wp_tst ?_) | (with_reducible refine wp_not ?_) | (with_reducible refine wp_and ?_) | (with_reducible refine wp_or ?_) | (with_reducible refine wp_andV ?_) | (with_reducible refine wp_orV ?_) | (with_reducible refine wp_notV ?_) | (with_reducible refine wp_if ?_) | (with_reducible refine wp_tup ?_) | (with_reducible refine wp_lst ?_) | (with_reducible refine wp_lstM ?_) | (with_reducible refine wp_bm ?_) | (with_reducible refine wp_sl ?_) | (with_reducible refine wp_noP ?_) | (with_reducible refine wp_part ?_) | (with_reducible refine wp_chain ?_) | (with_reducible refine wp_fld ?_) | (with_reducible refine wp_make ?_) | (with_reducible refine wp_range ?_) | (with_reducible refine wp_items ?_) | (with_reducible refine wp_zip ?_) | (with_reducible refine wp_enum ?_) | (with_reducible refine wp_yes ?_) | (with_reducible refine wp_star ?_) | (with_reducible refine wp_callV ?_) | (with_reducible refine wp_makeV ?_) | (with_reducible refine wp_meth ?_) | (with_reducible refine wp_retN ?_) | (with_reducible refine wp_cm ?_) | (with_reducible refine wp_asgG ?_) | (with_reducible refine ex_int ?_) | (with_reducible refine wp_opM ?_) | (with_reducible refine wp_prop ?_) | (with_reducible refine wp_tr ?_) | (with_reducible refine wp_bm0 ?_) | (with_reducible refine lK_rt ?_) | (((with_reducible apply ex_of); · walk_at "wop")) | (((with_reducible apply ex_fld); · rfl; · rfl; · rfl)) | (((with_reducible apply And.intro); · first | rfl | exact ⟨rfl, rfl⟩ | decide | (simp; done))))
section
variable {S S' : Store} {n m : Nat} {f f' : Int} {o o' : MO} {L : List (Nat × MO)} {Q : D → Store → Prop}
theorem BwF.bw (h : BwF S n f) : Bw S n := let ⟨a, x, y, z, e, _⟩ := h; ⟨a, x, y, z, e⟩
theorem BwF.kq (h : BwF S n f) (q : Kq S S') : BwF S' n f := ⟨Nat.lt_of_lt_of_le h.1 q.next, by rw [q.get n h.1]; exact h.2⟩
theorem BwF.kp (h : BwF S n f) (q : Kp m S S') (hn : n ≠ m) : BwF S' n f := ⟨Nat.lt_of_lt_of_le h.1 q.next, by rw [q.get n h.1 hn]; exact h.2⟩
theorem BwF.mono (h : BwF S n f) (le : f ≤ f') : BwF S n f' := let ⟨a, x, y, z, e, c0, c1⟩ := h; ⟨a, x, y, z, e, c0, Int.le_trans c1 le⟩
/-- the well at n with at most f turns so far, and lists that are being made -/
structure KnF (S : Store) (n : Nat) (f : Int) (L : List (Nat × MO)) : Prop where
  kn : Kn S n L
  bw : BwF S n f
theorem KnF.of (h : BwF S n f) : KnF S n f [] := ⟨Kn.of h.bw, h⟩
theorem KnF.mono (k : KnF S n f L) (le : f ≤ f') : KnF S n f' L := ⟨k.kn, k.bw.mono le⟩
theorem KnF.kq (k : KnF S n f L) (q : Kq S S') : KnF S' n f L := ⟨k.kn.kq q, k.bw.kq q⟩
theorem KnF.kp (k : KnF S n f L) (q : Kp n S S') (b : BwF S' n f') : KnF S' n f' L := ⟨k.kn.kp q b.bw, b⟩
theorem KnF.new (k : KnF S n f L) : KnF (S.alloc o) n f ((S.next, o) :: L) := ⟨k.kn.new, k.bw.kq kq_alloc⟩
theorem KnF.get (k : KnF S n f ((m, o) :: L)) : S.get m = some o := k.kn.get
theorem KnF.ne (k : KnF S n f ((m, o) :: L)) : n ≠ m := Nat.ne_of_lt (k.kn.lt (m, o) (by simp)).1
theorem KnF.set (k : KnF S n f ((m, o) :: L)) : KnF (S.set m o') n f ((m, o') :: L) := ⟨k.kn.set, k.bw.kp kp_set k.ne⟩
theorem KnF.del (k : KnF S n f ((m, o) :: L)) : KnF (S.del m) n f L := ⟨k.kn.del, k.bw.1, by rw [Store.get_del, if_neg k.ne]; exact k.bw.2⟩
/-! letters -/
end
end J
set_option Elab.async false
set_option linter.all false
set_option maxRecDepth 100000
set_option maxHeartbeats 1010000
/-! VZb: the counting laws' own marks, words, words that are left, histories -/
namespace J
local macro_rules | `(tactic| walk_at "wop") => `(tactic| first | (with_reducible exact addD_int) | (with_reducible exact subI_int) | (with_reducible exact eqD_int) | (with_reducible exact eqD_str) | (with_reducible exact eqD_bl) | (with_reducible exact neD_int) | (with_reducible exact neD_str) | (with_reducible exact neD_bl) | (with_reducible exact ltI_int) | (with_reducible exact leI_int) | (with_reducible exact gtI_int) | (with_reducible exact geI_int) | (with_reducible exact lenD_tup) | (with_reducible exact tup_lst) | (with_reducible exact addD_str (by first | omega | (simp; done) | (simp; omega))) | (with_reducible exact lenD_str (by first | omega | (simp; done) | (simp; omega))) | (with_reducible exact lenD_lst (by first | omega | (simp; done) | (simp; omega))) | (with_reducible exact slD_str (by first | omega | (simp; done) | (simp; omega))) | (with_reducible exact addD_list (by first | omega | (simp; done) | (simp; omega))) | (with_reducible exact range1_map (S := ⟨[], 0⟩) (by first | omega | (simp; done) | (simp; omega))) | (with_reducible exact addD_tupA (by first | omega | (simp; done) | (simp; omega))) | (exact rfl))
local macro_rules | `(tactic| walk_at "wx1") => `(tactic| first | (((with_reducible apply wp_var); · rfl)) | (with_reducible refine wp_seq ?_) | (with_reducible refine wp_callK ?_) | (with_reducible refine wp_makeK ?_) | (with_reducible refine wp_methK ?_) | (with_reducible refine sK_nx ?_) | (with_reducible refine sK_rt ?_) | (with_reducible refine dK_rt ?_) | (with_reducible refine wp_c ?_) | (with_reducible refine wp_asg ?_) | (with_reducible refine wp_par ?_) | (with_reducible refine wp_par3 ?_) | (with_reducible refine wp_ifS ?_) | (with_reducible refine wp_retS ?_) | (with_reducible refine wp_expr ?_) | (with_reducible refine wp_next ?_) | (with_reducible refine wp_op ?_) | (with_reducible refine wp_cons ?_) | (with_reducible refine wp_nil ?_) | (with_reducible refine wp_call ?_) | (with_reducible refine wp_cb ?_) | (with_reducible refine wp_tst ?_) | (with_reducible refine wp_not ?_) | (with_reducible refine wp_and ?_) | (with_reducible refine wp_or ?_) | (with_reducible refine wp_andV ?_) | (with_reducible refine wp_orV ?_) | (with_reducible refine wp_notV ?_) | (with_reducible refine wp_if ?_) | (with_reducible refine wp_tup ?_) | (with_reducible refine wp_lst ?_) | (with_reducible refine wp_lstM ?_) | (with_reducible refine wp_bm ?_) | (with_reducible refine wp_sl ?_) | (with_reducible refine wp_noP ?_) | (with_reducible refine wp_part ?_) | (with_reducible refine wp_chain ?_) | (with_reducible refine wp_fld ?_) | (with_reducible refine wp_make ?_) | (with_reducible refine wp_range ?_) | (with_reducible refine wp_items ?_) | (with_reducible refine wp_zip ?_) | (with_reducible refine wp_enum ?_) | (with_reducible refine wp_yes ?_) | (with_reducible refine wp_star ?_) | (with_reducible refine wp_callV ?_) | (with_reducible refine wp_makeV ?_) | (with_reducible refine wp_meth ?_) | (with_reducible refine wp_retN ?_) | (with_reducible refine wp_cm ?_) | (with_reducible refine wp_asgG ?_) | (with_reducible refine ex_int ?_) | (with_reducible refine wp_opM ?_) | (with_reducible refine wp_prop ?_) | (with_reducible refine wp_tr ?_) | (with_reducible refine wp_bm0 ?_) | (with_reducible refine lK_rt ?_) | (((with_reducible apply ex_of); · walk_at "wop")) | (((with_reducible apply ex_fld); · rfl; · rfl; · rfl)) | (((with_reducible apply And.intro); · first | rfl | exact ⟨rfl, rfl⟩ | decide | (simp; done))))
theorem range_at {n x : Nat} {pre post : List Nat} (h : List.range n = pre ++ x :: post) : x = pre.length ∧ pre.length < n := by
  have h1 := congrArg List.length h
  rw [List.length_range, List.length_append, List.length_cons] at h1
  have h2 := congrArg (fun z => z[pre.length]?) h
  rw [List.getElem?_append_right (Nat.le_refl _), Nat.sub_self, List.getElem?_cons_zero, List.getElem?_range (by omega)] at h2
  exact ⟨(Option.some.inj h2).symm, by omega⟩
/-! ### words that are left -/
end J
set_option Elab.async false
set_option linter.all false
set_option maxRecDepth 100000
set_option maxHeartbeats 1010000
/-! VZc: the counting laws' rows and boards; the law over its wells -/
namespace J
local macro_rules | `(tactic| walk_at "wop") => `(tactic| first | (with_reducible exact addD_int) | (with_reducible exact subI_int) | (with_reducible exact eqD_int) | (with_reducible exact eqD_str) | (with_reducible exact eqD_bl) | (with_reducible exact neD_int) | (with_reducible exact neD_str) | (with_reducible exact neD_bl) | (with_reducible exact ltI_int) | (with_reducible exact leI_int) | (with_reducible exact gtI_int) | (with_reducible exact geI_int) | (with_reducible exact lenD_tup) | (with_reducible exact tup_lst) | (with_reducible exact addD_str (by first | omega | (simp; done) | (simp; omega))) | (with_reducible exact lenD_str (by first | omega | (simp; done) | (simp; omega))) | (with_reducible exact lenD_lst (by first | omega | (simp; done) | (simp; omega))) | (with_reducible exact slD_str (by first | omega | (simp; done) | (simp; omega))) | (with_reducible exact addD_list (by first | omega | (simp; done) | (simp; omega))) | (with_reducible exact range1_map (S := ⟨[], 0⟩) (by first | omega | (simp; done) | (simp; omega))) | (with_reducible exact addD_tupA (by first | omega | (simp; done) | (simp; omega))) | (exact rfl))
local macro_rules | `(tactic| walk_at "wx1") => `(tactic| first | (((with_reducible apply wp_var); · rfl)) | (with_reducible refine wp_seq ?_) | (with_reducible refine wp_callK ?_) | (with_reducible refine wp_makeK ?_) | (with_reducible refine wp_methK ?_) | (with_reducible refine sK_nx ?_) | (with_reducible refine sK_rt ?_) | (with_reducible refine dK_rt ?_) | (with_reducible refine wp_c ?_) | (with_reducible refine wp_asg ?_) | (with_reducible refine wp_par ?_) | (with_reducible refine wp_par3 ?_) | (with_reducible refine wp_ifS ?_) | (with_reducible refine wp_retS ?_) | (with_reducible refine wp_expr ?_) | (with_reducible refine wp_next ?_) | (with_reducible refine wp_op ?_) | (with_reducible refine wp_cons ?_) | (with_reducible refine wp_nil ?_) | (with_reducible refine wp_call ?_) | (with_reducible refine wp_cb ?_) | (with_reducible refine wp_tst ?_) | (with_reducible refine wp_not ?_) | (with_reducible refine wp_and ?_) | (with_reducible refine wp_or ?_) | (with_reducible refine wp_andV ?_) | (with_reducible refine wp_orV ?_) | (with_reducible refine wp_notV ?_) | (with_reducible refine wp_if ?_) | (with_reducible refine wp_tup ?_) | (with_reducible refine wp_lst ?_) | (with_reducible refine wp_lstM ?_) | (with_reducible refine wp_bm ?_) | (with_reducible refine wp_sl ?_) | (with_reducible refine wp_noP ?_) | (with_reducible refine wp_part ?_) | (with_reducible refine wp_chain ?_) | (with_reducible refine wp_fld ?_) | (with_reducible refine wp_make ?_) | (with_reducible refine wp_range ?_) | (with_reducible refine wp_items ?_) | (with_reducible refine wp_zip ?_) | (with_reducible refine wp_enum ?_) | (with_reducible refine wp_yes ?_) | (with_reducible refine wp_star ?_) | (with_reducible refine wp_callV ?_) | (with_reducible refine wp_makeV ?_) | (with_reducible refine wp_meth ?_) | (with_reducible refine wp_retN ?_) | (with_reducible refine wp_cm ?_) | (with_reducible refine wp_asgG ?_) | (with_reducible refine ex_int ?_) | (with_reducible refine wp_opM ?_) | (with_reducible refine wp_prop ?_) | (with_reducible refine wp_tr ?_) | (with_reducible refine wp_bm0 ?_) | (with_reducible refine lK_rt ?_) | (((with_reducible apply ex_of); · walk_at "wop")) | (((with_reducible apply ex_fld); · rfl; · rfl; · rfl)) | (((with_reducible apply And.intro); · first | rfl | exact ⟨rfl, rfl⟩ | decide | (simp; done))))
/-! ### the well -/
end J
set_option Elab.async false
set_option linter.all false
set_option maxRecDepth 100000
set_option maxHeartbeats 1010000
/-! VZd: facts drawn by the counting laws; count_with; large boards; rows of one hidden word -/
namespace J
local macro_rules | `(tactic| walk_at "wop") => `(tactic| first | (with_reducible exact addD_int) | (with_reducible exact subI_int) | (with_reducible exact eqD_int) | (with_reducible exact eqD_str) | (with_reducible exact eqD_bl) | (with_reducible exact neD_int) | (with_reducible exact neD_str) | (with_reducible exact neD_bl) | (with_reducible exact ltI_int) | (with_reducible exact leI_int) | (with_reducible exact gtI_int) | (with_reducible exact geI_int) | (with_reducible exact lenD_tup) | (with_reducible exact tup_lst) | (with_reducible exact addD_str (by first | omega | (simp; done) | (simp; omega))) | (with_reducible exact lenD_str (by first | omega | (simp; done) | (simp; omega))) | (with_reducible exact lenD_lst (by first | omega | (simp; done) | (simp; omega))) | (with_reducible exact slD_str (by first | omega | (simp; done) | (simp; omega))) | (with_reducible exact addD_list (by first | omega | (simp; done) | (simp; omega))) | (with_reducible exact range1_map (S := ⟨[], 0⟩) (by first | omega | (simp; done) | (simp; omega))) | (with_reducible exact addD_tupA (by first | omega | (simp; done) | (simp; omega))) | (exact rfl))
local macro_rules | `(tactic| walk_at "wx1") => `(tactic| first | (((with_reducible apply wp_var); · rfl)) | (with_reducible refine wp_seq ?_) | (with_reducible refine wp_callK ?_) | (with_reducible refine wp_makeK ?_) | (with_reducible refine wp_methK ?_) | (with_reducible refine sK_nx ?_) | (with_reducible refine sK_rt ?_) | (with_reducible refine dK_rt ?_) | (with_reducible refine wp_c ?_) | (with_reducible refine wp_asg ?_) | (with_reducible refine wp_par ?_) | (with_reducible refine wp_par3 ?_) | (with_reducible refine wp_ifS ?_) | (with_reducible refine wp_retS ?_) | (with_reducible refine wp_expr ?_) | (with_reducible refine wp_next ?_) | (with_reducible refine wp_op ?_) | (with_reducible refine wp_cons ?_) | (with_reducible refine wp_nil ?_) | (with_reducible refine wp_call ?_) | (with_reducible refine wp_cb ?_) | (with_reducible refine wp_tst ?_) | (with_reducible refine wp_not ?_) | (with_reducible refine wp_and ?_) | (with_reducible refine wp_or ?_) | (with_reducible refine wp_andV ?_) | (with_reducible refine wp_orV ?_) | (with_reducible refine wp_notV ?_) | (with_reducible refine wp_if ?_) | (with_reducible refine wp_tup ?_) | (with_reducible refine wp_lst ?_) | (with_reducible refine wp_lstM ?_) | (with_reducible refine wp_bm ?_) | (with_reducible refine wp_sl ?_) | (with_reducible refine wp_noP ?_) | (with_reducible refine wp_part ?_) | (with_reducible refine wp_chain ?_) | (with_reducible refine wp_fld ?_) | (with_reducible refine wp_make ?_) | (with_reducible refine wp_range ?_) | (with_reducible refine wp_items ?_) | (with_reducible refine wp_zip ?_) | (with_reducible refine wp_enum ?_) | (with_reducible refine wp_yes ?_) | (with_reducible refine wp_star ?_) | (with_reducible refine wp_callV ?_) | (with_reducible refine wp_makeV ?_) | (with_reducible refine wp_meth ?_) | (with_reducible refine wp_retN ?_) | (with_reducible refine wp_cm ?_) | (with_reducible refine wp_asgG ?_) | (with_reducible refine ex_int ?_) | (with_reducible refine wp_opM ?_) | (with_reducible refine wp_prop ?_) | (with_reducible refine wp_tr ?_) | (with_reducible refine wp_bm0 ?_) | (with_reducible refine lK_rt ?_) | (((with_reducible apply ex_of); · walk_at "wop")) | (((with_reducible apply ex_fld); · rfl; · rfl; · rfl)) | (((with_reducible apply And.intro); · first | rfl | exact ⟨rfl, rfl⟩ | decide | (simp; done))))
end J
set_option Elab.async false
set_option linter.all false
set_option maxRecDepth 100000
set_option maxHeartbeats 1010000
/-! VZe: powers, binomial numbers, the formula of one row with different letters -/
namespace J
local macro_rules | `(tactic| walk_at "wop") => `(tactic| first | (with_reducible exact addD_int) | (with_reducible exact subI_int) | (with_reducible exact eqD_int) | (with_reducible exact eqD_str) | (with_reducible exact eqD_bl) | (with_reducible exact neD_int) | (with_reducible exact neD_str) | (with_reducible exact neD_bl) | (with_reducible exact ltI_int) | (with_reducible exact leI_int) | (with_reducible exact gtI_int) | (with_reducible exact geI_int) | (with_reducible exact lenD_tup) | (with_reducible exact tup_lst) | (with_reducible exact addD_str (by first | omega | (simp; done) | (simp; omega))) | (with_reducible exact lenD_str (by first | omega | (simp; done) | (simp; omega))) | (with_reducible exact lenD_lst (by first | omega | (simp; done) | (simp; omega))) | (with_reducible exact slD_str (by first | omega | (simp; done) | (simp; omega))) | (with_reducible exact addD_list (by first | omega | (simp; done) | (simp; omega))) | (with_reducible exact range1_map (S := ⟨[], 0⟩) (by first | omega | (simp; done) | (simp; omega))) | (with_reducible exact addD_tupA (by first | omega | (simp; done) | (simp; omega))) | (exact rfl))
local macro_rules | `(tactic| walk_at "wx1") => `(tactic| first | (((with_reducible apply wp_var); · rfl)) | (with_reducible refine wp_seq ?_) | (with_reducible refine wp_callK ?_) | (with_reducible refine wp_makeK ?_) | (with_reducible refine wp_methK ?_) | (with_reducible refine sK_nx ?_) | (with_reducible refine sK_rt ?_) | (with_reducible refine dK_rt ?_) | (with_reducible refine wp_c ?_) | (with_reducible refine wp_asg ?_) | (with_reducible refine wp_par ?_) | (with_reducible refine wp_par3 ?_) | (with_reducible refine wp_ifS ?_) | (with_reducible refine wp_retS ?_) | (with_reducible refine wp_expr ?_) | (with_reducible refine wp_next ?_) | (with_reducible refine wp_op ?_) | (with_reducible refine wp_cons ?_) | (with_reducible refine wp_nil ?_) | (with_reducible refine wp_call ?_) | (with_reducible refine wp_cb ?_) | (with_reducible refine wp_tst ?_) | (with_reducible refine wp_not ?_) | (with_reducible refine wp_and ?_) | (with_reducible refine wp_or ?_) | (with_reducible refine wp_andV ?_) | (with_reducible refine wp_orV ?_) | (with_reducible refine wp_notV ?_) | (with_reducible refine wp_if ?_) | (with_reducible refine wp_tup ?_) | (with_reducible refine wp_lst ?_) | (with_reducible refine wp_lstM ?_) | (with_reducible refine wp_bm ?_) | (with_reducible refine wp_sl ?_) | (with_reducible refine wp_noP ?_) | (with_reducible refine wp_part ?_) | (with_reducible refine wp_chain ?_) | (with_reducible refine wp_fld ?_) | (with_reducible refine wp_make ?_) | (with_reducible refine wp_range ?_) | (with_reducible refine wp_items ?_) | (with_reducible refine wp_zip ?_) | (with_reducible refine wp_enum ?_) | (with_reducible refine wp_yes ?_) | (with_reducible refine wp_star ?_) | (with_reducible refine wp_callV ?_) | (with_reducible refine wp_makeV ?_) | (with_reducible refine wp_meth ?_) | (with_reducible refine wp_retN ?_) | (with_reducible refine wp_cm ?_) | (with_reducible refine wp_asgG ?_) | (with_reducible refine ex_int ?_) | (with_reducible refine wp_opM ?_) | (with_reducible refine wp_prop ?_) | (with_reducible refine wp_tr ?_) | (with_reducible refine wp_bm0 ?_) | (with_reducible refine lK_rt ?_) | (((with_reducible apply ex_of); · walk_at "wop")) | (((with_reducible apply ex_fld); · rfl; · rfl; · rfl)) | (((with_reducible apply And.intro); · first | rfl | exact ⟨rfl, rfl⟩ | decide | (simp; done))))
theorem mulD_l {a b : Int} {S : Store} (h : -18446744073709551616 < a) (h2 : a < 18446744073709551616) : mulD (.int a) (.int b) S = some (.int (a * b)) := by
  simp [mulD, op2, mulI, opI, h, h2]
theorem wp_negC {S : Store} {ρ : Rho} {Q : D → Store → Prop} {n : Int} (q : Q (.int (-n)) S) : Wp (iNegC n ρ) S Q := wp_mret q
theorem fdiv_int {a b : Int} {S : Store} (h : 0 < b) (h2 : b < 1073741824) : fdivI (.int a) (.int b) S = some (.int (a / b)) := by
  simp [fdivI, opI, h, h2]
section
variable {S0 : Store}
def wyI (n : Int) (k : Nat) : Int := (List.range k).foldl (fun f (j : Nat) => f * (n - (j : Int)) / ((j : Int) + 1)) 1
def frT (n : Int) (a b o : Nat) : Int := (-1) ^ o * wyI a o * ((n - b - o - 1) ^ (a - o) * (n - b - o) ^ (o + b))
end
end J
set_option Elab.async false
set_option linter.all false
set_option maxRecDepth 100000
set_option maxHeartbeats 1010000
/-! VZf: how many words give a guess of different letters its marks -/
namespace J
end J
set_option Elab.async false
set_option linter.all false
set_option maxRecDepth 100000
set_option maxHeartbeats 1010000
/-! VZg: words by their numbers, numbers of words -/
namespace J
open Cnt
local macro_rules | `(tactic| walk_at "wop") => `(tactic| first | (with_reducible exact addD_int) | (with_reducible exact subI_int) | (with_reducible exact eqD_int) | (with_reducible exact eqD_str) | (with_reducible exact eqD_bl) | (with_reducible exact neD_int) | (with_reducible exact neD_str) | (with_reducible exact neD_bl) | (with_reducible exact ltI_int) | (with_reducible exact leI_int) | (with_reducible exact gtI_int) | (with_reducible exact geI_int) | (with_reducible exact lenD_tup) | (with_reducible exact tup_lst) | (with_reducible exact addD_str (by first | omega | (simp; done) | (simp; omega))) | (with_reducible exact lenD_str (by first | omega | (simp; done) | (simp; omega))) | (with_reducible exact lenD_lst (by first | omega | (simp; done) | (simp; omega))) | (with_reducible exact slD_str (by first | omega | (simp; done) | (simp; omega))) | (with_reducible exact addD_list (by first | omega | (simp; done) | (simp; omega))) | (with_reducible exact range1_map (S := ⟨[], 0⟩) (by first | omega | (simp; done) | (simp; omega))) | (with_reducible exact addD_tupA (by first | omega | (simp; done) | (simp; omega))) | (exact rfl))
local macro_rules | `(tactic| walk_at "wx1") => `(tactic| first | (((with_reducible apply wp_var); · rfl)) | (with_reducible refine wp_seq ?_) | (with_reducible refine wp_callK ?_) | (with_reducible refine wp_makeK ?_) | (with_reducible refine wp_methK ?_) | (with_reducible refine sK_nx ?_) | (with_reducible refine sK_rt ?_) | (with_reducible refine dK_rt ?_) | (with_reducible refine wp_c ?_) | (with_reducible refine wp_asg ?_) | (with_reducible refine wp_par ?_) | (with_reducible refine wp_par3 ?_) | (with_reducible refine wp_ifS ?_) | (with_reducible refine wp_retS ?_) | (with_reducible refine wp_expr ?_) | (with_reducible refine wp_next ?_) | (with_reducible refine wp_op ?_) | (with_reducible refine wp_cons ?_) | (with_reducible refine wp_nil ?_) | (with_reducible refine wp_call ?_) | (with_reducible refine wp_cb ?_) | (with_reducible refine wp_tst ?_) | (with_reducible refine wp_not ?_) | (with_reducible refine wp_and ?_) | (with_reducible refine wp_or ?_) | (with_reducible refine wp_andV ?_) | (with_reducible refine wp_orV ?_) | (with_reducible refine wp_notV ?_) | (with_reducible refine wp_if ?_) | (with_reducible refine wp_tup ?_) | (with_reducible refine wp_lst ?_) | (with_reducible refine wp_lstM ?_) | (with_reducible refine wp_bm ?_) | (with_reducible refine wp_sl ?_) | (with_reducible refine wp_noP ?_) | (with_reducible refine wp_part ?_) | (with_reducible refine wp_chain ?_) | (with_reducible refine wp_fld ?_) | (with_reducible refine wp_make ?_) | (with_reducible refine wp_range ?_) | (with_reducible refine wp_items ?_) | (with_reducible refine wp_zip ?_) | (with_reducible refine wp_enum ?_) | (with_reducible refine wp_yes ?_) | (with_reducible refine wp_star ?_) | (with_reducible refine wp_callV ?_) | (with_reducible refine wp_makeV ?_) | (with_reducible refine wp_meth ?_) | (with_reducible refine wp_retN ?_) | (with_reducible refine wp_cm ?_) | (with_reducible refine wp_asgG ?_) | (with_reducible refine ex_int ?_) | (with_reducible refine wp_opM ?_) | (with_reducible refine wp_prop ?_) | (with_reducible refine wp_tr ?_) | (with_reducible refine wp_bm0 ?_) | (with_reducible refine lK_rt ?_) | (((with_reducible apply ex_of); · walk_at "wop")) | (((with_reducible apply ex_fld); · rfl; · rfl; · rfl)) | (((with_reducible apply And.intro); · first | rfl | exact ⟨rfl, rfl⟩ | decide | (simp; done))))
section
variable {l : List Nat} {k : Nat}
/-! ### blocks of words with a start -/
def blk (P : List Nat → Bool) (l : List Nat) (st : List Nat) (j : Nat) : List (List Nat) := ((wordsN l j).map fun w => st ++ w).filter P
end
end J
set_option Elab.async false
set_option linter.all false
set_option maxRecDepth 100000
set_option maxHeartbeats 1010000
/-! VZh: nth_word and place_of -/
namespace J
open Cnt
local macro_rules | `(tactic| walk_at "wop") => `(tactic| first | (with_reducible exact addD_int) | (with_reducible exact subI_int) | (with_reducible exact eqD_int) | (with_reducible exact eqD_str) | (with_reducible exact eqD_bl) | (with_reducible exact neD_int) | (with_reducible exact neD_str) | (with_reducible exact neD_bl) | (with_reducible exact ltI_int) | (with_reducible exact leI_int) | (with_reducible exact gtI_int) | (with_reducible exact geI_int) | (with_reducible exact lenD_tup) | (with_reducible exact tup_lst) | (with_reducible exact addD_str (by first | omega | (simp; done) | (simp; omega))) | (with_reducible exact lenD_str (by first | omega | (simp; done) | (simp; omega))) | (with_reducible exact lenD_lst (by first | omega | (simp; done) | (simp; omega))) | (with_reducible exact slD_str (by first | omega | (simp; done) | (simp; omega))) | (with_reducible exact addD_list (by first | omega | (simp; done) | (simp; omega))) | (with_reducible exact range1_map (S := ⟨[], 0⟩) (by first | omega | (simp; done) | (simp; omega))) | (with_reducible exact addD_tupA (by first | omega | (simp; done) | (simp; omega))) | (exact rfl))
local macro_rules | `(tactic| walk_at "wx1") => `(tactic| first | (((with_reducible apply wp_var); · rfl)) | (with_reducible refine wp_seq ?_) | (with_reducible refine wp_callK ?_) | (with_reducible refine wp_makeK ?_) | (with_reducible refine wp_methK ?_) | (with_reducible refine sK_nx ?_) | (with_reducible refine sK_rt ?_) | (with_reducible refine dK_rt ?_) | (with_reducible refine wp_c ?_) | (with_reducible refine wp_asg ?_) | (with_reducible refine wp_par ?_) | (with_reducible refine wp_par3 ?_) | (with_reducible refine wp_ifS ?_) | (with_reducible refine wp_retS ?_) | (with_reducible refine wp_expr ?_) | (with_reducible refine wp_next ?_) | (with_reducible refine wp_op ?_) | (with_reducible refine wp_cons ?_) | (with_reducible refine wp_nil ?_) | (with_reducible refine wp_call ?_) | (with_reducible refine wp_cb ?_) | (with_reducible refine wp_tst ?_) | (with_reducible refine wp_not ?_) | (with_reducible refine wp_and ?_) | (with_reducible refine wp_or ?_) | (with_reducible refine wp_andV ?_) | (with_reducible refine wp_orV ?_) | (with_reducible refine wp_notV ?_) | (with_reducible refine wp_if ?_) | (with_reducible refine wp_tup ?_) | (with_reducible refine wp_lst ?_) | (with_reducible refine wp_lstM ?_) | (with_reducible refine wp_bm ?_) | (with_reducible refine wp_sl ?_) | (with_reducible refine wp_noP ?_) | (with_reducible refine wp_part ?_) | (with_reducible refine wp_chain ?_) | (with_reducible refine wp_fld ?_) | (with_reducible refine wp_make ?_) | (with_reducible refine wp_range ?_) | (with_reducible refine wp_items ?_) | (with_reducible refine wp_zip ?_) | (with_reducible refine wp_enum ?_) | (with_reducible refine wp_yes ?_) | (with_reducible refine wp_star ?_) | (with_reducible refine wp_callV ?_) | (with_reducible refine wp_makeV ?_) | (with_reducible refine wp_meth ?_) | (with_reducible refine wp_retN ?_) | (with_reducible refine wp_cm ?_) | (with_reducible refine wp_asgG ?_) | (with_reducible refine ex_int ?_) | (with_reducible refine wp_opM ?_) | (with_reducible refine wp_prop ?_) | (with_reducible refine wp_tr ?_) | (with_reducible refine wp_bm0 ?_) | (with_reducible refine lK_rt ?_) | (((with_reducible apply ex_of); · walk_at "wop")) | (((with_reducible apply ex_fld); · rfl; · rfl; · rfl)) | (((with_reducible apply And.intro); · first | rfl | exact ⟨rfl, rfl⟩ | decide | (simp; done))))
end J
set_option Elab.async false
set_option linter.all false
set_option maxRecDepth 100000
set_option maxHeartbeats 1010000
/-! VZi: counts that are known by hand -/
namespace J
/-! ### marks that are all 0, marks of one letter alone -/
end J
set_option Elab.async false
set_option linter.all false
set_option maxRecDepth 100000
set_option maxHeartbeats 1010000
/-! VZj: the numbers of copies that occur have no gaps; boards of a middle size; lists of numbers compared -/
namespace J
local macro_rules | `(tactic| walk_at "wop") => `(tactic| first | (with_reducible exact addD_int) | (with_reducible exact subI_int) | (with_reducible exact eqD_int) | (with_reducible exact eqD_str) | (with_reducible exact eqD_bl) | (with_reducible exact neD_int) | (with_reducible exact neD_str) | (with_reducible exact neD_bl) | (with_reducible exact ltI_int) | (with_reducible exact leI_int) | (with_reducible exact gtI_int) | (with_reducible exact geI_int) | (with_reducible exact lenD_tup) | (with_reducible exact tup_lst) | (with_reducible exact addD_str (by first | omega | (simp; done) | (simp; omega))) | (with_reducible exact lenD_str (by first | omega | (simp; done) | (simp; omega))) | (with_reducible exact lenD_lst (by first | omega | (simp; done) | (simp; omega))) | (with_reducible exact slD_str (by first | omega | (simp; done) | (simp; omega))) | (with_reducible exact addD_list (by first | omega | (simp; done) | (simp; omega))) | (with_reducible exact range1_map (S := ⟨[], 0⟩) (by first | omega | (simp; done) | (simp; omega))) | (with_reducible exact addD_tupA (by first | omega | (simp; done) | (simp; omega))) | (exact rfl))
local macro_rules | `(tactic| walk_at "wx1") => `(tactic| first | (((with_reducible apply wp_var); · rfl)) | (with_reducible refine wp_seq ?_) | (with_reducible refine wp_callK ?_) | (with_reducible refine wp_makeK ?_) | (with_reducible refine wp_methK ?_) | (with_reducible refine sK_nx ?_) | (with_reducible refine sK_rt ?_) | (with_reducible refine dK_rt ?_) | (with_reducible refine wp_c ?_) | (with_reducible refine wp_asg ?_) | (with_reducible refine wp_par ?_) | (with_reducible refine wp_par3 ?_) | (with_reducible refine wp_ifS ?_) | (with_reducible refine wp_retS ?_) | (with_reducible refine wp_expr ?_) | (with_reducible refine wp_next ?_) | (with_reducible refine wp_op ?_) | (with_reducible refine wp_cons ?_) | (with_reducible refine wp_nil ?_) | (with_reducible refine wp_call ?_) | (with_reducible refine wp_cb ?_) | (with_reducible refine wp_tst ?_) | (with_reducible refine wp_not ?_) | (with_reducible refine wp_and ?_) | (with_reducible refine wp_or ?_) | (with_reducible refine wp_andV ?_) | (with_reducible refine wp_orV ?_) | (with_reducible refine wp_notV ?_) | (with_reducible refine wp_if ?_) | (with_reducible refine wp_tup ?_) | (with_reducible refine wp_lst ?_) | (with_reducible refine wp_lstM ?_) | (with_reducible refine wp_bm ?_) | (with_reducible refine wp_sl ?_) | (with_reducible refine wp_noP ?_) | (with_reducible refine wp_part ?_) | (with_reducible refine wp_chain ?_) | (with_reducible refine wp_fld ?_) | (with_reducible refine wp_make ?_) | (with_reducible refine wp_range ?_) | (with_reducible refine wp_items ?_) | (with_reducible refine wp_zip ?_) | (with_reducible refine wp_enum ?_) | (with_reducible refine wp_yes ?_) | (with_reducible refine wp_star ?_) | (with_reducible refine wp_callV ?_) | (with_reducible refine wp_makeV ?_) | (with_reducible refine wp_meth ?_) | (with_reducible refine wp_retN ?_) | (with_reducible refine wp_cm ?_) | (with_reducible refine wp_asgG ?_) | (with_reducible refine ex_int ?_) | (with_reducible refine wp_opM ?_) | (with_reducible refine wp_prop ?_) | (with_reducible refine wp_tr ?_) | (with_reducible refine wp_bm0 ?_) | (with_reducible refine lK_rt ?_) | (((with_reducible apply ex_of); · walk_at "wop")) | (((with_reducible apply ex_fld); · rfl; · rfl; · rfl)) | (((with_reducible apply And.intro); · first | rfl | exact ⟨rfl, rfl⟩ | decide | (simp; done))))
theorem eqv_ints : ∀ xs : List Nat, PySem.PyData.eqvAll (xs.map fun p : Nat => PySem.PyData.int (p : Int)) (xs.map fun p : Nat => PySem.PyData.int (p : Int)) = true
  | [] => by simp [PySem.PyData.eqvAll]
  | x :: xs => by
    rw [List.map_cons, PySem.PyData.eqvAll, eqv_ints xs]
    simp [PySem.PyData.eqv]
theorem ne_ints {xs : List Nat} {S : Store} {y : D} (hy : y = .lst (xs.map fun p : Nat => D.int (p : Int)) ∨ ∃ m, y = .ref m ∧ S.get m = some (.lst (xs.map fun p : Nat => D.int (p : Int)))) : neD (.lst (xs.map fun p : Nat => D.int (p : Int))) y S = some (.bl false) := by
  obtain ⟨a1, a2⟩ := lay_ints xs
  have sh : PySem.SeqAt.shaped (.list (xs.map fun p : Nat => PySem.PyData.int (p : Int))) = true := by
    rw [PySem.SeqAt.shaped, Bool.and_eq_true]
    exact ⟨by simp [PySem.PyData.canLay0, a1], decide_eq_true (by simp only [PySem.PyData.depth]; omega)⟩
  rcases hy with rfl | ⟨m, rfl, g⟩
  · simp only [neD, op2, neS, eqS, neG, eqP, deref, toPy, toPys_ints, Option.map_some, sh, PySem.PyData.eqv, eqv_ints]
    rfl
  · simp only [neD, op2, neS, eqS, neG, eqP, deref, g, toPy, toPys_ints, Option.map_some, sh, PySem.PyData.eqv, eqv_ints]
    rfl
end J
set_option Elab.async false
set_option linter.all false
set_option maxRecDepth 100000
set_option maxHeartbeats 1010000
/-! VZk: answers -/
namespace J
open Cnt
local macro_rules | `(tactic| walk_at "wop") => `(tactic| first | (with_reducible exact addD_int) | (with_reducible exact subI_int) | (with_reducible exact eqD_int) | (with_reducible exact eqD_str) | (with_reducible exact eqD_bl) | (with_reducible exact neD_int) | (with_reducible exact neD_str) | (with_reducible exact neD_bl) | (with_reducible exact ltI_int) | (with_reducible exact leI_int) | (with_reducible exact gtI_int) | (with_reducible exact geI_int) | (with_reducible exact lenD_tup) | (with_reducible exact tup_lst) | (with_reducible exact addD_str (by first | omega | (simp; done) | (simp; omega))) | (with_reducible exact lenD_str (by first | omega | (simp; done) | (simp; omega))) | (with_reducible exact lenD_lst (by first | omega | (simp; done) | (simp; omega))) | (with_reducible exact slD_str (by first | omega | (simp; done) | (simp; omega))) | (with_reducible exact addD_list (by first | omega | (simp; done) | (simp; omega))) | (with_reducible exact range1_map (S := ⟨[], 0⟩) (by first | omega | (simp; done) | (simp; omega))) | (with_reducible exact addD_tupA (by first | omega | (simp; done) | (simp; omega))) | (exact rfl))
local macro_rules | `(tactic| walk_at "wx1") => `(tactic| first | (((with_reducible apply wp_var); · rfl)) | (with_reducible refine wp_seq ?_) | (with_reducible refine wp_callK ?_) | (with_reducible refine wp_makeK ?_) | (with_reducible refine wp_methK ?_) | (with_reducible refine sK_nx ?_) | (with_reducible refine sK_rt ?_) | (with_reducible refine dK_rt ?_) | (with_reducible refine wp_c ?_) | (with_reducible refine wp_asg ?_) | (with_reducible refine wp_par ?_) | (with_reducible refine wp_par3 ?_) | (with_reducible refine wp_ifS ?_) | (with_reducible refine wp_retS ?_) | (with_reducible refine wp_expr ?_) | (with_reducible refine wp_next ?_) | (with_reducible refine wp_op ?_) | (with_reducible refine wp_cons ?_) | (with_reducible refine wp_nil ?_) | (with_reducible refine wp_call ?_) | (with_reducible refine wp_cb ?_) | (with_reducible refine wp_tst ?_) | (with_reducible refine wp_not ?_) | (with_reducible refine wp_and ?_) | (with_reducible refine wp_or ?_) | (with_reducible refine wp_andV ?_) | (with_reducible refine wp_orV ?_) | (with_reducible refine wp_notV ?_) | (with_reducible refine wp_if ?_) | (with_reducible refine wp_tup ?_) | (with_reducible refine wp_lst ?_) | (with_reducible refine wp_lstM ?_) | (with_reducible refine wp_bm ?_) | (with_reducible refine wp_sl ?_) | (with_reducible refine wp_noP ?_) | (with_reducible refine wp_part ?_) | (with_reducible refine wp_chain ?_) | (with_reducible refine wp_fld ?_) | (with_reducible refine wp_make ?_) | (with_reducible refine wp_range ?_) | (with_reducible refine wp_items ?_) | (with_reducible refine wp_zip ?_) | (with_reducible refine wp_enum ?_) | (with_reducible refine wp_yes ?_) | (with_reducible refine wp_star ?_) | (with_reducible refine wp_callV ?_) | (with_reducible refine wp_makeV ?_) | (with_reducible refine wp_meth ?_) | (with_reducible refine wp_retN ?_) | (with_reducible refine wp_cm ?_) | (with_reducible refine wp_asgG ?_) | (with_reducible refine ex_int ?_) | (with_reducible refine wp_opM ?_) | (with_reducible refine wp_prop ?_) | (with_reducible refine wp_tr ?_) | (with_reducible refine wp_bm0 ?_) | (with_reducible refine lK_rt ?_) | (((with_reducible apply ex_of); · walk_at "wop")) | (((with_reducible apply ex_fld); · rfl; · rfl; · rfl)) | (((with_reducible apply And.intro); · first | rfl | exact ⟨rfl, rfl⟩ | decide | (simp; done))))
end J
set_option Elab.async false
set_option linter.all false
set_option maxRecDepth 100000
set_option maxHeartbeats 1010000
/-! VZl: answers_of -/
namespace J
open Cnt
local macro_rules | `(tactic| walk_at "wop") => `(tactic| first | (with_reducible exact addD_int) | (with_reducible exact subI_int) | (with_reducible exact eqD_int) | (with_reducible exact eqD_str) | (with_reducible exact eqD_bl) | (with_reducible exact neD_int) | (with_reducible exact neD_str) | (with_reducible exact neD_bl) | (with_reducible exact ltI_int) | (with_reducible exact leI_int) | (with_reducible exact gtI_int) | (with_reducible exact geI_int) | (with_reducible exact lenD_tup) | (with_reducible exact tup_lst) | (with_reducible exact addD_str (by first | omega | (simp; done) | (simp; omega))) | (with_reducible exact lenD_str (by first | omega | (simp; done) | (simp; omega))) | (with_reducible exact lenD_lst (by first | omega | (simp; done) | (simp; omega))) | (with_reducible exact slD_str (by first | omega | (simp; done) | (simp; omega))) | (with_reducible exact addD_list (by first | omega | (simp; done) | (simp; omega))) | (with_reducible exact range1_map (S := ⟨[], 0⟩) (by first | omega | (simp; done) | (simp; omega))) | (with_reducible exact addD_tupA (by first | omega | (simp; done) | (simp; omega))) | (exact rfl))
local macro_rules | `(tactic| walk_at "wx1") => `(tactic| first | (((with_reducible apply wp_var); · rfl)) | (with_reducible refine wp_seq ?_) | (with_reducible refine wp_callK ?_) | (with_reducible refine wp_makeK ?_) | (with_reducible refine wp_methK ?_) | (with_reducible refine sK_nx ?_) | (with_reducible refine sK_rt ?_) | (with_reducible refine dK_rt ?_) | (with_reducible refine wp_c ?_) | (with_reducible refine wp_asg ?_) | (with_reducible refine wp_par ?_) | (with_reducible refine wp_par3 ?_) | (with_reducible refine wp_ifS ?_) | (with_reducible refine wp_retS ?_) | (with_reducible refine wp_expr ?_) | (with_reducible refine wp_next ?_) | (with_reducible refine wp_op ?_) | (with_reducible refine wp_cons ?_) | (with_reducible refine wp_nil ?_) | (with_reducible refine wp_call ?_) | (with_reducible refine wp_cb ?_) | (with_reducible refine wp_tst ?_) | (with_reducible refine wp_not ?_) | (with_reducible refine wp_and ?_) | (with_reducible refine wp_or ?_) | (with_reducible refine wp_andV ?_) | (with_reducible refine wp_orV ?_) | (with_reducible refine wp_notV ?_) | (with_reducible refine wp_if ?_) | (with_reducible refine wp_tup ?_) | (with_reducible refine wp_lst ?_) | (with_reducible refine wp_lstM ?_) | (with_reducible refine wp_bm ?_) | (with_reducible refine wp_sl ?_) | (with_reducible refine wp_noP ?_) | (with_reducible refine wp_part ?_) | (with_reducible refine wp_chain ?_) | (with_reducible refine wp_fld ?_) | (with_reducible refine wp_make ?_) | (with_reducible refine wp_range ?_) | (with_reducible refine wp_items ?_) | (with_reducible refine wp_zip ?_) | (with_reducible refine wp_enum ?_) | (with_reducible refine wp_yes ?_) | (with_reducible refine wp_star ?_) | (with_reducible refine wp_callV ?_) | (with_reducible refine wp_makeV ?_) | (with_reducible refine wp_meth ?_) | (with_reducible refine wp_retN ?_) | (with_reducible refine wp_cm ?_) | (with_reducible refine wp_asgG ?_) | (with_reducible refine ex_int ?_) | (with_reducible refine wp_opM ?_) | (with_reducible refine wp_prop ?_) | (with_reducible refine wp_tr ?_) | (with_reducible refine wp_bm0 ?_) | (with_reducible refine lK_rt ?_) | (((with_reducible apply ex_of); · walk_at "wop")) | (((with_reducible apply ex_fld); · rfl; · rfl; · rfl)) | (((with_reducible apply And.intro); · first | rfl | exact ⟨rfl, rfl⟩ | decide | (simp; done))))
end J
set_option Elab.async false
set_option linter.all false
set_option maxRecDepth 100000
set_option maxHeartbeats 1010000
/-! VZm: marks that are tallied -/
namespace J
open Cnt
local macro_rules | `(tactic| walk_at "wop") => `(tactic| first | (with_reducible exact addD_int) | (with_reducible exact subI_int) | (with_reducible exact eqD_int) | (with_reducible exact eqD_str) | (with_reducible exact eqD_bl) | (with_reducible exact neD_int) | (with_reducible exact neD_str) | (with_reducible exact neD_bl) | (with_reducible exact ltI_int) | (with_reducible exact leI_int) | (with_reducible exact gtI_int) | (with_reducible exact geI_int) | (with_reducible exact lenD_tup) | (with_reducible exact tup_lst) | (with_reducible exact addD_str (by first | omega | (simp; done) | (simp; omega))) | (with_reducible exact lenD_str (by first | omega | (simp; done) | (simp; omega))) | (with_reducible exact lenD_lst (by first | omega | (simp; done) | (simp; omega))) | (with_reducible exact slD_str (by first | omega | (simp; done) | (simp; omega))) | (with_reducible exact addD_list (by first | omega | (simp; done) | (simp; omega))) | (with_reducible exact range1_map (S := ⟨[], 0⟩) (by first | omega | (simp; done) | (simp; omega))) | (with_reducible exact addD_tupA (by first | omega | (simp; done) | (simp; omega))) | (exact rfl))
local macro_rules | `(tactic| walk_at "wx1") => `(tactic| first | (((with_reducible apply wp_var); · rfl)) | (with_reducible refine wp_seq ?_) | (with_reducible refine wp_callK ?_) | (with_reducible refine wp_makeK ?_) | (with_reducible refine wp_methK ?_) | (with_reducible refine sK_nx ?_) | (with_reducible refine sK_rt ?_) | (with_reducible refine dK_rt ?_) | (with_reducible refine wp_c ?_) | (with_reducible refine wp_asg ?_) | (with_reducible refine wp_par ?_) | (with_reducible refine wp_par3 ?_) | (with_reducible refine wp_ifS ?_) | (with_reducible refine wp_retS ?_) | (with_reducible refine wp_expr ?_) | (with_reducible refine wp_next ?_) | (with_reducible refine wp_op ?_) | (with_reducible refine wp_cons ?_) | (with_reducible refine wp_nil ?_) | (with_reducible refine wp_call ?_) | (with_reducible refine wp_cb ?_) | (with_reducible refine wp_tst ?_) | (with_reducible refine wp_not ?_) | (with_reducible refine wp_and ?_) | (with_reducible refine wp_or ?_) | (with_reducible refine wp_andV ?_) | (with_reducible refine wp_orV ?_) | (with_reducible refine wp_notV ?_) | (with_reducible refine wp_if ?_) | (with_reducible refine wp_tup ?_) | (with_reducible refine wp_lst ?_) | (with_reducible refine wp_lstM ?_) | (with_reducible refine wp_bm ?_) | (with_reducible refine wp_sl ?_) | (with_reducible refine wp_noP ?_) | (with_reducible refine wp_part ?_) | (with_reducible refine wp_chain ?_) | (with_reducible refine wp_fld ?_) | (with_reducible refine wp_make ?_) | (with_reducible refine wp_range ?_) | (with_reducible refine wp_items ?_) | (with_reducible refine wp_zip ?_) | (with_reducible refine wp_enum ?_) | (with_reducible refine wp_yes ?_) | (with_reducible refine wp_star ?_) | (with_reducible refine wp_callV ?_) | (with_reducible refine wp_makeV ?_) | (with_reducible refine wp_meth ?_) | (with_reducible refine wp_retN ?_) | (with_reducible refine wp_cm ?_) | (with_reducible refine wp_asgG ?_) | (with_reducible refine ex_int ?_) | (with_reducible refine wp_opM ?_) | (with_reducible refine wp_prop ?_) | (with_reducible refine wp_tr ?_) | (with_reducible refine wp_bm0 ?_) | (with_reducible refine lK_rt ?_) | (((with_reducible apply ex_of); · walk_at "wop")) | (((with_reducible apply ex_fld); · rfl; · rfl; · rfl)) | (((with_reducible apply And.intro); · first | rfl | exact ⟨rfl, rfl⟩ | decide | (simp; done))))
/-! ### words in ascending order -/
/-! ### dicts from texts to numbers -/
end J
set_option Elab.async false
set_option linter.all false
set_option maxRecDepth 100000
set_option maxHeartbeats 1010000
/-! VZn: reports -/
namespace J
open Cnt
local macro_rules | `(tactic| walk_at "wop") => `(tactic| first | (with_reducible exact addD_int) | (with_reducible exact subI_int) | (with_reducible exact eqD_int) | (with_reducible exact eqD_str) | (with_reducible exact eqD_bl) | (with_reducible exact neD_int) | (with_reducible exact neD_str) | (with_reducible exact neD_bl) | (with_reducible exact ltI_int) | (with_reducible exact leI_int) | (with_reducible exact gtI_int) | (with_reducible exact geI_int) | (with_reducible exact lenD_tup) | (with_reducible exact tup_lst) | (with_reducible exact addD_str (by first | omega | (simp; done) | (simp; omega))) | (with_reducible exact lenD_str (by first | omega | (simp; done) | (simp; omega))) | (with_reducible exact lenD_lst (by first | omega | (simp; done) | (simp; omega))) | (with_reducible exact slD_str (by first | omega | (simp; done) | (simp; omega))) | (with_reducible exact addD_list (by first | omega | (simp; done) | (simp; omega))) | (with_reducible exact range1_map (S := ⟨[], 0⟩) (by first | omega | (simp; done) | (simp; omega))) | (with_reducible exact addD_tupA (by first | omega | (simp; done) | (simp; omega))) | (exact rfl))
local macro_rules | `(tactic| walk_at "wx1") => `(tactic| first | (((with_reducible apply wp_var); · rfl)) | (with_reducible refine wp_seq ?_) | (with_reducible refine wp_callK ?_) | (with_reducible refine wp_makeK ?_) | (with_reducible refine wp_methK ?_) | (with_reducible refine sK_nx ?_) | (with_reducible refine sK_rt ?_) | (with_reducible refine dK_rt ?_) | (with_reducible refine wp_c ?_) | (with_reducible refine wp_asg ?_) | (with_reducible refine wp_par ?_) | (with_reducible refine wp_par3 ?_) | (with_reducible refine wp_ifS ?_) | (with_reducible refine wp_retS ?_) | (with_reducible refine wp_expr ?_) | (with_reducible refine wp_next ?_) | (with_reducible refine wp_op ?_) | (with_reducible refine wp_cons ?_) | (with_reducible refine wp_nil ?_) | (with_reducible refine wp_call ?_) | (with_reducible refine wp_cb ?_) | (with_reducible refine wp_tst ?_) | (with_reducible refine wp_not ?_) | (with_reducible refine wp_and ?_) | (with_reducible refine wp_or ?_) | (with_reducible refine wp_andV ?_) | (with_reducible refine wp_orV ?_) | (with_reducible refine wp_notV ?_) | (with_reducible refine wp_if ?_) | (with_reducible refine wp_tup ?_) | (with_reducible refine wp_lst ?_) | (with_reducible refine wp_lstM ?_) | (with_reducible refine wp_bm ?_) | (with_reducible refine wp_sl ?_) | (with_reducible refine wp_noP ?_) | (with_reducible refine wp_part ?_) | (with_reducible refine wp_chain ?_) | (with_reducible refine wp_fld ?_) | (with_reducible refine wp_make ?_) | (with_reducible refine wp_range ?_) | (with_reducible refine wp_items ?_) | (with_reducible refine wp_zip ?_) | (with_reducible refine wp_enum ?_) | (with_reducible refine wp_yes ?_) | (with_reducible refine wp_star ?_) | (with_reducible refine wp_callV ?_) | (with_reducible refine wp_makeV ?_) | (with_reducible refine wp_meth ?_) | (with_reducible refine wp_retN ?_) | (with_reducible refine wp_cm ?_) | (with_reducible refine wp_asgG ?_) | (with_reducible refine ex_int ?_) | (with_reducible refine wp_opM ?_) | (with_reducible refine wp_prop ?_) | (with_reducible refine wp_tr ?_) | (with_reducible refine wp_bm0 ?_) | (with_reducible refine lK_rt ?_) | (((with_reducible apply ex_of); · walk_at "wop")) | (((with_reducible apply ex_fld); · rfl; · rfl; · rfl)) | (((with_reducible apply And.intro); · first | rfl | exact ⟨rfl, rfl⟩ | decide | (simp; done))))
end J
set_option Elab.async false
set_option linter.all false
set_option maxRecDepth 100000
set_option maxHeartbeats 1010000
/-! VZo: answers on large boards -/
namespace J
open Cnt
local macro_rules | `(tactic| walk_at "wop") => `(tactic| first | (with_reducible exact addD_int) | (with_reducible exact subI_int) | (with_reducible exact eqD_int) | (with_reducible exact eqD_str) | (with_reducible exact eqD_bl) | (with_reducible exact neD_int) | (with_reducible exact neD_str) | (with_reducible exact neD_bl) | (with_reducible exact ltI_int) | (with_reducible exact leI_int) | (with_reducible exact gtI_int) | (with_reducible exact geI_int) | (with_reducible exact lenD_tup) | (with_reducible exact tup_lst) | (with_reducible exact addD_str (by first | omega | (simp; done) | (simp; omega))) | (with_reducible exact lenD_str (by first | omega | (simp; done) | (simp; omega))) | (with_reducible exact lenD_lst (by first | omega | (simp; done) | (simp; omega))) | (with_reducible exact slD_str (by first | omega | (simp; done) | (simp; omega))) | (with_reducible exact addD_list (by first | omega | (simp; done) | (simp; omega))) | (with_reducible exact range1_map (S := ⟨[], 0⟩) (by first | omega | (simp; done) | (simp; omega))) | (with_reducible exact addD_tupA (by first | omega | (simp; done) | (simp; omega))) | (exact rfl))
local macro_rules | `(tactic| walk_at "wx1") => `(tactic| first | (((with_reducible apply wp_var); · rfl)) | (with_reducible refine wp_seq ?_) | (with_reducible refine wp_callK ?_) | (with_reducible refine wp_makeK ?_) | (with_reducible refine wp_methK ?_) | (with_reducible refine sK_nx ?_) | (with_reducible refine sK_rt ?_) | (with_reducible refine dK_rt ?_) | (with_reducible refine wp_c ?_) | (with_reducible refine wp_asg ?_) | (with_reducible refine wp_par ?_) | (with_reducible refine wp_par3 ?_) | (with_reducible refine wp_ifS ?_) | (with_reducible refine wp_retS ?_) | (with_reducible refine wp_expr ?_) | (with_reducible refine wp_next ?_) | (with_reducible refine wp_op ?_) | (with_reducible refine wp_cons ?_) | (with_reducible refine wp_nil ?_) | (with_reducible refine wp_call ?_) | (with_reducible refine wp_cb ?_) | (with_reducible refine wp_tst ?_) | (with_reducible refine wp_not ?_) | (with_reducible refine wp_and ?_) | (with_reducible refine wp_or ?_) | (with_reducible refine wp_andV ?_) | (with_reducible refine wp_orV ?_) | (with_reducible refine wp_notV ?_) | (with_reducible refine wp_if ?_) | (with_reducible refine wp_tup ?_) | (with_reducible refine wp_lst ?_) | (with_reducible refine wp_lstM ?_) | (with_reducible refine wp_bm ?_) | (with_reducible refine wp_sl ?_) | (with_reducible refine wp_noP ?_) | (with_reducible refine wp_part ?_) | (with_reducible refine wp_chain ?_) | (with_reducible refine wp_fld ?_) | (with_reducible refine wp_make ?_) | (with_reducible refine wp_range ?_) | (with_reducible refine wp_items ?_) | (with_reducible refine wp_zip ?_) | (with_reducible refine wp_enum ?_) | (with_reducible refine wp_yes ?_) | (with_reducible refine wp_star ?_) | (with_reducible refine wp_callV ?_) | (with_reducible refine wp_makeV ?_) | (with_reducible refine wp_meth ?_) | (with_reducible refine wp_retN ?_) | (with_reducible refine wp_cm ?_) | (with_reducible refine wp_asgG ?_) | (with_reducible refine ex_int ?_) | (with_reducible refine wp_opM ?_) | (with_reducible refine wp_prop ?_) | (with_reducible refine wp_tr ?_) | (with_reducible refine wp_bm0 ?_) | (with_reducible refine lK_rt ?_) | (((with_reducible apply ex_of); · walk_at "wop")) | (((with_reducible apply ex_fld); · rfl; · rfl; · rfl)) | (((with_reducible apply And.intro); · first | rfl | exact ⟨rfl, rfl⟩ | decide | (simp; done))))
/-! ### the numbers of all marks add up -/
end J
set_option Elab.async false
set_option linter.all false
set_option maxRecDepth 100000
set_option maxHeartbeats 1010000
/-! VZp: runs that end with an error; the law's caught -/
namespace J
def Wx {α : Type} (m : M α) (S : Store) (c : Nat) (fs : List (Nat × D)) (Q : Store → Prop) : Prop := ∃ S', m S = .ex c fs S' ∧ Q S'
section
variable {α β : Type} {S : Store} {ρ : Rho} {c : Nat} {fs : List (Nat × D)} {QS : Store → Prop} {QF : Fl → Store → Prop} {Q : D → Store → Prop}
theorem wp_dct0 (q : Q (.dct [] []) S) : Wp (iDct0 ρ) S Q := wp_mret q
theorem Wx.imp {m : M α} {Q Q' : Store → Prop} (h : Wx m S c fs Q) (k : ∀ S', Q S' → Q' S') : Wx m S c fs Q' := let ⟨S', e, q⟩ := h; ⟨S', e, k S' q⟩
theorem wxe_then {m : M α} {k : α → M β} (h : Wp m S fun a S1 => Wx (k a) S1 c fs QS) : Wx (M.bind m k) S c fs QS := by
  obtain ⟨a, S1, e, S2, e2, q⟩ := h
  exact ⟨S2, by unfold M.bind; rw [e]; exact e2, q⟩
theorem wxe_call {n : Nat} {f : List D → M D} {ia : IA} (h : Wp (ia ρ) S fun xs S1 => xs.length = n ∧ Wx (f xs) S1 c fs QS) : Wx (iCall n f ia ρ) S c fs QS :=
  wxe_then (h.imp fun _ _ ⟨e, k⟩ => by rw [if_pos e]; exact k)
theorem wxe_sb {m : M α} {k : α → M Fl} (h : Wx m S c fs fun S1 => QF (.xx c fs ρ) S1) : Wp (sBind m ρ k) S QF := by
  obtain ⟨S1, e, q⟩ := h
  exact ⟨_, S1, by unfold sBind; rw [e], q⟩
theorem wp_raise {c f : Nat} {a : IE} (h : Wp (a ρ) S fun d S1 => QF (.xx c [(f, d)] ρ) S1) : Wp (sRaise c f a ρ) S QF := wp_sb (h.imp fun d S1 q => ⟨_, S1, rfl, q⟩)
/-- a def: its error -/
def xK (N c : Nat) (fs : List (Nat × D)) (QS : Store → Prop) (fl : Fl) (S : Store) : Prop := match fl with
  | .xx c' fs' _ => c' = c ∧ fs' = fs ∧ QS (S.trim N)
  | _ => False
theorem xK_xx {N : Nat} (h : QS (S.trim N)) : xK N c fs QS (.xx c fs ρ) S := ⟨rfl, rfl, h⟩
theorem wxe_def {n : Nat} {b : IS} {ds : List D} (h : Wp (b (startR n ds)) S (xK S.next c fs QS)) : Wx (defJ n false b ds) S c fs QS := by
  obtain ⟨fl, S1, e, k⟩ := h
  cases fl with
  | xx c2 fs2 ρ2 =>
    obtain ⟨rfl, rfl, q⟩ := k
    exact ⟨_, by unfold defJ; rw [e]; rfl, q⟩
  | _ => exact k.elim
theorem sK_xx {b : IS} (h : QF (.xx c fs ρ) S) : sK b QF (.xx c fs ρ) S := h
/-! ### caught -/
def rK (Q : D → Store → Prop) (fl : Fl) (S : Store) : Prop := match fl with
  | .rt d => Q d S
  | _ => False
theorem wp_retR {m : M Fl} (h : Wp m S (rK Q)) : ∃ d S', retR (m S) = .ok d S' ∧ Q d S' := by
  obtain ⟨fl, S1, e, k⟩ := h
  cases fl with
  | rt d => exact ⟨d, S1, by rw [e]; rfl, k⟩
  | _ => exact k.elim
end
/-! ### texts of data, two of them in a tuple -/
/-! ### nth_word of what is no number -/
end J
set_option Elab.async false
set_option linter.all false
set_option maxRecDepth 100000
set_option maxHeartbeats 1010000
/-! VZq: the text of a word; place_of of a word that is not left -/
namespace J
end J
set_option Elab.async false
set_option linter.all false
set_option maxRecDepth 100000
set_option maxHeartbeats 1010000
/-! VZr: the worst of some answers -/
namespace J
local macro_rules | `(tactic| walk_at "wop") => `(tactic| first | (with_reducible exact addD_int) | (with_reducible exact subI_int) | (with_reducible exact eqD_int) | (with_reducible exact eqD_str) | (with_reducible exact eqD_bl) | (with_reducible exact neD_int) | (with_reducible exact neD_str) | (with_reducible exact neD_bl) | (with_reducible exact ltI_int) | (with_reducible exact leI_int) | (with_reducible exact gtI_int) | (with_reducible exact geI_int) | (with_reducible exact lenD_tup) | (with_reducible exact tup_lst) | (with_reducible exact addD_str (by first | omega | (simp; done) | (simp; omega))) | (with_reducible exact lenD_str (by first | omega | (simp; done) | (simp; omega))) | (with_reducible exact lenD_lst (by first | omega | (simp; done) | (simp; omega))) | (with_reducible exact slD_str (by first | omega | (simp; done) | (simp; omega))) | (with_reducible exact addD_list (by first | omega | (simp; done) | (simp; omega))) | (with_reducible exact range1_map (S := ⟨[], 0⟩) (by first | omega | (simp; done) | (simp; omega))) | (with_reducible exact addD_tupA (by first | omega | (simp; done) | (simp; omega))) | (exact rfl))
local macro_rules | `(tactic| walk_at "wx1") => `(tactic| first | (((with_reducible apply wp_var); · rfl)) | (with_reducible refine wp_seq ?_) | (with_reducible refine wp_callK ?_) | (with_reducible refine wp_makeK ?_) | (with_reducible refine wp_methK ?_) | (with_reducible refine sK_nx ?_) | (with_reducible refine sK_rt ?_) | (with_reducible refine dK_rt ?_) | (with_reducible refine wp_c ?_) | (with_reducible refine wp_asg ?_) | (with_reducible refine wp_par ?_) | (with_reducible refine wp_par3 ?_) | (with_reducible refine wp_ifS ?_) | (with_reducible refine wp_retS ?_) | (with_reducible refine wp_expr ?_) | (with_reducible refine wp_next ?_) | (with_reducible refine wp_op ?_) | (with_reducible refine wp_cons ?_) | (with_reducible refine wp_nil ?_) | (with_reducible refine wp_call ?_) | (with_reducible refine wp_cb ?_) | (with_reducible refine wp_tst ?_) | (with_reducible refine wp_not ?_) | (with_reducible refine wp_and ?_) | (with_reducible refine wp_or ?_) | (with_reducible refine wp_andV ?_) | (with_reducible refine wp_orV ?_) | (with_reducible refine wp_notV ?_) | (with_reducible refine wp_if ?_) | (with_reducible refine wp_tup ?_) | (with_reducible refine wp_lst ?_) | (with_reducible refine wp_lstM ?_) | (with_reducible refine wp_bm ?_) | (with_reducible refine wp_sl ?_) | (with_reducible refine wp_noP ?_) | (with_reducible refine wp_part ?_) | (with_reducible refine wp_chain ?_) | (with_reducible refine wp_fld ?_) | (with_reducible refine wp_make ?_) | (with_reducible refine wp_range ?_) | (with_reducible refine wp_items ?_) | (with_reducible refine wp_zip ?_) | (with_reducible refine wp_enum ?_) | (with_reducible refine wp_yes ?_) | (with_reducible refine wp_star ?_) | (with_reducible refine wp_callV ?_) | (with_reducible refine wp_makeV ?_) | (with_reducible refine wp_meth ?_) | (with_reducible refine wp_retN ?_) | (with_reducible refine wp_cm ?_) | (with_reducible refine wp_asgG ?_) | (with_reducible refine ex_int ?_) | (with_reducible refine wp_opM ?_) | (with_reducible refine wp_prop ?_) | (with_reducible refine wp_tr ?_) | (with_reducible refine wp_bm0 ?_) | (with_reducible refine lK_rt ?_) | (((with_reducible apply ex_of); · walk_at "wop")) | (((with_reducible apply ex_fld); · rfl; · rfl; · rfl)) | (((with_reducible apply And.intro); · first | rfl | exact ⟨rfl, rfl⟩ | decide | (simp; done))))
end J
set_option Elab.async false
set_option linter.all false
set_option maxRecDepth 100000
set_option maxHeartbeats 1010000
/-! VZs: texts of numbers; where a word stands among sorted ones, by its first letter -/
namespace J
end J
set_option Elab.async false
set_option linter.all false
set_option maxRecDepth 100000
set_option maxHeartbeats 1010000
/-! VZt: the best of some guesses -/
namespace J
local macro_rules | `(tactic| walk_at "wop") => `(tactic| first | (with_reducible exact addD_int) | (with_reducible exact subI_int) | (with_reducible exact eqD_int) | (with_reducible exact eqD_str) | (with_reducible exact eqD_bl) | (with_reducible exact neD_int) | (with_reducible exact neD_str) | (with_reducible exact neD_bl) | (with_reducible exact ltI_int) | (with_reducible exact leI_int) | (with_reducible exact gtI_int) | (with_reducible exact geI_int) | (with_reducible exact lenD_tup) | (with_reducible exact tup_lst) | (with_reducible exact addD_str (by first | omega | (simp; done) | (simp; omega))) | (with_reducible exact lenD_str (by first | omega | (simp; done) | (simp; omega))) | (with_reducible exact lenD_lst (by first | omega | (simp; done) | (simp; omega))) | (with_reducible exact slD_str (by first | omega | (simp; done) | (simp; omega))) | (with_reducible exact addD_list (by first | omega | (simp; done) | (simp; omega))) | (with_reducible exact range1_map (S := ⟨[], 0⟩) (by first | omega | (simp; done) | (simp; omega))) | (with_reducible exact addD_tupA (by first | omega | (simp; done) | (simp; omega))) | (exact rfl))
local macro_rules | `(tactic| walk_at "wx1") => `(tactic| first | (((with_reducible apply wp_var); · rfl)) | (with_reducible refine wp_seq ?_) | (with_reducible refine wp_callK ?_) | (with_reducible refine wp_makeK ?_) | (with_reducible refine wp_methK ?_) | (with_reducible refine sK_nx ?_) | (with_reducible refine sK_rt ?_) | (with_reducible refine dK_rt ?_) | (with_reducible refine wp_c ?_) | (with_reducible refine wp_asg ?_) | (with_reducible refine wp_par ?_) | (with_reducible refine wp_par3 ?_) | (with_reducible refine wp_ifS ?_) | (with_reducible refine wp_retS ?_) | (with_reducible refine wp_expr ?_) | (with_reducible refine wp_next ?_) | (with_reducible refine wp_op ?_) | (with_reducible refine wp_cons ?_) | (with_reducible refine wp_nil ?_) | (with_reducible refine wp_call ?_) | (with_reducible refine wp_cb ?_) | (with_reducible refine wp_tst ?_) | (with_reducible refine wp_not ?_) | (with_reducible refine wp_and ?_) | (with_reducible refine wp_or ?_) | (with_reducible refine wp_andV ?_) | (with_reducible refine wp_orV ?_) | (with_reducible refine wp_notV ?_) | (with_reducible refine wp_if ?_) | (with_reducible refine wp_tup ?_) | (with_reducible refine wp_lst ?_) | (with_reducible refine wp_lstM ?_) | (with_reducible refine wp_bm ?_) | (with_reducible refine wp_sl ?_) | (with_reducible refine wp_noP ?_) | (with_reducible refine wp_part ?_) | (with_reducible refine wp_chain ?_) | (with_reducible refine wp_fld ?_) | (with_reducible refine wp_make ?_) | (with_reducible refine wp_range ?_) | (with_reducible refine wp_items ?_) | (with_reducible refine wp_zip ?_) | (with_reducible refine wp_enum ?_) | (with_reducible refine wp_yes ?_) | (with_reducible refine wp_star ?_) | (with_reducible refine wp_callV ?_) | (with_reducible refine wp_makeV ?_) | (with_reducible refine wp_meth ?_) | (with_reducible refine wp_retN ?_) | (with_reducible refine wp_cm ?_) | (with_reducible refine wp_asgG ?_) | (with_reducible refine ex_int ?_) | (with_reducible refine wp_opM ?_) | (with_reducible refine wp_prop ?_) | (with_reducible refine wp_tr ?_) | (with_reducible refine wp_bm0 ?_) | (with_reducible refine lK_rt ?_) | (((with_reducible apply ex_of); · walk_at "wop")) | (((with_reducible apply ex_fld); · rfl; · rfl; · rfl)) | (((with_reducible apply And.intro); · first | rfl | exact ⟨rfl, rfl⟩ | decide | (simp; done))))
/-- the first of the least -/
def bF (key : List Nat → Nat) (b g : List Nat) : List Nat := if key g < key b then g else b
end J
set_option Elab.async false
set_option linter.all false
set_option maxRecDepth 100000
set_option maxHeartbeats 1010000
/-! VZu: best_guess, and the law's own best guess -/
namespace J
local macro_rules | `(tactic| walk_at "wop") => `(tactic| first | (with_reducible exact addD_int) | (with_reducible exact subI_int) | (with_reducible exact eqD_int) | (with_reducible exact eqD_str) | (with_reducible exact eqD_bl) | (with_reducible exact neD_int) | (with_reducible exact neD_str) | (with_reducible exact neD_bl) | (with_reducible exact ltI_int) | (with_reducible exact leI_int) | (with_reducible exact gtI_int) | (with_reducible exact geI_int) | (with_reducible exact lenD_tup) | (with_reducible exact tup_lst) | (with_reducible exact addD_str (by first | omega | (simp; done) | (simp; omega))) | (with_reducible exact lenD_str (by first | omega | (simp; done) | (simp; omega))) | (with_reducible exact lenD_lst (by first | omega | (simp; done) | (simp; omega))) | (with_reducible exact slD_str (by first | omega | (simp; done) | (simp; omega))) | (with_reducible exact addD_list (by first | omega | (simp; done) | (simp; omega))) | (with_reducible exact range1_map (S := ⟨[], 0⟩) (by first | omega | (simp; done) | (simp; omega))) | (with_reducible exact addD_tupA (by first | omega | (simp; done) | (simp; omega))) | (exact rfl))
local macro_rules | `(tactic| walk_at "wx1") => `(tactic| first | (((with_reducible apply wp_var); · rfl)) | (with_reducible refine wp_seq ?_) | (with_reducible refine wp_callK ?_) | (with_reducible refine wp_makeK ?_) | (with_reducible refine wp_methK ?_) | (with_reducible refine sK_nx ?_) | (with_reducible refine sK_rt ?_) | (with_reducible refine dK_rt ?_) | (with_reducible refine wp_c ?_) | (with_reducible refine wp_asg ?_) | (with_reducible refine wp_par ?_) | (with_reducible refine wp_par3 ?_) | (with_reducible refine wp_ifS ?_) | (with_reducible refine wp_retS ?_) | (with_reducible refine wp_expr ?_) | (with_reducible refine wp_next ?_) | (with_reducible refine wp_op ?_) | (with_reducible refine wp_cons ?_) | (with_reducible refine wp_nil ?_) | (with_reducible refine wp_call ?_) | (with_reducible refine wp_cb ?_) | (with_reducible refine wp_tst ?_) | (with_reducible refine wp_not ?_) | (with_reducible refine wp_and ?_) | (with_reducible refine wp_or ?_) | (with_reducible refine wp_andV ?_) | (with_reducible refine wp_orV ?_) | (with_reducible refine wp_notV ?_) | (with_reducible refine wp_if ?_) | (with_reducible refine wp_tup ?_) | (with_reducible refine wp_lst ?_) | (with_reducible refine wp_lstM ?_) | (with_reducible refine wp_bm ?_) | (with_reducible refine wp_sl ?_) | (with_reducible refine wp_noP ?_) | (with_reducible refine wp_part ?_) | (with_reducible refine wp_chain ?_) | (with_reducible refine wp_fld ?_) | (with_reducible refine wp_make ?_) | (with_reducible refine wp_range ?_) | (with_reducible refine wp_items ?_) | (with_reducible refine wp_zip ?_) | (with_reducible refine wp_enum ?_) | (with_reducible refine wp_yes ?_) | (with_reducible refine wp_star ?_) | (with_reducible refine wp_callV ?_) | (with_reducible refine wp_makeV ?_) | (with_reducible refine wp_meth ?_) | (with_reducible refine wp_retN ?_) | (with_reducible refine wp_cm ?_) | (with_reducible refine wp_asgG ?_) | (with_reducible refine ex_int ?_) | (with_reducible refine wp_opM ?_) | (with_reducible refine wp_prop ?_) | (with_reducible refine wp_tr ?_) | (with_reducible refine wp_bm0 ?_) | (with_reducible refine lK_rt ?_) | (((with_reducible apply ex_of); · walk_at "wop")) | (((with_reducible apply ex_fld); · rfl; · rfl; · rfl)) | (((with_reducible apply And.intro); · first | rfl | exact ⟨rfl, rfl⟩ | decide | (simp; done))))
end J
set_option Elab.async false
set_option linter.all false
set_option maxRecDepth 100000
set_option maxHeartbeats 1010000
/-! VZv: selections -/
namespace J
local macro_rules | `(tactic| walk_at "wop") => `(tactic| first | (with_reducible exact addD_int) | (with_reducible exact subI_int) | (with_reducible exact eqD_int) | (with_reducible exact eqD_str) | (with_reducible exact eqD_bl) | (with_reducible exact neD_int) | (with_reducible exact neD_str) | (with_reducible exact neD_bl) | (with_reducible exact ltI_int) | (with_reducible exact leI_int) | (with_reducible exact gtI_int) | (with_reducible exact geI_int) | (with_reducible exact lenD_tup) | (with_reducible exact tup_lst) | (with_reducible exact addD_str (by first | omega | (simp; done) | (simp; omega))) | (with_reducible exact lenD_str (by first | omega | (simp; done) | (simp; omega))) | (with_reducible exact lenD_lst (by first | omega | (simp; done) | (simp; omega))) | (with_reducible exact slD_str (by first | omega | (simp; done) | (simp; omega))) | (with_reducible exact addD_list (by first | omega | (simp; done) | (simp; omega))) | (with_reducible exact range1_map (S := ⟨[], 0⟩) (by first | omega | (simp; done) | (simp; omega))) | (with_reducible exact addD_tupA (by first | omega | (simp; done) | (simp; omega))) | (exact rfl))
local macro_rules | `(tactic| walk_at "wx1") => `(tactic| first | (((with_reducible apply wp_var); · rfl)) | (with_reducible refine wp_seq ?_) | (with_reducible refine wp_callK ?_) | (with_reducible refine wp_makeK ?_) | (with_reducible refine wp_methK ?_) | (with_reducible refine sK_nx ?_) | (with_reducible refine sK_rt ?_) | (with_reducible refine dK_rt ?_) | (with_reducible refine wp_c ?_) | (with_reducible refine wp_asg ?_) | (with_reducible refine wp_par ?_) | (with_reducible refine wp_par3 ?_) | (with_reducible refine wp_ifS ?_) | (with_reducible refine wp_retS ?_) | (with_reducible refine wp_expr ?_) | (with_reducible refine wp_next ?_) | (with_reducible refine wp_op ?_) | (with_reducible refine wp_cons ?_) | (with_reducible refine wp_nil ?_) | (with_reducible refine wp_call ?_) | (with_reducible refine wp_cb ?_) | (with_reducible refine wp_tst ?_) | (with_reducible refine wp_not ?_) | (with_reducible refine wp_and ?_) | (with_reducible refine wp_or ?_) | (with_reducible refine wp_andV ?_) | (with_reducible refine wp_orV ?_) | (with_reducible refine wp_notV ?_) | (with_reducible refine wp_if ?_) | (with_reducible refine wp_tup ?_) | (with_reducible refine wp_lst ?_) | (with_reducible refine wp_lstM ?_) | (with_reducible refine wp_bm ?_) | (with_reducible refine wp_sl ?_) | (with_reducible refine wp_noP ?_) | (with_reducible refine wp_part ?_) | (with_reducible refine wp_chain ?_) | (with_reducible refine wp_fld ?_) | (with_reducible refine wp_make ?_) | (with_reducible refine wp_range ?_) | (with_reducible refine wp_items ?_) | (with_reducible refine wp_zip ?_) | (with_reducible refine wp_enum ?_) | (with_reducible refine wp_yes ?_) | (with_reducible refine wp_star ?_) | (with_reducible refine wp_callV ?_) | (with_reducible refine wp_makeV ?_) | (with_reducible refine wp_meth ?_) | (with_reducible refine wp_retN ?_) | (with_reducible refine wp_cm ?_) | (with_reducible refine wp_asgG ?_) | (with_reducible refine ex_int ?_) | (with_reducible refine wp_opM ?_) | (with_reducible refine wp_prop ?_) | (with_reducible refine wp_tr ?_) | (with_reducible refine wp_bm0 ?_) | (with_reducible refine lK_rt ?_) | (((with_reducible apply ex_of); · walk_at "wop")) | (((with_reducible apply ex_fld); · rfl; · rfl; · rfl)) | (((with_reducible apply And.intro); · first | rfl | exact ⟨rfl, rfl⟩ | decide | (simp; done))))
end J
set_option Elab.async false
set_option linter.all false
set_option maxRecDepth 100000
set_option maxHeartbeats 1010000
/-! VZw: selections, walked -/
namespace J
local macro_rules | `(tactic| walk_at "wop") => `(tactic| first | (with_reducible exact addD_int) | (with_reducible exact subI_int) | (with_reducible exact eqD_int) | (with_reducible exact eqD_str) | (with_reducible exact eqD_bl) | (with_reducible exact neD_int) | (with_reducible exact neD_str) | (with_reducible exact neD_bl) | (with_reducible exact ltI_int) | (with_reducible exact leI_int) | (with_reducible exact gtI_int) | (with_reducible exact geI_int) | (with_reducible exact lenD_tup) | (with_reducible exact tup_lst) | (with_reducible exact addD_str (by first | omega | (simp; done) | (simp; omega))) | (with_reducible exact lenD_str (by first | omega | (simp; done) | (simp; omega))) | (with_reducible exact lenD_lst (by first | omega | (simp; done) | (simp; omega))) | (with_reducible exact slD_str (by first | omega | (simp; done) | (simp; omega))) | (with_reducible exact addD_list (by first | omega | (simp; done) | (simp; omega))) | (with_reducible exact range1_map (S := ⟨[], 0⟩) (by first | omega | (simp; done) | (simp; omega))) | (with_reducible exact addD_tupA (by first | omega | (simp; done) | (simp; omega))) | (exact rfl))
local macro_rules | `(tactic| walk_at "wx1") => `(tactic| first | (((with_reducible apply wp_var); · rfl)) | (with_reducible refine wp_seq ?_) | (with_reducible refine wp_callK ?_) | (with_reducible refine wp_makeK ?_) | (with_reducible refine wp_methK ?_) | (with_reducible refine sK_nx ?_) | (with_reducible refine sK_rt ?_) | (with_reducible refine dK_rt ?_) | (with_reducible refine wp_c ?_) | (with_reducible refine wp_asg ?_) | (with_reducible refine wp_par ?_) | (with_reducible refine wp_par3 ?_) | (with_reducible refine wp_ifS ?_) | (with_reducible refine wp_retS ?_) | (with_reducible refine wp_expr ?_) | (with_reducible refine wp_next ?_) | (with_reducible refine wp_op ?_) | (with_reducible refine wp_cons ?_) | (with_reducible refine wp_nil ?_) | (with_reducible refine wp_call ?_) | (with_reducible refine wp_cb ?_) | (with_reducible refine wp_tst ?_) | (with_reducible refine wp_not ?_) | (with_reducible refine wp_and ?_) | (with_reducible refine wp_or ?_) | (with_reducible refine wp_andV ?_) | (with_reducible refine wp_orV ?_) | (with_reducible refine wp_notV ?_) | (with_reducible refine wp_if ?_) | (with_reducible refine wp_tup ?_) | (with_reducible refine wp_lst ?_) | (with_reducible refine wp_lstM ?_) | (with_reducible refine wp_bm ?_) | (with_reducible refine wp_sl ?_) | (with_reducible refine wp_noP ?_) | (with_reducible refine wp_part ?_) | (with_reducible refine wp_chain ?_) | (with_reducible refine wp_fld ?_) | (with_reducible refine wp_make ?_) | (with_reducible refine wp_range ?_) | (with_reducible refine wp_items ?_) | (with_reducible refine wp_zip ?_) | (with_reducible refine wp_enum ?_) | (with_reducible refine wp_yes ?_) | (with_reducible refine wp_star ?_) | (with_reducible refine wp_callV ?_) | (with_reducible refine wp_makeV ?_) | (with_reducible refine wp_meth ?_) | (with_reducible refine wp_retN ?_) | (with_reducible refine wp_cm ?_) | (with_reducible refine wp_asgG ?_) | (with_reducible refine ex_int ?_) | (with_reducible refine wp_opM ?_) | (with_reducible refine wp_prop ?_) | (with_reducible refine wp_tr ?_) | (with_reducible refine wp_bm0 ?_) | (with_reducible refine lK_rt ?_) | (((with_reducible apply ex_of); · walk_at "wop")) | (((with_reducible apply ex_fld); · rfl; · rfl; · rfl)) | (((with_reducible apply And.intro); · first | rfl | exact ⟨rfl, rfl⟩ | decide | (simp; done))))
end J
set_option Elab.async false
set_option linter.all false
set_option maxRecDepth 100000
set_option maxHeartbeats 1010000
/-! VZx: is_mended, wrong_rows -/
namespace J
local macro_rules | `(tactic| walk_at "wop") => `(tactic| first | (with_reducible exact addD_int) | (with_reducible exact subI_int) | (with_reducible exact eqD_int) | (with_reducible exact eqD_str) | (with_reducible exact eqD_bl) | (with_reducible exact neD_int) | (with_reducible exact neD_str) | (with_reducible exact neD_bl) | (with_reducible exact ltI_int) | (with_reducible exact leI_int) | (with_reducible exact gtI_int) | (with_reducible exact geI_int) | (with_reducible exact lenD_tup) | (with_reducible exact tup_lst) | (with_reducible exact addD_str (by first | omega | (simp; done) | (simp; omega))) | (with_reducible exact lenD_str (by first | omega | (simp; done) | (simp; omega))) | (with_reducible exact lenD_lst (by first | omega | (simp; done) | (simp; omega))) | (with_reducible exact slD_str (by first | omega | (simp; done) | (simp; omega))) | (with_reducible exact addD_list (by first | omega | (simp; done) | (simp; omega))) | (with_reducible exact range1_map (S := ⟨[], 0⟩) (by first | omega | (simp; done) | (simp; omega))) | (with_reducible exact addD_tupA (by first | omega | (simp; done) | (simp; omega))) | (exact rfl))
local macro_rules | `(tactic| walk_at "wx1") => `(tactic| first | (((with_reducible apply wp_var); · rfl)) | (with_reducible refine wp_seq ?_) | (with_reducible refine wp_callK ?_) | (with_reducible refine wp_makeK ?_) | (with_reducible refine wp_methK ?_) | (with_reducible refine sK_nx ?_) | (with_reducible refine sK_rt ?_) | (with_reducible refine dK_rt ?_) | (with_reducible refine wp_c ?_) | (with_reducible refine wp_asg ?_) | (with_reducible refine wp_par ?_) | (with_reducible refine wp_par3 ?_) | (with_reducible refine wp_ifS ?_) | (with_reducible refine wp_retS ?_) | (with_reducible refine wp_expr ?_) | (with_reducible refine wp_next ?_) | (with_reducible refine wp_op ?_) | (with_reducible refine wp_cons ?_) | (with_reducible refine wp_nil ?_) | (with_reducible refine wp_call ?_) | (with_reducible refine wp_cb ?_) | (with_reducible refine wp_tst ?_) | (with_reducible refine wp_not ?_) | (with_reducible refine wp_and ?_) | (with_reducible refine wp_or ?_) | (with_reducible refine wp_andV ?_) | (with_reducible refine wp_orV ?_) | (with_reducible refine wp_notV ?_) | (with_reducible refine wp_if ?_) | (with_reducible refine wp_tup ?_) | (with_reducible refine wp_lst ?_) | (with_reducible refine wp_lstM ?_) | (with_reducible refine wp_bm ?_) | (with_reducible refine wp_sl ?_) | (with_reducible refine wp_noP ?_) | (with_reducible refine wp_part ?_) | (with_reducible refine wp_chain ?_) | (with_reducible refine wp_fld ?_) | (with_reducible refine wp_make ?_) | (with_reducible refine wp_range ?_) | (with_reducible refine wp_items ?_) | (with_reducible refine wp_zip ?_) | (with_reducible refine wp_enum ?_) | (with_reducible refine wp_yes ?_) | (with_reducible refine wp_star ?_) | (with_reducible refine wp_callV ?_) | (with_reducible refine wp_makeV ?_) | (with_reducible refine wp_meth ?_) | (with_reducible refine wp_retN ?_) | (with_reducible refine wp_cm ?_) | (with_reducible refine wp_asgG ?_) | (with_reducible refine ex_int ?_) | (with_reducible refine wp_opM ?_) | (with_reducible refine wp_prop ?_) | (with_reducible refine wp_tr ?_) | (with_reducible refine wp_bm0 ?_) | (with_reducible refine lK_rt ?_) | (((with_reducible apply ex_of); · walk_at "wop")) | (((with_reducible apply ex_fld); · rfl; · rfl; · rfl)) | (((with_reducible apply And.intro); · first | rfl | exact ⟨rfl, rfl⟩ | decide | (simp; done))))
end J
set_option Elab.async false
set_option linter.all false
set_option maxRecDepth 100000
set_option maxHeartbeats 1010000
/-! VZy: the shortest, then least, selection that mends: found by selections, and by words -/
namespace J
local macro_rules | `(tactic| walk_at "wop") => `(tactic| first | (with_reducible exact addD_int) | (with_reducible exact subI_int) | (with_reducible exact eqD_int) | (with_reducible exact eqD_str) | (with_reducible exact eqD_bl) | (with_reducible exact neD_int) | (with_reducible exact neD_str) | (with_reducible exact neD_bl) | (with_reducible exact ltI_int) | (with_reducible exact leI_int) | (with_reducible exact gtI_int) | (with_reducible exact geI_int) | (with_reducible exact lenD_tup) | (with_reducible exact tup_lst) | (with_reducible exact addD_str (by first | omega | (simp; done) | (simp; omega))) | (with_reducible exact lenD_str (by first | omega | (simp; done) | (simp; omega))) | (with_reducible exact lenD_lst (by first | omega | (simp; done) | (simp; omega))) | (with_reducible exact slD_str (by first | omega | (simp; done) | (simp; omega))) | (with_reducible exact addD_list (by first | omega | (simp; done) | (simp; omega))) | (with_reducible exact range1_map (S := ⟨[], 0⟩) (by first | omega | (simp; done) | (simp; omega))) | (with_reducible exact addD_tupA (by first | omega | (simp; done) | (simp; omega))) | (exact rfl))
local macro_rules | `(tactic| walk_at "wx1") => `(tactic| first | (((with_reducible apply wp_var); · rfl)) | (with_reducible refine wp_seq ?_) | (with_reducible refine wp_callK ?_) | (with_reducible refine wp_makeK ?_) | (with_reducible refine wp_methK ?_) | (with_reducible refine sK_nx ?_) | (with_reducible refine sK_rt ?_) | (with_reducible refine dK_rt ?_) | (with_reducible refine wp_c ?_) | (with_reducible refine wp_asg ?_) | (with_reducible refine wp_par ?_) | (with_reducible refine wp_par3 ?_) | (with_reducible refine wp_ifS ?_) | (with_reducible refine wp_retS ?_) | (with_reducible refine wp_expr ?_) | (with_reducible refine wp_next ?_) | (with_reducible refine wp_op ?_) | (with_reducible refine wp_cons ?_) | (with_reducible refine wp_nil ?_) | (with_reducible refine wp_call ?_) | (with_reducible refine wp_cb ?_) | (with_reducible refine wp_tst ?_) | (with_reducible refine wp_not ?_) | (with_reducible refine wp_and ?_) | (with_reducible refine wp_or ?_) | (with_reducible refine wp_andV ?_) | (with_reducible refine wp_orV ?_) | (with_reducible refine wp_notV ?_) | (with_reducible refine wp_if ?_) | (with_reducible refine wp_tup ?_) | (with_reducible refine wp_lst ?_) | (with_reducible refine wp_lstM ?_) | (with_reducible refine wp_bm ?_) | (with_reducible refine wp_sl ?_) | (with_reducible refine wp_noP ?_) | (with_reducible refine wp_part ?_) | (with_reducible refine wp_chain ?_) | (with_reducible refine wp_fld ?_) | (with_reducible refine wp_make ?_) | (with_reducible refine wp_range ?_) | (with_reducible refine wp_items ?_) | (with_reducible refine wp_zip ?_) | (with_reducible refine wp_enum ?_) | (with_reducible refine wp_yes ?_) | (with_reducible refine wp_star ?_) | (with_reducible refine wp_callV ?_) | (with_reducible refine wp_makeV ?_) | (with_reducible refine wp_meth ?_) | (with_reducible refine wp_retN ?_) | (with_reducible refine wp_cm ?_) | (with_reducible refine wp_asgG ?_) | (with_reducible refine ex_int ?_) | (with_reducible refine wp_opM ?_) | (with_reducible refine wp_prop ?_) | (with_reducible refine wp_tr ?_) | (with_reducible refine wp_bm0 ?_) | (with_reducible refine lK_rt ?_) | (((with_reducible apply ex_of); · walk_at "wop")) | (((with_reducible apply ex_fld); · rfl; · rfl; · rfl)) | (((with_reducible apply And.intro); · first | rfl | exact ⟨rfl, rfl⟩ | decide | (simp; done))))
end J
set_option Elab.async false
set_option linter.all false
set_option maxRecDepth 100000
set_option maxHeartbeats 1010000
/-! VZz: the law's own wrong rows; too many rows -/
namespace J
local macro_rules | `(tactic| walk_at "wop") => `(tactic| first | (with_reducible exact addD_int) | (with_reducible exact subI_int) | (with_reducible exact eqD_int) | (with_reducible exact eqD_str) | (with_reducible exact eqD_bl) | (with_reducible exact neD_int) | (with_reducible exact neD_str) | (with_reducible exact neD_bl) | (with_reducible exact ltI_int) | (with_reducible exact leI_int) | (with_reducible exact gtI_int) | (with_reducible exact geI_int) | (with_reducible exact lenD_tup) | (with_reducible exact tup_lst) | (with_reducible exact addD_str (by first | omega | (simp; done) | (simp; omega))) | (with_reducible exact lenD_str (by first | omega | (simp; done) | (simp; omega))) | (with_reducible exact lenD_lst (by first | omega | (simp; done) | (simp; omega))) | (with_reducible exact slD_str (by first | omega | (simp; done) | (simp; omega))) | (with_reducible exact addD_list (by first | omega | (simp; done) | (simp; omega))) | (with_reducible exact range1_map (S := ⟨[], 0⟩) (by first | omega | (simp; done) | (simp; omega))) | (with_reducible exact addD_tupA (by first | omega | (simp; done) | (simp; omega))) | (exact rfl))
local macro_rules | `(tactic| walk_at "wx1") => `(tactic| first | (((with_reducible apply wp_var); · rfl)) | (with_reducible refine wp_seq ?_) | (with_reducible refine wp_callK ?_) | (with_reducible refine wp_makeK ?_) | (with_reducible refine wp_methK ?_) | (with_reducible refine sK_nx ?_) | (with_reducible refine sK_rt ?_) | (with_reducible refine dK_rt ?_) | (with_reducible refine wp_c ?_) | (with_reducible refine wp_asg ?_) | (with_reducible refine wp_par ?_) | (with_reducible refine wp_par3 ?_) | (with_reducible refine wp_ifS ?_) | (with_reducible refine wp_retS ?_) | (with_reducible refine wp_expr ?_) | (with_reducible refine wp_next ?_) | (with_reducible refine wp_op ?_) | (with_reducible refine wp_cons ?_) | (with_reducible refine wp_nil ?_) | (with_reducible refine wp_call ?_) | (with_reducible refine wp_cb ?_) | (with_reducible refine wp_tst ?_) | (with_reducible refine wp_not ?_) | (with_reducible refine wp_and ?_) | (with_reducible refine wp_or ?_) | (with_reducible refine wp_andV ?_) | (with_reducible refine wp_orV ?_) | (with_reducible refine wp_notV ?_) | (with_reducible refine wp_if ?_) | (with_reducible refine wp_tup ?_) | (with_reducible refine wp_lst ?_) | (with_reducible refine wp_lstM ?_) | (with_reducible refine wp_bm ?_) | (with_reducible refine wp_sl ?_) | (with_reducible refine wp_noP ?_) | (with_reducible refine wp_part ?_) | (with_reducible refine wp_chain ?_) | (with_reducible refine wp_fld ?_) | (with_reducible refine wp_make ?_) | (with_reducible refine wp_range ?_) | (with_reducible refine wp_items ?_) | (with_reducible refine wp_zip ?_) | (with_reducible refine wp_enum ?_) | (with_reducible refine wp_yes ?_) | (with_reducible refine wp_star ?_) | (with_reducible refine wp_callV ?_) | (with_reducible refine wp_makeV ?_) | (with_reducible refine wp_meth ?_) | (with_reducible refine wp_retN ?_) | (with_reducible refine wp_cm ?_) | (with_reducible refine wp_asgG ?_) | (with_reducible refine ex_int ?_) | (with_reducible refine wp_opM ?_) | (with_reducible refine wp_prop ?_) | (with_reducible refine wp_tr ?_) | (with_reducible refine wp_bm0 ?_) | (with_reducible refine lK_rt ?_) | (((with_reducible apply ex_of); · walk_at "wop")) | (((with_reducible apply ex_fld); · rfl; · rfl; · rfl)) | (((with_reducible apply And.intro); · first | rfl | exact ⟨rfl, rfl⟩ | decide | (simp; done))))
end J
set_option Elab.async false
set_option linter.all false
set_option maxRecDepth 100000
set_option maxHeartbeats 1010000
/-! WA: the least selection that mends: rows less, one row more, rows that name words -/
namespace J
local macro_rules | `(tactic| walk_at "wop") => `(tactic| first | (with_reducible exact addD_int) | (with_reducible exact subI_int) | (with_reducible exact eqD_int) | (with_reducible exact eqD_str) | (with_reducible exact eqD_bl) | (with_reducible exact neD_int) | (with_reducible exact neD_str) | (with_reducible exact neD_bl) | (with_reducible exact ltI_int) | (with_reducible exact leI_int) | (with_reducible exact gtI_int) | (with_reducible exact geI_int) | (with_reducible exact lenD_tup) | (with_reducible exact tup_lst) | (with_reducible exact addD_str (by first | omega | (simp; done) | (simp; omega))) | (with_reducible exact lenD_str (by first | omega | (simp; done) | (simp; omega))) | (with_reducible exact lenD_lst (by first | omega | (simp; done) | (simp; omega))) | (with_reducible exact slD_str (by first | omega | (simp; done) | (simp; omega))) | (with_reducible exact addD_list (by first | omega | (simp; done) | (simp; omega))) | (with_reducible exact range1_map (S := ⟨[], 0⟩) (by first | omega | (simp; done) | (simp; omega))) | (with_reducible exact addD_tupA (by first | omega | (simp; done) | (simp; omega))) | (exact rfl))
local macro_rules | `(tactic| walk_at "wx1") => `(tactic| first | (((with_reducible apply wp_var); · rfl)) | (with_reducible refine wp_seq ?_) | (with_reducible refine wp_callK ?_) | (with_reducible refine wp_makeK ?_) | (with_reducible refine wp_methK ?_) | (with_reducible refine sK_nx ?_) | (with_reducible refine sK_rt ?_) | (with_reducible refine dK_rt ?_) | (with_reducible refine wp_c ?_) | (with_reducible refine wp_asg ?_) | (with_reducible refine wp_par ?_) | (with_reducible refine wp_par3 ?_) | (with_reducible refine wp_ifS ?_) | (with_reducible refine wp_retS ?_) | (with_reducible refine wp_expr ?_) | (with_reducible refine wp_next ?_) | (with_reducible refine wp_op ?_) | (with_reducible refine wp_cons ?_) | (with_reducible refine wp_nil ?_) | (with_reducible refine wp_call ?_) | (with_reducible refine wp_cb ?_) | (with_reducible refine wp_tst ?_) | (with_reducible refine wp_not ?_) | (with_reducible refine wp_and ?_) | (with_reducible refine wp_or ?_) | (with_reducible refine wp_andV ?_) | (with_reducible refine wp_orV ?_) | (with_reducible refine wp_notV ?_) | (with_reducible refine wp_if ?_) | (with_reducible refine wp_tup ?_) | (with_reducible refine wp_lst ?_) | (with_reducible refine wp_lstM ?_) | (with_reducible refine wp_bm ?_) | (with_reducible refine wp_sl ?_) | (with_reducible refine wp_noP ?_) | (with_reducible refine wp_part ?_) | (with_reducible refine wp_chain ?_) | (with_reducible refine wp_fld ?_) | (with_reducible refine wp_make ?_) | (with_reducible refine wp_range ?_) | (with_reducible refine wp_items ?_) | (with_reducible refine wp_zip ?_) | (with_reducible refine wp_enum ?_) | (with_reducible refine wp_yes ?_) | (with_reducible refine wp_star ?_) | (with_reducible refine wp_callV ?_) | (with_reducible refine wp_makeV ?_) | (with_reducible refine wp_meth ?_) | (with_reducible refine wp_retN ?_) | (with_reducible refine wp_cm ?_) | (with_reducible refine wp_asgG ?_) | (with_reducible refine ex_int ?_) | (with_reducible refine wp_opM ?_) | (with_reducible refine wp_prop ?_) | (with_reducible refine wp_tr ?_) | (with_reducible refine wp_bm0 ?_) | (with_reducible refine lK_rt ?_) | (((with_reducible apply ex_of); · walk_at "wop")) | (((with_reducible apply ex_fld); · rfl; · rfl; · rfl)) | (((with_reducible apply And.intro); · first | rfl | exact ⟨rfl, rfl⟩ | decide | (simp; done))))
end J
set_option Elab.async false
set_option linter.all false
set_option maxRecDepth 100000
set_option maxHeartbeats 1010000
/-! WB: a fact that no word has, by its number: less than none of a letter; words within, with facts out of range -/
namespace J
local macro_rules | `(tactic| walk_at "wop") => `(tactic| first | (with_reducible exact addD_int) | (with_reducible exact subI_int) | (with_reducible exact eqD_int) | (with_reducible exact eqD_str) | (with_reducible exact eqD_bl) | (with_reducible exact neD_int) | (with_reducible exact neD_str) | (with_reducible exact neD_bl) | (with_reducible exact ltI_int) | (with_reducible exact leI_int) | (with_reducible exact gtI_int) | (with_reducible exact geI_int) | (with_reducible exact lenD_tup) | (with_reducible exact tup_lst) | (with_reducible exact addD_str (by first | omega | (simp; done) | (simp; omega))) | (with_reducible exact lenD_str (by first | omega | (simp; done) | (simp; omega))) | (with_reducible exact lenD_lst (by first | omega | (simp; done) | (simp; omega))) | (with_reducible exact slD_str (by first | omega | (simp; done) | (simp; omega))) | (with_reducible exact addD_list (by first | omega | (simp; done) | (simp; omega))) | (with_reducible exact range1_map (S := ⟨[], 0⟩) (by first | omega | (simp; done) | (simp; omega))) | (with_reducible exact addD_tupA (by first | omega | (simp; done) | (simp; omega))) | (exact rfl))
local macro_rules | `(tactic| walk_at "wx1") => `(tactic| first | (((with_reducible apply wp_var); · rfl)) | (with_reducible refine wp_seq ?_) | (with_reducible refine wp_callK ?_) | (with_reducible refine wp_makeK ?_) | (with_reducible refine wp_methK ?_) | (with_reducible refine sK_nx ?_) | (with_reducible refine sK_rt ?_) | (with_reducible refine dK_rt ?_) | (with_reducible refine wp_c ?_) | (with_reducible refine wp_asg ?_) | (with_reducible refine wp_par ?_) | (with_reducible refine wp_par3 ?_) | (with_reducible refine wp_ifS ?_) | (with_reducible refine wp_retS ?_) | (with_reducible refine wp_expr ?_) | (with_reducible refine wp_next ?_) | (with_reducible refine wp_op ?_) | (with_reducible refine wp_cons ?_) | (with_reducible refine wp_nil ?_) | (with_reducible refine wp_call ?_) | (with_reducible refine wp_cb ?_) | (with_reducible refine wp_tst ?_) | (with_reducible refine wp_not ?_) | (with_reducible refine wp_and ?_) | (with_reducible refine wp_or ?_) | (with_reducible refine wp_andV ?_) | (with_reducible refine wp_orV ?_) | (with_reducible refine wp_notV ?_) | (with_reducible refine wp_if ?_) | (with_reducible refine wp_tup ?_) | (with_reducible refine wp_lst ?_) | (with_reducible refine wp_lstM ?_) | (with_reducible refine wp_bm ?_) | (with_reducible refine wp_sl ?_) | (with_reducible refine wp_noP ?_) | (with_reducible refine wp_part ?_) | (with_reducible refine wp_chain ?_) | (with_reducible refine wp_fld ?_) | (with_reducible refine wp_make ?_) | (with_reducible refine wp_range ?_) | (with_reducible refine wp_items ?_) | (with_reducible refine wp_zip ?_) | (with_reducible refine wp_enum ?_) | (with_reducible refine wp_yes ?_) | (with_reducible refine wp_star ?_) | (with_reducible refine wp_callV ?_) | (with_reducible refine wp_makeV ?_) | (with_reducible refine wp_meth ?_) | (with_reducible refine wp_retN ?_) | (with_reducible refine wp_cm ?_) | (with_reducible refine wp_asgG ?_) | (with_reducible refine ex_int ?_) | (with_reducible refine wp_opM ?_) | (with_reducible refine wp_prop ?_) | (with_reducible refine wp_tr ?_) | (with_reducible refine wp_bm0 ?_) | (with_reducible refine lK_rt ?_) | (((with_reducible apply ex_of); · walk_at "wop")) | (((with_reducible apply ex_fld); · rfl; · rfl; · rfl)) | (((with_reducible apply And.intro); · first | rfl | exact ⟨rfl, rfl⟩ | decide | (simp; done))))
end J
set_option Elab.async false
set_option linter.all false
set_option maxRecDepth 100000
set_option maxHeartbeats 4010000
/-! XL: texts of data that hold instances; what a lambda's call comes to -/
namespace J
open PySem
def Rx (rp : Nat → List D → Option (List Nat)) (k B : Nat) (d : D) : Prop := ∃ t m, txX rp d = some (t, m) ∧ m ≤ k ∧ t.length ≤ B
def rxB (rp : Nat → List D → Option (List Nat)) (k B : Nat) (d : D) : Bool := match txX rp d with
  | some (t, m) => decide (m ≤ k) && decide (t.length ≤ B)
  | none => false
section
variable {rp : Nat → List D → Option (List Nat)} {k j B B' n : Nat} {d : D} {ds : List D}
theorem Rx.of (h : rxB rp k B d = true) : Rx rp k B d := by
  unfold rxB at h
  cases e : txX rp d with
  | none => rw [e] at h; exact nomatch h
  | some p =>
    rw [e] at h
    obtain ⟨h1, h2⟩ := Bool.and_eq_true_iff.mp h
    exact ⟨p.1, p.2, e, of_decide_eq_true h1, of_decide_eq_true h2⟩
theorem Rx.up (h : Rx rp k B d) (hk : k ≤ j) (hB : B ≤ B') : Rx rp j B' d :=
  let ⟨t, m, e, h1, h2⟩ := h
  ⟨t, m, e, Nat.le_trans h1 hk, Nat.le_trans h2 hB⟩
theorem Rx.all : ∀ {ds : List D}, (∀ d ∈ ds, Rx rp k B d) → ∃ ts m, txXs rp ds = some (ts, m) ∧ m ≤ k ∧ piled ts ≤ (B + 2) * ds.length
  | [], _ => ⟨[], 0, rfl, Nat.zero_le _, by simp [piled]⟩
  | d :: ds, h => by
    obtain ⟨t, m, e, h1, h2⟩ := h d (List.mem_cons_self ..)
    obtain ⟨ts, m2, e2, g1, g2⟩ := Rx.all (ds := ds) fun x hx => h x (List.mem_cons_of_mem _ hx)
    refine ⟨t :: ts, max m m2, by simp [txXs, e, e2], Nat.max_le.mpr ⟨h1, g1⟩, ?_⟩
    rw [piled_cons, List.length_cons, Nat.mul_add]
    omega
theorem Rx.lst (h : ∀ d ∈ ds, Rx rp k B d) (hn : ds.length ≤ n) : Rx rp (k + 1) ((B + 2) * n + 3) (.lst ds) := by
  obtain ⟨ts, m, e, g1, g2⟩ := Rx.all h
  have z := listText_le ts
  have q : (B + 2) * ds.length ≤ (B + 2) * n := Nat.mul_le_mul_left _ hn
  exact ⟨listText ts, m + 1, by simp [txX, e], Nat.succ_le_succ g1, by omega⟩
theorem Rx.tup (h : ∀ d ∈ ds, Rx rp k B d) (hn : ds.length ≤ n) : Rx rp (k + 1) ((B + 2) * n + 3) (.tup ds) := by
  obtain ⟨ts, m, e, g1, g2⟩ := Rx.all h
  have z := tupleText_le ts
  have q : (B + 2) * ds.length ≤ (B + 2) * n := Nat.mul_le_mul_left _ hn
  exact ⟨tupleText ts, m + 1, by simp [txX, e], Nat.succ_le_succ g1, by omega⟩
end
/-! ### caught -/
theorem wp_cauYX {n i m c : Nat} {fs : List (Nat × D)} {hs : List (List Nat × List Nat × IS)} {is1 is2 : IS} {ie : IE} {S : Store} {ρ : Rho} {Q : D → Store → Prop} (hc : pickY c hs = some is1) (h : Wx (ie ρ) S c fs fun S1 => Wp (is1 (only n i (exnOf c fs))) S1 (rK Q)) : Wp (iCauY n i m hs is2 ie ρ) S Q := by
  obtain ⟨S1, e, k⟩ := h
  obtain ⟨d2, S2, e2, q⟩ := wp_retR k
  exact ⟨d2, S2, by unfold iCauY; rw [e]; dsimp only; rw [hc]; exact e2, q⟩
end J
set_option Elab.async false
set_option linter.all false
set_option maxRecDepth 100000
set_option maxHeartbeats 1010000
/-! XM: words and their numbers by place values -/
namespace J
open PySem PyProof.Rows L2
def val (l w : List Nat) : Nat := w.foldl (fun a c => a * l.length + l.idxOf c) 0
theorem val_fold (l : List Nat) : ∀ (w : List Nat) (a : Nat), w.foldl (fun a c => a * l.length + l.idxOf c) a = a * l.length ^ w.length + val l w
  | [], a => by simp [val]
  | c :: w, a => by
    have h := val_fold l w
    have h2 : val l (c :: w) = l.idxOf c * l.length ^ w.length + val l w := by
      show List.foldl _ (0 * l.length + l.idxOf c) w = _
      rw [h]
      simp
    show List.foldl _ (a * l.length + l.idxOf c) w = _
    rw [h, h2, List.length_cons, Nat.pow_succ, Nat.add_mul, Nat.mul_assoc, Nat.mul_comm l.length, Nat.add_assoc]
theorem val_cons (l : List Nat) (c : Nat) (w : List Nat) : val l (c :: w) = l.idxOf c * l.length ^ w.length + val l w := by
  show List.foldl _ (0 * l.length + l.idxOf c) w = _
  rw [val_fold]
  simp
theorem val_snoc (l : List Nat) (w : List Nat) (c : Nat) : val l (w ++ [c]) = val l w * l.length + l.idxOf c := by
  unfold val
  rw [List.foldl_append]
  rfl
theorem val_lt {l : List Nat} : ∀ {w : List Nat}, (∀ c ∈ w, c ∈ l) → val l w < l.length ^ w.length
  | [], _ => by simp [val]
  | c :: w, h => by
    have ih := val_lt (w := w) fun d hd => h d (List.mem_cons_of_mem _ hd)
    have ic := List.idxOf_lt_length_of_mem (h c List.mem_cons_self)
    rw [val_cons, List.length_cons, Nat.pow_succ, Nat.mul_comm (l.length ^ w.length)]
    have : (l.idxOf c + 1) * l.length ^ w.length ≤ l.length * l.length ^ w.length := Nat.mul_le_mul_right _ ic
    rw [Nat.add_mul] at this
    omega
/-- the word of a number -/
def dig (l : List Nat) : Nat → Nat → List Nat
  | 0, _ => []
  | t + 1, n => l.getD ((n / l.length ^ t) % l.length) 0 :: dig l t n
theorem dig_val {l : List Nat} : ∀ {w : List Nat}, (∀ c ∈ w, c ∈ l) → ∀ m, dig l w.length (m * l.length ^ w.length + val l w) = w
  | [], _, _ => rfl
  | c :: w, h, m => by
    have hw : ∀ d ∈ w, d ∈ l := fun d hd => h d (List.mem_cons_of_mem _ hd)
    have lt := val_lt hw
    have ic := List.idxOf_lt_length_of_mem (h c List.mem_cons_self)
    have pos : 0 < l.length ^ w.length := Nat.lt_of_le_of_lt (Nat.zero_le _) lt
    have e : m * l.length ^ (c :: w).length + val l (c :: w) = (m * l.length + l.idxOf c) * l.length ^ w.length + val l w := by
      rw [val_cons, List.length_cons, Nat.pow_succ, Nat.add_mul, Nat.mul_assoc, Nat.mul_comm l.length, Nat.add_assoc]
    rw [e, List.length_cons]
    unfold dig
    rw [dig_val hw]
    have q : ((m * l.length + l.idxOf c) * l.length ^ w.length + val l w) / l.length ^ w.length = m * l.length + l.idxOf c := by
      rw [Nat.add_comm, Nat.add_mul_div_right _ _ pos, Nat.div_eq_of_lt lt, Nat.zero_add]
    rw [q, Nat.add_comm (m * l.length), Nat.add_mul_mod_self_right, Nat.mod_eq_of_lt ic]
    rw [List.getD_eq_getElem?_getD, List.getElem?_eq_getElem ic, List.getElem_idxOf ic]
    rfl
theorem dig_len (l : List Nat) (n : Nat) : ∀ t, (dig l t n).length = t
  | 0 => rfl
  | t + 1 => by
    unfold dig
    rw [List.length_cons, dig_len l n t]
theorem idx_lt {l : List Nat} (up : l.Pairwise (· < ·)) {c d : Nat} (hc : c ∈ l) (hd : d ∈ l) (h : c < d) : l.idxOf c < l.idxOf d := by
  have ic := List.idxOf_lt_length_of_mem hc
  have jd := List.idxOf_lt_length_of_mem hd
  rcases Nat.lt_trichotomy (l.idxOf c) (l.idxOf d) with z | z | z
  · exact z
  · have e1 : l[l.idxOf c] = c := List.getElem_idxOf ic
    have e2 : l[l.idxOf d] = d := List.getElem_idxOf jd
    have e3 : l[l.idxOf c] = l[l.idxOf d] := by congr 1
    omega
  · have := List.pairwise_iff_getElem.mp up _ _ jd ic z
    rw [List.getElem_idxOf, List.getElem_idxOf] at this
    omega
theorem val_ord {l : List Nat} (up : l.Pairwise (· < ·)) : ∀ {u v : List Nat}, u.length = v.length → (∀ c ∈ u, c ∈ l) → (∀ c ∈ v, c ∈ l) → (val l u < val l v ↔ u < v) ∧ (val l u = val l v ↔ u = v)
  | [], [], _, _, _ => by simp
  | [], _ :: _, h, _, _ => by simp at h
  | _ :: _, [], h, _, _ => by simp at h
  | c :: u, d :: v, h, hu, hv => by
    have h' : u.length = v.length := by simpa using h
    have hu' : ∀ x ∈ u, x ∈ l := fun x hx => hu x (List.mem_cons_of_mem _ hx)
    have hv' : ∀ x ∈ v, x ∈ l := fun x hx => hv x (List.mem_cons_of_mem _ hx)
    obtain ⟨i1, i2⟩ := val_ord up h' hu' hv'
    have l1 := val_lt hu'
    have l2 := val_lt hv'
    rw [val_cons, val_cons, List.cons_lt_cons_iff, ← h', List.cons.injEq]
    rw [← h'] at l2
    rcases Nat.lt_trichotomy c d with z | z | z
    · have := idx_lt up (hu c List.mem_cons_self) (hv d List.mem_cons_self) z
      have m := Nat.mul_le_mul_right (l.length ^ u.length) this
      rw [Nat.succ_mul] at m
      exact ⟨⟨fun _ => .inl z, fun _ => by omega⟩, ⟨fun e => by omega, fun e => by omega⟩⟩
    · subst z
      refine ⟨⟨fun e => .inr ⟨rfl, i1.mp (by omega)⟩, fun e => ?_⟩, ⟨fun e => ⟨rfl, i2.mp (by omega)⟩, fun e => by rw [e.2]⟩⟩
      rcases e with e | e
      · exact absurd e (Nat.lt_irrefl _)
      · have := i1.mpr e.2
        omega
    · have := idx_lt up (hv d List.mem_cons_self) (hu c List.mem_cons_self) z
      have m := Nat.mul_le_mul_right (l.length ^ u.length) this
      rw [Nat.succ_mul] at m
      refine ⟨⟨fun e => by omega, fun e => ?_⟩, ⟨fun e => by omega, fun e => by omega⟩⟩
      rcases e with e | e <;> omega
/-- the last word -/
theorem val_last {l : List Nat} {c : Nat} (h : l.idxOf c + 1 = l.length) : ∀ k, val l (List.replicate k c) + 1 = l.length ^ k
  | 0 => rfl
  | k + 1 => by
    have ih := val_last h k
    rw [List.replicate_succ, val_cons, List.length_replicate, Nat.pow_succ, Nat.mul_comm (l.length ^ k), Nat.add_assoc, ih, ← h, Nat.add_mul, Nat.one_mul]
theorem leZ_trans (a b c : Int × List Nat) (h1 : leZ a b = true) (h2 : leZ b c = true) : leZ a c = true := by
  unfold leZ at *
  (simp only [decide_eq_true_eq] at *)
  rcases h1 with h1 | ⟨h1, h1'⟩ <;> rcases h2 with h2 | ⟨h2, h2'⟩
  · exact .inl (by omega)
  · exact .inl (by omega)
  · exact .inl (by omega)
  · exact .inr ⟨by omega, List.le_trans h1' h2'⟩
theorem leZ_total (a b : Int × List Nat) : (leZ a b || leZ b a) = true := by
  unfold leZ
  simp only [Bool.or_eq_true, decide_eq_true_eq]
  rcases Int.lt_trichotomy a.1 b.1 with h | h | h
  · exact .inl (.inl h)
  · exact (List.le_total a.2 b.2).imp (fun z => .inr ⟨h, z⟩) fun z => .inr ⟨h.symm, z⟩
  · exact .inr (.inl h)
/-- sorted by the number: the words in order -/
theorem sorted_words {l : List Nat} (up : l.Pairwise (· < ·)) {k : Nat} {ws : List (List Nat)} (hw : ∀ w ∈ ws, w.length = k ∧ ∀ c ∈ w, c ∈ l) : (srtP (ws.map fun w => ((val l w : Int), w))).map (·.2) = sortS ws := by
  have e : srtP (ws.map fun w => ((val l w : Int), w)) = (ws.mergeSort fun u v => leZ ((val l u : Int), u) ((val l v : Int), v)).map fun w => ((val l w : Int), w) := (List.map_mergeSort (r := fun u v => leZ ((val l u : Int), u) ((val l v : Int), v)) (s := leZ) (f := fun w => ((val l w : Int), w)) fun a _ b _ => rfl).symm
  rw [e, List.map_map, show ((fun (x : Int × List Nat) => x.2) ∘ fun w => ((val l w : Int), w)) = id from rfl, List.map_id]
  have pm : (ws.mergeSort fun u v => leZ ((val l u : Int), u) ((val l v : Int), v)).Perm ws := List.mergeSort_perm _ _
  refine sorted_eq ?_ (sortS_sorted ws) (pm.trans (sortS_perm ws).symm)
  have pw := List.pairwise_mergeSort (le := fun u v => leZ ((val l u : Int), u) ((val l v : Int), v)) (fun a b c => leZ_trans _ _ _) (fun a b => leZ_total _ _) ws
  refine pw.imp_of_mem fun {u v} hu hv h => ?_
  obtain ⟨u1, u2⟩ := hw u (pm.mem_iff.mp hu)
  obtain ⟨v1, v2⟩ := hw v (pm.mem_iff.mp hv)
  obtain ⟨o1, o2⟩ := val_ord up (u1.trans v1.symm) u2 v2
  unfold leZ at h
  (simp only [decide_eq_true_eq] at h)
  unfold LeS
  rw [ltCps_eq, decide_eq_false_iff_not]
  rcases h with h | ⟨h, _⟩
  · exact fun z => List.lt_asymm z (o1.mp (by omega))
  · rw [o2.mp (by omega)]
    exact List.lt_irrefl _
end J
set_option Elab.async false
set_option linter.all false
set_option maxRecDepth 100000
set_option maxHeartbeats 4010000
namespace K03
open J
local macro_rules | `(tactic| walk_at "wop") => `(tactic| first | (with_reducible exact addD_int) | (with_reducible exact subI_int) | (with_reducible exact eqD_int) | (with_reducible exact eqD_str) | (with_reducible exact eqD_bl) | (with_reducible exact neD_int) | (with_reducible exact neD_str) | (with_reducible exact neD_bl) | (with_reducible exact ltI_int) | (with_reducible exact leI_int) | (with_reducible exact gtI_int) | (with_reducible exact geI_int) | (with_reducible exact lenD_tup) | (with_reducible exact tup_lst) | (with_reducible exact addD_str (by first | omega | (simp; done) | (simp; omega))) | (with_reducible exact lenD_str (by first | omega | (simp; done) | (simp; omega))) | (with_reducible exact lenD_lst (by first | omega | (simp; done) | (simp; omega))) | (with_reducible exact slD_str (by first | omega | (simp; done) | (simp; omega))) | (with_reducible exact addD_list (by first | omega | (simp; done) | (simp; omega))) | (with_reducible exact range1_map (S := ⟨[], 0⟩) (by first | omega | (simp; done) | (simp; omega))) | (with_reducible exact addD_tupA (by first | omega | (simp; done) | (simp; omega))) | (exact rfl))
local macro_rules | `(tactic| walk_at "wx1") => `(tactic| first | (((with_reducible apply wp_var); · rfl)) | (with_reducible refine wp_seq ?_) | (with_reducible refine wp_callK ?_) | (with_reducible refine wp_makeK ?_) | (with_reducible refine wp_methK ?_) | (with_reducible refine sK_nx ?_) | (with_reducible refine sK_rt ?_) | (with_reducible refine dK_rt ?_) | (with_reducible refine wp_c ?_) | (with_reducible refine wp_asg ?_) | (with_reducible refine wp_par ?_) | (with_reducible refine wp_par3 ?_) | (with_reducible refine wp_ifS ?_) | (with_reducible refine wp_retS ?_) | (with_reducible refine wp_expr ?_) | (with_reducible refine wp_next ?_) | (with_reducible refine wp_op ?_) | (with_reducible refine wp_cons ?_) | (with_reducible refine wp_nil ?_) | (with_reducible refine wp_call ?_) | (with_reducible refine wp_cb ?_) | (with_reducible refine wp_tst ?_) | (with_reducible refine wp_not ?_) | (with_reducible refine wp_and ?_) | (with_reducible refine wp_or ?_) | (with_reducible refine wp_andV ?_) | (with_reducible refine wp_orV ?_) | (with_reducible refine wp_notV ?_) | (with_reducible refine wp_if ?_) | (with_reducible refine wp_tup ?_) | (with_reducible refine wp_lst ?_) | (with_reducible refine wp_lstM ?_) | (with_reducible refine wp_bm ?_) | (with_reducible refine wp_sl ?_) | (with_reducible refine wp_noP ?_) | (with_reducible refine wp_part ?_) | (with_reducible refine wp_chain ?_) | (with_reducible refine wp_fld ?_) | (with_reducible refine wp_make ?_) | (with_reducible refine wp_range ?_) | (with_reducible refine wp_items ?_) | (with_reducible refine wp_zip ?_) | (with_reducible refine wp_enum ?_) | (with_reducible refine wp_yes ?_) | (with_reducible refine wp_star ?_) | (with_reducible refine wp_callV ?_) | (with_reducible refine wp_makeV ?_) | (with_reducible refine wp_meth ?_) | (with_reducible refine wp_retN ?_) | (with_reducible refine wp_cm ?_) | (with_reducible refine wp_asgG ?_) | (with_reducible refine ex_int ?_) | (with_reducible refine wp_opM ?_) | (with_reducible refine wp_prop ?_) | (with_reducible refine wp_tr ?_) | (with_reducible refine wp_bm0 ?_) | (with_reducible refine lK_rt ?_) | (((with_reducible apply ex_of); · walk_at "wop")) | (((with_reducible apply ex_fld); · rfl; · rfl; · rfl)) | (((with_reducible apply And.intro); · first | rfl | exact ⟨rfl, rfl⟩ | decide | (simp; done))))
/-! ### the plain law of k03 -/
theorem law_is : d_law = dLaw 6 d_right := rfl
theorem hT : TT.fs 0 = [0, 1] := rfl
theorem of_is : d_of = dOf := rfl
theorem dip_is : d_dip = dDip := rfl
theorem signs_is : d_signs = dSigns := rfl
theorem word_is : d_word = dWord := rfl
theorem init_is : d_Board_init = dInit TT CS TB := rfl
theorem size_is : d_Board_size = dSize TT := rfl
theorem ck_is : d_check_word = dCkWX TT CS TB (sRaise 18 19 (iVar 1)) := rfl
theorem mod_int {a b : Int} {S : Store} (h : 0 < b) : modI (.int a) (.int b) S = some (.int (a % b)) := by
  simp [modI, opI, h]
theorem mul_chr {c k : Nat} {S : Store} (hk : k ≤ 1000) : mulD (.str [c]) (.int (k : Int)) S = some (.str (List.replicate k c)) := by
  have h2 : (k : Int) ≤ 1000 := by omega
  simp [mulD, op2, mulI, opI, mulS, repS, h2]
theorem addD_lst {a b : List D} {S : Store} (h : a.length + b.length ≤ 1000) : addD (.lst a) (.lst b) S = some (.lst (a ++ b)) := by
  have h2 : a.length + b.length ≤ 100000 := by omega
  simp [addD, op2, addI, opI0, addS, addL, seqL, h2]
theorem fst_at : ∀ {l : List Nat} {c : Nat}, c ∈ l → fstAt c l = some (l.idxOf c)
  | [], c, h => by cases h
  | d :: l, c, h => by
    unfold fstAt
    rw [List.idxOf_cons]
    by_cases e : d = c
    · simp [e]
    · have e2 : (d == c) = false := beq_eq_false_iff_ne.mpr e
      rcases (List.mem_cons.mp h) with z | z
      · exact absurd z.symm e
      · simp [e, e2, fst_at z]
theorem idx_at {l : List Nat} {c : Nat} (h : c ∈ l) (S : Store) : strIndex (.str l) [.str [c]] S = .ok (.int (l.idxOf c : Nat)) S := by
  show (match fstAt c l with | some i => M.ret (D.int (i : Int)) | none => M.no) S = _
  rw [fst_at h]
  rfl
theorem pow_le {a k : Nat} (h : a ≤ 26) (k6 : k ≤ 6) : a ^ k ≤ 308915776 :=
  Nat.le_trans (Nat.pow_le_pow_left h k) (Nat.le_trans (Nat.pow_le_pow_right (by decide) k6) (by decide))
section
variable {l : List Nat} {k : Nat}
theorem number_w (l26 : l.length ≤ 26) (k6 : k ≤ 6) {w : List Nat} (hw : w.length = k) (hm : ∀ c ∈ w, c ∈ l) (S : Store) : Wp (d_Board_number [bd l k, .str w]) S fun d S' => d = .int (val l w : Nat) ∧ Kq S S' := by
  refine wp_def ?_
  show Wp (is_Board_number [some (bd l k), some (.str w), none, none]) S _
  unfold is_Board_number
  rw [ck_is]
  obtain ⟨S1, e1, q1⟩ := ckwX_ok TT CS TB (rw_ := sRaise 18 19 (iVar 1)) hT (S := S) (l := l) (w := w) (k := k) (by omega) hw hm
  refine wp_seq (wp_expr (wp_call (wp_cons (wp_var rfl (wp_cons (wp_var rfl (wp_nil ⟨rfl, wp_ok e1 (sK_nx ?_)⟩)))))))
  refine wp_seq (wp_asg (wp_c (sK_nx ?_)))
  refine wp_seq (wp_for (fun c : Nat => D.str [c]) w [2, 3] (fun pre ys S' => ys[0]? = some (some (.int (val l pre : Nat))) ∧ S' = S1) ?_ ?_ ?_)
  · exact wp_items (wp_var rfl ⟨_, rfl, rfl, [some (.int 0), none], rfl, rfl, rfl, rfl⟩)
  · rintro c pre ys S4 hly ⟨h0, rfl⟩ ⟨post, hp⟩
    match ys, hly with
    | [y2, y3], _ =>
    obtain rfl : y2 = some (.int (val l pre : Nat)) := by simpa using h0
    have hc : c ∈ l := hm c (hp ▸ by simp)
    have vb : val l pre ≤ 308915776 := by
      have a := val_lt (l := l) (w := pre) fun d hd => hm d (hp ▸ by simp [hd])
      have b := pow_le l26 (show pre.length ≤ 6 by rw [hp] at hw; simp at hw; omega)
      omega
    refine ⟨_, rfl, ?_⟩
    show Wp (sAsg 2 _ [some (bd l k), some (.str w), some (.int (val l pre : Nat)), some (.str [c])]) S4 _
    refine wp_asg (wp_op (wp_op (wp_var rfl (wp_cb (wp_cons (wp_fld (wp_var rfl (ex_fld rfl rfl rfl (wp_nil ⟨_, lenD_str (by omega), _, mulD_l (by omega) (by omega), ?_⟩)))))))))
    refine wp_bm (wp_fld (wp_var rfl (ex_fld rfl rfl rfl ⟨rfl, wp_cons (wp_var rfl (wp_nil (wp_ok (idx_at hc S4) ⟨_, addD_int, ?_⟩)))⟩)))
    refine lK_nx [some (.int (val l (pre ++ [c]) : Nat)), some (.str [c])] rfl ?_ ⟨rfl, rfl⟩
    rw [val_snoc]
    rfl
  · rintro ys S4 hly ⟨h0, rfl⟩
    match ys, hly with
    | [y2, y3], _ =>
    obtain rfl : y2 = some (.int (val l w : Nat)) := by simpa using h0
    exact sK_nx (wp_retS (wp_var rfl (dK_rt ⟨rfl, kq_trim q1⟩)))
theorem size_w (l26 : l.length ≤ 26) (k6 : k ≤ 6) {S : Store} {Q : D → Store → Prop} (q : ∀ S', Kq S S' → Q (.int ((l.length ^ k : Nat) : Int)) S') : Wp (dSize TT [bd l k]) S Q := by
  have e := size_ok TT hT (S := S) (l := l) (k := k) l26 k6
  rw [show ((l.length : Int) ^ k) = ((l.length ^ k : Nat) : Int) by simp] at e
  exact wp_ok e (q _ (kq_t1 S))
/-- what is no number -/
def badN (l : List Nat) (k : Nat) (d : D) : Prop := (∀ S, d_is_integer [d] S = .ok (.bl false) (S.trim S.next)) ∨ ∃ i : Int, d = .int i ∧ ¬ (0 ≤ i ∧ i < (l.length ^ k : Nat))
theorem int_w {i : Int} {S : Store} {Q : D → Store → Prop} (q : Q (.bl true) (S.trim S.next)) : Wp (d_is_integer [.int i]) S Q := wp_ok rfl q
theorem wordX (l26 : l.length ≤ 26) (k6 : k ≤ 6) {d : D} (h : badN l k d) (S : Store) : Wx (d_Board_word [bd l k, d]) S 23 [(19, d)] fun S' => Kq S S' := by
  refine wxe_def ?_
  show Wp (is_Board_word [some (bd l k), some d, none, none, none]) S _
  unfold is_Board_word
  rw [size_is]
  have out : ∀ S1, Kq S S1 → xK S.next 23 [(19, d)] (fun S' => Kq S S') (.xx 23 [(19, d)] [some (bd l k), some d, none, none, none]) S1 := fun S1 q => xK_xx (kq_trim q)
  refine wp_seq (wp_ifS (wp_or (wp_not (wp_tst (wp_call (wp_cons (wp_var rfl (wp_nil ⟨rfl, ?_⟩))))))))
  rcases h with h | ⟨i, rfl, hi⟩
  · refine wp_ok (h S) ⟨_, rfl, ?_⟩
    exact if_t rfl (wp_raise (wp_var rfl (sK_xx (out _ (kq_t1 S)))))
  · refine int_w ⟨_, rfl, if_f (by decide) (wp_not (wp_tst (wp_chain (wp_c (wp_var rfl ⟨_, leI_int, ?_⟩)))))⟩
    refine p_itp (fun z => ?_) fun z => ?_
    · refine wp_prop (wp_var rfl ⟨_, rfl, size_w l26 k6 fun S2 q2 => ⟨_, ltI_int, _, rfl, ?_⟩⟩)
      have z2 : ¬ (i < (l.length ^ k : Nat)) := fun z2 => hi ⟨z, z2⟩
      rw [decide_eq_false z2]
      exact wp_raise (wp_var rfl (sK_xx (out _ ((kq_t1 S).trans q2))))
    · exact ⟨_, rfl, wp_raise (wp_var rfl (sK_xx (out _ (kq_t1 S))))⟩
theorem word_v (pos : 0 < l.length) (l26 : l.length ≤ 26) (k6 : k ≤ 6) {n : Nat} (hn : n < l.length ^ k) (S : Store) : Wp (d_Board_word [bd l k, .int (n : Int)]) S fun d S' => d = .str (dig l k n) ∧ Kq S S' := by
  refine wp_def ?_
  show Wp (is_Board_word [some (bd l k), some (.int (n : Int)), none, none, none]) S _
  unfold is_Board_word
  rw [size_is]
  refine wp_seq (wp_ifS (wp_or (wp_not (wp_tst (wp_call (wp_cons (wp_var rfl (wp_nil ⟨rfl, int_w ⟨_, rfl, if_f (by decide) ?_⟩⟩))))))))
  refine wp_not (wp_tst (wp_chain (wp_c (wp_var rfl ⟨_, leI_int, ?_⟩))))
  rw [decide_eq_true (by omega : (0 : Int) ≤ (n : Int))]
  refine if_t rfl (wp_prop (wp_var rfl ⟨_, rfl, size_w l26 k6 fun S2 q2 => ⟨_, ltI_int, _, rfl, ?_⟩⟩))
  rw [decide_eq_true (by omega : (n : Int) < ((l.length ^ k : Nat) : Int))]
  have q2 := (kq_t1 S).trans q2
  refine wp_next (sK_nx ?_)
  refine wp_seq (wp_par (wp_c (wp_var rfl (sK_nx ?_))))
  refine wp_seq (wp_for (fun i : Nat => D.int (i : Int)) (List.range k) [2, 3, 4] (fun pre ys S' => ys[1]? = some (some (.str (dig l pre.length n))) ∧ ys[2]? = some (some (.int ((n / l.length ^ pre.length : Nat) : Int))) ∧ S' = S2) ?_ ?_ ?_)
  · exact wp_range (wp_cons (wp_fld (wp_var rfl (ex_fld rfl rfl rfl (wp_nil ⟨_, range1_map (S := S2) (n := k) (by omega), rfl, [none, some (.str []), some (.int (n : Int))], rfl, rfl, rfl, by simp, rfl⟩)))))
  · rintro i pre ys S4 hly ⟨h1, h2, rfl⟩ ⟨post, hp⟩
    match ys, hly with
    | [y2, y3, y4], _ =>
    obtain rfl : y3 = some (.str (dig l pre.length n)) := by simpa using h1
    obtain rfl : y4 = some (.int ((n / l.length ^ pre.length : Nat) : Int)) := by simpa using h2
    have pl : pre.length < k := (range_at hp).2
    refine ⟨_, rfl, ?_⟩
    show Wp (sSeq (sAsg 3 _) (sAsg 4 _) [some (bd l k), some (.int (n : Int)), some (.int (i : Int)), some (.str (dig l pre.length n)), some (.int ((n / l.length ^ pre.length : Nat) : Int))]) S4 _
    have ml : (n / l.length ^ pre.length) % l.length < l.length := Nat.mod_lt _ pos
    have e0 : (((n / l.length ^ pre.length : Nat) : Int) % (l.length : Int)) = (((n / l.length ^ pre.length) % l.length : Nat) : Int) := by simp
    have e1 : (((n / l.length ^ pre.length : Nat) : Int) / (l.length : Int)) = ((n / l.length ^ (pre.length + 1) : Nat) : Int) := by
      rw [Nat.pow_succ, ← Nat.div_div_eq_div_mul]
      simp
    refine wp_seq (wp_asg (wp_op (wp_op (wp_fld (wp_var rfl (ex_fld rfl rfl rfl (wp_op (wp_cb (wp_cons (wp_var rfl (wp_nil ⟨_, rfl, wp_cb (wp_cons (wp_fld (wp_var rfl (ex_fld rfl rfl rfl (wp_nil ⟨_, lenD_str (by omega), _, mod_int (by omega), ?_⟩)))))⟩)))))))))))
    rw [e0]
    refine ⟨_, ixD_str ml (by omega), wp_var rfl ⟨_, addD_str (by rw [dig_len]; simp; omega), sK_nx ?_⟩⟩
    refine wp_asg (wp_op (wp_var rfl (wp_cb (wp_cons (wp_fld (wp_var rfl (ex_fld rfl rfl rfl (wp_nil ⟨_, lenD_str (by omega), _, fdiv_int (by omega) (by omega), ?_⟩))))))))
    rw [e1]
    refine lK_nx [some (.int (i : Int)), some (.str (dig l (pre ++ [i]).length n)), some (.int ((n / l.length ^ (pre ++ [i]).length : Nat) : Int))] rfl ?_ ⟨rfl, rfl, rfl⟩
    rw [show (pre ++ [i]).length = pre.length + 1 from List.length_append ..]
    have ed : dig l (pre.length + 1) n = l[(n / l.length ^ pre.length) % l.length] :: dig l pre.length n := by
      show l.getD ((n / l.length ^ pre.length) % l.length) 0 :: _ = _
      rw [List.getD_eq_getElem?_getD, List.getElem?_eq_getElem ml]
      rfl
    rw [ed]
    rfl
  · rintro ys S4 hly ⟨h1, h2, rfl⟩
    match ys, hly with
    | [y2, y3, y4], _ =>
    rw [List.length_range] at h1
    obtain rfl : y3 = some (.str (dig l k n)) := by simpa using h1
    exact sK_nx (wp_retS (wp_var rfl (dK_rt ⟨rfl, kq_trim q2⟩)))
end
theorem numX {l : List Nat} {k : Nat} {d : D} (h : noW l k d = true) (S : Store) : Wx (d_Board_number [bd l k, d]) S 18 [(19, d)] fun S' => Kq S S' := by
  refine wxe_def ?_
  show Wp (is_Board_number [some (bd l k), some d, none, none]) S _
  unfold is_Board_number
  rw [ck_is]
  obtain ⟨S1, e1, q1⟩ := ckwX_ex TT CS TB hT (c := 18) (f := 19) (S := S) h
  exact wp_seq (wxe_sb (wxe_call (wp_cons (wp_var rfl (wp_cons (wp_var rfl (wp_nil ⟨rfl, ⟨S1, e1, sK_xx (xK_xx (kq_trim q1))⟩⟩)))))))
theorem wp_srtZ {ia : IA} {S : Store} {ρ : Rho} {Q : D → Store → Prop} (h : Wp (ia ρ) S fun xs S1 => ∃ as bs ps, xs = [.lst as, .lst bs] ∧ pairsZ as bs = some ps ∧ ps.length ≤ 1000 ∧ Q (.lst ((srtP ps).map pairD)) S1) : Wp (iSrtZ ia ρ) S Q :=
  wp_bind (h.imp fun xs S1 ⟨as, bs, ps, e, e2, few, q⟩ => by
    subst e
    exact ⟨_, S1, by show (match pairsZ as bs with | some ps => if ps.length ≤ 1000 then R.ok (D.lst ((srtP ps).map pairD)) S1 else .no | none => .no) = _; rw [e2]; exact if_pos few, q⟩)
theorem pairsZ_ws (l : List Nat) : ∀ ws : List (List Nat), pairsZ (ws.map fun w => .int (val l w : Nat)) (ws.map .str) = some (ws.map fun w => ((val l w : Int), w))
  | [] => rfl
  | w :: ws => by
    show (pairsZ _ _).map _ = _
    rw [pairsZ_ws l ws]
    rfl
theorem sortD_ws {ws : List (List Nat)} {S : Store} (h : ws.length < 64) : sortD [.lst (ws.map .str)] S = some (.lst ((sortS ws).map .str)) := by
  unfold sortD
  dsimp only
  rw [show seqL (.lst (ws.map D.str)) S = some (ws.map D.str) from rfl]
  dsimp only
  rw [strsOf_str]
  dsimp only
  rw [if_pos h]
theorem ix_last {l : List Nat} (nd : l.Nodup) (h : 0 < l.length) (h2 : l.length ≤ 100000) (S : Store) : ∃ c, ixD (.str l) (.int (-1)) S = some (.str [c]) ∧ l.idxOf c + 1 = l.length ∧ c ∈ l := by
  have lt : l.length - 1 < l.length := by omega
  refine ⟨l[l.length - 1], ?_, ?_, List.getElem_mem lt⟩
  · have e1 : L2.ixN l.length (-1) = some (l.length - 1) := by
      unfold L2.ixN
      have a : ¬ (0 : Int) ≤ -1 := by decide
      have b : ¬ ((-1 : Int) + (l.length : Int) < 0) := by omega
      have d : ((-1 : Int) + (l.length : Int)).toNat = l.length - 1 := by omega
      simp [d, lt]
      omega
    simp [ixD, op2, ixL, ixT, ixS, seqR, seqL, L2.atI, e1, h2, List.getElem?_eq_getElem lt]
  · rw [List.Nodup.idxOf_getElem nd]
    omega
theorem lst_last {xs : List D} {d : D} {S : Store} (h : xs.length ≤ 1000) : ixD (.lst (xs ++ [d])) (.int (-1)) S = some d := by
  have e1 : L2.ixN (xs.length + 1) (-1) = some xs.length := by
    unfold L2.ixN
    simp
    exact ⟨by omega, by omega⟩
  simp [ixD, op2, ixL, seqR, seqL, L2.atI, e1]
open PySem.PyData (showable depth shown) in
theorem Rp.int {i : Int} (h : i.natAbs.log2 < 1920) : Rp 0 1921 (.int i) := by
  have es : PySem.PyData.shown (.int i) = PySem.Str.ofString (toString i) := by simp [PySem.PyData.shown]
  have l := PyProof.Rows.int_text_len_1921 h
  rw [← es] at l
  exact ⟨.int i, rfl, by simp [PySem.PyData.showable, h], Nat.le_refl _, l⟩
def badL (m : Nat) : List D := [.non, .int (-1), .int (m : Int), .bl true, .str [48], .tup [], .lst [.int 1], .int 10000000000000000000, .dct [] []]
def oddL (low : List Nat) (c : Nat) : List D := [.non, .str [], .str (low ++ [c]), .str (low ++ [32]), .str (low.drop 1 ++ [65]), .int 5, .tup [.str low], .lst [.str low], .dct [] []]
theorem bad_no {l : List Nat} {k : Nat} (hp : l.length ^ k ≤ 308915776) : ∀ d ∈ badL (l.length ^ k), badN l k d := by
  intro d hd
  simp only [badL, List.mem_cons, List.not_mem_nil, or_false] at hd
  rcases hd with rfl | rfl | rfl | rfl | rfl | rfl | rfl | rfl | rfl
  · exact .inl fun S => rfl
  · exact .inr ⟨_, rfl, by omega⟩
  · exact .inr ⟨_, rfl, by omega⟩
  · exact .inl fun S => rfl
  · exact .inl fun S => rfl
  · exact .inl fun S => rfl
  · exact .inl fun S => rfl
  · exact .inr ⟨_, rfl, by omega⟩
  · exact .inl fun S => rfl
theorem bad_rp {m : Nat} (hm : m ≤ 308915776) : ∀ d ∈ badL m, Rp 1 2000 d := by
  intro d hd
  have lg : ((m : Nat) : Int).natAbs.log2 < 1920 := by
    rw [Int.natAbs_natCast]
    by_cases z : m = 0
    · subst z; decide
    · exact (Nat.log2_lt z).mpr (Nat.lt_of_le_of_lt hm (Nat.lt_of_lt_of_le (show 308915776 < 2 ^ 30 by decide) (Nat.pow_le_pow_right (by decide) (by decide))))
  simp only [badL, List.mem_cons, List.not_mem_nil, or_false] at hd
  rcases hd with rfl | rfl | rfl | rfl | rfl | rfl | rfl | rfl | rfl
  · exact rp_of (by decide +kernel)
  · exact rp_of (by decide +kernel)
  · exact (Rp.int lg).up (by decide) (by decide)
  all_goals exact rp_of (by decide +kernel)
theorem odd_no {l low : List Nat} {k c : Nat} (sg : Sg l) (k1 : 1 ≤ k) (k6 : k ≤ 6) (hl : low.length = k) : ∀ d ∈ oddL low c, noW l k d = true := by
  intro d hd
  have no65 : ¬ 65 ∈ l := fun h => by have := sg.abc 65 h; omega
  simp only [oddL, List.mem_cons, List.not_mem_nil, or_false] at hd
  rcases hd with rfl | rfl | rfl | rfl | rfl | rfl | rfl | rfl | rfl
  · rfl
  · simp [noW, wordB]; omega
  · simp [noW, wordB, hl]; omega
  · simp [noW, wordB, hl]; omega
  · simp [noW, wordB, hl, no65]; omega
  all_goals rfl
theorem odd_rp {low : List Nat} {c : Nat} (hl : low.length ≤ 6) (hc : c < 1114112) (hm : ∀ x ∈ low, x < 1114112) : ∀ d ∈ oddL low c, Rp 1 2000 d := by
  intro d hd
  have s0 : ∀ w : List Nat, w.length ≤ 7 → (∀ x ∈ w, x < 1114112) → Rp 0 72 (.str w) := fun w h1 h2 => (Rp.str h2).up (Nat.le_refl _) (by omega)
  have app : ∀ (w : List Nat) (x : Nat), x < 1114112 → (∀ y ∈ w, y < 1114112) → ∀ y ∈ w ++ [x], y < 1114112 := fun w x h1 h2 y hy => by
    rcases List.mem_append.mp hy with a | a
    · exact h2 y a
    · rw [List.mem_singleton.mp a]; exact h1
  simp only [oddL, List.mem_cons, List.not_mem_nil, or_false] at hd
  rcases hd with rfl | rfl | rfl | rfl | rfl | rfl | rfl | rfl | rfl
  · exact rp_of (by decide +kernel)
  · exact rp_of (by decide +kernel)
  · exact (s0 _ (by simp; omega) (app _ _ hc hm)).up (by decide) (by decide)
  · exact (s0 _ (by simp; omega) (app _ _ (by decide) hm)).up (by decide) (by decide)
  · exact (s0 _ (by simp; omega) (app _ _ (by decide) fun y hy => hm y (List.mem_of_mem_drop hy))).up (by decide) (by decide)
  · exact rp_of (by decide +kernel)
  · exact (Rp.tup (B := 72) (n := 1) (fun x hx => by rw [List.mem_singleton.mp hx]; exact s0 _ (by omega) hm) (by simp)).up (by decide) (by decide)
  · exact (Rp.lst (B := 72) (n := 1) (fun x hx => by rw [List.mem_singleton.mp hx]; exact s0 _ (by omega) hm) (by simp)).up (by decide) (by decide)
  · exact rp_of (by decide +kernel)
abbrev sNum : List Nat := [73, 110, 118, 97, 108, 105, 100, 78, 117, 109, 98, 101, 114]
abbrev sWrd : List Nat := [73, 110, 118, 97, 108, 105, 100, 87, 111, 114, 100]
theorem said_rep {s : List Nat} {d : D} (hs : Rp 1 2000 (.str s)) (h : Rp 1 2000 d) : ∃ t, ∀ S, reprD [.lst [.str s, d, .bl true]] S = some (.str t) := by
  obtain ⟨t, ht⟩ := rep_of (S := ⟨[], 0⟩) (Rp.lst (k := 1) (B := 2000) (n := 3) (ds := [.str s, d, .bl true]) (fun x hx => by
    rcases (List.mem_cons.mp hx) with rfl | hx
    · exact hs
    rcases (List.mem_cons.mp hx) with rfl | hx
    · exact h
    rw [List.mem_singleton.mp hx]
    exact (Rp.bl true).up (by decide) (by decide)) (by simp)) (by decide) (by decide)
  exact ⟨t, fun S => ht⟩
theorem cl0 (d : D) (S : Store) : is1_got_0 (only 3 1 (exnOf 23 [(19, d)])) S = .ok (.rt (.lst [.str sNum, d, .bl true])) S := rfl
theorem cl1 (d : D) (S : Store) : is1_got_1 (only 3 1 (exnOf 18 [(19, d)])) S = .ok (.rt (.lst [.str sWrd, d, .bl true])) S := rfl
theorem wxe_methM {T : Tab} {c m n : Nat} {f : List D → M D} {a : IE} {ia : IA} {S : Store} {ρ : Rho} {cl : Nat} {fs : List (Nat × D)} {QS : Store → Prop} (h : Wp (a ρ) S fun o S1 => ∃ gs, insOf T o S1 = some (c, gs) ∧ getF m gs = none ∧ Wp (ia ρ) S1 fun xs S2 => xs.length + 1 = n ∧ Wx (f (o :: xs)) S2 cl fs QS) : Wx (iMeth T c m n f a ia ρ) S cl fs QS :=
  wxe_then (h.imp fun o S1 ⟨gs, e1, e2, k⟩ => by
    obtain ⟨S3, e3, q⟩ := wxe_then (k := fun xs => if xs.length + 1 = n then f (o :: xs) else M.no) (k.imp fun xs S2 ⟨e, z⟩ => by rw [if_pos e]; exact z)
    refine ⟨S3, ?_, q⟩
    show (match insOf T o S1 with | some (c', fs) => if c' = c ∧ getF m fs = none then M.bind (ia ρ) (fun xs => if xs.length + 1 = n then f (o :: xs) else M.no) S1 else .no | none => .no) = _
    rw [e1]
    dsimp only
    rw [if_pos ⟨rfl, e2⟩]
    exact e3)
theorem wxe_methKM {T : Tab} {c m n : Nat} {pm : List Nat} {f : List D → M D} {a : IE} {ia : IA} {S : Store} {ρ : Rho} {cl : Nat} {fs : List (Nat × D)} {QS : Store → Prop} (h : Wp (a ρ) S fun o S1 => ∃ gs, insOf T o S1 = some (c, gs) ∧ getF m gs = none ∧ Wp (ia ρ) S1 fun xs S2 => (xs.length = n ∧ (pickL pm xs).length = pm.length) ∧ Wx (f (o :: pickL pm xs)) S2 cl fs QS) : Wx (iMethK T c m n pm f a ia ρ) S cl fs QS :=
  wxe_then (h.imp fun o S1 ⟨gs, e1, e2, k⟩ => by
    obtain ⟨S3, e3, q⟩ := wxe_then (k := fun xs => if xs.length = n ∧ (pickL pm xs).length = pm.length then f (o :: pickL pm xs) else M.no) (k.imp fun xs S2 ⟨e, z⟩ => by rw [if_pos e]; exact z)
    refine ⟨S3, ?_, q⟩
    show (match insOf T o S1 with | some (c', fs) => if c' = c ∧ getF m fs = none then M.bind (ia ρ) (fun xs => if xs.length = n ∧ (pickL pm xs).length = pm.length then f (o :: pickL pm xs) else M.no) S1 else .no | none => .no) = _
    rw [e1]
    dsimp only
    rw [if_pos ⟨rfl, e2⟩]
    exact e3)
theorem right_ok {n : Nat} {S : Store} (b : Bw S n) : ∃ S', d_right [.ref n] S = .ok (.bl true) S' := by
  refine run_of (wp_def ?_)
  let ρr : Option D → Option D → Option D → Option D → Option D → Option D → Option D → Option D → Option D → Option D → Option D → Option D → Option D → Option D → Rho := fun y1 y2 y3 y4 y5 y6 y7 y8 y9 y10 y11 y12 y13 y14 => [some (.ref n), y1, y2, y3, y4, y5, y6, y7, y8, y9, y10, y11, y12, y13, y14]
  show Wp (is_right (ρr none none none none none none none none none none none none none none)) S _
  unfold is_right
  rw [init_is, of_is, dip_is, signs_is, word_is, size_is]
  have kn := Kn.of b
  refine wp_seq (wp_for (fun i : Nat => D.int (i : Int)) (List.range 3) [1, 2, 3, 4, 5, 6, 7, 8, 9, 10, 11, 12, 13, 14] (fun pre ys S' => Kn S' n []) ?_ ?_ ?_)
  · exact wp_range (wp_cons (wp_c (wp_nil ⟨_, range1_map (S := S) (n := 3) (by omega), rfl, [none, none, none, none, none, none, none, none, none, none, none, none, none, none], rfl, rfl, kn⟩)))
  · rintro i pre ys S1 hly kn ⟨post, hp⟩
    match ys, hly with
    | [y1, y2, y3, y4, y5, y6, y7, y8, y9, y10, y11, y12, y13, y14], _ =>
    refine ⟨_, rfl, ?_⟩
    show Wp ((sSeq _ _) (ρr (some (.int (i : Int))) y2 y3 y4 y5 y6 y7 y8 y9 y10 y11 y12 y13 y14)) S1 _
    refine wp_seq (wp_asgG (wp_tup (wp_cons (wp_call (wp_cons (wp_var rfl (wp_cons (wp_c (wp_cons (wp_c (wp_nil ⟨rfl, signs_w kn (by decide) (by decide) (by decide) fun l S2 sg h2 h26 kn => ?_⟩)))))))))))
    refine wp_cons (wp_op (wp_c (wp_call (wp_cons (wp_var rfl (wp_cons (wp_c (wp_nil ⟨rfl, dip_w (k := 6) kn (by decide) (by decide) fun q S3 hq kn => ?_⟩))))))))
    obtain ⟨k, hk⟩ : ∃ k, k = q + 1 := ⟨_, rfl⟩
    have ek : (1 : Int) + (q : Int) = (k : Int) := by omega
    refine ⟨.int (k : Int), by rw [← ek]; exact addD_int, wp_nil ⟨by simp, _, rfl, sK_nx ?_⟩⟩
    have k1 : 1 ≤ k := by omega
    have k6 : k ≤ 6 := by omega
    have l26 : l.length ≤ 26 := by omega
    have l2 : 2 ≤ l.length := by omega
    have pos : 0 < l.length := by omega
    have nd : l.Nodup := sg.up.imp fun h => Nat.ne_of_lt h
    have hp := pow_le l26 k6
    show Wp ((sSeq _ _) (ρr (some (.int (i : Int))) y2 y3 y4 y5 y6 y7 y8 (some (.str l)) (some (.int (k : Int))) y11 y12 y13 y14)) S3 _
    refine wp_seq (wp_asg (wp_make (wp_cons (wp_var rfl (wp_cons (wp_var rfl (wp_nil (board_w hT kn sg l2 k1 k6 fun S4 kn => sK_nx ?_))))))))
    obtain ⟨cz, ez, iz, mz⟩ := ix_last nd pos (by omega) ⟨[], 0⟩
    obtain ⟨c0, hc0⟩ : ∃ c0, l[0]? = some c0 := ⟨l[0], List.getElem?_eq_getElem pos⟩
    have m0 : c0 ∈ l := List.mem_of_getElem? hc0
    have e0 : ∀ S, ixD (.str l) (.int 0) S = some (.str [c0]) := fun S => by
      have z := ixD_str (S := S) pos (by omega)
      rw [List.getElem?_eq_getElem pos] at hc0
      cases hc0
      exact z
    refine wp_seq (wp_asg (wp_op (wp_lc (fun i : Nat => .int (i : Int)) (List.range 6) (fun pre r S' => ∃ ws : List (List Nat), r = ws.map D.str ∧ ws.length = pre.length ∧ (∀ w ∈ ws, w.length = k ∧ ∀ c ∈ w, c ∈ l) ∧ Kn S' n []) ?_ (by simp) ?_ ?_)))
    · exact wp_range (wp_cons (wp_c (wp_nil ⟨_, range1_map (S := S4) (n := 6) (by omega), rfl, [], rfl, rfl, (fun w hw => by cases hw), kn⟩)))
    · rintro j pre r S5 ⟨post, hp⟩ ⟨ws, rfl, wl, wg, kn⟩
      refine ⟨_, rfl, wp_yes ?_⟩
      rw [if_pos rfl]
      refine wp_call (wp_cons (wp_var rfl (wp_cons (wp_var rfl (wp_cons (wp_var rfl (wp_nil ⟨rfl, word_w kn pos (by omega) (by omega) fun w S6 w1 w2 kn => ⟨ws ++ [w], by simp, by simp [wl], fun u hu => ?_, kn⟩⟩)))))))
      rcases List.mem_append.mp hu with a | a
      · exact wg u a
      · rw [List.mem_singleton.mp a]
        exact ⟨w1, w2⟩
    rintro r S5 ⟨ws, rfl, wl, wg, kn⟩
    rw [List.length_range] at wl
    obtain ⟨W, hW⟩ : ∃ W, W = ws ++ [List.replicate k c0, List.replicate k cz] := ⟨_, rfl⟩
    have Wl : W.length = 8 := by rw [hW]; simp [wl]
    have Wg : ∀ w ∈ W, w.length = k ∧ ∀ c ∈ w, c ∈ l := fun w hw => by
      rw [hW] at hw
      rcases List.mem_append.mp hw with a | a
      · exact wg w a
      · simp only [List.mem_cons, List.not_mem_nil, or_false] at a
        rcases a with rfl | rfl
        · exact ⟨List.length_replicate, fun c hc => (List.mem_replicate.mp hc).2 ▸ m0⟩
        · exact ⟨List.length_replicate, fun c hc => (List.mem_replicate.mp hc).2 ▸ mz⟩
    have ea : ∀ S, addD (.lst (ws.map D.str)) (.lst [.str (List.replicate k c0), .str (List.replicate k cz)]) S = some (.lst (W.map D.str)) := fun S => by
      rw [addD_lst (by simp [wl])]
      rw [hW]
      simp
    refine wp_lst (wp_cons (wp_op (wp_op (wp_var rfl (wp_c ⟨_, e0 S5, wp_var rfl ⟨_, mul_chr (by omega), wp_cons (wp_op (wp_op (wp_var rfl (wp_negC ⟨_, ez, wp_var rfl ⟨_, mul_chr (by omega), wp_nil ⟨by simp, _, ea S5, sK_nx ?_⟩⟩⟩))))⟩⟩)))))
    show Wp ((sSeq _ _) (ρr (some (.int (i : Int))) (some (bd l k)) (some (.lst (W.map D.str))) y4 y5 y6 y7 y8 (some (.str l)) (some (.int (k : Int))) y11 y12 y13 y14)) S5 _
    refine wp_seq (wp_asg (wp_lstM (wp_nil ⟨by simp, sK_nx ?_⟩)))
    have kn := kn.new (o := .lst [])
    generalize S5.next = m at kn ⊢
    generalize S5.alloc (.lst []) = S6 at kn ⊢
    show Wp ((sSeq _ _) (ρr (some (.int (i : Int))) (some (bd l k)) (some (.lst (W.map D.str))) (some (.ref m)) y5 y6 y7 y8 (some (.str l)) (some (.int (k : Int))) y11 y12 y13 y14)) S6 _
    refine wp_seq (wp_for D.str W [5, 11, 12] (fun pre ys S' => Kn S' n [(m, .lst (pre.map fun w => D.int (val l w : Nat)))]) ?_ ?_ ?_)
    · exact wp_items (wp_var rfl ⟨_, rfl, rfl, [y5, y11, y12], rfl, rfl, kn⟩)
    · rintro w pre zs S7 hlz kn ⟨post, hp2⟩
      match zs, hlz with
      | [z5, z11, z12], _ =>
      have hw : w ∈ W := hp2 ▸ by simp
      refine ⟨_, rfl, ?_⟩
      show Wp ((sSeq _ _) (ρr (some (.int (i : Int))) (some (bd l k)) (some (.lst (W.map D.str))) (some (.ref m)) (some (.str w)) y6 y7 y8 (some (.str l)) (some (.int (k : Int))) z11 z12 y13 y14)) S7 _
      refine wp_seq (wp_asg (wp_c (sK_nx ?_)))
      refine wp_seq (wp_for (fun c : Nat => D.str [c]) w [11, 12] (fun pr us S' => us[0]? = some (some (.int (val l pr : Nat))) ∧ S' = S7) ?_ ?_ ?_)
      · exact wp_items (wp_var rfl ⟨_, rfl, rfl, [some (.int 0), z12], rfl, rfl, rfl, rfl⟩)
      · rintro c pr us S8 hlu ⟨h0, rfl⟩ ⟨post2, hp3⟩
        match us, hlu with
        | [u11, u12], _ =>
        obtain rfl : u11 = some (.int (val l pr : Nat)) := by simpa using h0
        have hc : c ∈ l := (Wg w hw).2 c (hp3 ▸ by simp)
        have vb : val l pr ≤ 308915776 := by
          have a := val_lt (l := l) (w := pr) fun d hd => (Wg w hw).2 d (hp3 ▸ by simp [hd])
          have b := pow_le l26 (show pr.length ≤ 6 by have := (Wg w hw).1; rw [hp3] at this; simp at this; omega)
          omega
        refine ⟨_, rfl, ?_⟩
        show Wp (sAsg 11 _ (ρr (some (.int (i : Int))) (some (bd l k)) (some (.lst (W.map D.str))) (some (.ref m)) (some (.str w)) y6 y7 y8 (some (.str l)) (some (.int (k : Int))) (some (.int (val l pr : Nat))) (some (.str [c])) y13 y14)) S8 _
        refine wp_asg (wp_op (wp_op (wp_var rfl (wp_cb (wp_cons (wp_var rfl (wp_nil ⟨_, lenD_str (by omega), _, mulD_l (by omega) (by omega), ?_⟩)))))))
        refine wp_bm (wp_var rfl ⟨rfl, wp_cons (wp_var rfl (wp_nil (wp_ok (idx_at hc S8) ⟨_, addD_int, ?_⟩)))⟩)
        refine lK_nx [some (.int (val l (pr ++ [c]) : Nat)), some (.str [c])] rfl ?_ ⟨rfl, rfl⟩
        rw [val_snoc]
        rfl
      · rintro us S8 hlu ⟨h0, rfl⟩
        match us, hlu with
        | [u11, u12], _ =>
        obtain rfl : u11 = some (.int (val l w : Nat)) := by simpa using h0
        have pl : pre.length ≤ 8 := by rw [← Wl, hp2]; simp
        refine sK_nx (wp_app (m := m) rfl kn (by rw [List.length_map]; omega) (wp_var rfl ⟨kn, fun S9 kn9 => lK_nx [some (.str w), some (.int (val l w : Nat)), u12] rfl rfl ?_⟩))
        rw [List.map_append]
        exact kn9
    rintro zs S7 hlz kn
    match zs, hlz with
    | [z5, z11, z12], _ =>
    refine sK_nx ?_
    show Wp ((sSeq _ _) (ρr (some (.int (i : Int))) (some (bd l k)) (some (.lst (W.map D.str))) (some (.ref m)) z5 y6 y7 y8 (some (.str l)) (some (.int (k : Int))) z11 z12 y13 y14)) S7 _
    refine wp_seq (wp_frz (m := m) rfl kn.get rfl (sK_nx ?_))
    have kn := kn.del
    generalize S7.del m = S8 at kn ⊢
    obtain ⟨ds, hds⟩ : ∃ ds, ds = W.map (val l) := ⟨_, rfl⟩
    have ed : W.map (fun w => D.int (val l w : Nat)) = ds.map fun p : Nat => D.int (p : Int) := by rw [hds, List.map_map]; rfl
    have cp : ∀ w ∈ W, ∀ c ∈ w, c < 1114112 := fun w hw c hc => by have := sg.abc c ((Wg w hw).2 c hc); omega
    show Wp ((sSeq _ _) (ρr (some (.int (i : Int))) (some (bd l k)) (some (.lst (W.map D.str))) (some (.lst (W.map fun w => D.int (val l w : Nat)))) z5 y6 y7 y8 (some (.str l)) (some (.int (k : Int))) z11 z12 y13 y14)) S8 _
    rw [ed]
    refine wp_seq (wp_ifS (wp_or (wp_tst (wp_op (wp_lc D.str W (fun pre r S' => r = (pre.map fun w => D.int (val l w : Nat)) ∧ Kn S' n []) ?_ (by omega) ?_ ?_)))))
    · exact wp_items (wp_var rfl ⟨_, rfl, rfl, rfl, kn⟩)
    · rintro w pre r S9 ⟨post, hp2⟩ ⟨rfl, kn⟩
      have hw : w ∈ W := hp2 ▸ by simp
      refine ⟨_, rfl, wp_yes ?_⟩
      rw [if_pos rfl]
      refine wp_meth (wp_var rfl ⟨_, rfl, rfl, wp_cons (wp_var rfl (wp_nil ⟨rfl, (number_w l26 k6 (Wg w hw).1 (Wg w hw).2 S9).imp fun d S10 ⟨e, q⟩ => ?_⟩))⟩)
      subst e
      exact ⟨by rw [List.map_append]; rfl, kn.kq q⟩
    rintro r S9 ⟨rfl, kn⟩
    rw [ed]
    refine wp_var rfl ⟨_, ne_ints (.inl rfl), _, rfl, if_f (by decide) (wp_tst (wp_op (wp_lc (fun p : Nat => D.int (p : Int)) ds (fun pre r S' => r = ((pre.map (dig l k)).map D.str) ∧ Kn S' n []) ?_ (by rw [hds, List.length_map]; omega) ?_ ?_)))⟩
    · exact wp_items (wp_var rfl ⟨_, rfl, rfl, rfl, kn⟩)
    · rintro v pre r S10 ⟨post, hp2⟩ ⟨rfl, kn⟩
      obtain ⟨w, hw, ew⟩ : ∃ w ∈ W, val l w = v := by
        have : v ∈ ds := hp2 ▸ by simp
        rw [hds] at this
        exact List.mem_map.mp this
      have vl : v < l.length ^ k := by
        have := val_lt (Wg w hw).2
        rw [(Wg w hw).1] at this
        omega
      refine ⟨_, rfl, wp_yes ?_⟩
      rw [if_pos rfl]
      refine wp_methK (wp_var rfl ⟨_, rfl, rfl, wp_cons (wp_var rfl (wp_nil ⟨⟨rfl, rfl⟩, (word_v pos l26 k6 vl S10).imp fun d S11 ⟨e, q⟩ => ?_⟩))⟩)
      subst e
      exact ⟨by rw [List.map_append, List.map_append]; rfl, kn.kq q⟩
    rintro r S10 ⟨rfl, kn⟩
    have back : ds.map (dig l k) = W := by
      rw [hds, List.map_map]
      have : ∀ w ∈ W, ((dig l k) ∘ (val l)) w = w := fun w hw => by
        have z := dig_val (Wg w hw).2 0
        rw [(Wg w hw).1] at z
        simpa using z
      rw [List.map_congr_left this, List.map_id'']
      exact fun _ => rfl
    rw [back]
    refine wp_var rfl ⟨_, ne_strs cp cp, _, rfl, ?_⟩
    rw [decide_eq_true rfl]
    refine wp_next (sK_nx ?_)
    obtain ⟨PS, hPS⟩ : ∃ PS, PS = W.map fun w => ((val l w : Int), w) := ⟨_, rfl⟩
    have pz : pairsZ (ds.map fun p : Nat => D.int (p : Int)) (W.map D.str) = some PS := by rw [← ed, hPS]; exact pairsZ_ws l W
    have so : (srtP PS).map (·.2) = sortS W := by rw [hPS]; exact sorted_words sg.up Wg
    refine wp_seq (wp_ifS (wp_or (wp_tst (wp_op (wp_lc pairD (srtP PS) (fun pre r S' => r = (pre.map fun p => D.str p.2) ∧ Kn S' n []) ?_ ?_ ?_ ?_)))))
    · exact wp_items (wp_srtZ (wp_cons (wp_var rfl (wp_cons (wp_var rfl (wp_nil ⟨_, _, PS, rfl, pz, by rw [hPS, List.length_map]; omega, _, rfl, rfl, rfl, kn⟩))))))
    · have pl := (List.mergeSort_perm PS leZ).length_eq
      show (srtP PS).length < 100000
      unfold srtP
      rw [pl, hPS, List.length_map]
      omega
    · rintro p pre r S11 ⟨post, hp2⟩ ⟨rfl, kn⟩
      refine ⟨_, rfl, wp_yes ?_⟩
      rw [if_pos rfl]
      exact wp_var rfl ⟨by rw [List.map_append]; rfl, kn⟩
    rintro r S11 ⟨rfl, kn⟩
    have er : ((srtP PS).map fun p => D.str p.2) = (sortS W).map D.str := by rw [← so, List.map_map]; rfl
    rw [er]
    have cps : ∀ w ∈ sortS W, ∀ c ∈ w, c < 1114112 := fun w hw => cp w ((sortS_perm W).mem_iff.mp hw)
    refine wp_cb (wp_cons (wp_var rfl (wp_nil ⟨_, sortD_ws (by omega), _, ne_strs cps cps, _, rfl, ?_⟩)))
    rw [decide_eq_true rfl]
    have dlast : ∀ S, ixD (.lst (ds.map fun p : Nat => D.int (p : Int))) (.int (-1)) S = some (.int (val l (List.replicate k cz) : Nat)) := fun S => by
      have e : (ds.map fun p : Nat => D.int (p : Int)) = ((ws ++ [List.replicate k c0]).map fun w => D.int (val l w : Nat)) ++ [.int (val l (List.replicate k cz) : Nat)] := by
        rw [← ed, hW]
        simp
      rw [e]
      exact lst_last (by simp [wl])
    refine if_f (by decide) (wp_tst (wp_op (wp_op (wp_var rfl (wp_negC ⟨_, dlast S11, wp_op (wp_prop (wp_var rfl ⟨_, rfl, size_w l26 k6 fun S12 q12 => wp_c ⟨_, subI_int, _, neD_int, _, rfl, ?_⟩⟩))⟩)))))
    have vlast := val_last iz k
    rw [decide_eq_true (by omega : ((val l (List.replicate k cz) : Nat) : Int) = ((l.length ^ k : Nat) : Int) - 1)]
    have kn := kn.kq q12
    refine wp_next (sK_nx ?_)
    refine wp_seq (wp_asg (wp_call (wp_cons (wp_var rfl (wp_cons (wp_lst (wp_cons (wp_c (wp_cons (wp_negC (wp_cons (wp_prop (wp_var rfl ⟨_, rfl, size_w l26 k6 fun S13 q13 => ?_⟩)))))))))))))
    have kn := kn.kq q13
    refine wp_cons (wp_c (wp_cons (wp_c (wp_cons (wp_tup (wp_nil ⟨by simp, ?_⟩))))))
    refine wp_cons (wp_lst (wp_cons (wp_c (wp_nil ⟨by simp, ?_⟩))))
    refine wp_cons (wp_op (wp_c (wp_c ⟨.int 10000000000000000000, rfl, ?_⟩)))
    refine wp_cons (wp_dct0 (wp_nil ⟨by simp, ?_⟩))
    refine wp_nil ⟨rfl, ofl_w (xs := badL (l.length ^ k)) kn (by simp [badL]) (by simp [badL]) fun dn S14 hn kn => sK_nx ?_⟩
    refine wp_seq (wp_asg (wp_op (wp_op (wp_var rfl (wp_c ⟨_, e0 S14, wp_var rfl ⟨_, mul_chr (by omega), sK_nx ?_⟩⟩)))))
    obtain ⟨low, hlow⟩ : ∃ low, low = List.replicate k c0 := ⟨_, rfl⟩
    rw [← hlow]
    have ll : low.length = k := by rw [hlow]; exact List.length_replicate
    have lm : ∀ x ∈ low, x < 1114112 := fun x hx => by
      rw [hlow] at hx
      rw [(List.mem_replicate.mp hx).2]
      have := sg.abc c0 m0
      omega
    have c0l : c0 < 1114112 := by have := sg.abc c0 m0; omega
    show Wp ((sSeq _ _) (ρr (some (.int (i : Int))) (some (bd l k)) (some (.lst (W.map D.str))) (some (.lst (ds.map fun p : Nat => D.int (p : Int)))) z5 (some dn) (some (.str low)) y8 (some (.str l)) (some (.int (k : Int))) z11 z12 y13 y14)) S14 _
    refine wp_seq (wp_asg (wp_call (wp_cons (wp_var rfl (wp_cons (wp_lst (wp_cons (wp_c (wp_cons (wp_c (wp_cons (wp_op (wp_var rfl (wp_op (wp_var rfl (wp_c ⟨_, e0 S14, _, addD_str (by simp; omega), ?_⟩))))))))))))))))
    refine wp_cons (wp_op (wp_var rfl (wp_c ⟨_, addD_str (by simp; omega), ?_⟩)))
    refine wp_cons (wp_op (wp_sl (wp_var rfl (wp_part (wp_c ⟨_, rfl, wp_noP ⟨_, sl_str1 (by omega), wp_c ⟨_, addD_str (by simp; omega), ?_⟩⟩⟩)))))
    refine wp_cons (wp_c (wp_cons (wp_tup (wp_cons (wp_var rfl (wp_nil ⟨by simp, ?_⟩))))))
    refine wp_cons (wp_lst (wp_cons (wp_var rfl (wp_nil ⟨by simp, ?_⟩))))
    refine wp_cons (wp_dct0 (wp_nil ⟨by simp, ?_⟩))
    refine wp_nil ⟨rfl, ofl_w (xs := oddL low c0) kn (by simp [oddL]) (by simp [oddL]) fun dd S15 hd kn => sK_nx ?_⟩
    show Wp ((sSeq _ _) (ρr (some (.int (i : Int))) (some (bd l k)) (some (.lst (W.map D.str))) (some (.lst (ds.map fun p : Nat => D.int (p : Int)))) z5 (some dn) (some (.str low)) (some dd) (some (.str l)) (some (.int (k : Int))) z11 z12 y13 y14)) S15 _
    obtain ⟨t1, ht1⟩ := said_rep (s := sNum) (rp_of (by decide +kernel)) (bad_rp hp dn hn)
    obtain ⟨t2, ht2⟩ := said_rep (s := sWrd) (rp_of (by decide +kernel)) (odd_rp (low := low) (c := c0) (by omega) c0l lm dd hd)
    refine wp_seq (wp_ifS (wp_tst (wp_op (wp_cb (wp_cons (wp_cauYX (c := 23) (fs := [(19, dn)]) (is1 := is1_got_0) rfl (wxe_methM (wp_var rfl ⟨_, rfl, rfl, wp_cons (wp_var rfl (wp_nil ⟨rfl, (wordX l26 k6 (bad_no hp dn hn) S15).imp fun S16 q16 => wp_ok (cl0 dn S16) ?_⟩))⟩))))))))
    have kn := kn.kq q16
    refine wp_nil ⟨_, ht1 S16, wp_cb (wp_cons (wp_lst (wp_cons (wp_c (wp_cons (wp_var rfl (wp_cons (wp_c (wp_nil ⟨by simp, wp_nil ⟨_, ht1 S16, _, ne_same, _, rfl, wp_next (sK_nx ?_)⟩⟩)))))))))⟩
    refine wp_ifS (wp_tst (wp_op (wp_cb (wp_cons (wp_cauYX (c := 18) (fs := [(19, dd)]) (is1 := is1_got_1) rfl (wxe_methKM (wp_var rfl ⟨_, rfl, rfl, wp_cons (wp_var rfl (wp_nil ⟨⟨rfl, rfl⟩, (numX (odd_no sg k1 k6 ll dd hd) S16).imp fun S17 q17 => wp_ok (cl1 dd S17) ?_⟩))⟩)))))))
    have kn := kn.kq q17
    refine wp_nil ⟨_, ht2 S17, wp_cb (wp_cons (wp_lst (wp_cons (wp_c (wp_cons (wp_var rfl (wp_cons (wp_c (wp_nil ⟨by simp, wp_nil ⟨_, ht2 S17, _, ne_same, _, rfl, wp_next ?_⟩⟩)))))))))⟩
    exact lK_nx [_, _, _, _, _, _, _, _, _, _, _, _, _, _] rfl rfl kn
  · rintro ys S1 hly kn
    exact sK_nx (wp_retS (wp_c (dK_rt rfl)))
theorem plain (ns : List Int) (h : ns.length ≤ 63) : ∃ S', d_law [.scr (ns.map D.int)] ⟨[], 0⟩ = .ok (.bl true) S' := by
  rw [law_is]
  exact law_gen 6 (by omega) (by omega) (fun b => right_ok b) ns h
end K03
theorem PySem.Challenge.cw_guessmarks_k03_whole_words_and_numbers_holds : PySem.Challenge.rw_guessmarks_k03_whole_words_and_numbers.Holds := by
  exact K03.k03_holds K03.plain
