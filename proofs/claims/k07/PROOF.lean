import PyProof.Rows.All
import Wide.All
import OpenK.AllK
import Wide.FinOn
import HandS.ForMost
import HandS.ForExc
import HandS.CallSlots
import HandS.HeadHook2
import HandS.HeadHook4
import HandS.Lambda
import HandS.IsInst
import HandS.TupAny
import HandS.TupMul
import HandS.Replace
import HandS.Head2
import HandS.HeadEnd
import KE.GoesNew
import HandS.Star
import HandS.DictComp
import HandS.ExcInit
import HandS.ExcField
import HandS.ExcIs
import HandS.TryMany
import KE.KExcIs
import KE.KRevSl
import KE.KDictWalk
import KE.KDictDisplayH
import HandS.Conv
import PyProof.SeqRoads2
import PyProof.Rows.SortShellAny
import PyProof.Rows.CountFlat
import HandS.HotCalls
import HandS.ClsMeth
import HandS.FromBytesMap
import KE.KExcInit
import HandS.ExcOwn
import HandS.Strs
import HandS.Codes
import HandS.ExcCtx
import HandS.Property
import HandS.FStr
import HandS.Zip
import HandS.Style
import KE.GoesEnum
import KE.DatumOrd
import PyProof.Claim2Refuses
import HandS.Finally
import HandS.Defaults
import PyProof.Rows.ReprOcc
import PySem.Challenge.RW_guessmarks_k07_errors_and_limits
set_option Elab.async false
set_option linter.all false
set_option maxRecDepth 100000
set_option maxHeartbeats 4010000
/-! J0: values as trees, a small store, the monad, how they stand in the abstract heap -/
namespace J
open PySem PySem.Spec L2
inductive Ky where
  | i (n : Int) | s (x : List Nat)
  deriving DecidableEq
/-- a value: what never changes is a tree; ref n: the n-th object of the store -/
inductive D where
  | non | bl (b : Bool) | int (i : Int) | str (x : List Nat) | ty (n : String) | glo (c : Nat)
  | tup (xs : List D) | lst (xs : List D) | scr (xs : List D) | dct (ks : List Ky) (xs : List D) | dcu (ks : List (List Ky)) (xs : List D) | ins (c : Nat) (xs : List D) | exn (c : Nat) (fl : List Nat) (xs : List D) | ref (n : Nat)
inductive MO where
  | lst (xs : List D) | dct (kvs : List (Ky × D)) | dcT (kvs : List (List Ky × D)) | ins (c : Nat) (fs : List (Nat × D))
structure Store where
  objs : List (Nat × MO)
  next : Nat
def getO (n : Nat) : List (Nat × MO) → Option MO
  | [] => none
  | (m, o) :: r => if m = n then some o else getO n r
def putO (n : Nat) (o : MO) : List (Nat × MO) → List (Nat × MO)
  | [] => [(n, o)]
  | (m, u) :: r => if m = n then (n, o) :: r else (m, u) :: putO n o r
def Store.get (S : Store) (n : Nat) : Option MO := getO n S.objs
def Store.set (S : Store) (n : Nat) (o : MO) : Store := ⟨putO n o S.objs, S.next⟩
def Store.alloc (S : Store) (o : MO) : Store := ⟨(S.next, o) :: S.objs, S.next + 1⟩
def dropO (n : Nat) : List (Nat × MO) → List (Nat × MO)
  | [] => []
  | (m, u) :: r => if m = n then dropO n r else (m, u) :: dropO n r
def trimO (N : Nat) : List (Nat × MO) → List (Nat × MO)
  | [] => []
  | (m, u) :: r => if m < N then (m, u) :: trimO N r else trimO N r
def Store.del (S : Store) (n : Nat) : Store := ⟨dropO n S.objs, S.next⟩
def Store.trim (S : Store) (N : Nat) : Store := ⟨trimO N S.objs, S.next⟩
theorem getO_put_self {n : Nat} {o : MO} : ∀ l, getO n (putO n o l) = some o
  | [] => by simp [putO, getO]
  | (m, u) :: r => by
    unfold putO
    split
    · simp [getO]
    · rename_i h
      simp only [getO, if_neg h]
      exact getO_put_self r
theorem getO_put_ne {n m : Nat} {o : MO} (h : m ≠ n) : ∀ l, getO m (putO n o l) = getO m l
  | [] => by simp [putO, getO, Ne.symm h]
  | (k, u) :: r => by
    unfold putO
    split
    · rename_i e
      subst e
      simp only [getO, if_neg (Ne.symm h)]
    · simp only [getO]
      rw [getO_put_ne h r]
theorem getO_drop {n m : Nat} : ∀ l, getO m (dropO n l) = if m = n then none else getO m l
  | [] => by simp [dropO, getO]
  | (k, u) :: r => by
    unfold dropO
    split
    · rename_i e
      subst e
      rw [getO_drop r]
      by_cases h : m = k
      · simp [h]
      · simp [h, getO, Ne.symm h]
    · rename_i e
      simp only [getO]
      rw [getO_drop r]
      by_cases h : m = n
      · subst h
        simp [e]
      · simp [h]
theorem getO_trim {N m : Nat} : ∀ l, getO m (trimO N l) = if m < N then getO m l else none
  | [] => by simp [trimO, getO]
  | (k, u) :: r => by
    unfold trimO
    split
    · rename_i e
      simp only [getO]
      rw [getO_trim r]
      by_cases h : k = m
      · subst h; simp [e]
      · simp [h]
    · rename_i e
      rw [getO_trim r]
      by_cases h : k = m
      · subst h; simp [e]
      · simp [getO, h]
@[simp] theorem Store.get_set_self (S : Store) (n : Nat) (o : MO) : (S.set n o).get n = some o := getO_put_self _
theorem Store.get_set_ne (S : Store) {n m : Nat} (o : MO) (h : m ≠ n) : (S.set n o).get m = S.get m := getO_put_ne h _
@[simp] theorem Store.next_set (S : Store) (n : Nat) (o : MO) : (S.set n o).next = S.next := rfl
@[simp] theorem Store.next_alloc (S : Store) (o : MO) : (S.alloc o).next = S.next + 1 := rfl
@[simp] theorem Store.next_del (S : Store) (n : Nat) : (S.del n).next = S.next := rfl
@[simp] theorem Store.next_trim (S : Store) (n : Nat) : (S.trim n).next = S.next := rfl
@[simp] theorem Store.get_alloc_self (S : Store) (o : MO) : (S.alloc o).get S.next = some o := by simp [Store.alloc, Store.get, getO]
theorem Store.get_alloc_ne (S : Store) (o : MO) {n : Nat} (h : n ≠ S.next) : (S.alloc o).get n = S.get n := by
  simp [Store.alloc, Store.get, getO, Ne.symm h]
theorem Store.get_del (S : Store) (n m : Nat) : (S.del n).get m = if m = n then none else S.get m := getO_drop _
theorem Store.get_trim (S : Store) (N m : Nat) : (S.trim N).get m = if m < N then S.get m else none := getO_trim _
/-! ### the monad -/
inductive R (α : Type) where
  | ok (a : α) (S : Store) | ex (c : Nat) (fs : List (Nat × D)) (S : Store) | no
abbrev M (α : Type) := Store → R α
def M.ret {α : Type} (a : α) : M α := fun S => .ok a S
def M.bind {α β : Type} (m : M α) (k : α → M β) : M β := fun S => match m S with
  | .ok a S' => k a S'
  | .ex c fs S' => .ex c fs S'
  | .no => .no
def M.no {α : Type} : M α := fun _ => .no
instance : Monad M where
  pure := M.ret
  bind := M.bind
abbrev Rho := List (Option D)
abbrev IE := Rho → M D
abbrev IT := Rho → M Bool
abbrev IA := Rho → M (List D)
/-- what a statement does -/
inductive Fl where
  | nx (ρ : Rho) | rt (d : D) | bk (ρ : Rho) | ct (ρ : Rho) | xx (c : Nat) (fs : List (Nat × D)) (ρ : Rho)
abbrev IS := Rho → M Fl
/-! ### how values stand -/
structure Tab where
  cn : Nat → Str
  fn : Nat → Str
  fs : Nat → List Nat
  inj : ∀ i j, fn i = fn j → i = j
  /-- the tables of code objects, and the name that their code objects bear -/
  tabs : PySem.W.Frag → List (Addr × Str) := fun _ => []
  /-- the error that is handled -/
  hot : Option Addr := none
def kyK : Ky → Key
  | .i n => .inl n
  | .s x => .inr ⟨x.toArray⟩
def named (T : Tab) : List Nat → List V → List (Str × V)
  | f :: fs, v :: vs => (T.fn f, v) :: named T fs vs
  | _, _ => []
def keyed : List Ky → List V → List (Key × V)
  | k :: ks, v :: vs => (kyK k, v) :: keyed ks vs
  | _, _ => []
def keyedT : List (List Ky) → List V → List (List Key × V)
  | k :: ks, v :: vs => (k.map kyK, v) :: keyedT ks vs
  | _, _ => []
/-- at a: a caught exception of the class at C, its dict at d -/
def exL (a C : Addr) (d : Option Addr) : HO := .ext fun h => ∃ (o : Obj) (vs : Array Value), h.get? a = some o ∧ L2N.Zn (.ref C) d o ∧ o.data = .fields vs
mutual
def DR (T : Tab) (K : PySem.W.Frag) (G : Hp) (ι : List Addr) : D → V → Prop
  | .non, v => v = .non
  | .bl b, v => v = .bl b
  | .int i, v => v = .int i
  | .str x, v => v = .str ⟨x.toArray⟩
  | .ty n, v => v = .ty n
  | .glo c, v => v = .ref (He.ga K (T.cn c))
  | .tup xs, v => ∃ a vs, v = .ref a ∧ G a = some (.tup vs) ∧ DRs T K G ι xs vs
  | .lst xs, v => ∃ a vs, v = .ref a ∧ G a = some (.lst vs) ∧ DRs T K G ι xs vs
  | .scr xs, v => ∃ a vs, v = .ref a ∧ SqL K G a vs ∧ DRs T K G ι xs vs
  | .dct ks xs, v => ∃ a vs, v = .ref a ∧ ks.length = vs.length ∧ ((ks = [] ∧ G a = some (.dK [])) ∨ (ks ≠ [] ∧ ∃ o, G a = some (.frz o (.dK (keyed ks vs))))) ∧ DRs T K G ι xs vs
  | .dcu ks xs, v => ∃ a o vs, v = .ref a ∧ ks.length = vs.length ∧ G a = some (.frz o (.dT (keyedT ks vs))) ∧ DRs T K G ι xs vs
  | .ins c xs, v => ∃ a dx vs, v = .ref a ∧ (T.fs c).length = vs.length ∧ G a = some (.ins (He.ga K (T.cn c)) dx (named T (T.fs c) vs)) ∧ DRs T K G ι xs vs
  | .exn c fl xs, v => ∃ a dd vs, v = .ref a ∧ fl.length = vs.length ∧ G a = some (exL a (He.ga K (T.cn c)) dd) ∧ ((fl = [] ∧ dd = none) ∨ ∃ d, dd = some d ∧ G d = some (.xd (named T fl vs))) ∧ DRs T K G ι xs vs
  | .ref n, v => ∃ a, ι[n]? = some a ∧ v = .ref a
def DRs (T : Tab) (K : PySem.W.Frag) (G : Hp) (ι : List Addr) : List D → List V → Prop
  | [], vs => vs = []
  | x :: xs, vs => ∃ v r, vs = v :: r ∧ DR T K G ι x v ∧ DRs T K G ι xs r
end
def Ipre (ι ι' : List Addr) : Prop := ∀ (n : Nat) (a : Addr), ι[n]? = some a → ι'[n]? = some a
theorem Ipre.refl (ι : List Addr) : Ipre ι ι := fun _ _ h => h
theorem Ipre.trans {a b c : List Addr} (h : Ipre a b) (k : Ipre b c) : Ipre a c := fun n x e => k n x (h n x e)
theorem Ipre.snoc (ι : List Addr) (p : Addr) : Ipre ι (ι ++ [p]) := fun n a e => by
  rw [List.getElem?_append_left (List.getElem?_eq_some_iff.mp e).1]
  exact e
mutual
theorem DR.mono {T : Tab} {K : PySem.W.Frag} {G G' : Hp} {ι ι' : List Addr} (hG : Same G G') (hι : Ipre ι ι') : ∀ {d : D} {v : V}, DR T K G ι d v → DR T K G' ι' d v
  | .non, _, h => by simpa only [DR] using h
  | .bl _, _, h => by simpa only [DR] using h
  | .int _, _, h => by simpa only [DR] using h
  | .str _, _, h => by simpa only [DR] using h
  | .ty _, _, h => by simpa only [DR] using h
  | .glo _, _, h => by simpa only [DR] using h
  | .tup xs, v, h => by
    simp only [DR] at h ⊢
    obtain ⟨a, vs, e, q, r⟩ := h
    exact ⟨a, vs, e, hG _ _ q, DRs.mono hG hι r⟩
  | .lst xs, v, h => by
    simp only [DR] at h ⊢
    obtain ⟨a, vs, e, q, r⟩ := h
    exact ⟨a, vs, e, hG _ _ q, DRs.mono hG hι r⟩
  | .scr xs, v, h => by
    simp only [DR] at h ⊢
    obtain ⟨a, vs, e, q, r⟩ := h
    exact ⟨a, vs, e, Same.seq hG q, DRs.mono hG hι r⟩
  | .dct ks xs, v, h => by
    simp only [DR] at h ⊢
    obtain ⟨a, vs, e, l, q, r⟩ := h
    exact ⟨a, vs, e, l, q.elim (fun q => .inl ⟨q.1, hG _ _ q.2⟩) (fun ⟨n, o, q⟩ => .inr ⟨n, o, hG _ _ q⟩), DRs.mono hG hι r⟩
  | .dcu ks xs, v, h => by
    simp only [DR] at h ⊢
    obtain ⟨a, o, vs, e, l, q, r⟩ := h
    exact ⟨a, o, vs, e, l, hG _ _ q, DRs.mono hG hι r⟩
  | .ins c xs, v, h => by
    simp only [DR] at h ⊢
    obtain ⟨a, dx, vs, e, l, q, r⟩ := h
    exact ⟨a, dx, vs, e, l, hG _ _ q, DRs.mono hG hι r⟩
  | .exn c fl xs, v, h => by
    simp only [DR] at h ⊢
    obtain ⟨a, dd, vs, e, l, q, m, r⟩ := h
    exact ⟨a, dd, vs, e, l, hG _ _ q, m.imp id fun ⟨d, e, q⟩ => ⟨d, e, hG _ _ q⟩, DRs.mono hG hι r⟩
  | .ref n, v, h => by
    simp only [DR] at h ⊢
    obtain ⟨a, e, q⟩ := h
    exact ⟨a, hι _ _ e, q⟩
theorem DRs.mono {T : Tab} {K : PySem.W.Frag} {G G' : Hp} {ι ι' : List Addr} (hG : Same G G') (hι : Ipre ι ι') : ∀ {d : List D} {v : List V}, DRs T K G ι d v → DRs T K G' ι' d v
  | [], _, h => by simpa only [DRs] using h
  | x :: xs, _, h => by
    simp only [DRs] at h ⊢
    obtain ⟨v, r, e, q, k⟩ := h
    exact ⟨v, r, e, DR.mono hG hι q, DRs.mono hG hι k⟩
end
theorem DRs.length {T : Tab} {K : PySem.W.Frag} {G : Hp} {ι : List Addr} : ∀ {d : List D} {v : List V}, DRs T K G ι d v → d.length = v.length
  | [], _, h => by simp only [DRs] at h; subst h; rfl
  | x :: xs, _, h => by
    simp only [DRs] at h
    obtain ⟨v, r, e, q, k⟩ := h
    subst e
    simp [k.length]
theorem DRs.get {T : Tab} {K : PySem.W.Frag} {G : Hp} {ι : List Addr} : ∀ {ds : List D} {vs : List V} {i : Nat} {d : D}, DRs T K G ι ds vs → ds[i]? = some d → ∃ v, vs[i]? = some v ∧ DR T K G ι d v
  | [], _, _, _, _, e => by simp at e
  | x :: xs, _, 0, d, h, e => by
    simp only [DRs] at h
    obtain ⟨v, r, e1, q, k⟩ := h
    subst e1
    simp at e
    subst e
    exact ⟨v, rfl, q⟩
  | x :: xs, _, i + 1, d, h, e => by
    simp only [DRs] at h
    obtain ⟨v, r, e1, q, k⟩ := h
    subst e1
    simpa using k.get (i := i) (by simpa using e)
theorem DRs.append {T : Tab} {K : PySem.W.Frag} {G : Hp} {ι : List Addr} : ∀ {ds : List D} {vs : List V} {es : List D} {ws : List V}, DRs T K G ι ds vs → DRs T K G ι es ws → DRs T K G ι (ds ++ es) (vs ++ ws)
  | [], _, _, _, h, k => by
    simp only [DRs] at h
    subst h
    exact k
  | x :: xs, _, _, _, h, k => by
    simp only [DRs] at h
    obtain ⟨v, r, e1, q, j⟩ := h
    subst e1
    simp only [List.cons_append, DRs]
    exact ⟨v, _, rfl, q, j.append k⟩
theorem DRs.nil {T : Tab} {K : PySem.W.Frag} {G : Hp} {ι : List Addr} : DRs T K G ι [] [] := by simp only [DRs]
theorem DRs.cons {T : Tab} {K : PySem.W.Frag} {G : Hp} {ι : List Addr} {d : D} {v : V} {ds : List D} {vs : List V} (h : DR T K G ι d v) (k : DRs T K G ι ds vs) : DRs T K G ι (d :: ds) (v :: vs) := by
  simp only [DRs]
  exact ⟨v, vs, rfl, h, k⟩
theorem DRs.take {T : Tab} {K : PySem.W.Frag} {G : Hp} {ι : List Addr} : ∀ {ds : List D} {vs : List V} (n : Nat), DRs T K G ι ds vs → DRs T K G ι (ds.take n) (vs.take n)
  | _, _, 0, _ => by simpa using DRs.nil
  | [], _, n + 1, h => by
    simp only [DRs] at h
    subst h
    simpa using DRs.nil
  | x :: xs, _, n + 1, h => by
    simp only [DRs] at h
    obtain ⟨v, r, e1, q, j⟩ := h
    subst e1
    simpa using DRs.cons q (j.take n)
theorem DRs.drop {T : Tab} {K : PySem.W.Frag} {G : Hp} {ι : List Addr} : ∀ {ds : List D} {vs : List V} (n : Nat), DRs T K G ι ds vs → DRs T K G ι (ds.drop n) (vs.drop n)
  | _, _, 0, h => by simpa using h
  | [], _, n + 1, h => by
    simp only [DRs] at h
    subst h
    simpa using DRs.nil
  | x :: xs, _, n + 1, h => by
    simp only [DRs] at h
    obtain ⟨v, r, e1, q, j⟩ := h
    subst e1
    simpa using j.drop n
theorem DRs.set {T : Tab} {K : PySem.W.Frag} {G : Hp} {ι : List Addr} {d : D} {v : V} (hd : DR T K G ι d v) : ∀ {ds : List D} {vs : List V} (n : Nat), DRs T K G ι ds vs → DRs T K G ι (ds.set n d) (vs.set n v)
  | [], _, n, h => by
    simp only [DRs] at h
    subst h
    simpa using DRs.nil
  | x :: xs, _, 0, h => by
    simp only [DRs] at h
    obtain ⟨w, r, e1, q, j⟩ := h
    subst e1
    simpa using DRs.cons hd j
  | x :: xs, _, n + 1, h => by
    simp only [DRs] at h
    obtain ⟨w, r, e1, q, j⟩ := h
    subst e1
    simpa using DRs.cons q (j.set hd n)
/-! ### an object of the store -/
def FRs (T : Tab) (K : PySem.W.Frag) (G : Hp) (ι : List Addr) : List (Nat × D) → List (Str × V) → Prop
  | [], vs => vs = []
  | (f, x) :: xs, vs => ∃ v r, vs = (T.fn f, v) :: r ∧ DR T K G ι x v ∧ FRs T K G ι xs r
def KRs (T : Tab) (K : PySem.W.Frag) (G : Hp) (ι : List Addr) : List (Ky × D) → List (Key × V) → Prop
  | [], vs => vs = []
  | (k, x) :: xs, vs => ∃ v r, vs = (kyK k, v) :: r ∧ DR T K G ι x v ∧ KRs T K G ι xs r
def TRs (T : Tab) (K : PySem.W.Frag) (G : Hp) (ι : List Addr) : List (List Ky × D) → List (List Key × V) → Prop
  | [], vs => vs = []
  | (k, x) :: xs, vs => ∃ v r, vs = (k.map kyK, v) :: r ∧ DR T K G ι x v ∧ TRs T K G ι xs r
def OR (T : Tab) (K : PySem.W.Frag) (G : Hp) (ι : List Addr) : MO → HO → Prop
  | .lst xs, h => ∃ vs, h = .lst vs ∧ DRs T K G ι xs vs
  | .dct kvs, h => ∃ vs, h = .dK vs ∧ KRs T K G ι kvs vs
  | .dcT kvs, h => ∃ vs, h = .dT vs ∧ TRs T K G ι kvs vs
  | .ins c fs, h => ∃ dx vs, h = .ins (He.ga K (T.cn c)) dx vs ∧ FRs T K G ι fs vs
theorem FRs.mono {T : Tab} {K : PySem.W.Frag} {G G' : Hp} {ι ι' : List Addr} (hG : Same G G') (hι : Ipre ι ι') : ∀ {d : List (Nat × D)} {v : List (Str × V)}, FRs T K G ι d v → FRs T K G' ι' d v
  | [], _, h => h
  | (f, x) :: xs, _, ⟨v, r, e, q, k⟩ => ⟨v, r, e, q.mono hG hι, k.mono hG hι⟩
theorem KRs.mono {T : Tab} {K : PySem.W.Frag} {G G' : Hp} {ι ι' : List Addr} (hG : Same G G') (hι : Ipre ι ι') : ∀ {d : List (Ky × D)} {v : List (Key × V)}, KRs T K G ι d v → KRs T K G' ι' d v
  | [], _, h => h
  | (f, x) :: xs, _, ⟨v, r, e, q, k⟩ => ⟨v, r, e, q.mono hG hι, k.mono hG hι⟩
theorem TRs.mono {T : Tab} {K : PySem.W.Frag} {G G' : Hp} {ι ι' : List Addr} (hG : Same G G') (hι : Ipre ι ι') : ∀ {d : List (List Ky × D)} {v : List (List Key × V)}, TRs T K G ι d v → TRs T K G' ι' d v
  | [], _, h => h
  | (f, x) :: xs, _, ⟨v, r, e, q, k⟩ => ⟨v, r, e, q.mono hG hι, k.mono hG hι⟩
theorem OR.mono {T : Tab} {K : PySem.W.Frag} {G G' : Hp} {ι ι' : List Addr} (hG : Same G G') (hι : Ipre ι ι') : ∀ {o : MO} {h : HO}, OR T K G ι o h → OR T K G' ι' o h
  | .lst _, _, ⟨vs, e, r⟩ => ⟨vs, e, r.mono hG hι⟩
  | .dct _, _, ⟨vs, e, r⟩ => ⟨vs, e, r.mono hG hι⟩
  | .dcT _, _, ⟨vs, e, r⟩ => ⟨vs, e, r.mono hG hι⟩
  | .ins _ _, _, ⟨dx, vs, e, r⟩ => ⟨dx, vs, e, r.mono hG hι⟩
/-- no table -/
def noTab : HO → Bool
  | .tbl _ => false
  | _ => true
/-- no table, nothing told by a property -/
def plainO : HO → Bool
  | .tbl _ => false
  | .tup _ => false
  | .ext _ => false
  | _ => true
theorem noTab_of {o : HO} (h : plainO o = true) : noTab o = true := by
  cases o <;> first | rfl | cases h
theorem OR.plain {T : Tab} {K : PySem.W.Frag} {G : Hp} {ι : List Addr} : ∀ {o : MO} {h : HO}, OR T K G ι o h → plainO h = true
  | .lst _, _, ⟨_, e, _⟩ => e ▸ rfl
  | .dct _, _, ⟨_, e, _⟩ => e ▸ rfl
  | .dcT _, _, ⟨_, e, _⟩ => e ▸ rfl
  | .ins _ _, _, ⟨_, _, e, _⟩ => e ▸ rfl
/-- tables do not see a change elsewhere -/
theorem tabs_upd {L : List (Addr × Str)} {H : Hp} {p : Addr} {o u : HO} (h : LamX.Tabs L H) (e : H p = some o) (pl : plainO o = true) : LamX.Tabs L (upd H p u) := by
  intro q hq
  obtain ⟨ps, h1, h2, h3⟩ := h q hq
  have ne : ∀ {b : Addr} {x : HO}, H b = some x → plainO x = false → b ≠ p := fun hb hx z => by
    subst z
    rw [e] at hb
    cases hb
    rw [pl] at hx
    cases hx
  refine ⟨ps, by rw [upd_ne (ne h1 rfl)]; exact h1, h2, fun pos cv hc => ?_⟩
  obtain ⟨c, isC, atC⟩ := h3 pos cv hc
  exact ⟨c, isC, by rw [upd_ne (ne atC rfl)]; exact atC⟩
theorem tabs_new {L : List (Addr × Str)} {H : Hp} {p : Addr} {u : HO} (h : LamX.Tabs L H) (e : H p = none) : LamX.Tabs L (upd H p u) := h.ext fun b o q => by
  rw [upd_ne (ne_of_none q e)]
  exact q
/-- the error that is handled is known -/
def Tab.HotG (T : Tab) (G : Hp) : Prop := ∀ a, T.hot = some a → ∃ C d, G a = some (exL a C d)
theorem Tab.HotG.mono {T : Tab} {G G' : Hp} (h : T.HotG G) (e : Same G G') : T.HotG G' := fun a q => let ⟨C, d, z⟩ := h a q; ⟨C, d, e _ _ z⟩
/-! ### the state: G what is frozen, F what is somebody else's, S the store at ι -/
structure Em (T : Tab) (K : PySem.W.Frag) (F : Hp) (S : Store) (ι : List Addr) (G H : Hp) : Prop where
  sub : Same G H
  fr : Same F H
  len : ι.length = S.next
  nd : ι.Nodup
  old : ∀ a ∈ ι, H a ≠ none
  oldP : ∀ a ∈ ι, ∀ o, H a = some o → noTab o = true
  obj : ∀ n o, S.get n = some o → ∃ a h, ι[n]? = some a ∧ G a = none ∧ F a = none ∧ H a = some h ∧ OR T K G ι o h
  dis : ∀ a o, F a = some o → G a = none
  tb : LamX.Tabs (T.tabs K) H
  noG : ∀ a o, G a = some o → noTab o = true
  noF : ∀ a o, F a = some o → plainO o = true
  ht : T.HotG G
def Ext (G : Hp) (ι : List Addr) (G' : Hp) (ι' : List Addr) : Prop := Same G G' ∧ Ipre ι ι'
theorem Ext.refl (G : Hp) (ι : List Addr) : Ext G ι G ι := ⟨Same.refl G, Ipre.refl ι⟩
theorem Ext.trans {G G1 G2 : Hp} {ι ι1 ι2 : List Addr} (a : Ext G ι G1 ι1) (b : Ext G1 ι1 G2 ι2) : Ext G ι G2 ι2 := ⟨a.1.trans b.1, a.2.trans b.2⟩
theorem same_new {H : Hp} {p : Addr} {o : HO} (h : H p = none) : Same H (upd H p o) := fun b u e => by
  rw [upd_ne (ne_of_none e h)]
  exact e
theorem same_up {G H : Hp} {p : Addr} {o : HO} (e : Same G H) : Same (upd G p o) (upd H p o) := fun b u q => by
  by_cases hb : b = p
  · subst hb
    rw [upd_same] at q ⊢
    exact q
  · rw [upd_ne hb] at q ⊢
    exact e b u q
theorem same_out {G H : Hp} {p : Addr} {o : HO} (e : Same G H) (h : G p = none) : Same G (upd H p o) := fun b u q => by
  rw [upd_ne (ne_of_none q h)]
  exact e b u q
section
variable {T : Tab} {K : PySem.W.Frag} {F : Hp} {S : Store} {ι : List Addr} {G H : Hp}
/-- a new object that never changes -/
theorem old_new {ι : List Addr} {H : Hp} {p : Addr} {o : HO} (h : ∀ a ∈ ι, H a ≠ none) (hP : ∀ a ∈ ι, ∀ o, H a = some o → noTab o = true) (hp : H p = none) : ∀ a ∈ ι, ∀ u, upd H p o a = some u → noTab u = true := fun a ha u q => by
  have ne : a ≠ p := fun z => h a ha (by rw [z]; exact hp)
  rw [upd_ne ne] at q
  exact hP a ha u q
theorem old_put {ι : List Addr} {H : Hp} {p : Addr} {o : HO} (hP : ∀ a ∈ ι, ∀ o, H a = some o → noTab o = true) (ho : plainO o = true) : ∀ a ∈ ι, ∀ u, upd H p o a = some u → noTab u = true := fun a ha u q => by
  by_cases z : a = p
  · subst z
    rw [upd_same] at q
    cases q
    exact noTab_of ho
  · rw [upd_ne z] at q
    exact hP a ha u q
theorem put_all {G : Hp} {p : Addr} {o : HO} {f : HO → Bool} (h : ∀ a u, G a = some u → f u = true) (ho : f o = true) : ∀ a u, upd G p o a = some u → f u = true := fun a u q => by
  by_cases z : a = p
  · subst z
    rw [upd_same] at q
    cases q
    exact ho
  · rw [upd_ne z] at q
    exact h a u q
theorem Em.frz (E : Em T K F S ι G H) {p : Addr} {o : HO} (hp : H p = none) (no : noTab o = true := by rfl) : Em T K F S ι (upd G p o) (upd H p o) ∧ Ext G ι (upd G p o) ι := by
  have gp : G p = none := E.sub.free hp
  have hx : Same G (upd G p o) := same_new gp
  refine ⟨⟨same_up E.sub, same_out E.fr (E.fr.free hp), E.len, E.nd, fun a ha => ?_, old_new E.old E.oldP hp, fun n m e => ?_, fun a u q => ?_, tabs_new E.tb hp, put_all E.noG no, E.noF, E.ht.mono hx⟩, hx, Ipre.refl _⟩
  · by_cases h : a = p
    · subst h
      rw [upd_same]
      exact fun z => by cases z
    · rw [upd_ne h]
      exact E.old a ha
  · obtain ⟨a, h, h1, h2, h3, h4, h5⟩ := E.obj n m e
    have na : a ≠ p := ne_of_none h4 hp
    exact ⟨a, h, h1, by rw [upd_ne na]; exact h2, h3, by rw [upd_ne na]; exact h4, h5.mono hx (Ipre.refl _)⟩
  · rw [upd_ne (ne_of_none (E.fr a u q) hp)]
    exact E.dis a u q
/-- a new object of the store -/
theorem Em.alloc (E : Em T K F S ι G H) {p : Addr} {o : MO} {u : HO} (hp : H p = none) (ho : OR T K G ι o u) : Em T K F (S.alloc o) (ι ++ [p]) G (upd H p u) ∧ Ext G ι G (ι ++ [p]) ∧ (ι ++ [p])[S.next]? = some p := by
  have hx : Ipre ι (ι ++ [p]) := Ipre.snoc ι p
  have hn : (ι ++ [p])[S.next]? = some p := by rw [← E.len]; simp
  have np : p ∉ ι := fun h => E.old p h hp
  refine ⟨⟨same_out E.sub (E.sub.free hp), same_out E.fr (E.fr.free hp), by simp [E.len], ?_, fun a ha => ?_, fun a ha => ?_, fun n m e => ?_, E.dis, tabs_new E.tb hp, E.noG, E.noF, E.ht⟩, ⟨Same.refl _, hx⟩, hn⟩
  · exact List.nodup_append.mpr ⟨E.nd, by simp, fun a h1 b h2 => by
      simp at h2
      subst h2
      exact fun e => np (e ▸ h1)⟩
  · by_cases h : a = p
    · subst h
      rw [upd_same]
      exact fun z => by cases z
    · rw [upd_ne h]
      rcases List.mem_append.mp ha with h1 | h1
      · exact E.old a h1
      · simp at h1
        exact absurd h1 h
  · rcases List.mem_append.mp ha with h1 | h1
    · exact old_new E.old E.oldP hp a h1
    · simp at h1
      subst h1
      intro x q
      rw [upd_same] at q
      cases q
      exact noTab_of ho.plain
  · by_cases hm : n = S.next
    · subst hm
      rw [Store.get_alloc_self] at e
      cases e
      exact ⟨p, u, hn, E.sub.free hp, E.fr.free hp, upd_same, ho.mono (Same.refl _) hx⟩
    · rw [Store.get_alloc_ne _ _ hm] at e
      obtain ⟨a, h, h1, h2, h3, h4, h5⟩ := E.obj n m e
      have na : a ≠ p := ne_of_none h4 hp
      exact ⟨a, h, hx _ _ h1, h2, h3, by rw [upd_ne na]; exact h4, h5.mono (Same.refl _) hx⟩
/-- an object of the store changes -/
theorem Em.set (E : Em T K F S ι G H) {n : Nat} {a : Addr} {o : MO} {u : HO} (hn : (S.get n).isSome) (ha : ι[n]? = some a) (ho : OR T K G ι o u) : Em T K F (S.set n o) ι G (upd H a u) := by
  obtain ⟨o0, e0⟩ := Option.isSome_iff_exists.mp hn
  obtain ⟨a', h', q1, q2, q3, q4, q5⟩ := E.obj n o0 e0
  rw [ha] at q1
  cases q1
  refine ⟨same_out E.sub q2, same_out E.fr q3, E.len, E.nd, fun b hb => ?_, old_put E.oldP ho.plain, fun m x e => ?_, E.dis, tabs_upd E.tb q4 q5.plain, E.noG, E.noF, E.ht⟩
  · by_cases h : b = a
    · subst h
      rw [upd_same]
      exact fun z => by cases z
    · rw [upd_ne h]
      exact E.old b hb
  · by_cases hm : m = n
    · subst hm
      rw [Store.get_set_self] at e
      cases e
      exact ⟨a, u, ha, q2, q3, upd_same, ho⟩
    · rw [Store.get_set_ne _ _ hm] at e
      obtain ⟨b, h, h1, h2, h3, h4, h5⟩ := E.obj m x e
      have nb : b ≠ a := fun z => by
        subst z
        obtain ⟨l1, e1⟩ := List.getElem?_eq_some_iff.mp h1
        obtain ⟨l2, e2⟩ := List.getElem?_eq_some_iff.mp ha
        exact hm ((List.getElem_inj E.nd).mp (e1.trans e2.symm))
      exact ⟨b, h, h1, h2, h3, by rw [upd_ne nb]; exact h4, h5⟩
/-- objects of the store are forgotten -/
theorem Em.sub_store (E : Em T K F S ι G H) {S' : Store} (hn : S'.next = S.next) (hs : ∀ n o, S'.get n = some o → S.get n = some o) : Em T K F S' ι G H :=
  ⟨E.sub, E.fr, E.len.trans hn.symm, E.nd, E.old, E.oldP, fun n o e => E.obj n o (hs n o e), E.dis, E.tb, E.noG, E.noF, E.ht⟩
theorem Em.trim (E : Em T K F S ι G H) (N : Nat) : Em T K F (S.trim N) ι G H := E.sub_store rfl fun n o e => by
  rw [Store.get_trim] at e
  split at e
  · exact e
  · cases e
/-- somebody's own object, put aside -/
theorem Em.aside (E : Em T K F S ι G H) {p : Addr} {o : HO} (hp : H p = none) (no : plainO o = true := by rfl) : Em T K (upd F p o) S ι G (upd H p o) := by
  refine ⟨same_out E.sub (E.sub.free hp), same_up E.fr, E.len, E.nd, fun a ha => ?_, old_new E.old E.oldP hp, fun n m e => ?_, fun a u q => ?_, tabs_new E.tb hp, E.noG, put_all E.noF no, E.ht⟩
  · by_cases h : a = p
    · subst h
      rw [upd_same]
      exact fun z => by cases z
    · rw [upd_ne h]
      exact E.old a ha
  · obtain ⟨a, h, h1, h2, h3, h4, h5⟩ := E.obj n m e
    have na : a ≠ p := ne_of_none h4 hp
    exact ⟨a, h, h1, h2, by rw [upd_ne na]; exact h3, by rw [upd_ne na]; exact h4, h5⟩
  · by_cases h : a = p
    · subst h
      exact E.sub.free hp
    · rw [upd_ne h] at q
      exact E.dis a u q
/-- .. changed by its owner -/
theorem Em.reaside {p : Addr} {o o' : HO} (E : Em T K (upd F p o) S ι G H) (no : plainO o' = true := by rfl) : Em T K (upd F p o') S ι G (upd H p o') := by
  have gp : G p = none := E.dis p o upd_same
  refine ⟨same_out E.sub gp, fun b u q => ?_, E.len, E.nd, fun a ha => ?_, old_put E.oldP no, fun n m e => ?_, fun a u q => ?_, tabs_upd E.tb (E.fr p o upd_same) (E.noF p o upd_same), E.noG, fun a u q => ?_, E.ht⟩
  · by_cases hb : b = p
    · subst hb
      rw [upd_same] at q ⊢
      exact q
    · rw [upd_ne hb] at q ⊢
      exact E.fr b u (by rw [upd_ne hb]; exact q)
  · by_cases h : a = p
    · subst h
      rw [upd_same]
      exact fun z => by cases z
    · rw [upd_ne h]
      exact E.old a ha
  · obtain ⟨a, h, h1, h2, h3, h4, h5⟩ := E.obj n m e
    have na : a ≠ p := fun z => by
      subst z
      rw [upd_same] at h3
      cases h3
    exact ⟨a, h, h1, h2, by rw [upd_ne na] at h3 ⊢; exact h3, by rw [upd_ne na]; exact h4, h5⟩
  · by_cases h : a = p
    · subst h
      exact gp
    · rw [upd_ne h] at q
      exact E.dis a u (by rw [upd_ne h]; exact q)
  · by_cases h : a = p
    · subst h
      rw [upd_same] at q
      cases q
      exact no
    · rw [upd_ne h] at q
      exact E.noF a u (by rw [upd_ne h]; exact q)
/-- .. given to all, never to change again -/
theorem Em.adopt {p : Addr} {o : HO} (E : Em T K (upd F p o) S ι G H) (hF : F p = none) : Em T K F S ι (upd G p o) H ∧ Ext G ι (upd G p o) ι := by
  have gp : G p = none := E.dis p o upd_same
  have hx : Same G (upd G p o) := same_new gp
  refine ⟨⟨fun b u q => ?_, fun b u q => E.fr b u (by rw [upd_ne (ne_of_none q hF)]; exact q), E.len, E.nd, E.old, E.oldP, fun n m e => ?_, fun a u q => ?_, E.tb, put_all E.noG (noTab_of (E.noF p o upd_same)), fun a u q => E.noF a u (by rw [upd_ne (ne_of_none q hF)]; exact q), E.ht.mono hx⟩, hx, Ipre.refl _⟩
  · by_cases hb : b = p
    · subst hb
      rw [upd_same] at q
      exact E.fr b u (by rw [upd_same]; exact q)
    · rw [upd_ne hb] at q
      exact E.sub b u q
  · obtain ⟨a, h, h1, h2, h3, h4, h5⟩ := E.obj n m e
    have na : a ≠ p := fun z => by
      subst z
      rw [upd_same] at h3
      cases h3
    exact ⟨a, h, h1, by rw [upd_ne na]; exact h2, by rw [upd_ne na] at h3; exact h3, h4, h5.mono hx (Ipre.refl _)⟩
  · have na : a ≠ p := ne_of_none q hF
    rw [upd_ne na]
    exact E.dis a u (by rw [upd_ne na]; exact q)
end
/-- the slots -/
structure SR (T : Tab) (K : PySem.W.Frag) (G : Hp) (ι : List Addr) (ρ : Rho) (σ : St) : Prop where
  len : ρ.length = σ.length
  at_ : ∀ (i : Nat) (d : D), ρ[i]? = some (some d) → ∃ v, σ[i]? = some (some v) ∧ DR T K G ι d v
theorem SR.mono {T : Tab} {K : PySem.W.Frag} {G G' : Hp} {ι ι' : List Addr} {ρ : Rho} {σ : St} (r : SR T K G ι ρ σ) (x : Ext G ι G' ι') : SR T K G' ι' ρ σ :=
  ⟨r.len, fun i d e => let ⟨v, q, h⟩ := r.at_ i d e; ⟨v, q, h.mono x.1 x.2⟩⟩
theorem SR.set {T : Tab} {K : PySem.W.Frag} {G : Hp} {ι : List Addr} {ρ : Rho} {σ : St} (r : SR T K G ι ρ σ) {d : D} {v : V} (h : DR T K G ι d v) (j : Nat) : SR T K G ι (ρ.set j (some d)) (σ.set j (some v)) := by
  refine ⟨by simp [r.len], fun i e q => ?_⟩
  by_cases hj : j = i
  · subst hj
    rw [List.getElem?_set] at q ⊢
    by_cases hl : j < ρ.length
    · have hl' : j < σ.length := r.len ▸ hl
      simp [hl] at q
      subst q
      simp [hl', h]
    · simp [hl] at q
  · rw [List.getElem?_set_ne hj] at q ⊢
    exact r.at_ i e q
end J
set_option Elab.async false
set_option linter.all false
set_option maxRecDepth 100000
set_option maxHeartbeats 4010000
/-! J1: judgements -/
namespace J
open PySem PySem.Spec L2
def Runs {α : Type} (m : R α) (ok : α → Store → Prop) (ex : Nat → List (Nat × D) → Store → Prop) : Prop := match m with
  | .ok a S => ok a S
  | .ex c fs S => ex c fs S
  | .no => False
theorem Runs.imp {α : Type} {m : R α} {ok ok' : α → Store → Prop} {ex ex' : Nat → List (Nat × D) → Store → Prop} (h : Runs m ok ex) (h1 : ∀ a S, ok a S → ok' a S) (h2 : ∀ c fs S, ex c fs S → ex' c fs S) : Runs m ok' ex' := by
  cases m with
  | ok a S => exact h1 a S h
  | ex c fs S => exact h2 c fs S h
  | no => exact h
/-- an exception's own dict -/
def XR (T : Tab) (K : PySem.W.Frag) (G : Hp) (ι : List Addr) (fs : List (Nat × D)) (dd : Option Addr) : Prop :=
  (fs = [] ∧ dd = none) ∨ ∃ d vs, dd = some d ∧ G d = some (.xd vs) ∧ FRs T K G ι fs vs
/-- what is wanted of a run at (G, ι) -/
def Thn {α β : Type} (T : Tab) (K : PySem.W.Frag) (F : Hp) (W : WX) (σ : L2.St) (G : Hp) (ι : List Addr) (rel : Hp → List Addr → α → β → Prop) (m : R α) (Q : β → Hp → Prop) : Prop :=
  Runs m (fun d S' => ∀ v ι' G' H', Em T K F S' ι' G' H' → Ext G ι G' ι' → rel G' ι' d v → Q v H')
    (fun c fs S' => ∀ dd ι' G' H', Em T K F S' ι' G' H' → Ext G ι G' ι' → XR T K G' ι' fs dd → W (.ref (He.ga K (T.cn c))) dd σ H')
def tG {α β : Type} (T : Tab) (K : PySem.W.Frag) (W : WX) (rel : Hp → List Addr → α → β → Prop) (m : Rho → M α) : L2.St → Hp → (β → Hp → Prop) → Prop := fun σ H Q =>
  ∃ ρ F S ι G, Em T K F S ι G H ∧ SR T K G ι ρ σ ∧ Thn T K F W σ G ι rel (m ρ S) Q
abbrev tE (T : Tab) (K : PySem.W.Frag) (W : WX) (ie : IE) : TE := tG T K W (DR T K) ie
abbrev tT (T : Tab) (K : PySem.W.Frag) (W : WX) (it : IT) : TT := tG T K W (fun _ _ (a b : Bool) => a = b) it
abbrev tA (T : Tab) (K : PySem.W.Frag) (W : WX) (ia : IA) : TA := tG T K W (DRs T K) ia
abbrev JE (T : Tab) (X : Cx) (W : WX) (e : Expr) (ie : IE) : Prop := PE X e (tE T X.K W ie)
abbrev JT (T : Tab) (X : Cx) (W : WX) (e : Expr) (it : IT) : Prop := PT X e (tT T X.K W it)
abbrev JW (T : Tab) (X : Cx) (W : WX) (e : Expr) (it : IT) : Prop := PW X e (tT T X.K W it)
abbrev JA (T : Tab) (X : Cx) (W : WX) (es : List Expr) (ia : IA) : Prop := PA X es (tA T X.K W ia)
theorem PE.mono {X : Cx} {e : Expr} {t t' : TE} (h : PE X e t) (k : ∀ σ H Q, t' σ H Q → t σ H Q) : PE X e t' := ⟨fun pins s σ H Q I q => h.run pins s σ H Q I (k σ H Q q)⟩
theorem PT.mono {X : Cx} {e : Expr} {t t' : TT} (h : PT X e t) (k : ∀ σ H Q, t' σ H Q → t σ H Q) : PT X e t' := ⟨fun pins s σ H Q I q => h.run pins s σ H Q I (k σ H Q q)⟩
theorem PW.mono {X : Cx} {e : Expr} {t t' : TT} (h : PW X e t) (k : ∀ σ H Q, t' σ H Q → t σ H Q) : PW X e t' := ⟨fun wh pins s σ H Q I q => h.run wh pins s σ H Q I (k σ H Q q)⟩
theorem PA.mono {X : Cx} {e : List Expr} {t t' : TA} (h : PA X e t) (k : ∀ σ H Q, t' σ H Q → t σ H Q) : PA X e t' := ⟨fun pos pins s σ H Q I q => h.run pos pins s σ H Q I (k σ H Q q)⟩
section
variable {T : Tab} {K : PySem.W.Frag} {F : Hp} {W : WX} {σ : L2.St} {G G1 : Hp} {ι ι1 : List Addr} {α β γ δ : Type} {rel : Hp → List Addr → α → β → Prop} {rel2 : Hp → List Addr → γ → δ → Prop}
theorem Thn.ext {m : R α} {Q : β → Hp → Prop} (h : Thn T K F W σ G ι rel m Q) (x : Ext G ι G1 ι1) : Thn T K F W σ G1 ι1 rel m Q :=
  Runs.imp h (fun _ _ k v ι' G' H' em y r => k v ι' G' H' em (x.trans y) r) fun _ _ _ k dd ι' G' H' em y r => k dd ι' G' H' em (x.trans y) r
theorem Thn.imp {m : R α} {Q Q' : β → Hp → Prop} (h : Thn T K F W σ G ι rel m Q) (k : ∀ v H, Q v H → Q' v H) : Thn T K F W σ G ι rel m Q' :=
  Runs.imp h (fun _ _ q v ι' G' H' em y r => k v H' (q v ι' G' H' em y r)) fun _ _ _ q => q
/-- the first part of a run -/
theorem Thn.bind {m : M γ} {k : γ → M α} {S : Store} {Q : β → Hp → Prop} {Q2 : δ → Hp → Prop} (h : Thn T K F W σ G ι rel (M.bind m k S) Q)
    (go : ∀ a S1 v ι1 G1 H1, Em T K F S1 ι1 G1 H1 → Ext G ι G1 ι1 → rel2 G1 ι1 a v → Thn T K F W σ G1 ι1 rel (k a S1) Q → Q2 v H1) : Thn T K F W σ G ι rel2 (m S) Q2 := by
  unfold M.bind at h
  cases e : m S with
  | ok a S1 =>
    rw [e] at h
    exact fun v ι' G' H' em y r => go a S1 v ι' G' H' em y r (Thn.ext h y)
  | ex c fs S1 =>
    rw [e] at h
    exact h
  | no =>
    rw [e] at h
    exact h
theorem Thn.ok {a : α} {S : Store} {Q : β → Hp → Prop} (h : Thn T K F W σ G ι rel (.ok a S) Q) {H : Hp} (em : Em T K F S ι G H) {v : β} (r : rel G ι a v) : Q v H := h v ι G H em (Ext.refl _ _) r
end
/-- a partial value -/
def lift {α : Type} (o : Option α) : M α := fun S => match o with
  | some a => .ok a S
  | none => .no
theorem Thn.lift {T : Tab} {K : PySem.W.Frag} {F : Hp} {W : WX} {σ : L2.St} {G : Hp} {ι : List Addr} {α β : Type} {rel : Hp → List Addr → α → β → Prop} {o : Option α} {S : Store} {Q : β → Hp → Prop} (h : Thn T K F W σ G ι rel (J.lift o S) Q) :
    ∃ a, o = some a ∧ Thn T K F W σ G ι rel (.ok a S) Q := by
  cases o with
  | none => exact h.elim
  | some a => exact ⟨a, rfl, h⟩
/-! ### names, constants -/
def iVar (i : Nat) : IE := fun ρ => lift (ρ.getD i none)
def iC (d : D) : IE := fun _ => M.ret d
section
variable {T : Tab} {X : Cx} {W : WX}
theorem je_var (i : Nat) {x : Str} {pos : Pos} (hN : X.N[i]? = some x := by rfl) (hv : Vis X.env.scope x := by first | exact Or.inl rfl | exact Or.inr (Or.inl rfl) | exact Or.inr (Or.inr rfl))
    (hd : (x == ("__debug__" : Str)) = false := by decide) (hcd : (x == ("__classdict__" : Str)) = false := by decide) : JE T X W (.Name x pos) (iVar i) := by
  refine PE.mono (pe_var hN hv hd hcd) fun σ H Q ⟨ρ, F, S, ι, G, em, sr, h⟩ => ?_
  obtain ⟨d, e, h⟩ := Thn.lift h
  have e2 : ρ[i]? = some (some d) := by
    rw [List.getD_eq_getElem?_getD] at e
    cases q : ρ[i]? with
    | none => (rw [q] at e); exact nomatch e
    | some o => rw [q] at e; rw [show o = some d from e]
  obtain ⟨v, q, r⟩ := sr.at_ i d e2
  exact ⟨v, q, h.ok em r⟩
theorem je_c {e : Expr} {d : D} {v : V} (h : PE X e (tC v)) (r : ∀ G ι, DR T X.K G ι d v) : JE T X W e (iC d) :=
  PE.mono h fun σ H Q ⟨ρ, F, S, ι, G, em, sr, h⟩ => Thn.ok h em (r G ι)
theorem je_int {i j pos} : JE T X W (.Constant (.int i) j pos) (iC (.int i)) := je_c pe_int fun _ _ => by simp only [DR]
theorem je_bl {b j pos} : JE T X W (.Constant (.bool b) j pos) (iC (.bl b)) := je_c pe_bl fun _ _ => by simp only [DR]
theorem je_non {j pos} : JE T X W (.Constant .none j pos) (iC .non) := je_c pe_non fun _ _ => by simp only [DR]
theorem je_str {x : Str} {l : List Nat} {j pos} (h : x = ⟨l.toArray⟩ := by rfl) : JE T X W (.Constant (.str x) j pos) (iC (.str l)) := je_c pe_str fun _ _ => by simp only [DR]; rw [h]
end
/-! ### operators: no change of the store -/
abbrev Op2 := D → D → Store → Option D
def iOp (f : Op2) (ia ib : IE) : IE := fun ρ => M.bind (ia ρ) fun x => M.bind (ib ρ) fun y => fun S => lift (f x y S) S
/-- r serves f -/
def OpS (T : Tab) (K : PySem.W.Frag) (r : R2) (f : Op2) : Prop := ∀ F S ι G H x y d vx vy (Q : VK), Em T K F S ι G H → DR T K G ι x vx → DR T K G ι y vy → f x y S = some d →
  (∀ v G' H', Em T K F S ι G' H' → Ext G ι G' ι → DR T K G' ι d v → Q v H') → r vx vy H Q
theorem OpS.or {T : Tab} {K : PySem.W.Frag} {r r' : R2} {f g k : Op2} (h : OpS T K r f) (h' : OpS T K r' g) (hk : ∀ x y S d, k x y S = some d → f x y S = some d ∨ g x y S = some d) : OpS T K (fun x y H Q => r x y H Q ∨ r' x y H Q) k :=
  fun F S ι G H x y d vx vy Q em dx dy e q => (hk x y S d e).elim (fun z => .inl (h F S ι G H x y d vx vy Q em dx dy z q)) fun z => .inr (h' F S ι G H x y d vx vy Q em dx dy z q)
section
variable {T : Tab} {X : Cx} {W : WX} {a b c : Expr} {ia ib ic : IE} {pos : Pos} {r r' : R2} {f g : Op2}
theorem op_go (hf : OpS T X.K r f) {σ : L2.St} {H : Hp} {Q : VK} (h : tE T X.K W (iOp f ia ib) σ H Q) : tOp r (tE T X.K W ia) (tE T X.K W ib) σ H Q := by
  obtain ⟨ρ, F, S, ι, G, em, sr, h⟩ := h
  refine ⟨ρ, F, S, ι, G, em, sr, Thn.bind (rel2 := DR T X.K) h fun x S1 vx ι1 G1 H1 em1 x1 dx h1 => ?_⟩
  refine ⟨ρ, F, S1, ι1, G1, em1, sr.mono x1, Thn.bind (rel2 := DR T X.K) h1 fun y S2 vy ι2 G2 H2 em2 x2 dy h2 => ?_⟩
  obtain ⟨d, e, h3⟩ := Thn.lift h2
  exact hf F S2 ι2 G2 H2 x y d vx vy Q em2 (dx.mono x2.1 x2.2) dy e fun v G' H' em' x' r' => h3 v ι2 G' H' em' x' r'
theorem je_op {op : Operator} (ho : OpR X (binaryOp op) r) (hf : OpS T X.K r f) (ha : JE T X W a ia) (hb : JE T X W b ib) : JE T X W (.BinOp a op b pos) (iOp f ia ib) :=
  PE.mono (pe_op ho ha hb) fun σ H Q h => op_go hf h
theorem je_cmp {op : CmpOp} (ho : OpR X (compareOp op) r) (hf : OpS T X.K r f) (ha : JE T X W a ia) (hb : JE T X W b ib) (hm : behindInMarks op b = false) : JE T X W (.Compare a [op] [b] pos) (iOp f ia ib) :=
  PE.mono (pe_cmpR ho ha hb hm) fun σ H Q h => op_go hf h
theorem je_ix (ho : IxR X r) (hf : OpS T X.K r f) (ha : JE T X W a ia) (hb : JE T X W b ib) (hs : PlainIx b) : JE T X W (.Subscript a b pos) (iOp f ia ib) :=
  PE.mono (pe_ix ho ha hb hs) fun σ H Q h => op_go hf h
/-! ### tests -/
def isB : D → Option Bool
  | .bl b => some b
  | _ => none
/-- a bool's value as a test -/
def iTst (ie : IE) : IT := fun ρ => M.bind (ie ρ) fun d => lift (isB d)
theorem tst_go {te : TE} (h : ∀ σ H Q, tE T X.K W ia σ H Q → te σ H Q) {σ : L2.St} {H : Hp} {Q : Bool → Hp → Prop} (k : tT T X.K W (iTst ia) σ H Q) : te σ H fun x H' => ∃ c, x = .bl c ∧ Q c H' := by
  obtain ⟨ρ, F, S, ι, G, em, sr, k⟩ := k
  refine h σ H _ ⟨ρ, F, S, ι, G, em, sr, Thn.bind (rel2 := DR T X.K) k fun x S1 vx ι1 G1 H1 em1 x1 dx h1 => ?_⟩
  obtain ⟨d, e, h3⟩ := Thn.lift h1
  cases x with
  | bl q =>
    have eq : q = d := Option.some.inj e
    subst eq
    simp only [DR] at dx
    exact ⟨q, dx, h3.ok em1 rfl⟩
  | _ => cases e
theorem jt_cmp {op : CmpOp} (ho : OpR X (compareOp op) r) (hf : OpS T X.K r f) (ha : JE T X W a ia) (hb : JE T X W b ib) (hm : behindInMarks op b = false) : JT T X W (.Compare a [op] [b] pos) (iTst (iOp f ia ib)) :=
  PT.mono (pt_cmpR ho ha hb hm) fun σ H Q h => tst_go (te := tOp r (tE T X.K W ia) (tE T X.K W ib)) (fun _ _ _ h => op_go hf h) h
theorem jt_val {e : Expr} (h : JE T X W e ia) (he : ∀ whole, isTrue e X.env whole = (do let v ← whole; standAt e.pos; holding [v] (truthy v)) := by intro _; rfl) : JT T X W e (iTst ia) :=
  PT.mono (pt_val h he) fun σ H Q h => tst_go (te := tE T X.K W ia) (fun _ _ _ h => h) h
/-- a chain of two comparisons -/
def iChain (f g : Op2) (ia ib ic : IE) : IE := fun ρ => M.bind (ia ρ) fun x => M.bind (ib ρ) fun y => M.bind (fun S => lift ((f x y S).bind isB) S) fun k => if k = true then M.bind (ic ρ) fun z => fun S => lift (g y z S) S else M.ret (.bl false)
end
end J
set_option Elab.async false
set_option linter.all false
set_option maxRecDepth 100000
set_option maxHeartbeats 410000
/-! J2: and, or, not, conditional expressions, argument lists, displays, calls of built-ins, methods of built-ins -/
namespace J
open PySem PySem.Spec L2
section
variable {T : Tab} {X : Cx} {W : WX} {a b c e : Expr} {es rest : List Expr} {ia ib ic : IE} {ta tb : IT} {pos : Pos}
def iAnd (ta tb : IT) : IT := fun ρ => M.bind (ta ρ) fun c => if c = true then tb ρ else M.ret false
def iOr (ta tb : IT) : IT := fun ρ => M.bind (ta ρ) fun c => if c = true then M.ret true else tb ρ
def iNot (ta : IT) : IT := fun ρ => M.bind (ta ρ) fun c => M.ret (!c)
def iAndV (ia ib : IE) : IE := fun ρ => M.bind (ia ρ) fun x => M.bind (lift (isB x)) fun c => if c = true then ib ρ else M.ret (.bl false)
def iOrV (ia ib : IE) : IE := fun ρ => M.bind (ia ρ) fun x => M.bind (lift (isB x)) fun c => if c = true then M.ret (.bl true) else ib ρ
def iNotV (ta : IT) : IE := fun ρ => M.bind (ta ρ) fun c => M.ret (.bl (!c))
def iIf (t : IT) (ia ib : IE) : IE := fun ρ => M.bind (t ρ) fun c => if c = true then ia ρ else ib ρ
theorem jw_or1 (ha : JT T X W a ta) : JW T X W (.BoolOp .Or [a] pos) ta := pw_or1 ha
theorem jw_or (ha : JT T X W a ta) (hb : JW T X W (.BoolOp .Or (b :: rest) pos) tb) : JW T X W (.BoolOp .Or (a :: b :: rest) pos) (iOr ta tb) := by
  refine PW.mono (pw_or ha hb) fun σ H Q ⟨ρ, F, S, ι, G, em, sr, h⟩ => ?_
  refine ⟨ρ, F, S, ι, G, em, sr, Thn.bind (rel2 := fun _ _ (a b : Bool) => a = b) h fun x S1 vx ι1 G1 H1 em1 x1 dx h1 => ?_⟩
  subst dx
  cases x with
  | false => exact iteF ⟨ρ, F, S1, ι1, G1, em1, sr.mono x1, h1⟩
  | true => exact iteT (Thn.ok h1 em1 rfl)
theorem jt_w (h : JW T X W e ta) : JT T X W e ta := PW.pt h
theorem jt_not (ha : JT T X W a ta) : JT T X W (.UnaryOp .Not a pos) (iNot ta) := by
  refine PT.mono (pt_not ha) fun σ H Q ⟨ρ, F, S, ι, G, em, sr, h⟩ => ?_
  refine ⟨ρ, F, S, ι, G, em, sr, Thn.bind (rel2 := fun _ _ (a b : Bool) => a = b) h fun x S1 vx ι1 G1 H1 em1 x1 dx h1 => ?_⟩
  subst dx
  exact Thn.ok h1 em1 rfl
theorem je_one {op} (h : JE T X W a ia) : JE T X W (.BoolOp op [a] pos) ia := pe_one h
theorem je_and (ha : JE T X W a ia) (hb : JE T X W (.BoolOp .And (b :: rest) pos) ib) : JE T X W (.BoolOp .And (a :: b :: rest) pos) (iAndV ia ib) := by
  refine PE.mono (pe_and ha hb) fun σ H Q ⟨ρ, F, S, ι, G, em, sr, h⟩ => ?_
  refine ⟨ρ, F, S, ι, G, em, sr, Thn.bind (rel2 := DR T X.K) h fun x S1 vx ι1 G1 H1 em1 x1 dx h1 => ?_⟩
  cases x with
  | bl q =>
    simp only [DR] at dx
    refine ⟨q, dx, ?_⟩
    cases q with
    | true => exact iteT ⟨ρ, F, S1, ι1, G1, em1, sr.mono x1, h1⟩
    | false => exact iteF (Thn.ok h1 em1 (by simp only [DR]))
  | _ => exact h1.elim
theorem je_if (hc : JT T X W c ta) (ha : JE T X W a ia) (hb : JE T X W b ib) : JE T X W (.IfExp c a b pos) (iIf ta ia ib) := by
  refine PE.mono (pe_ifExp hc ha hb) fun σ H Q ⟨ρ, F, S, ι, G, em, sr, h⟩ => ?_
  refine ⟨ρ, F, S, ι, G, em, sr, Thn.bind (rel2 := fun _ _ (a b : Bool) => a = b) h fun x S1 vx ι1 G1 H1 em1 x1 dx h1 => ?_⟩
  subst dx
  cases x with
  | true => exact iteT ⟨ρ, F, S1, ι1, G1, em1, sr.mono x1, h1⟩
  | false => exact iteF ⟨ρ, F, S1, ι1, G1, em1, sr.mono x1, h1⟩
/-! ### argument lists -/
def iNil : IA := fun _ => M.ret []
def iCons (ia : IE) (ir : IA) : IA := fun ρ => M.bind (ia ρ) fun x => M.bind (ir ρ) fun xs => M.ret (x :: xs)
theorem ja_nil : JA T X W [] iNil := PA.mono pa_nil fun σ H Q ⟨ρ, F, S, ι, G, em, sr, h⟩ => Thn.ok h em DRs.nil
theorem cons_go {ir : IA} {σ : L2.St} {H : Hp} {Q : List V → Hp → Prop} (h : tA T X.K W (iCons ia ir) σ H Q) : tCons (tE T X.K W ia) (tA T X.K W ir) σ H Q := by
  obtain ⟨ρ, F, S, ι, G, em, sr, h⟩ := h
  refine ⟨ρ, F, S, ι, G, em, sr, Thn.bind (rel2 := DR T X.K) h fun x S1 vx ι1 G1 H1 em1 x1 dx h1 => ?_⟩
  refine ⟨ρ, F, S1, ι1, G1, em1, sr.mono x1, Thn.bind (rel2 := DRs T X.K) h1 fun y S2 vy ι2 G2 H2 em2 x2 dy h2 => ?_⟩
  exact Thn.ok h2 em2 (DRs.cons (dx.mono x2.1 x2.2) dy)
theorem ja_cons {ir : IA} (ha : JE T X W e ia) (hr : JA T X W es ir) (hs : starEach (e :: es) X.env = (false, eval e X.env) :: starEach es X.env := by rfl) : JA T X W (e :: es) (iCons ia ir) :=
  PA.mono (pa_cons ha hr hs) fun σ H Q h => cons_go h
/-! ### displays -/
def iTup (ia : IA) : IE := fun ρ => M.bind (ia ρ) fun xs => if xs.length ≤ 100000 then M.ret (.tup xs) else M.no
def iLst (ia : IA) : IE := fun ρ => M.bind (ia ρ) fun xs => if xs.length ≤ 100000 then M.ret (.lst xs) else M.no
/-- a list that will change -/
def iLstM (ia : IA) : IE := fun ρ => M.bind (ia ρ) fun xs => if xs.length ≤ 100000 then fun S => .ok (.ref S.next) (S.alloc (.lst xs)) else M.no
theorem sz_of {n : Nat} (hn : n ≤ 100000) : n ≤ sizeLine := Nat.le_trans hn (show (100000 : Nat) ≤ sizeLine by decide)
theorem je_tup {x1} {ia : IA} (h : JA T X W es ia) : JE T X W (.Tuple es x1 pos) (iTup ia) := by
  refine PE.mono (pe_tup h) fun σ H Q ⟨ρ, F, S, ι, G, em, sr, h⟩ => ?_
  refine ⟨ρ, F, S, ι, G, em, sr, Thn.bind (rel2 := DRs T X.K) h fun xs S1 vx ι1 G1 H1 em1 x1 dx h1 => ?_⟩
  by_cases hl : xs.length ≤ 100000
  · rw [if_pos hl] at h1
    refine ⟨by rw [← dx.length]; exact sz_of hl, fun p hp => ?_⟩
    obtain ⟨em2, x2⟩ := em1.frz (o := .tup vx) hp
    exact h1 _ _ _ _ em2 x2 (by simp only [DR]; exact ⟨p, vx, rfl, upd_same, dx.mono x2.1 x2.2⟩)
  · rw [if_neg hl] at h1
    exact h1.elim
theorem je_lst {ia : IA} (h : JA T X W es ia) : JE T X W (.List es pos) (iLst ia) := by
  refine PE.mono (pe_lst h) fun σ H Q ⟨ρ, F, S, ι, G, em, sr, h⟩ => ?_
  refine ⟨ρ, F, S, ι, G, em, sr, Thn.bind (rel2 := DRs T X.K) h fun xs S1 vx ι1 G1 H1 em1 x1 dx h1 => ?_⟩
  by_cases hl : xs.length ≤ 100000
  · rw [if_pos hl] at h1
    refine ⟨by rw [← dx.length]; exact sz_of hl, fun p hp => ?_⟩
    obtain ⟨em2, x2⟩ := em1.frz (o := .lst vx) hp
    exact h1 _ _ _ _ em2 x2 (by simp only [DR]; exact ⟨p, vx, rfl, upd_same, dx.mono x2.1 x2.2⟩)
  · rw [if_neg hl] at h1
    exact h1.elim
theorem je_lstM {ia : IA} (h : JA T X W es ia) : JE T X W (.List es pos) (iLstM ia) := by
  refine PE.mono (pe_lst h) fun σ H Q ⟨ρ, F, S, ι, G, em, sr, h⟩ => ?_
  refine ⟨ρ, F, S, ι, G, em, sr, Thn.bind (rel2 := DRs T X.K) h fun xs S1 vx ι1 G1 H1 em1 x1 dx h1 => ?_⟩
  by_cases hl : xs.length ≤ 100000
  · rw [if_pos hl] at h1
    refine ⟨by rw [← dx.length]; exact sz_of hl, fun p hp => ?_⟩
    obtain ⟨em2, x2, hn⟩ := em1.alloc (o := .lst xs) (u := .lst vx) hp ⟨vx, rfl, dx⟩
    exact h1 _ _ _ _ em2 x2 (by simp only [DR]; exact ⟨p, hn, rfl⟩)
  · rw [if_neg hl] at h1
    exact h1.elim
end
/-! ### calls of built-ins -/
abbrev OpN := List D → Store → Option D
def iCB (f : OpN) (ia : IA) : IE := fun ρ => M.bind (ia ρ) fun xs => fun S => lift (f xs S) S
def CaS (T : Tab) (K : PySem.W.Frag) (r : List V → Hp → VK → Prop) (f : OpN) : Prop := ∀ F S ι G H xs d vs (Q : VK), Em T K F S ι G H → DRs T K G ι xs vs → f xs S = some d →
  (∀ v G' H', Em T K F S ι G' H' → Ext G ι G' ι → DR T K G' ι d v → Q v H') → r vs H Q
theorem CaS.or {T : Tab} {K : PySem.W.Frag} {r r' : List V → Hp → VK → Prop} {f g k : OpN} (h : CaS T K r f) (h' : CaS T K r' g) (hk : ∀ x S d, k x S = some d → f x S = some d ∨ g x S = some d) : CaS T K (fun x H Q => r x H Q ∨ r' x H Q) k :=
  fun F S ι G H x d vx Q em dx e q => (hk x S d e).elim (fun z => .inl (h F S ι G H x d vx Q em dx z q)) fun z => .inr (h' F S ι G H x d vx Q em dx z q)
section
variable {T : Tab} {X : Cx} {W : WX} {a b c e : Expr} {es rest : List Expr} {ia : IA} {pos p : Pos} {r : List V → Hp → VK → Prop} {f : OpN} {id Ty : String} {x : Str}
theorem cb_go (hf : CaS T X.K r f) {σ : L2.St} {H : Hp} {Q : VK} (h : tE T X.K W (iCB f ia) σ H Q) : tCB r (tA T X.K W ia) σ H Q := by
  obtain ⟨ρ, F, S, ι, G, em, sr, h⟩ := h
  refine ⟨ρ, F, S, ι, G, em, sr, Thn.bind (rel2 := DRs T X.K) h fun x S1 vx ι1 G1 H1 em1 x1 dx h1 => ?_⟩
  obtain ⟨d, e, h3⟩ := Thn.lift h1
  exact hf F S1 ι1 G1 H1 x d vx Q em1 dx e fun v G' H' em' x' r' => h3 v ι1 G' H' em' x' r'
theorem je_callB (hc : CallR X (.builtin id) r) (hf : CaS T X.K r f) (hg : Gl X x) (hm : X.mg x = none) (hv : bootBuiltins x = some (.builtin id)) (ha : JA T X W (e :: es) ia) (hn : x ≠ "__name__" := by decide) (hdb : (x == ("__debug__" : Str)) = false := by decide)
    (he : starEach (e :: es) X.env = (false, eval e X.env) :: starEach es X.env := by rfl) (hpl : (backTo pos (starEach es X.env)).any (·.1) = false := by rfl) : JE T X W (.Call (.Name x p) (e :: es) [] pos) (iCB f ia) :=
  PE.mono (pe_callB hc hg hm hv ha hn hdb he hpl) fun σ H Q h => cb_go hf h
theorem je_callTy (hc : CallR X (.type Ty) r) (hf : CaS T X.K r f) (hg : Gl X x) (hm : X.mg x = none) (hv : bootBuiltins x = some (.type Ty)) (ha : JA T X W (e :: es) ia) (hn : x ≠ "__name__" := by decide) (hdb : (x == ("__debug__" : Str)) = false := by decide)
    (he : starEach (e :: es) X.env = (false, eval e X.env) :: starEach es X.env := by rfl) (hpl : (backTo pos (starEach es X.env)).any (·.1) = false := by rfl) : JE T X W (.Call (.Name x p) (e :: es) [] pos) (iCB f ia) :=
  PE.mono (pe_callTy hc hg hm hv ha hn hdb he hpl) fun σ H Q h => cb_go hf h
end
/-! ### methods of built-ins -/
abbrev OpM := D → List D → M D
inductive Kd where
  | s | l | d
def Kd.nm : Kd → String
  | .s => "str"
  | .l => "list"
  | .d => "dict"
def kindIs : Kd → D → Store → Bool
  | .s, .str _, _ => true
  | .l, .lst _, _ => true
  | .l, .scr _, _ => true
  | k, .ref n, S => match k, S.get n with
    | .l, some (.lst _) => true
    | .d, some (.dct _) => true
    | .d, some (.dcT _) => true
    | _, _ => false
  | _, _, _ => false
def iBM (Ty : Kd) (f : OpM) (io : IE) (ia : IA) : IE := fun ρ => M.bind (io ρ) fun x => fun S => if kindIs Ty x S = true then M.bind (ia ρ) (fun xs => f x xs) S else .no
def MtS (T : Tab) (K : PySem.W.Frag) (r : V → List V → Hp → VK → Prop) (f : OpM) : Prop := ∀ F S ι G H x xs vx vs W σ (Q : VK), Em T K F S ι G H → DR T K G ι x vx → DRs T K G ι xs vs → Thn T K F W σ G ι (DR T K) (f x xs S) Q → r vx vs H Q
theorem kind_ty {T : Tab} {K : PySem.W.Frag} {F : Hp} {S : Store} {ι : List Addr} {G H : Hp} {Ty : Kd} {x : D} {v : V} (em : Em T K F S ι G H) (h : DR T K G ι x v) (k : kindIs Ty x S = true) : tyV K Ty.nm v H := by
  cases x with
  | str l =>
    simp only [DR] at h
    subst h
    cases Ty with
    | s => exact rfl
    | _ => cases k
  | lst l =>
    simp only [DR] at h
    obtain ⟨a, vs, rfl, q, _⟩ := h
    cases Ty with
    | l => exact .inl ⟨rfl, vs, SqL.of (em.sub _ _ q)⟩
    | _ => cases k
  | scr l =>
    simp only [DR] at h
    obtain ⟨a, vs, rfl, q, _⟩ := h
    cases Ty with
    | l => exact .inl ⟨rfl, vs, Same.seq em.sub q⟩
    | _ => cases k
  | dct ks l => cases Ty <;> cases k
  | ref n =>
    simp only [DR] at h
    obtain ⟨a, ha, rfl⟩ := h
    cases e : S.get n with
    | none =>
      cases Ty <;> simp [kindIs, e] at k
    | some o =>
      obtain ⟨a', u, h1, _, _, h4, h5⟩ := em.obj n o e
      rw [ha] at h1
      cases h1
      cases o with
      | lst xs =>
        obtain ⟨vs, rfl, _⟩ := h5
        cases Ty with
        | l => exact .inl ⟨rfl, vs, SqL.of h4⟩
        | _ => simp [kindIs, e] at k
      | dct xs =>
        obtain ⟨vs, rfl, _⟩ := h5
        cases Ty with
        | d => exact .inr (.inr (.inl ⟨rfl, .inl ⟨_, h4⟩⟩))
        | _ => simp [kindIs, e] at k
      | dcT xs =>
        obtain ⟨vs, rfl, _⟩ := h5
        cases Ty with
        | d => exact .inr (.inr (.inl ⟨rfl, .inr ⟨_, h4⟩⟩))
        | _ => simp [kindIs, e] at k
      | ins c fs => cases Ty <;> simp [kindIs, e] at k
  | _ => cases Ty <;> cases k
section
variable {T : Tab} {X : Cx} {W : WX} {o e : Expr} {es : List Expr} {io : IE} {ia : IA} {name : Str} {apos cpos : Pos} {Ty : Kd} {id : String} {r : V → List V → Hp → VK → Prop} {f : OpM}
/-- few plain arguments, no keywords -/
abbrev fewA (X : Cx) (cpos : Pos) (e : Expr) (es : List Expr) : Bool := (backTo cpos (starEach (e :: es) X.env)).all (fun q => !q.1) && (backToKw cpos (keywordEach [] X.env)).all (fun q => q.1.isSome) && decide ((e :: es).length + ([] : List Keyword).length + (if ([] : List Keyword).isEmpty then 0 else 1) < 30)
theorem je_bm (pa : PlainAttrs Ty.nm) (slot : Slot Ty.nm name id) (hty : typeOf (.builtin id) = pure (.type "method_descriptor")) (hm : MtR X id r) (hf : MtS T X.K r f) (ho : JE T X W o io) (ha : JA T X W (e :: es) ia)
    (h0 : attributeBase o name X.env (eval o X.env) = eval o X.env := by rfl)
    (few : fewA X cpos e es = true := by rfl) (ln : (apos.endLine == cpos.line) = true := by rfl) (st : starEach (e :: es) X.env = (false, eval e X.env) :: starEach es X.env := by rfl) (hplain : (backTo cpos (starEach es X.env)).any (·.1) = false := by rfl) :
    JE T X W (.Call (.Attribute o name apos) (e :: es) [] cpos) (iBM Ty f io ia) := by
  refine PE.mono (pe_bm pa slot hty hm ho ha h0 few ln st hplain) fun σ H Q ⟨ρ, F, S, ι, G, em, sr, h⟩ => ?_
  refine ⟨ρ, F, S, ι, G, em, sr, Thn.bind (rel2 := DR T X.K) h fun x S1 vx ι1 G1 H1 em1 x1 dx h1 => ?_⟩
  by_cases hk : kindIs Ty x S1 = true
  · rw [if_pos hk] at h1
    refine ⟨kind_ty em1 dx hk, ρ, F, S1, ι1, G1, em1, sr.mono x1, Thn.bind (rel2 := DRs T X.K) h1 fun y S2 vy ι2 G2 H2 em2 x2 dy h2 => ?_⟩
    exact hf F S2 ι2 G2 H2 x y vx vy W σ Q em2 (dx.mono x2.1 x2.2) dy h2
  · rw [if_neg hk] at h1
    exact h1.elim
def iBM0 (Ty : Kd) (f : OpM) (io : IE) : IE := fun ρ => M.bind (io ρ) fun x => fun S => if kindIs Ty x S = true then f x [] S else .no
end
/-! ### slices -/
def cutD {α : Type} (xs : List α) (lo hi : Option Int) : List α := (xs.drop (HT.sIx xs.length 0 lo)).take (HT.sIx xs.length xs.length hi - HT.sIx xs.length 0 lo)
abbrev OpC := D → Option Int → Option Int → Store → Option D
abbrev IO := Rho → M (Option Int)
def iPart (ie : IE) : IO := fun ρ => M.bind (ie ρ) fun d => match d with
  | .int i => M.ret (some i)
  | _ => M.no
def iNoPart : IO := fun _ => M.ret none
def iSl (f : OpC) (ie : IE) (il ih : IO) : IE := fun ρ => M.bind (ie ρ) fun x => M.bind (il ρ) fun l => M.bind (ih ρ) fun u => fun S => lift (f x l u S) S
abbrev tO (T : Tab) (K : PySem.W.Frag) (W : WX) (io : IO) : TO := tG T K W (fun _ _ (a b : Option Int) => a = b) io
def SlS (T : Tab) (K : PySem.W.Frag) (r : V → Option Int → Option Int → Hp → VK → Prop) (f : OpC) : Prop := ∀ F S ι G H x l u d vx (Q : VK), Em T K F S ι G H → DR T K G ι x vx → f x l u S = some d →
  (∀ v G' H', Em T K F S ι G' H' → Ext G ι G' ι → DR T K G' ι d v → Q v H') → r vx l u H Q
theorem SlS.or {T : Tab} {K : PySem.W.Frag} {r r' : V → Option Int → Option Int → Hp → VK → Prop} {f g k : OpC} (h : SlS T K r f) (h' : SlS T K r' g) (hk : ∀ x l u S d, k x l u S = some d → f x l u S = some d ∨ g x l u S = some d) : SlS T K (fun x l u H Q => r x l u H Q ∨ r' x l u H Q) k :=
  fun F S ι G H x l u d vx Q em dx e q => (hk x l u S d e).elim (fun z => .inl (h F S ι G H x l u d vx Q em dx z q)) fun z => .inr (h' F S ι G H x l u d vx Q em dx z q)
section
variable {T : Tab} {X : Cx} {W : WX} {e : Expr} {lo hi : Option Expr} {ie : IE} {il ih : IO} {pos p2 : Pos} {r : V → Option Int → Option Int → Hp → VK → Prop} {f : OpC}
theorem jo_none : PO X none (tO T X.K W iNoPart) := ⟨fun pins s σ H Q I h => by
  obtain ⟨ρ, F, S, ι, G, em, sr, h⟩ := h
  exact po_none.run pins s σ H Q I (Thn.ok h em rfl)⟩
theorem jo_some (h : JE T X W e ie) : PO X (some e) (tO T X.K W (iPart ie)) := ⟨fun pins s σ H Q I k => by
  refine (po_some h).run pins s σ H Q I ?_
  obtain ⟨ρ, F, S, ι, G, em, sr, k⟩ := k
  refine ⟨ρ, F, S, ι, G, em, sr, Thn.bind (rel2 := DR T X.K) k fun x S1 vx ι1 G1 H1 em1 x1 dx h1 => ?_⟩
  cases x with
  | int i =>
    simp only [DR] at dx
    exact ⟨i, dx, Thn.ok h1 em1 rfl⟩
  | _ => exact h1.elim⟩
theorem je_slice (hr : SlR X r) (hf : SlS T X.K r f) (he : JE T X W e ie) (hl : PO X lo (tO T X.K W il)) (hu : PO X hi (tO T X.K W ih)) : JE T X W (.Subscript e (.Slice lo hi none p2) pos) (iSl f ie il ih) := by
  refine PE.mono (pe_slice hr he hl hu) fun σ H Q ⟨ρ, F, S, ι, G, em, sr, h⟩ => ?_
  refine ⟨ρ, F, S, ι, G, em, sr, Thn.bind (rel2 := DR T X.K) h fun x S1 vx ι1 G1 H1 em1 x1 dx h1 => ?_⟩
  refine ⟨ρ, F, S1, ι1, G1, em1, sr.mono x1, Thn.bind (rel2 := fun _ _ (a b : Option Int) => a = b) h1 fun l S2 vl ι2 G2 H2 em2 x2 dl h2 => ?_⟩
  subst dl
  refine ⟨ρ, F, S2, ι2, G2, em2, (sr.mono x1).mono x2, Thn.bind (rel2 := fun _ _ (a b : Option Int) => a = b) h2 fun u S3 vu ι3 G3 H3 em3 x3 du h3 => ?_⟩
  subst du
  obtain ⟨d, e, h4⟩ := Thn.lift h3
  exact hf F S3 ι3 G3 H3 x l u d vx Q em3 ((dx.mono x2.1 x2.2).mono x3.1 x3.2) e fun v G' H' em' x' r' => h4 v ι3 G' H' em' x' r'
end
end J
set_option Elab.async false
set_option linter.all false
set_option maxRecDepth 100000
set_option maxHeartbeats 410000
/-! J3: statements, loops, comprehensions, defs -/
namespace J
open PySem PySem.Spec L2
def ThnS (T : Tab) (K : PySem.W.Frag) (F : Hp) (W : WX) (G : Hp) (ι : List Addr) (m : R Fl) (E : Ends) : Prop := Runs m (fun fl S' => match fl with
    | .nx ρ => ∀ σ' ι' G' H', Em T K F S' ι' G' H' → Ext G ι G' ι' → SR T K G' ι' ρ σ' → E.nx σ' H'
    | .rt d => ∀ v ι' G' H', Em T K F S' ι' G' H' → Ext G ι G' ι' → DR T K G' ι' d v → E.rt v H'
    | .bk ρ => ∀ σ' ι' G' H', Em T K F S' ι' G' H' → Ext G ι G' ι' → SR T K G' ι' ρ σ' → E.bk σ' H'
    | .ct ρ => ∀ σ' ι' G' H', Em T K F S' ι' G' H' → Ext G ι G' ι' → SR T K G' ι' ρ σ' → E.ct σ' H'
    | .xx c fs ρ => ∀ dd σ' ι' G' H', Em T K F S' ι' G' H' → Ext G ι G' ι' → SR T K G' ι' ρ σ' → XR T K G' ι' fs dd → W (.ref (He.ga K (T.cn c))) dd σ' H') (fun _ _ _ => False)
def tS (T : Tab) (K : PySem.W.Frag) (W : WX) (is : IS) : TS := fun E σ H => ∃ ρ F S ι G, Em T K F S ι G H ∧ SR T K G ι ρ σ ∧ ThnS T K F W G ι (is ρ S) E
abbrev JS (T : Tab) (X : Cx) (W : WX) (st : Stmt) (is : IS) : Prop := PS X st (tS T X.K W is)
abbrev JSs (T : Tab) (X : Cx) (W : WX) (st : List Stmt) (is : IS) : Prop := PSs X st (tS T X.K W is)
theorem PS.mono {X : Cx} {e : Stmt} {t t' : TS} (h : PS X e t) (k : ∀ D σ H, t' D σ H → t D σ H) : PS X e t' := ⟨fun pins s σ H D I q => h.run pins s σ H D I (k D σ H q)⟩
theorem PSs.mono {X : Cx} {e : List Stmt} {t t' : TS} (h : PSs X e t) (k : ∀ D σ H, t' D σ H → t D σ H) : PSs X e t' := ⟨fun pins s σ H D I q => h.run pins s σ H D I (k D σ H q)⟩
/-- an expression within a statement -/
def sBind {α : Type} (m : M α) (ρ : Rho) (k : α → M Fl) : M Fl := fun S => match m S with
  | .ok a S' => k a S'
  | .ex c fs S' => .ok (.xx c fs ρ) S'
  | .no => .no
section
variable {T : Tab} {K : PySem.W.Frag} {F : Hp} {W : WX} {σ : L2.St} {G G1 : Hp} {ι ι1 : List Addr}
theorem ThnS.ext {m : R Fl} {E : Ends} (h : ThnS T K F W G ι m E) (x : Ext G ι G1 ι1) : ThnS T K F W G1 ι1 m E := by
  refine Runs.imp h (fun fl S' q => ?_) fun _ _ _ q => q
  cases fl with
  | xx c fs ρ => exact fun dd σ' ι' G' H' em y r => q dd σ' ι' G' H' em (x.trans y) r
  | _ => exact fun v ι' G' H' em y r => q v ι' G' H' em (x.trans y) r
theorem ThnS.bind {α β : Type} {rel : Hp → List Addr → α → β → Prop} {m : M α} {k : α → M Fl} {ρ : Rho} {S : Store} {E : Ends} {Q : β → Hp → Prop} (h : ThnS T K F W G ι (sBind m ρ k S) E) (sr : SR T K G ι ρ σ)
    (go : ∀ a S1 v ι1 G1 H1, Em T K F S1 ι1 G1 H1 → Ext G ι G1 ι1 → rel G1 ι1 a v → ThnS T K F W G1 ι1 (k a S1) E → Q v H1) : Thn T K F W σ G ι rel (m S) Q := by
  unfold sBind at h
  cases e : m S with
  | ok a S1 =>
    rw [e] at h
    exact fun v ι' G' H' em y r => go a S1 v ι' G' H' em y r (ThnS.ext h y)
  | ex c fs S1 =>
    rw [e] at h
    exact fun dd ι' G' H' em y r => h dd σ ι' G' H' em y (sr.mono y) r
  | no =>
    rw [e] at h
    exact h.elim
theorem ThnS.nx {ρ : Rho} {S : Store} {E : Ends} (h : ThnS T K F W G ι (.ok (.nx ρ) S) E) {H : Hp} (em : Em T K F S ι G H) (r : SR T K G ι ρ σ) : E.nx σ H := h σ ι G H em (Ext.refl _ _) r
/-- an end that wants more -/
theorem ThnS.imp {m : R Fl} {E E' : Ends} (h : ThnS T K F W G ι m E) (h1 : ∀ σ H, E.nx σ H → E'.nx σ H) (h2 : ∀ v H, E.rt v H → E'.rt v H) (h3 : ∀ σ H, E.bk σ H → E'.bk σ H) (h4 : ∀ σ H, E.ct σ H → E'.ct σ H) : ThnS T K F W G ι m E' := by
  refine Runs.imp h (fun fl S' q => ?_) fun _ _ _ q => q
  cases fl with
  | nx ρ => exact fun v ι' G' H' em y r => h1 _ _ (q v ι' G' H' em y r)
  | rt ρ => exact fun v ι' G' H' em y r => h2 _ _ (q v ι' G' H' em y r)
  | bk ρ => exact fun v ι' G' H' em y r => h3 _ _ (q v ι' G' H' em y r)
  | ct ρ => exact fun v ι' G' H' em y r => h4 _ _ (q v ι' G' H' em y r)
  | xx c fs ρ => exact q
end
def sSeq (a b : IS) : IS := fun ρ S => match a ρ S with
  | .ok (.nx ρ') S' => b ρ' S'
  | r => r
def sNext : IS := fun ρ => M.ret (.nx ρ)
def sExpr (ie : IE) : IS := fun ρ => sBind (ie ρ) ρ fun _ => M.ret (.nx ρ)
def sAsg (i : Nat) (ie : IE) : IS := fun ρ => sBind (ie ρ) ρ fun d => M.ret (.nx (ρ.set i (some d)))
def sRet (ie : IE) : IS := fun ρ => sBind (ie ρ) ρ fun d => M.ret (.rt d)
def sRetN : IS := fun _ => M.ret (.rt .non)
def sIf (t : IT) (a b : IS) : IS := fun ρ => sBind (t ρ) ρ fun c => if c = true then a ρ else b ρ
section
variable {T : Tab} {X : Cx} {W : WX} {st : Stmt} {rest : List Stmt} {is ir : IS} {e c : Expr} {ie : IE} {t : IT} {pos : Pos}
theorem jss_nil : JSs T X W [] sNext := PSs.mono pss_nil fun D σ H ⟨ρ, F, S, ι, G, em, sr, h⟩ => h.nx em sr
theorem jss_cons (h1 : JS T X W st is) (h2 : JSs T X W rest ir) : JSs T X W (st :: rest) (sSeq is ir) := by
  refine PSs.mono (pss_cons h1 h2) fun D σ H ⟨ρ, F, S, ι, G, em, sr, h⟩ => ?_
  refine ⟨ρ, F, S, ι, G, em, sr, ?_⟩
  unfold sSeq at h
  cases q : is ρ S with
  | ok fl S1 =>
    rw [q] at h
    cases fl with
    | nx ρ' => exact fun σ' ι' G' H' em' y r => ⟨ρ', F, S1, ι', G', em', r, ThnS.ext h y⟩
    | _ => exact h
  | ex _ _ _ => rw [q] at h; exact h.elim
  | no => rw [q] at h; exact h.elim
theorem jss_one (h1 : JS T X W st is) : JSs T X W [st] is := pss_one h1
theorem js_ret (he : JE T X W e ie) : JS T X W (.Return (some e) pos) (sRet ie) :=
  PS.mono (ps_ret he) fun D σ H ⟨ρ, F, S, ι, G, em, sr, h⟩ => ⟨ρ, F, S, ι, G, em, sr, ThnS.bind (rel := DR T X.K) h sr fun a S1 v ι1 G1 H1 em1 x1 r h1 => h1 v ι1 G1 H1 em1 (Ext.refl _ _) r⟩
theorem js_set {i : Nat} {x : Str} {pos' : Pos} (hN : X.N.Nodup) (hi : X.N[i]? = some x) (hx : Loc X.env.scope x) (he : JE T X W e ie) (hs : swapsWith e (some (.Name x pos')) pos.line X.env = pure false := by rfl)
    (hf : X.fn x = true ∨ X.env.scope.names.lookup x = some .local := by first | exact .inl rfl | exact .inr rfl | assumption) : JS T X W (.Assign [.Name x pos'] e pos) (sAsg i ie) :=
  PS.mono (ps_set hN hi hx he hs hf) fun D σ H ⟨ρ, F, S, ι, G, em, sr, h⟩ => ⟨ρ, F, S, ι, G, em, sr, ThnS.bind (rel := DR T X.K) h sr fun a S1 v ι1 G1 H1 em1 x1 r h1 => h1.nx em1 ((sr.mono x1).set r i)⟩
theorem js_if {a b : List Stmt} {ia ib : IS} (hc : JT T X W c t) (ha : JSs T X W a ia) (hb : JSs T X W b ib) : JS T X W (.If c a b pos) (sIf t ia ib) := by
  refine PS.mono (ps_if hc ha hb) fun D σ H ⟨ρ, F, S, ι, G, em, sr, h⟩ => ⟨ρ, F, S, ι, G, em, sr, ThnS.bind (rel := fun _ _ (a b : Bool) => a = b) h sr fun q S1 v ι1 G1 H1 em1 x1 r h1 => ?_⟩
  subst r
  cases q with
  | true => exact iteT ⟨ρ, F, S1, ι1, G1, em1, sr.mono x1, h1⟩
  | false => exact iteF ⟨ρ, F, S1, ι1, G1, em1, sr.mono x1, h1⟩
end
/-! ### targets that are names -/
inductive NG where
  | n (i : Nat) | t (is : List Nat)
def gNames : List Nat → TGs
  | [] => gNil
  | i :: is => gCons (gName i) (gNames is)
def ngV (K : PySem.W.Frag) : NG → TG
  | .n i => gName i
  | .t is => gTup K is.length (gNames is)
def nsD : List Nat → List D → Rho → Option Rho
  | [], [], ρ => some ρ
  | i :: is, d :: ds, ρ => nsD is ds (ρ.set i (some d))
  | _, _, _ => none
def ngD : NG → D → Rho → Option Rho
  | .n i, d, ρ => some (ρ.set i (some d))
  | .t is, .tup ds, ρ => nsD is ds ρ
  | .t _, _, _ => none
def NG.slots : NG → List Nat
  | .n i => [i]
  | .t is => is
theorem wipe_set {σ : L2.St} {i : Nat} {x : Option V} : ∀ {vs : List Nat}, i ∈ vs → wipe (σ.set i x) vs = wipe σ vs
  | v :: vs, h => by
    unfold wipe
    by_cases hi : i ∈ vs
    · rw [wipe_set hi]
    · have e : v = i := by
        rcases List.mem_cons.mp h with h | h
        · exact h.symm
        · exact absurd h hi
      subst e
      have key : ∀ (ws : List Nat) (τ : L2.St), v ∉ ws → wipe (τ.set v x) ws = (wipe τ ws).set v x := by
        intro ws
        induction ws with
        | nil => intro τ _; rfl
        | cons w ws ih =>
          intro τ hv
          unfold wipe
          rw [ih τ fun z => hv (List.mem_cons_of_mem _ z)]
          exact List.set_comm _ _ fun z => hv (z ▸ List.mem_cons_self)
      rw [key vs σ hi, List.set_set]
theorem ns_ok {T : Tab} {K : PySem.W.Frag} {G H : Hp} {ι : List Addr} {Q : L2.St → Hp → Prop} : ∀ {is : List Nat} {ds : List D} {vs : List V} {ρ ρ' : Rho} {σ : L2.St}, SR T K G ι ρ σ → DRs T K G ι ds vs → nsD is ds ρ = some ρ' →
    (∀ σ', SR T K G ι ρ' σ' → (∀ ws, (∀ i ∈ is, i ∈ ws) → wipe σ' ws = wipe σ ws) → Q σ' H) → gNames is vs σ H Q
  | [], [], vs, ρ, ρ', σ, sr, dr, e, k => by
    simp only [DRs] at dr
    cases e
    exact ⟨dr, k σ sr fun _ _ => rfl⟩
  | i :: is, d :: ds, vs, ρ, ρ', σ, sr, dr, e, k => by
    simp only [DRs] at dr
    obtain ⟨v, r, rfl, h1, h2⟩ := dr
    refine ⟨v, r, rfl, ns_ok (is := is) (ds := ds) (sr.set h1 i) h2 e fun σ' sr' hw => k σ' sr' fun ws hs => ?_⟩
    rw [hw ws fun j hj => hs j (List.mem_cons_of_mem _ hj)]
    exact wipe_set (hs i List.mem_cons_self)
  | [], _ :: _, _, _, _, _, _, _, e, _ => by cases e
  | _ :: _, [], _, _, _, _, _, _, e, _ => by cases e
theorem nsD_len : ∀ {is : List Nat} {ds : List D} {ρ ρ' : Rho}, nsD is ds ρ = some ρ' → is.length = ds.length
  | [], [], _, _, _ => rfl
  | i :: is, d :: ds, ρ, ρ', e => by simp [nsD_len (is := is) (ds := ds) e]
  | [], _ :: _, _, _, e => by cases e
  | _ :: _, [], _, _, e => by cases e
theorem ng_ok {T : Tab} {K : PySem.W.Frag} {F : Hp} {S : Store} {G H : Hp} {ι : List Addr} {Q : L2.St → Hp → Prop} {g : NG} {d : D} {v : V} {ρ ρ' : Rho} {σ : L2.St} (em : Em T K F S ι G H) (sr : SR T K G ι ρ σ) (dr : DR T K G ι d v) (e : ngD g d ρ = some ρ')
    (k : ∀ σ', SR T K G ι ρ' σ' → (∀ ws, (∀ i ∈ g.slots, i ∈ ws) → wipe σ' ws = wipe σ ws) → Q σ' H) : ngV K g v σ H Q := by
  cases g with
  | n i =>
    cases e
    exact k _ (sr.set dr i) fun ws hs => wipe_set (hs i (by simp [NG.slots]))
  | t is =>
    cases d with
    | tup ds =>
      simp only [DR] at dr
      obtain ⟨a, vs, rfl, h1, h2⟩ := dr
      exact ⟨a, vs, rfl, SqT.of (em.sub _ _ h1), by rw [← h2.length]; exact (nsD_len (show nsD is ds ρ = some ρ' from e)).symm, ns_ok sr h2 e k⟩
    | _ => cases e
theorem jg_name {X : Cx} {i : Nat} {x : Str} {pos : Pos} (hN : X.N.Nodup) (hi : X.N[i]? = some x) (hx : Loc X.env.scope x) (hf : X.fn x = true ∨ X.env.scope.names.lookup x = some .local := by first | exact .inl rfl | exact .inr rfl | assumption) : PG X (.Name x pos) (ngV X.K (.n i)) := pg_name hN hi hx hf
theorem jgs_nil {X : Cx} : PGs X [] (gNames []) := pgs_nil
theorem jgs_cons {X : Cx} {i : Nat} {is : List Nat} {x : Str} {pos : Pos} {es : List Expr} (hN : X.N.Nodup) (hi : X.N[i]? = some x) (hx : Loc X.env.scope x) (h2 : PGs X es (gNames is))
    (hf : X.fn x = true ∨ X.env.scope.names.lookup x = some .local := by first | exact .inl rfl | exact .inr rfl | assumption) (hs : (assignEach (.Name x pos :: es) X.env).map (·.2) = assign (.Name x pos) X.env :: (assignEach es X.env).map (·.2) := by rfl) : PGs X (.Name x pos :: es) (gNames (i :: is)) := pgs_cons (pg_name hN hi hx hf) h2 hs
theorem jg_tup {X : Cx} {es : List Expr} {k : Nat} {is : List Nat} {pos : Pos} (hc : X.calm = true) (h : PGs X es (gNames is)) (hn : (assignEach es X.env).length = is.length := by rfl) (hst : (assignEach es X.env).findIdx? (·.1) = none := by rfl) : PG X (.Tuple es k pos) (ngV X.K (.t is)) := pg_tup hc h hn hst
/-! ### what is walked -/
def Walk (T : Tab) (K : PySem.W.Frag) (ι : List Addr) (G : Hp) (J : It) (xs : List D) : Prop := ∀ (i : Nat) F S ι1 G1 H1, Em T K F S ι1 G1 H1 → Ext G ι G1 ι1 →
  (∀ x, xs[i]? = some x → J.go i H1 ∧ ∀ v H2, J.yld i H1 v H2 → ∃ G2, Em T K F S ι1 G2 H2 ∧ Ext G1 ι1 G2 ι1 ∧ DR T K G2 ι1 x v) ∧ (i = xs.length → J.stop i H1)
def tI (T : Tab) (K : PySem.W.Frag) (W : WX) (src : IA) : TI := fun σ H R => ∃ ρ F S ι G, Em T K F S ι G H ∧ SR T K G ι ρ σ ∧
  Runs (src ρ S) (fun xs S' => ∀ J ι' G' H', Em T K F S' ι' G' H' → Ext G ι G' ι' → Walk T K ι' G' J xs → R J H')
    (fun c fs S' => ∀ dd ι' G' H', Em T K F S' ι' G' H' → Ext G ι G' ι' → XR T K G' ι' fs dd → W (.ref (He.ga K (T.cn c))) dd σ H')
abbrev JI (T : Tab) (X : Cx) (W : WX) (tg iter : Expr) (src : IA) : Prop := PI X tg iter (tI T X.K W src)
theorem PI.mono {X : Cx} {tg e : Expr} {t t' : TI} (h : PI X tg e t) (k : ∀ σ H R, t' σ H R → t σ H R) : PI X tg e t' := ⟨fun pins s σ H R I q => h.run pins s σ H R I (k σ H R q)⟩
/-! ### for -/
def forL (g : NG) (body : IS) : List D → IS
  | [] => fun ρ => M.ret (.nx ρ)
  | x :: xs => fun ρ S => match ngD g x ρ with
    | some ρ1 => (match body ρ1 S with
      | .ok (.nx ρ2) S2 => forL g body xs ρ2 S2
      | .ok (.ct ρ2) S2 => forL g body xs ρ2 S2
      | .ok (.bk ρ2) S2 => .ok (.nx ρ2) S2
      | r => r)
    | none => .no
def sFor (src : IA) (g : NG) (body : IS) : IS := fun ρ => sBind (src ρ) ρ fun xs => forL g body xs ρ
section
variable {T : Tab} {X : Cx} {W : WX}
theorem js_for {tg iter : Expr} {body : List Stmt} {src : IA} {g : NG} {ib : IS} {pos : Pos} (hp : PassesOwn (model X.prog X.w) X.A X.env X.xe) (hc : X.calm = true) (hi : JI T X W tg iter src) (hg : PG X tg (ngV X.K g)) (hb : JSs T X W body ib)
    (hs : ∀ x, foldedSetIterable iter X.env x = pure x := by intro _; rfl) : JS T X W (.For tg iter body [] pos) (sFor src g ib) := by
  refine PS.mono (ps_for hp hc hi hg hb hs) fun D σ H ⟨ρ, F, S, ι, G, em, sr, h⟩ => ?_
  refine ⟨ρ, F, S, ι, G, em, sr, ?_⟩
  unfold sFor sBind at h
  cases q : src ρ S with
  | no => rw [q] at h; exact h.elim
  | ex c fs S1 =>
    rw [q] at h
    exact fun dd ι' G' H' em y r => h dd σ ι' G' H' em y (sr.mono y) r
  | ok xs S1 =>
    rw [q] at h
    intro J ι1 G1 H1 em1 x1 wk
    refine ⟨fun i m σ H => i + m = xs.length ∧ ∃ ρ S ι' G', Em T X.K F S ι' G' H ∧ Ext G1 ι1 G' ι' ∧ SR T X.K G' ι' ρ σ ∧ ThnS T X.K F W G' ι' (forL g ib (xs.drop i) ρ S) D,
      ⟨xs.length, by simp, ρ, S1, ι1, G1, em1, Ext.refl _ _, sr.mono x1, ThnS.ext h x1⟩, ?_⟩
    rintro i m σ H ⟨him, ρ, S, ι', G', em', x', sr', h'⟩
    obtain ⟨wg, ws⟩ := wk i F S ι' G' H em' x'
    by_cases hl : i = xs.length
    · left
      refine ⟨ws hl, ?_⟩
      rw [hl, List.drop_length] at h'
      exact h'.nx em' sr'
    · right
      have hlt : i < List.length xs := by omega
      obtain ⟨wgo, wy⟩ := wg xs[i] (List.getElem?_eq_getElem hlt)
      refine ⟨wgo, fun σ' H' => ∃ ρ S ι' G', Em T X.K F S ι' G' H' ∧ Ext G1 ι1 G' ι' ∧ SR T X.K G' ι' ρ σ' ∧ ThnS T X.K F W G' ι' (forL g ib (xs.drop (i + 1)) ρ S) D, fun σ' H' hN => ⟨m - 1, by omega, by omega, hN⟩, fun v H2 hy => ?_⟩
      obtain ⟨G2, em2, x2, dr⟩ := wy v H2 hy
      rw [List.drop_eq_getElem_cons hlt] at h'
      unfold forL at h'
      cases qg : ngD g xs[i] ρ with
      | none => rw [qg] at h'; exact h'.elim
      | some ρ1 =>
        rw [qg] at h'
        refine ng_ok em2 (sr'.mono x2) dr qg fun σ2 sr2 _ => ⟨ρ1, F, S, ι', G2, em2, sr2, ?_⟩
        have h2 := ThnS.ext h' x2
        dsimp only at h2
        cases qb : ib ρ1 S with
        | no => rw [qb] at h2; exact h2.elim
        | ex _ _ _ => rw [qb] at h2; exact h2.elim
        | ok fl S2 =>
          rw [qb] at h2
          cases fl with
          | nx ρ2 => exact fun σ3 ι3 G3 H3 em3 x3 sr3 => ⟨ρ2, S2, ι3, G3, em3, (x'.trans x2).trans x3, sr3, ThnS.ext h2 x3⟩
          | ct ρ2 => exact fun σ3 ι3 G3 H3 em3 x3 sr3 => ⟨ρ2, S2, ι3, G3, em3, (x'.trans x2).trans x3, sr3, ThnS.ext h2 x3⟩
          | bk ρ2 => exact fun σ3 ι3 G3 H3 em3 x3 sr3 => h2 σ3 ι3 G3 H3 em3 x3 sr3
          | rt d => exact h2
          | xx c fs ρ2 => exact h2
end
/-! ### list comprehensions -/
/-- nothing is raised here -/
def nox {α : Type} (m : M α) : M α := fun S => match m S with
  | .ex _ _ _ => .no
  | r => r
abbrev W0 : WX := fun _ _ _ _ => False
def wipeR (ρ : Rho) : List Nat → Rho
  | [] => ρ
  | v :: vs => (wipeR ρ vs).set v none
theorem SR.wipe {T : Tab} {K : PySem.W.Frag} {G : Hp} {ι : List Addr} {ρ : Rho} {σ : L2.St} (sr : SR T K G ι ρ σ) : ∀ vs : List Nat, SR T K G ι (wipeR ρ vs) (L2.wipe σ vs)
  | [] => sr
  | v :: vs => by
    have h := SR.wipe sr vs
    refine ⟨by simp [wipeR, L2.wipe, h.len], fun i d e => ?_⟩
    unfold wipeR at e
    unfold L2.wipe
    by_cases hi : v = i
    · subst hi
      rw [List.getElem?_set] at e
      split at e
      · split at e <;> cases e
      · rename_i hh; exact absurd rfl hh
    · rw [List.getElem?_set_ne hi] at e ⊢
      exact h.at_ i d e
def lcL (g : NG) (t : IT) (ie : IE) (ρ : Rho) : List D → M (List D)
  | [] => M.ret []
  | x :: xs => fun S => match ngD g x ρ with
    | some ρ1 => M.bind (nox (t ρ1)) (fun c => if c = true then M.bind (nox (ie ρ1)) fun d => M.bind (lcL g t ie ρ xs) fun r => M.ret (d :: r) else lcL g t ie ρ xs) S
    | none => .no
def iLc (src : IA) (g : NG) (t : IT) (ie : IE) (vs : List Nat) : IE := fun ρ => M.bind (src ρ) fun xs => if xs.length < 100000 then M.bind (lcL g t ie (wipeR ρ vs) xs) fun r => M.ret (.lst r) else M.no
end J
set_option Elab.async false
set_option linter.all false
set_option maxRecDepth 100000
set_option maxHeartbeats 410000
/-! J4: list comprehensions, defs, calls -/
namespace J
open PySem PySem.Spec L2
open PyProof.Rows (envOfC)
theorem Thn.nox {α β : Type} {T : Tab} {K : PySem.W.Frag} {F F' : Hp} {W : WX} {σ σ' : L2.St} {G : Hp} {ι : List Addr} {γ δ : Type} {rel : Hp → List Addr → α → β → Prop} {rel2 : Hp → List Addr → γ → δ → Prop} {m : M γ} {k : γ → M α} {S : Store} {Q : β → Hp → Prop} {Q2 : δ → Hp → Prop}
    (h : Thn T K F W σ G ι rel (M.bind (J.nox m) k S) Q)
    (go : ∀ a S1 v ι1 G1 H1, Em T K F' S1 ι1 G1 H1 → Ext G ι G1 ι1 → rel2 G1 ι1 a v → Thn T K F W σ G1 ι1 rel (k a S1) Q → Q2 v H1) : Thn T K F' W0 σ' G ι rel2 (m S) Q2 := by
  unfold M.bind J.nox at h
  cases e : m S with
  | ok a S1 =>
    rw [e] at h
    exact fun v ι' G' H' em y r => go a S1 v ι' G' H' em y r (Thn.ext h y)
  | ex c fs S1 =>
    rw [e] at h
    exact h.elim
  | no =>
    rw [e] at h
    exact h
section
variable {T : Tab} {X : Cx} {W : WX} {elt tg iter : Expr} {ifs : List Expr} {scope : Scope} {own : List (Str × Nat)} {pos spos : Pos} {src : IA} {g : NG} {t : IT} {ie : IE}
theorem M.bind_assoc {α β γ : Type} (m : M α) (k : α → M β) (l : β → M γ) : M.bind (M.bind m k) l = M.bind m fun a => M.bind (k a) l := by
  funext S
  unfold M.bind
  cases m S <;> rfl
theorem lcL_cons_some {x : D} {xs : List D} {ρ ρ1 : Rho} (q : ngD g x ρ = some ρ1) : lcL g t ie ρ (x :: xs) = M.bind (nox (t ρ1)) (fun c => if c = true then M.bind (nox (ie ρ1)) fun d => M.bind (lcL g t ie ρ xs) fun r => M.ret (d :: r) else lcL g t ie ρ xs) := by
  funext S
  conv => lhs; unfold lcL
  rw [q]
theorem lcL_cons_none {α : Type} {k : List D → M α} {x : D} {xs : List D} {ρ : Rho} {S : Store} (q : ngD g x ρ = none) : M.bind (lcL g t ie ρ (x :: xs)) k S = .no := by
  unfold M.bind lcL
  rw [q]
theorem wipe_get (σ : L2.St) (i : Nat) : ∀ vs : List Nat, (L2.wipe σ vs)[i]? = if i ∈ vs then (σ[i]?).map (fun _ => none) else σ[i]?
  | [] => by simp [L2.wipe]
  | v :: vs => by
    unfold L2.wipe
    rw [List.getElem?_set, L2.wipe_length, wipe_get σ i vs]
    by_cases hv : v = i
    · subst hv
      by_cases hl : v < σ.length
      · simp [hl]
      · simp [hl]
    · have h2 : ¬ i = v := fun z => hv z.symm
      simp [hv, h2]
theorem wipe_idem (σ : L2.St) (vs : List Nat) : L2.wipe (L2.wipe σ vs) vs = L2.wipe σ vs := by
  apply List.ext_getElem?
  intro i
  rw [wipe_get, wipe_get]
  by_cases h : i ∈ vs
  · simp only [h, if_true, Option.map_map]
    rfl
  · simp [h]
theorem lc_go {vs : List Nat} (hv : ∀ i ∈ g.slots, i ∈ vs) {σ : L2.St} {H : Hp} {Q : VK} (h : tE T X.K W (iLc src g t ie vs) σ H Q) : tLc (tI T X.K W src) (ngV X.K g) (tT T X.K W0 t) (tE T X.K W0 ie) vs σ H Q := by
  obtain ⟨ρ, F, S, ι, G, em, sr, h⟩ := h
  refine ⟨ρ, F, S, ι, G, em, sr, ?_⟩
  unfold iLc M.bind at h
  cases q : src ρ S with
  | no => rw [q] at h; exact h.elim
  | ex c fs S1 => rw [q] at h; exact h
  | ok xs S1 =>
    rw [q] at h
    dsimp only at h
    by_cases hlen : xs.length < 100000
    case neg => rw [if_neg hlen] at h; exact h.elim
    rw [if_pos hlen] at h
    intro J ι1 G1 H1 em1 x1 wk Dl hD
    have h1 : Thn T X.K F W σ G1 ι1 (DR T X.K) (M.bind (lcL g t ie (wipeR ρ vs) xs) (fun r => M.ret (.lst r)) S1) Q := Thn.ext h x1
    refine ⟨fun i m H => i + m = xs.length ∧ ∃ acc av S ι' G', Em T X.K (upd F Dl (.lst av)) S ι' G' H ∧ Ext G1 ι1 G' ι' ∧ DRs T X.K G' ι' acc av ∧ acc.length ≤ i ∧ Thn T X.K F W σ G' ι' (DR T X.K) (M.bind (lcL g t ie (wipeR ρ vs) (xs.drop i)) (fun r => M.ret (.lst (acc ++ r))) S) Q,
      ⟨xs.length, by simp, [], [], S1, ι1, G1, em1.aside hD, Ext.refl _ _, DRs.nil, Nat.le_refl _, h1⟩, ?_⟩
    rintro i m H ⟨him, acc, av, S, ι', G', em', x', da, hal, h'⟩
    obtain ⟨wg, ws⟩ := wk i _ S ι' G' H em' x'
    by_cases hl : i = xs.length
    · left
      refine ⟨ws hl, ?_⟩
      rw [hl, List.drop_length] at h'
      obtain ⟨em2, x2⟩ := em'.adopt (em1.fr.free hD)
      refine h' _ _ _ _ em2 x2 ?_
      simp only [DR]
      exact ⟨Dl, av, rfl, upd_same, by rw [List.append_nil]; exact da.mono x2.1 x2.2⟩
    · right
      have hlt : i < List.length xs := by omega
      obtain ⟨wgo, wy⟩ := wg xs[i] (List.getElem?_eq_getElem hlt)
      refine ⟨wgo, fun H => ∃ acc av S ι' G', Em T X.K (upd F Dl (.lst av)) S ι' G' H ∧ Ext G1 ι1 G' ι' ∧ DRs T X.K G' ι' acc av ∧ acc.length ≤ i + 1 ∧ Thn T X.K F W σ G' ι' (DR T X.K) (M.bind (lcL g t ie (wipeR ρ vs) (xs.drop (i + 1))) (fun r => M.ret (.lst (acc ++ r))) S) Q, fun H' hN => ⟨m - 1, by omega, by omega, hN⟩, fun v H2 hy => ?_⟩
      obtain ⟨G2, em2, x2, dr⟩ := wy v H2 hy
      rw [List.drop_eq_getElem_cons hlt] at h'
      have h2 := Thn.ext h' x2
      have sr2 : SR T X.K G2 ι' (wipeR ρ vs) (L2.wipe σ vs) := (((sr.mono x1).mono x').mono x2).wipe vs
      cases qg : ngD g xs[i] (wipeR ρ vs) with
      | none =>
        rw [lcL_cons_none qg] at h2
        exact h2.elim
      | some ρ1 =>
        have e : M.bind (lcL g t ie (wipeR ρ vs) (xs[i] :: xs.drop (i + 1))) (fun r => M.ret (D.lst (acc ++ r))) S =
            M.bind (nox (t ρ1)) (fun c => if c = true then M.bind (nox (ie ρ1)) (fun d => M.bind (lcL g t ie (wipeR ρ vs) (xs.drop (i + 1))) fun r => M.ret (D.lst ((acc ++ [d]) ++ r))) else M.bind (lcL g t ie (wipeR ρ vs) (xs.drop (i + 1))) fun r => M.ret (D.lst (acc ++ r))) S := by
          rw [lcL_cons_some qg, M.bind_assoc]
          congr 1
          funext c
          cases c with
          | false => rfl
          | true =>
            rw [if_pos rfl, if_pos rfl, M.bind_assoc]
            congr 1
            funext d
            rw [M.bind_assoc]
            congr 1
            funext r
            show M.ret (D.lst (acc ++ d :: r)) = M.ret (D.lst ((acc ++ [d]) ++ r))
            rw [List.append_assoc]
            rfl
        rw [e] at h2
        refine ng_ok em2 sr2 dr qg fun σ2 sr3 hw => ⟨(hw vs hv).trans (wipe_idem σ vs), ?_⟩
        refine ⟨ρ1, _, S, ι', G2, em2, sr3, Thn.nox (rel2 := fun _ _ (a b : Bool) => a = b) h2 fun c S3 cv ι3 G3 H3 em3 x3 dc h3 => ?_⟩
        subst dc
        cases c with
        | false =>
          refine iteF ⟨acc, av, S3, ι3, G3, em3, (x'.trans x2).trans x3, (da.mono x2.1 x2.2).mono x3.1 x3.2, Nat.le_succ_of_le hal, ?_⟩
          exact h3
        | true =>
          refine iteT ⟨ρ1, _, S3, ι3, G3, em3, sr3.mono x3, Thn.nox (rel2 := DR T X.K) h3 fun d S4 dv ι4 G4 H4 em4 x4 dd h4 => ?_⟩
          have dal : DRs T X.K G4 ι4 acc av := ((da.mono x2.1 x2.2).mono x3.1 x3.2).mono x4.1 x4.2
          refine ⟨av, em4.fr _ _ upd_same, ?_, acc ++ [d], av ++ [dv], S4, ι4, G4, em4.reaside, ((x'.trans x2).trans x3).trans x4, dal.append (DRs.cons dd DRs.nil), by simp; omega, h4⟩
          have hl2 := dal.length
          exact Nat.lt_of_lt_of_le (show av.length < 100000 by omega) (by decide)
theorem je_lc (hc : X.calm = true) (hN : X.N.Nodup) (hi : JI T X W tg iter src) (ok : BlkOk X.N X.env.scope scope own)
    (hg : ∀ (s : Shared) (H : Hp) (C : Addr) (cl : List (Str × Addr)) (fp : List Addr), PG (X.blk s H scope (compEnvC scope cl C X.env) fp) tg (ngV X.K g)) (ht : ∀ (s : Shared) (H : Hp) (C : Addr) (cl : List (Str × Addr)) (fp : List Addr), PTs (X.blk s H scope (compEnvC scope cl C X.env) fp) ifs (tT T X.K W0 t))
    (he : ∀ (s : Shared) (H : Hp) (C : Addr) (cl : List (Str × Addr)) (fp : List Addr), JE T (X.blk s H scope (compEnvC scope cl C X.env) fp) W0 elt ie) (hv : ∀ i ∈ g.slots, i ∈ own.map (·.2) := by decide) (hs : ∀ x, foldedSetIterable iter X.env x = pure x := by intro _; rfl) :
    JE T X W (.ListComp elt [⟨tg, iter, ifs, 0⟩] scope pos) (iLc src g t ie (own.map (·.2))) :=
  PE.mono (pe_lc hc hN hi ok hg ht he hs) fun σ H Q h => lc_go hv h
def iYes : IT := fun _ => M.ret true
theorem jts_nil : PTs X [] (tT T X.K W iYes) := ⟨fun pins s σ H Q I ⟨ρ, F, S, ι, G, em, sr, h⟩ => pts_nil.run pins s σ H Q I (Thn.ok h em rfl)⟩
theorem jts_one {c : Expr} (h : JT T X W c t) : PTs X [c] (tT T X.K W t) := pts_one h
end
/-! ### defs -/
def startR (n : Nat) (ds : List D) : Rho := ds.map some ++ List.replicate (n - ds.length) none
/-- a def: n slots; keep: what it made stays -/
def defJ (n : Nat) (keep : Bool) (body : IS) : List D → M D := fun ds S => match body (startR n ds) S with
  | .ok (.nx _) S' => .ok .non (if keep = true then S' else S'.trim S.next)
  | .ok (.rt d) S' => .ok d (if keep = true then S' else S'.trim S.next)
  | .ok (.xx c fs _) S' => .ex c fs (if keep = true then S' else S'.trim S.next)
  | _ => .no
def spJ (T : Tab) (K : PySem.W.Frag) (n : Nat) (f : List D → M D) : Sp := fun vs H Q E => vs.length = n ∧ ∃ ds F S ι G, Em T K F S ι G H ∧ DRs T K G ι ds vs ∧ Thn T K F (fun c d _ H => E c d H) [] G ι (DR T K) (f ds S) Q
theorem SR.start {T : Tab} {K : PySem.W.Frag} {G : Hp} {ι : List Addr} {ds : List D} {vs : List V} {N : List Str} (h : DRs T K G ι ds vs) : SR T K G ι (startR N.length ds) (L2.start N vs) := by
  have hl := h.length
  refine ⟨by simp [startR, L2.start, hl], fun i d e => ?_⟩
  unfold startR at e
  unfold L2.start
  by_cases hi : i < ds.length
  · rw [List.getElem?_append_left (by simpa using hi)] at e
    rw [List.getElem?_append_left (by simpa [← hl] using hi)]
    rw [List.getElem?_map] at e ⊢
    cases q : ds[i]? with
    | none => (rw [q] at e); exact nomatch e
    | some d' =>
      rw [q] at e
      cases e
      obtain ⟨v, e1, r⟩ := h.get q
      exact ⟨v, by rw [e1]; rfl, r⟩
  · rw [List.getElem?_append_right (by simpa using hi)] at e
    rw [List.getElem?_replicate] at e
    split at e <;> cases e
section
variable {P : Program} {w : World} {T : Tab} {K : PySem.W.Frag} {mg : Str → Option Value} {base : Heap} {x qual : Str} {params : Arguments} {body : List Stmt} {scope : Scope} {dvs : List V} {kws : List (Str × V)} {f : Addr} {fd : FuncData}
theorem fin_em {F : Hp} {S' : Store} {ι' : List Addr} {G' H' : Hp} {keep : Bool} {N : Nat} (em : Em T K F S' ι' G' H') : Em T K F (if keep = true then S' else S'.trim N) ι' G' H' := by
  cases keep with
  | true => exact em
  | false => exact em.trim N
/-- the promise of a def, called where no repr is going on -/
structure FnG (P : Program) (w : World) (K : PySem.W.Frag) (mg : Str → Option Value) (base : Heap) (k : Nat) (f : Addr) (fd : FuncData) (ps : List Str) (sp : Sp) : Prop where
  len : ∀ (vs : List V) H Q E, sp vs H Q E → vs.length = ps.length
  run : ∀ (A : Around) (fr : List Env) (s : Shared) (H : Hp) (ar : Args) (us : List Value) (vs : List V) (Q : VK) (E : XK), Room k A → A.guards = some [] →
    Env0 P w K mg base A fr s H → BindsTo s fd ar (ps.zip us) → Vals vs us → sp vs H Q E → codeAny (model P w) A (.call (.ref f) ar) (CR (L2N.CX P w) fr P w H s Q E) s
theorem FnG.mono {k j : Nat} {ps : List Str} {sp : Sp} (F : FnG P w K mg base j f fd ps sp) (h : j ≤ k) : FnG P w K mg base k f fd ps sp :=
  ⟨F.len, fun A fr s H ar us vs Q E r => F.run A fr s H ar us vs Q E (r.mono h)⟩
theorem fng_of {N ps : List Str} {k : Nat} {sp : Sp} (F : FunD K x qual params body scope dvs kws f fd) (S : FnScope N ps scope) (len : ∀ vs H Q E, sp vs H Q E → vs.length = ps.length)
    (hb : ∀ (cdv : Value) (A : Around) (fr : List Env) (s : Shared) (H : Hp) (vs : List V) (Q : VK) (E : XK), Room k (A.deeper (envOfC qual scope s.heap.objs.size f cdv)) → A.guards = some [] → sp vs H Q E →
      ∃ t, PSs (cxOf (L2N.CX P w) P w K mg base N qual scope f cdv A fr s H E) body t ∧ t { nx := fun _ H' => Q .non H', rt := Q } (L2.start N vs) H) : FnG P w K mg base (k + 1) f fd ps sp := by
  rcases F.ex with ⟨oc, od, dV, kV, doc, pm, an, cdv, ct, osl, rfl, lk, hcd, _, _⟩
  constructor
  · exact len
  intro A fr s H ar us vs Q E room gd en bd rel want
  have old : ∀ b o, base.get? b = some o → s.heap.get? b = some o := fun b o q => (en.bs b o q).1
  have KI := en.mod.kin.keeps old
  have NL := en.mod.nolimit.keeps old
  have kinds : ∀ y ∈ ps.zip us, scope.names.lookup y.1 = some .local ∨
      (scope.names.lookup y.1 = some .cell ∧ ((cellsFrom (s.heap.objs.size + 1) scope.names []).lookup y.1).isSome = true) := by
    rintro ⟨n, v⟩ hm
    rcases S.par n (List.of_mem_zip hm).1 with q | q
    · left; exact q
    · right; exact ⟨q, PySem.W.cellsFrom_some _ _ _ (.inl q)⟩
  refine codeAny_call_function room.depth (KI _ _ lk) rfl S.co S.gen rfl (PySem.W.codeRec_of KI hcd) (bd _ _ _ _ ?_)
  refine wpAny_newFunctionEnv_cells S.kind kinds ?_
  intro env henv s1 ic
  subst henv
  refine ⟨NL.keeps ic.toInCall.keep, codeAny_func ?_⟩
  obtain ⟨t, ht, hq⟩ := hb cdv A fr s H vs Q E (room.deeper _) gd want
  have I := inv_start (CX := L2N.CX P w) (E := E) S room.hd en (len _ _ _ _ want) rel ic
  refine wpAny_mono (ht.run [] s1 _ H _ I hq) ?_ (fun e s' z => z)
  intro fl s' z
  cases fl with
  | ret u => exact let ⟨v, σ', H', J, rv, q⟩ := z; ⟨v, H', J.os, J.bare, J.base, J.hok, rv, q⟩
  | next => exact let ⟨σ', H', J, q⟩ := z; ⟨V.non, H', J.os, J.bare, J.base, J.hok, rfl, q⟩
  | brk => exact let ⟨_, _, _, q⟩ := z; q.elim
  | cont => exact let ⟨_, _, _, q⟩ := z; q.elim
theorem fn_j {N ps : List Str} {k : Nat} {is : IS} (keep : Bool) (F : FunD K x qual params body scope dvs kws f fd) (S : FnScope N ps scope)
    (hb : ∀ (cdv : Value) (A : Around) (fr : List Env) (s : Shared) (H : Hp) (E : XK), Room k (A.deeper (envOfC qual scope s.heap.objs.size f cdv)) → A.guards = some [] →
      JSs T (cxOf (L2N.CX P w) P w K mg base N qual scope f cdv A fr s H E) (fun c d _ H => E c d H) body is) : FnG P w K mg base (k + 1) f fd ps (spJ T K ps.length (defJ N.length keep is)) := by
  refine fng_of F S (fun vs H Q E h => h.1) (fun cdv A fr s H vs Q E hr gd h => ⟨_, hb cdv A fr s H E hr gd, ?_⟩)
  obtain ⟨_, ds, Fr, S0, ι, G, em, dr, h⟩ := h
  refine ⟨startR N.length ds, Fr, S0, ι, G, em, SR.start dr, ?_⟩
  unfold defJ at h
  cases q : is (startR N.length ds) S0 with
  | no => rw [q] at h; exact h.elim
  | ex c fs S1 => rw [q] at h; exact h.elim
  | ok fl S1 =>
    rw [q] at h
    cases fl with
    | nx ρ => exact fun σ' ι' G' H' em' x' sr' => h .non ι' G' H' (fin_em em') x' (by simp only [DR])
    | rt d => exact fun v ι' G' H' em' x' r' => h v ι' G' H' (fin_em em') x' r'
    | xx c fs ρ => exact fun dd σ' ι' G' H' em' x' sr' xr => h dd ι' G' H' (fin_em em') x' xr
    | bk ρ => exact h.elim
    | ct ρ => exact h.elim
/-- a def of the module by its name -/
def Good (P : Program) (w : World) (T : Tab) (K : PySem.W.Frag) (mg : Str → Option Value) (base : Heap) (k : Nat) (x : Str) (ps : List Str) (sem : List D → M D) : Prop :=
  ∃ fd, FnG P w K mg base k (He.ga K x) fd ps (spJ T K ps.length sem) ∧ Binds K fd ps [] ∧ mg x = some (.ref (He.ga K x)) ∧ PySem.W.keepIn K (.ref (He.ga K x)) = true
end
/-- room and no repr going on -/
structure Rg (k : Nat) (A : Around) : Prop where
  r : Room k A
  g : A.guards = some []
theorem Rg.mono {j k : Nat} {A : Around} (r : Rg k A) (h : j ≤ k) : Rg j A := ⟨r.r.mono h, r.g⟩
section
variable {T : Tab} {X : Cx} {W : WX} {k : Nat} {f : Addr} {fd : FuncData} {ps : List Str} {sp : Sp}
/-- a def is called with values -/
theorem run_g {pins : List (Addr × Obj)} {σ : L2.St} {H : Hp} {s : Shared} {Q : VK} {ar : Args} {us : List Value} {vs : List V} (F : FnG X.prog X.w X.K X.mg X.base k f fd ps sp) (hr : Rg k X.A) (tk : L2N.Takes X W) (I : Inv X pins σ H s)
    (hb : BindsTo s fd ar (ps.zip us)) (r : Vals vs us) (h : sp vs H Q (fun c d H => W c d σ H)) : codeAny (model X.prog X.w) X.A (.call (.ref f) ar) (fun rs s' => match rs with
      | .ok (.ret u) => EP X pins σ Q u s'
      | .ok _ => False
      | .error e => X.xe e s') s := by
  refine codeAny_mono (F.run X.A X.stack s H ar us vs Q _ hr.r hr.g I.env0 hb r h) fun rs s' z => ?_
  cases rs with
  | error e => exact tk e s' (L2N.XE.of_call (W := W) I (fun _ _ _ h => h) z)
  | ok fl =>
    cases fl with
    | ret u => exact I.after z
    | _ => exact False.elim z
theorem call_g {pins : List (Addr × Obj)} {σ : L2.St} {H : Hp} {s : Shared} {Q : VK} {us : List Value} {vs : List V} (F : FnG X.prog X.w X.K X.mg X.base k f fd ps sp) (hr : Rg k X.A) (tk : L2N.Takes X W) (hb : Binds X.K fd ps []) (I : Inv X pins σ H s)
    (r : Vals vs us) (h : sp vs H Q (fun c d H => W c d σ H)) : wpAny (model X.prog X.w) X.A (call (.ref f) us) (EP X pins σ Q) X.xe s := by
  have hl : (us ++ []).length = ps.length := by rw [List.append_nil, ← r.length]; exact F.len _ _ _ _ h
  have bt := hb s us I.kIn hl
  rw [List.append_nil] at bt
  refine wpAny_call (codeAny_mono (run_g F hr tk I bt r h) fun rs s' z => ?_)
  cases rs with
  | error e => exact z
  | ok fl =>
    cases fl with
    | ret u => exact z
    | _ => exact z.elim
end
/-! ### calls of defs by name, positional -/
def iCall (n : Nat) (sem : List D → M D) (ia : IA) : IE := fun ρ => M.bind (ia ρ) fun xs => if xs.length = n then sem xs else M.no
section
variable {T : Tab} {X : Cx} {W : WX} {e : Expr} {es : List Expr} {ia : IA} {pos p : Pos} {sem : List D → M D} {x : Str} {ps : List Str} {k : Nat}
theorem Thn.slots {α β : Type} {T : Tab} {K : PySem.W.Frag} {F : Hp} {W W' : WX} {σ σ' : L2.St} {G : Hp} {ι : List Addr} {rel : Hp → List Addr → α → β → Prop} {m : R α} {Q : β → Hp → Prop} (h : Thn T K F W σ G ι rel m Q) (k : ∀ c d H, W c d σ H → W' c d σ' H) : Thn T K F W' σ' G ι rel m Q :=
  Runs.imp h (fun _ _ q => q) fun _ _ _ q dd ι' G' H' em y r => k _ _ _ (q dd ι' G' H' em y r)
/-- f(e, ..) -/
theorem je_call (g : Good X.prog X.w T X.K X.mg X.base k x ps sem) (hr : Rg k X.A) (hg : Gl X x) (tk : L2N.Takes X W) (ha : JA T X W (e :: es) ia) (hdb : (x == ("__debug__" : Str)) = false := by decide)
    (he : starEach (e :: es) X.env = (false, eval e X.env) :: starEach es X.env := by rfl) (hpl : (backTo pos (starEach es X.env)).any (·.1) = false := by rfl) : JE T X W (.Call (.Name x p) (e :: es) [] pos) (iCall ps.length sem ia) := by
  obtain ⟨fd, Fg, b, m, kp⟩ := g
  constructor; intro pins s σ H Q I hq
  have key : tA T X.K W ia σ H fun vs H1 => spJ T X.K ps.length sem vs H1 Q fun c d H => W c d σ H := by
    obtain ⟨ρ, F, S, ι, G, em, sr, h⟩ := hq
    refine ⟨ρ, F, S, ι, G, em, sr, Thn.bind (rel2 := DRs T X.K) h fun xs S1 vs ι1 G1 H1 em1 x1 dr h1 => ?_⟩
    by_cases hl : xs.length = ps.length
    · rw [if_pos hl] at h1
      exact ⟨dr.length.symm.trans hl, xs, F, S1, ι1, G1, em1, dr, h1.slots fun _ _ _ z => z⟩
    · rw [if_neg hl] at h1
      exact h1.elim
  refine wpAny_Call_Name_kw (ld_glob I hg m ?_ hdb)
  refine PySem.W.callWith_K (h₀ := X.base) I.ok.mod.kin kp (thn (ha.run pos pins s σ H _ I key) ?_) he hpl
  rintro us s1 ⟨vs, H1, I1, r, q⟩
  exact ⟨I1.kIn, call_g Fg hr tk b I1 r q⟩
end
end J
set_option Elab.async false
set_option linter.all false
set_option maxRecDepth 100000
set_option maxHeartbeats 410000
/-! J5: operators, comparisons, subscripts, slices -/
namespace J
open PySem PySem.Spec L2
/-- one or the other -/
def op2 (f g : Op2) : Op2 := fun x y S => (f x y S).or (g x y S)
theorem or_some {α : Type} {a b : Option α} {d : α} (h : a.or b = some d) : a = some d ∨ b = some d := by
  cases a with
  | none => right; simpa using h
  | some x => left; simpa using h
theorem OpS.or2 {T : Tab} {K : PySem.W.Frag} {r r' : R2} {f g : Op2} (h : OpS T K r f) (h' : OpS T K r' g) : OpS T K (fun x y H Q => r x y H Q ∨ r' x y H Q) (op2 f g) := h.or h' fun _ _ _ _ e => or_some e
/-- what stands in a list: a tree or an object of the store -/
def seqL : D → Store → Option (List D)
  | .lst xs, _ => some xs
  | .ref n, S => match S.get n with
    | some (.lst xs) => some xs
    | _ => none
  | _, _ => none
/-- .. or the script -/
def seqR : D → Store → Option (List D)
  | .scr xs, _ => some xs
  | x, S => seqL x S
def seqT : D → Option (List D)
  | .tup xs => some xs
  | _ => none
section
variable {T : Tab} {K : PySem.W.Frag} {F : Hp} {S : Store} {ι : List Addr} {G H : Hp} {x : D} {v : V} {xs : List D}
theorem seqL_ok (em : Em T K F S ι G H) (h : DR T K G ι x v) (e : seqL x S = some xs) : ∃ a vs, v = .ref a ∧ H a = some (.lst vs) ∧ DRs T K G ι xs vs := by
  cases x with
  | lst l =>
    cases e
    simp only [DR] at h
    obtain ⟨a, vs, rfl, q, r⟩ := h
    exact ⟨a, vs, rfl, em.sub _ _ q, r⟩
  | ref n =>
    simp only [DR] at h
    obtain ⟨a, ha, rfl⟩ := h
    simp only [seqL] at e
    cases q : S.get n with
    | none => (rw [q] at e); exact nomatch e
    | some o =>
      rw [q] at e
      cases o with
      | lst l =>
        cases e
        obtain ⟨a', u, h1, _, _, h4, vs, rfl, h5⟩ := em.obj n _ q
        rw [ha] at h1
        cases h1
        exact ⟨a, vs, rfl, h4, h5⟩
      | _ => cases e
  | _ => cases e
theorem seqR_ok (em : Em T K F S ι G H) (h : DR T K G ι x v) (e : seqR x S = some xs) : ∃ a vs, v = .ref a ∧ SqL K H a vs ∧ DRs T K G ι xs vs := by
  cases x with
  | scr l =>
    cases e
    simp only [DR] at h
    obtain ⟨a, vs, rfl, q, r⟩ := h
    exact ⟨a, vs, rfl, Same.seq em.sub q, r⟩
  | lst l =>
    obtain ⟨a, vs, e1, e2, e3⟩ := seqL_ok em h e
    exact ⟨a, vs, e1, SqL.of e2, e3⟩
  | ref n =>
    obtain ⟨a, vs, e1, e2, e3⟩ := seqL_ok em h e
    exact ⟨a, vs, e1, SqL.of e2, e3⟩
  | _ => cases e
theorem seqT_ok (em : Em T K F S ι G H) (h : DR T K G ι x v) (e : seqT x = some xs) : ∃ a vs, v = .ref a ∧ H a = some (.tup vs) ∧ DRs T K G ι xs vs := by
  cases x with
  | tup l =>
    cases e
    simp only [DR] at h
    obtain ⟨a, vs, rfl, q, r⟩ := h
    exact ⟨a, vs, rfl, em.sub _ _ q, r⟩
  | _ => cases e
end
/-! ### ints -/
def opI (C : Int → Int → Bool) (g : Int → Int → D) : Op2
  | .int i, .int j, _ => if C i j = true then some (g i j) else none
  | _, _, _ => none
theorem opI_ok {T : Tab} {K : PySem.W.Frag} {C : Int → Int → Bool} {C' : Int → Int → Prop} {g : Int → Int → D} {g' : Int → Int → V} (hC : ∀ i j, C i j = true → C' i j) (hg : ∀ G ι i j, DR T K G ι (g i j) (g' i j)) : OpS T K (rI C' g') (opI C g) := by
  intro F S ι G H x y d vx vy Q em dx dy e q
  unfold opI at e
  split at e
  · simp only [DR] at dx dy
    split at e
    · rename_i hc
      cases e
      exact ⟨_, _, dx, dy, hC _ _ hc, q _ G H em (Ext.refl _ _) (hg _ _ _ _)⟩
    · cases e
  · cases e
def opI0 (g : Int → Int → D) : Op2
  | .int i, .int j, _ => some (g i j)
  | _, _, _ => none
theorem opI0_ok {T : Tab} {K : PySem.W.Frag} {g : Int → Int → D} {g' : Int → Int → V} (hg : ∀ G ι i j, DR T K G ι (g i j) (g' i j)) : OpS T K (rI0 g') (opI0 g) := by
  intro F S ι G H x y d vx vy Q em dx dy e q
  unfold opI0 at e
  split at e
  · simp only [DR] at dx dy
    cases e
    exact ⟨_, _, dx, dy, q _ G H em (Ext.refl _ _) (hg _ _ _ _)⟩
  · cases e
def addI : Op2 := opI0 fun i j => .int (i + j)
def subI : Op2 := opI0 fun i j => .int (i - j)
def mulI : Op2 := opI (fun i j => decide (-(2 ^ 64) < i ∧ i < 2 ^ 64) || decide (-(2 ^ 64) < j ∧ j < 2 ^ 64)) fun i j => .int (i * j)
def fdivI : Op2 := opI (fun _ j => decide (0 < j ∧ j < 1073741824)) fun i j => .int (i / j)
def modI : Op2 := opI (fun _ j => decide (0 < j)) fun i j => .int (i % j)
def powI : Op2 := opI (fun i j => decide (0 ≤ j ∧ j ≤ 1000) && decide (-(2 ^ 32) < i ∧ i < 2 ^ 32)) fun i j => .int (i ^ j.toNat)
def ltI : Op2 := opI0 fun i j => .bl (decide (i < j))
def leI : Op2 := opI0 fun i j => .bl (decide (i ≤ j))
def gtI : Op2 := opI0 fun i j => .bl (decide (j < i))
def geI : Op2 := opI0 fun i j => .bl (decide (j ≤ i))
section
variable {T : Tab} {K : PySem.W.Frag}
theorem addI_ok : OpS T K (rI0 fun i j => .int (i + j)) addI := opI0_ok fun _ _ _ _ => by simp only [DR]
theorem mulI_ok : OpS T K (rI CMul fun i j => .int (i * j)) mulI := opI_ok (fun i j h => by simpa [CMul] using h) fun _ _ _ _ => by simp only [DR]
theorem fdivI_ok : OpS T K (rI CDiv fun i j => .int (i / j)) fdivI := opI_ok (fun i j h => by simpa [CDiv] using h) fun _ _ _ _ => by simp only [DR]
theorem modI_ok : OpS T K (rI (fun _ j => 0 < j) fun i j => .int (i % j)) modI := opI_ok (fun i j h => by simpa using h) fun _ _ _ _ => by simp only [DR]
theorem powI_ok : OpS T K (rI CPow fun i j => .int (i ^ j.toNat)) powI := opI_ok (fun i j h => by
  simp only [decide_eq_true_eq, Bool.and_eq_true] at h
  exact ⟨h.1.1, by omega, by omega⟩) fun _ _ _ _ => by simp only [DR]
theorem ltI_ok : OpS T K (rI0 fun i j => .bl (decide (i < j))) ltI := opI0_ok fun _ _ _ _ => by simp only [DR]
theorem gtI_ok : OpS T K (rI0 fun i j => .bl (decide (j < i))) gtI := opI0_ok fun _ _ _ _ => by simp only [DR]
theorem geI_ok : OpS T K (rI0 fun i j => .bl (decide (j ≤ i))) geI := opI0_ok fun _ _ _ _ => by simp only [DR]
/-! ### texts, lists -/
theorem str_app (a b : List Nat) : (⟨a.toArray⟩ : Str) ++ ⟨b.toArray⟩ = ⟨(a ++ b).toArray⟩ := TL.ext_tl (by rw [TL.tl_append])
theorem str_len (a : List Nat) : (⟨a.toArray⟩ : Str).length = a.length := by simp [Str.length]
def addS : Op2
  | .str a, .str b, _ => if a.length + b.length ≤ 100000 then some (.str (a ++ b)) else none
  | _, _, _ => none
theorem addS_ok : OpS T K (fun x y H Q => ∃ i j, x = .str i ∧ y = .str j ∧ i.length + j.length ≤ sizeLine ∧ Q (.str (i ++ j)) H) addS := by
  intro F S ι G H x y d vx vy Q em dx dy e q
  unfold addS at e
  split at e
  · simp only [DR] at dx dy
    split at e
    · rename_i a b _ hc
      cases e
      refine ⟨_, _, dx, dy, by rw [str_len, str_len]; exact sz_of hc, q _ G H em (Ext.refl _ _) ?_⟩
      simp only [DR]
      rw [str_app]
    · cases e
  · cases e
def addL : Op2 := fun x y S => match seqL x S, seqL y S with
  | some xs, some ys => if xs.length + ys.length ≤ 100000 then some (.lst (xs ++ ys)) else none
  | _, _ => none
theorem addL_ok : OpS T K rCat addL := by
  intro F S ι G H x y d vx vy Q em dx dy e q
  unfold addL at e
  split at e
  · rename_i xs ys ex ey
    split at e
    · rename_i hc
      cases e
      obtain ⟨a, va, rfl, ha, ra⟩ := seqL_ok em dx ex
      obtain ⟨b, vb, rfl, hb, rb⟩ := seqL_ok em dy ey
      refine ⟨a, b, va, vb, rfl, rfl, ha, hb, by rw [← ra.length, ← rb.length]; exact sz_of hc, fun p hp => ?_⟩
      obtain ⟨em2, x2⟩ := em.frz (o := .lst (va ++ vb)) hp
      refine q _ _ _ em2 x2 ?_
      simp only [DR]
      exact ⟨p, _, rfl, upd_same, (ra.mono x2.1 x2.2).append (rb.mono x2.1 x2.2)⟩
    · cases e
  · cases e
/-! ### subscripts -/
def ixL : Op2 := fun x y S => match seqR x S, y with
  | some xs, .int i => atI xs i
  | _, _ => none
def ixT : Op2
  | .tup xs, .int i, _ => atI xs i
  | _, _, _ => none
def ixS : Op2
  | .str a, .int i, _ => if a.length ≤ 100000 then (atI a i).map fun c => .str [c] else none
  | _, _, _ => none
theorem atI_dr {G : Hp} {ι : List Addr} {ds : List D} {vs : List V} {i : Int} {d : D} (h : DRs T K G ι ds vs) (e : atI ds i = some d) : ∃ v, atI vs i = some v ∧ DR T K G ι d v := by
  unfold atI at e ⊢
  rw [← h.length]
  cases q : ixN ds.length i with
  | none => (rw [q] at e); exact nomatch e
  | some j =>
    rw [q] at e
    exact h.get e
theorem ixL_ok : OpS T K (rIxL K) ixL := by
  intro F S ι G H x y d vx vy Q em dx dy e q
  unfold ixL at e
  split at e
  · rename_i xs i ex
    simp only [DR] at dy
    obtain ⟨a, va, rfl, ha, ra⟩ := seqR_ok em dx ex
    obtain ⟨v, e2, r⟩ := atI_dr ra e
    exact ⟨a, va, i, v, rfl, dy, ha, e2, q _ G H em (Ext.refl _ _) r⟩
  · cases e
theorem ixT_ok : OpS T K (rIxT K) ixT := by
  intro F S ι G H x y d vx vy Q em dx dy e q
  unfold ixT at e
  split at e
  · simp only [DR] at dx dy
    obtain ⟨a, va, rfl, ha, ra⟩ := dx
    obtain ⟨v, e2, r⟩ := atI_dr ra e
    exact ⟨a, va, _, v, rfl, dy, SqT.of (em.sub _ _ ha), e2, q _ G H em (Ext.refl _ _) r⟩
  · cases e
theorem ixS_ok : OpS T K rIxS ixS := by
  intro F S ι G H x y d vx vy Q em dx dy e q
  unfold ixS at e
  split at e
  · simp only [DR] at dx dy
    split at e
    · rename_i _ a i hl
      cases e2 : atI a i with
      | none => rw [e2] at e; cases e
      | some c =>
        rw [e2] at e
        cases e
        refine ⟨_, i, c, dx, dy, by rw [str_len]; exact sz_of hl, e2, q _ G H em (Ext.refl _ _) ?_⟩
        simp only [DR]
    · cases e
  · cases e
def ixD : Op2 := op2 ixL (op2 ixT ixS)
theorem ixD_ok : OpS T K (rIx K) ixD := ixL_ok.or2 (ixT_ok.or2 ixS_ok)
/-! ### slices -/
def slL : OpC := fun x l u S => match seqR x S with
  | some xs => some (.lst (cutD xs l u))
  | none => none
def slS : OpC
  | .str a, l, u, _ => if a.length ≤ 100000 then some (.str (cutD a l u)) else none
  | _, _, _, _ => none
def slT : OpC
  | .tup xs, l, u, _ => some (.tup (cutD xs l u))
  | _, _, _, _ => none
theorem cutD_dr {G : Hp} {ι : List Addr} {ds : List D} {vs : List V} {l u : Option Int} (h : DRs T K G ι ds vs) : DRs T K G ι (cutD ds l u) (cutV vs l u) := by
  unfold cutD cutV
  rw [← h.length]
  exact (h.drop _).take _
theorem slL_ok : SlS T K (rSlL K) slL := by
  intro F S ι G H x l u d vx Q em dx e q
  unfold slL at e
  split at e
  · rename_i xs ex
    cases e
    obtain ⟨a, va, rfl, ha, ra⟩ := seqR_ok em dx ex
    refine ⟨a, va, rfl, ha, fun p hp => ?_⟩
    obtain ⟨em2, x2⟩ := em.frz (o := .lst (cutV va l u)) hp
    refine q _ _ _ em2 x2 ?_
    simp only [DR]
    exact ⟨p, _, rfl, upd_same, cutD_dr (ra.mono x2.1 x2.2)⟩
  · cases e
theorem slS_ok : SlS T K rSlS slS := by
  intro F S ι G H x l u d vx Q em dx e q
  unfold slS at e
  split at e
  · split at e
    · rename_i hl
      cases e
      simp only [DR] at dx
      refine ⟨_, dx, by rw [str_len]; exact sz_of hl, q _ G H em (Ext.refl _ _) ?_⟩
      simp only [DR, cutS, cutD, str_len]
    · cases e
  · cases e
theorem slT_ok : SlS T K (rSlA K) slT := by
  intro F S ι G H x l u d vx Q em dx e q
  unfold slT at e
  split at e
  · rename_i xs
    cases e
    simp only [DR] at dx
    obtain ⟨a, va, rfl, ha, ra⟩ := dx
    refine ⟨a, va, rfl, SqT.of (em.sub _ _ ha), fun hw => q _ G H em (Ext.refl _ _) ?_, fun hw p hp => ?_⟩
    · simp only [DR]
      refine ⟨a, va, rfl, ha, ?_⟩
      have e : cutD xs l u = xs := by
        unfold cutD
        rw [ra.length, hw.1, hw.2, List.drop_zero, Nat.sub_zero, ← ra.length, List.take_length]
      rw [e]
      exact ra
    · obtain ⟨em2, x2⟩ := em.frz (o := .tup (cutV va l u)) hp
      refine q _ _ _ em2 x2 ?_
      simp only [DR]
      exact ⟨p, _, rfl, upd_same, cutD_dr (ra.mono x2.1 x2.2)⟩
  · cases e
def opc2 (f g : OpC) : OpC := fun x l u S => (f x l u S).or (g x l u S)
theorem SlS.or2 {r r' : V → Option Int → Option Int → Hp → VK → Prop} {f g : OpC} (h : SlS T K r f) (h' : SlS T K r' g) : SlS T K (fun x l u H Q => r x l u H Q ∨ r' x l u H Q) (opc2 f g) := h.or h' fun _ _ _ _ _ e => or_some e
def slD : OpC := opc2 slL (opc2 slS slT)
theorem slD_ok : SlS T K (fun x l u H Q => rSlL K x l u H Q ∨ (rSlS x l u H Q ∨ rSlA K x l u H Q)) slD := slL_ok.or2 (slS_ok.or2 slT_ok)
def addT : Op2
  | .tup xs, .tup ys, _ => if xs.length + ys.length ≤ 100000 then some (.tup (xs ++ ys)) else none
  | _, _, _ => none
theorem addT_ok : OpS T K (rCatA K) addT := by
  intro F S ι G H x y d vx vy Q em dx dy e q
  unfold addT at e
  split at e
  · split at e
    · rename_i _ xs ys hc
      cases e
      simp only [DR] at dx dy
      obtain ⟨a, va, rfl, ha, ra⟩ := dx
      obtain ⟨b, vb, rfl, hb, rb⟩ := dy
      refine ⟨a, b, va, vb, rfl, rfl, SqT.of (em.sub _ _ ha), SqT.of (em.sub _ _ hb), by rw [← ra.length, ← rb.length]; exact sz_of hc, fun h0 => ?_, fun _ h0 => ?_, fun _ _ p hp => ?_⟩
      · subst h0
        have ex : xs = [] := List.eq_nil_of_length_eq_zero ra.length
        refine q _ G H em (Ext.refl _ _) ?_
        simp only [DR, ex, List.nil_append]
        exact ⟨b, vb, rfl, hb, rb⟩
      · subst h0
        have ex : ys = [] := List.eq_nil_of_length_eq_zero rb.length
        refine q _ G H em (Ext.refl _ _) ?_
        simp only [DR, ex, List.append_nil]
        exact ⟨a, va, rfl, ha, ra⟩
      · obtain ⟨em2, x2⟩ := em.frz (o := .tup (va ++ vb)) hp
        refine q _ _ _ em2 x2 ?_
        simp only [DR]
        exact ⟨p, _, rfl, upd_same, (ra.mono x2.1 x2.2).append (rb.mono x2.1 x2.2)⟩
    · cases e
  · cases e
def addD : Op2 := op2 addI (op2 addS (op2 addL addT))
theorem addD_ok : OpS T K (fun x y H Q => (rI0 fun i j => .int (i + j)) x y H Q ∨ ((∃ i j, x = .str i ∧ y = .str j ∧ i.length + j.length ≤ sizeLine ∧ Q (.str (i ++ j)) H) ∨ (rCat x y H Q ∨ rCatA K x y H Q))) addD := addI_ok.or2 (addS_ok.or2 (addL_ok.or2 addT_ok))
end
theorem op_addD {X : Cx} : OpR X (binaryOp .Add) (fun x y H Q => (rI0 fun i j => .int (i + j)) x y H Q ∨ ((∃ i j, x = .str i ∧ y = .str j ∧ i.length + j.length ≤ sizeLine ∧ Q (.str (i ++ j)) H) ∨ (rCat x y H Q ∨ rCatA X.K x y H Q))) := OpR.or op_add (OpR.or op_add_str (OpR.or op_cat op_catA))
theorem sl_D {X : Cx} : SlR X (fun x l u H Q => rSlL X.K x l u H Q ∨ (rSlS x l u H Q ∨ rSlA X.K x l u H Q)) := SlR.or sl_list (SlR.or sl_str sl_tupA)
/-! ### products of texts and lists -/
def repS (a : List Nat) (n : Nat) : List Nat := (List.replicate n a).flatten
theorem fold_rep (a : List Nat) : ∀ (n : Nat) (acc : Array Nat), ((List.replicate n a.toArray).foldl (· ++ ·) acc) = acc ++ (repS a n).toArray
  | 0, acc => by simp [repS]
  | n + 1, acc => by
    rw [List.replicate_succ, List.foldl_cons, fold_rep a n]
    simp [repS, List.replicate_succ]
def rMulS : R2 := fun x y H Q => ∃ (a : List Nat) (n : Int), x = .str ⟨a.toArray⟩ ∧ y = .int n ∧ 0 ≤ n ∧ n ≤ 1000 ∧ a.length ≤ 1000 ∧ Q (.str ⟨(repS a n.toNat).toArray⟩) H
theorem op_mulS {X : Cx} : OpR X (binaryOp .Mult) rMulS := by
  rintro pins s σ H x y v u Q I rx ry h
  obtain ⟨a, n, rfl, rfl, h0, h1, hl, q⟩ := h
  obtain ⟨t, rfl⟩ := rx
  obtain ⟨t', rfl⟩ := ry
  refine PySem.P.mul_str (by rw [decide_eq_false (by omega), decide_eq_false (by omega)]; rfl) (fun h2 _ => ?_) (fun h2 _ => ?_) ?_
  · rw [str_len]
    have : (2 ^ 63 - 1 : Int) / n ≥ (2 ^ 63 - 1) / 1000 := by
      apply Int.le_ediv_of_mul_le (by omega)
      have : (2 ^ 63 - 1 : Int) / 1000 * n ≤ (2 ^ 63 - 1) / 1000 * 1000 := Int.mul_le_mul_of_nonneg_left h1 (by decide)
      have e : ((2 ^ 63 - 1 : Int) / 1000 * 1000) ≤ 2 ^ 63 - 1 := by decide
      omega
    have e2 : ((2 ^ 63 - 1 : Int) / 1000) = 9223372036854775 := by decide
    omega
  · rw [str_len]
    unfold Builtin.Str.tooLong
    have : a.length * n.toNat ≤ 1000 * 1000 := Nat.mul_le_mul hl (by omega)
    rw [decide_eq_false_iff_not]
    have hz : (1000000 : Nat) ≤ sizeLine := by decide
    omega
  · have key : ∀ t'' k, EP X pins σ Q (.str ⟨(repS a n.toNat).toArray⟩ t'') { s with toks := k } := fun t'' k => ⟨.str _, H, I.tok k, ⟨_, rfl⟩, q⟩
    by_cases hn : n < 1
    · rw [if_pos hn]
      have e : Int.toNat n = 0 := by omega
      rw [e] at key
      exact ⟨by decide, key _ _⟩
    · rw [if_neg hn]
      by_cases h2 : (n == 1 || (⟨a.toArray⟩ : Str).length == 0) = true
      · rw [if_pos h2]
        have e : repS a n.toNat = a := by
          rcases Bool.or_eq_true_iff.mp h2 with z | z
          · have z' : n = 1 := eq_of_beq z
            subst z'
            simp [repS]
          · have z' : a.length = 0 := by
              rw [str_len] at z
              exact eq_of_beq z
            have z2 : a = [] := List.eq_nil_of_length_eq_zero z'
            subst z2
            simp [repS]
        rw [e] at key
        exact key _ _
      · rw [if_neg h2]
        have e : (⟨(List.replicate n.toNat (⟨a.toArray⟩ : Str).cps).foldl (· ++ ·) #[]⟩ : Str) = ⟨(repS a n.toNat).toArray⟩ := by
          show (⟨(List.replicate n.toNat a.toArray).foldl (· ++ ·) #[]⟩ : Str) = _
          rw [fold_rep]
          simp
        rw [e]
        refine ⟨?_, key _ _⟩
        show (⟨(repS a n.toNat).toArray⟩ : Str).length ≤ sizeLine
        rw [str_len]
        have hl2 : (repS a n.toNat).length = n.toNat * a.length := by simp [repS]
        have : n.toNat * a.length ≤ 1000 * 1000 := Nat.mul_le_mul (by omega) hl
        have hz : (1000000 : Nat) ≤ sizeLine := by decide
        omega
def mulS : Op2
  | .str a, .int n, _ => if 0 ≤ n ∧ n ≤ 1000 ∧ a.length ≤ 1000 then some (.str (repS a n.toNat)) else none
  | _, _, _ => none
def repD (xs : List D) (n : Nat) : List D := (List.replicate n xs).flatten
def mulL : Op2 := fun x y S => match seqL x S, y with
  | some xs, .int n => if 0 ≤ n ∧ n ≤ 1000 ∧ xs.length ≤ 1000 then some (.lst (repD xs n.toNat)) else none
  | _, _ => none
section
variable {T : Tab} {K : PySem.W.Frag}
theorem mulS_ok : OpS T K rMulS mulS := by
  intro F S ι G H x y d vx vy Q em dx dy e q
  unfold mulS at e
  split at e
  · split at e
    · rename_i hc
      cases e
      simp only [DR] at dx dy
      exact ⟨_, _, dx, dy, hc.1, hc.2.1, hc.2.2, q _ G H em (Ext.refl _ _) (by simp only [DR])⟩
    · cases e
  · cases e
theorem repD_dr {G : Hp} {ι : List Addr} {ds : List D} {vs : List V} (h : DRs T K G ι ds vs) : ∀ n, DRs T K G ι (repD ds n) (List.replicate n vs).flatten
  | 0 => by simpa [repD] using DRs.nil
  | n + 1 => by
    have := repD_dr h n
    unfold repD at this ⊢
    simp only [List.replicate_succ, List.flatten_cons]
    exact h.append this
theorem mulL_ok : OpS T K rRep mulL := by
  intro F S ι G H x y d vx vy Q em dx dy e q
  unfold mulL at e
  split at e
  · split at e
    · rename_i xs n ex hc
      cases e
      simp only [DR] at dy
      obtain ⟨a, va, rfl, ha, ra⟩ := seqL_ok em dx ex
      refine ⟨a, n, va, rfl, dy, ha, by omega, by omega, ?_, fun p hp => ?_⟩
      · rw [← ra.length]
        have : xs.length * n.toNat ≤ 1000 * 1000 := Nat.mul_le_mul hc.2.2 (by omega)
        have hz : (1000000 : Nat) ≤ sizeLine := by decide
        omega
      · obtain ⟨em2, x2⟩ := em.frz (o := .lst (List.replicate n.toNat va).flatten) hp
        refine q _ _ _ em2 x2 ?_
        simp only [DR]
        exact ⟨p, _, rfl, upd_same, repD_dr (ra.mono x2.1 x2.2) _⟩
    · cases e
  · cases e
def mulD : Op2 := op2 mulI (op2 mulS mulL)
theorem mulD_ok : OpS T K (fun x y H Q => (rI CMul fun i j => .int (i * j)) x y H Q ∨ (rMulS x y H Q ∨ rRep x y H Q)) mulD := mulI_ok.or2 (mulS_ok.or2 mulL_ok)
end
theorem op_mulD {X : Cx} : OpR X (binaryOp .Mult) (fun x y H Q => (rI CMul fun i j => .int (i * j)) x y H Q ∨ (rMulS x y H Q ∨ rRep x y H Q)) := OpR.or op_mul (OpR.or op_mulS op_rep)
/-! ### == -/
def eqS : Op2
  | .int i, .int j, _ => some (.bl (decide (i = j)))
  | .str a, .str b, _ => some (.bl (decide (a = b)))
  | .bl a, .bl b, _ => some (.bl (decide (a = b)))
  | .non, .non, _ => some (.bl true)
  | .non, .int _, _ => some (.bl false)
  | .int _, .non, _ => some (.bl false)
  | .non, .bl _, _ => some (.bl false)
  | .bl _, .non, _ => some (.bl false)
  | .non, .str _, _ => some (.bl false)
  | .str _, .non, _ => some (.bl false)
  | .int _, .str _, _ => some (.bl false)
  | .str _, .int _, _ => some (.bl false)
  | .bl _, .str _, _ => some (.bl false)
  | .str _, .bl _, _ => some (.bl false)
  | _, _, _ => none
mutual
def toPy : D → Option PyData
  | .non => some .none
  | .bl b => some (.bool b)
  | .int i => some (.int i)
  | .str x => some (.str ⟨x.toArray⟩)
  | .lst xs => (toPys xs).map .list
  | .tup xs => (toPys xs).map .tuple
  | _ => none
def toPys : List D → Option (List PyData)
  | [] => some []
  | x :: xs => match toPy x, toPys xs with
    | some a, some b => some (a :: b)
    | _, _ => none
end
def deref : D → Store → D
  | .ref n, S => match S.get n with
    | some (.lst xs) => .lst xs
    | _ => .ref n
  | x, _ => x
def eqP (x y : D) : Option Bool := match toPy x, toPy y with
  | some a, some b => if (SeqAt.shaped a && SeqAt.shaped b) = true then some (PyData.eqv a b) else none
  | _, _ => none
def eqG : Op2 := fun x y S => (eqP (deref x S) (deref y S)).map .bl
def neG : Op2 := fun x y S => (eqP (deref x S) (deref y S)).map fun b => .bl (!b)
def neS : Op2 := fun x y S => match eqS x y S with
  | some (.bl b) => some (.bl (!b))
  | _ => none
section
variable {T : Tab} {K : PySem.W.Frag}
theorem str_inj {a b : List Nat} : ((⟨a.toArray⟩ : Str) = ⟨b.toArray⟩) ↔ a = b := by
  constructor
  · intro h
    have := congrArg (fun z : Str => z.cps.toList) h
    simpa using this
  · intro h; rw [h]
theorem eqS_val {G : Hp} {ι : List Addr} {S : Store} {x y d : D} {vx vy : V} (dx : DR T K G ι x vx) (dy : DR T K G ι y vy) (e : eqS x y S = some d) : scal vx vy = true ∧ d = .bl (decide (vx = vy)) := by
  unfold eqS at e
  split at e <;> first
    | (simp only [DR] at dx dy; cases e; subst dx; subst dy; first
        | exact ⟨rfl, congrArg D.bl (by rw [decide_eq_decide]; simp only [V.str.injEq]; exact str_inj.symm)⟩
        | exact ⟨rfl, congrArg D.bl (by simp)⟩)
    | cases e
theorem eqS_ok : OpS T K rEq eqS := by
  intro F S ι G H x y d vx vy Q em dx dy e q
  obtain ⟨h1, h2⟩ := eqS_val dx dy e
  exact ⟨h1, q _ G H em (Ext.refl _ _) (by rw [h2]; simp only [DR])⟩
theorem neS_ok : OpS T K rNe neS := by
  intro F S ι G H x y d vx vy Q em dx dy e q
  unfold neS at e
  split at e
  · rename_i b eb
    cases e
    obtain ⟨h1, h2⟩ := eqS_val dx dy eb
    exact ⟨h1, q _ G H em (Ext.refl _ _) (by injection h2 with h2; rw [h2]; simp only [DR])⟩
  · cases e
mutual
theorem toPy_ok {F : Hp} {S : Store} {ι : List Addr} {G H : Hp} (em : Em T K F S ι G H) : ∀ {x : D} {v : V} {p : PyData}, DR T K G ι x v → toPy x = some p → Dp K H v p
  | .non, _, _, h, e => by simp only [DR] at h; simp only [toPy] at e; cases e; subst h; exact .non
  | .bl b, _, _, h, e => by simp only [DR] at h; simp only [toPy] at e; cases e; subst h; exact .bl b
  | .int b, _, _, h, e => by simp only [DR] at h; simp only [toPy] at e; cases e; subst h; exact .int b
  | .str b, _, _, h, e => by simp only [DR] at h; simp only [toPy] at e; cases e; subst h; exact .str _
  | .lst xs, _, _, h, e => by
    simp only [DR] at h
    simp only [toPy] at e
    obtain ⟨a, vs, rfl, q, r⟩ := h
    cases e1 : toPys xs with
    | none => rw [e1] at e; cases e
    | some ps =>
      rw [e1] at e
      cases e
      exact .lst (SqL.of (em.sub _ _ q)) (toPys_ok em r e1)
  | .tup xs, _, _, h, e => by
    simp only [DR] at h
    simp only [toPy] at e
    obtain ⟨a, vs, rfl, q, r⟩ := h
    cases e1 : toPys xs with
    | none => rw [e1] at e; cases e
    | some ps =>
      rw [e1] at e
      cases e
      exact .tup (SqT.of (em.sub _ _ q)) (toPys_ok em r e1)
  | .ty _, _, _, _, e => by simp only [toPy] at e; cases e
  | .glo _, _, _, _, e => by simp only [toPy] at e; cases e
  | .scr _, _, _, _, e => by simp only [toPy] at e; cases e
  | .dct _ _, _, _, _, e => by simp only [toPy] at e; cases e
  | .dcu _ _, _, _, _, e => by simp only [toPy] at e; cases e
  | .ins _ _, _, _, _, e => by simp only [toPy] at e; cases e
  | .exn _ _ _, _, _, _, e => by simp only [toPy] at e; cases e
  | .ref _, _, _, _, e => by simp only [toPy] at e; cases e
theorem toPys_ok {F : Hp} {S : Store} {ι : List Addr} {G H : Hp} (em : Em T K F S ι G H) : ∀ {x : List D} {v : List V} {p : List PyData}, DRs T K G ι x v → toPys x = some p → DpAll K H v p
  | [], _, _, h, e => by simp only [DRs] at h; simp only [toPys] at e; cases e; subst h; exact .nil
  | x :: xs, _, _, h, e => by
    simp only [DRs] at h
    obtain ⟨v, r, rfl, h1, h2⟩ := h
    simp only [toPys] at e
    cases e1 : toPy x with
    | none => rw [e1] at e; cases e
    | some a =>
      cases e2 : toPys xs with
      | none => rw [e1, e2] at e; cases e
      | some b =>
        rw [e1, e2] at e
        cases e
        exact .cons (toPy_ok em h1 e1) (toPys_ok em h2 e2)
end
theorem deref_ok {F : Hp} {S : Store} {ι : List Addr} {G H : Hp} (em : Em T K F S ι G H) {x : D} {v : V} {p : PyData} (h : DR T K G ι x v) (e : toPy (deref x S) = some p) : Dp K H v p := by
  cases x with
  | ref n =>
    simp only [deref] at e
    cases q : S.get n with
    | none => rw [q] at e; simp only [toPy] at e; cases e
    | some o =>
      rw [q] at e
      cases o with
      | lst xs =>
        obtain ⟨a, vs, e1, h1, h2⟩ := seqL_ok (xs := xs) em h (by simp only [seqL, q])
        subst e1
        simp only [toPy] at e
        cases e1 : toPys xs with
        | none => rw [e1] at e; cases e
        | some ps =>
          rw [e1] at e
          cases e
          exact .lst (SqL.of h1) (toPys_ok em h2 e1)
      | _ => simp only [toPy] at e; cases e
  | _ => exact toPy_ok em h e
theorem eqP_ok {F : Hp} {S : Store} {ι : List Addr} {G H : Hp} (em : Em T K F S ι G H) {x y : D} {vx vy : V} {b : Bool} (dx : DR T K G ι x vx) (dy : DR T K G ι y vy) (e : eqP (deref x S) (deref y S) = some b) :
    ∃ d e, Dp K H vx d ∧ Dp K H vy e ∧ SeqAt.shaped d = true ∧ SeqAt.shaped e = true ∧ b = PyData.eqv d e := by
  unfold eqP at e
  split at e
  · rename_i p q ep eq
    split at e
    · rename_i hs
      obtain ⟨h1, h2⟩ := Bool.and_eq_true_iff.mp hs
      cases e
      exact ⟨p, q, deref_ok em dx ep, deref_ok em dy eq, h1, h2, rfl⟩
    · cases e
  · cases e
theorem eqG_ok : OpS T K (rEqD K) eqG := by
  intro F S ι G H x y d vx vy Q em dx dy e q
  unfold eqG at e
  cases eb : eqP (deref x S) (deref y S) with
  | none => rw [eb] at e; cases e
  | some b =>
    rw [eb] at e
    cases e
    obtain ⟨p, r, h1, h2, h3, h4, h5⟩ := eqP_ok em dx dy eb
    exact ⟨p, r, h1, h2, h3, h4, q _ G H em (Ext.refl _ _) (by simp only [DR]; rw [h5])⟩
theorem neG_ok : OpS T K (rNeD K) neG := by
  intro F S ι G H x y d vx vy Q em dx dy e q
  unfold neG at e
  cases eb : eqP (deref x S) (deref y S) with
  | none => rw [eb] at e; cases e
  | some b =>
    rw [eb] at e
    cases e
    obtain ⟨p, r, h1, h2, h3, h4, h5⟩ := eqP_ok em dx dy eb
    exact ⟨p, r, h1, h2, h3, h4, q _ G H em (Ext.refl _ _) (by simp only [DR]; rw [h5])⟩
def eqD : Op2 := op2 eqS eqG
def neD : Op2 := op2 neS neG
theorem eqD_ok : OpS T K (fun x y H Q => rEq x y H Q ∨ rEqD K x y H Q) eqD := eqS_ok.or2 eqG_ok
theorem neD_ok : OpS T K (fun x y H Q => rNe x y H Q ∨ rNeD K x y H Q) neD := neS_ok.or2 neG_ok
end
theorem op_eqJ {X : Cx} {k : Nat} (hr : Rg k X.A) : OpR X (compareOp .Eq) (fun x y H Q => rEq x y H Q ∨ rEqD X.K x y H Q) := OpR.or op_eq (op_eqD hr.r.units)
theorem op_neJ {X : Cx} {k : Nat} (hr : Rg k X.A) : OpR X (compareOp .NotEq) (fun x y H Q => rNe x y H Q ∨ rNeD X.K x y H Q) := OpR.or op_ne (op_neD hr.r.units)
end J
set_option Elab.async false
set_option linter.all false
set_option maxRecDepth 100000
set_option maxHeartbeats 410000
/-! J6: in, is, calls of built-ins, what is walked -/
namespace J
open PySem PySem.Spec L2
/-! ### in -/
def seqA (x : D) (S : Store) : Option (List D) := (seqR x S).or (seqT x)
section
variable {T : Tab} {K : PySem.W.Frag}
theorem seqA_ok {F : Hp} {S : Store} {ι : List Addr} {G H : Hp} (em : Em T K F S ι G H) {x : D} {v : V} {xs : List D} (h : DR T K G ι x v) (e : seqA x S = some xs) : ∃ a vs, v = .ref a ∧ (SqL K H a vs ∨ SqT K H a vs) ∧ DRs T K G ι xs vs := by
  rcases or_some e with e | e
  · obtain ⟨a, vs, h1, h2, h3⟩ := seqR_ok em h e
    exact ⟨a, vs, h1, .inl h2, h3⟩
  · obtain ⟨a, vs, h1, h2, h3⟩ := seqT_ok em h e
    exact ⟨a, vs, h1, .inr (SqT.of h2), h3⟩
/-! ### is None -/
/-! ### calls -/
def lenD : OpN
  | [.str a], _ => if a.length ≤ 100000 then some (.int a.length) else none
  | [x], S => (seqA x S).map fun xs => .int xs.length
  | _, _ => none
theorem DRs.one {G : Hp} {ι : List Addr} {x : D} {vs : List V} (h : DRs T K G ι [x] vs) : ∃ v, vs = [v] ∧ DR T K G ι x v := by
  simp only [DRs] at h
  obtain ⟨v, r, rfl, h1, rfl⟩ := h
  exact ⟨v, rfl, h1⟩
theorem DRs.two {G : Hp} {ι : List Addr} {x y : D} {vs : List V} (h : DRs T K G ι [x, y] vs) : ∃ v w, vs = [v, w] ∧ DR T K G ι x v ∧ DR T K G ι y w := by
  simp only [DRs] at h
  obtain ⟨v, r, rfl, h1, w, r2, rfl, h2, rfl⟩ := h
  exact ⟨v, w, rfl, h1, h2⟩
theorem lenD_ok : CaS T K (fun xs H Q => ∃ x n, xs = [x] ∧ LenV K x H n ∧ Q (.int n) H) lenD := by
  intro F S ι G H xs d vs Q em dr e q
  unfold lenD at e
  split at e
  · split at e
    · rename_i hl
      cases e
      obtain ⟨v, rfl, r⟩ := dr.one
      simp only [DR] at r
      subst r
      exact ⟨_, _, rfl, ⟨by rw [str_len]; exact sz_of hl, rfl⟩, q _ G H em (Ext.refl _ _) (by simp only [DR, str_len])⟩
    · cases e
  · rename_i _ x _
    obtain ⟨v, rfl, r⟩ := dr.one
    cases e2 : seqA x S with
    | none => rw [e2] at e; cases e
    | some xs =>
      rw [e2] at e
      cases e
      obtain ⟨a, vs, rfl, hs, r2⟩ := seqA_ok em r e2
      refine ⟨_, vs.length, rfl, ?_, q _ G H em (Ext.refl _ _) (by simp only [DR]; rw [r2.length])⟩
      exact hs.elim (fun z => .inl ⟨vs, z, rfl⟩) fun z => .inr ⟨vs, z, rfl⟩
  · cases e
def intD : OpN
  | [.int i], _ => some (.int i)
  | [.bl b], _ => some (.int (if b then 1 else 0))
  | _, _ => none
theorem intD_ok : CaS T K (fun xs H Q => (∃ i, xs = [.int i] ∧ Q (.int i) H) ∨ ∃ k, xs = [.bl k] ∧ Q (.int (if k then 1 else 0)) H) intD := by
  intro F S ι G H xs d vs Q em dr e q
  unfold intD at e
  split at e
  · cases e
    obtain ⟨v, rfl, r⟩ := dr.one
    simp only [DR] at r
    subst r
    exact .inl ⟨_, rfl, q _ G H em (Ext.refl _ _) (by simp only [DR])⟩
  · cases e
    obtain ⟨v, rfl, r⟩ := dr.one
    simp only [DR] at r
    subst r
    exact .inr ⟨_, rfl, q _ G H em (Ext.refl _ _) (by simp only [DR])⟩
  · cases e
def absD : OpN
  | [.int i], _ => some (.int (if i < 0 then -i else i))
  | _, _ => none
theorem absD_ok : CaS T K (fun xs H Q => ∃ i, xs = [.int i] ∧ Q (.int (if i < 0 then -i else i)) H) absD := by
  intro F S ι G H xs d vs Q em dr e q
  unfold absD at e
  split at e
  · cases e
    obtain ⟨v, rfl, r⟩ := dr.one
    simp only [DR] at r
    subst r
    exact ⟨_, rfl, q _ G H em (Ext.refl _ _) (by simp only [DR])⟩
  · cases e
def max2 : OpN
  | [.int i, .int j], _ => some (.int (if j > i then j else i))
  | _, _ => none
def min2 : OpN
  | [.int i, .int j], _ => some (.int (if j < i then j else i))
  | _, _ => none
theorem max2_ok : CaS T K (fun xs H Q => ∃ i j, xs = [.int i, .int j] ∧ Q (.int (if j > i then j else i)) H) max2 := by
  intro F S ι G H xs d vs Q em dr e q
  unfold max2 at e
  split at e
  · cases e
    obtain ⟨v, w, rfl, r, r2⟩ := dr.two
    simp only [DR] at r r2
    subst r; subst r2
    exact ⟨_, _, rfl, q _ G H em (Ext.refl _ _) (by simp only [DR])⟩
  · cases e
theorem min2_ok : CaS T K (fun xs H Q => ∃ i j, xs = [.int i, .int j] ∧ Q (.int (if j < i then j else i)) H) min2 := by
  intro F S ι G H xs d vs Q em dr e q
  unfold min2 at e
  split at e
  · cases e
    obtain ⟨v, w, rfl, r, r2⟩ := dr.two
    simp only [DR] at r r2
    subst r; subst r2
    exact ⟨_, _, rfl, q _ G H em (Ext.refl _ _) (by simp only [DR])⟩
  · cases e
def divmodD : OpN
  | [.int i, .int j], _ => if 0 < j ∧ j < 1073741824 then some (.tup [.int (i / j), .int (i % j)]) else none
  | _, _ => none
theorem divmodD_ok : CaS T K (fun xs H Q => ∃ i j, xs = [.int i, .int j] ∧ CDiv i j ∧ ∀ p, H p = none → Q (.ref p) (upd H p (.tup [.int (i / j), .int (i % j)]))) divmodD := by
  intro F S ι G H xs d vs Q em dr e q
  unfold divmodD at e
  split at e
  · split at e
    · rename_i hc
      cases e
      obtain ⟨v, w, rfl, r, r2⟩ := dr.two
      simp only [DR] at r r2
      subst r; subst r2
      refine ⟨_, _, rfl, hc, fun p hp => ?_⟩
      obtain ⟨em2, x2⟩ := em.frz (o := .tup [.int (_ / _), .int (_ % _)]) hp
      refine q _ _ _ em2 x2 ?_
      simp only [DR]
      exact ⟨p, _, rfl, upd_same, DRs.cons (by simp only [DR]) (DRs.cons (by simp only [DR]) DRs.nil)⟩
    · cases e
  · cases e
def boolsOf : List D → Option (List Bool)
  | [] => some []
  | .bl b :: xs => (boolsOf xs).map (b :: ·)
  | _ :: _ => none
theorem boolsOf_ok {G : Hp} {ι : List Addr} : ∀ {xs : List D} {vs : List V} {bs : List Bool}, DRs T K G ι xs vs → boolsOf xs = some bs → vs = bs.map V.bl
  | [], _, _, r, e => by simp only [DRs] at r; cases e; exact r
  | x :: xs, _, bs, r, e => by
    simp only [DRs] at r
    obtain ⟨v, u, rfl, r1, r2⟩ := r
    cases x with
    | bl b =>
      simp only [boolsOf] at e
      cases e1 : boolsOf xs with
      | none => rw [e1] at e; cases e
      | some cs =>
        rw [e1] at e
        cases e
        simp only [DR] at r1
        rw [r1, boolsOf_ok r2 e1]
        rfl
    | _ => cases e
def allD : OpN
  | [x], S => ((seqR x S).bind boolsOf).map fun bs => .bl (bs.all id)
  | _, _ => none
theorem one_list {F : Hp} {S : Store} {ι : List Addr} {G H : Hp} {α : Type} {f : List D → Option α} {g : α → D} {x d : D} {vs : List V} (em : Em T K F S ι G H) (dr : DRs T K G ι [x] vs) (e : ((seqR x S).bind f).map g = some d) :
    ∃ a us ds y, vs = [.ref a] ∧ SqL K H a us ∧ DRs T K G ι ds us ∧ f ds = some y ∧ d = g y := by
  obtain ⟨v, rfl, r⟩ := dr.one
  cases e1 : seqR x S with
  | none => rw [e1] at e; cases e
  | some ds =>
    rw [e1] at e
    obtain ⟨a, us, rfl, h1, h2⟩ := seqR_ok em r e1
    cases e2 : f ds with
    | none => simp only [Option.bind_some, e2] at e; cases e
    | some y =>
      simp only [Option.bind_some, e2, Option.map_some] at e
      cases e
      exact ⟨a, us, ds, y, rfl, h1, h2, e2, rfl⟩
theorem allD_ok : CaS T K (rAll K) allD := by
  intro F S ι G H xs d vs Q em dr e q
  unfold allD at e
  split at e
  · obtain ⟨a, us, ds, bs, rfl, h1, h2, h3, rfl⟩ := one_list em dr e
    rw [boolsOf_ok h2 h3] at h1
    exact ⟨a, bs, rfl, h1, q _ G H em (Ext.refl _ _) (by simp only [DR])⟩
  · cases e
end
end J
set_option Elab.async false
set_option linter.all false
set_option maxRecDepth 100000
set_option maxHeartbeats 410000
/-! J7: methods of texts and lists, stores into lists, what is walked -/
namespace J
open PySem PySem.Spec L2
open PySem.StrLaws (occBody occ_eq subAt_one occ_head At)
/-! ### one sign in a text: count, find, index -/
/-- where a sign first stands -/
def fstAt (c : Nat) : List Nat → Option Nat
  | [] => none
  | x :: xs => if x = c then some 0 else (fstAt c xs).map (· + 1)
def strFind : OpM
  | .str a, [.str [c]] => M.ret (.int (match fstAt c a with | some i => (i : Int) | none => -1))
  | _, _ => M.no
section
variable {T : Tab} {K : PySem.W.Frag}
/-! ### xs.append(e) -/
theorem obj_at {F : Hp} {S : Store} {ι : List Addr} {G H : Hp} {n : Nat} {v : V} {o : MO} (em : Em T K F S ι G H) (h : DR T K G ι (.ref n) v) (e : S.get n = some o) : ∃ a u, v = .ref a ∧ ι[n]? = some a ∧ H a = some u ∧ OR T K G ι o u := by
  simp only [DR] at h
  obtain ⟨a, ha, rfl⟩ := h
  obtain ⟨a', u, h1, _, _, h4, h5⟩ := em.obj n o e
  rw [ha] at h1
  cases h1
  exact ⟨a, u, rfl, ha, h4, h5⟩
end
end J
set_option Elab.async false
set_option linter.all false
set_option maxRecDepth 100000
set_option maxHeartbeats 410000
/-! J8: assignments, what is walked -/
namespace J
open PySem PySem.Spec L2
/-! ### target = value, the target names -/
def sAsgG (g : NG) (ie : IE) : IS := fun ρ => sBind (ie ρ) ρ fun d => match ngD g d ρ with
  | some ρ' => M.ret (.nx ρ')
  | none => M.no
section
variable {T : Tab} {X : Cx} {W : WX} {e tg : Expr} {ie : IE} {g : NG} {pos : Pos}
theorem js_asg (he : JE T X W e ie) (hg : PG X tg (ngV X.K g)) (hs : swapsWithSole [tg] e pos.line X.env = pure false := by rfl) (hw : swappedStores [tg] e X.env = pure none := by rfl)
    (h1 : (assignEach [tg] X.env).map (·.2) = [assign tg X.env] := by rfl) : JS T X W (.Assign [tg] e pos) (sAsgG g ie) := by
  refine PS.mono (ps_asg he hg hs hw h1) fun D σ H ⟨ρ, F, S, ι, G, em, sr, h⟩ => ⟨ρ, F, S, ι, G, em, sr, ThnS.bind (rel := DR T X.K) h sr fun a S1 v ι1 G1 H1 em1 x1 r h1 => ?_⟩
  cases q : ngD g a ρ with
  | none => rw [q] at h1; exact h1.elim
  | some ρ' =>
    rw [q] at h1
    exact ng_ok em1 (sr.mono x1) r q fun σ' sr' _ => h1.nx em1 sr'
/-- a, b = x, y -/
def sPar (i j : Nat) (ia : IA) : IS := fun ρ => sBind (ia ρ) ρ fun xs => match xs with
  | [x, y] => M.ret (.nx ((ρ.set i (some x)).set j (some y)))
  | _ => M.no
end
/-! ### o[i] = v -/
abbrev OpSet := D → D → D → Store → Option Store
def setL : OpSet
  | .ref n, .int k, v, S => match S.get n with
    | some (.lst xs) => (ixN xs.length k).map fun j => S.set n (.lst (xs.set j v))
    | _ => none
  | _, _, _, _ => none
def SetS (T : Tab) (K : PySem.W.Frag) (r : TSet) (f : OpSet) : Prop := ∀ F S S' ι G H o i v vo vi vv (Q : Hp → Prop), Em T K F S ι G H → DR T K G ι o vo → DR T K G ι i vi → DR T K G ι v vv → f o i v S = some S' →
  (∀ G' H', Em T K F S' ι G' H' → Ext G ι G' ι → Q H') → r vo vi vv H Q
theorem setL_ok {T : Tab} {K : PySem.W.Frag} : SetS T K rSetL setL := by
  intro F S S' ι G H o i v vo vi vv Q em d1 d2 d3 e q
  cases o with
  | ref n =>
    cases i with
    | int k =>
      simp only [setL] at e
      cases e1 : S.get n with
      | none => rw [e1] at e; cases e
      | some ob =>
        rw [e1] at e
        cases ob with
        | lst xs =>
          dsimp only at e
          cases e2 : ixN xs.length k with
          | none => rw [e2] at e; cases e
          | some j =>
            rw [e2] at e
            cases e
            obtain ⟨a, u, rfl, ha, hu, us, rfl, hr⟩ := obj_at em d1 e1
            simp only [DR] at d2
            exact ⟨a, us, k, j, rfl, d2, hu, by rw [← hr.length]; exact e2, q G _ (em.set (by rw [e1]; rfl) ha ⟨_, rfl, hr.set d3 j⟩) (Ext.refl _ _)⟩
        | _ => cases e
    | _ => cases e
  | _ => cases e
def sSetI (f : OpSet) (ie io ii : IE) : IS := fun ρ => sBind (ie ρ) ρ fun v => sBind (io ρ) ρ fun o => sBind (ii ρ) ρ fun i => fun S => match f o i v S with
  | some S' => .ok (.nx ρ) S'
  | none => .no
section
variable {T : Tab} {X : Cx} {W : WX} {e o i : Expr} {ie io ii : IE} {pos p1 : Pos} {r : TSet} {f : OpSet}
theorem js_setI (hp : PSet X r) (hf : SetS T X.K r f) (he : JE T X W e ie) (ho : JE T X W o io) (hi : JE T X W i ii)
    (ha : ∀ v, assign (.Subscript o i p1) X.env v = (do
      let obv ← holding [v] (eval o X.env)
      let idx ← holding [v, obv] (eval i X.env)
      standAt p1
      holding [v, obv, idx] (setItem obv idx v)
      release [v, obv, idx] []) := by intro _; rfl)
    (hs : swapsWithSole [.Subscript o i p1] e pos.line X.env = pure false := by rfl) (hw : swappedStores [.Subscript o i p1] e X.env = pure none := by rfl)
    (h1 : (assignEach [.Subscript o i p1] X.env).map (·.2) = [assign (.Subscript o i p1) X.env] := by rfl) : JS T X W (.Assign [.Subscript o i p1] e pos) (sSetI f ie io ii) := by
  refine PS.mono (ps_asg he (pg_sub ho hi hp ha) hs hw h1) fun D σ H ⟨ρ, F, S, ι, G, em, sr, h⟩ => ⟨ρ, F, S, ι, G, em, sr, ThnS.bind (rel := DR T X.K) h sr fun v S1 vv ι1 G1 H1 em1 x1 d1 h1 => ?_⟩
  refine ⟨ρ, F, S1, ι1, G1, em1, sr.mono x1, ThnS.bind (rel := DR T X.K) h1 (sr.mono x1) fun ob S2 vo ι2 G2 H2 em2 x2 d2 h2 => ?_⟩
  refine ⟨ρ, F, S2, ι2, G2, em2, (sr.mono x1).mono x2, ThnS.bind (rel := DR T X.K) h2 ((sr.mono x1).mono x2) fun iv S3 vi ι3 G3 H3 em3 x3 d3 h3 => ?_⟩
  cases q : f ob iv v S3 with
  | none => rw [q] at h3; exact h3.elim
  | some S4 =>
    rw [q] at h3
    exact hf F S3 S4 ι3 G3 H3 ob iv v vo vi vv _ em3 (d2.mono x3.1 x3.2) d3 ((d1.mono x2.1 x2.2).mono x3.1 x3.2) q fun G' H' em' x' => h3 _ _ _ _ em' x' (((sr.mono x1).mono x2).mono (x3.trans x'))
/-- o[i], name = a tuple -/
def sSetIN (f : OpSet) (ie io ii : IE) (j : Nat) : IS := fun ρ => sBind (ie ρ) ρ fun d => match d with
  | .tup [v, w] => sBind (io ρ) ρ fun o => sBind (ii ρ) ρ fun i => fun S => match f o i v S with
    | some S' => .ok (.nx (ρ.set j (some w))) S'
    | none => .no
  | _ => M.no
theorem js_setIN {j : Nat} {x : Str} {pt p2 : Pos} {kt : Nat} (hc : X.calm = true) (hp : PSet X r) (hf : SetS T X.K r f) (hN : X.N.Nodup) (hj : X.N[j]? = some x) (hx : Loc X.env.scope x) (he : JE T X W e ie) (ho : JE T X W o io) (hi : JE T X W i ii)
    (ha : ∀ v, assign (.Subscript o i p1) X.env v = (do
      let obv ← holding [v] (eval o X.env)
      let idx ← holding [v, obv] (eval i X.env)
      standAt p1
      holding [v, obv, idx] (setItem obv idx v)
      release [v, obv, idx] []) := by intro _; rfl)
    (hfn : X.fn x = true ∨ X.env.scope.names.lookup x = some .local := by first | exact .inl rfl | exact .inr rfl | assumption)
    (hs : swapsWithSole [.Tuple [.Subscript o i p1, .Name x p2] kt pt] e pos.line X.env = pure false := by rfl) (hw : swappedStores [.Tuple [.Subscript o i p1, .Name x p2] kt pt] e X.env = pure none := by rfl)
    (h1 : (assignEach [.Tuple [.Subscript o i p1, .Name x p2] kt pt] X.env).map (·.2) = [assign (.Tuple [.Subscript o i p1, .Name x p2] kt pt) X.env] := by rfl)
    (ht : (assignEach [.Subscript o i p1, .Name x p2] X.env).map (·.2) = assign (.Subscript o i p1) X.env :: (assignEach [.Name x p2] X.env).map (·.2) := by rfl)
    (hn : (assignEach [.Subscript o i p1, .Name x p2] X.env).length = 2 := by rfl) (hst : (assignEach [.Subscript o i p1, .Name x p2] X.env).findIdx? (·.1) = none := by rfl) :
    JS T X W (.Assign [.Tuple [.Subscript o i p1, .Name x p2] kt pt] e pos) (sSetIN f ie io ii j) := by
  refine PS.mono (ps_asg he (pg_tup (n := 2) hc (pgs_cons (pg_sub ho hi hp ha) (pgs_cons (pg_name (i := j) hN hj hx hfn) pgs_nil) ht) hn hst) hs hw h1) fun D σ H ⟨ρ, F, S, ι, G, em, sr, h⟩ => ⟨ρ, F, S, ι, G, em, sr, ThnS.bind (rel := DR T X.K) h sr fun d S1 vd ι1 G1 H1 em1 x1 d1 h1 => ?_⟩
  match d, d1, h1 with
  | .tup [v, w], d1, h1 =>
    simp only [DR] at d1
    obtain ⟨a, vs, rfl, hG, rs⟩ := d1
    obtain ⟨vv, vw, rfl, r1, r2⟩ := rs.two
    refine ⟨a, _, rfl, SqT.of (em1.sub _ _ hG), rfl, vv, [vw], rfl, ?_⟩
    refine ⟨ρ, F, S1, ι1, G1, em1, sr.mono x1, ThnS.bind (rel := DR T X.K) h1 (sr.mono x1) fun ob S2 vo ι2 G2 H2 em2 x2 d2 h2 => ?_⟩
    refine ⟨ρ, F, S2, ι2, G2, em2, (sr.mono x1).mono x2, ThnS.bind (rel := DR T X.K) h2 ((sr.mono x1).mono x2) fun iv S3 vi ι3 G3 H3 em3 x3 d3 h3 => ?_⟩
    cases q : f ob iv v S3 with
    | none => rw [q] at h3; exact h3.elim
    | some S4 =>
      rw [q] at h3
      refine hf F S3 S4 ι3 G3 H3 ob iv v vo vi vv _ em3 (d2.mono x3.1 x3.2) d3 ((r1.mono x2.1 x2.2).mono x3.1 x3.2) q fun G' H' em' x' => ?_
      refine ⟨vw, [], rfl, rfl, ?_⟩
      exact h3 _ _ _ _ em' x' ((((sr.mono x1).mono x2).mono (x3.trans x')).set (r2.mono (x2.trans (x3.trans x')).1 (x2.trans (x3.trans x')).2) j)
  | .tup [], _, h1 => exact h1.elim
  | .tup [_], _, h1 => exact h1.elim
  | .tup (_ :: _ :: _ :: _), _, h1 => exact h1.elim
  | .non, _, h1 => exact h1.elim
  | .bl _, _, h1 => exact h1.elim
  | .int _, _, h1 => exact h1.elim
  | .str _, _, h1 => exact h1.elim
  | .ty _, _, h1 => exact h1.elim
  | .glo _, _, h1 => exact h1.elim
  | .lst _, _, h1 => exact h1.elim
  | .scr _, _, h1 => exact h1.elim
  | .dct _ _, _, h1 => exact h1.elim
  | .dcu _ _, _, h1 => exact h1.elim
  | .ins _ _, _, h1 => exact h1.elim
  | .exn _ _ _, _, h1 => exact h1.elim
  | .ref _, _, h1 => exact h1.elim
end
/-! ### name op= e -/
/-! ### what is walked: lists, tuples, texts -/
def items : D → Option (List D)
  | .lst xs => some xs
  | .scr xs => some xs
  | .tup xs => some xs
  | .str a => some (a.map fun c => .str [c])
  | _ => none
def iItems (ie : IE) : IA := fun ρ => M.bind (ie ρ) fun d => lift (items d)
theorem PI.or {X : Cx} {tg e : Expr} {t u : TI} (h : PI X tg e t) (k : PI X tg e u) : PI X tg e (fun σ H R => t σ H R ∨ u σ H R) := ⟨fun pins s σ H R I q => q.elim (h.run pins s σ H R I) (k.run pins s σ H R I)⟩
section
variable {T : Tab} {K : PySem.W.Frag} {ι : List Addr} {G : Hp}
theorem walk_list {a : Addr} {xs : List D} {vs : List V} (h : SqL K G a vs) (r : DRs T K G ι xs vs) : Walk T K ι G (Itl K a) xs := by
  intro i F S ι1 G1 H1 em x
  have hs := Same.seq em.sub (Same.seq x.1 h)
  refine ⟨fun d e => ?_, fun e => ⟨vs, hs, by rw [e, r.length]; exact Nat.le_refl _⟩⟩
  obtain ⟨v, hv, dv⟩ := r.get e
  refine ⟨⟨vs, v, hs, hv⟩, fun w H2 hy => ?_⟩
  obtain ⟨rfl, hw⟩ := hy
  have e2 := hw vs hs
  rw [hv] at e2
  cases e2
  exact ⟨G1, em, Ext.refl _ _, dv.mono x.1 x.2⟩
theorem walk_tup {a : Addr} {xs : List D} {vs : List V} (h : G a = some (.tup vs)) (r : DRs T K G ι xs vs) : Walk T K ι G (Itt K a) xs := by
  intro i F S ι1 G1 H1 em x
  have hs : SqT K H1 a vs := SqT.of (em.sub _ _ (x.1 _ _ h))
  refine ⟨fun d e => ?_, fun e => ⟨vs, hs, by rw [e, r.length]; exact Nat.le_refl _⟩⟩
  obtain ⟨v, hv, dv⟩ := r.get e
  refine ⟨⟨vs, v, hs, hv⟩, fun w H2 hy => ?_⟩
  obtain ⟨rfl, hw⟩ := hy
  have e2 := hw vs hs
  rw [hv] at e2
  cases e2
  exact ⟨G1, em, Ext.refl _ _, dv.mono x.1 x.2⟩
theorem walk_str {l : List Nat} : Walk T K ι G (Its ⟨l.toArray⟩) (l.map fun c => .str [c]) := by
  intro i F S ι1 G1 H1 em x
  refine ⟨fun d e => ?_, fun e => ?_⟩
  · rw [List.getElem?_map] at e
    cases q : l[i]? with
    | none => (rw [q] at e); exact nomatch e
    | some c =>
      rw [q] at e
      cases e
      have hl := (List.getElem?_eq_some_iff.mp q).1
      refine ⟨by show i < l.toArray.size; simpa using hl, fun w H2 hy => ?_⟩
      obtain ⟨rfl, c', hc, rfl⟩ := hy
      have hc2 : l[i]? = some c' := by simpa using hc
      rw [q] at hc2
      cases hc2
      exact ⟨G1, em, Ext.refl _ _, by simp only [DR]⟩
  · show l.toArray.size ≤ i
    rw [e]
    simp
theorem walk_range {lo : Int} {n : Nat} : Walk T K ι G (Itr lo n) ((List.range n).map fun i : Nat => .int (lo + (i : Int))) := by
  intro i F S ι1 G1 H1 em x
  refine ⟨fun d e => ?_, fun e => ?_⟩
  · rw [List.getElem?_map] at e
    cases q : (List.range n)[i]? with
    | none => (rw [q] at e); exact nomatch e
    | some c =>
      rw [q] at e
      cases e
      obtain ⟨hl, e2⟩ := List.getElem?_eq_some_iff.mp q
      rw [List.getElem_range] at e2
      subst e2
      refine ⟨by show i < n; simpa using hl, fun w H2 hy => ?_⟩
      obtain ⟨rfl, rfl⟩ := hy
      exact ⟨G1, em, Ext.refl _ _, by simp only [DR]⟩
  · show n ≤ i
    rw [e]
    simp
end
section
variable {T : Tab} {X : Cx} {W : WX} {e tg : Expr} {ie : IE} {ia : IA} {p pos : Pos}
theorem ji_items (he : JE T X W e ie) : JI T X W tg e (iItems ie) := by
  refine PI.mono (PI.or (pi_list he) (PI.or (pi_tup he) (pi_str he))) fun σ H R ⟨ρ, F, S, ι, G, em, sr, h⟩ => ?_
  unfold iItems M.bind at h
  cases q : ie ρ S with
  | no => rw [q] at h; exact h.elim
  | ex c fs S1 =>
    rw [q] at h
    exact .inl ⟨ρ, F, S, ι, G, em, sr, by rw [q]; exact h⟩
  | ok d S1 =>
    rw [q] at h
    dsimp only at h
    cases d with
    | lst xs =>
      refine .inl ⟨ρ, F, S, ι, G, em, sr, ?_⟩
      rw [q]
      intro v ι1 G1 H1 em1 x1 dr
      simp only [DR] at dr
      obtain ⟨a, vs, rfl, hG, r⟩ := dr
      exact ⟨a, rfl, ⟨vs, SqL.of (em1.sub _ _ hG)⟩, h _ _ _ _ em1 x1 (walk_list (SqL.of hG) r)⟩
    | scr xs =>
      refine .inl ⟨ρ, F, S, ι, G, em, sr, ?_⟩
      rw [q]
      intro v ι1 G1 H1 em1 x1 dr
      simp only [DR] at dr
      obtain ⟨a, vs, rfl, hG, r⟩ := dr
      exact ⟨a, rfl, ⟨vs, Same.seq em1.sub hG⟩, h _ _ _ _ em1 x1 (walk_list hG r)⟩
    | tup xs =>
      refine .inr (.inl ⟨ρ, F, S, ι, G, em, sr, ?_⟩)
      rw [q]
      intro v ι1 G1 H1 em1 x1 dr
      simp only [DR] at dr
      obtain ⟨a, vs, rfl, hG, r⟩ := dr
      exact ⟨a, rfl, ⟨vs, SqT.of (em1.sub _ _ hG)⟩, h _ _ _ _ em1 x1 (walk_tup hG r)⟩
    | str l =>
      refine .inr (.inr ⟨ρ, F, S, ι, G, em, sr, ?_⟩)
      rw [q]
      intro v ι1 G1 H1 em1 x1 dr
      simp only [DR] at dr
      exact ⟨_, dr, h _ _ _ _ em1 x1 walk_str⟩
    | _ => exact h.elim
/-- range(n) -/
def rng (lo : Int) (n : Nat) : List D := (List.range n).map fun i : Nat => .int (lo + (i : Int))
def range1 : List D → Option (List D)
  | [.int n] => if -100000 ≤ n ∧ n ≤ 100000 then some (rng 0 n.toNat) else none
  | _ => none
theorem range1_some {xs ys : List D} (h : range1 xs = some ys) : ∃ n : Int, xs = [.int n] ∧ -100000 ≤ n ∧ n ≤ 100000 ∧ ys = rng 0 n.toNat := by
  unfold range1 at h
  split at h
  · split at h
    · rename_i hn
      cases h
      exact ⟨_, rfl, hn.1, hn.2, rfl⟩
    · cases h
  · cases h
def iRange (f : List D → Option (List D)) (ia : IA) : IA := fun ρ => M.bind (ia ρ) fun xs => lift (f xs)
theorem src_go {f : List D → Option (List D)} {σ : L2.St} {H : Hp} {R : It → Hp → Prop} {Q : List V → Hp → Prop} (h : tI T X.K W (iRange f ia) σ H R)
    (k : ∀ xs ys F S vs ι1 G1 H1, Em T X.K F S ι1 G1 H1 → DRs T X.K G1 ι1 xs vs → f xs = some ys → (∀ J, Walk T X.K ι1 G1 J ys → R J H1) → Q vs H1) : tA T X.K W ia σ H Q := by
  obtain ⟨ρ, F, S, ι, G, em, sr, h⟩ := h
  refine ⟨ρ, F, S, ι, G, em, sr, ?_⟩
  unfold iRange M.bind at h
  cases q : ia ρ S with
  | no => rw [q] at h; exact h.elim
  | ex c fs S1 => rw [q] at h; exact h
  | ok xs S1 =>
    rw [q] at h
    intro vs ι1 G1 H1 em1 x1 dr
    cases e : f xs with
    | none => simp only [e] at h; exact h.elim
    | some ys =>
      simp only [e] at h
      exact k xs ys F S1 vs ι1 G1 H1 em1 dr e fun J wk => h J ι1 G1 H1 em1 x1 wk
theorem ji_range1 {a : Expr} (hg : Gl X "range") (hm : X.mg "range" = none) (ha : JA T X W [a] ia) (hs : starEach [a] X.env = [(false, eval a X.env)] := by rfl) : JI T X W tg (.Call (.Name "range" p) [a] [] pos) (iRange range1 ia) := by
  refine PI.mono (pi_range1 hg hm ha hs) fun σ H R h => src_go h fun xs ys F S vs ι1 G1 H1 em dr e k => ?_
  obtain ⟨n, rfl, h1, h2, rfl⟩ := range1_some e
  obtain ⟨v, rfl, r⟩ := dr.one
  simp only [DR] at r
  subst r
  exact ⟨n, rfl, by omega, by omega, k _ walk_range⟩
end
end J
set_option Elab.async false
set_option linter.all false
set_option maxRecDepth 100000
set_option maxHeartbeats 410000
/-! J9: instances of own classes -/
namespace J
open PySem PySem.Spec L2
def getF (f : Nat) : List (Nat × D) → Option D
  | [] => none
  | (g, x) :: r => if g = f then some x else getF f r
section
variable {T : Tab} {K : PySem.W.Frag} {ι : List Addr} {G : Hp}
theorem lk_miss {f g : Str} {v : V} {r : List (Str × V)} (h : g ≠ f) : List.lookup f ((g, v) :: r) = List.lookup f r := by
  have : (f == g) = false := by simpa using fun z => h z.symm
  simp [List.lookup, this]
theorem FRs.none {m : Str} : ∀ {fs : List (Nat × D)} {vs : List (Str × V)}, FRs T K G ι fs vs → (∀ p ∈ fs, T.fn p.1 ≠ m) → vs.lookup m = none
  | [], _, h, _ => by
    have h' : _ = [] := h
    subst h'
    rfl
  | (g, x) :: r, _, ⟨v, us, h, r1, r2⟩, n => by
    subst h
    rw [lk_miss (n (g, x) List.mem_cons_self)]
    exact FRs.none r2 fun p hp => n p (List.mem_cons_of_mem _ hp)
theorem FRs.length : ∀ {fs : List (Nat × D)} {vs : List (Str × V)}, FRs T K G ι fs vs → fs.length = vs.length
  | [], _, h => by
    have h' : _ = [] := h
    subst h'
    rfl
  | (g, x) :: r, _, ⟨u, us, h, r1, r2⟩ => by
    subst h
    simp [FRs.length r2]
/-- an object's fields become a tree -/
theorem FRs.named : ∀ {fs : List (Nat × D)} {vs : List (Str × V)}, FRs T K G ι fs vs → ∃ us, vs = J.named T (fs.map (·.1)) us ∧ us.length = fs.length ∧ DRs T K G ι (fs.map (·.2)) us
  | [], _, h => by
    have h' : _ = [] := h
    subst h'
    exact ⟨[], rfl, rfl, DRs.nil⟩
  | (g, x) :: r, _, ⟨u, us, h, r1, r2⟩ => by
    subst h
    obtain ⟨ws, e, l, dr⟩ := FRs.named r2
    subst e
    exact ⟨u :: ws, rfl, by simp [l], DRs.cons r1 dr⟩
end
/-- the class and the fields of an instance -/
def insOf (T : Tab) : D → Store → Option (Nat × List (Nat × D))
  | .ins c xs, _ => if xs.length = (T.fs c).length then some (c, (T.fs c).zip xs) else none
  | .ref n, S => match S.get n with
    | some (.ins c fs) => some (c, fs)
    | _ => none
  | _, _ => none
section
variable {T : Tab} {K : PySem.W.Frag} {ι : List Addr} {G : Hp}
theorem FRs.zip : ∀ {fs : List Nat} {xs : List D} {vs : List V}, DRs T K G ι xs vs → fs.length = xs.length → FRs T K G ι (fs.zip xs) (J.named T fs vs)
  | [], [], _, r, _ => by simp only [DRs] at r; subst r; rfl
  | f :: fs, x :: xs, _, r, h => by
    simp only [DRs] at r
    obtain ⟨v, us, rfl, r1, r2⟩ := r
    exact ⟨v, _, rfl, r1, FRs.zip r2 (by simpa using h)⟩
  | [], _ :: _, _, _, h => by simp at h
  | _ :: _, [], _, _, h => by simp at h
end
/-! ### e.f -/
def iFld (T : Tab) (cs : List Nat) (f : Nat) (ie : IE) : IE := fun ρ => M.bind (ie ρ) fun d => fun S => match insOf T d S with
  | some (c, fs) => if cs.contains c = true then lift (getF f fs) S else .no
  | none => .no
/-! ### e.f = v -/
/-! ### C(..) -/
/-- what is made: a tree (frz) or an object of the store -/
def madeD (T : Tab) (frz : Bool) (c n : Nat) : M D := fun S => if frz = true then (match S.get n with
    | some (.ins c' fs) => if c' = c ∧ fs.map (·.1) = T.fs c then .ok (.ins c (fs.map (·.2))) (S.del n) else .no
    | _ => .no) else .ok (.ref n) S
def makeD (T : Tab) (frz : Bool) (c k : Nat) (sem : List D → M D) (xs : List D) : M D := fun S => if xs.length + 1 = k then (match sem (.ref S.next :: xs) (S.alloc (.ins c [])) with
    | .ok .non S' => madeD T frz c S.next S'
    | .ex c fs S' => .ex c fs S'
    | _ => .no) else .no
def iMake (T : Tab) (frz : Bool) (c k : Nat) (sem : List D → M D) (ia : IA) : IE := fun ρ => M.bind (ia ρ) (makeD T frz c k sem)
end J
set_option Elab.async false
set_option linter.all false
set_option maxRecDepth 100000
set_option maxHeartbeats 410000
/-! JA: ghosts, constants of the module, small things -/
namespace J
open PySem PySem.Spec L2
def sNever : IS := fun _ => M.no
section
variable {T : Tab} {X : Cx} {W : WX} {st : Stmt} {rest : List Stmt} {ir : IS} {pos : Pos}
/-! ### constants of the module -/
theorem je_gint {x : Str} {i : Int} (hg : Gl X x) (hm : ∃ t, X.mg x = some (.int i t)) (hd : (x == ("__debug__" : Str)) = false := by decide) : JE T X W (.Name x pos) (iC (.int i)) := by
  obtain ⟨t, e⟩ := hm
  exact je_c (pe_glob (v := .int i) hg e ⟨t, rfl⟩ hd) fun _ _ => by simp only [DR]
end
end J
set_option Elab.async false
set_option linter.all false
set_option maxRecDepth 100000
set_option maxHeartbeats 410000
/-! JB: classes as values, isinstance, truth, sorted, str of an int, f-strings, zip -/
namespace J
open PySem PySem.Spec L2
section
variable {T : Tab} {X : Cx} {W : WX} {pos : Pos}
theorem je_ty {x : Str} {n : String} (hg : Gl X x) (hm : X.mg x = none) (hv : bootBuiltins x = some (.type n)) (hn : x ≠ "__name__" := by decide) (hd : (x == ("__debug__" : Str)) = false := by decide) : JE T X W (.Name x pos) (iC (.ty n)) :=
  je_c (pe_bltn (v := .ty n) hg hm hv rfl hn hd) fun _ _ => by simp only [DR]
theorem je_cls {x : Str} {c : Nat} (hg : Gl X x) (hm : X.mg (T.cn c) = some (.ref (He.ga X.K (T.cn c)))) (hx : x = T.cn c) (hd : (x == ("__debug__" : Str)) = false := by decide) : JE T X W (.Name x pos) (iC (.glo c)) := by
  subst hx
  exact je_c (pe_glob (v := .ref (He.ga X.K (T.cn c))) hg hm rfl hd) fun _ _ => by simp only [DR]
end
/-! ### isinstance -/
inductive Tg where
  | b (n : String) | o (c : Nat)
  deriving DecidableEq
def tagD : D → Store → Option Tg
  | .non, _ => some (.b "NoneType")
  | .bl _, _ => some (.b "bool")
  | .int _, _ => some (.b "int")
  | .str _, _ => some (.b "str")
  | .tup _, _ => some (.b "tuple")
  | .lst _, _ => some (.b "list")
  | .scr _, _ => some (.b "list")
  | .dct [] _, _ => some (.b "dict")
  | .ins c _, _ => some (.o c)
  | .ref n, S => (match S.get n with
    | some (.lst _) => some (.b "list")
    | some (.dct _) => some (.b "dict")
    | some (.dcT _) => some (.b "dict")
    | some (.ins c _) => some (.o c)
    | none => none)
  | _, _ => none
def Tg.v (T : Tab) (K : PySem.W.Frag) : Tg → Value
  | .b n => .type n
  | .o c => .ref (He.ga K (T.cn c))
/-- what isinstance asks of a class -/
structure ClsT (K : PySem.W.Frag) (C : Addr) : Prop where
  cl : Cls K C
  asks : PySem.W.findIn K (.ref C) "__class__" = some (some (.builtin "object.__class__")) ∧ PySem.W.specialIn K (.builtin "object.__class__") "__get__" = some (some (.builtin "getset_descriptor.__get__")) ∧
    PySem.W.takesIn K (.builtin "object.__class__") = some true ∧ PySem.W.mroIn K C (.type "object") = some true
def clsTB (K : PySem.W.Frag) (C : Addr) : Bool := PySem.W.plainGet K C Str.empty && (PySem.W.hasDictIn K C && (PySem.W.plainOver K C && (decide (PySem.W.findIn K (.ref C) "__setattr__" = some (some (.builtin "object.__setattr__"))) &&
  (decide (PySem.W.findIn K (.ref C) "__class__" = some (some (.builtin "object.__class__"))) && (decide (PySem.W.specialIn K (.builtin "object.__class__") "__get__" = some (some (.builtin "getset_descriptor.__get__"))) &&
    (decide (PySem.W.takesIn K (.builtin "object.__class__") = some true) && decide (PySem.W.mroIn K C (.type "object") = some true)))))))
theorem clsTB_ok {K : PySem.W.Frag} {C : Addr} (h : clsTB K C = true) : ClsT K C := by
  unfold clsTB at h
  simp only [decide_eq_true_eq, Bool.and_eq_true] at h
  obtain ⟨h1, h2, h3, h4, h5, h6, h7, h8⟩ := h
  exact ⟨⟨h1, h2, h3, h4⟩, h5, h6, h7, h8⟩
/-- cs: the classes whose instances are asked; tb: the answers that are not of two built-in types -/
structure IsK (T : Tab) (K : PySem.W.Frag) (cs : List Nat) (tb : List (Tg × Tg × Bool)) : Prop where
  cls : ∀ c ∈ cs, ClsT K (He.ga K (T.cn c))
  ans : ∀ p ∈ tb, PySem.W.kitOne K (p.1.v T K) (p.2.1.v T K) = some p.2.2
def lookT (t u : Tg) : List (Tg × Tg × Bool) → Option Bool
  | [] => none
  | p :: r => if p.1 = t ∧ p.2.1 = u then some p.2.2 else lookT t u r
def isiT (tb : List (Tg × Tg × Bool)) (t u : Tg) : Option Bool := match t, u with
  | .b a, .b c => kitB a c
  | _, _ => lookT t u tb
def okTg (cs : List Nat) : Tg → Bool
  | .b _ => true
  | .o c => cs.contains c
def clsOf : D → Option Tg
  | .ty n => some (.b n)
  | .glo c => some (.o c)
  | _ => none
def isiD (cs : List Nat) (tb : List (Tg × Tg × Bool)) : OpN := fun xs S => match xs with
  | [x, c] => (match tagD x S, clsOf c with
    | some t, some u => if okTg cs t = true then (isiT tb t u).map .bl else none
    | _, _ => none)
  | _ => none
/-! ### truth -/
def truD : D → Store → Option Bool
  | .non, _ => some false
  | .bl b, _ => some b
  | .int i, _ => some (i != 0)
  | .str x, _ => if x.length ≤ 100000 then some (!x.isEmpty) else none
  | .lst xs, _ => some (!xs.isEmpty)
  | .scr xs, _ => some (!xs.isEmpty)
  | .tup xs, _ => some (!xs.isEmpty)
  | .dct [] [], _ => some false
  | .ref n, S => (match S.get n with
    | some (.lst xs) => some (!xs.isEmpty)
    | some (.dct xs) => some (!xs.isEmpty)
    | _ => none)
  | _, _ => none
theorem DRs.emp {T : Tab} {K : PySem.W.Frag} {G : Hp} {ι : List Addr} {xs : List D} {vs : List V} (r : DRs T K G ι xs vs) : (!xs.isEmpty) = !vs.isEmpty := by
  have := r.length
  cases xs <;> cases vs <;> simp_all
/-! ### str of an int, of a text -/
end J
set_option Elab.async false
set_option linter.all false
set_option maxRecDepth 100000
set_option maxHeartbeats 410000
/-! JC: what a class's own defs answer: properties, str, repr, ==, != ; a method by its class -/
namespace J
open PySem PySem.Spec L2
section
variable {T : Tab} {X : Cx} {W : WX} {k : Nat} {f : Addr} {fd : FuncData} {ps : List Str} {sem : List D → M D}
theorem Rg.in1 {k : Nat} {A : Around} (r : Rg (k + 1) A) : Rg k A.in1 := ⟨r.r.in1, r.g⟩
end
/-! ### built-ins that call -/
def iCM (f : List D → M D) (ia : IA) : IE := fun ρ => M.bind (ia ρ) f
def CaM (T : Tab) (K : PySem.W.Frag) (r : List V → Hp → VK → Prop) (f : List D → M D) : Prop := ∀ F S ι G H xs vs W σ (Q : VK), Em T K F S ι G H → DRs T K G ι xs vs → Thn T K F W σ G ι (DR T K) (f xs S) Q → r vs H Q
theorem CallR.or {X : Cx} {c : Value} {r r' : List V → Hp → VK → Prop} (h : CallR X c r) (h' : CallR X c r') : CallR X c (fun xs H Q => r xs H Q ∨ r' xs H Q) :=
  fun pins s σ H xs us Q I rv z => z.elim (h pins s σ H xs us Q I rv) (h' pins s σ H xs us Q I rv)
/-! ### str(x), repr(x), x an instance -/
/-! ### e.f, a property -/
def iProp (T : Tab) (c : Nat) (sem : List D → M D) (ie : IE) : IE := fun ρ => M.bind (ie ρ) fun d S => match insOf T d S with
  | some (c', _) => if c' = c then nox (sem [d]) S else .no
  | none => .no
end J
set_option Elab.async false
set_option linter.all false
set_option maxRecDepth 100000
set_option maxHeartbeats 410000
/-! JD: == and != by the class's own def; an instance's truth; zip, f-strings, three names at once, sorted texts -/
namespace J
open PySem PySem.Spec L2
/-! ### the machine's side of != -/
/-! ### operators that call -/
abbrev OpB := D → D → M D
def iOpM (f : OpB) (ia ib : IE) : IE := fun ρ => M.bind (ia ρ) fun x => M.bind (ib ρ) fun y => f x y
end J
set_option Elab.async false
set_option linter.all false
set_option maxRecDepth 100000
set_option maxHeartbeats 410000
/-! JE: an instance's truth; zip, f-strings, three names at once, sorted texts, keywords -/
namespace J
open PySem PySem.Spec L2 PyProof.Rows
/-! ### truth, instances among the values -/
structure PlainTru (K : PySem.W.Frag) (C : Addr) : Prop where
  b : PySem.W.findIn K (.ref C) "__bool__" = some none
  l : PySem.W.findIn K (.ref C) "__len__" = some none
def truO (T : Tab) (cs : List Nat) (d : D) (S : Store) : Option Bool := match insOf T d S with
  | some (c, _) => if cs.contains c = true then some true else none
  | none => truD d S
def iTr (T : Tab) (cs : List Nat) (ie : IE) : IT := fun ρ => M.bind (ie ρ) fun d => fun S => lift (truO T cs d S) S
/-! ### zip of two lists, of two tuples -/
def zipD : List D → List D → List D
  | x :: xs, y :: ys => .tup [x, y] :: zipD xs ys
  | _, _ => []
def zipOf : List D → Option (List D)
  | [.lst xs, .lst ys] => some (zipD xs ys)
  | [.tup xs, .tup ys] => some (zipD xs ys)
  | _ => none
def iZip (ia : IA) : IA := fun ρ => M.bind (ia ρ) fun xs => lift (zipOf xs)
/-! ### f-strings -/
/-! ### three names at once -/
def sPar3 (i j l : Nat) (ia : IA) : IS := fun ρ => sBind (ia ρ) ρ fun xs => match xs with
  | [x, y, z] => M.ret (.nx (((ρ.set i (some x)).set j (some y)).set l (some z)))
  | _ => M.no
end J
set_option Elab.async false
set_option linter.all false
set_option maxRecDepth 100000
set_option maxHeartbeats 410000
/-! JF: sorted texts, keywords -/
namespace J
open PySem PySem.Spec L2 PyProof.Rows
/-! ### texts in order -/
def LeS (a b : List Nat) : Prop := ltCps b a = false
theorem le_iff (a b : List Nat) : LeS a b ↔ ¬ b < a := by
  unfold LeS
  rw [ltCps_eq]
  simp
theorem lt_tri : ∀ a b : List Nat, a < b ∨ a = b ∨ b < a
  | [], [] => .inr (.inl rfl)
  | [], _ :: _ => .inl (List.nil_lt_cons ..)
  | _ :: _, [] => .inr (.inr (List.nil_lt_cons ..))
  | x :: a, y :: b => by
    rcases Nat.lt_trichotomy x y with h | h | h
    · exact .inl (List.cons_lt_cons_iff.mpr (.inl h))
    · subst h
      rcases lt_tri a b with k | k | k
      · exact .inl (List.cons_lt_cons_iff.mpr (.inr ⟨rfl, k⟩))
      · exact .inr (.inl (by rw [k]))
      · exact .inr (.inr (List.cons_lt_cons_iff.mpr (.inr ⟨rfl, k⟩)))
    · exact .inr (.inr (List.cons_lt_cons_iff.mpr (.inl h)))
theorem LeS.trans {a b c : List Nat} (h : LeS a b) (k : LeS b c) : LeS a c := by
  rw [le_iff] at *
  intro z
  rcases lt_tri a b with y | y | y
  · exact k (List.lt_trans z y)
  · subst y; exact k z
  · exact h y
theorem str_of_cps (y : Str) : (⟨(y.cps.toList).toArray⟩ : Str) = y := by
  cases y
  simp
/-! ### keywords -/
def pickL {α : Type} (pm : List Nat) (l : List α) : List α := pm.filterMap fun i => l[i]?
/-- a call of n values and the keywords ks: the parameters are found at the places pm -/
def BindsW (K : PySem.W.Frag) (fd : FuncData) (ps : List Str) (n : Nat) (ks : List Str) (pm : List Nat) : Prop := ∀ (s : Shared) (us ws : List Value), K.In s.heap → us.length = n → ws.length = ks.length → BindsTo s fd ⟨us, ks.zip ws⟩ (ps.zip (pickL pm (us ++ ws)))
theorem bindsW_of {K : PySem.W.Frag} {x qual : Str} {params : Arguments} {body : List Stmt} {scope : Scope} {kws : List (Str × V)} {f : Addr} {fd : FuncData} {ps : List Str} (F : FunD K x qual params body scope [] kws f fd) {n : Nat} {ks : List Str} {pm : List Nat}
    (h : ∀ (kV doc pm' : Value) (an : Option Addr) (cdv ct : Value) (us ws : List Value), us.length = n → ws.length = ks.length → bindArgs (PySem.W.fnOf x qual params body scope .none kV doc pm' an cdv ct) ⟨us, ks.zip ws⟩ = pure (ps.zip (pickL pm (us ++ ws)))) : BindsW K fd ps n ks pm := by
  obtain ⟨oc, od, dV, kV, doc, pm', an, cdv, ct, osl, rfl, lk, hcd, hD, hK⟩ := F.ex
  obtain ⟨_, rfl⟩ | ⟨e, _⟩ := hD
  · intro s us ws X l1 l2
    exact BindsTo.of_looks fun M => .of_pure (h kV doc pm' an cdv ct us ws l1 l2)
  · exact absurd rfl e
abbrev JK (T : Tab) (X : Cx) (W : WX) (ks : List Keyword) (ia : IA) : Prop := PK X ks (tA T X.K W ia)
theorem PK.mono {X : Cx} {e : List Keyword} {t t' : TA} (h : PK X e t) (k : ∀ σ H Q, t' σ H Q → t σ H Q) : PK X e t' := ⟨fun pos pins s σ H Q I q => h.run pos pins s σ H Q I (k σ H Q q)⟩
section
variable {T : Tab} {X : Cx} {W : WX} {e : Expr} {ie : IE} {ik : IA} {kws : List Keyword} {nm : Option Str} {kpos p pos : Pos} {x : Str} {ps ks : List Str} {k n c : Nat} {pm : List Nat} {sem : List D → M D}
theorem jk_nil : JK T X W [] iNil := PK.mono pk_nil fun σ H Q ⟨ρ, F, S, ι, G, em, sr, h⟩ => Thn.ok h em DRs.nil
theorem jk_cons (ha : JE T X W e ie) (hr : JK T X W kws ik) : JK T X W (⟨nm, e, kpos⟩ :: kws) (iCons ie ik) := PK.mono (pk_cons ha hr) fun σ H Q h => cons_go (T := T) (X := X) (W := W) h
/-- f(k = v, ..) -/
def iCallK (n : Nat) (pm : List Nat) (sem : List D → M D) (ik : IA) : IE := fun ρ => M.bind (ik ρ) fun xs => if xs.length = n ∧ (pickL pm xs).length = pm.length then sem (pickL pm xs) else M.no
/-- C(k = v, ..): pm tells the places of __init__'s parameters behind self -/
def iMakeK (T : Tab) (frz : Bool) (c k n : Nat) (pm : List Nat) (sem : List D → M D) (ik : IA) : IE := fun ρ => M.bind (ik ρ) fun xs => if xs.length = n ∧ (pickL pm xs).length = pm.length then makeD T frz c k sem (pickL pm xs) else M.no
end
end J
set_option Elab.async false
set_option linter.all false
set_option maxRecDepth 100000
set_option maxHeartbeats 410000
/-! JG: one of two ways, methods of instances -/
namespace J
open PySem PySem.Spec L2 PyProof.Rows
theorem tk0 {X : Cx} : L2N.Takes X W0 := fun _ _ h => by
  obtain ⟨_, _, _, _, _, _, _, _, _, _, _, _, _, _, _, _, h⟩ := h
  exact h.elim
def orM (f g : List D → M D) : List D → M D := fun xs S => match f xs S with
  | .no => g xs S
  | r => r
theorem CaM.or {T : Tab} {K : PySem.W.Frag} {r r' : List V → Hp → VK → Prop} {f g : List D → M D} (h : CaM T K r f) (h' : CaM T K r' g) : CaM T K (fun xs H Q => r xs H Q ∨ r' xs H Q) (orM f g) := by
  intro F S ι G H xs vs W σ Q em dr t
  unfold orM at t
  cases q : f xs S with
  | no => rw [q] at t; exact .inr (h' F S ι G H xs vs W σ Q em dr t)
  | ok a S' => rw [q] at t; exact .inl (h F S ι G H xs vs W σ Q em dr (by rw [q]; exact t))
  | ex c fs S' => rw [q] at t; exact .inl (h F S ι G H xs vs W σ Q em dr (by rw [q]; exact t))
/-! ### o.m(e, ..) -/
/-- o is an instance of c; the def is called with it and the arguments -/
def iMeth (T : Tab) (c m n : Nat) (sem : List D → M D) (io : IE) (ia : IA) : IE := fun ρ => M.bind (io ρ) fun o => fun S => match insOf T o S with
  | some (c', fs) => if c' = c ∧ getF m fs = none then M.bind (ia ρ) (fun xs => if xs.length + 1 = n then sem (o :: xs) else M.no) S else .no
  | none => .no
end J
set_option Elab.async false
set_option linter.all false
set_option maxRecDepth 100000
set_option maxHeartbeats 410000
/-! JH: the head's facts by one Bool, the law's end -/
namespace J
open PySem PySem.Spec L2 PyProof.Rows
/-! ### the facts of the top -/
abbrev AlZ : Type := Bool × List He.FnW
/-- one def: where its function stands, what the text says of it -/
structure Df where
  at_ : PySem.W.Frag → Addr
  name : Str
  qual : Str
  params : Arguments
  body : List Stmt
  scope : Scope
  dfl : List He.Dv := []
  kwd : List (Str × He.Dv) := []
def Df.val (d : Df) : He.FnW := some (d.name, d.qual, d.params, .stmts d.body, d.scope, mainGlobals, [], builtinsNs)
def Df.dvs (K : PySem.W.Frag) (d : Df) : List V := d.dfl.map (He.Dv.v K)
def Df.kws (K : PySem.W.Frag) (d : Df) : List (Str × V) := d.kwd.map fun q => (q.1, q.2.v K)
def fdAt (K : PySem.W.Frag) (a : Addr) : Option FuncData := match K.lookup a with
  | some ⟨_, _, .func fd, _⟩ => some fd
  | _ => none
def seenF (K : PySem.W.Frag) (a : Addr) : He.FnW := (fdAt K a).map fun fd => (fd.name, fd.qualname, fd.params, fd.body, fd.scope, fd.globals, fd.closure, fd.builtins)
def Df.ok (K : PySem.W.Frag) (d : Df) : Bool := PySem.W.keepIn K (.ref (d.at_ K)) && (match fdAt K (d.at_ K) with
  | some fd => PySem.W.codeIn K fd.code d.qual && (He.dflB K fd.defaults (d.dvs K) && He.kwdB K fd.kwdefaults (d.kws K))
  | none => false)
abbrev Df.Fun (K : PySem.W.Frag) (d : Df) (fd : FuncData) : Prop := FunD K d.name d.qual d.params d.body d.scope (d.dvs K) (d.kws K) (d.at_ K) fd
theorem Df.fun_of {K : PySem.W.Frag} {d : Df} (e : seenF K (d.at_ K) = d.val) (c : d.ok K = true) : ∃ fd, d.Fun K fd := by
  obtain ⟨kp, c⟩ := Bool.and_eq_true_iff.mp c
  cases q : (K.lookup (d.at_ K)) with
  | none =>
    have z : fdAt K (d.at_ K) = none := by simp only [fdAt, q]
    rw [z] at c
    cases c
  | some o =>
    obtain ⟨oc, od, dt, osl⟩ := o
    cases dt with
    | func fd =>
      have z : fdAt K (d.at_ K) = some fd := by simp only [fdAt, q]
      unfold seenF at e
      rw [z] at c e
      obtain ⟨a1, a2, a3, a4, a5, a6, a7, a8, a9, a10, a11, a12, a13, a14, a15⟩ := fd
      have e2 : (some (a1, a2, a3, a4, a5, a6, a7, a15) : He.FnW) = d.val := e
      unfold Df.val at e2
      simp only [Prod.mk.injEq, Option.some.injEq] at e2
      obtain ⟨e1, e2, e3, e4, e5, e6, e7, e8⟩ := e2
      subst e1 e2 e3 e4 e5 e6 e7 e8
      obtain ⟨k1, k2⟩ := Bool.and_eq_true_iff.mp c
      obtain ⟨k3, k4⟩ := Bool.and_eq_true_iff.mp k2
      exact ⟨_, ⟨oc, od, a8, a9, a10, a11, a12, a13, a14, osl, rfl, q, k1, He.dflB_ok k3, He.kwdB_ok k4⟩, kp⟩
    | _ =>
      have z : fdAt K (d.at_ K) = none := by simp only [fdAt, q]
      rw [z] at c
      cases c
/-- the getter of a property -/
def pa (K : PySem.W.Frag) (C : Addr) (m : Str) : Addr := match PySem.W.recIn K (He.ma K C m) "property" with
  | some (.ref g :: _) => g
  | _ => 0
def obsZ (ex : PySem.W.Frag → Bool) (fn : List Df) (K : PySem.W.Frag) : AlZ := (ex K && fn.all (fun d => d.ok K), fn.map fun d => seenF K (d.at_ K))
structure SaysZ (ex : PySem.W.Frag → Bool) (fn : List Df) (K : PySem.W.Frag) : Prop where
  fact : ex K = true
  defs : ∀ d ∈ fn, ∃ fd, d.Fun K fd
theorem saysZ_of {ex : PySem.W.Frag → Bool} {fn : List Df} {K : PySem.W.Frag} (h : obsZ ex fn K = (true, fn.map Df.val)) : SaysZ ex fn K := by
  obtain ⟨h1, h2⟩ := Prod.mk.inj h
  obtain ⟨h3, h4⟩ := Bool.and_eq_true_iff.mp h1
  refine ⟨h3, fun d hd => ?_⟩
  exact Df.fun_of (List.map_inj_left.mp h2 d hd) (List.all_eq_true.mp h4 d hd)
/-! ### the law's end -/
section
variable {P : Program} {w : World} {K : PySem.W.Frag} {mg mb : Str → Option Value} {k : Nat} {fa a : Addr} {fd : FuncData} {x : Str} {sp : Sp} {s1 : Shared} {vs : List Value} {ns : List Int}
/-- what is wanted of the call -/
abbrev Told (s1 : Shared) : Result → Shared → Prop := fun r s' => r = .ok (.ret (.bool true)) ∧ OldK s1.heap s'.heap ∧ s'.os = s1.os ∧ AllBare s'.gens
/-- the tables of code objects: c a code object, P its table, empty, not told in K -/
structure TabFacts (K : PySem.W.Frag) (h : Heap) (cs : List (Addr × Addr)) : Prop where
  empty : ∀ p ∈ cs, h.get? p.2 = some { cls := .none, data := .fields #[] }
  out : ∀ p ∈ cs, K.lookup p.2 = none
  code : ∀ p ∈ cs, PySem.W.CodeHd h p.1 p.2
/-- the module that __builtins__ names -/
abbrev BmAt (mg : Str → Option Value) (h : Heap) : Prop := ∃ (bm : Addr) (ob : Obj), mg "__builtins__" = some (.ref bm) ∧ bm ≠ builtinsNs ∧ h.get? bm = some ob ∧ ob.cls = .type "module" ∧ ob.dict = some builtinsNs ∧ ob.data = .plain
/-- what stands in the abstract heap at the law's call -/
structure Start (K : PySem.W.Frag) (cs : List (Addr × Addr)) (a : Addr) (H : Hp) : Prop where
  tab : ∀ p ∈ cs, H p.2 = some (.tbl #[])
  one : ∀ b u, H b = some u → (b = a ∧ ∃ o xs, u = .frz o (.lst xs)) ∨ ((∃ p ∈ cs, b = p.2) ∧ u = .tbl #[])
  out : H a ≠ none → K.lookup a = none
theorem law_from {H : Hp} {cs : List (Addr × Addr)} (KX : K.In s1.heap) (gl : s1.heap.Ns mainGlobals mg) (bl : s1.heap.Ns builtinsNs mb) (bb : ∀ y : Str, y ≠ "__name__" → mb y = bootBuiltins y) (nl : s1.heap.NoLimit) (gn : s1.gens = #[]) (tf : TabFacts K s1.heap cs) (bmA : BmAt mg s1.heap)
    (ha : s1.heap.get? a = some { cls := .type "list", data := .seq vs.toArray }) (hr : Room k callerA)
    (F : ∀ base : Heap, K.In base → base.Ns mainGlobals mg → (∀ p ∈ cs, LamX.TabB base mg p.1 p.2) → FnG P w K mg base k fa fd [x] sp) (bd : ∀ (s : Shared) (u : Value), BindsTo s fd ⟨[u], []⟩ [(x, u)])
    (want : sp [.ref a] H (fun v _ => v = .bl true) fun _ _ _ => False) (st : Start K cs a H) (hok : HOk P w H s1.heap) :
    codeAny (model P w) callerA (.call (.ref fa) ⟨[.ref a], []⟩) (Told s1) s1 := by
  -- an object that is neither a list nor an empty record is not tracked
  have free : ∀ {b : Addr} {o : Obj}, s1.heap.get? b = some o → (∀ l n, o.data ≠ .seq l n) → o.data ≠ .fields #[] → H b = none := by
    intro b o e n1 n2
    rcases Option.eq_none_or_eq_some (H b) with q | ⟨u, q⟩
    · exact q
    · rcases st.one b u q with ⟨z, _⟩ | ⟨⟨p, hp, z⟩, _⟩
      · rw [z, ha] at e
        cases e
        exact absurd rfl (n1 _ _)
      · rw [z, tf.empty p hp] at e
        cases e
        exact absurd rfl n2
  have space : ∀ {b : Addr} {m : Str → Option Value}, s1.heap.Ns b m → (hidT s1.heap H).Ns b m := by
    rintro b m ⟨o, es, n, e, d, r⟩
    exact ⟨o, es, n, hidT_get e (free e (fun _ _ z => by rw [d] at z; cases z) (fun z => by rw [d] at z; cases z)), d, r⟩
  have KB : K.In (hidT s1.heap H) := by
    intro b o e
    refine hidT_get (KX b o e) ?_
    rcases Option.eq_none_or_eq_some (H b) with q | ⟨u, q⟩
    · exact q
    · rcases st.one b u q with ⟨z, _⟩ | ⟨⟨p, hp, z⟩, _⟩
      · rw [z] at e q
        rw [st.out (fun y => by rw [q] at y; cases y)] at e
        cases e
      · rw [z, tf.out p hp] at e
        cases e
  have TBs : ∀ p ∈ cs, LamX.TabB (hidT s1.heap H) mg p.1 p.2 := by
    intro p hp
    have hP := tf.empty p hp
    constructor
    · obtain ⟨o, us, r0, r1, r2, r3, r4, r5, r6, g, c1, c2, rest⟩ := tf.code p hp
      refine ⟨o, us, r0, r1, r2, r3, r4, r5, r6, hidT_get g (free g (fun _ _ z => by rw [c2] at z; cases z) (fun z => ?_)), c1, c2, rest⟩
      rw [c2] at z
      cases z
      have := rest.1
      simp at this
    · obtain ⟨bm, ob, y1, y2, y3, y4, y5, y6⟩ := bmA
      refine ⟨bm, ob, y1, y2, fun z => ?_, fun z => ?_, hidT_get y3 (free y3 (fun _ _ z => by rw [y6] at z; cases z) (fun z => by rw [y6] at z; cases z)), y4, y5, y6⟩
      · obtain ⟨o, es, n, g, d, _⟩ := gl
        rw [z, g] at y3
        cases y3
        rw [y6] at d
        cases d
      · rw [z, hP] at y3
        cases y3
        cases y6
    · intro z
      obtain ⟨o, es, n, g, d, _⟩ := gl
      rw [z, hP] at g
      cases g
      cases d
  obtain ⟨mc, l1, l2⟩ := nl
  have E0 : Env0 P w K mg (hidT s1.heap H) callerA [] s1 H := {
    frames := rfl, mod := ⟨KB, space gl, ⟨mb, space bl, bb⟩, ⟨mc, space l1, l2⟩⟩, bs := fun b o e => of_hidT e, bsz := Nat.le_of_eq (hidT_size _ _), funs := trivial,
    frf := fun b z => (List.not_mem_nil z).elim, hok := hok, bare := .of_eq gn }
  refine codeAny_mono ((F _ KB (space gl) TBs).run callerA [] s1 H ⟨[.ref a], []⟩ [.ref a] [.ref a] _ _ hr rfl E0 (bd s1 (.ref a)) (.cons rfl .nil) want) ?_
  intro r s' z
  match r, z with
  | .error e, z =>
    obtain ⟨_, _, _, _, _, _, _, _, _, _, _, _, f⟩ := z
    exact f.elim
  | .ok (.ret u), ⟨v, H', os, bare, un, hok', rv, q⟩ =>
    cases (show v = .bl true from q)
    cases (show u = Value.bool true from rv)
    -- a table grows, all else stays
    have end_ : ∀ b o, s1.heap.get? b = some o → s'.heap.get? b = some o ∨ (∃ p ∈ cs, b = p.2 ∧ o = { cls := .none, data := .fields #[] } ∧ ∃ more : Array Value, s'.heap.get? b = some { cls := .none, data := .fields more }) := by
      intro b o e
      rcases Option.eq_none_or_eq_some (H b) with q | ⟨w', q⟩
      · exact .inl (un.keep b o e q (fun z => by cases z) (fun z => by cases z))
      · rcases st.one b w' q with ⟨_, ob, xs, rfl⟩ | ⟨⟨p, hp, rfl⟩, rfl⟩
        · have e1 := (hok b _ q).1
          rw [e] at e1
          cases e1
          exact .inl (hok' b _ (un.frzs b o _ q)).1
        · obtain ⟨more, g⟩ := un.tbls p.2 #[] q
          have e1 := tf.empty p hp
          rw [e] at e1
          exact .inr ⟨p, hp, rfl, Option.some.inj e1, _, hok' p.2 _ g⟩
    refine ⟨rfl, ⟨fun b o at1 => ?_, fun b o at1 => ?_⟩, os, bare⟩
    · rcases end_ b o at1 with g | ⟨p, hp, rfl, rfl, more, g⟩
      · exact .inl g
      · exact .inr (.inl ⟨((tf.code p hp).tab at1).isCodeTable, rfl, #[], more, rfl, by simpa using g⟩)
    · rcases end_ b o at1 with g | ⟨p, hp, rfl, rfl, more, g⟩
      · exact ⟨_, g⟩
      · exact ⟨_, g⟩
theorem law_to {cs : List (Addr × Addr)} (KX : K.In s1.heap) (gl : s1.heap.Ns mainGlobals mg) (bl : s1.heap.Ns builtinsNs mb) (bb : ∀ y : Str, y ≠ "__name__" → mb y = bootBuiltins y) (nl : s1.heap.NoLimit) (gn : s1.gens = #[]) (tf : TabFacts K s1.heap cs) (bmA : BmAt mg s1.heap)
    (ha : s1.heap.get? a = some { cls := .type "list", data := .seq vs.toArray }) (hi : IntsAre vs ns) (hl : ns.length ≤ sizeLine) (hr : Room k callerA)
    (F : ∀ base : Heap, K.In base → base.Ns mainGlobals mg → (∀ p ∈ cs, LamX.TabB base mg p.1 p.2) → FnG P w K mg base k fa fd [x] sp) (bd : ∀ (s : Shared) (u : Value), BindsTo s fd ⟨[u], []⟩ [(x, u)])
    (want : ∀ H : Hp, Start K cs a H → SqL K H a (ns.map V.int) → sp [.ref a] H (fun v _ => v = .bl true) fun _ _ _ => False) :
    codeAny (model P w) callerA (.call (.ref fa) ⟨[.ref a], []⟩) (Told s1) s1 := by
  have rv := vals_ints hi
  have sz : vs.length = ns.length := hi.length
  let tabs : List Addr := cs.map (·.2)
  have inT : ∀ {b : Addr}, b ∈ tabs → ∃ p ∈ cs, b = p.2 := fun hb => by
    obtain ⟨p, hp, same⟩ := List.mem_map.mp hb
    exact ⟨p, hp, same.symm⟩
  have ofT : ∀ {p : Addr × Addr}, p ∈ cs → p.2 ∈ tabs := fun hp => List.mem_map.mpr ⟨_, hp, rfl⟩
  have na : a ∉ tabs := fun z => by
    obtain ⟨p, hp, e⟩ := inT z
    rw [e, tf.empty p hp] at ha
    cases ha
  cases hk : K.lookup a with
  | some o =>
    have e := KX a o hk
    rw [ha] at e
    cases e
    let H : Hp := fun b => if b ∈ tabs then some (.tbl #[]) else none
    have get : ∀ b u, H b = some u → b ∈ tabs ∧ u = .tbl #[] := fun b u q => by
      by_cases hb : b ∈ tabs
      · rw [show H b = some (.tbl #[]) from if_pos hb] at q
        cases q
        exact ⟨hb, rfl⟩
      · rw [show H b = none from if_neg hb] at q
        cases q
    have st : Start K cs a H := ⟨fun p hp => if_pos (ofT hp), fun b u q => .inr ⟨inT (get b u q).1, (get b u q).2⟩, fun z => absurd (show H a = none from if_neg na) z⟩
    refine law_from (H := H) KX gl bl bb nl gn tf bmA ha hr F bd (want _ st (.inr ⟨_, vs.toArray, _, hk, rfl, rfl, rfl, by simpa [sz] using hl, by simpa using rv⟩)) st (fun b u q => ?_)
    obtain ⟨hb, rfl⟩ := get b u q
    obtain ⟨p, hp, rfl⟩ := inT hb
    exact tf.empty p hp
  | none =>
    let ob : Obj := { cls := .type "list", data := .seq vs.toArray }
    let H : Hp := fun b => if b ∈ tabs then some (.tbl #[]) else if b = a then some (.frz ob (.lst (ns.map V.int))) else none
    have Ha : H a = some (.frz ob (.lst (ns.map V.int))) := (if_neg na).trans (if_pos rfl)
    have get : ∀ b u, H b = some u → (b = a ∧ u = .frz ob (.lst (ns.map V.int))) ∨ (b ∈ tabs ∧ u = .tbl #[]) := fun b u q => by
      by_cases hb : b ∈ tabs
      · rw [show H b = some (.tbl #[]) from if_pos hb] at q
        cases q
        exact .inr ⟨hb, rfl⟩
      · by_cases hc : b = a
        · rw [hc, Ha] at q
          cases q
          exact .inl ⟨hc, rfl⟩
        · rw [show H b = none from (if_neg hb).trans (if_neg hc)] at q
          cases q
    have st : Start K cs a H := ⟨fun p hp => if_pos (ofT hp), fun b u q => (get b u q).imp (fun z => ⟨z.1, ob, _, z.2⟩) (fun z => ⟨inT z.1, z.2⟩), fun _ => hk⟩
    refine law_from (H := H) KX gl bl bb nl gn tf bmA ha hr F bd (want H st (.inl (.inr ⟨ob, Ha⟩))) st (fun b u q => ?_)
    rcases get b u q with ⟨rfl, rfl⟩ | ⟨hb, rfl⟩
    · exact ⟨ha, (List.length_map ..).symm ▸ hl, vs, _, rv, ha⟩
    · obtain ⟨p, hp, rfl⟩ := inT hb
      exact tf.empty p hp
end
/-- the law's call, from the facts of the top -/
theorem walk_g {l : PySem.W.OpenLaw} {n k : Nat} {q : Program} {loose : List Str} {XP : (Str → Option Value) → Heap → Prop} {YP : World → Heap → Prop} {d : DefRec} {x : Str} (hn : l.most = some n) (hn2 : n ≤ sizeLine) (hdf : d.params.defaults = []) (hr : Room k callerA)
    (F : ∀ (wd : World) (mg : Str → Option Value) (at_ : Addr) (hp : Heap), YP wd hp → hp.Ns mainGlobals mg → mg d.name = some (.ref at_) → ∃ (K : PySem.W.Frag) (fd : FuncData) (sp : Sp) (cs : List (Addr × Addr)), K.In hp ∧ TabFacts K hp cs ∧ (∀ (st : Shared) (u : Value), BindsTo st fd ⟨[u], []⟩ [(x, u)]) ∧
      (∀ (H : Hp) (p : Addr) (script : List Int), script.length ≤ n → Start K cs p H → SqL K H p (script.map V.int) → sp [.ref p] H (fun v _ => v = .bl true) fun _ _ _ => False) ∧ ∀ base : Heap, K.In base → base.Ns mainGlobals mg → (∀ p ∈ cs, LamX.TabB base mg p.1 p.2) → FnG l.prog wd K mg base k at_ fd [x] sp) : PySem.W.WalkO q loose XP YP l.row.toRowW d [] (fun f vs => PySem.call f vs) := by
  refine Att.attach_call hn hdf ?_
  intro w s0 s1 mg mb fa o pm cd doc a vs ns G Y ho hd hcd hmg hobj hints hlen hg
  rcases F w mg fa _ Y G.T.g hmg with ⟨K, fd, sp, cs, KX, tf, hb, hsp, hF⟩
  exact law_to KX G.T.g G.T.b G.T.builtins G.T.nolimit hg tf G.T.bmain hobj hints (Nat.le_trans hlen hn2) hr hF hb fun H st hS => hsp H a ns hlen st hS
theorem ints_dr {T : Tab} {K : PySem.W.Frag} {G : Hp} {ι : List Addr} : ∀ ns : List Int, DRs T K G ι (ns.map D.int) (ns.map V.int)
  | [] => DRs.nil
  | n :: r => DRs.cons (by simp only [DR]) (ints_dr r)
/-- no table -/
def offT (H : Hp) : Hp := fun b => match H b with
  | some (.tbl _) => none
  | o => o
theorem offT_sub (H : Hp) : Same (offT H) H := fun b u q => by
  unfold offT at q
  split at q
  · cases q
  · exact q
theorem offT_of {H : Hp} {b : Addr} {o : HO} (h : H b = some o) (n : noTab o = true) : offT H b = some o := by
  unfold offT
  rw [h]
  cases o <;> first | rfl | cases n
theorem offT_no (H : Hp) : ∀ b o, offT H b = some o → noTab o = true := fun b o q => by
  have e := offT_sub H b o q
  cases o with
  | tbl ps =>
    unfold offT at q
    rw [e] at q
    cases q
  | _ => rfl
theorem sq_off {K : PySem.W.Frag} {H : Hp} {a : Addr} {vs : List V} (h : SqL K H a vs) : SqL K (offT H) a vs := by
  rcases h with (told | ⟨o, told⟩) | inK
  · exact .inl (.inl (offT_of told rfl))
  · exact .inl (.inr ⟨o, offT_of told rfl⟩)
  · exact .inr inK
/-- the law's def, at the script -/
theorem law_sp {T : Tab} {K : PySem.W.Frag} {sem : List D → M D} {H : Hp} {a : Addr} {ns : List Int} {cs : List (Addr × Addr)} (st : Start K cs a H) (hT : ∀ q ∈ T.tabs K, ∃ p ∈ cs, q.1 = p.2) (hS : SqL K H a (ns.map V.int)) (S0 : Store) (hS0 : S0 = ⟨[], 0⟩) (h : ∃ S', sem [.scr (ns.map D.int)] S0 = .ok (.bl true) S') (hh : T.hot = none := by rfl) :
    spJ T K 1 sem [.ref a] H (fun v _ => v = .bl true) fun _ _ _ => False := by
  obtain ⟨S', h⟩ := h
  subst hS0
  refine ⟨rfl, [.scr (ns.map D.int)], fun _ => none, ⟨[], 0⟩, [], offT H, ?em, DRs.cons (by simp only [DR]; exact ⟨a, _, rfl, sq_off hS, ints_dr ns⟩) DRs.nil, ?th⟩
  case em =>
    refine { sub := offT_sub H, fr := (fun _ _ e => by cases e), len := rfl, nd := List.nodup_nil, old := (fun _ z => (List.not_mem_nil z).elim), oldP := (fun _ z => (List.not_mem_nil z).elim), obj := (fun n o e => by cases e), dis := (fun _ _ e => by cases e), tb := fun q hq => ?_, noG := offT_no H, noF := (fun _ _ e => by cases e), ht := (fun a e => by rw [hh] at e; cases e) }
    obtain ⟨p, hp, e⟩ := hT q hq
    exact LamX.TabS.nil (by rw [e]; exact st.tab p hp)
  case th =>
    rw [h]
    intro v ι' G' H' em x r
    simpa only [DR] using r
/-! ### the facts of the top, the tables left out of K -/
def obsY (ex : PySem.W.Frag → Bool) (fn : List Df) (tf : List He.Defn) (g : Addr → Option Obj) (K : PySem.W.Frag) : AlZ := ((obsZ ex fn K).1 && He.tabsB g tf K, (obsZ ex fn K).2)
structure SaysY (ex : PySem.W.Frag → Bool) (fn : List Df) (tf : List He.Defn) (h : Heap) (K : PySem.W.Frag) : Prop where
  z : SaysZ ex fn K
  t : TabFacts K h (tf.map (He.cT K))
end J
set_option Elab.async false
set_option linter.all false
set_option maxRecDepth 100000
set_option maxHeartbeats 410000
/-! JI: tables of names, the facts' Bools -/
namespace J
open PySem PySem.Spec L2 PyProof.Rows
def nameAt (l : List Str) (i : Nat) : Str := match l[i]? with
  | some x => x
  | none => ⟨#[i]⟩
theorem nameAt_inj {l : List Str} (nd : l.Nodup) (no : ∀ x ∈ l, x.cps.size ≠ 1) (i j : Nat) (h : nameAt l i = nameAt l j) : i = j := by
  unfold nameAt at h
  cases a : l[i]? with
  | none =>
    cases b : l[j]? with
    | none =>
      rw [a, b] at h
      have h' : (#[i] : Array Nat) = #[j] := congrArg Str.cps h
      simpa using h'
    | some y =>
      rw [a, b] at h
      have h' : (⟨#[i]⟩ : Str) = y := h
      exact absurd (by rw [← h']; rfl) (no y (List.mem_of_getElem? b))
  | some x =>
    cases b : l[j]? with
    | none =>
      rw [a, b] at h
      have h' : x = (⟨#[j]⟩ : Str) := h
      exact absurd (by rw [h']; rfl) (no x (List.mem_of_getElem? a))
    | some y =>
      rw [a, b] at h
      have h' : x = y := h
      obtain ⟨hi, ei⟩ := List.getElem?_eq_some_iff.mp a
      obtain ⟨hj, ej⟩ := List.getElem?_eq_some_iff.mp b
      exact (List.getElem_inj nd).mp (by rw [ei, ej, h'])
def mkTab (cn fn : List Str) (fs : List (List Nat)) (nd : fn.Nodup) (no : ∀ x ∈ fn, x.cps.size ≠ 1) (tabs : PySem.W.Frag → List (Addr × Str) := fun _ => []) : Tab where
  cn := fun c => cn.getD c ⟨#[]⟩
  fn := nameAt fn
  fs := fun c => fs.getD c []
  inj := nameAt_inj nd no
  tabs := tabs
def plainTB (K : PySem.W.Frag) (C : Addr) : Bool := decide (PySem.W.findIn K (.ref C) "__bool__" = some none) && decide (PySem.W.findIn K (.ref C) "__len__" = some none)
theorem plainTB_ok {K : PySem.W.Frag} {C : Addr} (h : plainTB K C = true) : PlainTru K C := by
  unfold plainTB at h
  simp only [decide_eq_true_eq, Bool.and_eq_true] at h
  exact ⟨h.1, h.2⟩
end J
set_option Elab.async false
set_option linter.all false
set_option maxRecDepth 100000
set_option maxHeartbeats 1010000
/-! JIr: the facts of the top over all its objects (no reaching from the globals) -/
namespace J
open PySem PySem.Spec L2
def seeA (n : Nat) (g : Addr → Option Obj) : PySem.W.Frag := He.frT g (List.range n)
theorem saysA_of {as : List Addr} {ex : PySem.W.Frag → Bool} {fn : List Df} {tf : List He.Defn} {h : Heap} (e : obsY ex fn tf h.get? (He.frT h.get? as) = (true, fn.map Df.val)) : (He.frT h.get? as).In h ∧ SaysY ex fn tf h (He.frT h.get? as) := by
  have inH : (He.frT h.get? as).In h := He.frT_in
  obtain ⟨e1, vals⟩ := Prod.mk.inj e
  obtain ⟨e3, e4⟩ := Bool.and_eq_true_iff.mp e1
  have each : ∀ d ∈ tf, PySem.W.codeHdIn (He.frT h.get? as) (He.cT (He.frT h.get? as) d).1 (He.cT (He.frT h.get? as) d).2 = true ∧ ∃ o, h.get? (He.cT (He.frT h.get? as) d).2 = some o ∧ He.emptyTab o = true := by
    intro d hd
    obtain ⟨y1, y2⟩ := Bool.and_eq_true_iff.mp (List.all_eq_true.mp e4 d hd)
    refine ⟨y1, ?_⟩
    rcases Option.eq_none_or_eq_some (h.get? (He.cT (He.frT h.get? as) d).2) with q | ⟨o, q⟩
    · rw [q] at y2
      cases y2
    · rw [q] at y2
      exact ⟨o, q, y2⟩
  refine ⟨inH, saysZ_of (Prod.ext e3 vals), fun p hp => ?_, fun p hp => ?_, fun p hp => ?_⟩
  · obtain ⟨d, hd, rfl⟩ := List.mem_map.mp hp
    obtain ⟨_, o, q, y⟩ := each d hd
    rw [q, He.emptyTab_eq y]
  · obtain ⟨d, hd, rfl⟩ := List.mem_map.mp hp
    obtain ⟨_, o, q, y⟩ := each d hd
    exact He.frT_none q y
  · obtain ⟨d, hd, rfl⟩ := List.mem_map.mp hp
    exact PySem.W.codeHd_of_K inH (each d hd).1
def hookA (ex : PySem.W.Frag → Bool) (fn : List Df) (tf : List He.Defn) : PySem.W.Hook where
  α := AlZ
  obs := fun s => obsY ex fn tf s.heap.get? (seeA s.heap.objs.size s.heap.get?)
  val := fun _ => (true, fn.map Df.val)
  says := fun _ h => ∃ K : PySem.W.Frag, K.In h ∧ SaysY ex fn tf h K
  of := fun _ _ e => ⟨_, saysA_of e⟩
  keeps := fun _ _ _ z k => z.elim fun K y => ⟨K, PySem.W.Frag.In.keeps y.1 k, y.2.z, fun p hp => k _ _ (y.2.t.empty p hp), y.2.t.out, fun p hp => (y.2.t.code p hp).keeps k⟩
def seeB (ex : PySem.W.Frag → Bool) (fn : List Df) (tf : List He.Defn) (s : PySem.W.SharedT) : AlZ := obsY ex fn tf (HandSHeadRun.getT s) (seeA s.n (HandSHeadRun.getT s))
theorem seeB_eq {ex : PySem.W.Frag → Bool} {fn : List Df} {tf : List He.Defn} (s : PySem.W.SharedT) : seeB ex fn tf s = (hookA ex fn tf).obs s.abs := by
  have q : HandSHeadRun.getT s = s.abs.heap.get? := funext (HandSHeadRun.getT_eq s)
  have z : s.n = s.abs.heap.objs.size := (PySem.W.absHeap_size s.tree s.n s.life).symm
  unfold seeB
  rw [q, z]
  rfl
end J
set_option Elab.async false
set_option linter.all false
set_option maxRecDepth 100000
set_option maxHeartbeats 410000
/-! JK: methods of instances, called -/
namespace J
open PySem PySem.Spec L2 PyProof.Rows
end J
set_option Elab.async false
set_option linter.all false
set_option maxRecDepth 100000
set_option maxHeartbeats 410000
/-! JL: repr of data, tuple(..), list(..), max and min of a list -/
namespace J
open PySem PySem.Spec L2 PyProof.Rows
open Builtin in
/-- the built-in repr, by the type's own slot -/
theorem repr_slot {prog : Program} {w : World} {A : Around} {E : Value → Shared → Prop} {s : Shared} {T id : String} {v : Value} {Q : Value → Shared → Prop} (hu : A.in1.units < cLine) (hT : s.TypeIs v T) (slot : SlotG T "__repr__" id)
    (h : wpAny (model prog w) A.in1 (call (.builtin id) [v]) (fun r s' => ∃ x u, r = .str x u ∧ Q r s') E s) : wpAny (model prog w) A (call (.builtin "repr") [v]) Q E s := by
  apply Calls.call_function_entry F.kind_repr F.plain_repr F.entry_repr (F.args_repr1 _)
  unfold Builtin.«repr»
  apply wpAny_bind (m := oneArg "repr" _); apply wpAny_pure
  apply wpAny_bind; refine wpAny_cRoomFor hu ?_
  apply wpAny_bind; refine wpAny_specialOf (name := Str.ofString "__repr__") hT slot.lookup ?_
  refine wpAny_bind (m := callSpecialIfBound? v (Str.ofString "__repr__")) (wpAny_callSpecialIfBound?_slotG (name := Str.ofString "__repr__") hT slot (wpAny_mono h ?_ fun _ _ z => z))
  rintro r s' ⟨x, u, rfl, q⟩
  apply wpAny_bind; refine wpAny_isInstance (T := "str") (b := true) rfl isSubtype_str_str ?_
  exact wpAny_pure ⟨_, rfl, q⟩
theorem repr_reads {prog : Program} {w : World} {s : Shared} : ∀ {v : Value} {d : PyData} {as : List Addr}, Reads s.heap v d as → d.showable = true → d.hasDict = false → d.shown.length ≤ sizeLine →
    ∀ (A : Around) (E : Value → Shared → Prop) (Q : Value → Shared → Prop), A.guards = some [] → A.units + 66 < cLine → d.depth ≤ 64 →
    (∀ h' u tk, (∀ b o, s.heap.get? b = some o → h'.get? b = some o) → Q (.str d.shown u) { s with heap := h', toks := tk }) → wpAny (model prog w) A (call (.builtin "repr") [v]) Q E s
  | _, _, _, .none, _, _, _, A, E, Q, _, _, _, hQ => by
    rw [PyData.shown] at hQ
    exact P.repr_of_none (hQ s.heap _ _ fun _ _ e => e)
  | _, _, _, .bool b, _, _, _, A, E, Q, _, _, _, hQ => by
    rw [PyData.shown] at hQ
    exact P.repr_of_bool (by cases b <;> exact hQ s.heap _ _ fun _ _ e => e)
  | _, _, _, .int i t, hs, _, _, A, E, Q, _, _, _, hQ => by
    rw [PyData.shown] at hQ
    exact P.repr_of_int (by simpa [PyData.showable] using hs) (hQ s.heap _ _ fun _ _ e => e)
  | _, _, _, .str x t, _, _, hz, A, E, Q, _, _, _, hQ => by
    rw [PyData.shown] at hQ
    exact P.repr_of_str (hQ s.heap _ _ fun _ _ e => e) (by simpa only [PyData.shown] using hz)
  | _, _, _, .list (a := a) (vs := vs) (xs := xs) h1 h2 h3 h4, hs, hd, hz, A, E, Q, hg, hu, hdp, hQ => by
    have hz' : (listText (PyData.shownAll xs)).length ≤ sizeLine := by rw [PyData.shown] at hz; exact hz
    have hd' : PyData.hasDictAll xs = false := by simpa [PyData.hasDict] using hd
    obtain ⟨bs, hb, hk⟩ := ReprAllK.of_readsAll (prog := prog) (w := w) h4 (by simpa [PyData.showable] using hs) (fun hx => by rw [hd'] at hx; cases hx) (fun t ht => Nat.le_trans (listText_mem_le ht) hz')
    have hna : a ∉ bs := not_mem_of_deeper (Reads.list h1 h2 h3 h4) (by simp only [PyData.depth]; omega) hb
    simp only [PyData.depth] at hdp
    rw [PyData.shown] at hQ
    have hTy : s.TypeIs (.ref a) "list" := ⟨_, h1, h2⟩
    have hu1 : A.in1.units = A.units + 1 := rfl
    refine repr_slot (by omega) hTy F.slot_list_repr.toG ?_
    obtain ⟨l⟩ := vs
    cases l with
    | nil =>
      have h5 : ReadsAll s.heap [] xs _ := h4
      cases h5
      simp only [listText_nil, PyData.shownAll] at hQ
      exact call_list_repr_empty hTy h1 h3 ⟨_, _, rfl, hQ s.heap _ _ fun _ _ e => e⟩
    | cons x l => exact call_list_reprK h1 h2 h3 hna (by simpa using hk.length_eq) (fun i y e => hk.item i y (by simpa using e)) hg (fun b _ => Clear.nil b) (by omega) (fun _ _ e => e) (fun h' u tk k => ⟨_, _, rfl, hQ h' u tk k⟩) hz'
  | _, _, _, .tuple (a := a) (xs := xs) h1 h2 h3 h4, hs, hd, hz, A, E, Q, hg, hu, hdp, hQ => by
    have hz' : (tupleText (PyData.shownAll xs)).length ≤ sizeLine := by rw [PyData.shown] at hz; exact hz
    have hd' : PyData.hasDictAll xs = false := by simpa [PyData.hasDict] using hd
    obtain ⟨bs, hb, hk⟩ := ReprAllK.of_readsAll (prog := prog) (w := w) h4 (by simpa [PyData.showable] using hs) (fun hx => by rw [hd'] at hx; cases hx) (fun t ht => Nat.le_trans (tupleText_mem_le ht) hz')
    have hna : a ∉ bs := not_mem_of_deeper (Reads.tuple h1 h2 h3 h4) (by simp only [PyData.depth]; omega) hb
    simp only [PyData.depth] at hdp
    rw [PyData.shown] at hQ
    have hTy : s.TypeIs (.ref a) "tuple" := ⟨_, h1, h2⟩
    have hu1 : A.in1.units = A.units + 1 := rfl
    refine repr_slot (by omega) hTy F.slot_tuple_repr ?_
    exact call_tuple_reprK h1 h2 h3 hna hk hg (fun b _ => Clear.nil b) (by omega) (fun _ _ e => e) (fun h' u tk k => ⟨_, _, rfl, hQ h' u tk k⟩) hz'
  | _, _, _, .dict .., _, hd, _, _, _, _, _, _, _, _ => by simp [PyData.hasDict] at hd
end J
set_option Elab.async false
set_option linter.all false
set_option maxRecDepth 100000
set_option maxHeartbeats 410000
/-! JLz: repr of data that hold empty dicts -/
namespace J
open PySem PySem.Spec L2 PyProof.Rows
mutual
/-- read off the heap: data whose dicts are empty and none of them the modules' own -/
inductive Rz (h : Heap) : Value → PyData → Prop
  | non : Rz h .none .none
  | bl (b) : Rz h (.bool b) (.bool b)
  | num (i t) : Rz h (.int i t) (.int i)
  | txt (x t) : Rz h (.str x t) (.str x)
  | lst {a o vs n xs} : h.get? a = some o → o.cls = .type "list" → o.data = .seq vs n → RzAll h vs.toList xs → Rz h (.ref a) (.list xs)
  | tup {a o vs n xs} : h.get? a = some o → o.cls = .type "tuple" → o.data = .seq vs n → RzAll h vs.toList xs → Rz h (.ref a) (.tuple xs)
  | emp {a o n} : h.get? a = some o → o.cls = .type "dict" → o.data = .dict #[] n → (a == sysModules) = false → Rz h (.ref a) (.dict [])
inductive RzAll (h : Heap) : List Value → List PyData → Prop
  | nil : RzAll h [] []
  | cons {v vs d ds} : Rz h v d → RzAll h vs ds → RzAll h (v :: vs) (d :: ds)
end
mutual
theorem Rz.reads {h : Heap} : ∀ {v : Value} {d : PyData}, Rz h v d → ∃ as, Reads h v d as
  | _, _, .non => ⟨_, .none⟩
  | _, _, .bl b => ⟨_, .bool b⟩
  | _, _, .num i t => ⟨_, .int i t⟩
  | _, _, .txt x t => ⟨_, .str x t⟩
  | _, _, .lst h1 h2 h3 h4 => let ⟨_, r⟩ := RzAll.reads h4; ⟨_, .list h1 h2 h3 r⟩
  | _, _, .tup h1 h2 h3 h4 => let ⟨_, r⟩ := RzAll.reads h4; ⟨_, .tuple h1 h2 h3 r⟩
  | _, _, .emp h1 h2 h3 _ => ⟨_, .dict (kvs := []) h1 h2 h3 .nil .nil⟩
theorem RzAll.reads {h : Heap} : ∀ {v : List Value} {d : List PyData}, RzAll h v d → ∃ as, ReadsAll h v d as
  | _, _, .nil => ⟨_, .nil⟩
  | _, _, .cons h1 h2 => let ⟨_, r⟩ := Rz.reads h1; let ⟨_, q⟩ := RzAll.reads h2; ⟨_, .cons r q⟩
end
theorem empty_text : dictText [] = PyData.shown (.dict []) := by simp only [PyData.shown, PyData.shownKv]
variable {h₀ : Heap} {w : World} {prog : Program}
mutual
theorem Rz.says : ∀ {v : Value} {d : PyData}, Rz h₀ v d → d.showable = true → d.shown.length ≤ sizeLine → ∃ bs, ReadAtMost h₀ d.depth bs ∧ ReprK prog w bs h₀ d.depth v d.shown
  | _, _, .non, s, z => ReprK.of_reads .none s (by simp [PyData.hasDict]) z
  | _, _, .bl b, s, z => ReprK.of_reads (.bool b) s (by simp [PyData.hasDict]) z
  | _, _, .num i t, s, z => ReprK.of_reads (.int i t) s (by simp [PyData.hasDict]) z
  | _, _, .txt x t, s, z => ReprK.of_reads (.str x t) s (by simp [PyData.hasDict]) z
  | _, _, .emp (a := a) h1 h2 h3 h4, _, z => by
    have r : Reads h₀ (.ref a) (.dict []) _ := .dict (kvs := []) h1 h2 h3 .nil .nil
    refine ⟨[a], ReadAtMost.cons (n := 0) r (Nat.zero_le _) (fun _ q => nomatch q), ?_⟩
    rw [← empty_text]
    exact ReprK.dict (as := []) h1 h2 h3 h4 (by simp) .nil
  | _, _, .lst (a := a) (vs := vs) (xs := xs) h1 h2 h3 h4, s, z => by
    have z1 : (listText (PyData.shownAll xs)).length ≤ sizeLine := by rw [PyData.shown] at z; exact z
    obtain ⟨bs, k1, k2⟩ := RzAll.says h4 (by simpa only [PyData.showable] using s) fun t m => Nat.le_trans (listText_mem_le m) z1
    obtain ⟨_, r⟩ := RzAll.reads h4
    have r1 := Reads.list h1 h2 h3 r
    have na : a ∉ bs := not_mem_of_deeper r1 (Nat.lt_succ_of_le (Nat.le_of_eq (by rfl))) k1
    refine ⟨a :: bs, ReadAtMost.cons r1 (Nat.le_succ_of_le (Nat.le_of_eq (by rfl))) k1, ?_⟩
    rw [PyData.shown, PyData.depth]
    rcases vs with ⟨_ | ⟨x, l⟩⟩
    · cases (show RzAll h₀ [] xs from h4)
      rw [PyData.shownAll, listText_nil]
      exact (ReprK.listEmpty h1 h2 h3 :)
    · exact ReprK.list h1 h2 h3 na (by simpa using k2.length_eq) fun i y e => k2.item i y (by simpa using e)
  | _, _, .tup (a := a) (vs := vs) (xs := xs) h1 h2 h3 h4, s, z => by
    have z1 : (tupleText (PyData.shownAll xs)).length ≤ sizeLine := by rw [PyData.shown] at z; exact z
    obtain ⟨bs, k1, k2⟩ := RzAll.says h4 (by simpa only [PyData.showable] using s) fun t m => Nat.le_trans (tupleText_mem_le m) z1
    obtain ⟨_, r⟩ := RzAll.reads h4
    have r1 := Reads.tuple h1 h2 h3 r
    have na : a ∉ bs := not_mem_of_deeper r1 (Nat.lt_succ_of_le (Nat.le_of_eq (by rfl))) k1
    refine ⟨a :: bs, ReadAtMost.cons r1 (Nat.le_succ_of_le (Nat.le_of_eq (by rfl))) k1, ?_⟩
    rw [PyData.shown, PyData.depth]
    exact ReprK.tuple h1 h2 h3 na k2
theorem RzAll.says : ∀ {v : List Value} {d : List PyData}, RzAll h₀ v d → PyData.showableAll d = true → (∀ t ∈ PyData.shownAll d, t.length ≤ sizeLine) →
    ∃ bs, ReadAtMost h₀ (PyData.depthAll d) bs ∧ ReprAllK prog w bs h₀ (PyData.depthAll d) v (PyData.shownAll d)
  | _, _, .nil, _, _ => ⟨[], (fun _ q => nomatch q), by rw [PyData.shownAll]; exact .nil⟩
  | _, _, .cons (d := d) (ds := ds) h1 h2, s, z => by
    rw [PyData.showableAll, Bool.and_eq_true] at s
    rw [PyData.shownAll] at z ⊢
    obtain ⟨b1, m1, k1⟩ := Rz.says h1 s.1 (z _ (List.mem_cons_self ..))
    obtain ⟨b2, m2, k2⟩ := RzAll.says h2 s.2 fun t q => z t (List.mem_cons_of_mem _ q)
    rw [PyData.depthAll]
    refine ⟨b1 ++ b2, (m1.mono (Nat.le_max_left _ _)).append (m2.mono (Nat.le_max_right _ _)), ?_⟩
    exact .cons ((k1.more fun _ q => List.mem_append_left _ q).level_le (Nat.le_max_left _ _)) (k2.more_le (fun _ q => List.mem_append_right _ q) (Nat.le_max_right _ _))
end
theorem repr_z {s : Shared} {v : Value} {d : PyData} (rz : Rz s.heap v d) (hs : d.showable = true) (hz : d.shown.length ≤ sizeLine) (A : Around) (E : Value → Shared → Prop) (Q : Value → Shared → Prop) (hg : A.guards = some []) (hu : A.units + 66 < cLine) (hdp : d.depth ≤ 64)
    (hQ : ∀ h' u tk, (∀ b o, s.heap.get? b = some o → h'.get? b = some o) → Q (.str d.shown u) { s with heap := h', toks := tk }) : wpAny (model prog w) A (call (.builtin "repr") [v]) Q E s := by
  have hu1 : A.in1.units = A.units + 1 := rfl
  cases rz with
  | non => exact repr_reads .none hs (by simp [PyData.hasDict]) hz A E Q hg hu hdp hQ
  | bl b => exact repr_reads (.bool b) hs (by simp [PyData.hasDict]) hz A E Q hg hu hdp hQ
  | num i t => exact repr_reads (.int i t) hs (by simp [PyData.hasDict]) hz A E Q hg hu hdp hQ
  | txt x t => exact repr_reads (.str x t) hs (by simp [PyData.hasDict]) hz A E Q hg hu hdp hQ
  | @emp a o n h1 h2 h3 h4 =>
    rw [← empty_text] at hQ hz
    refine repr_slot (by omega) ⟨_, h1, h2⟩ F.slot_dict_repr ?_
    exact call_dict_reprK (d := 0) (as := []) h1 h2 h3 h4 (by simp) .nil hg (fun b _ => Clear.nil b) (by omega) (fun _ _ e => e) (fun h' u tk k => ⟨_, _, rfl, hQ h' u tk k⟩) hz
  | @lst a o vs n xs h1 h2 h3 h4 =>
    rw [PyData.shown] at hz hQ
    obtain ⟨bs, k1, k2⟩ := RzAll.says (prog := prog) (w := w) h4 (by simpa only [PyData.showable] using hs) fun t m => Nat.le_trans (listText_mem_le m) hz
    obtain ⟨_, r⟩ := RzAll.reads h4
    have na : a ∉ bs := not_mem_of_deeper (Reads.list h1 h2 h3 r) (Nat.lt_succ_of_le (Nat.le_of_eq (by rfl))) k1
    rw [PyData.depth] at hdp
    refine repr_slot (by omega) ⟨_, h1, h2⟩ F.slot_list_repr.toG ?_
    rcases vs with ⟨_ | ⟨x, l⟩⟩
    · cases (show RzAll s.heap [] xs from h4)
      rw [PyData.shownAll, listText_nil] at hQ
      exact call_list_repr_empty ⟨_, h1, h2⟩ h1 h3 ⟨_, _, rfl, hQ s.heap _ _ fun _ _ e => e⟩
    · exact call_list_reprK h1 h2 h3 na (by simpa using k2.length_eq) (fun i y e => k2.item i y (by simpa using e)) hg (fun b _ => Clear.nil b) (by omega) (fun _ _ e => e) (fun h' u tk k => ⟨_, _, rfl, hQ h' u tk k⟩) hz
  | @tup a o vs n xs h1 h2 h3 h4 =>
    rw [PyData.shown] at hz hQ
    obtain ⟨bs, k1, k2⟩ := RzAll.says (prog := prog) (w := w) h4 (by simpa only [PyData.showable] using hs) fun t m => Nat.le_trans (tupleText_mem_le m) hz
    obtain ⟨_, r⟩ := RzAll.reads h4
    have na : a ∉ bs := not_mem_of_deeper (Reads.tuple h1 h2 h3 r) (Nat.lt_succ_of_le (Nat.le_of_eq (by rfl))) k1
    rw [PyData.depth] at hdp
    refine repr_slot (by omega) ⟨_, h1, h2⟩ F.slot_tuple_repr ?_
    exact call_tuple_reprK h1 h2 h3 na k2 hg (fun b _ => Clear.nil b) (by omega) (fun _ _ e => e) (fun h' u tk k => ⟨_, _, rfl, hQ h' u tk k⟩) hz
mutual
/-- data in the abstract heap, empty dicts among them -/
inductive Dz (K : PySem.W.Frag) (H : Hp) : V → PyData → Prop
  | non : Dz K H .non .none
  | bl (b : Bool) : Dz K H (.bl b) (.bool b)
  | num (i : Int) : Dz K H (.int i) (.int i)
  | txt (x : Str) : Dz K H (.str x) (.str x)
  | lst {a : Addr} {xs : List V} {ds : List PyData} : SqL K H a xs → DzAll K H xs ds → Dz K H (.ref a) (.list ds)
  | tup {a : Addr} {xs : List V} {ds : List PyData} : SqT K H a xs → DzAll K H xs ds → Dz K H (.ref a) (.tuple ds)
  | emp {a : Addr} : H a = some (.dK []) → Dz K H (.ref a) (.dict [])
inductive DzAll (K : PySem.W.Frag) (H : Hp) : List V → List PyData → Prop
  | nil : DzAll K H [] []
  | cons {v : V} {vs : List V} {d : PyData} {ds : List PyData} : Dz K H v d → DzAll K H vs ds → DzAll K H (v :: vs) (d :: ds)
end
section
variable {s : Shared} {H : Hp} {X : Cx} {σ : L2.St} {pins : List (Addr × Obj)}
mutual
theorem Dz.rz (I : Inv X pins σ H s) : ∀ {d : PyData} {v : V} {u : Value}, Dz X.K H v d → RelV v u → Rz s.heap u d
  | _, _, _, .non, r => by cases r; exact .non
  | _, _, _, .bl b, r => by cases r; exact .bl b
  | _, _, _, .num i, r => by obtain ⟨t, rfl⟩ := r; exact .num i t
  | _, _, _, .txt x, r => by obtain ⟨t, rfl⟩ := r; exact .txt x t
  | _, _, _, .lst hs ha, r => by
    cases r
    obtain ⟨us, ru, ⟨ob, m, a1, a2, _, a3⟩, _⟩ := I.list hs
    exact .lst a1 a2 a3 (DzAll.rz I ha ru)
  | _, _, _, .tup hs ha, r => by
    cases r
    obtain ⟨us, ru, ⟨ob, a1, a2, m, a3⟩, _⟩ := I.tuple hs
    exact .tup a1 a2 a3 (DzAll.rz I ha ru)
  | _, _, _, .emp he, r => by
    cases r
    obtain ⟨_, hm, vs, kv, o, es, ep, ho, hx, hd, _, hes, _⟩ := dk_of I.hok he
    cases kv
    have : es = #[] := by
      rcases es with ⟨l⟩
      cases l with
      | nil => rfl
      | cons x l => cases hes
    subst this
    exact .emp ho hx.1 hd hm
theorem DzAll.rz (I : Inv X pins σ H s) : ∀ {d : List PyData} {v : List V} {u : List Value}, DzAll X.K H v d → Vals v u → RzAll s.heap u d
  | _, _, _, .nil, r => by cases r; exact .nil
  | _, _, _, .cons h1 h2, r => by cases r with | cons r1 r2 => exact .cons (Dz.rz I h1 r1) (DzAll.rz I h2 r2)
end
end
mutual
def toPz : D → Option PyData
  | .non => some .none
  | .bl b => some (.bool b)
  | .int i => some (.int i)
  | .str x => some (.str ⟨x.toArray⟩)
  | .lst xs => (toPzs xs).map .list
  | .tup xs => (toPzs xs).map .tuple
  | .dct [] [] => some (.dict [])
  | _ => none
def toPzs : List D → Option (List PyData)
  | [] => some []
  | x :: xs => match toPz x, toPzs xs with
    | some a, some b => some (a :: b)
    | _, _ => none
end
section
variable {T : Tab} {K : PySem.W.Frag}
mutual
theorem toPz_ok {F : Hp} {S : Store} {ι : List Addr} {G H : Hp} (em : Em T K F S ι G H) : ∀ {x : D} {v : V} {p : PyData}, DR T K G ι x v → toPz x = some p → Dz K H v p
  | .non, _, _, h, e => by simp only [DR] at h; rw [toPz] at e; cases e; subst h; exact .non
  | .bl b, _, _, h, e => by simp only [DR] at h; rw [toPz] at e; cases e; subst h; exact .bl b
  | .int b, _, _, h, e => by simp only [DR] at h; rw [toPz] at e; cases e; subst h; exact .num b
  | .str b, _, _, h, e => by simp only [DR] at h; rw [toPz] at e; cases e; subst h; exact .txt _
  | .lst xs, _, _, h, e => by
    simp only [DR] at h
    rw [toPz, Option.map_eq_some_iff] at e
    obtain ⟨a, vs, rfl, q, r⟩ := h
    obtain ⟨ps, e1, rfl⟩ := e
    exact .lst (SqL.of (em.sub _ _ q)) (toPzs_ok em r e1)
  | .tup xs, _, _, h, e => by
    simp only [DR] at h
    rw [toPz, Option.map_eq_some_iff] at e
    obtain ⟨a, vs, rfl, q, r⟩ := h
    obtain ⟨ps, e1, rfl⟩ := e
    exact .tup (SqT.of (em.sub _ _ q)) (toPzs_ok em r e1)
  | .dct [] [], _, _, h, e => by
    simp only [DR, DRs] at h
    rw [toPz] at e
    cases e
    obtain ⟨a, vs, rfl, _, q, rfl⟩ := h
    rcases q with ⟨_, q⟩ | ⟨n, _⟩
    · exact .emp (em.sub _ _ q)
    · exact absurd rfl n
  | .dct (_ :: _) _, _, _, _, e => by simp [toPz] at e
  | .dct [] (_ :: _), _, _, _, e => by simp [toPz] at e
  | .dcu _ _, _, _, _, e => by simp [toPz] at e
  | .ty _, _, _, _, e => by simp [toPz] at e
  | .glo _, _, _, _, e => by simp [toPz] at e
  | .scr _, _, _, _, e => by simp [toPz] at e
  | .ins _ _, _, _, _, e => by simp [toPz] at e
  | .exn _ _ _, _, _, _, e => by simp [toPz] at e
  | .ref _, _, _, _, e => by simp [toPz] at e
theorem toPzs_ok {F : Hp} {S : Store} {ι : List Addr} {G H : Hp} (em : Em T K F S ι G H) : ∀ {x : List D} {v : List V} {p : List PyData}, DRs T K G ι x v → toPzs x = some p → DzAll K H v p
  | [], _, _, h, e => by simp only [DRs] at h; rw [toPzs] at e; cases e; subst h; exact .nil
  | x :: xs, _, _, h, e => by
    simp only [DRs] at h
    obtain ⟨v, r, rfl, h1, h2⟩ := h
    rw [toPzs] at e
    split at e
    · rename_i a b e1 e2
      cases e
      exact .cons (toPz_ok em h1 e1) (toPzs_ok em h2 e2)
    · cases e
end
theorem derefz_ok {F : Hp} {S : Store} {ι : List Addr} {G H : Hp} (em : Em T K F S ι G H) {x : D} {v : V} {p : PyData} (h : DR T K G ι x v) (e : toPz (deref x S) = some p) : Dz K H v p := by
  cases x with
  | ref n =>
    rw [deref] at e
    split at e
    · rename_i xs q
      obtain ⟨a, vs, e1, h1, h2⟩ := seqL_ok (xs := xs) em h (by simp only [seqL, q])
      subst e1
      rw [toPz, Option.map_eq_some_iff] at e
      obtain ⟨ps, e1, rfl⟩ := e
      exact .lst (SqL.of h1) (toPzs_ok em h2 e1)
    · simp [toPz] at e
  | _ => exact toPz_ok em h e
end
end J
set_option Elab.async false
set_option linter.all false
set_option maxRecDepth 100000
set_option maxHeartbeats 410000
/-! JM: repr(x), tuple(..), list(..), max and min of a list -/
namespace J
open PySem PySem.Spec L2 PyProof.Rows
def rReprD (K : PySem.W.Frag) : List V → Hp → VK → Prop := fun vs H Q => ∃ v d, vs = [v] ∧ Dz K H v d ∧ d.showable = true ∧ d.depth ≤ 64 ∧ d.shown.length ≤ sizeLine ∧ Q (.str d.shown) H
theorem call_reprD {X : Cx} {k : Nat} (hr : Rg k X.A) : CallR X (.builtin "repr") (rReprD X.K) := by
  rintro pins s σ H xs us Q I r h
  obtain ⟨v, d, rfl, dp, h1, h3, h4, q⟩ := h
  rcases vals1 r with ⟨u, rfl, ru⟩
  have hu := hr.r.un
  exact repr_z (Dz.rz I dp ru) h1 h4 X.A _ _ hr.g (by omega) h3 fun h' u tk hk => ⟨.str d.shown, H, I.kept (t' := tk) hk, ⟨_, rfl⟩, q⟩
/-- the text of a value -/
def repOf (d : D) (S : Store) : Option (List Nat) := match toPz (deref d S) with
  | some p => if (p.showable && (decide (p.depth ≤ 64) && decide (p.shown.length ≤ 100000))) = true then some p.shown.cps.toList else none
  | none => none
def reprD : OpN := fun xs S => match xs with
  | [x] => (repOf x S).map .str
  | _ => none
theorem reprD_ok {T : Tab} {K : PySem.W.Frag} : CaS T K (rReprD K) reprD := by
  intro F S ι G H xs d vs Q em dr e q
  rcases xs with _ | ⟨x, _ | ⟨y, r⟩⟩
  · cases e
  · obtain ⟨v, rfl, r⟩ := dr.one
    unfold reprD repOf at e
    dsimp only at e
    cases hp : toPz (deref x S) with
    | none => rw [hp] at e; cases e
    | some p =>
      rw [hp] at e
      dsimp only at e
      split at e
      · rename_i hc
        simp only [decide_eq_true_eq, Bool.and_eq_true] at hc
        cases e
        refine ⟨v, p, rfl, derefz_ok em r hp, hc.1, hc.2.1, sz_of hc.2.2, q _ G H em (Ext.refl _ _) ?_⟩
        simp only [DR, str_of_cps]
      · cases e
  · cases e
end J
set_option Elab.async false
set_option linter.all false
set_option maxRecDepth 100000
set_option maxHeartbeats 1010000
/-! JN: zip of texts, enumerate of tuples, lists and texts -/
namespace J
open PySem PySem.Spec L2 PyProof.Rows
/-! ### iterators that hand out new pairs, by what the library's GoesN says of them -/
/-! ### zip of two texts -/
/-! ### enumerate of a tuple, of a text -/
/-! ### zip and enumerate as they are walked -/
def zipOfA : List D → Option (List D)
  | [.lst xs, .lst ys] => some (zipD xs ys)
  | [.tup xs, .tup ys] => some (zipD xs ys)
  | [.str a, .str b] => some (zipD (a.map fun c => .str [c]) (b.map fun c => .str [c]))
  | _ => none
def iZipA (ia : IA) : IA := fun ρ => M.bind (ia ρ) fun xs => lift (zipOfA xs)
def enumF : Nat → List D → List D
  | _, [] => []
  | n, x :: xs => .tup [.int (n : Nat), x] :: enumF (n + 1) xs
def enumOf : List D → Option (List D)
  | [.lst xs] => some (enumF 0 xs)
  | [.tup xs] => some (enumF 0 xs)
  | [.str a] => some (enumF 0 (a.map fun c => .str [c]))
  | _ => none
def iEnumD (ia : IA) : IA := fun ρ => M.bind (ia ρ) fun xs => lift (enumOf xs)
end J
set_option Elab.async false
set_option linter.all false
set_option maxRecDepth 100000
set_option maxHeartbeats 1010000
/-! JO: dicts (int and text keys), comprehensions that make a thing of the store -/
namespace J
open PySem PySem.Spec L2 PyProof.Rows
def kyOf : D → Option Ky
  | .int i => some (.i i)
  | .str x => some (.s x)
  | _ => none
theorem kyK_inj {a b : Ky} (h : kyK a = kyK b) : a = b := by
  cases a <;> cases b <;> simp only [kyK] at h
  · cases h; rfl
  · cases h
  · cases h
  · have e := Sum.inr.inj h
    have e2 := str_inj.mp e
    rw [e2]
def getKy (k : Ky) : List (Ky × D) → Option D
  | [] => none
  | (j, d) :: r => if j = k then some d else getKy k r
section
variable {T : Tab} {K : PySem.W.Frag} {G : Hp} {ι : List Addr}
theorem KRs.any {k : Ky} : ∀ {kvs : List (Ky × D)} {vs : List (Key × V)}, KRs T K G ι kvs vs → (kvs.any fun q => decide (q.1 = k)) = vs.any fun q => decide (q.1 = kyK k)
  | [], _, h => by cases h; rfl
  | (j, x) :: r, _, ⟨v, w, rfl, dr, rr⟩ => by
    simp only [List.any_cons, KRs.any rr]
    congr 1
    by_cases h : j = k
    · simp [h]
    · have h2 : ¬ kyK j = kyK k := fun z => h (kyK_inj z)
      simp [h, h2]
theorem KRs.length : ∀ {kvs : List (Ky × D)} {vs : List (Key × V)}, KRs T K G ι kvs vs → kvs.length = vs.length
  | [], _, h => by cases h; rfl
  | (j, x) :: r, _, ⟨u, w, rfl, dr, rr⟩ => by simp [KRs.length rr]
end
/-- a dict's entries -/
def dctOf : D → Store → Option (List (Ky × D))
  | .dct ks xs, _ => some (ks.zip xs)
  | .ref n, S => match S.get n with
    | some (.dct kvs) => some kvs
    | _ => none
  | _, _ => none
/-- d[k] -/
def dgetD : Op2 := fun x y S => match dctOf x S, kyOf y with
  | some kvs, some k => getKy k kvs
  | _, _ => none
/-! ### comprehensions that lay a thing of the store -/
end J
set_option Elab.async false
set_option linter.all false
set_option maxRecDepth 100000
set_option maxHeartbeats 1010000
/-! JP: star arguments, defs with *args, methods by keyword, tuple(..), list(..), max and min of a list -/
namespace J
open PySem PySem.Spec L2 PyProof.Rows
def iStar (ie : IE) (ir : IA) : IA := fun ρ => M.bind (ie ρ) fun x => M.bind (fun S => lift (seqA x S) S) fun xs => M.bind (ir ρ) fun ys => M.ret (xs ++ ys)
/-! ### defs with *args -/
/-- the arguments as they are bound: n by name, the rest in a tuple -/
def packV (n : Nat) (ds : List D) : List D := ds.take n ++ [.tup (ds.drop n)]
def iCallV (n : Nat) (sem : List D → M D) (ia : IA) : IE := fun ρ => M.bind (ia ρ) fun xs => if n ≤ xs.length ∧ xs.length ≤ 100000 then sem (packV n xs) else M.no
/-- n: the parameters behind self -/
def makeV (T : Tab) (frz : Bool) (c n : Nat) (sem : List D → M D) (xs : List D) : M D := fun S => if n ≤ xs.length ∧ xs.length < 100000 then (match sem (.ref S.next :: packV n xs) (S.alloc (.ins c [])) with
    | .ok .non S' => madeD T frz c S.next S'
    | .ex c fs S' => .ex c fs S'
    | _ => .no) else .no
def iMakeV (T : Tab) (frz : Bool) (c n : Nat) (sem : List D → M D) (ia : IA) : IE := fun ρ => M.bind (ia ρ) (makeV T frz c n sem)
/-! ### methods by keyword, methods without arguments -/
def iMethK (T : Tab) (c m n : Nat) (pm : List Nat) (sem : List D → M D) (io : IE) (ik : IA) : IE := fun ρ => M.bind (io ρ) fun o => fun S => match insOf T o S with
  | some (c', fs) => if c' = c ∧ getF m fs = none then M.bind (ik ρ) (fun xs => if xs.length = n ∧ (pickL pm xs).length = pm.length then sem (o :: pickL pm xs) else M.no) S else .no
  | none => .no
/-! ### tuple(x), list(x), max, min -/
def tupD : OpN := fun xs S => match xs with
  | [x] => (match x with
    | .tup ys => some (.tup ys)
    | _ => (seqR x S).map .tup)
  | _ => none
end J
set_option Elab.async false
set_option linter.all false
set_option maxRecDepth 100000
set_option maxHeartbeats 1010000
/-! JQ: len(x) and bool(x) of an instance with its own __len__; max and min of a list; bool of plain things -/
namespace J
open PySem PySem.Spec L2 PyProof.Rows
/-! ### max and min of a list of whole numbers -/
end J
set_option Elab.async false
set_option linter.all false
set_option maxRecDepth 100000
set_option maxHeartbeats 1010000
/-! JR: bool(x), x an instance whose class has __len__ and no __bool__ -/
namespace J
open PySem PySem.Spec L2 PyProof.Rows
open PySem.W (InstAt findIn isFn looks_findIn special_fn)
end J
set_option Elab.async false
set_option linter.all false
set_option maxRecDepth 100000
set_option maxHeartbeats 1010000
/-! JS: raise of an own exception that keeps one value -/
namespace J
open PySem PySem.Spec L2 PyProof.Rows
/-! ### what the text says of the class -/
/-- what is left of the making: the dict -/
theorem made_eq {H : Hp} {a dx C : Addr} {f : Str} {y : V} (ha : H a = none) (hne : dx ≠ a) :
    upd (del (upd (upd (upd H a (exo a C none)) dx (exd dx [(f, y)])) a (exo a C (some dx))) a) dx (.xd [(f, y)]) = upd H dx (.xd [(f, y)]) := by
  funext b
  by_cases h : b = dx
  · subst h
    rw [upd_same, upd_same]
  · rw [upd_ne h, upd_ne h]
    by_cases k : b = a
    · rw [k, del_same, ha]
    · rw [del_ne k, upd_ne k, upd_ne h, upd_ne k]
/-- the end of C(e, ..), its context known -/
theorem mk_endN {X : Cx} {pins : List (Addr × Obj)} {σ : L2.St} {H1 H2 : Hp} {Q : XK} {hp hp2 h2 : Heap} {g1 g2 : Array GenState} {d1 d2 : Drawn} {t1 t2 : Nat} {os1 os2 : OsState} {a C d : Addr} {fs : List (Str × V)} (T : Raises X (.ref C)) (I1 : Inv X pins σ H1 ⟨hp, g1, d1, t1, os1⟩)
    (up : hp.objs.size ≤ a) (more : ∀ b o, hp.get? b = some o → hp2.get? b = some o) (un : Un (frs X.stack) [] (upd H1 a (exo a C none)) H2 hp2 h2) (hok : HOk X.prog X.w H2 h2) (same : os2 = os1) (bare : AllBare g2)
    (isE : H2 a = some (exo a C (some d))) (isD : H2 d = some (exd d fs)) (free : H1 d = none) (told : Q (.ref C) (some d) (upd (del H2 a) d (.xd fs))) : L2N.MkP X pins σ Q (.ref a) ⟨h2, g2, d2, t2, os2⟩ := by
  have z := mk_end0 (d2 := d2) (t2 := t2) I1 up more un hok same bare isE isD free
  obtain ⟨t0, G, J, kG, gone, there, na⟩ := z
  have ctx : PXN.CtxN ({ cls := .ref C, dict := some d, data := .fields #[.ref t0, .none, .none, .none, .bool false, .none] } : Obj) := fun vs hv => by cases hv; rfl
  exact ⟨a, _, _, _, _, _, _, rfl, J, kG, gone, there, ⟨rfl, rfl, ctx⟩, rfl, rfl, na, rfl, bare, T, told⟩
end J
set_option Elab.async false
set_option linter.all false
set_option maxRecDepth 100000
set_option maxHeartbeats 1010000
/-! JT: several clauses 'except C as e' -/
namespace J
open PySem PySem.Spec L2 PyProof.Rows
section
variable {X : Cx} {n : Str} {i : Nat} {pins : List (Addr × Obj)} {D : Ends}
/-- an exception that has landed here -/
structure Landed (X : Cx) (pins : List (Addr × Obj)) (σ : L2.St) (H : Hp) (a : Addr) (cls : Value) (d : Option Addr) (B : Heap) (s : Shared) : Prop where
  fly : HandSPX.FlyingZ B (X.env :: X.outer) a (L2N.Zn cls d) s.heap
  inv : Inv X pins σ H s
  free : H a = none
  next : ∀ h, HandSPX.FlyingZ B (X.env :: X.outer) a (L2N.Zn cls d) h → s.heap.UpToSlots h → Inv X pins σ H { s with heap := h }
  loc : a ≠ X.env.locals
  far : a ∉ X.fs
theorem Landed.pin {σ : L2.St} {H : Hp} {a : Addr} {cls : Value} {d : Option Addr} {B : Heap} {s : Shared} (L : Landed X pins σ H a cls d B s) :
    ∃ oe vs, s.heap.get? a = some oe ∧ L2N.Zn cls d oe ∧ oe.data = .fields vs ∧ Inv (X.suite a ((a, oe) :: (X.pn ++ pins))) [] σ H s := by
  obtain ⟨oe, vs, g, z, dt⟩ := L.fly.there
  exact ⟨oe, vs, g, z, dt, L.inv.suite g dt L.free L.loc L.far⟩
end
end J
set_option Elab.async false
set_option linter.all false
set_option maxRecDepth 100000
set_option maxHeartbeats 1010000
/-! JU: what the law's clauses say of a caught error -/
namespace J
open PySem PySem.Spec L2 PyProof.Rows
/-- a clause of the law: except x as e: return [nm, e.f, isinstance(e, b1) and isinstance(e, b2)] -/
structure Cl where
  x : Str
  f : Str
  nm : Str
  b1 : Str
  b2 : Str
structure ClPos where
  p0 : Pos
  p1 : Pos
  p2 : Pos
  p3 : Pos
  p4 : Pos
  p5 : Pos
  p6 : Pos
  p7 : Pos
  p8 : Pos
  p9 : Pos
  p10 : Pos
  p11 : Pos
  p12 : Pos
  p13 : Pos
  p14 : Pos
  p15 : Pos
  j : Nat
def Cl.hd (q : Cl) (p : ClPos) : ExceptHandler := .ExceptHandler (some (.Name q.x p.p0)) (some "e") [.Return (some (.List [.Constant (.str q.nm) p.j p.p1, .Attribute (.Name "e" p.p2) q.f p.p3,
  .BoolOp .And [.Call (.Name "isinstance" p.p4) [.Name "e" p.p5, .Name q.b1 p.p6] [] p.p7, .Call (.Name "isinstance" p.p8) [.Name "e" p.p9, .Name q.b2 p.p10] [] p.p11] p.p12] p.p13)) p.p14] p.p15
end J
set_option Elab.async false
set_option linter.all false
set_option maxRecDepth 100000
set_option maxHeartbeats 1010000
/-! JV: the law's def that calls what it gets and tells what came -/
namespace J
open PySem PySem.Spec L2 PyProof.Rows LamX
end J
set_option Elab.async false
set_option linter.all false
set_option maxRecDepth 100000
set_option maxHeartbeats 1010000
/-! JW: a lambda handed to such a def -/
namespace J
open PySem PySem.Spec L2 PyProof.Rows LamX
end J
set_option Elab.async false
set_option linter.all false
set_option maxRecDepth 100000
set_option maxHeartbeats 1010000
/-! JX: the law's got(lambda: e), as one expression -/
namespace J
open PySem PySem.Spec L2 PyProof.Rows LamX
end J
set_option Elab.async false
set_option linter.all false
set_option maxRecDepth 100000
set_option maxHeartbeats 1010000
/-! JY: a def that makes lambdas: its code object is known -/
namespace J
open PySem PySem.Spec L2 PyProof.Rows LamX
/-! ### facts of the clauses -/
/-! ### facts of a class that is raised -/
end J
set_option Elab.async false
set_option linter.all false
set_option maxRecDepth 100000
set_option maxHeartbeats 1010000
/-! JZ: {} -/
namespace J
open PySem PySem.Spec L2
def iDct0 : IE := fun _ => M.ret (.dct [] [])
theorem je_dct0 {T : Tab} {X : Cx} {W : WX} {pos : Pos} : JE T X W (.Dict [] [] pos) iDct0 := by
  refine PE.mono pe_dnewK fun σ H Q ⟨ρ, F, S, ι, G, em, sr, h⟩ => fun p hp => ?_
  obtain ⟨em2, x2⟩ := em.frz (o := .dK []) hp
  refine h (.ref p) ι _ _ em2 x2 ?_
  simp only [DR]
  exact ⟨p, [], rfl, rfl, .inl ⟨trivial, upd_same⟩, DRs.nil⟩
/-- -n -/
def iNegC (n : Int) : IE := iC (.int (-n))
theorem je_neg {T : Tab} {X : Cx} {W : WX} {n : Int} {k : Nat} {p pos : Pos} : JE T X W (.UnaryOp .USub (.Constant (.int n) k p) pos) (iNegC n) := by
  refine PE.mono (pe_un un_neg pe_int) fun σ H Q ⟨ρ, F, S, ι, G, em, sr, h⟩ => ?_
  exact ⟨n, rfl, Thn.ok h em (by simp only [DR])⟩
end J
set_option Elab.async false
set_option linter.all false
set_option maxRecDepth 100000
set_option maxHeartbeats 1010000
/-! JZa: a list that is a sum and changes; extend; upper -/
namespace J
open PySem PySem.Spec L2
end J
set_option Elab.async false
set_option linter.all false
set_option maxRecDepth 100000
set_option maxHeartbeats 1010000
/-! JZb: try: body / except ..: .., where the body raises nothing -/
namespace J
open PySem PySem.Spec L2
end J
set_option Elab.async false
set_option linter.all false
set_option maxRecDepth 100000
set_option maxHeartbeats 1010000
/-! JZe: texts by order; how often a text is in a list -/
namespace J
open PySem PySem.Spec L2
end J
set_option Elab.async false
set_option linter.all false
set_option maxRecDepth 100000
set_option maxHeartbeats 1010000
/-! JZf: the keys and the pairs of a dict that never changes -/
namespace J
open PySem PySem.Spec L2
end J
set_option Elab.async false
set_option linter.all false
set_option maxRecDepth 100000
set_option maxHeartbeats 1010000
/-! JZg: a repeated list that changes; own methods without arguments; [e for k, x in enumerate(xs)] of a list of the store -/
namespace J
open PySem PySem.Spec L2
/-! ### what leaves the store alone -/
end J
set_option Elab.async false
set_option linter.all false
set_option maxRecDepth 100000
set_option maxHeartbeats 1010000
/-! JZh: is True, is False -/
namespace J
open PySem PySem.Spec L2
end J
set_option Elab.async false
set_option linter.all false
set_option maxRecDepth 100000
set_option maxHeartbeats 1010000
/-! JZi: xs[::-1] -/
namespace J
open PySem PySem.Spec L2
end J
set_option Elab.async false
set_option linter.all false
set_option maxRecDepth 100000
set_option maxHeartbeats 1010000
/-! JZj: dicts whose keys are tuples: d.items() of one that never changes; get, put, {} of one that does -/
namespace J
open PySem PySem.Spec L2
end J
set_option Elab.async false
set_option linter.all false
set_option maxRecDepth 100000
set_option maxHeartbeats 1010000
/-! JZk: dicts whose keys are tuples, over the store -/
namespace J
open PySem PySem.Spec L2
def getT (k : List Ky) : List (List Ky × D) → Option D
  | [] => none
  | (j, x) :: r => if j = k then some x else getT k r
theorem kys_inj : ∀ {a b : List Ky}, a.map kyK = b.map kyK → a = b
  | [], [], _ => rfl
  | [], _ :: _, h => by cases h
  | _ :: _, [], h => by cases h
  | x :: a, y :: b, h => by
    have h1 := (List.cons.inj h).1
    rw [J.kyK_inj h1, kys_inj (List.cons.inj h).2]
section
variable {T : Tab} {K : PySem.W.Frag} {G : Hp} {ι : List Addr}
theorem TRs.length : ∀ {kvs : List (List Ky × D)} {vs : List (List Key × V)}, TRs T K G ι kvs vs → kvs.length = vs.length
  | [], _, h => by
    have h' : _ = [] := h
    subst h'
    rfl
  | (k, x) :: r, _, ⟨v, us, e, _, h⟩ => by
    subst e
    simp [h.length]
theorem TRs.any {k : List Ky} : ∀ {kvs : List (List Ky × D)} {vs : List (List Key × V)}, TRs T K G ι kvs vs → (kvs.any fun q => decide (q.1 = k)) = vs.any fun q => decide (q.1 = k.map kyK)
  | [], _, z => by cases z; rfl
  | (j, x) :: r, _, ⟨v, w, rfl, dr, rr⟩ => by
    rw [List.any_cons, List.any_cons, TRs.any rr]
    by_cases h : j = k
    · simp only [h, decide_true, Bool.true_or]
    · have ne : ¬ j.map kyK = k.map kyK := fun z => h (kys_inj z)
      simp only [h, ne, decide_false, Bool.false_or]
end
end J
set_option Elab.async false
set_option linter.all false
set_option maxRecDepth 100000
set_option maxHeartbeats 1010000
/-! JZl: the pairs of a dict whose keys are tuples; a display with one such pair -/
namespace J
open PySem PySem.Spec L2
/-! ### {k: v} with a tuple as its one key -/
end J
set_option Elab.async false
set_option linter.all false
set_option maxRecDepth 100000
set_option maxHeartbeats 1010000
/-! JZm: list(text), list(xs) as lists that change; l.pop(i), l.remove(text); tuple(range(n)), list(range(n)) -/
namespace J
open PySem PySem.Spec L2
end J
set_option Elab.async false
set_option linter.all false
set_option maxRecDepth 100000
set_option maxHeartbeats 1010000
/-! JZn: zip of a text and a list, of a text and a tuple -/
namespace J
open PySem PySem.Spec L2 PyProof.Rows
end J
set_option Elab.async false
set_option linter.all false
set_option maxRecDepth 100000
set_option maxHeartbeats 1010000
/-! JZo: list(range(a, b)) -/
namespace J
open PySem PySem.Spec L2 PyProof.Rows
end J
set_option Elab.async false
set_option linter.all false
set_option maxRecDepth 100000
set_option maxHeartbeats 1010000
/-! JZp: {}, d.get(k, x), list(d) of a dict with texts or numbers as keys; zip of a tuple and a list -/
namespace J
open PySem PySem.Spec L2 PyProof.Rows
/-! ### zip of a tuple and a list -/
end J
set_option Elab.async false
set_option linter.all false
set_option maxRecDepth 100000
set_option maxHeartbeats 1010000
/-! JZq: list comprehensions of two clauses -/
namespace J
open PySem PySem.Spec L2
end J
set_option Elab.async false
set_option linter.all false
set_option maxRecDepth 100000
set_option maxHeartbeats 1010000
namespace J
open PySem PySem.Spec L2 PyProof.Rows
/-! ### sorted(xs) of texts, at any length up to a line -/
end J
set_option Elab.async false
set_option linter.all false
set_option maxRecDepth 100000
set_option maxHeartbeats 3210000
/-! JZs: len(set(texts)) -/
namespace J
open PySem PySem.Spec L2 PyProof.Rows
end J
namespace J
open PySem PySem.Spec L2 PyProof.Rows PySem.Calls
end J
set_option Elab.async false
set_option linter.all false
set_option maxRecDepth 100000
set_option maxHeartbeats 1010000
/-! JZc: raise of an own exception that keeps one value, over any built-in base -/
namespace J
open PySem PySem.Spec L2 PyProof.Rows
/-- what the text says of the class: its mro ends in tl -/
structure OexT (K : PySem.W.Frag) (C : Addr) (tl : List Value) (newId : String) : Prop where
  ini : PySem.W.excInitIn K C tl newId = true
  ovr : PySem.W.excOver K C tl = true
  hasD : PySem.W.hasDictIn K C = true
  setA : PySem.W.findIn K (.ref C) "__setattr__" = some (some (.builtin "object.__setattr__"))
  isX : PySem.W.subIn K (.ref C) (.type "BaseException") = some true
  isTy : PySem.W.typeIn K (.ref C) = some (.type "type")
  keep : PySem.W.keepIn K (.ref C) = true
def oexTB (K : PySem.W.Frag) (C : Addr) (tl : List Value) (newId : String) : Bool := PySem.W.excInitIn K C tl newId && (PySem.W.excOver K C tl && (PySem.W.hasDictIn K C && (decide (PySem.W.findIn K (.ref C) "__setattr__" = some (some (.builtin "object.__setattr__"))) && (decide (PySem.W.subIn K (.ref C) (.type "BaseException") = some true) && (decide (PySem.W.typeIn K (.ref C) = some (.type "type")) && PySem.W.keepIn K (.ref C))))))
theorem oexTB_ok {K : PySem.W.Frag} {C : Addr} {tl : List Value} {newId : String} (h : oexTB K C tl newId = true) : OexT K C tl newId := by
  simp only [oexTB, Bool.and_eq_true, decide_eq_true_eq] at h
  obtain ⟨a, b, c, d, e, f, g⟩ := h
  exact ⟨a, b, c, d, e, f, g⟩
section
variable {X : Cx} {pins : List (Addr × Obj)} {σ : L2.St} {H : Hp} {s : Shared} {a C : Addr} {f : Str} {y : V} {u : Value} {E : Value → Shared → Prop} {A : Around} {B : String} {tl : List Value} {newId : String}
/-- the object at a, as it was -/
theorem putBack (h : Heap) (a : Addr) (o : Obj) (ex : ∃ u, h.get? a = some u) (nf : o.isFreed = false) : ∃ h1 : Heap, h1.get? a = some o ∧ ∀ b, b ≠ a → h1.get? b = h.get? b := by
  obtain ⟨u, hu⟩ := ex
  refine ⟨h.update a fun _ => o, ?_, fun b hb => Heap.get?_update_ne _ _ _ _ hb⟩
  exact Heap.get?_update_self _ hu nf
/-- the first store into such an object: self.f = y -/
theorem ost_t {Q : Unit → Shared → Prop} (SF : StoreFacts B tl "object.__setattr__" "object") (T : OexT X.K C tl newId) (I : Inv X pins σ H s) (at_ : H a = some (exo a C none)) (hno : PySem.W.findIn X.K (.ref C) f = some none) (ry : RelV y u)
    (go : ∀ (dx : Addr) (s' : Shared), H dx = none → dx ≠ a → Inv X pins σ (upd (upd H dx (exd dx [(f, y)])) a (exo a C (some dx))) s' → Q () s') : wpAny (model X.prog X.w) A (setAttr (.ref a) f u) Q E s := by
  obtain ⟨t1, ho⟩ := exo_at I.hok at_
  have Kin := I.kIn
  have tk : PySem.W.takerIn X.K C f = some none := by unfold PySem.W.takerIn; rw [hno]; rfl
  have fin : ∀ (h' : Heap) (t' : Nat), h'.get? a = some { cls := .ref C, dict := some s.heap.objs.size, data := .fields #[.ref t1, .none, .none, .none, .bool false, .none] } → (∀ b o, b ≠ a → s.heap.get? b = some o → h'.get? b = some o) → h'.Ns1 s.heap.objs.size (fun z => if z = f then some u else none) → Q () { s with heap := h', toks := t' } := fun h' t' ha kept ns => by
    have fresh : H s.heap.objs.size = none := I.hok.fresh (Nat.le_refl _)
    have ne : s.heap.objs.size ≠ a := Nat.ne_of_gt (Heap.lt_size ho)
    obtain ⟨h1, g1, g2⟩ := putBack h' a { cls := .ref C, dict := none, data := .fields #[.ref t1, .none, .none, .none, .bool false, .none] } ⟨_, ha⟩ rfl
    have sub : ∀ b o, s.heap.get? b = some o → h1.get? b = some o := fun b o q => by
      by_cases z : b = a
      · subst z
        rw [ho] at q
        cases q
        exact g1
      · rw [g2 b z]
        exact kept b o z q
    have ns1 : h1.Ns1 s.heap.objs.size (fun z => if z = f then some u else none) := ns.at fun o q => by rw [g2 _ ne]; exact q
    have rel : ∀ g, RelO ([(f, y)].lookup g) (if g = f then some u else none) := relO_put (fs := []) (mA := fun _ => none) ry fun g => True.intro
    have I1 : Inv X pins σ (upd H s.heap.objs.size (exd s.heap.objs.size [(f, y)])) { s with heap := h1, toks := t' } := I.laid (t' := t') sub (Nat.le_refl _) (exd_ok ns1 rel)
    have I2 := I1.write (t' := t') (h' := h') (x := a) (e := a) (o := exo a C (some s.heap.objs.size)) (by rw [upd_ne (Ne.symm ne), at_]; exact True.intro) (.inl rfl) (fun b o z q => by rw [← g2 b z]; exact q) ⟨_, ha⟩ (exo_ok ha)
    exact go s.heap.objs.size _ fresh ne I2
  obtain ⟨hp, gs, dr, tk0, os⟩ := s
  refine PySem.W.set_plain Kin (ox := { cls := .ref C, dict := none, data := .fields #[.ref t1, .none, .none, .none, .bool false, .none] }) (od := none) ⟨ho, rfl, rfl, trivial⟩ T.setA ?_
  refine PySem.W.osa_openX (od := none) SF Kin ⟨ho, rfl, rfl, trivial⟩ T.ovr tk fun b => ?_
  have hdi := T.hasD
  unfold PySem.W.hasDictIn at hdi
  cases hcd : PySem.W.clsIn X.K C with
  | none => rw [hcd] at hdi; cases hdi
  | some cd =>
    rw [hcd] at hdi
    have look : PySem.W.Looks (model X.prog X.w) hp (classData C) cd := PySem.W.looks_clsIn Kin hcd
    have hdd : cd.hasDict = true := hdi
    obtain ⟨f1, f2, f3, f4, f5, f6, f7, f8, f9, f10, f11⟩ := cd
    dsimp only at hdd
    subst hdd
    have ne : a ≠ hp.objs.size := Nat.ne_of_lt (Heap.lt_size ho)
    dsimp only
    unfold Builtin.ObjectAttr.storeInOwnDict Builtin.ObjectAttr.ownDictForStores
    repeat (first
      | with_reducible refine HandSPX.store_in_new ?_ ?_
      | with_reducible refine wpAny_loadPart_at ho ?_
      | with_reducible refine look.at ?_
      | wp_step)
    · exact ⟨_, #[], _, (Heap.get?_update_ne _ _ _ _ (Ne.symm ne)).trans (Heap.get?_push_at rfl rfl), rfl, fun e he => absurd he (by simp), fun _ => rfl⟩
    · intro h' t' ns same
      have ho1 : (hp.push { cls := .type "dict", data := .dict #[] }).get? a = some { cls := .ref C, data := .fields #[.ref t1, .none, .none, .none, .bool false, .none] } := Heap.get?_push_of_some _ ho
      refine fin h' t' ((same.2 a ne).trans (Heap.get?_update_self _ ho1 rfl)) (fun b o z q => ?_) ns
      exact (same.2 b (Nat.ne_of_lt (Heap.lt_size q))).trans ((Heap.get?_update_ne _ _ _ _ z).trans (Heap.get?_push_of_some _ q))
end
end J
set_option Elab.async false
set_option linter.all false
set_option maxRecDepth 100000
set_option maxHeartbeats 1010000
/-! JZd: raise of an own exception over any built-in base, as a statement -/
namespace J
open PySem PySem.Spec L2 PyProof.Rows
/-- self.f = e, on an exception that is being made -/
def tOstT (K : PySem.W.Frag) (tl : List Value) (newId : String) (f : Str) (to te : TE) : TS := fun D σ H => te σ H fun y H1 => to σ H1 fun x H2 => ∃ a C : Addr, x = .ref a ∧ OexT K C tl newId ∧ PySem.W.findIn K (.ref C) f = some none ∧
  H2 a = some (exo a C none) ∧ ∀ dx, H2 dx = none → dx ≠ a → D.nx σ (upd (upd H2 dx (exd dx [(f, y)])) a (exo a C (some dx)))
section
variable {X : Cx} {o e : Expr} {to te : TE} {f : Str} {p' pos : Pos} {B : String} {tl : List Value} {newId : String}
theorem ps_ostT (SF : StoreFacts B tl "object.__setattr__" "object") (ho : PE X o to) (he : PE X e te) (hs : swapsWith e (some (.Attribute o f p')) pos.line X.env = pure false := by rfl) : PS X (.Assign [.Attribute o f p'] e pos) (tOstT X.K tl newId f to te) := by
  constructor
  intro pins s σ H D I want
  refine plainObj_wpAny_Assign_Attribute (thn (he.run pins s σ H _ I want) ?_) hs
  rintro v s1 ⟨y, H1, I1, r1, q1⟩
  refine thn (ho.run pins s1 σ H1 _ I1 q1) ?_
  rintro w s2 ⟨x, H2, I2, r2, a, C, rfl, T, no, at_, go⟩
  obtain rfl : w = Value.ref a := r2
  exact ost_t SF T I2 at_ no r1 fun dx s' n ne J => ⟨σ, _, J, go dx n ne⟩
end
/-- what is known of a built-in base -/
structure BaseT (tl : List Value) (newId : String) : Prop where
  fb : ∃ B i, ExcBaseFacts B newId i tl
  sf : ∃ B, StoreFacts B tl "object.__setattr__" "object"
abbrev tlA : List Value := [.type "ArithmeticError", .type "Exception", .type "BaseException", .type "object"]
abbrev tlL : List Value := [.type "LookupError", .type "Exception", .type "BaseException", .type "object"]
theorem base_A : BaseT tlA "ArithmeticError.__new__" := ⟨⟨_, _, F.excBase_ArithmeticError⟩, ⟨_, F.store_ArithmeticError⟩⟩
theorem base_L : BaseT tlL "LookupError.__new__" := ⟨⟨_, _, F.excBase_LookupError⟩, ⟨_, F.store_LookupError⟩⟩
/-- C's own __init__: self.f = f -/
structure ExcVT (P : Program) (w : World) (K : PySem.W.Frag) (mg : Str → Option Value) (base : Heap) (C : Addr) (x f : Str) (tl : List Value) (newId : String) : Prop where
  oex : OexT K C tl newId
  at_ : mg x = some (.ref C)
  ini : ∃ fI fd, PySem.W.findIn K (.ref C) "__init__" = some (some (.ref fI)) ∧ PySem.W.typeIn K (.ref fI) = some (.type "function") ∧ Binds K fd ["self", f] [] ∧
    FnOk P w K mg base (L2N.CX P w) 1 fI fd ["self", f] fun vs H Q _ => ∃ (a : Addr) (y : V), vs = [.ref a, y] ∧ H a = some (exo a C none) ∧ ∀ dx, H dx = none → dx ≠ a → Q .non (upd (upd H dx (exd dx [(f, y)])) a (exo a C (some dx)))
section
variable {w : World} {P : Program} {K : PySem.W.Frag} {base : Heap} {mg : Str → Option Value} {tl : List Value} {newId : String}
theorem excVT_of {C fI : Addr} {x f q : Str} {fd : FuncData} {params : Arguments} {scope : Scope} {p1 p2 p3 p4 : Pos} (bt : BaseT tl newId) (oex : OexT K C tl newId) (hm : mg x = some (.ref C)) (hI : PySem.W.findIn K (.ref C) "__init__" = some (some (.ref fI))) (hT : PySem.W.typeIn K (.ref fI) = some (.type "function"))
    (hno : PySem.W.findIn K (.ref C) f = some none) (F : FunD K "__init__" q params [.Assign [.Attribute (.Name "self" p1) f p2] (.Name f p3) p4] scope [] [] fI fd) (S : FnScope ["self", f] ["self", f] scope) (hb : Binds K fd ["self", f] [])
    (hd1 : (f == ("__debug__" : Str)) = false) (hd2 : (f == ("__classdict__" : Str)) = false) (hsw : ∀ X : Cx, swapsWith (.Name f p3) (some (.Attribute (.Name "self" p1) f p2)) p4.line X.env = pure false) : ExcVT P w K mg base C x f tl newId := by
  obtain ⟨_, B, SF⟩ := bt
  refine ⟨oex, hm, fI, fd, hI, hT, hb, F.ok (CX := L2N.CX P w) S (fun vs H Q E z => ?_) fun cdv A outer s H vs Q E hr z => ?_⟩
  · obtain ⟨a, y, rfl, _⟩ := z
    rfl
  · obtain ⟨a, y, rfl, ha, q⟩ := z
    have v0 : Vis scope "self" := by
      rcases S.par "self" List.mem_cons_self with e | e
      · exact .inl e
      · exact .inr (.inl e)
    have v1 : Vis scope f := by
      rcases S.par f (List.mem_cons_of_mem _ List.mem_cons_self) with e | e
      · exact .inl e
      · exact .inr (.inl e)
    refine ⟨_, pss_one (ps_ostT (newId := newId) SF (pe_var (i := 0) rfl v0 (by decide) (by decide)) (pe_var (i := 1) rfl v1 hd1 hd2) (hsw _)), ?_⟩
    exact ⟨y, rfl, .ref a, rfl, a, C, rfl, oex, hno, ha, fun dx hn hne => q dx hn hne⟩
end
/-- C(e): the exception made, its one value kept -/
theorem pmk_t {X : Cx} {CX : CXT} {x : Str} {C fI : Addr} {k : Nat} {fd : FuncData} {ps : List Str} {sp : Sp} {e : Expr} {ta : TA} {p pos : Pos} {tl : List Value} {newId : String} (bt : BaseT tl newId) (T : OexT X.K C tl newId) (hI : PySem.W.findIn X.K (.ref C) "__init__" = some (some (.ref fI)))
    (hF : PySem.W.typeIn X.K (.ref fI) = some (.type "function")) (G : FnOk X.prog X.w X.K X.mg X.base CX k fI fd ps sp) (hr : Room (k + 1) X.A) (hb : Binds X.K fd ps []) (ps0 : Passes CX X (fun _ _ _ => False)) (hg : Gl X x) (hm : X.mg x = some (.ref C)) (ha : PA X [e] ta)
    (hdb : (x == ("__debug__" : Str)) = false := by decide) (h1 : starEach [e] X.env = (false, eval e X.env) :: starEach [] X.env := by rfl) (h2 : (backTo pos (starEach [] X.env)).any (·.1) = false := by rfl) : L2N.PMk X (.Call (.Name x p) [e] [] pos) (tMkO C sp [] ta) := by
  obtain ⟨⟨B, i, FB⟩, _⟩ := bt
  intro pins s σ H Q I want
  refine wpAny_Call_Name_kw (ld_glob I hg hm (PySem.W.callWith_K (h₀ := X.base) I.ok.mod.kin T.keep (thn (ha.run pos pins s σ H _ I want) ?_) h1 h2) hdb)
  rintro us s1 ⟨vs, H1, I1, rel, short, go⟩
  refine ⟨I1.kIn, ?_⟩
  change wpAny _ _ (call (.ref C) us) _ _ _
  obtain ⟨nm, N, qn, bs, bm, hdct, sn, sub, ab, col, dd, k0, k1, k2, k3, k5, hC, hT⟩ := PySem.W.excInit_of I1.kIn T.ini
  obtain ⟨hp, gs, dr, tk, os⟩ := s1
  have up : hp.objs.size ≤ hp.objs.size + 1 := Nat.le_succ _
  have free : H1 (hp.objs.size + 1) = none := I1.hok.fresh up
  have sp1 := go (hp.objs.size + 1) free
  have more : ∀ b o, hp.get? b = some o → ((hp.push (PySem.W.kdv_tup us)).push (HandSPX.excO C hp.objs.size)).get? b = some o := fun b o q => Heap.get?_push_of_some _ (Heap.get?_push_of_some _ q)
  have here : ((hp.push (PySem.W.kdv_tup us)).push (HandSPX.excO C hp.objs.size)).get? (hp.objs.size + 1) = some (HandSPX.excO C hp.objs.size) := by heap_get
  have I2 : Inv X pins σ (upd H1 (hp.objs.size + 1) (exo (hp.objs.size + 1) C none)) ⟨(hp.push (PySem.W.kdv_tup us)).push (HandSPX.excO C hp.objs.size), gs, dr, tk, os⟩ := I1.laid (t' := tk) more up (exo_ok here)
  have rel2 : Vals (V.ref (hp.objs.size + 1) :: (vs ++ [])) (Value.ref (hp.objs.size + 1) :: us) := .cons rfl (by rw [List.append_nil]; exact rel)
  have len2 : (Value.ref (hp.objs.size + 1) :: us ++ []).length = ps.length := by
    rw [List.append_nil, ← rel2.length]
    exact G.len _ _ _ _ sp1
  have few : us.length ≤ sizeLine := by
    have := Paired.length rel
    rw [sizeLine_eq]
    omega
  have bnd := hb _ (Value.ref (hp.objs.size + 1) :: us) I2.kIn len2
  rw [List.append_nil] at bnd
  refine wpAny_call (HandSPX.call_own FB hT hC (PySem.W.looks_findIn I1.kIn hI) (fun self => PySem.W.bind_fn I1.kIn self hF) few ?_)
  refine codeAny_mono (G.run _ X.stack _ _ ⟨Value.ref (hp.objs.size + 1) :: us, []⟩ (Value.ref (hp.objs.size + 1) :: us) _ _ (fun _ _ _ => False) (hr.make C us []) (I2.env0.make C us []) bnd rel2 sp1) fun r s2 back => ?_
  rcases r with err | fl
  · exact ps0 pins σ _ _ err s2 I2 back
  · cases fl with
    | ret u =>
      obtain ⟨v, H2, os2, bare2, un2, hok2, rv, ev, d, fs, ea, ed, hd1, q2⟩ := back
      subst ev
      obtain ⟨h3, g3, d3, t3, os3⟩ := s2
      exact ⟨rv, mk_endN (raises_own T.isX T.isTy) I1 up more un2 hok2 os2 bare2 ea ed hd1 q2⟩
    | _ => exact False.elim back
def exITB (K : PySem.W.Frag) (x f : Str) (tl : List Value) (newId : String) : Bool := oexTB K (He.ga K x) tl newId && (decide (PySem.W.findIn K (.ref (He.ga K x)) "__init__" = some (some (.ref (He.ma K (He.ga K x) "__init__")))) && (decide (PySem.W.typeIn K (.ref (He.ma K (He.ga K x) "__init__")) = some (.type "function")) && decide (PySem.W.findIn K (.ref (He.ga K x)) f = some none)))
structure ExIT (K : PySem.W.Frag) (x f : Str) (tl : List Value) (newId : String) : Prop where
  oex : OexT K (He.ga K x) tl newId
  ini : PySem.W.findIn K (.ref (He.ga K x)) "__init__" = some (some (.ref (He.ma K (He.ga K x) "__init__")))
  ty : PySem.W.typeIn K (.ref (He.ma K (He.ga K x) "__init__")) = some (.type "function")
  no : PySem.W.findIn K (.ref (He.ga K x)) f = some none
theorem exITB_ok {K : PySem.W.Frag} {x f : Str} {tl : List Value} {newId : String} (h : exITB K x f tl newId = true) : ExIT K x f tl newId := by
  simp only [exITB, Bool.and_eq_true, decide_eq_true_eq] at h
  exact ⟨oexTB_ok h.1, h.2.1, h.2.2.1, h.2.2.2⟩
end J
set_option Elab.async false
set_option linter.all false
set_option maxRecDepth 100000
set_option maxHeartbeats 1010000
/-! JZt: a caught error as a value; one clause that names three classes -/
namespace J
open PySem PySem.Spec L2 PyProof.Rows
section
variable {X : Cx} {pins : List (Addr × Obj)} {σ : L2.St} {H : Hp} {s : Shared} {a C : Addr} {d : Option Addr}
theorem exL_ok {P : Program} {w : World} {h : Heap} {oe : Obj} {vs : Array Value} (g : h.get? a = some oe) (z : L2N.Zn (.ref C) d oe) (dt : oe.data = .fields vs) : ObjOk P w H h a (exL a C d) :=
  ⟨⟨oe, vs, g, z, dt⟩, ⟨_, g⟩, fun h1 h2 q k => by
    obtain ⟨o, us, g1, z1, d1⟩ := q
    exact ⟨o, us, k _ g1, z1, d1⟩⟩
theorem exL_at {P : Program} {w : World} {h : Heap} (hok : HOk P w H h) (e : H a = some (exL a C d)) : ∃ (o : Obj) (vs : Array Value), h.get? a = some o ∧ L2N.Zn (.ref C) d o ∧ o.data = .fields vs := by
  have x : ObjOk P w H h a (.ext fun h => ∃ (o : Obj) (vs : Array Value), h.get? a = some o ∧ L2N.Zn (.ref C) d o ∧ o.data = .fields vs) := hok a _ e
  exact x.1
/-- a landed error is taken among what is known -/
theorem inv_hold (I : Inv X pins σ H s) {oe : Obj} {vs : Array Value} (ga : s.heap.get? a = some oe) (hz : L2N.Zn (.ref C) d oe) (dt : oe.data = .fields vs) (na : H a = none) (n0 : X.s_0.heap.get? a = none) (nL : a ≠ X.env.locals) (np : ∀ p ∈ X.pn ++ pins, p.1 ≠ a) : Inv X pins σ (upd H a (exL a C d)) s := by
  have ne : ∀ {b : Addr} {o : HO}, H b = some o → b ≠ a := fun e => ne_of_none e na
  have old : ∀ b o, X.s_0.heap.get? b = some o → b ≠ a := fun b o e z => by
    rw [z, n0] at e
    cases e
  refine ⟨I.ok, I.os, I.bare, ⟨I.base.keep, I.base.slot, fun b o e n x => ?_, I.base.there, fun b xs e => ?_, fun b o u e => ?_, fun b ps e => ?_⟩, I.loc, I.cell, ?_, fun y c e => ?_, fun p hp => ?_, fun b o e => ?_, I.len⟩
  · rw [upd_ne (old b o e)]
    exact I.base.free b o e n x
  · have q1 := I.base.tups b xs e
    rw [upd_ne (ne q1)]
    exact q1
  · have q2 := I.base.frzs b o u e
    rw [upd_ne (ne q2)]
    exact q2
  · obtain ⟨more, q⟩ := I.base.tbls b ps e
    exact ⟨more, by rw [upd_ne (ne q)]; exact q⟩
  · rw [upd_ne (Ne.symm nL)]
    exact I.free
  · have nc : c ≠ a := fun z => by
      obtain ⟨v, o, g, dc⟩ := I.cell y c e
      rw [z, ga] at g
      cases g
      rw [dt] at dc
      cases dc
    rw [upd_ne nc]
    exact I.freeC y c e
  · obtain ⟨g, n, r⟩ := I.pin p hp
    exact ⟨g, by rw [upd_ne (np p hp)]; exact n, r⟩
  · by_cases hb : b = a
    · subst hb
      rw [upd_same] at e
      cases e
      exact exL_ok ga hz dt
    · rw [upd_ne hb] at e
      exact (I.hok b o e).stay (fun c v _ q => q) (fun c q => by rw [upd_ne (ne q)]; exact q) fun c xs q => by rw [upd_ne (ne q)]; exact q
end
/-! ### the value -/
def exnOf (c : Nat) (fs : List (Nat × D)) : D := .exn c (fs.map (·.1)) (fs.map (·.2))
section
variable {T : Tab} {K : PySem.W.Frag} {G : Hp} {ι : List Addr}
theorem frs_named : ∀ {fs : List (Nat × D)} {ws : List (Str × V)}, FRs T K G ι fs ws → ∃ vs, ws = named T (fs.map (·.1)) vs ∧ fs.length = vs.length ∧ DRs T K G ι (fs.map (·.2)) vs
  | [], ws, h => ⟨[], h, rfl, DRs.nil⟩
  | (f, x) :: fs, ws, ⟨v, r, e, q, k⟩ => by
    obtain ⟨vs, e2, l, r2⟩ := frs_named k
    exact ⟨v :: vs, by rw [e, e2]; rfl, by simp [l], DRs.cons q r2⟩
theorem exnOf_ok {c : Nat} {fs : List (Nat × D)} {a : Addr} {dd : Option Addr} (x : XR T K G ι fs dd) (e : G a = some (exL a (He.ga K (T.cn c)) dd)) : DR T K G ι (exnOf c fs) (.ref a) := by
  unfold exnOf
  simp only [DR]
  rcases x with ⟨rfl, rfl⟩ | ⟨d, ws, rfl, isD, r⟩
  · exact ⟨a, none, [], rfl, rfl, e, .inl ⟨rfl, rfl⟩, DRs.nil⟩
  · obtain ⟨vs, e2, l, r2⟩ := frs_named r
    exact ⟨a, some d, vs, rfl, by simp [l], e, .inr ⟨d, rfl, by rw [isD, e2]⟩, r2⟩
end
end J
set_option Elab.async false
set_option linter.all false
set_option maxRecDepth 100000
set_option maxHeartbeats 1010000
/-! JZu: defs that are called while an error is handled; what they ask of it -/
namespace J
open PySem PySem.Spec L2 PyProof.Rows
/-- room, whatever is handled -/
structure RgH (k : Nat) (A : Around) : Prop where
  r : L2H.RoomH k A
  g : A.guards = some []
theorem RgH.mono {j k : Nat} {A : Around} (r : RgH k A) (h : j ≤ k) : RgH j A := ⟨r.r.mono h, r.g⟩
theorem RgH.of {k : Nat} {A : Around} (r : Rg k A) : RgH k A := ⟨L2H.roomH_of r.r, r.g⟩
theorem RgH.suite {k : Nat} {X : Cx} (r : RgH k X.A) (a : Addr) (pn : List (Addr × Obj)) : RgH k (X.suite a pn).A := ⟨⟨r.r.dp, r.r.un⟩, r.g⟩
abbrev WN : WX := fun _ _ _ _ => False
structure FnGH (P : Program) (w : World) (K : PySem.W.Frag) (mg : Str → Option Value) (base : Heap) (k : Nat) (f : Addr) (fd : FuncData) (ps : List Str) (sp : Sp) : Prop where
  len : ∀ (vs : List V) H Q E, sp vs H Q E → vs.length = ps.length
  run : ∀ (A : Around) (fr : List Env) (s : Shared) (H : Hp) (ar : Args) (us : List Value) (vs : List V) (Q : VK), RgH k A →
    Env0 P w K mg base A fr s H → BindsTo s fd ar (ps.zip us) → Vals vs us → sp vs H Q C8.E0 → codeAny (model P w) A (.call (.ref f) ar) (CR C8.CX0 fr P w H s Q C8.E0) s
theorem FnGH.mono {P : Program} {w : World} {K : PySem.W.Frag} {mg : Str → Option Value} {base : Heap} {f : Addr} {fd : FuncData} {k j : Nat} {ps : List Str} {sp : Sp} (F : FnGH P w K mg base j f fd ps sp) (h : j ≤ k) : FnGH P w K mg base k f fd ps sp :=
  ⟨F.len, fun A fr s H ar us vs Q r => F.run A fr s H ar us vs Q (r.mono h)⟩
/-! ### isinstance of a caught error -/
/-- what is known of the classes: c asked for t answers b -/
structure IsX (T : Tab) (K : PySem.W.Frag) (tb : List (Nat × Tg × Bool)) : Prop where
  cls : ∀ p ∈ tb, ExcC K (He.ga K (T.cn p.1))
  ans : ∀ p ∈ tb, PySem.W.kitOne K (.ref (He.ga K (T.cn p.1))) (p.2.1.v T K) = some p.2.2
def lookX (c : Nat) (u : Tg) : List (Nat × Tg × Bool) → Option Bool
  | [] => none
  | p :: r => if p.1 = c ∧ p.2.1 = u then some p.2.2 else lookX c u r
theorem lookX_ok {c : Nat} {u : Tg} {b : Bool} : ∀ {tb : List (Nat × Tg × Bool)}, lookX c u tb = some b → (c, u, b) ∈ tb
  | [], h => nomatch h
  | p :: r, h => by
    unfold lookX at h
    split at h
    · rename_i e
      obtain ⟨x, y, z⟩ := p
      obtain ⟨rfl, rfl⟩ := e
      cases h
      exact List.mem_cons_self
    · exact List.mem_cons_of_mem _ (lookX_ok h)
def rIsC (K : PySem.W.Frag) : List V → Hp → VK → Prop := fun xs H Q => ∃ (a C : Addr) (d : Option Addr) (c : V) (cv : Value) (b : Bool), xs = [.ref a, c] ∧ H a = some (exL a C d) ∧ (d = none ∨ ∃ dd fs, d = some dd ∧ H dd = some (.xd fs)) ∧ ExcC K C ∧ ClsV c cv ∧ PySem.W.kitOne K (.ref C) cv = some b ∧ Q (.bl b) H
theorem call_isC {X : Cx} : CallR X (.builtin "isinstance") (rIsC X.K) := by
  rintro pins s σ H xs us Q I r ⟨a, C, d, c, cv, b, rfl, isE, hd, ex, isC, kit, q⟩
  obtain ⟨u0, u1, rfl, r0, r1⟩ := vals2 r
  obtain rfl : u0 = Value.ref a := r0
  have e1 := isC.eq r1
  subst e1
  obtain ⟨oe, vs, here, hz, dt⟩ := exL_at I.hok isE
  have hcl : (PySem.W.clsIn X.K C).isSome = true := by
    obtain ⟨cd, e, _⟩ := PySem.W.any_some ex.hd
    rw [e]
    rfl
  have nc : PySem.W.notCls oe := by unfold PySem.W.notCls; rw [dt] <;> rfl
  obtain ⟨od, inst⟩ : ∃ od, PySem.W.InstAt s.heap a oe C od := by
    rcases hd with rfl | ⟨dd, fs, rfl, isD⟩
    · exact ⟨none, here, hz.1, nc, by rw [hz.2.1]; trivial⟩
    · obtain ⟨mA, ns, rel⟩ : ObjOk X.prog X.w H s.heap dd (.xd fs) := I.hok dd _ isD
      obtain ⟨od, atD, _⟩ := lookIn_ns ns
      exact ⟨some od, here, hz.1, nc, by rw [hz.2.1]; exact atD⟩
  exact PySem.W.kia_one (PySem.W.kitx_exc hcl ex.hg ex.hk ex.hs ex.ha ex.hn ex.ht ex.hm) I.kIn inst kit (fun z => nomatch z) fun tk => ⟨.bl b, H, I.kept (t' := tk) fun _ _ z => z, rfl, q⟩
def isxD (tb : List (Nat × Tg × Bool)) : OpN := fun xs _ => match xs with
  | [.exn c _ _, y] => (clsOf y).bind fun u => (lookX c u tb).map .bl
  | _ => none
theorem isxD_ok {T : Tab} {K : PySem.W.Frag} {tb : List (Nat × Tg × Bool)} (k : IsX T K tb) : CaS T K (rIsC K) (isxD tb) := by
  intro F S ι G H xs d vs Q em dr e q
  unfold isxD at e
  split at e
  · rename_i c fl xs y
    obtain ⟨v, w, rfl, r1, r2⟩ := dr.two
    cases hu : clsOf y with
    | none => rw [hu] at e; cases e
    | some u =>
      rw [hu] at e
      cases hb : lookX c u tb with
      | none => simp only [Option.bind_some] at e; rw [hb] at e; cases e
      | some b =>
        simp only [Option.bind_some] at e
        rw [hb] at e
        cases e
        have mem := lookX_ok hb
        have cv : ClsV w (u.v T K) := by
          cases y with
          | ty n => cases hu; simp only [DR] at r2; subst r2; exact .ty n
          | glo n => cases hu; simp only [DR] at r2; subst r2; exact .own _
          | _ => cases hu
        simp only [DR] at r1
        obtain ⟨a, dd, us, rfl, _, isE, hd, _⟩ := r1
        refine ⟨a, _, dd, w, _, b, rfl, em.sub _ _ isE, ?_, k.cls _ mem, cv, k.ans _ mem, q _ G H em (Ext.refl _ _) (by simp only [DR])⟩
        exact hd.imp (·.2) fun ⟨d, e, q⟩ => ⟨d, _, e, em.sub _ _ q⟩
  · cases e
/-! ### e.f of a caught error -/
def tXg (K : PySem.W.Frag) (f : Str) (te : TE) : TE := fun σ H Q => te σ H fun x H1 => ∃ (a C dd : Addr) (fs : List (Str × V)) (v : V), x = .ref a ∧ H1 a = some (exL a C (some dd)) ∧ XfC K C ∧ PySem.W.findIn K (.ref C) f = some none ∧ H1 dd = some (.xd fs) ∧ fs.lookup f = some v ∧ Q v H1
theorem pe_xg {X : Cx} {e : Expr} {te : TE} {pos : Pos} {n : Str} (he : PE X e te) (hb : attributeBase e n X.env (eval e X.env) = eval e X.env := by rfl) : PE X (.Attribute e n pos) (tXg X.K n te) := by
  constructor
  intro pins s σ H Q I told
  refine attr_of hb (thn (he.run pins s σ H _ I told) fun u s1 got => ?_)
  obtain ⟨x, H1, I1, rx, a, C, dd, fs, v, rfl, isE, T, no, isD, lk, q⟩ := got
  have eu : u = Value.ref a := rx
  subst eu
  obtain ⟨oe, vs, here, hz, dt⟩ := exL_at I1.hok isE
  obtain ⟨mA, hns, rel⟩ : ObjOk X.prog X.w H1 s1.heap dd (.xd fs) := I1.hok dd _ isD
  obtain ⟨od, atD, isL⟩ := lookIn_ns hns
  obtain ⟨u, hu, ru⟩ := RelO.some_of (v := v) (o := mA n) (by rw [← lk]; exact rel n)
  have inst : PySem.W.InstAt s1.heap a oe C (some od) := ⟨here, hz.1, by unfold PySem.W.notCls; rw [dt] <;> rfl, by rw [hz.2.1]; exact atD⟩
  exact HandSPX.exc_get I1.kIn inst T.ga T.gg T.exC (PySem.W.findObj_own T.hdC no rfl (by rw [isL, hu])) (handed_of ru) ⟨v, H1, I1.tok _, ru, q⟩
def getX (f : Nat) : List Nat → List D → Option D
  | g :: fl, x :: xs => if g = f then some x else getX f fl xs
  | _, _ => none
theorem getX_ok {T : Tab} {K : PySem.W.Frag} {G : Hp} {ι : List Addr} {f : Nat} {d : D} : ∀ {fl : List Nat} {xs : List D} {vs : List V}, DRs T K G ι xs vs → fl.length = vs.length → getX f fl xs = some d → ∃ v, (named T fl vs).lookup (T.fn f) = some v ∧ DR T K G ι d v
  | [], _, _, _, _, e => by simp [getX] at e
  | _ :: _, [], _, _, _, e => by simp [getX] at e
  | g :: fl, x :: xs, vs, h, l, e => by
    simp only [DRs] at h
    obtain ⟨v, r, rfl, h1, h2⟩ := h
    unfold getX at e
    split at e
    · rename_i eg
      subst eg
      cases e
      exact ⟨v, by simp [named], h1⟩
    · rename_i ng
      obtain ⟨v2, l2, r2⟩ := getX_ok h2 (by simpa using l) e
      refine ⟨v2, ?_, r2⟩
      have nn : (T.fn f == T.fn g) = false := beq_eq_false_iff_ne.mpr fun z => ng (T.inj _ _ z).symm
      show (((T.fn g, v) :: named T fl r).lookup (T.fn f)) = some v2
      rw [List.lookup_cons, nn]
      exact l2
def iXf (cs : List Nat) (f : Nat) (ie : IE) : IE := fun ρ => M.bind (ie ρ) fun d S => match d with
  | .exn c fl xs => if cs.contains c = true then lift (getX f fl xs) S else .no
  | _ => .no
theorem je_xf {T : Tab} {X : Cx} {W : WX} {e : Expr} {ie : IE} {cs : List Nat} {f : Nat} {x : Str} {pos : Pos} (he : JE T X W e ie) (hc : ∀ c ∈ cs, XfC X.K (He.ga X.K (T.cn c)) ∧ PySem.W.findIn X.K (.ref (He.ga X.K (T.cn c))) (T.fn f) = some none) (hx : x = T.fn f)
    (hb : attributeBase e x X.env (eval e X.env) = eval e X.env := by rfl) : JE T X W (.Attribute e x pos) (iXf cs f ie) := by
  refine PE.mono (pe_xg he hb) fun σ H Q ⟨ρ, F, S, ι, G, em, sr, h⟩ => ⟨ρ, F, S, ι, G, em, sr, ?_⟩
  refine Thn.bind (rel2 := DR T X.K) h fun d S1 v ι1 G1 H1 em1 x1 dr h1 => ?_
  cases d with
  | exn c fl xs =>
    dsimp only at h1
    split at h1
    · rename_i hcs
      obtain ⟨y, ey, h2⟩ := Thn.lift h1
      have k := hc c (by simpa using hcs)
      simp only [DR] at dr
      obtain ⟨a, dd, vs, rfl, l, isE, hd, r⟩ := dr
      rcases hd with ⟨rfl, rfl⟩ | ⟨da, rfl, isD⟩
      · simp [getX] at ey
      · obtain ⟨v, lk, dv⟩ := getX_ok r l ey
        exact ⟨a, _, da, _, v, rfl, em1.sub _ _ isE, k.1, hx ▸ k.2, em1.sub _ _ isD, hx ▸ lk, h2.ok em1 dv⟩
    · exact h1.elim
  | _ => exact h1.elim
/-! ### xs.count(True), xs.index(True) -/
def bolsOf : List D → Option (List Bool)
  | [] => some []
  | .bl b :: xs => (bolsOf xs).map (b :: ·)
  | _ => none
theorem bolsOf_ok {T : Tab} {K : PySem.W.Frag} {G : Hp} {ι : List Addr} : ∀ {ds : List D} {bs : List Bool} {vs : List V}, DRs T K G ι ds vs → bolsOf ds = some bs → vs = bs.map V.bl
  | [], _, _, h, e => by
    simp only [DRs] at h
    cases e
    exact h
  | .bl b :: xs, bs, vs, h, e => by
    simp only [DRs, DR] at h
    obtain ⟨v, r, rfl, rfl, h2⟩ := h
    unfold bolsOf at e
    cases q : bolsOf xs with
    | none =>
      rw [q] at e
      exact nomatch e
    | some cs =>
      rw [q] at e
      cases e
      rw [bolsOf_ok h2 q]
      rfl
  | .non :: _, _, _, _, e | .int _ :: _, _, _, _, e | .str _ :: _, _, _, _, e | .ty _ :: _, _, _, _, e | .glo _ :: _, _, _, _, e | .tup _ :: _, _, _, _, e | .lst _ :: _, _, _, _, e | .scr _ :: _, _, _, _, e | .dct _ _ :: _, _, _, _, e | .dcu _ _ :: _, _, _, _, e | .ins _ _ :: _, _, _, _, e | .exn _ _ _ :: _, _, _, _, e | .ref _ :: _, _, _, _, e => by cases e
def rCntB (K : PySem.W.Frag) : V → List V → Hp → VK → Prop := fun x xs H Q => ∃ (p : Addr) (bs : List Bool) (k : Bool), x = .ref p ∧ xs = [.bl k] ∧ SqL K H p (bs.map V.bl) ∧ Q (.int (bs.count k : Nat)) H
theorem bols_all : ∀ bs : List Bool, (bs.map V.bl).all flatV = true
  | [] => rfl
  | _ :: bs => by simp [flatV]
theorem bols_cnt (k : Bool) : ∀ {bs : List Bool} {us : List Value}, Vals (bs.map V.bl) us → us.countP (eqU (.bl k)) = bs.count k
  | [], _, .nil => rfl
  | b :: bs, _, .cons r t => by
    rw [List.countP_cons, List.count_cons, bols_cnt k t, eqU_of r rfl]
    rfl
theorem mt_cntB {X : Cx} : MtR X "list.count" (rCntB X.K) := by
  intro pins s σ H x xs v us Q I rx rxs told
  obtain ⟨p, bs, k, rfl, rfl, hs, q⟩ := told
  cases rx
  obtain ⟨u1, rfl, ru⟩ := rxs.one
  obtain ⟨its, rv, ⟨⟨oc, dd, data, sl⟩, n, ho, hc, hdn, hd⟩, hlen⟩ := I.list hs
  simp only at hc hd
  subst hc hd
  have cnt := SeqAt.list_countAt p its.toArray n dd sl u1 (eqU (.bl k))
  refine call_meets PySem.F.slot_list_count (Exists.intro _ ⟨ho, rfl⟩) PySem.F.entry_list_count (PySem.F.args_list_count_2 _ _) cnt ⟨ho, fun u' hu' => mem_eqAt ru rfl rv (bols_all bs) u' (by simpa using hu'), ?_⟩
  refine ⟨.int (bs.count k : Nat), H, I.tok _, ⟨s.toks, ?_⟩, q⟩
  rw [show its.toArray.toList = its from rfl, bols_cnt k rv]
def bolCnt : OpM
  | x, [.bl k] => fun S => match (seqL x S).bind bolsOf with
    | some bs => .ok (.int (bs.count k : Nat)) S
    | none => .no
  | _, _ => M.no
theorem bolCnt_ok {T : Tab} {K : PySem.W.Frag} : MtS T K (rCntB K) bolCnt := by
  intro F S ι G H x xs vx vs W σ Q em dx dr h
  unfold bolCnt at h
  split at h
  · rename_i k
    obtain ⟨v, rfl, r⟩ := dr.one
    simp only [DR] at r
    cases e1 : seqL x S with
    | none => rw [e1] at h; exact h.elim
    | some ds =>
      rw [e1] at h
      dsimp only [Option.bind_some] at h
      cases e2 : bolsOf ds with
      | none => rw [e2] at h; exact h.elim
      | some bs =>
        rw [e2] at h
        dsimp only at h
        obtain ⟨p, us, rfl, hs, r2⟩ := seqL_ok em dx e1
        rw [bolsOf_ok r2 e2] at hs
        exact ⟨p, bs, k, rfl, by rw [r], .of hs, Thn.ok h em (by simp only [DR])⟩
  · exact h.elim
/-! ### facts of the classes that are caught -/
def excCB (K : PySem.W.Frag) (D : Addr) : Bool := xfB K D && (decide (PySem.W.findIn K (.ref D) "__class__" = some (some (.builtin "object.__class__"))) && (decide (PySem.W.specialIn K (.builtin "object.__class__") "__get__" = some (some (.builtin "getset_descriptor.__get__"))) && (decide (PySem.W.takesIn K (.builtin "object.__class__") = some true) && decide (PySem.W.mroIn K D (.type "object") = some true))))
theorem excCB_xf {K : PySem.W.Frag} {D : Addr} (h : excCB K D = true) : XfC K D := by
  simp only [excCB, Bool.and_eq_true] at h
  exact xfB_ok h.1
theorem excCB_ok {K : PySem.W.Frag} {D : Addr} (h : excCB K D = true) : ExcC K D := by
  have z := excCB_xf h
  simp only [excCB, Bool.and_eq_true, decide_eq_true_eq] at h
  exact ⟨z.ga, z.gg, z.exC, z.hdC, h.2.1, h.2.2.1, h.2.2.2.1, h.2.2.2.2⟩
end J
set_option Elab.async false
set_option linter.all false
set_option maxRecDepth 100000
set_option maxHeartbeats 1010000
/-! JZv: the law's def that calls what it gets and hands a caught error on -/
namespace J
open PySem PySem.Spec L2 PyProof.Rows LamX
/-- one slot alone -/
def only {α : Type} (n i : Nat) (x : α) : List (Option α) := (List.replicate n none).set i (some x)
theorem pss_len {X : Cx} {st : List Stmt} {t : TS} (h : PSs X st t) : PSs X st (fun D σ H => σ.length = X.N.length → t D σ H) := ⟨fun pins s σ H D I q => h.run pins s σ H D I (q I.len)⟩
end J
set_option Elab.async false
set_option linter.all false
set_option maxRecDepth 100000
set_option maxHeartbeats 1010000
/-! JZw: raise of an own exception that keeps nothing -/
namespace J
open PySem PySem.Spec L2 PyProof.Rows
structure ExN (K : PySem.W.Frag) (x : Str) (tl : List Value) (newId : String) : Prop where
  ex : PySem.W.excIn K (He.ga K x) tl newId = true
  kp : PySem.W.keepIn K (.ref (He.ga K x)) = true
  sub : PySem.W.subIn K (.ref (He.ga K x)) (.type "BaseException") = some true
  ty : PySem.W.typeIn K (.ref (He.ga K x)) = some (.type "type")
def exNB (K : PySem.W.Frag) (x : Str) (tl : List Value) (newId : String) : Bool := PySem.W.excIn K (He.ga K x) tl newId && (PySem.W.keepIn K (.ref (He.ga K x)) && (decide (PySem.W.subIn K (.ref (He.ga K x)) (.type "BaseException") = some true) && decide (PySem.W.typeIn K (.ref (He.ga K x)) = some (.type "type"))))
theorem exNB_ok {K : PySem.W.Frag} {x : Str} {tl : List Value} {newId : String} (h : exNB K x tl newId = true) : ExN K x tl newId := by
  simp only [exNB, Bool.and_eq_true, decide_eq_true_eq] at h
  exact ⟨h.1, h.2.1, h.2.2.1, h.2.2.2⟩
theorem pmk_n0 {X : Cx} {x : Str} {p pos : Pos} {tl : List Value} {newId : String} (bt : BaseT tl newId) (T : ExN X.K x tl newId) (at_ : X.mg x = some (.ref (He.ga X.K x))) (hg : Gl X x) (hdb : (x == ("__debug__" : Str)) = false := by decide) :
    L2N.PMk X (.Call (.Name x p) [] [] pos) (fun _ H Q => Q (.ref (He.ga X.K x)) none H) := by
  obtain ⟨⟨B, i, FB⟩, _⟩ := bt
  intro pins s σ H Q I h
  refine wpAny_Call_Name_kw (ld_glob I hg at_ ?_ hdb)
  refine PySem.W.callWith_K0 (first := []) I.kIn T.kp ?_
  obtain ⟨bm, N, nm, qn, bs, hdct, sn, sub, ab, col, dd, k0, k1, k2, k3, k5, mN, hC, hN, hni, tail⟩ := exc_obj I.kIn T.ex
  refine wpAny_call_exc_subT FB tail hC hN hni (fun h' e hm => ?_) (Nat.zero_le _)
  exact L2N.mk_of I hm (raises_own T.sub T.ty) h (I.hok.gone hm.new)
end J
set_option Elab.async false
set_option linter.all false
set_option maxRecDepth 100000
set_option maxHeartbeats 4100000
namespace K07
open PySem L2 J
def top (i : Nat) : Stmt := PySem.Challenge.pw_guessmarks_k07_errors_and_limits.main.body.getD i (.Pass ⟨0, 0, 0, 0⟩)
def inClass : Stmt → Nat → Stmt
  | .ClassDef (body := b) .., i => b.getD i (.Pass ⟨0, 0, 0, 0⟩)
  | s, _ => s
def TFD : List He.Defn := []
def TT : Tab := mkTab ((["-0", "-1", "-2", "-3", "-4", "-5", "-6", "-7", "-8", "-9", "InputError", "StateError", "SizeError", "NotABoard", "NotAHistory", "NotAGame", "InvalidLetters", "InvalidLength", "InvalidWord", "InvalidMarks", "InvalidRows", "InvalidFact", "InvalidFacts", "InvalidNumber", "InvalidPlace", "InvalidGuesses", "InvalidDeeds", "InvalidLine", "Mismatch", "NoWord"] : List Str) ++ (["NothingToUndo", "Busy", "WordNotLeft", "GuessNotLeft", "TooManyRows"] : List Str)) ["letters", "length", "board", "rows", "then", "without", "fits", "size", "word", "number", "allowed", "least", "greatest", "bounds", "held", "counts", "give", "take", "fill", "value", "index", "limit"] [[], [], [], [], [], [], [], [], [], [], [], [], [], [], [], [], [], [], [], [], [], [], [], [], [], [], [], [], [], [], [], [], [], [], []] (by decide) (by decide) (fun K => [])
theorem tab_of (K : PySem.W.Frag) : ∀ q ∈ TT.tabs K, ∃ p ∈ TFD.map (He.cT K), q.1 = p.2 := fun q hq => (List.not_mem_nil hq).elim
def CS : List Nat := []
def CT : List Nat := []
def TB : List (Tg × Tg × Bool) := []
def TBX : List (Nat × Tg × Bool) := [(13, .o 10, true), (13, .o 11, false), (13, .o 12, false), (13, .o 13, true), (13, .o 14, false), (13, .o 15, false), (13, .o 16, false), (13, .o 17, false), (13, .o 18, false), (13, .o 19, false), (13, .o 20, false), (13, .o 21, false), (13, .o 22, false), (13, .o 23, false), (13, .o 24, false), (13, .o 25, false), (13, .o 26, false), (13, .o 27, false), (13, .o 28, false), (13, .o 29, false), (13, .o 30, false), (13, .o 31, false), (13, .o 32, false), (13, .o 33, false), (13, .o 34, false), (14, .o 10, true), (14, .o 11, false), (14, .o 12, false), (14, .o 13, false), (14, .o 14, true), (14, .o 15, false), (14, .o 16, false), (14, .o 17, false), (14, .o 18, false), (14, .o 19, false), (14, .o 20, false), (14, .o 21, false), (14, .o 22, false), (14, .o 23, false), (14, .o 24, false), (14, .o 25, false), (14, .o 26, false), (14, .o 27, false), (14, .o 28, false), (14, .o 29, false), (14, .o 30, false), (14, .o 31, false), (14, .o 32, false), (14, .o 33, false), (14, .o 34, false), (15, .o 10, true), (15, .o 11, false), (15, .o 12, false), (15, .o 13, false), (15, .o 14, false), (15, .o 15, true), (15, .o 16, false), (15, .o 17, false), (15, .o 18, false), (15, .o 19, false), (15, .o 20, false), (15, .o 21, false), (15, .o 22, false), (15, .o 23, false), (15, .o 24, false), (15, .o 25, false), (15, .o 26, false), (15, .o 27, false), (15, .o 28, false), (15, .o 29, false), (15, .o 30, false), (15, .o 31, false), (15, .o 32, false), (15, .o 33, false), (15, .o 34, false), (16, .o 10, true), (16, .o 11, false), (16, .o 12, false), (16, .o 13, false), (16, .o 14, false), (16, .o 15, false), (16, .o 16, true), (16, .o 17, false), (16, .o 18, false), (16, .o 19, false), (16, .o 20, false), (16, .o 21, false), (16, .o 22, false), (16, .o 23, false), (16, .o 24, false), (16, .o 25, false), (16, .o 26, false), (16, .o 27, false), (16, .o 28, false), (16, .o 29, false), (16, .o 30, false), (16, .o 31, false), (16, .o 32, false), (16, .o 33, false), (16, .o 34, false), (17, .o 10, true), (17, .o 11, false), (17, .o 12, false), (17, .o 13, false), (17, .o 14, false), (17, .o 15, false), (17, .o 16, false), (17, .o 17, true), (17, .o 18, false), (17, .o 19, false), (17, .o 20, false), (17, .o 21, false), (17, .o 22, false), (17, .o 23, false), (17, .o 24, false), (17, .o 25, false), (17, .o 26, false), (17, .o 27, false), (17, .o 28, false), (17, .o 29, false), (17, .o 30, false), (17, .o 31, false), (17, .o 32, false), (17, .o 33, false), (17, .o 34, false), (18, .o 10, true), (18, .o 11, false), (18, .o 12, false), (18, .o 13, false), (18, .o 14, false), (18, .o 15, false), (18, .o 16, false), (18, .o 17, false), (18, .o 18, true), (18, .o 19, false), (18, .o 20, false), (18, .o 21, false), (18, .o 22, false), (18, .o 23, false), (18, .o 24, false), (18, .o 25, false), (18, .o 26, false), (18, .o 27, false), (18, .o 28, false), (18, .o 29, false), (18, .o 30, false), (18, .o 31, false), (18, .o 32, false), (18, .o 33, false), (18, .o 34, false), (19, .o 10, true), (19, .o 11, false), (19, .o 12, false), (19, .o 13, false), (19, .o 14, false), (19, .o 15, false), (19, .o 16, false), (19, .o 17, false), (19, .o 18, false), (19, .o 19, true), (19, .o 20, false), (19, .o 21, false), (19, .o 22, false), (19, .o 23, false), (19, .o 24, false), (19, .o 25, false), (19, .o 26, false), (19, .o 27, false), (19, .o 28, false), (19, .o 29, false), (19, .o 30, false), (19, .o 31, false), (19, .o 32, false), (19, .o 33, false), (19, .o 34, false), (21, .o 10, true), (21, .o 11, false), (21, .o 12, false), (21, .o 13, false), (21, .o 14, false), (21, .o 15, false), (21, .o 16, false), (21, .o 17, false), (21, .o 18, false), (21, .o 19, false), (21, .o 20, false), (21, .o 21, true), (21, .o 22, false), (21, .o 23, false), (21, .o 24, false), (21, .o 25, false), (21, .o 26, false), (21, .o 27, false), (21, .o 28, false), (21, .o 29, false), (21, .o 30, false), (21, .o 31, false), (21, .o 32, false), (21, .o 33, false), (21, .o 34, false), (23, .o 10, true), (23, .o 11, false), (23, .o 12, false), (23, .o 13, false), (23, .o 14, false), (23, .o 15, false), (23, .o 16, false), (23, .o 17, false), (23, .o 18, false), (23, .o 19, false), (23, .o 20, false), (23, .o 21, false), (23, .o 22, false), (23, .o 23, true), (23, .o 24, false), (23, .o 25, false), (23, .o 26, false), (23, .o 27, false), (23, .o 28, false), (23, .o 29, false), (23, .o 30, false), (23, .o 31, false), (23, .o 32, false), (23, .o 33, false), (23, .o 34, false), (24, .o 10, true), (24, .o 11, false), (24, .o 12, false), (24, .o 13, false), (24, .o 14, false), (24, .o 15, false), (24, .o 16, false), (24, .o 17, false), (24, .o 18, false), (24, .o 19, false), (24, .o 20, false), (24, .o 21, false), (24, .o 22, false), (24, .o 23, false), (24, .o 24, true), (24, .o 25, false), (24, .o 26, false), (24, .o 27, false), (24, .o 28, false), (24, .o 29, false), (24, .o 30, false), (24, .o 31, false), (24, .o 32, false), (24, .o 33, false), (24, .o 34, false), (27, .o 10, true), (27, .o 11, false), (27, .o 12, false), (27, .o 13, false), (27, .o 14, false), (27, .o 15, false), (27, .o 16, false), (27, .o 17, false), (27, .o 18, false), (27, .o 19, false), (27, .o 20, false), (27, .o 21, false), (27, .o 22, false), (27, .o 23, false), (27, .o 24, false), (27, .o 25, false), (27, .o 26, false), (27, .o 27, true), (27, .o 28, false), (27, .o 29, false), (27, .o 30, false), (27, .o 31, false), (27, .o 32, false), (27, .o 33, false), (27, .o 34, false), (20, .o 10, true), (20, .o 11, false), (20, .o 12, false), (20, .o 13, false), (20, .o 14, false), (20, .o 15, false), (20, .o 16, false), (20, .o 17, false), (20, .o 18, false), (20, .o 19, false), (20, .o 20, true), (20, .o 21, false), (20, .o 22, false), (20, .o 23, false), (20, .o 24, false), (20, .o 25, false), (20, .o 26, false), (20, .o 27, false), (20, .o 28, false), (20, .o 29, false), (20, .o 30, false), (20, .o 31, false), (20, .o 32, false), (20, .o 33, false), (20, .o 34, false), (22, .o 10, true), (22, .o 11, false), (22, .o 12, false), (22, .o 13, false), (22, .o 14, false), (22, .o 15, false), (22, .o 16, false), (22, .o 17, false), (22, .o 18, false), (22, .o 19, false), (22, .o 20, false), (22, .o 21, false), (22, .o 22, true), (22, .o 23, false), (22, .o 24, false), (22, .o 25, false), (22, .o 26, false), (22, .o 27, false), (22, .o 28, false), (22, .o 29, false), (22, .o 30, false), (22, .o 31, false), (22, .o 32, false), (22, .o 33, false), (22, .o 34, false), (25, .o 10, true), (25, .o 11, false), (25, .o 12, false), (25, .o 13, false), (25, .o 14, false), (25, .o 15, false), (25, .o 16, false), (25, .o 17, false), (25, .o 18, false), (25, .o 19, false), (25, .o 20, false), (25, .o 21, false), (25, .o 22, false), (25, .o 23, false), (25, .o 24, false), (25, .o 25, true), (25, .o 26, false), (25, .o 27, false), (25, .o 28, false), (25, .o 29, false), (25, .o 30, false), (25, .o 31, false), (25, .o 32, false), (25, .o 33, false), (25, .o 34, false), (26, .o 10, true), (26, .o 11, false), (26, .o 12, false), (26, .o 13, false), (26, .o 14, false), (26, .o 15, false), (26, .o 16, false), (26, .o 17, false), (26, .o 18, false), (26, .o 19, false), (26, .o 20, false), (26, .o 21, false), (26, .o 22, false), (26, .o 23, false), (26, .o 24, false), (26, .o 25, false), (26, .o 26, true), (26, .o 27, false), (26, .o 28, false), (26, .o 29, false), (26, .o 30, false), (26, .o 31, false), (26, .o 32, false), (26, .o 33, false), (26, .o 34, false), (32, .o 10, false), (32, .o 11, true), (32, .o 12, false), (32, .o 13, false), (32, .o 14, false), (32, .o 15, false), (32, .o 16, false), (32, .o 17, false), (32, .o 18, false), (32, .o 19, false), (32, .o 20, false), (32, .o 21, false), (32, .o 22, false), (32, .o 23, false), (32, .o 24, false), (32, .o 25, false), (32, .o 26, false), (32, .o 27, false), (32, .o 28, false), (32, .o 29, false), (32, .o 30, false), (32, .o 31, false), (32, .o 32, true), (32, .o 33, false), (32, .o 34, false), (33, .o 10, false), (33, .o 11, true), (33, .o 12, false), (33, .o 13, false), (33, .o 14, false), (33, .o 15, false), (33, .o 16, false), (33, .o 17, false), (33, .o 18, false), (33, .o 19, false), (33, .o 20, false), (33, .o 21, false), (33, .o 22, false), (33, .o 23, false), (33, .o 24, false), (33, .o 25, false), (33, .o 26, false), (33, .o 27, false), (33, .o 28, false), (33, .o 29, false), (33, .o 30, false), (33, .o 31, false), (33, .o 32, false), (33, .o 33, true), (33, .o 34, false), (34, .o 10, false), (34, .o 11, false), (34, .o 12, true), (34, .o 13, false), (34, .o 14, false), (34, .o 15, false), (34, .o 16, false), (34, .o 17, false), (34, .o 18, false), (34, .o 19, false), (34, .o 20, false), (34, .o 21, false), (34, .o 22, false), (34, .o 23, false), (34, .o 24, false), (34, .o 25, false), (34, .o 26, false), (34, .o 27, false), (34, .o 28, false), (34, .o 29, false), (34, .o 30, false), (34, .o 31, false), (34, .o 32, false), (34, .o 33, false), (34, .o 34, true), (28, .o 10, false), (28, .o 11, true), (28, .o 12, false), (28, .o 13, false), (28, .o 14, false), (28, .o 15, false), (28, .o 16, false), (28, .o 17, false), (28, .o 18, false), (28, .o 19, false), (28, .o 20, false), (28, .o 21, false), (28, .o 22, false), (28, .o 23, false), (28, .o 24, false), (28, .o 25, false), (28, .o 26, false), (28, .o 27, false), (28, .o 28, true), (28, .o 29, false), (28, .o 30, false), (28, .o 31, false), (28, .o 32, false), (28, .o 33, false), (28, .o 34, false), (29, .o 10, false), (29, .o 11, true), (29, .o 12, false), (29, .o 13, false), (29, .o 14, false), (29, .o 15, false), (29, .o 16, false), (29, .o 17, false), (29, .o 18, false), (29, .o 19, false), (29, .o 20, false), (29, .o 21, false), (29, .o 22, false), (29, .o 23, false), (29, .o 24, false), (29, .o 25, false), (29, .o 26, false), (29, .o 27, false), (29, .o 28, false), (29, .o 29, true), (29, .o 30, false), (29, .o 31, false), (29, .o 32, false), (29, .o 33, false), (29, .o 34, false), (30, .o 10, false), (30, .o 11, true), (30, .o 12, false), (30, .o 13, false), (30, .o 14, false), (30, .o 15, false), (30, .o 16, false), (30, .o 17, false), (30, .o 18, false), (30, .o 19, false), (30, .o 20, false), (30, .o 21, false), (30, .o 22, false), (30, .o 23, false), (30, .o 24, false), (30, .o 25, false), (30, .o 26, false), (30, .o 27, false), (30, .o 28, false), (30, .o 29, false), (30, .o 30, true), (30, .o 31, false), (30, .o 32, false), (30, .o 33, false), (30, .o 34, false), (31, .o 10, false), (31, .o 11, true), (31, .o 12, false), (31, .o 13, false), (31, .o 14, false), (31, .o 15, false), (31, .o 16, false), (31, .o 17, false), (31, .o 18, false), (31, .o 19, false), (31, .o 20, false), (31, .o 21, false), (31, .o 22, false), (31, .o 23, false), (31, .o 24, false), (31, .o 25, false), (31, .o 26, false), (31, .o 27, false), (31, .o 28, false), (31, .o 29, false), (31, .o 30, false), (31, .o 31, true), (31, .o 32, false), (31, .o 33, false), (31, .o 34, false), (13, .b "ArithmeticError", false), (13, .b "LookupError", false), (13, .b "ValueError", true), (14, .b "ArithmeticError", false), (14, .b "LookupError", false), (14, .b "ValueError", true), (15, .b "ArithmeticError", false), (15, .b "LookupError", false), (15, .b "ValueError", true), (16, .b "ArithmeticError", false), (16, .b "LookupError", false), (16, .b "ValueError", true), (17, .b "ArithmeticError", false), (17, .b "LookupError", false), (17, .b "ValueError", true), (18, .b "ArithmeticError", false), (18, .b "LookupError", false), (18, .b "ValueError", true), (19, .b "ArithmeticError", false), (19, .b "LookupError", false), (19, .b "ValueError", true), (21, .b "ArithmeticError", false), (21, .b "LookupError", false), (21, .b "ValueError", true), (23, .b "ArithmeticError", false), (23, .b "LookupError", false), (23, .b "ValueError", true), (24, .b "ArithmeticError", false), (24, .b "LookupError", false), (24, .b "ValueError", true), (27, .b "ArithmeticError", false), (27, .b "LookupError", false), (27, .b "ValueError", true), (20, .b "ArithmeticError", false), (20, .b "LookupError", false), (20, .b "ValueError", true), (22, .b "ArithmeticError", false), (22, .b "LookupError", false), (22, .b "ValueError", true), (25, .b "ArithmeticError", false), (25, .b "LookupError", false), (25, .b "ValueError", true), (26, .b "ArithmeticError", false), (26, .b "LookupError", false), (26, .b "ValueError", true), (32, .b "ArithmeticError", false), (32, .b "LookupError", true), (32, .b "ValueError", false), (33, .b "ArithmeticError", false), (33, .b "LookupError", true), (33, .b "ValueError", false), (34, .b "ArithmeticError", true), (34, .b "LookupError", false), (34, .b "ValueError", false), (28, .b "ArithmeticError", false), (28, .b "LookupError", true), (28, .b "ValueError", false), (29, .b "ArithmeticError", false), (29, .b "LookupError", true), (29, .b "ValueError", false), (30, .b "ArithmeticError", false), (30, .b "LookupError", true), (30, .b "ValueError", false), (31, .b "ArithmeticError", false), (31, .b "LookupError", true), (31, .b "ValueError", false)]
def TSX : List Nat := [13, 14, 15, 16, 17, 18, 19, 21, 23, 24, 27, 20, 22, 25, 26, 32, 33, 34, 28, 29, 30, 31]
abbrev s_bowl : Stmt := top 33
def df_bowl : Df := ⟨fun K => He.ga K "_law_bowl", "_law_bowl", "_law_bowl", defArgs s_bowl, defBody s_bowl, defScope s_bowl, [], []⟩
abbrev s_dip : Stmt := top 34
def df_dip : Df := ⟨fun K => He.ga K "_law_dip", "_law_dip", "_law_dip", defArgs s_dip, defBody s_dip, defScope s_dip, [], []⟩
abbrev s_of : Stmt := top 35
def df_of : Df := ⟨fun K => He.ga K "_law_of", "_law_of", "_law_of", defArgs s_of, defBody s_of, defScope s_of, [], []⟩
abbrev s_NotABoard_init : Stmt := inClass (top 4) 0
def df_NotABoard_init : Df := ⟨fun K => He.ma K (He.ga K "NotABoard") "__init__", "__init__", "NotABoard.__init__", defArgs s_NotABoard_init, defBody s_NotABoard_init, defScope s_NotABoard_init, [], []⟩
abbrev s_NotAHistory_init : Stmt := inClass (top 5) 0
def df_NotAHistory_init : Df := ⟨fun K => He.ma K (He.ga K "NotAHistory") "__init__", "__init__", "NotAHistory.__init__", defArgs s_NotAHistory_init, defBody s_NotAHistory_init, defScope s_NotAHistory_init, [], []⟩
abbrev s_NotAGame_init : Stmt := inClass (top 6) 0
def df_NotAGame_init : Df := ⟨fun K => He.ma K (He.ga K "NotAGame") "__init__", "__init__", "NotAGame.__init__", defArgs s_NotAGame_init, defBody s_NotAGame_init, defScope s_NotAGame_init, [], []⟩
abbrev s_InvalidLetters_init : Stmt := inClass (top 7) 0
def df_InvalidLetters_init : Df := ⟨fun K => He.ma K (He.ga K "InvalidLetters") "__init__", "__init__", "InvalidLetters.__init__", defArgs s_InvalidLetters_init, defBody s_InvalidLetters_init, defScope s_InvalidLetters_init, [], []⟩
abbrev s_InvalidLength_init : Stmt := inClass (top 8) 0
def df_InvalidLength_init : Df := ⟨fun K => He.ma K (He.ga K "InvalidLength") "__init__", "__init__", "InvalidLength.__init__", defArgs s_InvalidLength_init, defBody s_InvalidLength_init, defScope s_InvalidLength_init, [], []⟩
abbrev s_InvalidWord_init : Stmt := inClass (top 9) 0
def df_InvalidWord_init : Df := ⟨fun K => He.ma K (He.ga K "InvalidWord") "__init__", "__init__", "InvalidWord.__init__", defArgs s_InvalidWord_init, defBody s_InvalidWord_init, defScope s_InvalidWord_init, [], []⟩
abbrev s_InvalidMarks_init : Stmt := inClass (top 10) 0
def df_InvalidMarks_init : Df := ⟨fun K => He.ma K (He.ga K "InvalidMarks") "__init__", "__init__", "InvalidMarks.__init__", defArgs s_InvalidMarks_init, defBody s_InvalidMarks_init, defScope s_InvalidMarks_init, [], []⟩
abbrev s_InvalidFact_init : Stmt := inClass (top 11) 0
def df_InvalidFact_init : Df := ⟨fun K => He.ma K (He.ga K "InvalidFact") "__init__", "__init__", "InvalidFact.__init__", defArgs s_InvalidFact_init, defBody s_InvalidFact_init, defScope s_InvalidFact_init, [], []⟩
abbrev s_InvalidNumber_init : Stmt := inClass (top 12) 0
def df_InvalidNumber_init : Df := ⟨fun K => He.ma K (He.ga K "InvalidNumber") "__init__", "__init__", "InvalidNumber.__init__", defArgs s_InvalidNumber_init, defBody s_InvalidNumber_init, defScope s_InvalidNumber_init, [], []⟩
abbrev s_InvalidPlace_init : Stmt := inClass (top 13) 0
def df_InvalidPlace_init : Df := ⟨fun K => He.ma K (He.ga K "InvalidPlace") "__init__", "__init__", "InvalidPlace.__init__", defArgs s_InvalidPlace_init, defBody s_InvalidPlace_init, defScope s_InvalidPlace_init, [], []⟩
abbrev s_InvalidLine_init : Stmt := inClass (top 14) 0
def df_InvalidLine_init : Df := ⟨fun K => He.ma K (He.ga K "InvalidLine") "__init__", "__init__", "InvalidLine.__init__", defArgs s_InvalidLine_init, defBody s_InvalidLine_init, defScope s_InvalidLine_init, [], []⟩
abbrev s_InvalidRows_init : Stmt := inClass (top 15) 0
def df_InvalidRows_init : Df := ⟨fun K => He.ma K (He.ga K "InvalidRows") "__init__", "__init__", "InvalidRows.__init__", defArgs s_InvalidRows_init, defBody s_InvalidRows_init, defScope s_InvalidRows_init, [], []⟩
abbrev s_InvalidFacts_init : Stmt := inClass (top 16) 0
def df_InvalidFacts_init : Df := ⟨fun K => He.ma K (He.ga K "InvalidFacts") "__init__", "__init__", "InvalidFacts.__init__", defArgs s_InvalidFacts_init, defBody s_InvalidFacts_init, defScope s_InvalidFacts_init, [], []⟩
abbrev s_InvalidGuesses_init : Stmt := inClass (top 17) 0
def df_InvalidGuesses_init : Df := ⟨fun K => He.ma K (He.ga K "InvalidGuesses") "__init__", "__init__", "InvalidGuesses.__init__", defArgs s_InvalidGuesses_init, defBody s_InvalidGuesses_init, defScope s_InvalidGuesses_init, [], []⟩
abbrev s_InvalidDeeds_init : Stmt := inClass (top 18) 0
def df_InvalidDeeds_init : Df := ⟨fun K => He.ma K (He.ga K "InvalidDeeds") "__init__", "__init__", "InvalidDeeds.__init__", defArgs s_InvalidDeeds_init, defBody s_InvalidDeeds_init, defScope s_InvalidDeeds_init, [], []⟩
abbrev s_value_errors : Stmt := top 36
def df_value_errors : Df := ⟨fun K => He.ga K "_law_value_errors", "_law_value_errors", "_law_value_errors", defArgs s_value_errors, defBody s_value_errors, defScope s_value_errors, [], []⟩
abbrev s_WordNotLeft_init : Stmt := inClass (top 23) 0
def df_WordNotLeft_init : Df := ⟨fun K => He.ma K (He.ga K "WordNotLeft") "__init__", "__init__", "WordNotLeft.__init__", defArgs s_WordNotLeft_init, defBody s_WordNotLeft_init, defScope s_WordNotLeft_init, [], []⟩
abbrev s_GuessNotLeft_init : Stmt := inClass (top 24) 0
def df_GuessNotLeft_init : Df := ⟨fun K => He.ma K (He.ga K "GuessNotLeft") "__init__", "__init__", "GuessNotLeft.__init__", defArgs s_GuessNotLeft_init, defBody s_GuessNotLeft_init, defScope s_GuessNotLeft_init, [], []⟩
abbrev s_TooManyRows_init : Stmt := inClass (top 25) 0
def df_TooManyRows_init : Df := ⟨fun K => He.ma K (He.ga K "TooManyRows") "__init__", "__init__", "TooManyRows.__init__", defArgs s_TooManyRows_init, defBody s_TooManyRows_init, defScope s_TooManyRows_init, [], []⟩
abbrev s_state_errors : Stmt := top 37
def df_state_errors : Df := ⟨fun K => He.ga K "_law_state_errors", "_law_state_errors", "_law_state_errors", defArgs s_state_errors, defBody s_state_errors, defScope s_state_errors, [], []⟩
abbrev s_bases : Stmt := top 39
def df_bases : Df := ⟨fun K => He.ga K "_law_bases", "_law_bases", "_law_bases", defArgs s_bases, defBody s_bases, defScope s_bases, [], []⟩
abbrev s_instances : Stmt := top 38
def df_instances : Df := ⟨fun K => He.ga K "_law_instances", "_law_instances", "_law_instances", defArgs s_instances, defBody s_instances, defScope s_instances, [], []⟩
abbrev s_right : Stmt := top 40
def df_right : Df := ⟨fun K => He.ga K "_law_right", "_law_right", "_law_right", defArgs s_right, defBody s_right, defScope s_right, [], []⟩
abbrev s_law : Stmt := top 41
def df_law : Df := ⟨fun K => He.ga K "law", "law", "law", defArgs s_law, defBody s_law, defScope s_law, [], []⟩
def fn : List Df := [df_bowl, df_dip, df_of, df_NotABoard_init, df_NotAHistory_init, df_NotAGame_init, df_InvalidLetters_init, df_InvalidLength_init, df_InvalidWord_init, df_InvalidMarks_init, df_InvalidFact_init, df_InvalidNumber_init, df_InvalidPlace_init, df_InvalidLine_init, df_InvalidRows_init, df_InvalidFacts_init, df_InvalidGuesses_init, df_InvalidDeeds_init, df_value_errors, df_WordNotLeft_init, df_GuessNotLeft_init, df_TooManyRows_init, df_state_errors, df_bases, df_instances, df_right, df_law]
def fa : List He.Fa := [.free "ArithmeticError", .free "LookupError", .free "ValueError", .free "abs", .free "all", .free "divmod", .free "int", .free "isinstance", .free "len", .free "max", .free "min", .free "range", .free "repr", .int "MOST_FACTS" (4), .int "MOST_GUESSES" (20), .int "MOST_LENGTH" (6), .int "MOST_LETTERS" (26), .int "MOST_MENDED" (10), .int "MOST_ROWS" (20), .glo "InputError", .glo "StateError", .glo "SizeError", .glo "NotABoard", .glo "NotAHistory", .glo "NotAGame", .glo "InvalidLetters", .glo "InvalidLength", .glo "InvalidWord", .glo "InvalidMarks", .glo "InvalidRows", .glo "InvalidFact", .glo "InvalidFacts", .glo "InvalidNumber", .glo "InvalidPlace", .glo "InvalidGuesses", .glo "InvalidDeeds", .glo "InvalidLine", .glo "Mismatch", .glo "NoWord", .glo "NothingToUndo", .glo "Busy", .glo "WordNotLeft", .glo "GuessNotLeft", .glo "TooManyRows", .glo "_law_bowl", .glo "_law_dip", .glo "_law_of", .glo "_law_value_errors", .glo "_law_state_errors", .glo "_law_bases", .glo "_law_instances", .glo "_law_right", .glo "law"]
def ex (K : PySem.W.Frag) : Bool := (fa.all fun f => f.ok K) && ((CS.all fun c => clsTB K (He.ga K (TT.cn c))) && ((TB.all fun q => decide (PySem.W.kitOne K (q.1.v TT K) (q.2.1.v TT K) = some q.2.2)) && ((CT.all fun c => plainTB K (He.ga K (TT.cn c))) && (exNB K "Mismatch" tlL "LookupError.__new__" && (exNB K "NoWord" tlL "LookupError.__new__" && (exNB K "NothingToUndo" tlL "LookupError.__new__" && (exNB K "Busy" tlL "LookupError.__new__" && (exITB K "NotABoard" "value" [.type "ValueError", .type "Exception", .type "BaseException", .type "object"] "ValueError.__new__" && (exITB K "NotAHistory" "value" [.type "ValueError", .type "Exception", .type "BaseException", .type "object"] "ValueError.__new__" && (exITB K "NotAGame" "value" [.type "ValueError", .type "Exception", .type "BaseException", .type "object"] "ValueError.__new__" && (exITB K "InvalidLetters" "value" [.type "ValueError", .type "Exception", .type "BaseException", .type "object"] "ValueError.__new__" && (exITB K "InvalidLength" "value" [.type "ValueError", .type "Exception", .type "BaseException", .type "object"] "ValueError.__new__" && (exITB K "InvalidWord" "value" [.type "ValueError", .type "Exception", .type "BaseException", .type "object"] "ValueError.__new__" && (exITB K "InvalidMarks" "value" [.type "ValueError", .type "Exception", .type "BaseException", .type "object"] "ValueError.__new__" && (exITB K "InvalidFact" "value" [.type "ValueError", .type "Exception", .type "BaseException", .type "object"] "ValueError.__new__" && (exITB K "InvalidNumber" "value" [.type "ValueError", .type "Exception", .type "BaseException", .type "object"] "ValueError.__new__" && (exITB K "InvalidPlace" "value" [.type "ValueError", .type "Exception", .type "BaseException", .type "object"] "ValueError.__new__" && (exITB K "InvalidLine" "value" [.type "ValueError", .type "Exception", .type "BaseException", .type "object"] "ValueError.__new__" && (exITB K "InvalidRows" "index" [.type "ValueError", .type "Exception", .type "BaseException", .type "object"] "ValueError.__new__" && (exITB K "InvalidFacts" "index" [.type "ValueError", .type "Exception", .type "BaseException", .type "object"] "ValueError.__new__" && (exITB K "InvalidGuesses" "index" [.type "ValueError", .type "Exception", .type "BaseException", .type "object"] "ValueError.__new__" && (exITB K "InvalidDeeds" "index" [.type "ValueError", .type "Exception", .type "BaseException", .type "object"] "ValueError.__new__" && (exITB K "WordNotLeft" "value" tlL "LookupError.__new__" && (exITB K "GuessNotLeft" "value" tlL "LookupError.__new__" && (exITB K "TooManyRows" "limit" tlA "ArithmeticError.__new__" && ((TSX.all fun c => excCB K (He.ga K (TT.cn c))) && ((TBX.all fun q => decide (PySem.W.kitOne K (.ref (He.ga K (TT.cn q.1))) (q.2.1.v TT K) = some q.2.2)) && ((([20, 22, 25, 26] : List Nat).all fun c => decide (PySem.W.findIn K (.ref (He.ga K (TT.cn c))) (TT.fn 20) = some none)) && ((([34] : List Nat).all fun c => decide (PySem.W.findIn K (.ref (He.ga K (TT.cn c))) (TT.fn 21) = some none)) && ((([13, 14, 15, 16, 17, 18, 19, 21, 23, 24, 27, 32, 33] : List Nat).all fun c => decide (PySem.W.findIn K (.ref (He.ga K (TT.cn c))) (TT.fn 19) = some none))))))))))))))))))))))))))))))))
abbrev Rw : PySem.W.OpenRow := PySem.W.OpenLaw.row PySem.Challenge.rw_guessmarks_k07_errors_and_limits
abbrev hk : PySem.W.Hook := hookA ex fn TFD
def loose : List Str := (["InputError", "StateError", "SizeError", "NotABoard", "NotAHistory", "NotAGame", "InvalidLetters", "InvalidLength", "InvalidWord", "InvalidMarks", "InvalidFact", "InvalidNumber", "InvalidPlace", "InvalidLine", "InvalidRows", "InvalidFacts", "InvalidGuesses", "InvalidDeeds", "Mismatch", "NoWord", "NothingToUndo", "Busy", "WordNotLeft", "GuessNotLeft", "TooManyRows", "MOST_LENGTH", "MOST_LETTERS", "MOST_ROWS", "MOST_GUESSES", "MOST_FACTS"] : List Str) ++ (["MOST_MENDED", "_law_bowl", "_law_dip", "_law_of", "_law_value_errors", "_law_state_errors", "_law_instances", "_law_bases", "_law_right"] : List Str)
theorem run (w : World) : HandSHeadRun.RunEq Rw (PySem.W.view Rw.prog [41]) hk (seeB ex fn TFD) 9000 loose w := by
  intro os
  kernel_rfl
end K07
set_option Elab.async false
set_option linter.all false
set_option maxRecDepth 100000
set_option maxHeartbeats 1010000
/-! JZx: xs.index(text) -/
namespace J
open PySem PySem.Spec L2 PyProof.Rows
/-! ### list(xs), never changed -/
end J
set_option Elab.async false
set_option linter.all false
set_option maxRecDepth 100000
set_option maxHeartbeats 1010000
/-! JZy: t < u of pairs, the least of a list of pairs, a key not in a dict -/
namespace J
open PySem PySem.Spec L2 PyProof.Rows
/-! ### t < u of pairs; the least of a list of pairs; a key not in a dict -/
end J
set_option Elab.async false
set_option linter.all false
set_option maxRecDepth 100000
set_option maxHeartbeats 1010000
/-! JYb: t < u of pairs of a number and a tuple of numbers -/
namespace J
open PySem PySem.Spec L2 PyProof.Rows
end J
set_option Elab.async false
set_option linter.all false
set_option maxRecDepth 100000
set_option maxHeartbeats 1010000
/-! JYc: a target within a target -/
namespace J
open PySem PySem.Spec L2 PyProof.Rows
end J
set_option Elab.async false
set_option linter.all false
set_option maxRecDepth 100000
set_option maxHeartbeats 1010000
/-! JZz: try: body / except (A, B, C) as e: suite, as a statement -/
namespace J
open PySem PySem.Spec L2 PyProof.Rows
end J
set_option Elab.async false
set_option linter.all false
set_option maxRecDepth 100000
set_option maxHeartbeats 1010000
/-! JYd: several clauses 'except C as e', each with a suite of its own over the error as a value -/
namespace J
open PySem PySem.Spec L2 PyProof.Rows LamX
inductive HdY (X : Cx) (n : Str) : List ExceptHandler → List (Value × TS) → Prop
  | nil : HdY X n [] []
  | cons {x : Str} {c : Value} {ts : TS} {st : Stmt} {more : List Stmt} {p1 p2 : Pos} {hds : List ExceptHandler} {l : List (Value × TS)} (nm : Names X x c)
      (su : ∀ (a : Addr) (pn : List (Addr × Obj)), PSs (X.suite a pn) (st :: more) ts) (tl : HdY X n hds l) : HdY X n (.ExceptHandler (some (.Name x p1)) (some n) (st :: more) p2 :: hds) ((c, ts) :: l)
/-! ### the clauses, told -/
/-- the suites of the clauses -/
inductive HdJ (T : Tab) (X : Cx) (n : Str) : List ExceptHandler → List (Value × IS) → Prop
  | nil : HdJ T X n [] []
  | cons {x : Str} {c : Value} {is : IS} {st : Stmt} {more : List Stmt} {p1 p2 : Pos} {hds : List ExceptHandler} {l : List (Value × IS)} (nm : Names X x c)
      (su : ∀ (a : Addr) (pn : List (Addr × Obj)), JSs T (X.suite a pn) WN (st :: more) is) (tl : HdJ T X n hds l) : HdJ T X n (.ExceptHandler (some (.Name x p1)) (some n) (st :: more) p2 :: hds) ((c, is) :: l)
/-! ### the law's def that calls what it gets, with such clauses -/
theorem HdY.len {X : Cx} {n : Str} {hds : List ExceptHandler} {T : Tab} {l : List (Value × IS)} {k : Nat} (hk : X.N.length = k) (h : HdJ T X n hds l) : HdY X n hds (l.map fun q => (q.1, fun D σ H => σ.length = k → tS T X.K WN q.2 D σ H)) := by
  induction h with
  | nil => exact .nil
  | cons nm su tl ih => exact .cons nm (fun a pn => PSs.mono (pss_len (su a pn)) fun D σ H z l => z (by rw [l]; exact hk)) ih
end J
set_option Elab.async false
set_option linter.all false
set_option maxRecDepth 100000
set_option maxHeartbeats 1010000
/-! JYj: l.pop(); an instance made by places and keywords, keyword-only parameters among them -/
namespace J
open PySem PySem.Spec L2 PyProof.Rows
/-! ### C(e, ..), further parameters by their defaults -/
end J
set_option Elab.async false
set_option linter.all false
set_option maxRecDepth 100000
set_option maxHeartbeats 1010000
/-! JYk: a list walked, a tuple unpacked, while an error is handled -/
namespace J
open PySem PySem.Spec L2 PyProof.Rows HotX
/-! ### in the context -/
/-- the error at a is told -/
def HotIs (a : Addr) (H : Hp) : Prop := ∃ C d, H a = some (exL a C d)
theorem HotIs.at {X : Cx} {pins : List (Addr × Obj)} {σ : L2.St} {H : Hp} {s : Shared} {a : Addr} (hh : X.A.handled = some (.ref a)) (I : Inv X pins σ H s) (k : HotIs a H) : HotAt X.A a s.heap := by
  obtain ⟨C, d, e⟩ := k
  obtain ⟨o, vs, g, z, dt⟩ := exL_at I.hok e
  exact ⟨hh, o, vs, g, dt, z.2.2 vs dt⟩
end J
set_option Elab.async false
set_option linter.all false
set_option maxRecDepth 100000
set_option maxHeartbeats 1010000
/-! JYl: a list comprehension over a list while an error is handled -/
namespace J
open PySem PySem.Spec L2 PyProof.Rows HotX
end J
set_option Elab.async false
set_option linter.all false
set_option maxRecDepth 100000
set_option maxHeartbeats 1010000
/-! JYm: comprehensions in the suites of clauses, defs called there that know the error -/
namespace J
open PySem PySem.Spec L2 PyProof.Rows HotX
/-! ### a def that knows which error is handled -/
end J
set_option Elab.async false
set_option linter.all false
set_option maxRecDepth 100000
set_option maxHeartbeats 1010000
/-! JYn: a def called in a suite that knows the error; the clause whose suite knows it -/
namespace J
open PySem PySem.Spec L2 PyProof.Rows HotX
end J
set_option Elab.async false
set_option linter.all false
set_option maxRecDepth 100000
set_option maxHeartbeats 1010000
/-! JYo: try: body / finally: suite, where the body may raise; the suite raises nothing -/
namespace J
open PySem PySem.Spec L2 PyProof.Rows
/-! ### as a statement -/
end J
set_option Elab.async false
set_option linter.all false
set_option maxRecDepth 100000
set_option maxHeartbeats 1010000
/-! JYp: methods with a star parameter and one by keyword alone, None by default; two fields set at once -/
namespace J
open PySem PySem.Spec L2 PyProof.Rows
/-! ### o.f, o.g = a, b -/
end J
set_option Elab.async false
set_option linter.all false
set_option maxRecDepth 100000
set_option maxHeartbeats 1010000
/-! JYq: repr of lists and tuples that hold instances whose classes have a __repr__ of their own -/
namespace J
open PySem PySem.Spec L2 PyProof.Rows
/-! ### a def called under any repr, whatever is handled -/
structure FnGU (P : Program) (w : World) (K : PySem.W.Frag) (mg : Str → Option Value) (base : Heap) (k : Nat) (f : Addr) (fd : FuncData) (ps : List Str) (sp : Sp) : Prop where
  len : ∀ (vs : List V) H Q E, sp vs H Q E → vs.length = ps.length
  run : ∀ (A : Around) (fr : List Env) (s : Shared) (H : Hp) (ar : Args) (us : List Value) (vs : List V) (Q : VK), L2H.RoomH k A →
    Env0 P w K mg base A fr s H → BindsTo s fd ar (ps.zip us) → Vals vs us → sp vs H Q C8.E0 → codeAny (model P w) A (.call (.ref f) ar) (CR C8.CX0 fr P w H s Q C8.E0) s
theorem FnGU.mono {P : Program} {w : World} {K : PySem.W.Frag} {mg : Str → Option Value} {base : Heap} {f : Addr} {fd : FuncData} {k j : Nat} {ps : List Str} {sp : Sp} (F : FnGU P w K mg base j f fd ps sp) (h : j ≤ k) : FnGU P w K mg base k f fd ps sp :=
  ⟨F.len, fun A fr s H ar us vs Q r => F.run A fr s H ar us vs Q (r.mono h)⟩
/-- the class c answers repr by rp, which looks at an instance's fields alone -/
def RepC (P : Program) (w : World) (T : Tab) (K : PySem.W.Frag) (mg : Str → Option Value) (base : Heap) (k c : Nat) (rp : List D → Option (List Nat)) : Prop :=
  ∃ f fd sem, FnGU P w K mg base k f fd ["self"] (spJ T K 1 sem) ∧ Binds K fd ["self"] [] ∧ PySem.W.findIn K (.ref (He.ga K (T.cn c))) "__repr__" = some (some (.ref f)) ∧ PySem.W.isFn K (.ref f) = true ∧
    ∀ fs l S, rp fs = some l → sem [.ins c fs] S = .ok (.str l) S ∨ sem [.ins c fs] S = .ok (.str l) (S.trim S.next)
/-! ### the state between two items -/
section
variable (T : Tab) (X : Cx) (F : Hp) (S : Store) (G : Hp) (ι : List Addr)
def StX (pins : List (Addr × Obj)) (σ : L2.St) (s : Shared) : Prop := ∃ ι1 G1 H1, Em T X.K F S ι1 G1 H1 ∧ Ext G ι G1 ι1 ∧ Inv X pins σ H1 s
structure Bx (X : Cx) (k : Nat) (A : Around) : Prop where
  r : L2H.RoomH k A
  fr : A.frames = some X.stack
/-- u's text is t, under any repr -/
def SayX (k : Nat) (as : List Addr) (u : Value) (t : Str) : Prop :=
  ∀ (b : Nat) (A : Around) (g : List Code) (E : Value → Shared → Prop) (pins : List (Addr × Obj)) (σ : L2.St) (s : Shared) (Q : Str → Shared → Prop), b + t.length ≤ sizeLine → A.guards = some g → (∀ a ∈ as, Clear g a) → Bx X k A →
    StX T X F S G ι pins σ s → (∀ s', StX T X F S G ι pins σ s' → Q t s') → wpAny (model X.prog X.w) A (pyReprUnder b u) Q E s
def SayV (k : Nat) (as : List Addr) (v : V) (t : Str) : Prop := ∀ u, RelV v u → SayX T X F S G ι k as u t
end
section
variable {T : Tab} {X : Cx} {F : Hp} {S : Store} {G : Hp} {ι : List Addr} {pins : List (Addr × Obj)} {σ : L2.St} {s : Shared} {k j : Nat} {as as' : List Addr} {u : Value} {v : V} {t : Str} {A : Around}
theorem Bx.le (b : Bx X k A) (h : j ≤ k) : Bx X j A := ⟨⟨by have := b.r.dp; omega, by have := b.r.un; omega⟩, b.fr⟩
theorem StX.kept {h' : Heap} {tk : Nat} (st : StX T X F S G ι pins σ s) (kp : ∀ b o, s.heap.get? b = some o → h'.get? b = some o) : StX T X F S G ι pins σ { s with heap := h', toks := tk } :=
  let ⟨ι1, G1, H1, em, x, I⟩ := st
  ⟨ι1, G1, H1, em, x, I.kept kp⟩
theorem SayX.le (h : SayX T X F S G ι j as u t) (hj : j ≤ k) (sub : ∀ b ∈ as, b ∈ as') : SayX T X F S G ι k as' u t := fun b A g E pins σ s Q hb hg hc hx => h b A g E pins σ s Q hb hg (fun a ha => hc a (sub a ha)) (hx.le hj)
theorem SayV.le (h : SayV T X F S G ι j as v t) (hj : j ≤ k) (sub : ∀ b ∈ as, b ∈ as') : SayV T X F S G ι k as' v t := fun u r => (h u r).le hj sub
/-! ### an instance -/
/-! ### a list -/
/-- all items are told -/
inductive SayL (T : Tab) (X : Cx) (F : Hp) (S : Store) (G : Hp) (ι : List Addr) (k : Nat) (as : List Addr) : List V → List Str → Prop
  | nil : SayL T X F S G ι k as [] []
  | cons {v : V} {t : Str} {vs : List V} {ts : List Str} : SayV T X F S G ι k as v t → SayL T X F S G ι k as vs ts → SayL T X F S G ι k as (v :: vs) (t :: ts)
theorem SayL.le (hj : j ≤ k) (sub : ∀ b ∈ as, b ∈ as') : ∀ {vs : List V} {ts : List Str}, SayL T X F S G ι j as vs ts → SayL T X F S G ι k as' vs ts
  | _, _, .nil => .nil
  | _, _, .cons h r => .cons (h.le hj sub) (r.le hj sub)
theorem SayL.length : ∀ {vs : List V} {ts : List Str}, SayL T X F S G ι k as vs ts → ts.length = vs.length
  | _, _, .nil => rfl
  | _, _, .cons _ r => by rw [List.length_cons, List.length_cons, r.length]
theorem SayL.at_ : ∀ {vs : List V} {ts : List Str}, SayL T X F S G ι k as vs ts → ∀ (i : Nat) (v : V), vs[i]? = some v → ∃ t, ts[i]? = some t ∧ SayV T X F S G ι k as v t
  | _, _, .nil, _, _, e => by simp only [List.getElem?_nil] at e; exact nomatch e
  | _, _, .cons h _, 0, _, e => by
    cases (show some _ = some _ from e)
    exact ⟨_, rfl, h⟩
  | _, _, .cons _ r, i + 1, v, e => r.at_ i v (by simpa using e)
/-! ### a tuple -/
end
end J
set_option Elab.async false
set_option linter.all false
set_option maxRecDepth 100000
set_option maxHeartbeats 1010000
/-! JYr: repr(x), x a list or a tuple that holds instances, or an instance, whatever is handled -/
namespace J
open PySem PySem.Spec L2 PyProof.Rows
/-! ### how deep lists and tuples lie -/
mutual
inductive Rk (G : Hp) : V → Nat → Prop
  | leaf {v : V} : (∀ a, v = .ref a → ∀ vs, G a ≠ some (.lst vs) ∧ G a ≠ some (.tup vs)) → Rk G v 0
  | lst {a : Addr} {vs : List V} {n : Nat} : G a = some (.lst vs) → RkS G vs n → Rk G (.ref a) (n + 1)
  | tup {a : Addr} {vs : List V} {n : Nat} : G a = some (.tup vs) → RkS G vs n → Rk G (.ref a) (n + 1)
inductive RkS (G : Hp) : List V → Nat → Prop
  | nil : RkS G [] 0
  | cons {v : V} {vs : List V} {n m : Nat} : Rk G v n → RkS G vs m → RkS G (v :: vs) (max n m)
end
mutual
theorem Rk.det {G : Hp} : ∀ {v : V} {n m : Nat}, Rk G v n → Rk G v m → n = m
  | _, _, _, .leaf h, k => by
    cases k with
    | leaf _ => rfl
    | lst e _ => exact absurd e (h _ rfl _).1
    | tup e _ => exact absurd e (h _ rfl _).2
  | _, _, _, .lst e r, k => by
    cases k with
    | leaf h => exact absurd e (h _ rfl _).1
    | lst e2 r2 =>
      rw [e] at e2
      cases e2
      rw [RkS.det r r2]
    | tup e2 _ =>
      rw [e] at e2
      exact nomatch e2
  | _, _, _, .tup e r, k => by
    cases k with
    | leaf h => exact absurd e (h _ rfl _).2
    | lst e2 _ =>
      rw [e] at e2
      exact nomatch e2
    | tup e2 r2 =>
      rw [e] at e2
      cases e2
      rw [RkS.det r r2]
theorem RkS.det {G : Hp} : ∀ {vs : List V} {n m : Nat}, RkS G vs n → RkS G vs m → n = m
  | _, _, _, .nil, k => by cases k; rfl
  | _, _, _, .cons h r, k => by
    cases k with
    | cons h2 r2 => rw [Rk.det h h2, RkS.det r r2]
end
/-- addresses of lists and tuples not deeper than n -/
def Low (G : Hp) (as : List Addr) (n : Nat) : Prop := ∀ b ∈ as, ∃ m, m ≤ n ∧ Rk G (.ref b) m
theorem Low.le {G : Hp} {as : List Addr} {n m : Nat} (h : Low G as n) (k : n ≤ m) : Low G as m := fun b hb => let ⟨j, l, r⟩ := h b hb; ⟨j, Nat.le_trans l k, r⟩
theorem Low.no {G : Hp} {as : List Addr} {n : Nat} {a : Addr} (h : Low G as n) (r : Rk G (.ref a) (n + 1)) : a ∉ as := fun hm => by
  obtain ⟨m, l, r2⟩ := h a hm
  have := r.det r2
  omega
theorem Low.cons {G : Hp} {as : List Addr} {n : Nat} {a : Addr} (h : Low G as n) (r : Rk G (.ref a) (n + 1)) : Low G (a :: as) (n + 1) := fun b hb => by
  rcases (List.mem_cons.mp hb) with rfl | hb
  · exact ⟨n + 1, Nat.le_refl _, r⟩
  · exact (h.le (Nat.le_succ n)) b hb
/-! ### the text of a tree -/
mutual
def txX (rp : Nat → List D → Option (List Nat)) : D → Option (Str × Nat)
  | .non => some (PyData.shown .none, 0)
  | .bl b => some (PyData.shown (.bool b), 0)
  | .int i => if i.natAbs.log2 < 1920 then some (PyData.shown (.int i), 0) else none
  | .str x => some (PyData.shown (.str ⟨x.toArray⟩), 0)
  | .dct [] [] => some (PyData.shown (.dict []), 0)
  | .ins c fs => (rp c fs).map fun l => (⟨l.toArray⟩, 0)
  | .lst xs => (txXs rp xs).map fun p => (listText p.1, p.2 + 1)
  | .tup xs => (txXs rp xs).map fun p => (tupleText p.1, p.2 + 1)
  | _ => none
def txXs (rp : Nat → List D → Option (List Nat)) : List D → Option (List Str × Nat)
  | [] => some ([], 0)
  | x :: xs => (txX rp x).bind fun p => (txXs rp xs).map fun q => (p.1 :: q.1, max p.2 q.2)
end
/-! ### the call -/
end J
set_option Elab.async false
set_option linter.all false
set_option maxRecDepth 100000
set_option maxHeartbeats 1010000
/-! JYs: what repr of a board and of a history say -/
namespace J
open PySem PySem.Spec L2 PyProof.Rows
theorem RepC.mono {P : Program} {w : World} {T : Tab} {K : PySem.W.Frag} {mg : Str → Option Value} {base : Heap} {k j c : Nat} {rp : List D → Option (List Nat)} (h : RepC P w T K mg base j c rp) (hj : j ≤ k) : RepC P w T K mg base k c rp :=
  let ⟨f, fd, sem, F, r⟩ := h
  ⟨f, fd, sem, F.mono hj, r⟩
theorem RepC.of_eq {P : Program} {w : World} {T : Tab} {K : PySem.W.Frag} {mg : Str → Option Value} {base : Heap} {k c : Nat} {rp rp' : List D → Option (List Nat)} (h : RepC P w T K mg base k c rp) (e : ∀ fs, rp' fs = rp fs) : RepC P w T K mg base k c rp' := by
  have : rp' = rp := funext e
  rw [this]
  exact h
end J
set_option Elab.async false
set_option linter.all false
set_option maxRecDepth 100000
set_option maxHeartbeats 1010000
/-! JYt: C(e), C(f=e), C() of an own exception, kept as a value -/
namespace PySem
namespace HandSPX
section
variable {A : Around} {M : Model} {E : Value → Shared → Prop} {h : Heap} {g : Array GenState} {d : Drawn} {t : Nat} {os : OsState}
variable {nm q : Str} {C N : Addr} {bs bm bmB : List Value} {hdct : Bool} {sn : List Str} {sub : List Value} {ab : Bool} {col : Option Bool} {dd : Option Addr} {z0 z1 z2 z3 z5 : Option Value} {B newId initId : String}
theorem check_new_ownK (F : ExcBaseFacts B newId initId bmB) (sameT : ∀ X : String, bm.contains (.type X) = bmB.contains (.type X)) {x : Str} {v : Value} {Q : Unit → Shared → Prop}
    (atC : h.get? C = some (excClassObj nm q C N bs bm hdct sn sub ab col dd z0 z1 z2 z3 z5 newId)) (fin : Q () ⟨h, g, d, t, os⟩) : wpAny M A (checkBuiltinCall newId ⟨[.ref C], [(x, v)]⟩) Q E ⟨h, g, d, t, os⟩ := by
  have inB : (Value.ref C :: bm).contains (.type B) = true := by rw [List.contains_cons, sameT, F.hasB, Bool.or_true]
  have hstar := F.noStar
  simp only [checkBuiltinCall, F.newRow, F.newKind, F.newSplit]
  repeat (first | refine wpAny_loadPart_at atC ?_ | (refine wpAny_isSubtype_exc atC ?_; rw [inB]) | refine wpAny_staticBase_exc atC ?_ | refine wpAny_madeBy_exc atC ?_ | simp only [bne_self_eq_false, Bool.false_eq_true, if_false] | wp_step)
  exact fin
end
section
variable {w : World} {prog : Program} {A : Around} {E : Value → Shared → Prop} {R : Result → Shared → Prop} {h : Heap} {g : Array GenState} {d : Drawn} {t : Nat} {os : OsState}
variable {nm q : Str} {C N : Addr} {bs bm bmB : List Value} {hdct : Bool} {sn : List Str} {sub : List Value} {ab : Bool} {col : Option Bool} {dd : Option Addr} {z0 z1 z2 z3 z5 : Option Value} {B newId initId : String}
theorem new_ownK (F : ExcBaseFacts B newId initId bmB) (sameT : ∀ X : String, bm.contains (.type X) = bmB.contains (.type X)) {x : Str} {v : Value}
    (atC : h.get? C = some (excClassObj nm q C N bs bm hdct sn sub ab col dd z0 z1 z2 z3 z5 newId))
    (fin : R (.ok (.ret (.ref (h.objs.size + 1)))) ⟨(h.push (W.kdv_tup [])).push (excO C h.objs.size), g, d, t, os⟩) :
    codeAny (model prog w) A (.builtin newId ⟨[.ref C], [(x, v)]⟩) R ⟨h, g, d, t, os⟩ := by
  have hends := F.ends
  have inB : (Value.ref C :: bm).contains (.type B) = true := by rw [List.contains_cons, sameT, F.hasB, Bool.or_true]
  have inA : (Value.ref C :: bm).contains (.type "AttributeError") = false := by rw [List.contains_cons, sameT, F.noAttr]; rfl
  have inN : (Value.ref C :: bm).contains (.type "NameError") = false := by rw [List.contains_cons, sameT, F.noName]; rfl
  refine (codeAny_builtinAt F.entry ?_)
  unfold PySem.Builtin.«BaseException.__new__»
  refine wpAt_bind ?_
  change wpAt _ _ _ (stack >>= _) _ _ _
  refine wpAt_bind (wpAt_stack fun pp bel => wpAt_of_wpAny ?_)
  wp_walk
  refine wpAt_of_wpAny ?_
  rw [F.owner]
  repeat (first | (with_reducible refine wpAny_madeHere_exc F.canon atC ?_) | with_reducible refine wpAny_loadPart_at atC ?_ | (with_reducible refine wpAny_isSubtype_exc atC ?_; first | rw [inB] | rw [inA] | rw [inN]) | wp_step)
  show R _ _
  rw [Heap.size_push]
  exact fin
theorem type_call_ownK (F : ExcBaseFacts B newId initId bmB) (sameT : ∀ X : String, bm.contains (.type X) = bmB.contains (.type X)) {x : Str} {v : Value} {fI : Addr} {Q : Fin → Shared → Prop}
    (atC : h.get? C = some (excClassObj nm q C N bs bm hdct sn sub ab col dd z0 z1 z2 z3 z5 newId))
    (isI : W.Looks (model prog w) h (typeLookup (.ref C) "__init__") (some (.ref fI))) (isB : ∀ self, W.Looks (model prog w) h (bindSpecial (.ref fI) self) (.ref fI, [self]))
    (fin : codeAny (model prog w) A (.call (.ref fI) ⟨[.ref (h.objs.size + 1)], [(x, v)]⟩)
      (fun r s2 => match r with | .ok (.ret v) => v = .none ∧ Q (.done (.ret (.ref (h.objs.size + 1)))) s2 | .ok _ => False | .error e => E e s2)
      ⟨(h.push (W.kdv_tup [])).push (excO C h.objs.size), g, d, t, os⟩) :
    wpAny (model prog w) A (Builtin.«type.__call__» ⟨[.ref C], [(x, v)]⟩) Q E ⟨h, g, d, t, os⟩ := by
  repeat (first | with_reducible refine wpAny_loadPart_at atC ?_ | with_reducible refine wpAny_madeBy_exc atC ?_ | wp_step)
  refine codeAny_call_builtin_code (Code.quiet_builtin _ F.quiet) (check_new_ownK F sameT atC ?_)
  refine new_ownK F sameT atC ?_
  show wpAny _ _ _ _ _ _
  have k : ∀ b o, h.get? b = some o → ((h.push (W.kdv_tup [])).push (excO C h.objs.size)).get? b = some o := fun b o e => Heap.get?_push_of_some _ (Heap.get?_push_of_some _ e)
  have atC1 := k _ _ atC
  have here : ((h.push (W.kdv_tup [])).push (excO C h.objs.size)).get? (h.objs.size + 1) = some (excO C h.objs.size) := by heap_get
  have inC : (Value.ref C :: bm).contains (.ref C) = true := by simp only [List.contains_cons, beq_self_eq_true, Bool.true_or]
  have i1 := isI.keeps k
  have bb := (isB (.ref (h.objs.size + 1))).keeps k
  unfold isInstance
  repeat (first | with_reducible refine wpAny_loadPart_at here ?_ | (with_reducible refine wpAny_isSubtype_exc atC1 ?_; rw [inC]) | wp_step)
  change wpAny _ _ (typeLookup (.ref C) _) _ _ _
  refine i1.at ?_
  refine wpAny_holding (wpAny_bind (bb.at ?_))
  refine wpAny_bind (wpAny_call (codeAny_mono fin fun r s2 z => ?_))
  rcases r with e | (u | _ | _ | _) <;> first | exact z | exact z.elim | skip
  obtain ⟨rfl, z⟩ := z
  first
    | exact (wpAny_pure (wpAny_pure z))
    | (wp_walk; exact z)
theorem check_callK {M : Model} {x : Str} {v : Value} {Q : Unit → Shared → Prop} (atC : h.get? C = some (excClassObj nm q C N bs bm hdct sn sub ab col dd z0 z1 z2 z3 z5 newId))
    (fin : Q () ⟨h, g, d, t, os⟩) : wpAny M A (checkBuiltinCall "type.__call__" ⟨[.ref C], [(x, v)]⟩) Q E ⟨h, g, d, t, os⟩ := by
  have f3 := tc_sub
  have sameT : (⟨h, g, d, t, os⟩ : Shared).TypeIs (.ref C) "type" := ⟨_, atC, rfl⟩
  simp only [checkBuiltinCall, tc_split, tc_kind]
  repeat (any_goals (first | assumption | with_reducible refine wpAny_loadPart_at atC ?_ | with_reducible refine wpAny_onRaise ?_ | with_reducible refine wpAny_map ?_ | wp_step))
theorem call_ownK (F : ExcBaseFacts B newId initId bmB) (sameT : ∀ X : String, bm.contains (.type X) = bmB.contains (.type X)) {x : Str} {v : Value} {fI : Addr}
    (atC : h.get? C = some (excClassObj nm q C N bs bm hdct sn sub ab col dd z0 z1 z2 z3 z5 newId))
    (isI : W.Looks (model prog w) h (typeLookup (.ref C) "__init__") (some (.ref fI))) (isB : ∀ self, W.Looks (model prog w) h (bindSpecial (.ref fI) self) (.ref fI, [self]))
    (fin : codeAny (model prog w) (A.under (.builtin "type.__call__" ⟨[.ref C], [(x, v)]⟩)) (.call (.ref fI) ⟨[.ref (h.objs.size + 1)], [(x, v)]⟩) (W.InitBack (h.objs.size + 1) R)
      ⟨(h.push (W.kdv_tup [])).push (excO C h.objs.size), g, d, t, os⟩) :
    codeAny (model prog w) A (.call (.ref C) ⟨[], [(x, v)]⟩) R ⟨h, g, d, t, os⟩ := by
  have f1 := tc_lookup
  have f2 := tc_bind (.ref C)
  have isTy : (⟨h, g, d, t, os⟩ : Shared).TypeIs (.ref C) "type" := ⟨_, atC, rfl⟩
  refine codeAny_of_tree ?_
  change wpAny _ _ (callAny (.ref C) _) _ _ _
  repeat (any_goals (first | assumption | with_reducible refine wpAny_loadPart_at atC ?_ | wp_step))
  refine ⟨rfl, ?_⟩
  refine codeAny_call_builtin_at (Code.quiet_builtin _ (by decide +kernel)) entry_typeCall (check_callK atC (type_call_ownK F sameT atC isI isB ?_))
  refine codeAny_mono fin fun r s2 z => ?_
  rcases r with e | (u | _ | _ | _) <;> exact z
end
end HandSPX
end PySem
namespace J
open PySem PySem.Spec L2 PyProof.Rows
abbrev tlV : List Value := [.type "ValueError", .type "Exception", .type "BaseException", .type "object"]
theorem base_V : BaseT tlV "ValueError.__new__" := ⟨⟨_, _, F.excBase_ValueError⟩, ⟨_, F.store_ValueError⟩⟩
/-- a made exception, kept -/
theorem pe_mk {X : Cx} {e : Expr} {t : L2.St → Hp → XK → Prop} (ex : X.ex = []) (he : L2N.PMk X e t) : PE X e (fun σ H Q => t σ H fun cls d H' => ∃ C, cls = .ref C ∧ ∀ a, H' a = none → Q (.ref a) (upd H' a (exL a C d))) := by
  constructor
  intro pins s σ H Q I h
  refine wpAny_mono (he pins s σ H _ I h) (fun u s1 hu => ?_) (fun _ _ x => x)
  obtain ⟨a, oe, vs, sI, H', cls, d, rfl, J, k, hne, ha, hz, hd, h1, na, os, ag, r, C, rfl, q⟩ := hu
  have J1 : Inv X pins σ H' s1 := J.landed (B := sI.heap) (fun _ _ e _ => e) k (Heap.UpToSlots.of_keeps k) os ag
  have no : ∀ {b : Addr} {o : Obj}, sI.heap.get? b = some o → b ≠ a := fun e z => by
    rw [z, hne] at e
    cases e
  have n0 : (X.s_0.heap.get? a) = none := by
    rcases Option.eq_none_or_eq_some (X.s_0.heap.get? a) with q | ⟨o, q⟩
    · exact q
    · obtain ⟨o', q'⟩ := J.base.there a o q (by rw [ex]; simp)
      exact (no q' rfl).elim
  have nL : a ≠ X.env.locals := by
    obtain ⟨m, ⟨o', es, ep, ho', hd', _⟩, _⟩ := J.loc
    exact (no ho').symm
  exact ⟨.ref a, _, inv_hold J1 ha hz hd na n0 nL fun p hp => no (J.pin p hp).1, rfl, q a na⟩
/-- what is left of the making, told as a value -/
theorem exn_go {T : Tab} {K : PySem.W.Frag} {F : Hp} {W : WX} {σ : L2.St} {S : Store} {ι : List Addr} {G H : Hp} {c f : Nat} {d : D} {y : V} {Q : VK} {a dx : Addr} (em : Em T K F S ι G H) (r : DR T K G ι d y) (hdx : H dx = none)
    (q : Thn T K F W σ G ι (DR T K) (M.ret (D.exn c [f] [d]) S) Q) (na : (upd H dx (.xd [(T.fn f, y)])) a = none) : Q (.ref a) (upd (upd H dx (.xd [(T.fn f, y)])) a (exL a (He.ga K (T.cn c)) (some dx))) := by
  obtain ⟨em2, x2⟩ := em.frz (o := .xd [(T.fn f, y)]) hdx
  obtain ⟨em3, x3⟩ := em2.frz (o := exL a (He.ga K (T.cn c)) (some dx)) na
  have ne : dx ≠ a := fun z => by
    rw [← z, upd_same] at na
    cases na
  have at_ : (upd (upd G dx (.xd [(T.fn f, y)])) a (exL a (He.ga K (T.cn c)) (some dx))) dx = some (.xd [(T.fn f, y)]) := by
    rw [upd_ne ne, upd_same]
  exact q _ _ _ _ em3 (x2.trans x3) (exnOf_ok (fs := [(f, d)]) (.inr ⟨dx, [(T.fn f, y)], rfl, at_, y, [], rfl, r.mono (x2.trans x3).1 (x2.trans x3).2, rfl⟩) upd_same)
def iExn (c f : Nat) (ie : IE) : IE := fun ρ => M.bind (ie ρ) fun d => M.ret (.exn c [f] [d])
theorem je_exn {T : Tab} {X : Cx} {W : WX} {x : Str} {c f : Nat} {e : Expr} {ie : IE} {p p1 : Pos} {tl : List Value} {newId : String} (bt : BaseT tl newId) (V_ : ExcVT X.prog X.w X.K X.mg X.base (He.ga X.K (T.cn c)) x (T.fn f) tl newId) (hr : Room 2 X.A) (tk0 : L2N.Takes X fun _ _ _ _ => False) (hg : Gl X x)
    (he : JE T X W e ie) (ex : X.ex = [] := by rfl) (hdb : (x == ("__debug__" : Str)) = false := by decide) (h1 : starEach [e] X.env = (false, eval e X.env) :: starEach [] X.env := by rfl) : JE T X W (.Call (.Name x p) [e] [] p1) (iExn c f ie) := by
  obtain ⟨fI, fd, hI, hT, hb, F⟩ := V_.ini
  have m := pmk_t (p := p) (pos := p1) bt V_.oex hI hT F hr hb (L2N.passes_call tk0 fun _ _ _ _ z => z) hg V_.at_ (pa_cons he pa_nil h1) hdb h1 rfl
  refine PE.mono (pe_mk ex m) fun σ H Q z => ?_
  obtain ⟨ρ, Fr, S, ι, G, em, sr, h⟩ := z
  refine ⟨ρ, Fr, S, ι, G, em, sr, Thn.bind (rel2 := DR T X.K) h fun d S1 y ι1 G1 H1 em1 x1 r q => ?_⟩
  refine ⟨by simp, fun a ha => ⟨a, y, rfl, upd_same, fun dx hdx hne => ⟨rfl, dx, [(T.fn f, y)], upd_same, by rw [upd_ne hne, upd_same], ?_, ?_⟩⟩⟩
  · rw [upd_ne hne] at hdx
    exact hdx
  · rw [upd_ne hne] at hdx
    rw [made_eq ha hne]
    exact ⟨_, rfl, fun a2 na2 => exn_go em1 r hdx q na2⟩
/-- C() -/
def iExn0 (c : Nat) : IE := fun _ => M.ret (.exn c [] [])
theorem je_exn0 {T : Tab} {X : Cx} {W : WX} {x : Str} {c : Nat} {p p1 : Pos} {tl : List Value} {newId : String} (bt : BaseT tl newId) (N : ExN X.K x tl newId) (at_ : X.mg (T.cn c) = some (.ref (He.ga X.K (T.cn c)))) (hx : x = T.cn c) (hg : Gl X x) (ex : X.ex = [] := by rfl)
    (hdb : (x == ("__debug__" : Str)) = false := by decide) : JE T X W (.Call (.Name x p) [] [] p1) (iExn0 c) := by
  subst hx
  refine PE.mono (pe_mk ex (pmk_n0 (p := p) (pos := p1) bt N at_ hg hdb)) fun σ H Q ⟨ρ, F, S, ι, G, em, sr, q⟩ => ⟨_, rfl, fun a na => ?_⟩
  obtain ⟨em3, x3⟩ := em.frz (o := exL a (He.ga X.K (T.cn c)) none) na
  exact q _ _ _ _ em3 x3 (exnOf_ok (fs := []) (.inl ⟨rfl, rfl⟩) upd_same)
/-! ### C(f=e) -/
structure ExcVW (P : Program) (w : World) (K : PySem.W.Frag) (mg : Str → Option Value) (base : Heap) (C : Addr) (x f : Str) (tl : List Value) (newId : String) : Prop where
  oex : OexT K C tl newId
  at_ : mg x = some (.ref C)
  ini : ∃ fI fd, PySem.W.findIn K (.ref C) "__init__" = some (some (.ref fI)) ∧ PySem.W.typeIn K (.ref fI) = some (.type "function") ∧ BindsW K fd ["self", f] 1 [f] [0, 1] ∧
    FnOk P w K mg base (L2N.CX P w) 1 fI fd ["self", f] fun vs H Q _ => ∃ (a : Addr) (y : V), vs = [.ref a, y] ∧ H a = some (exo a C none) ∧ ∀ dx, H dx = none → dx ≠ a → Q .non (upd (upd H dx (exd dx [(f, y)])) a (exo a C (some dx)))
theorem excVW_of {w : World} {P : Program} {K : PySem.W.Frag} {base : Heap} {mg : Str → Option Value} {tl : List Value} {newId : String} {C fI : Addr} {x f q : Str} {fd : FuncData} {params : Arguments} {scope : Scope} {p1 p2 p3 p4 : Pos} (bt : BaseT tl newId) (oex : OexT K C tl newId) (hm : mg x = some (.ref C)) (hI : PySem.W.findIn K (.ref C) "__init__" = some (some (.ref fI))) (hT : PySem.W.typeIn K (.ref fI) = some (.type "function"))
    (hno : PySem.W.findIn K (.ref C) f = some none) (F : FunD K "__init__" q params [.Assign [.Attribute (.Name "self" p1) f p2] (.Name f p3) p4] scope [] [] fI fd) (S : FnScope ["self", f] ["self", f] scope) (hb : BindsW K fd ["self", f] 1 [f] [0, 1])
    (hd1 : (f == ("__debug__" : Str)) = false) (hd2 : (f == ("__classdict__" : Str)) = false) (hsw : ∀ X : Cx, swapsWith (.Name f p3) (some (.Attribute (.Name "self" p1) f p2)) p4.line X.env = pure false) : ExcVW P w K mg base C x f tl newId := by
  obtain ⟨_, B, SF⟩ := bt
  refine ⟨oex, hm, fI, fd, hI, hT, hb, F.ok (CX := L2N.CX P w) S (fun vs H Q E z => ?_) fun cdv A outer s H vs Q E hr z => ?_⟩
  · obtain ⟨a, y, rfl, _⟩ := z
    rfl
  · obtain ⟨a, y, rfl, ha, q⟩ := z
    have v0 : Vis scope "self" := by
      rcases S.par "self" List.mem_cons_self with e | e
      · exact .inl e
      · exact .inr (.inl e)
    have v1 : Vis scope f := by
      rcases S.par f (List.mem_cons_of_mem _ List.mem_cons_self) with e | e
      · exact .inl e
      · exact .inr (.inl e)
    refine ⟨_, pss_one (ps_ostT (newId := newId) SF (pe_var (i := 0) rfl v0 (by decide) (by decide)) (pe_var (i := 1) rfl v1 hd1 hd2) (hsw _)), ?_⟩
    exact ⟨y, rfl, .ref a, rfl, a, C, rfl, oex, hno, ha, fun dx hn hne => q dx hn hne⟩
theorem pmk_k {X : Cx} {CX : CXT} {x n : Str} {C fI : Addr} {k : Nat} {fd : FuncData} {sp : Sp} {kws : List Keyword} {ta : TA} {p pos : Pos} {tl : List Value} {newId : String} (bt : BaseT tl newId) (T : OexT X.K C tl newId) (hI : PySem.W.findIn X.K (.ref C) "__init__" = some (some (.ref fI)))
    (hF : PySem.W.typeIn X.K (.ref fI) = some (.type "function")) (G : FnOk X.prog X.w X.K X.mg X.base CX k fI fd ["self", n] sp) (hr : Room (k + 1) X.A) (hb : BindsW X.K fd ["self", n] 1 [n] [0, 1]) (ps0 : Passes CX X (fun _ _ _ => False)) (hg : Gl X x) (hm : X.mg x = some (.ref C)) (ha : PK X kws ta)
    (named : (backToKw pos (keywordEach kws X.env)).all (·.1.isSome) = true) (names : (backToKw pos (keywordEach kws X.env)).filterMap (·.1) = [n])
    (hpl : ((backTo pos (starEach [] X.env)).any (·.1) || (backToKw pos (keywordEach kws X.env)).any (·.1.isNone)) = false) (hdb : (x == ("__debug__" : Str)) = false := by decide) : L2N.PMk X (.Call (.Name x p) [] kws pos) (tMkO C sp [] ta) := by
  obtain ⟨⟨B, i, FB⟩, _⟩ := bt
  intro pins s σ H Q I want
  refine wpAny_Call_Name_kw (ld_glob (X := X) I hg hm ?_ hdb)
  refine PySem.W.callWith_KW0 (h₀ := X.base) I.ok.mod.kin T.keep named ?_ hpl
  refine thn (ha.run pos pins s σ H _ I want) ?_
  rintro us s1 ⟨vs, H1, I1, rel, short, go⟩
  refine ⟨I1.kIn, ?_⟩
  rw [names]
  obtain ⟨nm, N, qn, bs, bm, hdct, sn, sub, ab, col, dd, k0, k1, k2, k3, k5, hC, hT⟩ := PySem.W.excInit_of I1.kIn T.ini
  obtain ⟨hp, gs, dr, tk, os⟩ := s1
  have up : hp.objs.size ≤ hp.objs.size + 1 := Nat.le_succ _
  have free : H1 (hp.objs.size + 1) = none := I1.hok.fresh up
  have sp1 := go (hp.objs.size + 1) free
  have one : vs.length = 1 := by
    have z := G.len _ _ _ _ sp1
    simp only [List.length_cons, List.append_nil, List.length_nil] at z
    omega
  obtain ⟨v0, rfl⟩ := List.length_eq_one_iff.mp one
  obtain ⟨u0, rfl, ru⟩ := vals1 rel
  have more : ∀ b o, hp.get? b = some o → ((hp.push (PySem.W.kdv_tup [])).push (HandSPX.excO C hp.objs.size)).get? b = some o := fun b o q => Heap.get?_push_of_some _ (Heap.get?_push_of_some _ q)
  have here : ((hp.push (PySem.W.kdv_tup [])).push (HandSPX.excO C hp.objs.size)).get? (hp.objs.size + 1) = some (HandSPX.excO C hp.objs.size) := by heap_get
  have I2 : Inv X pins σ (upd H1 (hp.objs.size + 1) (exo (hp.objs.size + 1) C none)) ⟨(hp.push (PySem.W.kdv_tup [])).push (HandSPX.excO C hp.objs.size), gs, dr, tk, os⟩ := I1.laid (t' := tk) more up (exo_ok here)
  have rel2 : Vals ([V.ref (hp.objs.size + 1)] ++ [v0]) [Value.ref (hp.objs.size + 1), u0] := .cons rfl (.cons ru .nil)
  have bnd := hb _ [Value.ref (hp.objs.size + 1)] [u0] I2.kIn rfl rfl
  refine wpAny_call (HandSPX.call_ownK FB hT hC (PySem.W.looks_findIn I1.kIn hI) (fun self => PySem.W.bind_fn I1.kIn self hF) ?_)
  refine codeAny_mono (G.run _ X.stack _ _ ⟨[Value.ref (hp.objs.size + 1)], [(n, u0)]⟩ [Value.ref (hp.objs.size + 1), u0] _ _ (fun _ _ _ => False) (hr.make C [] [(n, u0)]) (I2.env0.make C [] [(n, u0)]) bnd rel2 sp1) fun r s2 back => ?_
  rcases r with err | fl
  · exact ps0 pins σ _ _ err s2 I2 back
  · cases fl with
    | ret u =>
      obtain ⟨v, H2, os2, bare2, un2, hok2, rv, ev, d, fs, ea, ed, hd1, q2⟩ := back
      subst ev
      obtain ⟨h3, g3, d3, t3, os3⟩ := s2
      exact ⟨rv, mk_endN (raises_own T.isX T.isTy) I1 up more un2 hok2 os2 bare2 ea ed hd1 q2⟩
    | _ => exact False.elim back
def iExnK (c f : Nat) (ik : IA) : IE := fun ρ => M.bind (ik ρ) fun ds => match ds with
  | [d] => M.ret (.exn c [f] [d])
  | _ => M.no
theorem je_exnK {T : Tab} {X : Cx} {W : WX} {x n : Str} {c f : Nat} {kws : List Keyword} {ik : IA} {p p1 : Pos} {tl : List Value} {newId : String} (bt : BaseT tl newId) (V_ : ExcVW X.prog X.w X.K X.mg X.base (He.ga X.K (T.cn c)) x (T.fn f) tl newId) (hn : n = T.fn f) (hr : Room 2 X.A) (tk0 : L2N.Takes X fun _ _ _ _ => False) (hg : Gl X x)
    (he : JK T X W kws ik) (ex : X.ex = [] := by rfl) (named : (backToKw p1 (keywordEach kws X.env)).all (·.1.isSome) = true := by rfl) (names : (backToKw p1 (keywordEach kws X.env)).filterMap (·.1) = [n] := by rfl)
    (hpl : ((backTo p1 (starEach [] X.env)).any (·.1) || (backToKw p1 (keywordEach kws X.env)).any (·.1.isNone)) = false := by rfl) (hdb : (x == ("__debug__" : Str)) = false := by decide) : JE T X W (.Call (.Name x p) [] kws p1) (iExnK c f ik) := by
  subst hn
  obtain ⟨fI, fd, hI, hT, hb, F⟩ := V_.ini
  have m := pmk_k (p := p) (pos := p1) bt V_.oex hI hT F hr hb (L2N.passes_call tk0 fun _ _ _ _ z => z) hg V_.at_ he named names hpl hdb
  refine PE.mono (pe_mk ex m) fun σ H Q z => ?_
  obtain ⟨ρ, Fr, S, ι, G, em, sr, h⟩ := z
  refine ⟨ρ, Fr, S, ι, G, em, sr, Thn.bind (rel2 := DRs T X.K) h fun ds S1 ys ι1 G1 H1 em1 x1 r q => ?_⟩
  rcases ds with _ | ⟨d, _ | ⟨d2, more⟩⟩
  · exact q.elim
  · obtain ⟨y, rfl, r1⟩ := r.one
    refine ⟨by simp, fun a ha => ⟨a, y, rfl, upd_same, fun dx hdx hne => ⟨rfl, dx, [(T.fn f, y)], upd_same, by rw [upd_ne hne, upd_same], ?_, ?_⟩⟩⟩
    · rw [upd_ne hne] at hdx
      exact hdx
    · rw [upd_ne hne] at hdx
      rw [made_eq ha hne]
      exact ⟨_, rfl, fun a2 na2 => exn_go em1 r1 hdx q na2⟩
  · exact q.elim
end J
set_option Elab.async false
set_option linter.all false
set_option maxRecDepth 100000
set_option maxHeartbeats 4100000
namespace K07
open PySem L2 J
structure FX (K : PySem.W.Frag) (mg : Str → Option Value) : Prop where
  b_ArithmeticError : mg "ArithmeticError" = none
  b_LookupError : mg "LookupError" = none
  b_ValueError : mg "ValueError" = none
  b_abs : mg "abs" = none
  b_all : mg "all" = none
  b_divmod : mg "divmod" = none
  b_int : mg "int" = none
  b_isinstance : mg "isinstance" = none
  b_len : mg "len" = none
  b_max : mg "max" = none
  b_min : mg "min" = none
  b_range : mg "range" = none
  b_repr : mg "repr" = none
  c_MOST_FACTS : ∃ t, mg "MOST_FACTS" = some (.int 4 t)
  c_MOST_GUESSES : ∃ t, mg "MOST_GUESSES" = some (.int 20 t)
  c_MOST_LENGTH : ∃ t, mg "MOST_LENGTH" = some (.int 6 t)
  c_MOST_LETTERS : ∃ t, mg "MOST_LETTERS" = some (.int 26 t)
  c_MOST_MENDED : ∃ t, mg "MOST_MENDED" = some (.int 10 t)
  c_MOST_ROWS : ∃ t, mg "MOST_ROWS" = some (.int 20 t)
  k_InputError : mg (TT.cn 10) = some (.ref (He.ga K (TT.cn 10)))
  k_StateError : mg (TT.cn 11) = some (.ref (He.ga K (TT.cn 11)))
  k_SizeError : mg (TT.cn 12) = some (.ref (He.ga K (TT.cn 12)))
  k_NotABoard : mg (TT.cn 13) = some (.ref (He.ga K (TT.cn 13)))
  k_NotAHistory : mg (TT.cn 14) = some (.ref (He.ga K (TT.cn 14)))
  k_NotAGame : mg (TT.cn 15) = some (.ref (He.ga K (TT.cn 15)))
  k_InvalidLetters : mg (TT.cn 16) = some (.ref (He.ga K (TT.cn 16)))
  k_InvalidLength : mg (TT.cn 17) = some (.ref (He.ga K (TT.cn 17)))
  k_InvalidWord : mg (TT.cn 18) = some (.ref (He.ga K (TT.cn 18)))
  k_InvalidMarks : mg (TT.cn 19) = some (.ref (He.ga K (TT.cn 19)))
  k_InvalidRows : mg (TT.cn 20) = some (.ref (He.ga K (TT.cn 20)))
  k_InvalidFact : mg (TT.cn 21) = some (.ref (He.ga K (TT.cn 21)))
  k_InvalidFacts : mg (TT.cn 22) = some (.ref (He.ga K (TT.cn 22)))
  k_InvalidNumber : mg (TT.cn 23) = some (.ref (He.ga K (TT.cn 23)))
  k_InvalidPlace : mg (TT.cn 24) = some (.ref (He.ga K (TT.cn 24)))
  k_InvalidGuesses : mg (TT.cn 25) = some (.ref (He.ga K (TT.cn 25)))
  k_InvalidDeeds : mg (TT.cn 26) = some (.ref (He.ga K (TT.cn 26)))
  k_InvalidLine : mg (TT.cn 27) = some (.ref (He.ga K (TT.cn 27)))
  k_Mismatch : mg (TT.cn 28) = some (.ref (He.ga K (TT.cn 28)))
  k_NoWord : mg (TT.cn 29) = some (.ref (He.ga K (TT.cn 29)))
  k_NothingToUndo : mg (TT.cn 30) = some (.ref (He.ga K (TT.cn 30)))
  k_Busy : mg (TT.cn 31) = some (.ref (He.ga K (TT.cn 31)))
  k_WordNotLeft : mg (TT.cn 32) = some (.ref (He.ga K (TT.cn 32)))
  k_GuessNotLeft : mg (TT.cn 33) = some (.ref (He.ga K (TT.cn 33)))
  k_TooManyRows : mg (TT.cn 34) = some (.ref (He.ga K (TT.cn 34)))
  isk : IsK TT K CS TB
  tr : ∀ c ∈ CT, PlainTru K (He.ga K (TT.cn c))
  r_Mismatch : ExN K "Mismatch" tlL "LookupError.__new__"
  r_NoWord : ExN K "NoWord" tlL "LookupError.__new__"
  r_NothingToUndo : ExN K "NothingToUndo" tlL "LookupError.__new__"
  r_Busy : ExN K "Busy" tlL "LookupError.__new__"
  r_NotABoard : ExIT K "NotABoard" "value" [.type "ValueError", .type "Exception", .type "BaseException", .type "object"] "ValueError.__new__"
  r_NotAHistory : ExIT K "NotAHistory" "value" [.type "ValueError", .type "Exception", .type "BaseException", .type "object"] "ValueError.__new__"
  r_NotAGame : ExIT K "NotAGame" "value" [.type "ValueError", .type "Exception", .type "BaseException", .type "object"] "ValueError.__new__"
  r_InvalidLetters : ExIT K "InvalidLetters" "value" [.type "ValueError", .type "Exception", .type "BaseException", .type "object"] "ValueError.__new__"
  r_InvalidLength : ExIT K "InvalidLength" "value" [.type "ValueError", .type "Exception", .type "BaseException", .type "object"] "ValueError.__new__"
  r_InvalidWord : ExIT K "InvalidWord" "value" [.type "ValueError", .type "Exception", .type "BaseException", .type "object"] "ValueError.__new__"
  r_InvalidMarks : ExIT K "InvalidMarks" "value" [.type "ValueError", .type "Exception", .type "BaseException", .type "object"] "ValueError.__new__"
  r_InvalidFact : ExIT K "InvalidFact" "value" [.type "ValueError", .type "Exception", .type "BaseException", .type "object"] "ValueError.__new__"
  r_InvalidNumber : ExIT K "InvalidNumber" "value" [.type "ValueError", .type "Exception", .type "BaseException", .type "object"] "ValueError.__new__"
  r_InvalidPlace : ExIT K "InvalidPlace" "value" [.type "ValueError", .type "Exception", .type "BaseException", .type "object"] "ValueError.__new__"
  r_InvalidLine : ExIT K "InvalidLine" "value" [.type "ValueError", .type "Exception", .type "BaseException", .type "object"] "ValueError.__new__"
  r_InvalidRows : ExIT K "InvalidRows" "index" [.type "ValueError", .type "Exception", .type "BaseException", .type "object"] "ValueError.__new__"
  r_InvalidFacts : ExIT K "InvalidFacts" "index" [.type "ValueError", .type "Exception", .type "BaseException", .type "object"] "ValueError.__new__"
  r_InvalidGuesses : ExIT K "InvalidGuesses" "index" [.type "ValueError", .type "Exception", .type "BaseException", .type "object"] "ValueError.__new__"
  r_InvalidDeeds : ExIT K "InvalidDeeds" "index" [.type "ValueError", .type "Exception", .type "BaseException", .type "object"] "ValueError.__new__"
  r_WordNotLeft : ExIT K "WordNotLeft" "value" tlL "LookupError.__new__"
  r_GuessNotLeft : ExIT K "GuessNotLeft" "value" tlL "LookupError.__new__"
  r_TooManyRows : ExIT K "TooManyRows" "limit" tlA "ArithmeticError.__new__"
  isx : IsX TT K TBX
  y_index : ∀ c ∈ ([20, 22, 25, 26] : List Nat), XfC K (He.ga K (TT.cn c)) ∧ PySem.W.findIn K (.ref (He.ga K (TT.cn c))) (TT.fn 20) = some none
  y_limit : ∀ c ∈ ([34] : List Nat), XfC K (He.ga K (TT.cn c)) ∧ PySem.W.findIn K (.ref (He.ga K (TT.cn c))) (TT.fn 21) = some none
  y_value : ∀ c ∈ ([13, 14, 15, 16, 17, 18, 19, 21, 23, 24, 27, 32, 33] : List Nat), XfC K (He.ga K (TT.cn c)) ∧ PySem.W.findIn K (.ref (He.ga K (TT.cn c))) (TT.fn 19) = some none
  d_bowl : ∃ fd, df_bowl.Fun K fd
  m_bowl : mg "_law_bowl" = some (.ref (He.ga K "_law_bowl"))
  d_dip : ∃ fd, df_dip.Fun K fd
  m_dip : mg "_law_dip" = some (.ref (He.ga K "_law_dip"))
  d_of : ∃ fd, df_of.Fun K fd
  m_of : mg "_law_of" = some (.ref (He.ga K "_law_of"))
  d_NotABoard_init : ∃ fd, df_NotABoard_init.Fun K fd
  d_NotAHistory_init : ∃ fd, df_NotAHistory_init.Fun K fd
  d_NotAGame_init : ∃ fd, df_NotAGame_init.Fun K fd
  d_InvalidLetters_init : ∃ fd, df_InvalidLetters_init.Fun K fd
  d_InvalidLength_init : ∃ fd, df_InvalidLength_init.Fun K fd
  d_InvalidWord_init : ∃ fd, df_InvalidWord_init.Fun K fd
  d_InvalidMarks_init : ∃ fd, df_InvalidMarks_init.Fun K fd
  d_InvalidFact_init : ∃ fd, df_InvalidFact_init.Fun K fd
  d_InvalidNumber_init : ∃ fd, df_InvalidNumber_init.Fun K fd
  d_InvalidPlace_init : ∃ fd, df_InvalidPlace_init.Fun K fd
  d_InvalidLine_init : ∃ fd, df_InvalidLine_init.Fun K fd
  d_InvalidRows_init : ∃ fd, df_InvalidRows_init.Fun K fd
  d_InvalidFacts_init : ∃ fd, df_InvalidFacts_init.Fun K fd
  d_InvalidGuesses_init : ∃ fd, df_InvalidGuesses_init.Fun K fd
  d_InvalidDeeds_init : ∃ fd, df_InvalidDeeds_init.Fun K fd
  d_value_errors : ∃ fd, df_value_errors.Fun K fd
  m_value_errors : mg "_law_value_errors" = some (.ref (He.ga K "_law_value_errors"))
  d_WordNotLeft_init : ∃ fd, df_WordNotLeft_init.Fun K fd
  d_GuessNotLeft_init : ∃ fd, df_GuessNotLeft_init.Fun K fd
  d_TooManyRows_init : ∃ fd, df_TooManyRows_init.Fun K fd
  d_state_errors : ∃ fd, df_state_errors.Fun K fd
  m_state_errors : mg "_law_state_errors" = some (.ref (He.ga K "_law_state_errors"))
  d_bases : ∃ fd, df_bases.Fun K fd
  m_bases : mg "_law_bases" = some (.ref (He.ga K "_law_bases"))
  d_instances : ∃ fd, df_instances.Fun K fd
  m_instances : mg "_law_instances" = some (.ref (He.ga K "_law_instances"))
  d_right : ∃ fd, df_right.Fun K fd
  m_right : mg "_law_right" = some (.ref (He.ga K "_law_right"))
  d_law : ∃ fd, df_law.Fun K fd
  m_law : mg "law" = some (.ref (He.ga K "law"))
abbrev N_bowl : List Str := ["_law_script", "_law_k", "_law_own", "_law_mixed", "_law_entry"]
theorem sc_bowl : FnScope N_bowl ["_law_script", "_law_k"] (defScope s_bowl) := ⟨rfl, rfl, rfl, by decide +kernel, rfl, by decide +kernel, by decide +kernel⟩
def is_bowl : IS := (sSeq (sAsg 2 (iIf (iTst (iOp ltI (iVar 1) (iCB lenD (iCons (iVar 0) iNil)))) (iCB intD (iCons (iOp ixD (iVar 0) (iVar 1)) iNil)) (iOp addD (iOp mulD (iC (.int 17)) (iVar 1)) (iC (.int 3))))) (sSeq (sAsg 3 (iOp addD (iC (.int 60013)) (iOp mulD (iC (.int 911)) (iVar 1)))) (sSeq (sFor (iItems (iSl slD (iVar 0) iNoPart (iPart (iC (.int 12))))) (.n 4) (sAsg 3 (iOp modI (iCB intD (iCons (iOp addD (iOp mulD (iVar 3) (iC (.int 39119))) (iOp modI (iCB intD (iCons (iVar 4) iNil)) (iC (.int 1999999943)))) iNil)) (iC (.int 1999999943))))) (sRet (iLstM (iCons (iOp modI (iCB intD (iCons (iOp addD (iVar 3) (iOp modI (iVar 2) (iC (.int 1999999943)))) iNil)) (iC (.int 1999999943))) (iCons (iIf (iOr (iTst (iOp ltI (iVar 2) (iC (.int 0)))) (iTst (iOp geI (iVar 2) (iOp powI (iC (.int 10)) (iC (.int 15)))))) (iCB absD (iCons (iVar 2) iNil)) (iC (.int 0))) (iCons (iC (.int 0)) iNil))))))))
def d_bowl : List D → M D := defJ 5 true is_bowl
theorem w_bowl {P : Program} {w : World} {K : PySem.W.Frag} {mg : Str → Option Value} {base : Heap} (Fx : FX K mg) {fd : FuncData} (F : df_bowl.Fun K fd) : FnG P w K mg base 1 (df_bowl.at_ K) fd ["_law_script", "_law_k"] (spJ TT K 2 d_bowl) := by
  refine fn_j (T := TT) true F sc_bowl (fun cdv A fr s H E room gd => ?_)
  have hr : Rg 0 (cxOf (L2N.CX P w) P w K mg base N_bowl "_law_bowl" (defScope s_bowl) (df_bowl.at_ K) cdv A fr s H E).A := ⟨room, gd⟩
  have tk : L2N.Takes (cxOf (L2N.CX P w) P w K mg base N_bowl "_law_bowl" (defScope s_bowl) (df_bowl.at_ K) cdv A fr s H E) (fun c d _ H => E c d H) := L2N.takes_of rfl rfl rfl rfl
  have po : PassesOwn (model P w) (cxOf (L2N.CX P w) P w K mg base N_bowl "_law_bowl" (defScope s_bowl) (df_bowl.at_ K) cdv A fr s H E).A (cxOf (L2N.CX P w) P w K mg base N_bowl "_law_bowl" (defScope s_bowl) (df_bowl.at_ K) cdv A fr s H E).env (cxOf (L2N.CX P w) P w K mg base N_bowl "_law_bowl" (defScope s_bowl) (df_bowl.at_ K) cdv A fr s H E).xe := passes_of rfl
  have S := sc_bowl
  exact (jss_cons (js_set (i := 2) S.nd rfl (Or.inl rfl) (je_if (jt_cmp op_lt ltI_ok (je_var 1) (je_callB call_len lenD_ok (by rfl) Fx.b_len (by decide +kernel) (ja_cons (je_var 0) ja_nil)) (nomark _)) (je_callTy call_int1 intD_ok (by rfl) Fx.b_int (by decide +kernel) (ja_cons (je_ix ix_seq ixD_ok (je_var 0) (je_var 1) (fun _ _ => rfl)) ja_nil)) (je_op op_addD addD_ok (je_op op_mulD mulD_ok je_int (je_var 1)) je_int))) (jss_cons (js_set (i := 3) S.nd rfl (Or.inl rfl) (je_op op_addD addD_ok je_int (je_op op_mulD mulD_ok je_int (je_var 1)))) (jss_cons (js_for po rfl (ji_items (je_slice sl_D slD_ok (je_var 0) jo_none (jo_some je_int))) (jg_name (i := 4) S.nd rfl (Or.inl rfl)) (jss_one (js_set (i := 3) S.nd rfl (Or.inl rfl) (je_op op_mod modI_ok (je_callTy call_int1 intD_ok (by rfl) Fx.b_int (by decide +kernel) (ja_cons (je_op op_addD addD_ok (je_op op_mulD mulD_ok (je_var 3) je_int) (je_op op_mod modI_ok (je_callTy call_int1 intD_ok (by rfl) Fx.b_int (by decide +kernel) (ja_cons (je_var 4) ja_nil)) je_int)) ja_nil)) je_int)))) (jss_one (js_ret (je_lstM (ja_cons (je_op op_mod modI_ok (je_callTy call_int1 intD_ok (by rfl) Fx.b_int (by decide +kernel) (ja_cons (je_op op_addD addD_ok (je_var 3) (je_op op_mod modI_ok (je_var 2) je_int)) ja_nil)) je_int) (ja_cons (je_if (jt_w (jw_or (jt_cmp op_lt ltI_ok (je_var 2) je_int (nomark _)) (jw_or1 (jt_cmp op_ge geI_ok (je_var 2) (je_op op_pow powI_ok je_int je_int) (nomark _))))) (je_callB call_abs absD_ok (by rfl) Fx.b_abs (by decide +kernel) (ja_cons (je_var 2) ja_nil)) je_int) (ja_cons je_int ja_nil)))))))))
theorem g_bowl {P : Program} {w : World} {K : PySem.W.Frag} {mg : Str → Option Value} {base : Heap} (Fx : FX K mg) : Good P w TT K mg base 1 "_law_bowl" ["_law_script", "_law_k"] d_bowl := Fx.d_bowl.elim fun fd F => ⟨fd, w_bowl Fx F, F.bindsN fun _ _ _ _ _ _ us hl => match us, hl with | [_, _], _ => rfl, Fx.m_bowl, F.kp⟩
abbrev N_dip : List Str := ["_law_bowl_here", "_law_many", "_law_digit"]
theorem sc_dip : FnScope N_dip ["_law_bowl_here", "_law_many"] (defScope s_dip) := ⟨rfl, rfl, rfl, by decide +kernel, rfl, by decide +kernel, by decide +kernel⟩
def is_dip : IS := (sSeq (sSetI setL (iOp addD (iOp ixD (iVar 0) (iC (.int 2))) (iC (.int 1))) (iVar 0) (iC (.int 2))) (sSeq (sIf (iTst (iOp gtI (iOp ixD (iVar 0) (iC (.int 1))) (iC (.int 0)))) (sSeq (sSetIN setL (iCB divmodD (iCons (iCB intD (iCons (iOp ixD (iVar 0) (iC (.int 1))) iNil)) (iCons (iVar 1) iNil))) (iVar 0) (iC (.int 1)) 2) (sRet (iVar 2))) sNext) (sSeq (sSetI setL (iOp modI (iCB intD (iCons (iOp addD (iOp addD (iOp mulD (iOp ixD (iVar 0) (iC (.int 0))) (iC (.int 50021))) (iOp mulD (iOp ixD (iVar 0) (iC (.int 2))) (iC (.int 90001)))) (iOp mulD (iOp fdivI (iOp ixD (iVar 0) (iC (.int 0))) (iC (.int 7001))) (iC (.int 13)))) iNil)) (iC (.int 1999999943))) (iVar 0) (iC (.int 0))) (sRet (iOp modI (iCB intD (iCons (iOp fdivI (iOp ixD (iVar 0) (iC (.int 0))) (iC (.int 173))) iNil)) (iVar 1))))))
def d_dip : List D → M D := defJ 3 false is_dip
theorem w_dip {P : Program} {w : World} {K : PySem.W.Frag} {mg : Str → Option Value} {base : Heap} (Fx : FX K mg) {fd : FuncData} (F : df_dip.Fun K fd) : FnG P w K mg base 1 (df_dip.at_ K) fd ["_law_bowl_here", "_law_many"] (spJ TT K 2 d_dip) := by
  refine fn_j (T := TT) false F sc_dip (fun cdv A fr s H E room gd => ?_)
  have hr : Rg 0 (cxOf (L2N.CX P w) P w K mg base N_dip "_law_dip" (defScope s_dip) (df_dip.at_ K) cdv A fr s H E).A := ⟨room, gd⟩
  have tk : L2N.Takes (cxOf (L2N.CX P w) P w K mg base N_dip "_law_dip" (defScope s_dip) (df_dip.at_ K) cdv A fr s H E) (fun c d _ H => E c d H) := L2N.takes_of rfl rfl rfl rfl
  have po : PassesOwn (model P w) (cxOf (L2N.CX P w) P w K mg base N_dip "_law_dip" (defScope s_dip) (df_dip.at_ K) cdv A fr s H E).A (cxOf (L2N.CX P w) P w K mg base N_dip "_law_dip" (defScope s_dip) (df_dip.at_ K) cdv A fr s H E).env (cxOf (L2N.CX P w) P w K mg base N_dip "_law_dip" (defScope s_dip) (df_dip.at_ K) cdv A fr s H E).xe := passes_of rfl
  have S := sc_dip
  exact (jss_cons (js_setI set_list setL_ok (je_op op_addD addD_ok (je_ix ix_seq ixD_ok (je_var 0) je_int (fun _ _ => rfl)) je_int) (je_var 0) je_int) (jss_cons (js_if (jt_cmp op_gt gtI_ok (je_ix ix_seq ixD_ok (je_var 0) je_int (fun _ _ => rfl)) je_int (nomark _)) (jss_cons (js_setIN (j := 2) rfl set_list setL_ok S.nd rfl (Or.inl rfl) (je_callB call_divmod divmodD_ok (by rfl) Fx.b_divmod (by decide +kernel) (ja_cons (je_callTy call_int1 intD_ok (by rfl) Fx.b_int (by decide +kernel) (ja_cons (je_ix ix_seq ixD_ok (je_var 0) je_int (fun _ _ => rfl)) ja_nil)) (ja_cons (je_var 1) ja_nil))) (je_var 0) je_int) (jss_one (js_ret (je_var 2)))) jss_nil) (jss_cons (js_setI set_list setL_ok (je_op op_mod modI_ok (je_callTy call_int1 intD_ok (by rfl) Fx.b_int (by decide +kernel) (ja_cons (je_op op_addD addD_ok (je_op op_addD addD_ok (je_op op_mulD mulD_ok (je_ix ix_seq ixD_ok (je_var 0) je_int (fun _ _ => rfl)) je_int) (je_op op_mulD mulD_ok (je_ix ix_seq ixD_ok (je_var 0) je_int (fun _ _ => rfl)) je_int)) (je_op op_mulD mulD_ok (je_op op_fdiv fdivI_ok (je_ix ix_seq ixD_ok (je_var 0) je_int (fun _ _ => rfl)) je_int) je_int)) ja_nil)) je_int) (je_var 0) je_int) (jss_one (js_ret (je_op op_mod modI_ok (je_callTy call_int1 intD_ok (by rfl) Fx.b_int (by decide +kernel) (ja_cons (je_op op_fdiv fdivI_ok (je_ix ix_seq ixD_ok (je_var 0) je_int (fun _ _ => rfl)) je_int) ja_nil)) (je_var 1)))))))
theorem g_dip {P : Program} {w : World} {K : PySem.W.Frag} {mg : Str → Option Value} {base : Heap} (Fx : FX K mg) : Good P w TT K mg base 1 "_law_dip" ["_law_bowl_here", "_law_many"] d_dip := Fx.d_dip.elim fun fd F => ⟨fd, w_dip Fx F, F.bindsN fun _ _ _ _ _ _ us hl => match us, hl with | [_, _], _ => rfl, Fx.m_dip, F.kp⟩
abbrev N_of : List Str := ["_law_bowl_here", "_law_things"]
theorem sc_of : FnScope N_of ["_law_bowl_here", "_law_things"] (defScope s_of) := ⟨rfl, rfl, rfl, by decide +kernel, rfl, by decide +kernel, by decide +kernel⟩
def is_of : IS := (sRet (iOp ixD (iVar 1) (iCall 2 d_dip (iCons (iVar 0) (iCons (iCB lenD (iCons (iVar 1) iNil)) iNil)))))
def d_of : List D → M D := defJ 2 false is_of
theorem w_of {P : Program} {w : World} {K : PySem.W.Frag} {mg : Str → Option Value} {base : Heap} (Fx : FX K mg) {fd : FuncData} (F : df_of.Fun K fd) : FnG P w K mg base 2 (df_of.at_ K) fd ["_law_bowl_here", "_law_things"] (spJ TT K 2 d_of) := by
  refine fn_j (T := TT) false F sc_of (fun cdv A fr s H E room gd => ?_)
  have hr : Rg 1 (cxOf (L2N.CX P w) P w K mg base N_of "_law_of" (defScope s_of) (df_of.at_ K) cdv A fr s H E).A := ⟨room, gd⟩
  have tk : L2N.Takes (cxOf (L2N.CX P w) P w K mg base N_of "_law_of" (defScope s_of) (df_of.at_ K) cdv A fr s H E) (fun c d _ H => E c d H) := L2N.takes_of rfl rfl rfl rfl
  have po : PassesOwn (model P w) (cxOf (L2N.CX P w) P w K mg base N_of "_law_of" (defScope s_of) (df_of.at_ K) cdv A fr s H E).A (cxOf (L2N.CX P w) P w K mg base N_of "_law_of" (defScope s_of) (df_of.at_ K) cdv A fr s H E).env (cxOf (L2N.CX P w) P w K mg base N_of "_law_of" (defScope s_of) (df_of.at_ K) cdv A fr s H E).xe := passes_of rfl
  have S := sc_of
  exact (jss_one (js_ret (je_ix ix_seq ixD_ok (je_var 1) (je_call (g_dip Fx) (hr.mono (by decide)) (by rfl) tk (ja_cons (je_var 0) (ja_cons (je_callB call_len lenD_ok (by rfl) Fx.b_len (by decide +kernel) (ja_cons (je_var 1) ja_nil)) ja_nil))) (fun _ _ => rfl))))
theorem g_of {P : Program} {w : World} {K : PySem.W.Frag} {mg : Str → Option Value} {base : Heap} (Fx : FX K mg) : Good P w TT K mg base 2 "_law_of" ["_law_bowl_here", "_law_things"] d_of := Fx.d_of.elim fun fd F => ⟨fd, w_of Fx F, F.bindsN fun _ _ _ _ _ _ us hl => match us, hl with | [_, _], _ => rfl, Fx.m_of, F.kp⟩
abbrev N_NotABoard_init : List Str := ["self", "value"]
theorem sc_NotABoard_init : FnScope N_NotABoard_init ["self", "value"] (defScope s_NotABoard_init) := ⟨rfl, rfl, rfl, by decide +kernel, rfl, by decide +kernel, by decide +kernel⟩
theorem v_NotABoard {P : Program} {w : World} {K : PySem.W.Frag} {mg : Str → Option Value} {base : Heap} (Fx : FX K mg) : ExcVT P w K mg base (He.ga K (TT.cn 13)) "NotABoard" (TT.fn 19) [.type "ValueError", .type "Exception", .type "BaseException", .type "object"] "ValueError.__new__" := Fx.d_NotABoard_init.elim fun fd F => excVT_of (f := "value") base_V Fx.r_NotABoard.oex Fx.k_NotABoard Fx.r_NotABoard.ini Fx.r_NotABoard.ty Fx.r_NotABoard.no F sc_NotABoard_init (F.bindsN fun _ _ _ _ _ _ us hl => match us, hl with | [_, _], _ => rfl) (by decide) (by decide) (fun _ => rfl)
theorem vw_NotABoard {P : Program} {w : World} {K : PySem.W.Frag} {mg : Str → Option Value} {base : Heap} (Fx : FX K mg) : ExcVW P w K mg base (He.ga K (TT.cn 13)) "NotABoard" (TT.fn 19) [.type "ValueError", .type "Exception", .type "BaseException", .type "object"] "ValueError.__new__" := Fx.d_NotABoard_init.elim fun fd F => excVW_of (f := "value") base_V Fx.r_NotABoard.oex Fx.k_NotABoard Fx.r_NotABoard.ini Fx.r_NotABoard.ty Fx.r_NotABoard.no F sc_NotABoard_init (bindsW_of F fun _ _ _ _ _ _ us ws l1 l2 => match us, l1, ws, l2 with | [_], _, [_], _ => rfl) (by decide) (by decide) (fun _ => rfl)
abbrev N_NotAHistory_init : List Str := ["self", "value"]
theorem sc_NotAHistory_init : FnScope N_NotAHistory_init ["self", "value"] (defScope s_NotAHistory_init) := ⟨rfl, rfl, rfl, by decide +kernel, rfl, by decide +kernel, by decide +kernel⟩
theorem v_NotAHistory {P : Program} {w : World} {K : PySem.W.Frag} {mg : Str → Option Value} {base : Heap} (Fx : FX K mg) : ExcVT P w K mg base (He.ga K (TT.cn 14)) "NotAHistory" (TT.fn 19) [.type "ValueError", .type "Exception", .type "BaseException", .type "object"] "ValueError.__new__" := Fx.d_NotAHistory_init.elim fun fd F => excVT_of (f := "value") base_V Fx.r_NotAHistory.oex Fx.k_NotAHistory Fx.r_NotAHistory.ini Fx.r_NotAHistory.ty Fx.r_NotAHistory.no F sc_NotAHistory_init (F.bindsN fun _ _ _ _ _ _ us hl => match us, hl with | [_, _], _ => rfl) (by decide) (by decide) (fun _ => rfl)
theorem vw_NotAHistory {P : Program} {w : World} {K : PySem.W.Frag} {mg : Str → Option Value} {base : Heap} (Fx : FX K mg) : ExcVW P w K mg base (He.ga K (TT.cn 14)) "NotAHistory" (TT.fn 19) [.type "ValueError", .type "Exception", .type "BaseException", .type "object"] "ValueError.__new__" := Fx.d_NotAHistory_init.elim fun fd F => excVW_of (f := "value") base_V Fx.r_NotAHistory.oex Fx.k_NotAHistory Fx.r_NotAHistory.ini Fx.r_NotAHistory.ty Fx.r_NotAHistory.no F sc_NotAHistory_init (bindsW_of F fun _ _ _ _ _ _ us ws l1 l2 => match us, l1, ws, l2 with | [_], _, [_], _ => rfl) (by decide) (by decide) (fun _ => rfl)
abbrev N_NotAGame_init : List Str := ["self", "value"]
theorem sc_NotAGame_init : FnScope N_NotAGame_init ["self", "value"] (defScope s_NotAGame_init) := ⟨rfl, rfl, rfl, by decide +kernel, rfl, by decide +kernel, by decide +kernel⟩
theorem v_NotAGame {P : Program} {w : World} {K : PySem.W.Frag} {mg : Str → Option Value} {base : Heap} (Fx : FX K mg) : ExcVT P w K mg base (He.ga K (TT.cn 15)) "NotAGame" (TT.fn 19) [.type "ValueError", .type "Exception", .type "BaseException", .type "object"] "ValueError.__new__" := Fx.d_NotAGame_init.elim fun fd F => excVT_of (f := "value") base_V Fx.r_NotAGame.oex Fx.k_NotAGame Fx.r_NotAGame.ini Fx.r_NotAGame.ty Fx.r_NotAGame.no F sc_NotAGame_init (F.bindsN fun _ _ _ _ _ _ us hl => match us, hl with | [_, _], _ => rfl) (by decide) (by decide) (fun _ => rfl)
theorem vw_NotAGame {P : Program} {w : World} {K : PySem.W.Frag} {mg : Str → Option Value} {base : Heap} (Fx : FX K mg) : ExcVW P w K mg base (He.ga K (TT.cn 15)) "NotAGame" (TT.fn 19) [.type "ValueError", .type "Exception", .type "BaseException", .type "object"] "ValueError.__new__" := Fx.d_NotAGame_init.elim fun fd F => excVW_of (f := "value") base_V Fx.r_NotAGame.oex Fx.k_NotAGame Fx.r_NotAGame.ini Fx.r_NotAGame.ty Fx.r_NotAGame.no F sc_NotAGame_init (bindsW_of F fun _ _ _ _ _ _ us ws l1 l2 => match us, l1, ws, l2 with | [_], _, [_], _ => rfl) (by decide) (by decide) (fun _ => rfl)
abbrev N_InvalidLetters_init : List Str := ["self", "value"]
theorem sc_InvalidLetters_init : FnScope N_InvalidLetters_init ["self", "value"] (defScope s_InvalidLetters_init) := ⟨rfl, rfl, rfl, by decide +kernel, rfl, by decide +kernel, by decide +kernel⟩
theorem v_InvalidLetters {P : Program} {w : World} {K : PySem.W.Frag} {mg : Str → Option Value} {base : Heap} (Fx : FX K mg) : ExcVT P w K mg base (He.ga K (TT.cn 16)) "InvalidLetters" (TT.fn 19) [.type "ValueError", .type "Exception", .type "BaseException", .type "object"] "ValueError.__new__" := Fx.d_InvalidLetters_init.elim fun fd F => excVT_of (f := "value") base_V Fx.r_InvalidLetters.oex Fx.k_InvalidLetters Fx.r_InvalidLetters.ini Fx.r_InvalidLetters.ty Fx.r_InvalidLetters.no F sc_InvalidLetters_init (F.bindsN fun _ _ _ _ _ _ us hl => match us, hl with | [_, _], _ => rfl) (by decide) (by decide) (fun _ => rfl)
theorem vw_InvalidLetters {P : Program} {w : World} {K : PySem.W.Frag} {mg : Str → Option Value} {base : Heap} (Fx : FX K mg) : ExcVW P w K mg base (He.ga K (TT.cn 16)) "InvalidLetters" (TT.fn 19) [.type "ValueError", .type "Exception", .type "BaseException", .type "object"] "ValueError.__new__" := Fx.d_InvalidLetters_init.elim fun fd F => excVW_of (f := "value") base_V Fx.r_InvalidLetters.oex Fx.k_InvalidLetters Fx.r_InvalidLetters.ini Fx.r_InvalidLetters.ty Fx.r_InvalidLetters.no F sc_InvalidLetters_init (bindsW_of F fun _ _ _ _ _ _ us ws l1 l2 => match us, l1, ws, l2 with | [_], _, [_], _ => rfl) (by decide) (by decide) (fun _ => rfl)
abbrev N_InvalidLength_init : List Str := ["self", "value"]
theorem sc_InvalidLength_init : FnScope N_InvalidLength_init ["self", "value"] (defScope s_InvalidLength_init) := ⟨rfl, rfl, rfl, by decide +kernel, rfl, by decide +kernel, by decide +kernel⟩
theorem v_InvalidLength {P : Program} {w : World} {K : PySem.W.Frag} {mg : Str → Option Value} {base : Heap} (Fx : FX K mg) : ExcVT P w K mg base (He.ga K (TT.cn 17)) "InvalidLength" (TT.fn 19) [.type "ValueError", .type "Exception", .type "BaseException", .type "object"] "ValueError.__new__" := Fx.d_InvalidLength_init.elim fun fd F => excVT_of (f := "value") base_V Fx.r_InvalidLength.oex Fx.k_InvalidLength Fx.r_InvalidLength.ini Fx.r_InvalidLength.ty Fx.r_InvalidLength.no F sc_InvalidLength_init (F.bindsN fun _ _ _ _ _ _ us hl => match us, hl with | [_, _], _ => rfl) (by decide) (by decide) (fun _ => rfl)
theorem vw_InvalidLength {P : Program} {w : World} {K : PySem.W.Frag} {mg : Str → Option Value} {base : Heap} (Fx : FX K mg) : ExcVW P w K mg base (He.ga K (TT.cn 17)) "InvalidLength" (TT.fn 19) [.type "ValueError", .type "Exception", .type "BaseException", .type "object"] "ValueError.__new__" := Fx.d_InvalidLength_init.elim fun fd F => excVW_of (f := "value") base_V Fx.r_InvalidLength.oex Fx.k_InvalidLength Fx.r_InvalidLength.ini Fx.r_InvalidLength.ty Fx.r_InvalidLength.no F sc_InvalidLength_init (bindsW_of F fun _ _ _ _ _ _ us ws l1 l2 => match us, l1, ws, l2 with | [_], _, [_], _ => rfl) (by decide) (by decide) (fun _ => rfl)
abbrev N_InvalidWord_init : List Str := ["self", "value"]
theorem sc_InvalidWord_init : FnScope N_InvalidWord_init ["self", "value"] (defScope s_InvalidWord_init) := ⟨rfl, rfl, rfl, by decide +kernel, rfl, by decide +kernel, by decide +kernel⟩
theorem v_InvalidWord {P : Program} {w : World} {K : PySem.W.Frag} {mg : Str → Option Value} {base : Heap} (Fx : FX K mg) : ExcVT P w K mg base (He.ga K (TT.cn 18)) "InvalidWord" (TT.fn 19) [.type "ValueError", .type "Exception", .type "BaseException", .type "object"] "ValueError.__new__" := Fx.d_InvalidWord_init.elim fun fd F => excVT_of (f := "value") base_V Fx.r_InvalidWord.oex Fx.k_InvalidWord Fx.r_InvalidWord.ini Fx.r_InvalidWord.ty Fx.r_InvalidWord.no F sc_InvalidWord_init (F.bindsN fun _ _ _ _ _ _ us hl => match us, hl with | [_, _], _ => rfl) (by decide) (by decide) (fun _ => rfl)
theorem vw_InvalidWord {P : Program} {w : World} {K : PySem.W.Frag} {mg : Str → Option Value} {base : Heap} (Fx : FX K mg) : ExcVW P w K mg base (He.ga K (TT.cn 18)) "InvalidWord" (TT.fn 19) [.type "ValueError", .type "Exception", .type "BaseException", .type "object"] "ValueError.__new__" := Fx.d_InvalidWord_init.elim fun fd F => excVW_of (f := "value") base_V Fx.r_InvalidWord.oex Fx.k_InvalidWord Fx.r_InvalidWord.ini Fx.r_InvalidWord.ty Fx.r_InvalidWord.no F sc_InvalidWord_init (bindsW_of F fun _ _ _ _ _ _ us ws l1 l2 => match us, l1, ws, l2 with | [_], _, [_], _ => rfl) (by decide) (by decide) (fun _ => rfl)
abbrev N_InvalidMarks_init : List Str := ["self", "value"]
theorem sc_InvalidMarks_init : FnScope N_InvalidMarks_init ["self", "value"] (defScope s_InvalidMarks_init) := ⟨rfl, rfl, rfl, by decide +kernel, rfl, by decide +kernel, by decide +kernel⟩
theorem v_InvalidMarks {P : Program} {w : World} {K : PySem.W.Frag} {mg : Str → Option Value} {base : Heap} (Fx : FX K mg) : ExcVT P w K mg base (He.ga K (TT.cn 19)) "InvalidMarks" (TT.fn 19) [.type "ValueError", .type "Exception", .type "BaseException", .type "object"] "ValueError.__new__" := Fx.d_InvalidMarks_init.elim fun fd F => excVT_of (f := "value") base_V Fx.r_InvalidMarks.oex Fx.k_InvalidMarks Fx.r_InvalidMarks.ini Fx.r_InvalidMarks.ty Fx.r_InvalidMarks.no F sc_InvalidMarks_init (F.bindsN fun _ _ _ _ _ _ us hl => match us, hl with | [_, _], _ => rfl) (by decide) (by decide) (fun _ => rfl)
theorem vw_InvalidMarks {P : Program} {w : World} {K : PySem.W.Frag} {mg : Str → Option Value} {base : Heap} (Fx : FX K mg) : ExcVW P w K mg base (He.ga K (TT.cn 19)) "InvalidMarks" (TT.fn 19) [.type "ValueError", .type "Exception", .type "BaseException", .type "object"] "ValueError.__new__" := Fx.d_InvalidMarks_init.elim fun fd F => excVW_of (f := "value") base_V Fx.r_InvalidMarks.oex Fx.k_InvalidMarks Fx.r_InvalidMarks.ini Fx.r_InvalidMarks.ty Fx.r_InvalidMarks.no F sc_InvalidMarks_init (bindsW_of F fun _ _ _ _ _ _ us ws l1 l2 => match us, l1, ws, l2 with | [_], _, [_], _ => rfl) (by decide) (by decide) (fun _ => rfl)
abbrev N_InvalidFact_init : List Str := ["self", "value"]
theorem sc_InvalidFact_init : FnScope N_InvalidFact_init ["self", "value"] (defScope s_InvalidFact_init) := ⟨rfl, rfl, rfl, by decide +kernel, rfl, by decide +kernel, by decide +kernel⟩
theorem v_InvalidFact {P : Program} {w : World} {K : PySem.W.Frag} {mg : Str → Option Value} {base : Heap} (Fx : FX K mg) : ExcVT P w K mg base (He.ga K (TT.cn 21)) "InvalidFact" (TT.fn 19) [.type "ValueError", .type "Exception", .type "BaseException", .type "object"] "ValueError.__new__" := Fx.d_InvalidFact_init.elim fun fd F => excVT_of (f := "value") base_V Fx.r_InvalidFact.oex Fx.k_InvalidFact Fx.r_InvalidFact.ini Fx.r_InvalidFact.ty Fx.r_InvalidFact.no F sc_InvalidFact_init (F.bindsN fun _ _ _ _ _ _ us hl => match us, hl with | [_, _], _ => rfl) (by decide) (by decide) (fun _ => rfl)
theorem vw_InvalidFact {P : Program} {w : World} {K : PySem.W.Frag} {mg : Str → Option Value} {base : Heap} (Fx : FX K mg) : ExcVW P w K mg base (He.ga K (TT.cn 21)) "InvalidFact" (TT.fn 19) [.type "ValueError", .type "Exception", .type "BaseException", .type "object"] "ValueError.__new__" := Fx.d_InvalidFact_init.elim fun fd F => excVW_of (f := "value") base_V Fx.r_InvalidFact.oex Fx.k_InvalidFact Fx.r_InvalidFact.ini Fx.r_InvalidFact.ty Fx.r_InvalidFact.no F sc_InvalidFact_init (bindsW_of F fun _ _ _ _ _ _ us ws l1 l2 => match us, l1, ws, l2 with | [_], _, [_], _ => rfl) (by decide) (by decide) (fun _ => rfl)
abbrev N_InvalidNumber_init : List Str := ["self", "value"]
theorem sc_InvalidNumber_init : FnScope N_InvalidNumber_init ["self", "value"] (defScope s_InvalidNumber_init) := ⟨rfl, rfl, rfl, by decide +kernel, rfl, by decide +kernel, by decide +kernel⟩
theorem v_InvalidNumber {P : Program} {w : World} {K : PySem.W.Frag} {mg : Str → Option Value} {base : Heap} (Fx : FX K mg) : ExcVT P w K mg base (He.ga K (TT.cn 23)) "InvalidNumber" (TT.fn 19) [.type "ValueError", .type "Exception", .type "BaseException", .type "object"] "ValueError.__new__" := Fx.d_InvalidNumber_init.elim fun fd F => excVT_of (f := "value") base_V Fx.r_InvalidNumber.oex Fx.k_InvalidNumber Fx.r_InvalidNumber.ini Fx.r_InvalidNumber.ty Fx.r_InvalidNumber.no F sc_InvalidNumber_init (F.bindsN fun _ _ _ _ _ _ us hl => match us, hl with | [_, _], _ => rfl) (by decide) (by decide) (fun _ => rfl)
theorem vw_InvalidNumber {P : Program} {w : World} {K : PySem.W.Frag} {mg : Str → Option Value} {base : Heap} (Fx : FX K mg) : ExcVW P w K mg base (He.ga K (TT.cn 23)) "InvalidNumber" (TT.fn 19) [.type "ValueError", .type "Exception", .type "BaseException", .type "object"] "ValueError.__new__" := Fx.d_InvalidNumber_init.elim fun fd F => excVW_of (f := "value") base_V Fx.r_InvalidNumber.oex Fx.k_InvalidNumber Fx.r_InvalidNumber.ini Fx.r_InvalidNumber.ty Fx.r_InvalidNumber.no F sc_InvalidNumber_init (bindsW_of F fun _ _ _ _ _ _ us ws l1 l2 => match us, l1, ws, l2 with | [_], _, [_], _ => rfl) (by decide) (by decide) (fun _ => rfl)
abbrev N_InvalidPlace_init : List Str := ["self", "value"]
theorem sc_InvalidPlace_init : FnScope N_InvalidPlace_init ["self", "value"] (defScope s_InvalidPlace_init) := ⟨rfl, rfl, rfl, by decide +kernel, rfl, by decide +kernel, by decide +kernel⟩
theorem v_InvalidPlace {P : Program} {w : World} {K : PySem.W.Frag} {mg : Str → Option Value} {base : Heap} (Fx : FX K mg) : ExcVT P w K mg base (He.ga K (TT.cn 24)) "InvalidPlace" (TT.fn 19) [.type "ValueError", .type "Exception", .type "BaseException", .type "object"] "ValueError.__new__" := Fx.d_InvalidPlace_init.elim fun fd F => excVT_of (f := "value") base_V Fx.r_InvalidPlace.oex Fx.k_InvalidPlace Fx.r_InvalidPlace.ini Fx.r_InvalidPlace.ty Fx.r_InvalidPlace.no F sc_InvalidPlace_init (F.bindsN fun _ _ _ _ _ _ us hl => match us, hl with | [_, _], _ => rfl) (by decide) (by decide) (fun _ => rfl)
theorem vw_InvalidPlace {P : Program} {w : World} {K : PySem.W.Frag} {mg : Str → Option Value} {base : Heap} (Fx : FX K mg) : ExcVW P w K mg base (He.ga K (TT.cn 24)) "InvalidPlace" (TT.fn 19) [.type "ValueError", .type "Exception", .type "BaseException", .type "object"] "ValueError.__new__" := Fx.d_InvalidPlace_init.elim fun fd F => excVW_of (f := "value") base_V Fx.r_InvalidPlace.oex Fx.k_InvalidPlace Fx.r_InvalidPlace.ini Fx.r_InvalidPlace.ty Fx.r_InvalidPlace.no F sc_InvalidPlace_init (bindsW_of F fun _ _ _ _ _ _ us ws l1 l2 => match us, l1, ws, l2 with | [_], _, [_], _ => rfl) (by decide) (by decide) (fun _ => rfl)
abbrev N_InvalidLine_init : List Str := ["self", "value"]
theorem sc_InvalidLine_init : FnScope N_InvalidLine_init ["self", "value"] (defScope s_InvalidLine_init) := ⟨rfl, rfl, rfl, by decide +kernel, rfl, by decide +kernel, by decide +kernel⟩
theorem v_InvalidLine {P : Program} {w : World} {K : PySem.W.Frag} {mg : Str → Option Value} {base : Heap} (Fx : FX K mg) : ExcVT P w K mg base (He.ga K (TT.cn 27)) "InvalidLine" (TT.fn 19) [.type "ValueError", .type "Exception", .type "BaseException", .type "object"] "ValueError.__new__" := Fx.d_InvalidLine_init.elim fun fd F => excVT_of (f := "value") base_V Fx.r_InvalidLine.oex Fx.k_InvalidLine Fx.r_InvalidLine.ini Fx.r_InvalidLine.ty Fx.r_InvalidLine.no F sc_InvalidLine_init (F.bindsN fun _ _ _ _ _ _ us hl => match us, hl with | [_, _], _ => rfl) (by decide) (by decide) (fun _ => rfl)
theorem vw_InvalidLine {P : Program} {w : World} {K : PySem.W.Frag} {mg : Str → Option Value} {base : Heap} (Fx : FX K mg) : ExcVW P w K mg base (He.ga K (TT.cn 27)) "InvalidLine" (TT.fn 19) [.type "ValueError", .type "Exception", .type "BaseException", .type "object"] "ValueError.__new__" := Fx.d_InvalidLine_init.elim fun fd F => excVW_of (f := "value") base_V Fx.r_InvalidLine.oex Fx.k_InvalidLine Fx.r_InvalidLine.ini Fx.r_InvalidLine.ty Fx.r_InvalidLine.no F sc_InvalidLine_init (bindsW_of F fun _ _ _ _ _ _ us ws l1 l2 => match us, l1, ws, l2 with | [_], _, [_], _ => rfl) (by decide) (by decide) (fun _ => rfl)
abbrev N_InvalidRows_init : List Str := ["self", "index"]
theorem sc_InvalidRows_init : FnScope N_InvalidRows_init ["self", "index"] (defScope s_InvalidRows_init) := ⟨rfl, rfl, rfl, by decide +kernel, rfl, by decide +kernel, by decide +kernel⟩
theorem v_InvalidRows {P : Program} {w : World} {K : PySem.W.Frag} {mg : Str → Option Value} {base : Heap} (Fx : FX K mg) : ExcVT P w K mg base (He.ga K (TT.cn 20)) "InvalidRows" (TT.fn 20) [.type "ValueError", .type "Exception", .type "BaseException", .type "object"] "ValueError.__new__" := Fx.d_InvalidRows_init.elim fun fd F => excVT_of (f := "index") base_V Fx.r_InvalidRows.oex Fx.k_InvalidRows Fx.r_InvalidRows.ini Fx.r_InvalidRows.ty Fx.r_InvalidRows.no F sc_InvalidRows_init (F.bindsN fun _ _ _ _ _ _ us hl => match us, hl with | [_, _], _ => rfl) (by decide) (by decide) (fun _ => rfl)
theorem vw_InvalidRows {P : Program} {w : World} {K : PySem.W.Frag} {mg : Str → Option Value} {base : Heap} (Fx : FX K mg) : ExcVW P w K mg base (He.ga K (TT.cn 20)) "InvalidRows" (TT.fn 20) [.type "ValueError", .type "Exception", .type "BaseException", .type "object"] "ValueError.__new__" := Fx.d_InvalidRows_init.elim fun fd F => excVW_of (f := "index") base_V Fx.r_InvalidRows.oex Fx.k_InvalidRows Fx.r_InvalidRows.ini Fx.r_InvalidRows.ty Fx.r_InvalidRows.no F sc_InvalidRows_init (bindsW_of F fun _ _ _ _ _ _ us ws l1 l2 => match us, l1, ws, l2 with | [_], _, [_], _ => rfl) (by decide) (by decide) (fun _ => rfl)
abbrev N_InvalidFacts_init : List Str := ["self", "index"]
theorem sc_InvalidFacts_init : FnScope N_InvalidFacts_init ["self", "index"] (defScope s_InvalidFacts_init) := ⟨rfl, rfl, rfl, by decide +kernel, rfl, by decide +kernel, by decide +kernel⟩
theorem v_InvalidFacts {P : Program} {w : World} {K : PySem.W.Frag} {mg : Str → Option Value} {base : Heap} (Fx : FX K mg) : ExcVT P w K mg base (He.ga K (TT.cn 22)) "InvalidFacts" (TT.fn 20) [.type "ValueError", .type "Exception", .type "BaseException", .type "object"] "ValueError.__new__" := Fx.d_InvalidFacts_init.elim fun fd F => excVT_of (f := "index") base_V Fx.r_InvalidFacts.oex Fx.k_InvalidFacts Fx.r_InvalidFacts.ini Fx.r_InvalidFacts.ty Fx.r_InvalidFacts.no F sc_InvalidFacts_init (F.bindsN fun _ _ _ _ _ _ us hl => match us, hl with | [_, _], _ => rfl) (by decide) (by decide) (fun _ => rfl)
theorem vw_InvalidFacts {P : Program} {w : World} {K : PySem.W.Frag} {mg : Str → Option Value} {base : Heap} (Fx : FX K mg) : ExcVW P w K mg base (He.ga K (TT.cn 22)) "InvalidFacts" (TT.fn 20) [.type "ValueError", .type "Exception", .type "BaseException", .type "object"] "ValueError.__new__" := Fx.d_InvalidFacts_init.elim fun fd F => excVW_of (f := "index") base_V Fx.r_InvalidFacts.oex Fx.k_InvalidFacts Fx.r_InvalidFacts.ini Fx.r_InvalidFacts.ty Fx.r_InvalidFacts.no F sc_InvalidFacts_init (bindsW_of F fun _ _ _ _ _ _ us ws l1 l2 => match us, l1, ws, l2 with | [_], _, [_], _ => rfl) (by decide) (by decide) (fun _ => rfl)
abbrev N_InvalidGuesses_init : List Str := ["self", "index"]
theorem sc_InvalidGuesses_init : FnScope N_InvalidGuesses_init ["self", "index"] (defScope s_InvalidGuesses_init) := ⟨rfl, rfl, rfl, by decide +kernel, rfl, by decide +kernel, by decide +kernel⟩
theorem v_InvalidGuesses {P : Program} {w : World} {K : PySem.W.Frag} {mg : Str → Option Value} {base : Heap} (Fx : FX K mg) : ExcVT P w K mg base (He.ga K (TT.cn 25)) "InvalidGuesses" (TT.fn 20) [.type "ValueError", .type "Exception", .type "BaseException", .type "object"] "ValueError.__new__" := Fx.d_InvalidGuesses_init.elim fun fd F => excVT_of (f := "index") base_V Fx.r_InvalidGuesses.oex Fx.k_InvalidGuesses Fx.r_InvalidGuesses.ini Fx.r_InvalidGuesses.ty Fx.r_InvalidGuesses.no F sc_InvalidGuesses_init (F.bindsN fun _ _ _ _ _ _ us hl => match us, hl with | [_, _], _ => rfl) (by decide) (by decide) (fun _ => rfl)
theorem vw_InvalidGuesses {P : Program} {w : World} {K : PySem.W.Frag} {mg : Str → Option Value} {base : Heap} (Fx : FX K mg) : ExcVW P w K mg base (He.ga K (TT.cn 25)) "InvalidGuesses" (TT.fn 20) [.type "ValueError", .type "Exception", .type "BaseException", .type "object"] "ValueError.__new__" := Fx.d_InvalidGuesses_init.elim fun fd F => excVW_of (f := "index") base_V Fx.r_InvalidGuesses.oex Fx.k_InvalidGuesses Fx.r_InvalidGuesses.ini Fx.r_InvalidGuesses.ty Fx.r_InvalidGuesses.no F sc_InvalidGuesses_init (bindsW_of F fun _ _ _ _ _ _ us ws l1 l2 => match us, l1, ws, l2 with | [_], _, [_], _ => rfl) (by decide) (by decide) (fun _ => rfl)
abbrev N_InvalidDeeds_init : List Str := ["self", "index"]
theorem sc_InvalidDeeds_init : FnScope N_InvalidDeeds_init ["self", "index"] (defScope s_InvalidDeeds_init) := ⟨rfl, rfl, rfl, by decide +kernel, rfl, by decide +kernel, by decide +kernel⟩
theorem v_InvalidDeeds {P : Program} {w : World} {K : PySem.W.Frag} {mg : Str → Option Value} {base : Heap} (Fx : FX K mg) : ExcVT P w K mg base (He.ga K (TT.cn 26)) "InvalidDeeds" (TT.fn 20) [.type "ValueError", .type "Exception", .type "BaseException", .type "object"] "ValueError.__new__" := Fx.d_InvalidDeeds_init.elim fun fd F => excVT_of (f := "index") base_V Fx.r_InvalidDeeds.oex Fx.k_InvalidDeeds Fx.r_InvalidDeeds.ini Fx.r_InvalidDeeds.ty Fx.r_InvalidDeeds.no F sc_InvalidDeeds_init (F.bindsN fun _ _ _ _ _ _ us hl => match us, hl with | [_, _], _ => rfl) (by decide) (by decide) (fun _ => rfl)
theorem vw_InvalidDeeds {P : Program} {w : World} {K : PySem.W.Frag} {mg : Str → Option Value} {base : Heap} (Fx : FX K mg) : ExcVW P w K mg base (He.ga K (TT.cn 26)) "InvalidDeeds" (TT.fn 20) [.type "ValueError", .type "Exception", .type "BaseException", .type "object"] "ValueError.__new__" := Fx.d_InvalidDeeds_init.elim fun fd F => excVW_of (f := "index") base_V Fx.r_InvalidDeeds.oex Fx.k_InvalidDeeds Fx.r_InvalidDeeds.ini Fx.r_InvalidDeeds.ty Fx.r_InvalidDeeds.no F sc_InvalidDeeds_init (bindsW_of F fun _ _ _ _ _ _ us ws l1 l2 => match us, l1, ws, l2 with | [_], _, [_], _ => rfl) (by decide) (by decide) (fun _ => rfl)
abbrev N_value_errors : List Str := ["_law_thing", "_law_one", "_law_two", "_law_three", "_law_four"]
theorem sc_value_errors : FnScope N_value_errors ["_law_thing"] (defScope s_value_errors) := ⟨rfl, rfl, rfl, by decide +kernel, rfl, by decide +kernel, by decide +kernel⟩
def is_value_errors : IS := (sSeq (sAsg 1 (iLst (iCons (iExn 13 19 (iVar 0)) (iCons (iExn 14 19 (iVar 0)) (iCons (iExn 15 19 (iVar 0)) (iCons (iExn 16 19 (iVar 0)) iNil)))))) (sSeq (sAsg 1 (iOp addD (iVar 1) (iLst (iCons (iExn 17 19 (iVar 0)) (iCons (iExn 18 19 (iVar 0)) (iCons (iExn 19 19 (iVar 0)) (iCons (iExn 21 19 (iVar 0)) iNil))))))) (sSeq (sAsg 1 (iOp addD (iVar 1) (iLst (iCons (iExn 23 19 (iVar 0)) (iCons (iExn 24 19 (iVar 0)) (iCons (iExn 27 19 (iVar 0)) iNil)))))) (sSeq (sAsg 2 (iLst (iCons (iExnK 13 19 (iCons (iVar 0) iNil)) (iCons (iExnK 14 19 (iCons (iVar 0) iNil)) (iCons (iExnK 15 19 (iCons (iVar 0) iNil)) iNil))))) (sSeq (sAsg 2 (iOp addD (iVar 2) (iLst (iCons (iExnK 16 19 (iCons (iVar 0) iNil)) (iCons (iExnK 17 19 (iCons (iVar 0) iNil)) (iCons (iExnK 18 19 (iCons (iVar 0) iNil)) iNil)))))) (sSeq (sAsg 2 (iOp addD (iVar 2) (iLst (iCons (iExnK 19 19 (iCons (iVar 0) iNil)) (iCons (iExnK 21 19 (iCons (iVar 0) iNil)) (iCons (iExnK 23 19 (iCons (iVar 0) iNil)) iNil)))))) (sSeq (sAsg 2 (iOp addD (iVar 2) (iLst (iCons (iExnK 24 19 (iCons (iVar 0) iNil)) (iCons (iExnK 27 19 (iCons (iVar 0) iNil)) iNil))))) (sSeq (sAsg 3 (iLst (iCons (iExn 20 20 (iVar 0)) (iCons (iExn 22 20 (iVar 0)) (iCons (iExn 25 20 (iVar 0)) (iCons (iExn 26 20 (iVar 0)) iNil)))))) (sSeq (sAsg 4 (iLst (iCons (iExnK 20 20 (iCons (iVar 0) iNil)) (iCons (iExnK 22 20 (iCons (iVar 0) iNil)) (iCons (iExnK 25 20 (iCons (iVar 0) iNil)) iNil))))) (sSeq (sAsg 4 (iOp addD (iVar 4) (iLst (iCons (iExnK 26 20 (iCons (iVar 0) iNil)) iNil)))) (sRet (iTup (iCons (iOp addD (iVar 1) (iVar 2)) (iCons (iOp addD (iVar 3) (iVar 4)) iNil))))))))))))))
def d_value_errors : List D → M D := defJ 5 false is_value_errors
theorem w_value_errors {P : Program} {w : World} {K : PySem.W.Frag} {mg : Str → Option Value} {base : Heap} (Fx : FX K mg) {fd : FuncData} (F : df_value_errors.Fun K fd) : FnG P w K mg base 3 (df_value_errors.at_ K) fd ["_law_thing"] (spJ TT K 1 d_value_errors) := by
  refine fn_j (T := TT) false F sc_value_errors (fun cdv A fr s H E room gd => ?_)
  have hr : Rg 2 (cxOf (L2N.CX P w) P w K mg base N_value_errors "_law_value_errors" (defScope s_value_errors) (df_value_errors.at_ K) cdv A fr s H E).A := ⟨room, gd⟩
  have tk : L2N.Takes (cxOf (L2N.CX P w) P w K mg base N_value_errors "_law_value_errors" (defScope s_value_errors) (df_value_errors.at_ K) cdv A fr s H E) (fun c d _ H => E c d H) := L2N.takes_of rfl rfl rfl rfl
  have po : PassesOwn (model P w) (cxOf (L2N.CX P w) P w K mg base N_value_errors "_law_value_errors" (defScope s_value_errors) (df_value_errors.at_ K) cdv A fr s H E).A (cxOf (L2N.CX P w) P w K mg base N_value_errors "_law_value_errors" (defScope s_value_errors) (df_value_errors.at_ K) cdv A fr s H E).env (cxOf (L2N.CX P w) P w K mg base N_value_errors "_law_value_errors" (defScope s_value_errors) (df_value_errors.at_ K) cdv A fr s H E).xe := passes_of rfl
  have S := sc_value_errors
  exact (jss_cons (js_set (i := 1) S.nd rfl (Or.inl rfl) (je_lst (ja_cons (je_exn (T := TT) (c := 13) (f := 19) base_V (v_NotABoard Fx) (hr.r.mono (by decide)) tk0 rfl (je_var 0)) (ja_cons (je_exn (T := TT) (c := 14) (f := 19) base_V (v_NotAHistory Fx) (hr.r.mono (by decide)) tk0 rfl (je_var 0)) (ja_cons (je_exn (T := TT) (c := 15) (f := 19) base_V (v_NotAGame Fx) (hr.r.mono (by decide)) tk0 rfl (je_var 0)) (ja_cons (je_exn (T := TT) (c := 16) (f := 19) base_V (v_InvalidLetters Fx) (hr.r.mono (by decide)) tk0 rfl (je_var 0)) ja_nil)))))) (jss_cons (js_set (i := 1) S.nd rfl (Or.inl rfl) (je_op op_addD addD_ok (je_var 1) (je_lst (ja_cons (je_exn (T := TT) (c := 17) (f := 19) base_V (v_InvalidLength Fx) (hr.r.mono (by decide)) tk0 rfl (je_var 0)) (ja_cons (je_exn (T := TT) (c := 18) (f := 19) base_V (v_InvalidWord Fx) (hr.r.mono (by decide)) tk0 rfl (je_var 0)) (ja_cons (je_exn (T := TT) (c := 19) (f := 19) base_V (v_InvalidMarks Fx) (hr.r.mono (by decide)) tk0 rfl (je_var 0)) (ja_cons (je_exn (T := TT) (c := 21) (f := 19) base_V (v_InvalidFact Fx) (hr.r.mono (by decide)) tk0 rfl (je_var 0)) ja_nil))))))) (jss_cons (js_set (i := 1) S.nd rfl (Or.inl rfl) (je_op op_addD addD_ok (je_var 1) (je_lst (ja_cons (je_exn (T := TT) (c := 23) (f := 19) base_V (v_InvalidNumber Fx) (hr.r.mono (by decide)) tk0 rfl (je_var 0)) (ja_cons (je_exn (T := TT) (c := 24) (f := 19) base_V (v_InvalidPlace Fx) (hr.r.mono (by decide)) tk0 rfl (je_var 0)) (ja_cons (je_exn (T := TT) (c := 27) (f := 19) base_V (v_InvalidLine Fx) (hr.r.mono (by decide)) tk0 rfl (je_var 0)) ja_nil)))))) (jss_cons (js_set (i := 2) S.nd rfl (Or.inl rfl) (je_lst (ja_cons (je_exnK (T := TT) (c := 13) (f := 19) (n := "value") base_V (vw_NotABoard Fx) rfl (hr.r.mono (by decide)) tk0 rfl (jk_cons (je_var 0) jk_nil)) (ja_cons (je_exnK (T := TT) (c := 14) (f := 19) (n := "value") base_V (vw_NotAHistory Fx) rfl (hr.r.mono (by decide)) tk0 rfl (jk_cons (je_var 0) jk_nil)) (ja_cons (je_exnK (T := TT) (c := 15) (f := 19) (n := "value") base_V (vw_NotAGame Fx) rfl (hr.r.mono (by decide)) tk0 rfl (jk_cons (je_var 0) jk_nil)) ja_nil))))) (jss_cons (js_set (i := 2) S.nd rfl (Or.inl rfl) (je_op op_addD addD_ok (je_var 2) (je_lst (ja_cons (je_exnK (T := TT) (c := 16) (f := 19) (n := "value") base_V (vw_InvalidLetters Fx) rfl (hr.r.mono (by decide)) tk0 rfl (jk_cons (je_var 0) jk_nil)) (ja_cons (je_exnK (T := TT) (c := 17) (f := 19) (n := "value") base_V (vw_InvalidLength Fx) rfl (hr.r.mono (by decide)) tk0 rfl (jk_cons (je_var 0) jk_nil)) (ja_cons (je_exnK (T := TT) (c := 18) (f := 19) (n := "value") base_V (vw_InvalidWord Fx) rfl (hr.r.mono (by decide)) tk0 rfl (jk_cons (je_var 0) jk_nil)) ja_nil)))))) (jss_cons (js_set (i := 2) S.nd rfl (Or.inl rfl) (je_op op_addD addD_ok (je_var 2) (je_lst (ja_cons (je_exnK (T := TT) (c := 19) (f := 19) (n := "value") base_V (vw_InvalidMarks Fx) rfl (hr.r.mono (by decide)) tk0 rfl (jk_cons (je_var 0) jk_nil)) (ja_cons (je_exnK (T := TT) (c := 21) (f := 19) (n := "value") base_V (vw_InvalidFact Fx) rfl (hr.r.mono (by decide)) tk0 rfl (jk_cons (je_var 0) jk_nil)) (ja_cons (je_exnK (T := TT) (c := 23) (f := 19) (n := "value") base_V (vw_InvalidNumber Fx) rfl (hr.r.mono (by decide)) tk0 rfl (jk_cons (je_var 0) jk_nil)) ja_nil)))))) (jss_cons (js_set (i := 2) S.nd rfl (Or.inl rfl) (je_op op_addD addD_ok (je_var 2) (je_lst (ja_cons (je_exnK (T := TT) (c := 24) (f := 19) (n := "value") base_V (vw_InvalidPlace Fx) rfl (hr.r.mono (by decide)) tk0 rfl (jk_cons (je_var 0) jk_nil)) (ja_cons (je_exnK (T := TT) (c := 27) (f := 19) (n := "value") base_V (vw_InvalidLine Fx) rfl (hr.r.mono (by decide)) tk0 rfl (jk_cons (je_var 0) jk_nil)) ja_nil))))) (jss_cons (js_set (i := 3) S.nd rfl (Or.inl rfl) (je_lst (ja_cons (je_exn (T := TT) (c := 20) (f := 20) base_V (v_InvalidRows Fx) (hr.r.mono (by decide)) tk0 rfl (je_var 0)) (ja_cons (je_exn (T := TT) (c := 22) (f := 20) base_V (v_InvalidFacts Fx) (hr.r.mono (by decide)) tk0 rfl (je_var 0)) (ja_cons (je_exn (T := TT) (c := 25) (f := 20) base_V (v_InvalidGuesses Fx) (hr.r.mono (by decide)) tk0 rfl (je_var 0)) (ja_cons (je_exn (T := TT) (c := 26) (f := 20) base_V (v_InvalidDeeds Fx) (hr.r.mono (by decide)) tk0 rfl (je_var 0)) ja_nil)))))) (jss_cons (js_set (i := 4) S.nd rfl (Or.inl rfl) (je_lst (ja_cons (je_exnK (T := TT) (c := 20) (f := 20) (n := "index") base_V (vw_InvalidRows Fx) rfl (hr.r.mono (by decide)) tk0 rfl (jk_cons (je_var 0) jk_nil)) (ja_cons (je_exnK (T := TT) (c := 22) (f := 20) (n := "index") base_V (vw_InvalidFacts Fx) rfl (hr.r.mono (by decide)) tk0 rfl (jk_cons (je_var 0) jk_nil)) (ja_cons (je_exnK (T := TT) (c := 25) (f := 20) (n := "index") base_V (vw_InvalidGuesses Fx) rfl (hr.r.mono (by decide)) tk0 rfl (jk_cons (je_var 0) jk_nil)) ja_nil))))) (jss_cons (js_set (i := 4) S.nd rfl (Or.inl rfl) (je_op op_addD addD_ok (je_var 4) (je_lst (ja_cons (je_exnK (T := TT) (c := 26) (f := 20) (n := "index") base_V (vw_InvalidDeeds Fx) rfl (hr.r.mono (by decide)) tk0 rfl (jk_cons (je_var 0) jk_nil)) ja_nil)))) (jss_one (js_ret (je_tup (ja_cons (je_op op_addD addD_ok (je_var 1) (je_var 2)) (ja_cons (je_op op_addD addD_ok (je_var 3) (je_var 4)) ja_nil)))))))))))))))
theorem g_value_errors {P : Program} {w : World} {K : PySem.W.Frag} {mg : Str → Option Value} {base : Heap} (Fx : FX K mg) : Good P w TT K mg base 3 "_law_value_errors" ["_law_thing"] d_value_errors := Fx.d_value_errors.elim fun fd F => ⟨fd, w_value_errors Fx F, F.bindsN fun _ _ _ _ _ _ us hl => match us, hl with | [_], _ => rfl, Fx.m_value_errors, F.kp⟩
abbrev N_WordNotLeft_init : List Str := ["self", "value"]
theorem sc_WordNotLeft_init : FnScope N_WordNotLeft_init ["self", "value"] (defScope s_WordNotLeft_init) := ⟨rfl, rfl, rfl, by decide +kernel, rfl, by decide +kernel, by decide +kernel⟩
theorem v_WordNotLeft {P : Program} {w : World} {K : PySem.W.Frag} {mg : Str → Option Value} {base : Heap} (Fx : FX K mg) : ExcVT P w K mg base (He.ga K (TT.cn 32)) "WordNotLeft" (TT.fn 19) tlL "LookupError.__new__" := Fx.d_WordNotLeft_init.elim fun fd F => excVT_of (f := "value") base_L Fx.r_WordNotLeft.oex Fx.k_WordNotLeft Fx.r_WordNotLeft.ini Fx.r_WordNotLeft.ty Fx.r_WordNotLeft.no F sc_WordNotLeft_init (F.bindsN fun _ _ _ _ _ _ us hl => match us, hl with | [_, _], _ => rfl) (by decide) (by decide) (fun _ => rfl)
theorem vw_WordNotLeft {P : Program} {w : World} {K : PySem.W.Frag} {mg : Str → Option Value} {base : Heap} (Fx : FX K mg) : ExcVW P w K mg base (He.ga K (TT.cn 32)) "WordNotLeft" (TT.fn 19) tlL "LookupError.__new__" := Fx.d_WordNotLeft_init.elim fun fd F => excVW_of (f := "value") base_L Fx.r_WordNotLeft.oex Fx.k_WordNotLeft Fx.r_WordNotLeft.ini Fx.r_WordNotLeft.ty Fx.r_WordNotLeft.no F sc_WordNotLeft_init (bindsW_of F fun _ _ _ _ _ _ us ws l1 l2 => match us, l1, ws, l2 with | [_], _, [_], _ => rfl) (by decide) (by decide) (fun _ => rfl)
abbrev N_GuessNotLeft_init : List Str := ["self", "value"]
theorem sc_GuessNotLeft_init : FnScope N_GuessNotLeft_init ["self", "value"] (defScope s_GuessNotLeft_init) := ⟨rfl, rfl, rfl, by decide +kernel, rfl, by decide +kernel, by decide +kernel⟩
theorem v_GuessNotLeft {P : Program} {w : World} {K : PySem.W.Frag} {mg : Str → Option Value} {base : Heap} (Fx : FX K mg) : ExcVT P w K mg base (He.ga K (TT.cn 33)) "GuessNotLeft" (TT.fn 19) tlL "LookupError.__new__" := Fx.d_GuessNotLeft_init.elim fun fd F => excVT_of (f := "value") base_L Fx.r_GuessNotLeft.oex Fx.k_GuessNotLeft Fx.r_GuessNotLeft.ini Fx.r_GuessNotLeft.ty Fx.r_GuessNotLeft.no F sc_GuessNotLeft_init (F.bindsN fun _ _ _ _ _ _ us hl => match us, hl with | [_, _], _ => rfl) (by decide) (by decide) (fun _ => rfl)
theorem vw_GuessNotLeft {P : Program} {w : World} {K : PySem.W.Frag} {mg : Str → Option Value} {base : Heap} (Fx : FX K mg) : ExcVW P w K mg base (He.ga K (TT.cn 33)) "GuessNotLeft" (TT.fn 19) tlL "LookupError.__new__" := Fx.d_GuessNotLeft_init.elim fun fd F => excVW_of (f := "value") base_L Fx.r_GuessNotLeft.oex Fx.k_GuessNotLeft Fx.r_GuessNotLeft.ini Fx.r_GuessNotLeft.ty Fx.r_GuessNotLeft.no F sc_GuessNotLeft_init (bindsW_of F fun _ _ _ _ _ _ us ws l1 l2 => match us, l1, ws, l2 with | [_], _, [_], _ => rfl) (by decide) (by decide) (fun _ => rfl)
abbrev N_TooManyRows_init : List Str := ["self", "limit"]
theorem sc_TooManyRows_init : FnScope N_TooManyRows_init ["self", "limit"] (defScope s_TooManyRows_init) := ⟨rfl, rfl, rfl, by decide +kernel, rfl, by decide +kernel, by decide +kernel⟩
theorem v_TooManyRows {P : Program} {w : World} {K : PySem.W.Frag} {mg : Str → Option Value} {base : Heap} (Fx : FX K mg) : ExcVT P w K mg base (He.ga K (TT.cn 34)) "TooManyRows" (TT.fn 21) tlA "ArithmeticError.__new__" := Fx.d_TooManyRows_init.elim fun fd F => excVT_of (f := "limit") base_A Fx.r_TooManyRows.oex Fx.k_TooManyRows Fx.r_TooManyRows.ini Fx.r_TooManyRows.ty Fx.r_TooManyRows.no F sc_TooManyRows_init (F.bindsN fun _ _ _ _ _ _ us hl => match us, hl with | [_, _], _ => rfl) (by decide) (by decide) (fun _ => rfl)
theorem vw_TooManyRows {P : Program} {w : World} {K : PySem.W.Frag} {mg : Str → Option Value} {base : Heap} (Fx : FX K mg) : ExcVW P w K mg base (He.ga K (TT.cn 34)) "TooManyRows" (TT.fn 21) tlA "ArithmeticError.__new__" := Fx.d_TooManyRows_init.elim fun fd F => excVW_of (f := "limit") base_A Fx.r_TooManyRows.oex Fx.k_TooManyRows Fx.r_TooManyRows.ini Fx.r_TooManyRows.ty Fx.r_TooManyRows.no F sc_TooManyRows_init (bindsW_of F fun _ _ _ _ _ _ us ws l1 l2 => match us, l1, ws, l2 with | [_], _, [_], _ => rfl) (by decide) (by decide) (fun _ => rfl)
abbrev N_state_errors : List Str := ["_law_thing", "_law_one"]
theorem sc_state_errors : FnScope N_state_errors ["_law_thing"] (defScope s_state_errors) := ⟨rfl, rfl, rfl, by decide +kernel, rfl, by decide +kernel, by decide +kernel⟩
def is_state_errors : IS := (sSeq (sAsg 1 (iLst (iCons (iExn 32 19 (iVar 0)) (iCons (iExn 33 19 (iVar 0)) (iCons (iExnK 32 19 (iCons (iVar 0) iNil)) (iCons (iExnK 33 19 (iCons (iVar 0) iNil)) iNil)))))) (sRet (iTup (iCons (iVar 1) (iCons (iLst (iCons (iExn 34 21 (iVar 0)) (iCons (iExnK 34 21 (iCons (iVar 0) iNil)) iNil))) iNil)))))
def d_state_errors : List D → M D := defJ 2 false is_state_errors
theorem w_state_errors {P : Program} {w : World} {K : PySem.W.Frag} {mg : Str → Option Value} {base : Heap} (Fx : FX K mg) {fd : FuncData} (F : df_state_errors.Fun K fd) : FnG P w K mg base 3 (df_state_errors.at_ K) fd ["_law_thing"] (spJ TT K 1 d_state_errors) := by
  refine fn_j (T := TT) false F sc_state_errors (fun cdv A fr s H E room gd => ?_)
  have hr : Rg 2 (cxOf (L2N.CX P w) P w K mg base N_state_errors "_law_state_errors" (defScope s_state_errors) (df_state_errors.at_ K) cdv A fr s H E).A := ⟨room, gd⟩
  have tk : L2N.Takes (cxOf (L2N.CX P w) P w K mg base N_state_errors "_law_state_errors" (defScope s_state_errors) (df_state_errors.at_ K) cdv A fr s H E) (fun c d _ H => E c d H) := L2N.takes_of rfl rfl rfl rfl
  have po : PassesOwn (model P w) (cxOf (L2N.CX P w) P w K mg base N_state_errors "_law_state_errors" (defScope s_state_errors) (df_state_errors.at_ K) cdv A fr s H E).A (cxOf (L2N.CX P w) P w K mg base N_state_errors "_law_state_errors" (defScope s_state_errors) (df_state_errors.at_ K) cdv A fr s H E).env (cxOf (L2N.CX P w) P w K mg base N_state_errors "_law_state_errors" (defScope s_state_errors) (df_state_errors.at_ K) cdv A fr s H E).xe := passes_of rfl
  have S := sc_state_errors
  exact (jss_cons (js_set (i := 1) S.nd rfl (Or.inl rfl) (je_lst (ja_cons (je_exn (T := TT) (c := 32) (f := 19) base_L (v_WordNotLeft Fx) (hr.r.mono (by decide)) tk0 rfl (je_var 0)) (ja_cons (je_exn (T := TT) (c := 33) (f := 19) base_L (v_GuessNotLeft Fx) (hr.r.mono (by decide)) tk0 rfl (je_var 0)) (ja_cons (je_exnK (T := TT) (c := 32) (f := 19) (n := "value") base_L (vw_WordNotLeft Fx) rfl (hr.r.mono (by decide)) tk0 rfl (jk_cons (je_var 0) jk_nil)) (ja_cons (je_exnK (T := TT) (c := 33) (f := 19) (n := "value") base_L (vw_GuessNotLeft Fx) rfl (hr.r.mono (by decide)) tk0 rfl (jk_cons (je_var 0) jk_nil)) ja_nil)))))) (jss_one (js_ret (je_tup (ja_cons (je_var 1) (ja_cons (je_lst (ja_cons (je_exn (T := TT) (c := 34) (f := 21) base_A (v_TooManyRows Fx) (hr.r.mono (by decide)) tk0 rfl (je_var 0)) (ja_cons (je_exnK (T := TT) (c := 34) (f := 21) (n := "limit") base_A (vw_TooManyRows Fx) rfl (hr.r.mono (by decide)) tk0 rfl (jk_cons (je_var 0) jk_nil)) ja_nil))) ja_nil))))))
theorem g_state_errors {P : Program} {w : World} {K : PySem.W.Frag} {mg : Str → Option Value} {base : Heap} (Fx : FX K mg) : Good P w TT K mg base 3 "_law_state_errors" ["_law_thing"] d_state_errors := Fx.d_state_errors.elim fun fd F => ⟨fd, w_state_errors Fx F, F.bindsN fun _ _ _ _ _ _ us hl => match us, hl with | [_], _ => rfl, Fx.m_state_errors, F.kp⟩
abbrev N_bases : List Str := ["_law_e", "_law_seen", "_law_k"]
theorem sc_bases : FnScope N_bases ["_law_e"] (defScope s_bases) := ⟨rfl, rfl, rfl, by decide +kernel, rfl, by decide +kernel, by decide +kernel⟩
def is_bases : IS := (sSeq (sAsg 1 (iLst (iCons (iCB (isxD TBX) (iCons (iVar 0) (iCons (iC (.glo 10)) iNil))) (iCons (iCB (isxD TBX) (iCons (iVar 0) (iCons (iC (.glo 11)) iNil))) (iCons (iCB (isxD TBX) (iCons (iVar 0) (iCons (iC (.glo 12)) iNil))) iNil))))) (sSeq (sAsg 1 (iOp addD (iVar 1) (iLst (iCons (iCB (isxD TBX) (iCons (iVar 0) (iCons (iC (.ty "ValueError")) iNil))) (iCons (iCB (isxD TBX) (iCons (iVar 0) (iCons (iC (.ty "LookupError")) iNil))) (iCons (iCB (isxD TBX) (iCons (iVar 0) (iCons (iC (.ty "ArithmeticError")) iNil))) iNil)))))) (sRet (iLc (iRange range1 (iCons (iC (.int 6)) iNil)) (.n 2) (iTst (iOp ixD (iVar 1) (iVar 2))) (iVar 2) [2]))))
def d_bases : List D → M D := defJ 3 false is_bases
theorem w_bases {P : Program} {w : World} {K : PySem.W.Frag} {mg : Str → Option Value} {base : Heap} (Fx : FX K mg) {fd : FuncData} (F : df_bases.Fun K fd) : FnG P w K mg base 1 (df_bases.at_ K) fd ["_law_e"] (spJ TT K 1 d_bases) := by
  refine fn_j (T := TT) false F sc_bases (fun cdv A fr s H E room gd => ?_)
  have hr : Rg 0 (cxOf (L2N.CX P w) P w K mg base N_bases "_law_bases" (defScope s_bases) (df_bases.at_ K) cdv A fr s H E).A := ⟨room, gd⟩
  have tk : L2N.Takes (cxOf (L2N.CX P w) P w K mg base N_bases "_law_bases" (defScope s_bases) (df_bases.at_ K) cdv A fr s H E) (fun c d _ H => E c d H) := L2N.takes_of rfl rfl rfl rfl
  have po : PassesOwn (model P w) (cxOf (L2N.CX P w) P w K mg base N_bases "_law_bases" (defScope s_bases) (df_bases.at_ K) cdv A fr s H E).A (cxOf (L2N.CX P w) P w K mg base N_bases "_law_bases" (defScope s_bases) (df_bases.at_ K) cdv A fr s H E).env (cxOf (L2N.CX P w) P w K mg base N_bases "_law_bases" (defScope s_bases) (df_bases.at_ K) cdv A fr s H E).xe := passes_of rfl
  have S := sc_bases
  exact (jss_cons (js_set (i := 1) S.nd rfl (Or.inr rfl) (je_lst (ja_cons (je_callB call_isC (isxD_ok Fx.isx) (by rfl) Fx.b_isinstance (by decide +kernel) (ja_cons (je_var 0) (ja_cons (je_cls (c := 10) rfl Fx.k_InputError (by rfl)) ja_nil))) (ja_cons (je_callB call_isC (isxD_ok Fx.isx) (by rfl) Fx.b_isinstance (by decide +kernel) (ja_cons (je_var 0) (ja_cons (je_cls (c := 11) rfl Fx.k_StateError (by rfl)) ja_nil))) (ja_cons (je_callB call_isC (isxD_ok Fx.isx) (by rfl) Fx.b_isinstance (by decide +kernel) (ja_cons (je_var 0) (ja_cons (je_cls (c := 12) rfl Fx.k_SizeError (by rfl)) ja_nil))) ja_nil))))) (jss_cons (js_set (i := 1) S.nd rfl (Or.inr rfl) (je_op op_addD addD_ok (je_var 1) (je_lst (ja_cons (je_callB call_isC (isxD_ok Fx.isx) (by rfl) Fx.b_isinstance (by decide +kernel) (ja_cons (je_var 0) (ja_cons (je_ty (n := "ValueError") rfl Fx.b_ValueError (by decide +kernel)) ja_nil))) (ja_cons (je_callB call_isC (isxD_ok Fx.isx) (by rfl) Fx.b_isinstance (by decide +kernel) (ja_cons (je_var 0) (ja_cons (je_ty (n := "LookupError") rfl Fx.b_LookupError (by decide +kernel)) ja_nil))) (ja_cons (je_callB call_isC (isxD_ok Fx.isx) (by rfl) Fx.b_isinstance (by decide +kernel) (ja_cons (je_var 0) (ja_cons (je_ty (n := "ArithmeticError") rfl Fx.b_ArithmeticError (by decide +kernel)) ja_nil))) ja_nil)))))) (jss_one (js_ret (je_lc (own := [("_law_k", 2)]) (g := (.n 2)) rfl S.nd (ji_range1 (by rfl) Fx.b_range (ja_cons je_int ja_nil)) (blkOk_by (by kernel_rfl)) (fun _ _ _ _ _ => (jg_name (i := 2) S.nd rfl (Or.inl rfl))) (fun _ _ _ _ _ => (jts_one (jt_val (je_ix ix_seq ixD_ok (je_var 1) (je_var 2) (fun _ _ => rfl))))) (fun _ _ _ _ _ => (je_var 2)))))))
theorem g_bases {P : Program} {w : World} {K : PySem.W.Frag} {mg : Str → Option Value} {base : Heap} (Fx : FX K mg) : Good P w TT K mg base 1 "_law_bases" ["_law_e"] d_bases := Fx.d_bases.elim fun fd F => ⟨fd, w_bases Fx F, F.bindsN fun _ _ _ _ _ _ us hl => match us, hl with | [_], _ => rfl, Fx.m_bases, F.kp⟩
abbrev N_instances : List Str := ["_law_e", "_law_seen"]
theorem sc_instances : FnScope N_instances ["_law_e"] (defScope s_instances) := ⟨rfl, rfl, rfl, by decide +kernel, rfl, by decide +kernel, by decide +kernel⟩
def is_instances : IS := (sSeq (sAsg 1 (iLst (iCons (iCB (isxD TBX) (iCons (iVar 0) (iCons (iC (.glo 13)) iNil))) (iCons (iCB (isxD TBX) (iCons (iVar 0) (iCons (iC (.glo 14)) iNil))) (iCons (iCB (isxD TBX) (iCons (iVar 0) (iCons (iC (.glo 15)) iNil))) iNil))))) (sSeq (sAsg 1 (iOp addD (iVar 1) (iLst (iCons (iCB (isxD TBX) (iCons (iVar 0) (iCons (iC (.glo 16)) iNil))) (iCons (iCB (isxD TBX) (iCons (iVar 0) (iCons (iC (.glo 17)) iNil))) (iCons (iCB (isxD TBX) (iCons (iVar 0) (iCons (iC (.glo 18)) iNil))) iNil)))))) (sSeq (sAsg 1 (iOp addD (iVar 1) (iLst (iCons (iCB (isxD TBX) (iCons (iVar 0) (iCons (iC (.glo 19)) iNil))) (iCons (iCB (isxD TBX) (iCons (iVar 0) (iCons (iC (.glo 21)) iNil))) (iCons (iCB (isxD TBX) (iCons (iVar 0) (iCons (iC (.glo 23)) iNil))) iNil)))))) (sSeq (sAsg 1 (iOp addD (iVar 1) (iLst (iCons (iCB (isxD TBX) (iCons (iVar 0) (iCons (iC (.glo 24)) iNil))) (iCons (iCB (isxD TBX) (iCons (iVar 0) (iCons (iC (.glo 27)) iNil))) (iCons (iCB (isxD TBX) (iCons (iVar 0) (iCons (iC (.glo 20)) iNil))) iNil)))))) (sSeq (sAsg 1 (iOp addD (iVar 1) (iLst (iCons (iCB (isxD TBX) (iCons (iVar 0) (iCons (iC (.glo 22)) iNil))) (iCons (iCB (isxD TBX) (iCons (iVar 0) (iCons (iC (.glo 25)) iNil))) (iCons (iCB (isxD TBX) (iCons (iVar 0) (iCons (iC (.glo 26)) iNil))) iNil)))))) (sSeq (sAsg 1 (iOp addD (iVar 1) (iLst (iCons (iCB (isxD TBX) (iCons (iVar 0) (iCons (iC (.glo 28)) iNil))) (iCons (iCB (isxD TBX) (iCons (iVar 0) (iCons (iC (.glo 29)) iNil))) (iCons (iCB (isxD TBX) (iCons (iVar 0) (iCons (iC (.glo 30)) iNil))) iNil)))))) (sSeq (sAsg 1 (iOp addD (iVar 1) (iLst (iCons (iCB (isxD TBX) (iCons (iVar 0) (iCons (iC (.glo 31)) iNil))) (iCons (iCB (isxD TBX) (iCons (iVar 0) (iCons (iC (.glo 32)) iNil))) (iCons (iCB (isxD TBX) (iCons (iVar 0) (iCons (iC (.glo 33)) iNil))) iNil)))))) (sSeq (sAsg 1 (iOp addD (iVar 1) (iLst (iCons (iCB (isxD TBX) (iCons (iVar 0) (iCons (iC (.glo 34)) iNil))) iNil)))) (sRet (iBM .l bolCnt (iVar 1) (iCons (iC (.bl true)) iNil)))))))))))
def d_instances : List D → M D := defJ 2 false is_instances
theorem w_instances {P : Program} {w : World} {K : PySem.W.Frag} {mg : Str → Option Value} {base : Heap} (Fx : FX K mg) {fd : FuncData} (F : df_instances.Fun K fd) : FnG P w K mg base 1 (df_instances.at_ K) fd ["_law_e"] (spJ TT K 1 d_instances) := by
  refine fn_j (T := TT) false F sc_instances (fun cdv A fr s H E room gd => ?_)
  have hr : Rg 0 (cxOf (L2N.CX P w) P w K mg base N_instances "_law_instances" (defScope s_instances) (df_instances.at_ K) cdv A fr s H E).A := ⟨room, gd⟩
  have tk : L2N.Takes (cxOf (L2N.CX P w) P w K mg base N_instances "_law_instances" (defScope s_instances) (df_instances.at_ K) cdv A fr s H E) (fun c d _ H => E c d H) := L2N.takes_of rfl rfl rfl rfl
  have po : PassesOwn (model P w) (cxOf (L2N.CX P w) P w K mg base N_instances "_law_instances" (defScope s_instances) (df_instances.at_ K) cdv A fr s H E).A (cxOf (L2N.CX P w) P w K mg base N_instances "_law_instances" (defScope s_instances) (df_instances.at_ K) cdv A fr s H E).env (cxOf (L2N.CX P w) P w K mg base N_instances "_law_instances" (defScope s_instances) (df_instances.at_ K) cdv A fr s H E).xe := passes_of rfl
  have S := sc_instances
  exact (jss_cons (js_set (i := 1) S.nd rfl (Or.inl rfl) (je_lst (ja_cons (je_callB call_isC (isxD_ok Fx.isx) (by rfl) Fx.b_isinstance (by decide +kernel) (ja_cons (je_var 0) (ja_cons (je_cls (c := 13) rfl Fx.k_NotABoard (by rfl)) ja_nil))) (ja_cons (je_callB call_isC (isxD_ok Fx.isx) (by rfl) Fx.b_isinstance (by decide +kernel) (ja_cons (je_var 0) (ja_cons (je_cls (c := 14) rfl Fx.k_NotAHistory (by rfl)) ja_nil))) (ja_cons (je_callB call_isC (isxD_ok Fx.isx) (by rfl) Fx.b_isinstance (by decide +kernel) (ja_cons (je_var 0) (ja_cons (je_cls (c := 15) rfl Fx.k_NotAGame (by rfl)) ja_nil))) ja_nil))))) (jss_cons (js_set (i := 1) S.nd rfl (Or.inl rfl) (je_op op_addD addD_ok (je_var 1) (je_lst (ja_cons (je_callB call_isC (isxD_ok Fx.isx) (by rfl) Fx.b_isinstance (by decide +kernel) (ja_cons (je_var 0) (ja_cons (je_cls (c := 16) rfl Fx.k_InvalidLetters (by rfl)) ja_nil))) (ja_cons (je_callB call_isC (isxD_ok Fx.isx) (by rfl) Fx.b_isinstance (by decide +kernel) (ja_cons (je_var 0) (ja_cons (je_cls (c := 17) rfl Fx.k_InvalidLength (by rfl)) ja_nil))) (ja_cons (je_callB call_isC (isxD_ok Fx.isx) (by rfl) Fx.b_isinstance (by decide +kernel) (ja_cons (je_var 0) (ja_cons (je_cls (c := 18) rfl Fx.k_InvalidWord (by rfl)) ja_nil))) ja_nil)))))) (jss_cons (js_set (i := 1) S.nd rfl (Or.inl rfl) (je_op op_addD addD_ok (je_var 1) (je_lst (ja_cons (je_callB call_isC (isxD_ok Fx.isx) (by rfl) Fx.b_isinstance (by decide +kernel) (ja_cons (je_var 0) (ja_cons (je_cls (c := 19) rfl Fx.k_InvalidMarks (by rfl)) ja_nil))) (ja_cons (je_callB call_isC (isxD_ok Fx.isx) (by rfl) Fx.b_isinstance (by decide +kernel) (ja_cons (je_var 0) (ja_cons (je_cls (c := 21) rfl Fx.k_InvalidFact (by rfl)) ja_nil))) (ja_cons (je_callB call_isC (isxD_ok Fx.isx) (by rfl) Fx.b_isinstance (by decide +kernel) (ja_cons (je_var 0) (ja_cons (je_cls (c := 23) rfl Fx.k_InvalidNumber (by rfl)) ja_nil))) ja_nil)))))) (jss_cons (js_set (i := 1) S.nd rfl (Or.inl rfl) (je_op op_addD addD_ok (je_var 1) (je_lst (ja_cons (je_callB call_isC (isxD_ok Fx.isx) (by rfl) Fx.b_isinstance (by decide +kernel) (ja_cons (je_var 0) (ja_cons (je_cls (c := 24) rfl Fx.k_InvalidPlace (by rfl)) ja_nil))) (ja_cons (je_callB call_isC (isxD_ok Fx.isx) (by rfl) Fx.b_isinstance (by decide +kernel) (ja_cons (je_var 0) (ja_cons (je_cls (c := 27) rfl Fx.k_InvalidLine (by rfl)) ja_nil))) (ja_cons (je_callB call_isC (isxD_ok Fx.isx) (by rfl) Fx.b_isinstance (by decide +kernel) (ja_cons (je_var 0) (ja_cons (je_cls (c := 20) rfl Fx.k_InvalidRows (by rfl)) ja_nil))) ja_nil)))))) (jss_cons (js_set (i := 1) S.nd rfl (Or.inl rfl) (je_op op_addD addD_ok (je_var 1) (je_lst (ja_cons (je_callB call_isC (isxD_ok Fx.isx) (by rfl) Fx.b_isinstance (by decide +kernel) (ja_cons (je_var 0) (ja_cons (je_cls (c := 22) rfl Fx.k_InvalidFacts (by rfl)) ja_nil))) (ja_cons (je_callB call_isC (isxD_ok Fx.isx) (by rfl) Fx.b_isinstance (by decide +kernel) (ja_cons (je_var 0) (ja_cons (je_cls (c := 25) rfl Fx.k_InvalidGuesses (by rfl)) ja_nil))) (ja_cons (je_callB call_isC (isxD_ok Fx.isx) (by rfl) Fx.b_isinstance (by decide +kernel) (ja_cons (je_var 0) (ja_cons (je_cls (c := 26) rfl Fx.k_InvalidDeeds (by rfl)) ja_nil))) ja_nil)))))) (jss_cons (js_set (i := 1) S.nd rfl (Or.inl rfl) (je_op op_addD addD_ok (je_var 1) (je_lst (ja_cons (je_callB call_isC (isxD_ok Fx.isx) (by rfl) Fx.b_isinstance (by decide +kernel) (ja_cons (je_var 0) (ja_cons (je_cls (c := 28) rfl Fx.k_Mismatch (by rfl)) ja_nil))) (ja_cons (je_callB call_isC (isxD_ok Fx.isx) (by rfl) Fx.b_isinstance (by decide +kernel) (ja_cons (je_var 0) (ja_cons (je_cls (c := 29) rfl Fx.k_NoWord (by rfl)) ja_nil))) (ja_cons (je_callB call_isC (isxD_ok Fx.isx) (by rfl) Fx.b_isinstance (by decide +kernel) (ja_cons (je_var 0) (ja_cons (je_cls (c := 30) rfl Fx.k_NothingToUndo (by rfl)) ja_nil))) ja_nil)))))) (jss_cons (js_set (i := 1) S.nd rfl (Or.inl rfl) (je_op op_addD addD_ok (je_var 1) (je_lst (ja_cons (je_callB call_isC (isxD_ok Fx.isx) (by rfl) Fx.b_isinstance (by decide +kernel) (ja_cons (je_var 0) (ja_cons (je_cls (c := 31) rfl Fx.k_Busy (by rfl)) ja_nil))) (ja_cons (je_callB call_isC (isxD_ok Fx.isx) (by rfl) Fx.b_isinstance (by decide +kernel) (ja_cons (je_var 0) (ja_cons (je_cls (c := 32) rfl Fx.k_WordNotLeft (by rfl)) ja_nil))) (ja_cons (je_callB call_isC (isxD_ok Fx.isx) (by rfl) Fx.b_isinstance (by decide +kernel) (ja_cons (je_var 0) (ja_cons (je_cls (c := 33) rfl Fx.k_GuessNotLeft (by rfl)) ja_nil))) ja_nil)))))) (jss_cons (js_set (i := 1) S.nd rfl (Or.inl rfl) (je_op op_addD addD_ok (je_var 1) (je_lst (ja_cons (je_callB call_isC (isxD_ok Fx.isx) (by rfl) Fx.b_isinstance (by decide +kernel) (ja_cons (je_var 0) (ja_cons (je_cls (c := 34) rfl Fx.k_TooManyRows (by rfl)) ja_nil))) ja_nil)))) (jss_one (js_ret (je_bm (Ty := .l) PySem.F.plainAttrs_list PySem.F.slot_list_count PySem.F.type_list_count mt_cntB bolCnt_ok (je_var 1) (ja_cons je_bl ja_nil))))))))))))
theorem g_instances {P : Program} {w : World} {K : PySem.W.Frag} {mg : Str → Option Value} {base : Heap} (Fx : FX K mg) : Good P w TT K mg base 1 "_law_instances" ["_law_e"] d_instances := Fx.d_instances.elim fun fd F => ⟨fd, w_instances Fx F, F.bindsN fun _ _ _ _ _ _ us hl => match us, hl with | [_], _ => rfl, Fx.m_instances, F.kp⟩
abbrev N_right : List Str := ["_law_bowl_here", "_law_thing", "_law_states", "_law_kept", "_law_groups", "_law_told", "_law_values", "_law_places", "_law_named", "_law_sizes", "_law_group", "_law_due", "_law_e"]
theorem sc_right : FnScope N_right ["_law_bowl_here"] (defScope s_right) := ⟨rfl, rfl, rfl, by decide +kernel, rfl, by decide +kernel, by decide +kernel⟩
def is_right : IS := (sSeq (sAsg 1 (iCall 2 d_of (iCons (iVar 0) (iCons (iLst (iCons (iC .non) (iCons (iC (.int 0)) (iCons (iC (.bl false)) (iCons (iC (.str [120])) (iCons (iTup (iCons (iC (.int 2)) (iCons (iC (.str [121])) iNil))) (iCons (iLst (iCons (iC (.int 3)) iNil)) (iCons iDct0 (iCons (iOp powI (iC (.int 10)) (iC (.int 19))) (iCons (iTup iNil) (iCons (iNegC 7) iNil))))))))))) iNil)))) (sSeq (sAsgG (.t [6, 7]) (iCall 1 d_value_errors (iCons (iVar 1) iNil))) (sSeq (sAsgG (.t [8, 9]) (iCall 1 d_state_errors (iCons (iVar 1) iNil))) (sSeq (sAsg 2 (iLst (iCons (iExn0 28) (iCons (iExn0 29) (iCons (iExn0 30) (iCons (iExn0 31) iNil)))))) (sSeq (sAsg 3 (iOp addD (iOp addD (iLc (iItems (iOp addD (iVar 6) (iVar 8))) (.n 12) iYes (iXf [13, 14, 15, 16, 17, 18, 19, 21, 23, 24, 27, 32, 33] 19 (iVar 12)) [12]) (iLc (iItems (iVar 7)) (.n 12) iYes (iXf [20, 22, 25, 26] 20 (iVar 12)) [12])) (iLc (iItems (iVar 9)) (.n 12) iYes (iXf [34] 21 (iVar 12)) [12]))) (sSeq (sIf (iOr (iTst (iOp neD (iCB reprD (iCons (iVar 3) iNil)) (iCB reprD (iCons (iOp mulD (iLst (iCons (iVar 1) iNil)) (iCB lenD (iCons (iVar 3) iNil))) iNil)))) (iTst (iOp neD (iLst (iCons (iCB lenD (iCons (iVar 6) iNil)) (iCons (iCB lenD (iCons (iVar 7) iNil)) iNil))) (iLst (iCons (iC (.int 22)) (iCons (iC (.int 8)) iNil)))))) (sRet (iC (.bl false))) sNext) (sSeq (sAsg 4 (iLst (iCons (iTup (iCons (iOp addD (iVar 6) (iVar 7)) (iCons (iLst (iCons (iC (.int 0)) (iCons (iC (.int 3)) iNil))) iNil))) (iCons (iTup (iCons (iOp addD (iVar 8) (iVar 2)) (iCons (iLst (iCons (iC (.int 1)) (iCons (iC (.int 4)) iNil))) iNil))) (iCons (iTup (iCons (iVar 9) (iCons (iLst (iCons (iC (.int 2)) (iCons (iC (.int 5)) iNil))) iNil))) iNil))))) (sSeq (sFor (iItems (iVar 4)) (.t [10, 11]) (sIf (iNot (iTst (iCB allD (iCons (iLc (iItems (iVar 10)) (.n 12) iYes (iAndV (iOp eqD (iCall 1 d_bases (iCons (iVar 12) iNil)) (iVar 11)) (iOp eqD (iCall 1 d_instances (iCons (iVar 12) iNil)) (iC (.int 1)))) [12]) iNil)))) (sRet (iC (.bl false))) sNext)) (sSeq (sAsg 5 (iLst (iCons (iC (.int 6)) (iCons (iC (.int 26)) (iCons (iC (.int 20)) (iCons (iC (.int 20)) (iCons (iC (.int 4)) (iCons (iC (.int 10)) iNil)))))))) (sRet (iOp eqD (iVar 5) (iLst (iCons (iC (.int 6)) (iCons (iC (.int 26)) (iCons (iC (.int 20)) (iCons (iC (.int 20)) (iCons (iC (.int 4)) (iCons (iC (.int 10)) iNil))))))))))))))))))
def d_right : List D → M D := defJ 13 false is_right
theorem w_right {P : Program} {w : World} {K : PySem.W.Frag} {mg : Str → Option Value} {base : Heap} (Fx : FX K mg) {fd : FuncData} (F : df_right.Fun K fd) : FnG P w K mg base 4 (df_right.at_ K) fd ["_law_bowl_here"] (spJ TT K 1 d_right) := by
  refine fn_j (T := TT) false F sc_right (fun cdv A fr s H E room gd => ?_)
  have hr : Rg 3 (cxOf (L2N.CX P w) P w K mg base N_right "_law_right" (defScope s_right) (df_right.at_ K) cdv A fr s H E).A := ⟨room, gd⟩
  have tk : L2N.Takes (cxOf (L2N.CX P w) P w K mg base N_right "_law_right" (defScope s_right) (df_right.at_ K) cdv A fr s H E) (fun c d _ H => E c d H) := L2N.takes_of rfl rfl rfl rfl
  have po : PassesOwn (model P w) (cxOf (L2N.CX P w) P w K mg base N_right "_law_right" (defScope s_right) (df_right.at_ K) cdv A fr s H E).A (cxOf (L2N.CX P w) P w K mg base N_right "_law_right" (defScope s_right) (df_right.at_ K) cdv A fr s H E).env (cxOf (L2N.CX P w) P w K mg base N_right "_law_right" (defScope s_right) (df_right.at_ K) cdv A fr s H E).xe := passes_of rfl
  have S := sc_right
  exact (jss_cons (js_set (i := 1) S.nd rfl (Or.inl rfl) (je_call (g_of Fx) (hr.mono (by decide)) (by rfl) tk (ja_cons (je_var 0) (ja_cons (je_lst (ja_cons je_non (ja_cons je_int (ja_cons je_bl (ja_cons (je_str (l := [120])) (ja_cons (je_tup (ja_cons je_int (ja_cons (je_str (l := [121])) ja_nil))) (ja_cons (je_lst (ja_cons je_int ja_nil)) (ja_cons je_dct0 (ja_cons (je_op op_pow powI_ok je_int je_int) (ja_cons (je_tup ja_nil) (ja_cons je_neg ja_nil))))))))))) ja_nil)))) (jss_cons (js_asg (je_call (g_value_errors Fx) (hr.mono (by decide)) (by rfl) tk (ja_cons (je_var 1) ja_nil)) (jg_tup rfl (jgs_cons (i := 6) S.nd rfl (Or.inl rfl) (jgs_cons (i := 7) S.nd rfl (Or.inl rfl) jgs_nil)))) (jss_cons (js_asg (je_call (g_state_errors Fx) (hr.mono (by decide)) (by rfl) tk (ja_cons (je_var 1) ja_nil)) (jg_tup rfl (jgs_cons (i := 8) S.nd rfl (Or.inl rfl) (jgs_cons (i := 9) S.nd rfl (Or.inl rfl) jgs_nil)))) (jss_cons (js_set (i := 2) S.nd rfl (Or.inl rfl) (je_lst (ja_cons (je_exn0 (T := TT) (c := 28) base_L Fx.r_Mismatch Fx.k_Mismatch (by rfl) rfl) (ja_cons (je_exn0 (T := TT) (c := 29) base_L Fx.r_NoWord Fx.k_NoWord (by rfl) rfl) (ja_cons (je_exn0 (T := TT) (c := 30) base_L Fx.r_NothingToUndo Fx.k_NothingToUndo (by rfl) rfl) (ja_cons (je_exn0 (T := TT) (c := 31) base_L Fx.r_Busy Fx.k_Busy (by rfl) rfl) ja_nil)))))) (jss_cons (js_set (i := 3) S.nd rfl (Or.inl rfl) (je_op op_addD addD_ok (je_op op_addD addD_ok (je_lc (own := [("_law_e", 12)]) (g := (.n 12)) rfl S.nd (ji_items (je_op op_addD addD_ok (je_var 6) (je_var 8))) (blkOk_by (by kernel_rfl)) (fun _ _ _ _ _ => (jg_name (i := 12) S.nd rfl (Or.inl rfl))) (fun _ _ _ _ _ => jts_nil) (fun _ _ _ _ _ => (je_xf (cs := [13, 14, 15, 16, 17, 18, 19, 21, 23, 24, 27, 32, 33]) (f := 19) (je_var 12) Fx.y_value (by rfl)))) (je_lc (own := [("_law_e", 12)]) (g := (.n 12)) rfl S.nd (ji_items (je_var 7)) (blkOk_by (by kernel_rfl)) (fun _ _ _ _ _ => (jg_name (i := 12) S.nd rfl (Or.inl rfl))) (fun _ _ _ _ _ => jts_nil) (fun _ _ _ _ _ => (je_xf (cs := [20, 22, 25, 26]) (f := 20) (je_var 12) Fx.y_index (by rfl))))) (je_lc (own := [("_law_e", 12)]) (g := (.n 12)) rfl S.nd (ji_items (je_var 9)) (blkOk_by (by kernel_rfl)) (fun _ _ _ _ _ => (jg_name (i := 12) S.nd rfl (Or.inl rfl))) (fun _ _ _ _ _ => jts_nil) (fun _ _ _ _ _ => (je_xf (cs := [34]) (f := 21) (je_var 12) Fx.y_limit (by rfl)))))) (jss_cons (js_if (jt_w (jw_or (jt_cmp (op_neJ hr) neD_ok (je_callB (call_reprD hr) reprD_ok (by rfl) Fx.b_repr (by decide +kernel) (ja_cons (je_var 3) ja_nil)) (je_callB (call_reprD hr) reprD_ok (by rfl) Fx.b_repr (by decide +kernel) (ja_cons (je_op op_mulD mulD_ok (je_lst (ja_cons (je_var 1) ja_nil)) (je_callB call_len lenD_ok (by rfl) Fx.b_len (by decide +kernel) (ja_cons (je_var 3) ja_nil))) ja_nil)) (nomark _)) (jw_or1 (jt_cmp (op_neJ hr) neD_ok (je_lst (ja_cons (je_callB call_len lenD_ok (by rfl) Fx.b_len (by decide +kernel) (ja_cons (je_var 6) ja_nil)) (ja_cons (je_callB call_len lenD_ok (by rfl) Fx.b_len (by decide +kernel) (ja_cons (je_var 7) ja_nil)) ja_nil))) (je_lst (ja_cons je_int (ja_cons je_int ja_nil))) (nomark _))))) (jss_one (js_ret je_bl)) jss_nil) (jss_cons (js_set (i := 4) S.nd rfl (Or.inl rfl) (je_lst (ja_cons (je_tup (ja_cons (je_op op_addD addD_ok (je_var 6) (je_var 7)) (ja_cons (je_lst (ja_cons je_int (ja_cons je_int ja_nil))) ja_nil))) (ja_cons (je_tup (ja_cons (je_op op_addD addD_ok (je_var 8) (je_var 2)) (ja_cons (je_lst (ja_cons je_int (ja_cons je_int ja_nil))) ja_nil))) (ja_cons (je_tup (ja_cons (je_var 9) (ja_cons (je_lst (ja_cons je_int (ja_cons je_int ja_nil))) ja_nil))) ja_nil))))) (jss_cons (js_for po rfl (ji_items (je_var 4)) (jg_tup rfl (jgs_cons (i := 10) S.nd rfl (Or.inl rfl) (jgs_cons (i := 11) S.nd rfl (Or.inr rfl) jgs_nil))) (jss_one (js_if (jt_not (jt_val (je_callB (cr_all rfl) allD_ok (by rfl) Fx.b_all (by decide +kernel) (ja_cons (je_lc (own := [("_law_e", 12)]) (g := (.n 12)) rfl S.nd (ji_items (je_var 10)) (blkOk_by (by kernel_rfl)) (fun _ _ _ _ _ => (jg_name (i := 12) S.nd rfl (Or.inl rfl))) (fun _ _ _ _ _ => jts_nil) (fun _ _ _ _ _ => (je_and (je_cmp (op_eqJ hr) eqD_ok (je_call (g_bases Fx) (hr.mono (by decide)) (by rfl) tk0 (ja_cons (je_var 12) ja_nil)) (je_var 11) (nomark _)) (je_one (je_cmp (op_eqJ hr) eqD_ok (je_call (g_instances Fx) (hr.mono (by decide)) (by rfl) tk0 (ja_cons (je_var 12) ja_nil)) je_int (nomark _)))))) ja_nil)))) (jss_one (js_ret je_bl)) jss_nil))) (jss_cons (js_set (i := 5) S.nd rfl (Or.inl rfl) (je_lst (ja_cons (je_gint rfl Fx.c_MOST_LENGTH) (ja_cons (je_gint rfl Fx.c_MOST_LETTERS) (ja_cons (je_gint rfl Fx.c_MOST_ROWS) (ja_cons (je_gint rfl Fx.c_MOST_GUESSES) (ja_cons (je_gint rfl Fx.c_MOST_FACTS) (ja_cons (je_gint rfl Fx.c_MOST_MENDED) ja_nil)))))))) (jss_one (js_ret (je_cmp (op_eqJ hr) eqD_ok (je_var 5) (je_lst (ja_cons je_int (ja_cons je_int (ja_cons je_int (ja_cons je_int (ja_cons je_int (ja_cons je_int ja_nil))))))) (nomark _)))))))))))))
theorem g_right {P : Program} {w : World} {K : PySem.W.Frag} {mg : Str → Option Value} {base : Heap} (Fx : FX K mg) : Good P w TT K mg base 4 "_law_right" ["_law_bowl_here"] d_right := Fx.d_right.elim fun fd F => ⟨fd, w_right Fx F, F.bindsN fun _ _ _ _ _ _ us hl => match us, hl with | [_], _ => rfl, Fx.m_right, F.kp⟩
abbrev N_law : List Str := ["_law_script", "_law_k"]
theorem sc_law : FnScope N_law ["_law_script"] (defScope s_law) := ⟨rfl, rfl, rfl, by decide +kernel, rfl, by decide +kernel, by decide +kernel⟩
def is_law : IS := (sRet (iCB allD (iCons (iLc (iRange range1 (iCons (iCB max2 (iCons (iC (.int 2)) (iCons (iCB min2 (iCons (iCB lenD (iCons (iVar 0) iNil)) (iCons (iC (.int 6)) iNil))) iNil))) iNil)) (.n 1) iYes (iCall 1 d_right (iCons (iCall 2 d_bowl (iCons (iVar 0) (iCons (iVar 1) iNil))) iNil)) [1]) iNil)))
def d_law : List D → M D := defJ 2 false is_law
theorem w_law {P : Program} {w : World} {K : PySem.W.Frag} {mg : Str → Option Value} {base : Heap} (Fx : FX K mg) {fd : FuncData} (F : df_law.Fun K fd) : FnG P w K mg base 5 (df_law.at_ K) fd ["_law_script"] (spJ TT K 1 d_law) := by
  refine fn_j (T := TT) false F sc_law (fun cdv A fr s H E room gd => ?_)
  have hr : Rg 4 (cxOf (L2N.CX P w) P w K mg base N_law "law" (defScope s_law) (df_law.at_ K) cdv A fr s H E).A := ⟨room, gd⟩
  have tk : L2N.Takes (cxOf (L2N.CX P w) P w K mg base N_law "law" (defScope s_law) (df_law.at_ K) cdv A fr s H E) (fun c d _ H => E c d H) := L2N.takes_of rfl rfl rfl rfl
  have po : PassesOwn (model P w) (cxOf (L2N.CX P w) P w K mg base N_law "law" (defScope s_law) (df_law.at_ K) cdv A fr s H E).A (cxOf (L2N.CX P w) P w K mg base N_law "law" (defScope s_law) (df_law.at_ K) cdv A fr s H E).env (cxOf (L2N.CX P w) P w K mg base N_law "law" (defScope s_law) (df_law.at_ K) cdv A fr s H E).xe := passes_of rfl
  have S := sc_law
  exact (jss_one (js_ret (je_callB (cr_all rfl) allD_ok (by rfl) Fx.b_all (by decide +kernel) (ja_cons (je_lc (own := [("_law_k", 1)]) (g := (.n 1)) rfl S.nd (ji_range1 (by rfl) Fx.b_range (ja_cons (je_callB (call_max2 rfl) max2_ok (by rfl) Fx.b_max (by decide +kernel) (ja_cons je_int (ja_cons (je_callB (call_min2 rfl) min2_ok (by rfl) Fx.b_min (by decide +kernel) (ja_cons (je_callB call_len lenD_ok (by rfl) Fx.b_len (by decide +kernel) (ja_cons (je_var 0) ja_nil)) (ja_cons je_int ja_nil))) ja_nil))) ja_nil)) (blkOk_by (by kernel_rfl)) (fun _ _ _ _ _ => (jg_name (i := 1) S.nd rfl (Or.inl rfl))) (fun _ _ _ _ _ => jts_nil) (fun _ _ _ _ _ => (je_call (g_right Fx) (hr.mono (by decide)) (by rfl) tk0 (ja_cons (je_call (g_bowl Fx) (hr.mono (by decide)) (by rfl) tk0 (ja_cons (je_var 0) (ja_cons (je_var 1) ja_nil))) ja_nil)))) ja_nil))))
theorem facts {K : PySem.W.Frag} {h : Heap} {mg : Str → Option Value} (X : K.In h) (G : h.Ns mainGlobals mg) (says : SaysZ ex fn K) : FX K mg := by
  obtain ⟨e0, e1⟩ := Bool.and_eq_true_iff.mp says.fact
  obtain ⟨x0, e2⟩ := Bool.and_eq_true_iff.mp e1
  obtain ⟨x1, e3⟩ := Bool.and_eq_true_iff.mp e2
  obtain ⟨x2, e4⟩ := Bool.and_eq_true_iff.mp e3
  obtain ⟨x3, e5⟩ := Bool.and_eq_true_iff.mp e4
  obtain ⟨x4, e6⟩ := Bool.and_eq_true_iff.mp e5
  obtain ⟨x5, e7⟩ := Bool.and_eq_true_iff.mp e6
  obtain ⟨x6, e8⟩ := Bool.and_eq_true_iff.mp e7
  obtain ⟨x7, e9⟩ := Bool.and_eq_true_iff.mp e8
  obtain ⟨x8, e10⟩ := Bool.and_eq_true_iff.mp e9
  obtain ⟨x9, e11⟩ := Bool.and_eq_true_iff.mp e10
  obtain ⟨x10, e12⟩ := Bool.and_eq_true_iff.mp e11
  obtain ⟨x11, e13⟩ := Bool.and_eq_true_iff.mp e12
  obtain ⟨x12, e14⟩ := Bool.and_eq_true_iff.mp e13
  obtain ⟨x13, e15⟩ := Bool.and_eq_true_iff.mp e14
  obtain ⟨x14, e16⟩ := Bool.and_eq_true_iff.mp e15
  obtain ⟨x15, e17⟩ := Bool.and_eq_true_iff.mp e16
  obtain ⟨x16, e18⟩ := Bool.and_eq_true_iff.mp e17
  obtain ⟨x17, e19⟩ := Bool.and_eq_true_iff.mp e18
  obtain ⟨x18, e20⟩ := Bool.and_eq_true_iff.mp e19
  obtain ⟨x19, e21⟩ := Bool.and_eq_true_iff.mp e20
  obtain ⟨x20, e22⟩ := Bool.and_eq_true_iff.mp e21
  obtain ⟨x21, e23⟩ := Bool.and_eq_true_iff.mp e22
  obtain ⟨x22, e24⟩ := Bool.and_eq_true_iff.mp e23
  obtain ⟨x23, e25⟩ := Bool.and_eq_true_iff.mp e24
  obtain ⟨x24, e26⟩ := Bool.and_eq_true_iff.mp e25
  obtain ⟨x25, e27⟩ := Bool.and_eq_true_iff.mp e26
  obtain ⟨x26, e28⟩ := Bool.and_eq_true_iff.mp e27
  obtain ⟨x27, e29⟩ := Bool.and_eq_true_iff.mp e28
  obtain ⟨x28, e30⟩ := Bool.and_eq_true_iff.mp e29
  have x29 := e30
  have at_ : ∀ (i : Nat) {f : He.Fa}, fa[i]? = some f → f.ok K = true := fun i f e => List.all_eq_true.mp e0 f (List.mem_of_getElem? e)
  have z_b_ArithmeticError : mg "ArithmeticError" = none := He.free_ok X G (at_ 0 rfl)
  have z_b_LookupError : mg "LookupError" = none := He.free_ok X G (at_ 1 rfl)
  have z_b_ValueError : mg "ValueError" = none := He.free_ok X G (at_ 2 rfl)
  have z_b_abs : mg "abs" = none := He.free_ok X G (at_ 3 rfl)
  have z_b_all : mg "all" = none := He.free_ok X G (at_ 4 rfl)
  have z_b_divmod : mg "divmod" = none := He.free_ok X G (at_ 5 rfl)
  have z_b_int : mg "int" = none := He.free_ok X G (at_ 6 rfl)
  have z_b_isinstance : mg "isinstance" = none := He.free_ok X G (at_ 7 rfl)
  have z_b_len : mg "len" = none := He.free_ok X G (at_ 8 rfl)
  have z_b_max : mg "max" = none := He.free_ok X G (at_ 9 rfl)
  have z_b_min : mg "min" = none := He.free_ok X G (at_ 10 rfl)
  have z_b_range : mg "range" = none := He.free_ok X G (at_ 11 rfl)
  have z_b_repr : mg "repr" = none := He.free_ok X G (at_ 12 rfl)
  have z_c_MOST_FACTS : ∃ t, mg "MOST_FACTS" = some (.int 4 t) := He.int_ok X G (at_ 13 rfl)
  have z_c_MOST_GUESSES : ∃ t, mg "MOST_GUESSES" = some (.int 20 t) := He.int_ok X G (at_ 14 rfl)
  have z_c_MOST_LENGTH : ∃ t, mg "MOST_LENGTH" = some (.int 6 t) := He.int_ok X G (at_ 15 rfl)
  have z_c_MOST_LETTERS : ∃ t, mg "MOST_LETTERS" = some (.int 26 t) := He.int_ok X G (at_ 16 rfl)
  have z_c_MOST_MENDED : ∃ t, mg "MOST_MENDED" = some (.int 10 t) := He.int_ok X G (at_ 17 rfl)
  have z_c_MOST_ROWS : ∃ t, mg "MOST_ROWS" = some (.int 20 t) := He.int_ok X G (at_ 18 rfl)
  have z_k_InputError : mg (TT.cn 10) = some (.ref (He.ga K (TT.cn 10))) := He.glo_ok X G (at_ 19 rfl)
  have z_k_StateError : mg (TT.cn 11) = some (.ref (He.ga K (TT.cn 11))) := He.glo_ok X G (at_ 20 rfl)
  have z_k_SizeError : mg (TT.cn 12) = some (.ref (He.ga K (TT.cn 12))) := He.glo_ok X G (at_ 21 rfl)
  have z_k_NotABoard : mg (TT.cn 13) = some (.ref (He.ga K (TT.cn 13))) := He.glo_ok X G (at_ 22 rfl)
  have z_k_NotAHistory : mg (TT.cn 14) = some (.ref (He.ga K (TT.cn 14))) := He.glo_ok X G (at_ 23 rfl)
  have z_k_NotAGame : mg (TT.cn 15) = some (.ref (He.ga K (TT.cn 15))) := He.glo_ok X G (at_ 24 rfl)
  have z_k_InvalidLetters : mg (TT.cn 16) = some (.ref (He.ga K (TT.cn 16))) := He.glo_ok X G (at_ 25 rfl)
  have z_k_InvalidLength : mg (TT.cn 17) = some (.ref (He.ga K (TT.cn 17))) := He.glo_ok X G (at_ 26 rfl)
  have z_k_InvalidWord : mg (TT.cn 18) = some (.ref (He.ga K (TT.cn 18))) := He.glo_ok X G (at_ 27 rfl)
  have z_k_InvalidMarks : mg (TT.cn 19) = some (.ref (He.ga K (TT.cn 19))) := He.glo_ok X G (at_ 28 rfl)
  have z_k_InvalidRows : mg (TT.cn 20) = some (.ref (He.ga K (TT.cn 20))) := He.glo_ok X G (at_ 29 rfl)
  have z_k_InvalidFact : mg (TT.cn 21) = some (.ref (He.ga K (TT.cn 21))) := He.glo_ok X G (at_ 30 rfl)
  have z_k_InvalidFacts : mg (TT.cn 22) = some (.ref (He.ga K (TT.cn 22))) := He.glo_ok X G (at_ 31 rfl)
  have z_k_InvalidNumber : mg (TT.cn 23) = some (.ref (He.ga K (TT.cn 23))) := He.glo_ok X G (at_ 32 rfl)
  have z_k_InvalidPlace : mg (TT.cn 24) = some (.ref (He.ga K (TT.cn 24))) := He.glo_ok X G (at_ 33 rfl)
  have z_k_InvalidGuesses : mg (TT.cn 25) = some (.ref (He.ga K (TT.cn 25))) := He.glo_ok X G (at_ 34 rfl)
  have z_k_InvalidDeeds : mg (TT.cn 26) = some (.ref (He.ga K (TT.cn 26))) := He.glo_ok X G (at_ 35 rfl)
  have z_k_InvalidLine : mg (TT.cn 27) = some (.ref (He.ga K (TT.cn 27))) := He.glo_ok X G (at_ 36 rfl)
  have z_k_Mismatch : mg (TT.cn 28) = some (.ref (He.ga K (TT.cn 28))) := He.glo_ok X G (at_ 37 rfl)
  have z_k_NoWord : mg (TT.cn 29) = some (.ref (He.ga K (TT.cn 29))) := He.glo_ok X G (at_ 38 rfl)
  have z_k_NothingToUndo : mg (TT.cn 30) = some (.ref (He.ga K (TT.cn 30))) := He.glo_ok X G (at_ 39 rfl)
  have z_k_Busy : mg (TT.cn 31) = some (.ref (He.ga K (TT.cn 31))) := He.glo_ok X G (at_ 40 rfl)
  have z_k_WordNotLeft : mg (TT.cn 32) = some (.ref (He.ga K (TT.cn 32))) := He.glo_ok X G (at_ 41 rfl)
  have z_k_GuessNotLeft : mg (TT.cn 33) = some (.ref (He.ga K (TT.cn 33))) := He.glo_ok X G (at_ 42 rfl)
  have z_k_TooManyRows : mg (TT.cn 34) = some (.ref (He.ga K (TT.cn 34))) := He.glo_ok X G (at_ 43 rfl)
  have z_isk : IsK TT K CS TB := ⟨fun c hc => clsTB_ok (List.all_eq_true.mp x0 c hc), fun q hq => of_decide_eq_true (List.all_eq_true.mp x1 q hq)⟩
  have z_tr : ∀ c ∈ CT, PlainTru K (He.ga K (TT.cn c)) := fun c hc => plainTB_ok (List.all_eq_true.mp x2 c hc)
  have z_r_Mismatch : ExN K "Mismatch" tlL "LookupError.__new__" := exNB_ok x3
  have z_r_NoWord : ExN K "NoWord" tlL "LookupError.__new__" := exNB_ok x4
  have z_r_NothingToUndo : ExN K "NothingToUndo" tlL "LookupError.__new__" := exNB_ok x5
  have z_r_Busy : ExN K "Busy" tlL "LookupError.__new__" := exNB_ok x6
  have z_r_NotABoard : ExIT K "NotABoard" "value" [.type "ValueError", .type "Exception", .type "BaseException", .type "object"] "ValueError.__new__" := exITB_ok x7
  have z_r_NotAHistory : ExIT K "NotAHistory" "value" [.type "ValueError", .type "Exception", .type "BaseException", .type "object"] "ValueError.__new__" := exITB_ok x8
  have z_r_NotAGame : ExIT K "NotAGame" "value" [.type "ValueError", .type "Exception", .type "BaseException", .type "object"] "ValueError.__new__" := exITB_ok x9
  have z_r_InvalidLetters : ExIT K "InvalidLetters" "value" [.type "ValueError", .type "Exception", .type "BaseException", .type "object"] "ValueError.__new__" := exITB_ok x10
  have z_r_InvalidLength : ExIT K "InvalidLength" "value" [.type "ValueError", .type "Exception", .type "BaseException", .type "object"] "ValueError.__new__" := exITB_ok x11
  have z_r_InvalidWord : ExIT K "InvalidWord" "value" [.type "ValueError", .type "Exception", .type "BaseException", .type "object"] "ValueError.__new__" := exITB_ok x12
  have z_r_InvalidMarks : ExIT K "InvalidMarks" "value" [.type "ValueError", .type "Exception", .type "BaseException", .type "object"] "ValueError.__new__" := exITB_ok x13
  have z_r_InvalidFact : ExIT K "InvalidFact" "value" [.type "ValueError", .type "Exception", .type "BaseException", .type "object"] "ValueError.__new__" := exITB_ok x14
  have z_r_InvalidNumber : ExIT K "InvalidNumber" "value" [.type "ValueError", .type "Exception", .type "BaseException", .type "object"] "ValueError.__new__" := exITB_ok x15
  have z_r_InvalidPlace : ExIT K "InvalidPlace" "value" [.type "ValueError", .type "Exception", .type "BaseException", .type "object"] "ValueError.__new__" := exITB_ok x16
  have z_r_InvalidLine : ExIT K "InvalidLine" "value" [.type "ValueError", .type "Exception", .type "BaseException", .type "object"] "ValueError.__new__" := exITB_ok x17
  have z_r_InvalidRows : ExIT K "InvalidRows" "index" [.type "ValueError", .type "Exception", .type "BaseException", .type "object"] "ValueError.__new__" := exITB_ok x18
  have z_r_InvalidFacts : ExIT K "InvalidFacts" "index" [.type "ValueError", .type "Exception", .type "BaseException", .type "object"] "ValueError.__new__" := exITB_ok x19
  have z_r_InvalidGuesses : ExIT K "InvalidGuesses" "index" [.type "ValueError", .type "Exception", .type "BaseException", .type "object"] "ValueError.__new__" := exITB_ok x20
  have z_r_InvalidDeeds : ExIT K "InvalidDeeds" "index" [.type "ValueError", .type "Exception", .type "BaseException", .type "object"] "ValueError.__new__" := exITB_ok x21
  have z_r_WordNotLeft : ExIT K "WordNotLeft" "value" tlL "LookupError.__new__" := exITB_ok x22
  have z_r_GuessNotLeft : ExIT K "GuessNotLeft" "value" tlL "LookupError.__new__" := exITB_ok x23
  have z_r_TooManyRows : ExIT K "TooManyRows" "limit" tlA "ArithmeticError.__new__" := exITB_ok x24
  have z_isx : IsX TT K TBX := ⟨fun p hp => excCB_ok (List.all_eq_true.mp x25 p.1 (List.contains_iff_mem.mp (List.all_eq_true.mp (show (TBX.all fun q => TSX.contains q.1) = true by decide) p hp))), fun p hp => of_decide_eq_true (List.all_eq_true.mp x26 p hp)⟩
  have z_y_index : ∀ c ∈ ([20, 22, 25, 26] : List Nat), XfC K (He.ga K (TT.cn c)) ∧ PySem.W.findIn K (.ref (He.ga K (TT.cn c))) (TT.fn 20) = some none := fun c hc => ⟨excCB_xf (List.all_eq_true.mp x25 c (List.contains_iff_mem.mp (List.all_eq_true.mp (show (([20, 22, 25, 26] : List Nat).all fun q => TSX.contains q) = true by decide) c hc))), of_decide_eq_true (List.all_eq_true.mp x27 c hc)⟩
  have z_y_limit : ∀ c ∈ ([34] : List Nat), XfC K (He.ga K (TT.cn c)) ∧ PySem.W.findIn K (.ref (He.ga K (TT.cn c))) (TT.fn 21) = some none := fun c hc => ⟨excCB_xf (List.all_eq_true.mp x25 c (List.contains_iff_mem.mp (List.all_eq_true.mp (show (([34] : List Nat).all fun q => TSX.contains q) = true by decide) c hc))), of_decide_eq_true (List.all_eq_true.mp x28 c hc)⟩
  have z_y_value : ∀ c ∈ ([13, 14, 15, 16, 17, 18, 19, 21, 23, 24, 27, 32, 33] : List Nat), XfC K (He.ga K (TT.cn c)) ∧ PySem.W.findIn K (.ref (He.ga K (TT.cn c))) (TT.fn 19) = some none := fun c hc => ⟨excCB_xf (List.all_eq_true.mp x25 c (List.contains_iff_mem.mp (List.all_eq_true.mp (show (([13, 14, 15, 16, 17, 18, 19, 21, 23, 24, 27, 32, 33] : List Nat).all fun q => TSX.contains q) = true by decide) c hc))), of_decide_eq_true (List.all_eq_true.mp x29 c hc)⟩
  have z_d_bowl : ∃ fd, df_bowl.Fun K fd := says.defs _ (List.mem_of_getElem? (i := 0) rfl)
  have z_m_bowl : mg "_law_bowl" = some (.ref (He.ga K "_law_bowl")) := He.glo_ok X G (at_ 44 rfl)
  have z_d_dip : ∃ fd, df_dip.Fun K fd := says.defs _ (List.mem_of_getElem? (i := 1) rfl)
  have z_m_dip : mg "_law_dip" = some (.ref (He.ga K "_law_dip")) := He.glo_ok X G (at_ 45 rfl)
  have z_d_of : ∃ fd, df_of.Fun K fd := says.defs _ (List.mem_of_getElem? (i := 2) rfl)
  have z_m_of : mg "_law_of" = some (.ref (He.ga K "_law_of")) := He.glo_ok X G (at_ 46 rfl)
  have z_d_NotABoard_init : ∃ fd, df_NotABoard_init.Fun K fd := says.defs _ (List.mem_of_getElem? (i := 3) rfl)
  have z_d_NotAHistory_init : ∃ fd, df_NotAHistory_init.Fun K fd := says.defs _ (List.mem_of_getElem? (i := 4) rfl)
  have z_d_NotAGame_init : ∃ fd, df_NotAGame_init.Fun K fd := says.defs _ (List.mem_of_getElem? (i := 5) rfl)
  have z_d_InvalidLetters_init : ∃ fd, df_InvalidLetters_init.Fun K fd := says.defs _ (List.mem_of_getElem? (i := 6) rfl)
  have z_d_InvalidLength_init : ∃ fd, df_InvalidLength_init.Fun K fd := says.defs _ (List.mem_of_getElem? (i := 7) rfl)
  have z_d_InvalidWord_init : ∃ fd, df_InvalidWord_init.Fun K fd := says.defs _ (List.mem_of_getElem? (i := 8) rfl)
  have z_d_InvalidMarks_init : ∃ fd, df_InvalidMarks_init.Fun K fd := says.defs _ (List.mem_of_getElem? (i := 9) rfl)
  have z_d_InvalidFact_init : ∃ fd, df_InvalidFact_init.Fun K fd := says.defs _ (List.mem_of_getElem? (i := 10) rfl)
  have z_d_InvalidNumber_init : ∃ fd, df_InvalidNumber_init.Fun K fd := says.defs _ (List.mem_of_getElem? (i := 11) rfl)
  have z_d_InvalidPlace_init : ∃ fd, df_InvalidPlace_init.Fun K fd := says.defs _ (List.mem_of_getElem? (i := 12) rfl)
  have z_d_InvalidLine_init : ∃ fd, df_InvalidLine_init.Fun K fd := says.defs _ (List.mem_of_getElem? (i := 13) rfl)
  have z_d_InvalidRows_init : ∃ fd, df_InvalidRows_init.Fun K fd := says.defs _ (List.mem_of_getElem? (i := 14) rfl)
  have z_d_InvalidFacts_init : ∃ fd, df_InvalidFacts_init.Fun K fd := says.defs _ (List.mem_of_getElem? (i := 15) rfl)
  have z_d_InvalidGuesses_init : ∃ fd, df_InvalidGuesses_init.Fun K fd := says.defs _ (List.mem_of_getElem? (i := 16) rfl)
  have z_d_InvalidDeeds_init : ∃ fd, df_InvalidDeeds_init.Fun K fd := says.defs _ (List.mem_of_getElem? (i := 17) rfl)
  have z_d_value_errors : ∃ fd, df_value_errors.Fun K fd := says.defs _ (List.mem_of_getElem? (i := 18) rfl)
  have z_m_value_errors : mg "_law_value_errors" = some (.ref (He.ga K "_law_value_errors")) := He.glo_ok X G (at_ 47 rfl)
  have z_d_WordNotLeft_init : ∃ fd, df_WordNotLeft_init.Fun K fd := says.defs _ (List.mem_of_getElem? (i := 19) rfl)
  have z_d_GuessNotLeft_init : ∃ fd, df_GuessNotLeft_init.Fun K fd := says.defs _ (List.mem_of_getElem? (i := 20) rfl)
  have z_d_TooManyRows_init : ∃ fd, df_TooManyRows_init.Fun K fd := says.defs _ (List.mem_of_getElem? (i := 21) rfl)
  have z_d_state_errors : ∃ fd, df_state_errors.Fun K fd := says.defs _ (List.mem_of_getElem? (i := 22) rfl)
  have z_m_state_errors : mg "_law_state_errors" = some (.ref (He.ga K "_law_state_errors")) := He.glo_ok X G (at_ 48 rfl)
  have z_d_bases : ∃ fd, df_bases.Fun K fd := says.defs _ (List.mem_of_getElem? (i := 23) rfl)
  have z_m_bases : mg "_law_bases" = some (.ref (He.ga K "_law_bases")) := He.glo_ok X G (at_ 49 rfl)
  have z_d_instances : ∃ fd, df_instances.Fun K fd := says.defs _ (List.mem_of_getElem? (i := 24) rfl)
  have z_m_instances : mg "_law_instances" = some (.ref (He.ga K "_law_instances")) := He.glo_ok X G (at_ 50 rfl)
  have z_d_right : ∃ fd, df_right.Fun K fd := says.defs _ (List.mem_of_getElem? (i := 25) rfl)
  have z_m_right : mg "_law_right" = some (.ref (He.ga K "_law_right")) := He.glo_ok X G (at_ 51 rfl)
  have z_d_law : ∃ fd, df_law.Fun K fd := says.defs _ (List.mem_of_getElem? (i := 26) rfl)
  have z_m_law : mg "law" = some (.ref (He.ga K "law")) := He.glo_ok X G (at_ 52 rfl)
  exact { b_ArithmeticError := z_b_ArithmeticError, b_LookupError := z_b_LookupError, b_ValueError := z_b_ValueError, b_abs := z_b_abs, b_all := z_b_all, b_divmod := z_b_divmod, b_int := z_b_int, b_isinstance := z_b_isinstance, b_len := z_b_len, b_max := z_b_max, b_min := z_b_min, b_range := z_b_range, b_repr := z_b_repr, c_MOST_FACTS := z_c_MOST_FACTS, c_MOST_GUESSES := z_c_MOST_GUESSES, c_MOST_LENGTH := z_c_MOST_LENGTH, c_MOST_LETTERS := z_c_MOST_LETTERS, c_MOST_MENDED := z_c_MOST_MENDED, c_MOST_ROWS := z_c_MOST_ROWS, k_InputError := z_k_InputError, k_StateError := z_k_StateError, k_SizeError := z_k_SizeError, k_NotABoard := z_k_NotABoard, k_NotAHistory := z_k_NotAHistory, k_NotAGame := z_k_NotAGame, k_InvalidLetters := z_k_InvalidLetters, k_InvalidLength := z_k_InvalidLength, k_InvalidWord := z_k_InvalidWord, k_InvalidMarks := z_k_InvalidMarks, k_InvalidRows := z_k_InvalidRows, k_InvalidFact := z_k_InvalidFact, k_InvalidFacts := z_k_InvalidFacts, k_InvalidNumber := z_k_InvalidNumber, k_InvalidPlace := z_k_InvalidPlace, k_InvalidGuesses := z_k_InvalidGuesses, k_InvalidDeeds := z_k_InvalidDeeds, k_InvalidLine := z_k_InvalidLine, k_Mismatch := z_k_Mismatch, k_NoWord := z_k_NoWord, k_NothingToUndo := z_k_NothingToUndo, k_Busy := z_k_Busy, k_WordNotLeft := z_k_WordNotLeft, k_GuessNotLeft := z_k_GuessNotLeft, k_TooManyRows := z_k_TooManyRows, isk := z_isk, tr := z_tr, r_Mismatch := z_r_Mismatch, r_NoWord := z_r_NoWord, r_NothingToUndo := z_r_NothingToUndo, r_Busy := z_r_Busy, r_NotABoard := z_r_NotABoard, r_NotAHistory := z_r_NotAHistory, r_NotAGame := z_r_NotAGame, r_InvalidLetters := z_r_InvalidLetters, r_InvalidLength := z_r_InvalidLength, r_InvalidWord := z_r_InvalidWord, r_InvalidMarks := z_r_InvalidMarks, r_InvalidFact := z_r_InvalidFact, r_InvalidNumber := z_r_InvalidNumber, r_InvalidPlace := z_r_InvalidPlace, r_InvalidLine := z_r_InvalidLine, r_InvalidRows := z_r_InvalidRows, r_InvalidFacts := z_r_InvalidFacts, r_InvalidGuesses := z_r_InvalidGuesses, r_InvalidDeeds := z_r_InvalidDeeds, r_WordNotLeft := z_r_WordNotLeft, r_GuessNotLeft := z_r_GuessNotLeft, r_TooManyRows := z_r_TooManyRows, isx := z_isx, y_index := z_y_index, y_limit := z_y_limit, y_value := z_y_value, d_bowl := z_d_bowl, m_bowl := z_m_bowl, d_dip := z_d_dip, m_dip := z_m_dip, d_of := z_d_of, m_of := z_m_of, d_NotABoard_init := z_d_NotABoard_init, d_NotAHistory_init := z_d_NotAHistory_init, d_NotAGame_init := z_d_NotAGame_init, d_InvalidLetters_init := z_d_InvalidLetters_init, d_InvalidLength_init := z_d_InvalidLength_init, d_InvalidWord_init := z_d_InvalidWord_init, d_InvalidMarks_init := z_d_InvalidMarks_init, d_InvalidFact_init := z_d_InvalidFact_init, d_InvalidNumber_init := z_d_InvalidNumber_init, d_InvalidPlace_init := z_d_InvalidPlace_init, d_InvalidLine_init := z_d_InvalidLine_init, d_InvalidRows_init := z_d_InvalidRows_init, d_InvalidFacts_init := z_d_InvalidFacts_init, d_InvalidGuesses_init := z_d_InvalidGuesses_init, d_InvalidDeeds_init := z_d_InvalidDeeds_init, d_value_errors := z_d_value_errors, m_value_errors := z_m_value_errors, d_WordNotLeft_init := z_d_WordNotLeft_init, d_GuessNotLeft_init := z_d_GuessNotLeft_init, d_TooManyRows_init := z_d_TooManyRows_init, d_state_errors := z_d_state_errors, m_state_errors := z_m_state_errors, d_bases := z_d_bases, m_bases := z_m_bases, d_instances := z_d_instances, m_instances := z_m_instances, d_right := z_d_right, m_right := z_m_right, d_law := z_d_law, m_law := z_m_law }
theorem k07_holds (plain : ∀ ns : List Int, ns.length ≤ 63 → ∃ S', d_law [.scr (ns.map D.int)] ⟨[], 0⟩ = .ok (.bl true) S') : PySem.Challenge.rw_guessmarks_k07_errors_and_limits.Holds := by
  w_on; o_law
  refine HandSHeadRun.head_any (r := PySem.W.OpenLaw.row PySem.Challenge.rw_guessmarks_k07_errors_and_limits) (q := PySem.W.view Rw.prog [41]) (H := hk) (ob := seeB ex fn TFD) (M := 9000) (loose := loose) (d := HandSHeadRun.topDef Rw.prog 41) (kwd := []) seeB_eq
    (by kernel_rfl) (fun s => by kernel_rfl) run (by kernel_rfl) (by kernel_rfl) (by kernel_rfl) (by rfl) (by first | assumption | decide +kernel) (by decide +kernel) ⟨rfl, rfl, rfl, rfl, rfl, by decide +kernel⟩ ?hw ?hc
  case hw => w_witness2
  case hc =>
    refine walk_g (l := PySem.Challenge.rw_guessmarks_k07_errors_and_limits) (n := 63) (k := 5) (x := "_law_script") rfl (by decide) (by kernel_rfl) ⟨rfl, by decide, by decide⟩ ?F
    intro w mg fa h Y G hmg0
    obtain ⟨K, KX, c⟩ := Y
    have Fx := facts KX G c.z
    have hmg : mg ("law" : Str) = some (.ref fa) := by
      have e : (HandSHeadRun.topDef Rw.prog 41).name = ("law" : Str) := by kernel_rfl
      rw [← e]
      exact hmg0
    obtain ⟨fd, F⟩ := Fx.d_law
    have e := hmg.symm.trans Fx.m_law
    cases e
    have b := FunD.bindsA (ps := ["_law_script"]) F fun _ _ _ _ _ _ us hl => match us, hl with | [_], _ => rfl
    exact ⟨K, fd, _, TFD.map (He.cT K), KX, c.t, fun s v => b s [v] rfl, fun H a ns hl st hS => law_sp (T := TT) st (tab_of K) hS ⟨[], 0⟩ rfl (plain ns hl), fun base _ _ Tb => w_law Fx F⟩
end K07
set_option Elab.async false
set_option linter.all false
set_option maxRecDepth 100000
set_option maxHeartbeats 1010000
/-! PA: plain laws: draws -/
namespace J
/-- the bowl at n -/
def Bw (S : Store) (n : Nat) : Prop := n < S.next ∧ ∃ a b c : Int, S.get n = some (.lst [.int a, .int b, .int c])
/-- all but the object at n is kept -/
structure Kp (n : Nat) (S S' : Store) : Prop where
  next : S.next ≤ S'.next
  get : ∀ m, m < S.next → m ≠ n → S'.get m = S.get m
structure Kq (S S' : Store) : Prop where
  next : S.next ≤ S'.next
  get : ∀ m, m < S.next → S'.get m = S.get m
theorem Kp.trans {n : Nat} {S S1 S2 : Store} (h : Kp n S S1) (k : Kp n S1 S2) : Kp n S S2 := ⟨Nat.le_trans h.next k.next, fun m hm hn => (k.get m (Nat.lt_of_lt_of_le hm h.next) hn).trans (h.get m hm hn)⟩
theorem Kq.trans {S S1 S2 : Store} (h : Kq S S1) (k : Kq S1 S2) : Kq S S2 := ⟨Nat.le_trans h.next k.next, fun m hm => (k.get m (Nat.lt_of_lt_of_le hm h.next)).trans (h.get m hm)⟩
theorem Kq.refl (S : Store) : Kq S S := ⟨Nat.le_refl _, fun _ _ => rfl⟩
theorem Kp.refl (n : Nat) (S : Store) : Kp n S S := ⟨Nat.le_refl _, fun _ _ _ => rfl⟩
theorem Kq.kp {n : Nat} {S S' : Store} (h : Kq S S') : Kp n S S' := ⟨h.next, fun m hm _ => h.get m hm⟩
theorem Bw.kq {n : Nat} {S S' : Store} (b : Bw S n) (h : Kq S S') : Bw S' n := ⟨Nat.lt_of_lt_of_le b.1 h.next, by rw [h.get n b.1]; exact b.2⟩
theorem Bw.kp {n m : Nat} {S S' : Store} (b : Bw S n) (h : Kp m S S') (hn : n ≠ m) : Bw S' n := ⟨Nat.lt_of_lt_of_le b.1 h.next, by rw [h.get n b.1 hn]; exact b.2⟩
theorem kq_trim {S S' : Store} (h : Kq S S') : Kq S (S'.trim S.next) := ⟨h.next, fun m hm => by rw [Store.get_trim, if_pos hm]; exact h.get m hm⟩
theorem kp_trim {n : Nat} {S S' : Store} (h : Kp n S S') : Kp n S (S'.trim S.next) := ⟨h.next, fun m hm hn => by rw [Store.get_trim, if_pos hm]; exact h.get m hm hn⟩
theorem bw_trim {n : Nat} {S S' : Store} (h : Bw S' n) (hn : n < S.next) : Bw (S'.trim S.next) n := ⟨h.1, by rw [Store.get_trim, if_pos hn]; exact h.2⟩
theorem kp_set {n : Nat} {S : Store} {o : MO} : Kp n S (S.set n o) := ⟨Nat.le_refl _, fun m _ hm => S.get_set_ne o hm⟩
theorem kq_alloc {S : Store} {o : MO} : Kq S (S.alloc o) := ⟨Nat.le_succ _, fun m hm => S.get_alloc_ne o (Nat.ne_of_lt hm)⟩
def isDip : IS := (sSeq (sSetI setL (iOp addD (iOp ixD (iVar 0) (iC (.int 2))) (iC (.int 1))) (iVar 0) (iC (.int 2))) (sSeq (sIf (iTst (iOp gtI (iOp ixD (iVar 0) (iC (.int 1))) (iC (.int 0)))) (sSeq (sSetIN setL (iCB divmodD (iCons (iCB intD (iCons (iOp ixD (iVar 0) (iC (.int 1))) iNil)) (iCons (iVar 1) iNil))) (iVar 0) (iC (.int 1)) 2) (sRet (iVar 2))) sNext) (sSeq (sSetI setL (iOp modI (iCB intD (iCons (iOp addD (iOp addD (iOp mulD (iOp ixD (iVar 0) (iC (.int 0))) (iC (.int 50021))) (iOp mulD (iOp ixD (iVar 0) (iC (.int 2))) (iC (.int 90001)))) (iOp mulD (iOp fdivI (iOp ixD (iVar 0) (iC (.int 0))) (iC (.int 7001))) (iC (.int 13)))) iNil)) (iC (.int 1999999943))) (iVar 0) (iC (.int 0))) (sRet (iOp modI (iCB intD (iCons (iOp fdivI (iOp ixD (iVar 0) (iC (.int 0))) (iC (.int 173))) iNil)) (iVar 1))))))
def dDip : List D → M D := defJ 3 false isDip
theorem dip_end {S : Store} {n : Nat} {o o' : MO} (hn : n < S.next) (h : ∃ a b c : Int, o' = .lst [.int a, .int b, .int c]) : Bw (((S.set n o).set n o').trim S.next) n ∧ Kp n S (((S.set n o).set n o').trim S.next) := by
  obtain ⟨a, b, c, rfl⟩ := h
  exact ⟨bw_trim ⟨hn, a, b, c, Store.get_set_self ..⟩ hn, kp_trim (kp_set.trans kp_set)⟩
theorem dip_ok {S : Store} {n : Nat} {k : Int} (h : Bw S n) (hk : 0 < k) (hk2 : k < 1073741824) : ∃ r S', dDip [.ref n, .int k] S = .ok (.int r) S' ∧ 0 ≤ r ∧ r < k ∧ Bw S' n ∧ Kp n S S' := by
  obtain ⟨hn, a, b, c, e⟩ := h
  unfold dDip defJ isDip startR
  by_cases hb : 0 < b
  · simp [sSeq, sSetI, sSetIN, sBind, iOp, M.bind, lift, iVar, iC, M.ret, ixD, op2, ixL, seqR, seqL, seqT, setL, L2.ixN, L2.atI, addD, addI, subI, opI0, sIf, iTst, isB, gtI, ltI, leI, geI, iCB, iCons, iNil, intD, divmodD, absD, sRet, sNext, sAsg, sExpr, sPar, sPar3, modI, mulD, mulI, powI, opI, fdivI, iCall, iIf, iOr, iAnd, iNot, iNotV, iAndV, iOrV, M.no, iLstM, iLst, iTup, sAsgG, ngD, nsD, e, hb, hk, hk2]
    exact ⟨_, _, ⟨rfl, rfl⟩, Int.emod_nonneg _ (by omega), Int.emod_lt_of_pos _ hk, dip_end hn ⟨_, _, _, rfl⟩⟩
  · simp [sSeq, sSetI, sSetIN, sBind, iOp, M.bind, lift, iVar, iC, M.ret, ixD, op2, ixL, seqR, seqL, seqT, setL, L2.ixN, L2.atI, addD, addI, subI, opI0, sIf, iTst, isB, gtI, ltI, leI, geI, iCB, iCons, iNil, intD, divmodD, absD, sRet, sNext, sAsg, sExpr, sPar, sPar3, modI, mulD, mulI, powI, opI, fdivI, iCall, iIf, iOr, iAnd, iNot, iNotV, iAndV, iOrV, M.no, iLstM, iLst, iTup, sAsgG, ngD, nsD, e, hb, hk, hk2]
    exact ⟨_, _, ⟨rfl, rfl⟩, Int.emod_nonneg _ (by omega), Int.emod_lt_of_pos _ hk, dip_end hn ⟨_, _, _, rfl⟩⟩
/-! ### loops -/
theorem forL_inv {g : NG} {body : IS} (I : Nat → Rho → Store → Prop) : ∀ (xs : List D) (i : Nat) (ρ : Rho) (S : Store), I i ρ S →
    (∀ j x ρ S, xs[j]? = some x → I (i + j) ρ S → ∃ ρ1 ρ2 S2, ngD g x ρ = some ρ1 ∧ body ρ1 S = .ok (.nx ρ2) S2 ∧ I (i + j + 1) ρ2 S2) → ∃ ρ' S', forL g body xs ρ S = .ok (.nx ρ') S' ∧ I (i + xs.length) ρ' S'
  | [], i, ρ, S, h, _ => ⟨ρ, S, rfl, h⟩
  | x :: xs, i, ρ, S, h, k => by
    obtain ⟨ρ1, ρ2, S2, e1, e2, h2⟩ := k 0 x ρ S rfl h
    obtain ⟨ρ', S', e3, h3⟩ := forL_inv I xs (i + 1) ρ2 S2 h2 (fun j y ρ S hj hI => by
      have := k (j + 1) y ρ S (by simpa using hj) (by rw [show i + (j + 1) = i + 1 + j by omega]; exact hI)
      rw [show i + (j + 1) + 1 = i + 1 + j + 1 by omega] at this
      exact this)
    refine ⟨ρ', S', ?_, by rw [show i + (x :: xs).length = i + 1 + xs.length by simp; omega]; exact h3⟩
    unfold forL
    simp only [e1, e2]
    exact e3
/-- a comprehension: each item by its place -/
theorem lcL_inv {g : NG} {t : IT} {ie : IE} {ρ : Rho} (I : Nat → Store → Prop) (P : Nat → D → Prop) : ∀ (xs : List D) (i : Nat) (S : Store), I i S →
    (∀ j x S, xs[j]? = some x → I (i + j) S → ∃ ρ1 d S1 S2, ngD g x ρ = some ρ1 ∧ t ρ1 S = .ok true S1 ∧ ie ρ1 S1 = .ok d S2 ∧ P (i + j) d ∧ I (i + j + 1) S2) → ∃ rs S', lcL g t ie ρ xs S = .ok rs S' ∧ rs.length = xs.length ∧ (∀ j d, rs[j]? = some d → P (i + j) d) ∧ I (i + xs.length) S'
  | [], i, S, h, _ => ⟨[], S, rfl, rfl, fun j d e => by simp at e, h⟩
  | x :: xs, i, S, h, k => by
    obtain ⟨ρ1, d, S1, S2, e1, e2, e3, p, h2⟩ := k 0 x S rfl h
    obtain ⟨rs, S', e4, l4, p4, h4⟩ := lcL_inv I P xs (i + 1) S2 h2 (fun j y S hj hI => by
      have := k (j + 1) y S (by simpa using hj) (by rw [show i + (j + 1) = i + 1 + j by omega]; exact hI)
      rw [show i + (j + 1) + 1 = i + 1 + j + 1 by omega, show i + (j + 1) = i + 1 + j by omega] at this
      exact this)
    refine ⟨d :: rs, S', ?_, by simp [l4], fun j y hy => ?_, by rw [show i + (x :: xs).length = i + 1 + xs.length by simp; omega]; exact h4⟩
    · rw [lcL_cons_some e1]
      simp [M.bind, nox, e2, e3, e4, M.ret]
    · cases j with
      | zero =>
        have e : d = y := by simpa using hy
        subst e
        exact p
      | succ j =>
        have := p4 j y (by simpa using hy)
        rw [show i + (j + 1) = i + 1 + j by omega]
        exact this
end J
set_option Elab.async false
set_option linter.all false
set_option maxRecDepth 100000
set_option maxHeartbeats 1010000
/-! PB: plain laws: the bowl, signs -/
namespace J
theorem sSeq_nx {a b : IS} {ρ ρ1 : Rho} {S S1 : Store} (h : a ρ S = .ok (.nx ρ1) S1) : sSeq a b ρ S = b ρ1 S1 := by
  unfold sSeq
  rw [h]
def bw1 : IS := sAsg 2 (iIf (iTst (iOp ltI (iVar 1) (iCB lenD (iCons (iVar 0) iNil)))) (iCB intD (iCons (iOp ixD (iVar 0) (iVar 1)) iNil)) (iOp addD (iOp mulD (iC (.int 17)) (iVar 1)) (iC (.int 3))))
def bw2 : IS := sAsg 3 (iOp addD (iC (.int 60013)) (iOp mulD (iC (.int 911)) (iVar 1)))
def bw3b : IS := sAsg 3 (iOp modI (iCB intD (iCons (iOp addD (iOp mulD (iVar 3) (iC (.int 39119))) (iOp modI (iCB intD (iCons (iVar 4) iNil)) (iC (.int 1999999943)))) iNil)) (iC (.int 1999999943)))
def bw3 : IS := sFor (iItems (iSl slD (iVar 0) iNoPart (iPart (iC (.int 12))))) (.n 4) bw3b
def bw4 : IS := sRet (iLstM (iCons (iOp modI (iCB intD (iCons (iOp addD (iVar 3) (iOp modI (iVar 2) (iC (.int 1999999943)))) iNil)) (iC (.int 1999999943))) (iCons (iIf (iOr (iTst (iOp ltI (iVar 2) (iC (.int 0)))) (iTst (iOp geI (iVar 2) (iOp powI (iC (.int 10)) (iC (.int 15)))))) (iCB absD (iCons (iVar 2) iNil)) (iC (.int 0))) (iCons (iC (.int 0)) iNil))))
def isBowl : IS := sSeq bw1 (sSeq bw2 (sSeq bw3 bw4))
def dBowl : List D → M D := defJ 5 true isBowl
theorem bw1_ok {S : Store} {ns : List Int} {k : Nat} : ∃ own : Int, bw1 [some (.scr (ns.map D.int)), some (.int k), none, none, none] S = .ok (.nx [some (.scr (ns.map D.int)), some (.int k), some (.int own), none, none]) S := by
  unfold bw1
  by_cases h : k < ns.length
  · refine ⟨ns[k], ?_⟩
    have h1 : ((k : Int) < ((ns.length : Nat) : Int)) := by omega
    simp [sSeq, sSetI, sSetIN, sBind, iOp, M.bind, lift, iVar, iC, M.ret, ixD, op2, ixL, seqR, seqL, seqT, setL, L2.ixN, L2.atI, addD, addI, subI, opI0, sIf, iTst, isB, gtI, ltI, leI, geI, iCB, iCons, iNil, intD, divmodD, absD, sRet, sNext, sAsg, sExpr, sPar, sPar3, modI, mulD, mulI, powI, opI, fdivI, iCall, iIf, iOr, iAnd, iNot, iNotV, iAndV, iOrV, M.no, iLstM, iLst, iTup, sAsgG, ngD, nsD, lenD, seqA, h1, h]
  · refine ⟨17 * (k : Int) + 3, ?_⟩
    have h1 : ¬ ((k : Int) < ((ns.length : Nat) : Int)) := by omega
    simp [sSeq, sSetI, sSetIN, sBind, iOp, M.bind, lift, iVar, iC, M.ret, ixD, op2, ixL, seqR, seqL, seqT, setL, L2.ixN, L2.atI, addD, addI, subI, opI0, sIf, iTst, isB, gtI, ltI, leI, geI, iCB, iCons, iNil, intD, divmodD, absD, sRet, sNext, sAsg, sExpr, sPar, sPar3, modI, mulD, mulI, powI, opI, fdivI, iCall, iIf, iOr, iAnd, iNot, iNotV, iAndV, iOrV, M.no, iLstM, iLst, iTup, sAsgG, ngD, nsD, lenD, seqA, h1, h]
theorem bw3_ok {S : Store} {ns : List Int} {k : Nat} {own m : Int} : ∃ (m' : Int) (x : Option D), bw3 [some (.scr (ns.map D.int)), some (.int k), some (.int own), some (.int m), none] S = .ok (.nx [some (.scr (ns.map D.int)), some (.int k), some (.int own), some (.int m'), x]) S := by
  have key := forL_inv (g := .n 4) (body := bw3b) (fun _ ρ S' => S' = S ∧ ∃ (m' : Int) (x : Option D), ρ = [some (.scr (ns.map D.int)), some (.int k), some (.int own), some (.int m'), x]) (cutD (ns.map D.int) none (some 12)) 0 [some (.scr (ns.map D.int)), some (.int k), some (.int own), some (.int m), none] S ⟨rfl, m, none, rfl⟩ (by
    rintro j x ρ S1 hx ⟨rfl, m', y, rfl⟩
    have hm : x ∈ ns.map D.int := List.mem_of_mem_drop (List.mem_of_mem_take (List.mem_of_getElem? hx))
    obtain ⟨i, _, rfl⟩ := List.mem_map.mp hm
    refine ⟨_, [some (.scr (ns.map D.int)), some (.int k), some (.int own), some (.int ((m' * 39119 + i % 1999999943) % 1999999943)), some (.int i)], S1, rfl, ?_, rfl, _, _, rfl⟩
    simp [sSeq, sSetI, sSetIN, sBind, iOp, M.bind, lift, iVar, iC, M.ret, ixD, op2, ixL, seqR, seqL, seqT, setL, L2.ixN, L2.atI, addD, addI, subI, opI0, sIf, iTst, isB, gtI, ltI, leI, geI, iCB, iCons, iNil, intD, divmodD, absD, sRet, sNext, sAsg, sExpr, sPar, sPar3, modI, mulD, mulI, powI, opI, fdivI, iCall, iIf, iOr, iAnd, iNot, iNotV, iAndV, iOrV, M.no, iLstM, iLst, iTup, sAsgG, ngD, nsD, bw3b])
  obtain ⟨ρ', S', e, rfl, m', x, rfl⟩ := key
  refine ⟨m', x, ?_⟩
  rw [← e]
  simp [sSeq, sSetI, sSetIN, sBind, iOp, M.bind, lift, iVar, iC, M.ret, ixD, op2, ixL, seqR, seqL, seqT, setL, L2.ixN, L2.atI, addD, addI, subI, opI0, sIf, iTst, isB, gtI, ltI, leI, geI, iCB, iCons, iNil, intD, divmodD, absD, sRet, sNext, sAsg, sExpr, sPar, sPar3, modI, mulD, mulI, powI, opI, fdivI, iCall, iIf, iOr, iAnd, iNot, iNotV, iAndV, iOrV, M.no, iLstM, iLst, iTup, sAsgG, ngD, nsD, bw3, sFor, iItems, iSl, slD, opc2, slL, items, iNoPart, iPart]
theorem bowl_ok {S : Store} {ns : List Int} {k : Nat} : ∃ S', dBowl [.scr (ns.map D.int), .int k] S = .ok (.ref S.next) S' ∧ Bw S' S.next ∧ Kq S S' := by
  obtain ⟨own, e1⟩ := bw1_ok (S := S) (ns := ns) (k := k)
  obtain ⟨m', x, e3⟩ := bw3_ok (S := S) (ns := ns) (k := k) (own := own) (m := 60013 + 911 * (k : Int))
  have e2 : bw2 [some (.scr (ns.map D.int)), some (.int k), some (.int own), none, none] S = .ok (.nx [some (.scr (ns.map D.int)), some (.int k), some (.int own), some (.int (60013 + 911 * (k : Int))), none]) S := by
    simp [sSeq, sSetI, sSetIN, sBind, iOp, M.bind, lift, iVar, iC, M.ret, ixD, op2, ixL, seqR, seqL, seqT, setL, L2.ixN, L2.atI, addD, addI, subI, opI0, sIf, iTst, isB, gtI, ltI, leI, geI, iCB, iCons, iNil, intD, divmodD, absD, sRet, sNext, sAsg, sExpr, sPar, sPar3, modI, mulD, mulI, powI, opI, fdivI, iCall, iIf, iOr, iAnd, iNot, iNotV, iAndV, iOrV, M.no, iLstM, iLst, iTup, sAsgG, ngD, nsD, bw2]
  have e4 : ∃ a b : Int, bw4 [some (.scr (ns.map D.int)), some (.int k), some (.int own), some (.int m'), x] S = .ok (.rt (.ref S.next)) (S.alloc (.lst [.int a, .int b, .int 0])) := by
    by_cases h1 : own < 0
    · refine ⟨(m' + own % 1999999943) % 1999999943, -own, ?_⟩
      simp [sSeq, sSetI, sSetIN, sBind, iOp, M.bind, lift, iVar, iC, M.ret, ixD, op2, ixL, seqR, seqL, seqT, setL, L2.ixN, L2.atI, addD, addI, subI, opI0, sIf, iTst, isB, gtI, ltI, leI, geI, iCB, iCons, iNil, intD, divmodD, absD, sRet, sNext, sAsg, sExpr, sPar, sPar3, modI, mulD, mulI, powI, opI, fdivI, iCall, iIf, iOr, iAnd, iNot, iNotV, iAndV, iOrV, M.no, iLstM, iLst, iTup, sAsgG, ngD, nsD, bw4, h1]
    · by_cases h2 : (1000000000000000 : Int) ≤ own
      · refine ⟨(m' + own % 1999999943) % 1999999943, own, ?_⟩
        simp [sSeq, sSetI, sSetIN, sBind, iOp, M.bind, lift, iVar, iC, M.ret, ixD, op2, ixL, seqR, seqL, seqT, setL, L2.ixN, L2.atI, addD, addI, subI, opI0, sIf, iTst, isB, gtI, ltI, leI, geI, iCB, iCons, iNil, intD, divmodD, absD, sRet, sNext, sAsg, sExpr, sPar, sPar3, modI, mulD, mulI, powI, opI, fdivI, iCall, iIf, iOr, iAnd, iNot, iNotV, iAndV, iOrV, M.no, iLstM, iLst, iTup, sAsgG, ngD, nsD, bw4, h1, h2]
      · refine ⟨(m' + own % 1999999943) % 1999999943, 0, ?_⟩
        simp [sSeq, sSetI, sSetIN, sBind, iOp, M.bind, lift, iVar, iC, M.ret, ixD, op2, ixL, seqR, seqL, seqT, setL, L2.ixN, L2.atI, addD, addI, subI, opI0, sIf, iTst, isB, gtI, ltI, leI, geI, iCB, iCons, iNil, intD, divmodD, absD, sRet, sNext, sAsg, sExpr, sPar, sPar3, modI, mulD, mulI, powI, opI, fdivI, iCall, iIf, iOr, iAnd, iNot, iNotV, iAndV, iOrV, M.no, iLstM, iLst, iTup, sAsgG, ngD, nsD, bw4, h1, h2]
  obtain ⟨a, b, e4⟩ := e4
  refine ⟨_, ?_, ⟨Nat.lt_succ_self _, a, b, 0, Store.get_alloc_self ..⟩, kq_alloc⟩
  show defJ 5 true isBowl _ S = _
  unfold defJ isBowl
  have e0 : startR 5 [.scr (ns.map D.int), .int k] = [some (.scr (ns.map D.int)), some (.int k), none, none, none] := rfl
  rw [e0, sSeq_nx e1, sSeq_nx e2, sSeq_nx e3, e4]
  rfl
end J
set_option Elab.async false
set_option linter.all false
set_option maxRecDepth 100000
set_option maxHeartbeats 1010000
/-! PC: plain laws: signs -/
namespace J
theorem slD_str {l : List Nat} {a b : Option Int} {S : Store} (h2 : l.length ≤ 100000) : slD (.str l) a b S = some (.str (cutD l a b)) := by
  simp [slD, opc2, slL, slS, slT, seqR, seqL, h2]
theorem addD_str {a b : List Nat} {S : Store} (h : a.length + b.length ≤ 100000) : addD (.str a) (.str b) S = some (.str (a ++ b)) := by
  simp [addD, op2, addI, opI0, addS, h]
theorem addD_int {a b : Int} {S : Store} : addD (.int a) (.int b) S = some (.int (a + b)) := by
  simp [addD, op2, addI, opI0]
theorem subI_int {a b : Int} {S : Store} : subI (.int a) (.int b) S = some (.int (a - b)) := by
  simp [subI, opI0]
theorem gtI_int {a b : Int} {S : Store} : gtI (.int a) (.int b) S = some (.bl (decide (b < a))) := by
  simp [gtI, opI0]
theorem lenD_str {l : List Nat} {S : Store} (h : l.length ≤ 100000) : lenD [.str l] S = some (.int l.length) := by
  simp [lenD, h]
def abc : List Nat := [97, 98, 99, 100, 101, 102, 103, 104, 105, 106, 107, 108, 109, 110, 111, 112, 113, 114, 115, 116, 117, 118, 119, 120, 121, 122]
structure Sg (l : List Nat) : Prop where
  up : l.Pairwise (· < ·)
  abc : ∀ c ∈ l, 97 ≤ c ∧ c ≤ 122
theorem up_len : ∀ (l : List Nat) (lo : Nat), l.Pairwise (· < ·) → (∀ c ∈ l, lo ≤ c ∧ c ≤ 122) → l.length + lo ≤ 123 ∨ l = []
  | [], _, _, _ => .inr rfl
  | c :: r, lo, h, k => by
    have ⟨h1, h2⟩ := List.pairwise_cons.mp h
    have kc := k c (List.mem_cons_self ..)
    left
    rcases up_len r (c + 1) h2 (fun d hd => ⟨h1 d hd, (k d (List.mem_cons_of_mem _ hd)).2⟩) with z | z
    · rw [List.length_cons]
      omega
    · subst z
      simp only [List.length_nil, List.length_cons]
      omega
theorem Sg.len {l : List Nat} (h : Sg l) : l.length ≤ 26 := by
  rcases up_len l 97 h.up h.abc with z | z
  · omega
  · subst z
    decide
end J
set_option Elab.async false
set_option linter.all false
set_option maxRecDepth 100000
set_option maxHeartbeats 1010000
/-! PD: plain laws: signs, the walk's part -/
namespace J
end J
set_option Elab.async false
set_option linter.all false
set_option maxRecDepth 100000
set_option maxHeartbeats 1010000
/-! PE: plain laws: boards -/
namespace J
theorem leI_int {a b : Int} {S : Store} : leI (.int a) (.int b) S = some (.bl (decide (a ≤ b))) := by simp [leI, opI0]
theorem geI_int {a b : Int} {S : Store} : geI (.int a) (.int b) S = some (.bl (decide (b ≤ a))) := by simp [geI, opI0]
theorem ltI_int {a b : Int} {S : Store} : ltI (.int a) (.int b) S = some (.bl (decide (a < b))) := by simp [ltI, opI0]
theorem isi_b {cs : List Nat} {tb : List (Tg × Tg × Bool)} {x : D} {n t : String} {S : Store} {b : Bool} (ht : tagD x S = some (.b t)) (h : L2.kitB t n = some b) : isiD cs tb [x, .ty n] S = some (.bl b) := by
  simp [isiD, ht, clsOf, okTg, isiT, h]
theorem kit_ii : L2.kitB "int" "int" = some true := by decide +kernel
theorem kit_ib : L2.kitB "int" "bool" = some false := by decide +kernel
section
variable (cs : List Nat) (tb : List (Tg × Tg × Bool))
def al1 : IS := sIf (iOr (iNot (iTst (iCB (isiD cs tb) (iCons (iVar 0) (iCons (iC (.ty "str")) iNil))))) (iNot (iTst (iChain leI leI (iC (.int 2)) (iCB lenD (iCons (iVar 0) iNil)) (iC (.int 26)))))) (sRet (iC (.bl false))) sNext
def al2 : IS := sAsg 1 (iLc (iItems (iVar 0)) (.n 2) iYes (iBM .s strFind (iC (.str abc)) (iCons (iVar 2) iNil)) [2])
def al3 : IS := sRet (iAndV (iOp geI (iOp ixD (iVar 1) (iC (.int 0))) (iC (.int 0))) (iCB allD (iCons (iLc (iZip (iCons (iVar 1) (iCons (iSl slD (iVar 1) (iPart (iC (.int 1))) iNoPart) iNil))) (.t [3, 4]) iYes (iOp ltI (iVar 3) (iVar 4)) [3, 4]) iNil)))
def isAre : IS := sSeq (al1 cs tb) (sSeq al2 al3)
def dAre : List D → M D := defJ 5 false (isAre cs tb)
def isInt : IS := sRet (iAndV (iCB (isiD cs tb) (iCons (iVar 0) (iCons (iC (.ty "int")) iNil))) (iNotV (iTst (iCB (isiD cs tb) (iCons (iVar 0) (iCons (iC (.ty "bool")) iNil))))))
def dInt : List D → M D := defJ 1 false (isInt cs tb)
theorem int_ok {i : Int} {S : Store} : dInt cs tb [.int i] S = .ok (.bl true) (S.trim S.next) := by
  have h1 := isi_b (cs := cs) (tb := tb) (x := .int i) (S := S) (t := "int") rfl kit_ii
  have h2 := isi_b (cs := cs) (tb := tb) (x := .int i) (S := S) (t := "int") rfl kit_ib
  unfold dInt defJ isInt startR
  simp [sSeq, sSetI, sSetIN, sBind, iOp, M.bind, lift, iVar, iC, M.ret, sIf, iTst, isB, iCB, iCons, iNil, sRet, sNext, sAsg, sExpr, sPar, sPar3, iCall, iIf, iOr, iAnd, iNot, iNotV, iAndV, iOrV, M.no, iLstM, iLst, iTup, sAsgG, ngD, nsD, iSl, iPart, iNoPart, iBM, iCM, iYes, h1, h2]
end
end J
set_option Elab.async false
set_option linter.all false
set_option maxRecDepth 100000
set_option maxHeartbeats 1010000
/-! PF: plain laws: boards made, asked -/
namespace J
section
variable (T : Tab) (cs : List Nat) (tb : List (Tg × Tg × Bool))
def in1 : IS := sIf (iNot (iTst (iCall 1 (dAre cs tb) (iCons (iVar 1) iNil)))) sNever sNext
/-- a board -/
abbrev bd (l : List Nat) (k : Int) : D := .ins 0 [.str l, .int k]
/-! size -/
/-! str, repr -/
end
end J
set_option Elab.async false
set_option linter.all false
set_option maxRecDepth 100000
set_option maxHeartbeats 1010000
/-! PG: plain laws: boards compared -/
namespace J
section
variable (T : Tab) (cs : List Nat) (tb : List (Tg × Tg × Bool))
theorem eqD_str {a b : List Nat} {S : Store} : eqD (.str a) (.str b) S = some (.bl (decide (a = b))) := by simp [eqD, op2, eqS]
theorem eqD_int {a b : Int} {S : Store} : eqD (.int a) (.int b) S = some (.bl (decide (a = b))) := by simp [eqD, op2, eqS]
end
end J
set_option Elab.async false
set_option linter.all false
set_option maxRecDepth 100000
set_option maxHeartbeats 1010000
/-! PH: plain laws: one of several, words -/
namespace J
def isOf : IS := (sRet (iOp ixD (iVar 1) (iCall 2 dDip (iCons (iVar 0) (iCons (iCB lenD (iCons (iVar 1) iNil)) iNil)))))
def dOf : List D → M D := defJ 2 false isOf
theorem ixD_lst {xs : List D} {i : Nat} {S : Store} (h : i < xs.length) : ixD (.lst xs) (.int (i : Int)) S = some xs[i] := by
  simp [ixD, op2, ixL, seqR, seqL, L2.atI, L2.ixN, h]
theorem lenD_lst {xs : List D} {S : Store} (h : xs.length ≤ 100000) : lenD [.lst xs] S = some (.int xs.length) := by
  simp [lenD, h, seqA, seqR, seqL]
theorem of_lst {S : Store} {n : Nat} {xs : List D} (b : Bw S n) (h : 0 < xs.length) (h2 : xs.length ≤ 1000) : ∃ d S', dOf [.ref n, .lst xs] S = .ok d S' ∧ d ∈ xs ∧ Bw S' n ∧ Kp n S S' := by
  obtain ⟨r, S1, e1, r0, r1, b1, k1⟩ := dip_ok (k := (xs.length : Int)) b (by omega) (by omega)
  obtain ⟨q, rfl⟩ := Int.eq_ofNat_of_zero_le r0
  have hq : q < xs.length := by omega
  have hn := b.1
  refine ⟨xs[q], S1.trim S.next, ?_, List.getElem_mem _, bw_trim b1 hn, kp_trim k1⟩
  unfold dOf defJ isOf startR
  simp [sSeq, sSetI, sSetIN, sBind, iOp, M.bind, lift, iVar, iC, M.ret, sIf, iTst, isB, iCB, iCons, iNil, sRet, sNext, sAsg, sExpr, sPar, sPar3, iCall, iIf, iOr, iAnd, iNot, iNotV, iAndV, iOrV, M.no, iLstM, iLst, iTup, sAsgG, ngD, nsD, iSl, iPart, iNoPart, iBM, iCM, iYes, lenD_lst (show xs.length ≤ 100000 by omega), e1, ixD_lst hq]
end J
set_option Elab.async false
set_option linter.all false
set_option maxRecDepth 100000
set_option maxHeartbeats 1010000
/-! PI: plain laws: marks by their definition (the law's own told) -/
namespace J
def gz (l : List Nat) (j : Nat) : Nat := l.getD j 0
def hitN (g w : List Nat) (c : Nat) : Nat := (List.range g.length).countP fun j => decide (gz g j = c) && decide (gz g j = gz w j)
def nearF (g w : List Nat) : Nat → Nat → Nat
  | 0, _ => 0
  | i + 1, c => nearF g w i c + (if gz g i = c ∧ gz g i ≠ gz w i ∧ hitN g w (gz g i) + nearF g w i (gz g i) < w.count (gz g i) then 1 else 0)
def mkF (g w : List Nat) (i : Nat) : Nat := if gz g i = gz w i then 50 else if hitN g w (gz g i) + nearF g w i (gz g i) < w.count (gz g i) then 49 else 48
theorem range1_nat {n : Nat} (h : n ≤ 1000) : range1 [.int (n : Int)] = some (rng 0 n) := by
  have z1 : (-100000 : Int) ≤ (n : Int) := by omega
  have z2 : (n : Int) ≤ 100000 := by omega
  simp [range1, z1, z2]
theorem neD_str {a b : List Nat} {S : Store} : neD (.str a) (.str b) S = some (.bl (!decide (a = b))) := by simp [neD, op2, neS, eqS]
/-! ### told -/
end J
set_option Elab.async false
set_option linter.all false
set_option maxRecDepth 100000
set_option maxHeartbeats 1010000
/-! PJ: plain laws: the program's marks -/
namespace J
abbrev mp (g w : List Nat) (i : Nat) : List D := (List.range i).map fun j => .str [mkF g w j]
end J
set_option Elab.async false
set_option linter.all false
set_option maxRecDepth 100000
set_option maxHeartbeats 1010000
/-! PK: plain laws: words, marks, rows, histories -/
namespace J
theorem neD_int {a b : Int} {S : Store} : neD (.int a) (.int b) S = some (.bl (!decide (a = b))) := by simp [neD, op2, neS, eqS]
section
variable (T : Tab) (cs : List Nat) (tb : List (Tg × Tg × Bool))
def rowD (r : List Nat × List Nat) : D := .tup [.str r.1, .str r.2]
/-! ### checks -/
/-! ### histories -/
abbrev hs (b : D) (rows : List (List Nat × List Nat)) : D := .ins 1 [b, .tup (rows.map rowD)]
theorem lenD_tup {xs : List D} {S : Store} : lenD [.tup xs] S = some (.int xs.length) := by simp [lenD, seqA, seqR, seqL, seqT]
end
end J
set_option Elab.async false
set_option linter.all false
set_option maxRecDepth 100000
set_option maxHeartbeats 1010000
/-! PL: plain laws: the law's histories, rows, what fits -/
namespace J
end J
set_option Elab.async false
set_option linter.all false
set_option maxRecDepth 100000
set_option maxHeartbeats 1010000
/-! PM: plain laws: a law over its bowls -/
namespace J
theorem bools_of {v : Bool} : ∀ rs : List D, (∀ (j : Nat) (d : D), rs[j]? = some d → d = D.bl v) → boolsOf rs = some (rs.map fun _ => v)
  | [], _ => rfl
  | x :: rs, h => by
    have e : x = .bl v := h 0 x rfl
    subst e
    simp [boolsOf, bools_of rs fun j d hj => h (j + 1) d (by simpa using hj)]
def isLaw (M_ : Nat) (dR : List D → M D) : IS := (sRet (iCB allD (iCons (iLc (iRange range1 (iCons (iCB max2 (iCons (iC (.int 2)) (iCons (iCB min2 (iCons (iCB lenD (iCons (iVar 0) iNil)) (iCons (iC (.int (M_ : Int))) iNil))) iNil))) iNil)) (.n 1) iYes (iCall 1 dR (iCons (iCall 2 dBowl (iCons (iVar 0) (iCons (iVar 1) iNil))) iNil)) [1]) iNil)))
def dLaw (M_ : Nat) (dR : List D → M D) : List D → M D := defJ 2 false (isLaw M_ dR)
theorem law_gen (M_ : Nat) (h2 : 2 ≤ M_) (hM : M_ ≤ 50) {dR : List D → M D} (right_ok : ∀ {n : Nat} {S : Store}, Bw S n → ∃ S', dR [.ref n] S = .ok (.bl true) S') (ns : List Int) (h : ns.length ≤ 63) : ∃ S', dLaw M_ dR [.scr (ns.map D.int)] ⟨[], 0⟩ = .ok (.bl true) S' := by
  have rg : ∃ m : Nat, m ≤ 50 ∧ iRange range1 (iCons (iCB max2 (iCons (iC (.int 2)) (iCons (iCB min2 (iCons (iCB lenD (iCons (iVar 0) iNil)) (iCons (iC (.int (M_ : Int))) iNil))) iNil))) iNil) [some (.scr (ns.map D.int)), none] ⟨[], 0⟩ = .ok (rng 0 m) ⟨[], 0⟩ := by
    have ln : lenD [.scr (ns.map D.int)] ⟨[], 0⟩ = some (.int (ns.length : Int)) := by simp [lenD, seqA, seqR]
    have mn : min2 [.int (ns.length : Int), .int (M_ : Int)] ⟨[], 0⟩ = some (.int (if (M_ : Int) < ns.length then (M_ : Int) else ns.length)) := rfl
    have mx : ∀ a : Int, max2 [.int 2, .int a] ⟨[], 0⟩ = some (.int (if a > 2 then a else 2)) := fun a => rfl
    refine ⟨((if (if (M_ : Int) < ns.length then (M_ : Int) else (ns.length : Int)) > 2 then (if (M_ : Int) < ns.length then (M_ : Int) else (ns.length : Int)) else 2)).toNat, ?_, ?_⟩
    · split <;> split <;> omega
    · have z : -100000 ≤ (if (if (M_ : Int) < ns.length then (M_ : Int) else (ns.length : Int)) > 2 then (if (M_ : Int) < ns.length then (M_ : Int) else (ns.length : Int)) else 2) ∧ (if (if (M_ : Int) < ns.length then (M_ : Int) else (ns.length : Int)) > 2 then (if (M_ : Int) < ns.length then (M_ : Int) else (ns.length : Int)) else 2) ≤ 100000 := by
        constructor <;> split <;> split <;> omega
      simp only [sSeq, sSetI, sSetIN, sBind, iOp, M.bind, lift, iVar, iC, M.ret, sIf, iTst, isB, iCB, iCons, iNil, sRet, sNext, sAsg, sExpr, sPar, sPar3, iCall, iIf, iOr, iAnd, iNot, iNotV, iAndV, iOrV, M.no, iLstM, iLst, iTup, sAsgG, ngD, nsD, iSl, iPart, iNoPart, iBM, iCM, iYes, iRange, List.getD_cons_zero, ln, mn, mx, range1]
      rw [if_pos z]
  obtain ⟨m, hm, rg⟩ := rg
  have key := lcL_inv (g := .n 1) (t := iYes) (ie := iCall 1 dR (iCons (iCall 2 dBowl (iCons (iVar 0) (iCons (iVar 1) iNil))) iNil)) (ρ := [some (.scr (ns.map D.int)), none]) (fun _ _ => True) (fun _ d => d = .bl true) (rng 0 m) 0 ⟨[], 0⟩ trivial (by
    intro j x S1 hx _
    obtain ⟨hj, hx⟩ := List.getElem?_eq_some_iff.mp hx
    have ex : x = .int ((j : Nat) : Int) := by
      rw [← hx]
      simp [rng]
    subst ex
    obtain ⟨S2, e2, b2, _⟩ := bowl_ok (S := S1) (ns := ns) (k := j)
    obtain ⟨S3, e3⟩ := right_ok b2
    refine ⟨[some (.scr (ns.map D.int)), some (.int (j : Nat))], .bl true, S1, S3, rfl, rfl, ?_, rfl, trivial⟩
    simp [sSeq, sSetI, sSetIN, sBind, iOp, M.bind, lift, iVar, iC, M.ret, sIf, iTst, isB, iCB, iCons, iNil, sRet, sNext, sAsg, sExpr, sPar, sPar3, iCall, iIf, iOr, iAnd, iNot, iNotV, iAndV, iOrV, M.no, iLstM, iLst, iTup, sAsgG, ngD, nsD, iSl, iPart, iNoPart, iBM, iCM, iYes, e2, e3])
  obtain ⟨rs, S', e, ll, p, _⟩ := key
  have bo := bools_of rs (fun j d hj => p j d hj)
  have al : allD [.lst rs] S' = some (.bl true) := by simp [allD, seqR, seqL, bo]
  have ml : (rng 0 m).length < 100000 := by simp [rng]; omega
  refine ⟨S'.trim 0, ?_⟩
  show defJ 2 false (isLaw M_ dR) _ _ = _
  unfold defJ isLaw
  have e0 : startR 2 [.scr (ns.map D.int)] = [some (.scr (ns.map D.int)), none] := rfl
  have w0 : wipeR [some (.scr (ns.map D.int)), none] [1] = [some (.scr (ns.map D.int)), none] := rfl
  rw [e0]
  simp only [sRet, sBind, iCB, iCons, iNil, iLc, M.bind, rg, ml, if_true, w0, e, M.ret, lift, al]
  rfl
end J
set_option Elab.async false
set_option linter.all false
set_option maxRecDepth 100000
set_option maxHeartbeats 1010000
/-! PN: plain laws: repr of data is answered; rows compared -/
namespace J
open PySem (PyData Str)
open PySem.PyData (showable showableAll depth depthAll shown shownAll)
/-- data of depth at most k whose text has at most B signs -/
def Rp (k B : Nat) (d : D) : Prop := ∃ p, toPz d = some p ∧ showable p = true ∧ depth p ≤ k ∧ (shown p).length ≤ B
theorem Rp.up {k k' B B' : Nat} {d : D} (h : Rp k B d) (hk : k ≤ k') (hB : B ≤ B') : Rp k' B' d := by
  obtain ⟨p, e, h1, h3, h4⟩ := h
  exact ⟨p, e, h1, Nat.le_trans h3 hk, Nat.le_trans h4 hB⟩
theorem Rp.bl (b : Bool) : Rp 0 5 (.bl b) := ⟨.bool b, rfl, rfl, Nat.le_refl _, by cases b <;> decide⟩
theorem Rp.non : Rp 0 5 .non := ⟨.none, rfl, rfl, Nat.le_refl _, by decide⟩
theorem Rp.str {l : List Nat} (h : ∀ c ∈ l, c < 1114112) : Rp 0 (10 * l.length + 2) (.str l) := by
  refine ⟨.str ⟨l.toArray⟩, rfl, rfl, Nat.le_refl _, ?_⟩
  have e : (⟨l.toArray⟩ : Str).length = l.length := str_len l
  have z := PySem.StrLaws.reprText_len ⟨l.toArray⟩ (fun c hc => Nat.lt_of_lt_of_le (h c (by simpa using hc)) (by decide))
  rw [e] at z
  exact z
open PyProof.Rows in
theorem Rp.all {k B : Nat} : ∀ {ds : List D}, (∀ d ∈ ds, Rp k B d) → ∃ ps, toPzs ds = some ps ∧ showableAll ps = true ∧ depthAll ps ≤ k ∧ PySem.piled (shownAll ps) ≤ (B + 2) * ds.length ∧ ps.length = ds.length
  | [], _ => ⟨[], rfl, rfl, Nat.zero_le _, by simp [shownAll, PySem.piled], rfl⟩
  | d :: ds, h => by
    obtain ⟨p, e, h1, h3, h4⟩ := h d (List.mem_cons_self ..)
    obtain ⟨ps, f, g1, g3, g4, g5⟩ := Rp.all (k := k) (B := B) (ds := ds) fun x hx => h x (List.mem_cons_of_mem _ hx)
    refine ⟨p :: ps, by simp [toPzs, e, f], by simp [showableAll, h1, g1], by simp only [depthAll]; omega, ?_, by simp [g5]⟩
    rw [shownAll, PySem.piled_cons, List.length_cons, Nat.mul_add]
    omega
theorem lt_len (a b : Str) : (a ++ b).length = a.length + b.length := PySem.strLen_append a b
theorem listText_le : ∀ ts : List Str, (PySem.listText ts).length ≤ PySem.piled ts + 2
  | [] => by decide
  | t :: r => by
    have h := PySem.textFrom_length_pos r 1 (("[" : Str) ++ (if (0 : Nat) > 0 then ", " else "" : String) ++ t) (Nat.succ_pos 0)
    have e : (PySem.listText (t :: r)).length = (PySem.textFrom 1 (("[" : Str) ++ (if (0 : Nat) > 0 then ", " else "" : String) ++ t) r).length + 1 := by
      unfold PySem.listText
      rw [lt_len]
      rfl
    rw [e, h, lt_len, lt_len, PySem.piled_cons]
    have e1 : (("[" : String) : Str).length = 1 := rfl
    have e2 : (((if (0 : Nat) > 0 then ", " else "" : String)) : Str).length = 0 := rfl
    omega
theorem tupleText_le (ts : List Str) : (PySem.tupleText ts).length ≤ PySem.piled ts + 3 := by
  have j : (Str.join ", " ts).length ≤ PySem.piled ts := by
    cases ts with
    | nil => decide
    | cons t r =>
      have := PySem.join_length_add (t :: r) (by simp)
      omega
  unfold PySem.tupleText
  rw [lt_len, lt_len]
  have e1 : (("(" : String) : Str).length = 1 := rfl
  have e2 : (((if (ts.length == 1) = true then ",)" else ")" : String)) : Str).length ≤ 2 := by
    split <;> decide
  omega
theorem Rp.lst {k B n : Nat} {ds : List D} (h : ∀ d ∈ ds, Rp k B d) (hn : ds.length ≤ n) : Rp (k + 1) ((B + 2) * n + 3) (.lst ds) := by
  obtain ⟨ps, f, g1, g3, g4, _⟩ := Rp.all h
  have m : (B + 2) * ds.length ≤ (B + 2) * n := Nat.mul_le_mul_left _ hn
  refine ⟨.list ps, by simp [toPz, f], by simpa [showable] using g1, by simp only [depth]; omega, ?_⟩
  have z := listText_le (shownAll ps)
  rw [shown]
  omega
theorem Rp.tup {k B n : Nat} {ds : List D} (h : ∀ d ∈ ds, Rp k B d) (hn : ds.length ≤ n) : Rp (k + 1) ((B + 2) * n + 3) (.tup ds) := by
  obtain ⟨ps, f, g1, g3, g4, _⟩ := Rp.all h
  have m : (B + 2) * ds.length ≤ (B + 2) * n := Nat.mul_le_mul_left _ hn
  refine ⟨.tuple ps, by simp [toPz, f], by simpa [showable] using g1, by simp only [depth]; omega, ?_⟩
  have z := tupleText_le (shownAll ps)
  rw [shown]
  omega
/-! ### rows -/
structure Cp (r : List Nat × List Nat) : Prop where
  a : ∀ c ∈ r.1, c < 1114112
  b : ∀ c ∈ r.2, c < 1114112
theorem Rp.row {r : List Nat × List Nat} {n : Nat} (h : Cp r) (h1 : r.1.length ≤ n) (h2 : r.2.length ≤ n) : Rp 1 ((10 * n + 4) * 2 + 3) (rowD r) := by
  refine Rp.tup (B := 10 * n + 2) (n := 2) (fun d hd => ?_) (by simp)
  simp only [List.mem_cons, List.not_mem_nil, or_false] at hd
  rcases hd with rfl | rfl
  · exact (Rp.str h.a).up (Nat.le_refl _) (by omega)
  · exact (Rp.str h.b).up (Nat.le_refl _) (by omega)
end J
set_option Elab.async false
set_option linter.all false
set_option maxRecDepth 100000
set_option maxHeartbeats 1010000
/-! PO: plain laws: what a history shows; without; == -/
namespace J
end J
set_option Elab.async false
set_option linter.all false
set_option maxRecDepth 100000
set_option maxHeartbeats 1010000
/-! PQ: plain laws: a row taken out; all that is shown of a history -/
namespace J
end J
set_option Elab.async false
set_option linter.all false
set_option maxRecDepth 100000
set_option maxHeartbeats 1010000
/-! PR: plain laws: a run that goes on where another one never came; refusals of boards -/
namespace J
/-- b goes wherever a goes -/
def LeR {α : Type} (a b : R α) : Prop := a = .no ∨ a = b
theorem LeR.of {α : Type} {a b r : R α} (h : LeR a b) (e : a = r) (hr : r ≠ .no) : b = r := by
  rcases h with h | h
  · exact (hr (e.symm.trans h)).elim
  · exact h.symm.trans e
theorem LeR.ok {α : Type} {a b : R α} {x : α} {S : Store} (h : LeR a b) (e : a = .ok x S) : b = .ok x S := h.of e (by intro q; cases q)
/-! ### got -/
/-! ### the list of what was seen -/
theorem Bw.del {n m : Nat} {S : Store} (b : Bw S n) (h : n ≠ m) : Bw (S.del m) n := ⟨b.1, by rw [Store.get_del, if_neg h]; exact b.2⟩
/-! ### what is shown of equal data is equal -/
/-! ### are_letters, is_integer -/
/-! ### what is answered by repr, checked -/
end J
set_option Elab.async false
set_option linter.all false
set_option maxRecDepth 100000
set_option maxHeartbeats 1010000
/-! PS: plain laws: the second way to draw (a well) -/
namespace J
/-! an alphabet: letters are dropped -/
theorem Sg.sub {l m : List Nat} (h : Sg l) (s : m.Sublist l) : Sg m := ⟨h.up.sublist s, fun c hc => h.abc c (s.mem hc)⟩
end J
set_option Elab.async false
set_option linter.all false
set_option maxRecDepth 100000
set_option maxHeartbeats 1010000
/-! PT: plain laws: facts, claims, words judged; the law's reply -/
namespace J
/-! ### the law's reply is the marks -/
end J
set_option Elab.async false
set_option linter.all false
set_option maxRecDepth 100000
set_option maxHeartbeats 1010000
/-! PU: plain laws: facts, claims about words -/
namespace J
/-- a fact: a letter at a place (or not), least (or most) copies -/
inductive Ft where
  | pl (b : Bool) (p c : Nat) | cn (b : Bool) (c m : Nat)
theorem eqD_bl {a b : Bool} {S : Store} : eqD (.bl a) (.bl b) S = some (.bl (decide (a = b))) := by
  cases a <;> cases b <;> rfl
/-! ### all([f(x) for x in xs]) -/
end J
set_option Elab.async false
set_option linter.all false
set_option maxRecDepth 100000
set_option maxHeartbeats 1010000
/-! PV: plain laws: claims about words -/
namespace J
theorem Kq.t {S S' : Store} (h : Kq S S') : Kq S (S'.trim S.next) := kq_trim h
theorem defJ_rt {n : Nat} {b : IS} {ds : List D} {S S1 : Store} {d : D} (h : b (startR n ds) S = .ok (.rt d) S1) : defJ n false b ds S = .ok d (S1.trim S.next) := by
  unfold defJ
  rw [h]
  rfl
end J
set_option Elab.async false
set_option linter.all false
set_option maxRecDepth 100000
set_option maxHeartbeats 1010000
/-! PW: plain laws: holds, the law's own due, drawn facts, all words -/
namespace J
section
variable (T : Tab) (cs : List Nat) (tb : List (Tg × Tg × Bool)) (pa : IS) (dN : List D → M D)
def ho1 : IS := (sIf (iOr (iNot (iTst (iCB (isiD cs tb) (iCons (iVar 0) (iCons (iC (.ty "tuple")) iNil))))) (iOr (iTst (iOp neD (iCB lenD (iCons (iVar 0) iNil)) (iC (.int 5)))) (iNot (iTst (iCB (isiD cs tb) (iCons (iOp ixD (iVar 0) (iC (.int 0))) (iCons (iC (.ty "str")) iNil))))))) (sRet (iC (.bl false))) sNext)
/-! ### the law's own -/
end
end J
set_option Elab.async false
set_option linter.all false
set_option maxRecDepth 100000
set_option maxHeartbeats 1010000
/-! PX: plain laws: drawn facts, all words of a small board -/
namespace J
/-! ### all words -/
end J
set_option Elab.async false
set_option linter.all false
set_option maxRecDepth 100000
set_option maxHeartbeats 1010000
/-! QA: plain laws: a row's marks, as bounds -/
namespace J
end J
set_option Elab.async false
set_option linter.all false
set_option maxRecDepth 100000
set_option maxHeartbeats 1010000
/-! QB: plain laws: letters at places by exchanges (give, take, fill), as functions; what they find -/
namespace J
def one (b : Bool) : Nat := if b then 1 else 0
end J
set_option Elab.async false
set_option linter.all false
set_option maxRecDepth 100000
set_option maxHeartbeats 1010000
/-! QC: plain laws: take, and fuel enough -/
namespace J
end J
set_option Elab.async false
set_option linter.all false
set_option maxRecDepth 100000
set_option maxHeartbeats 1010000
/-! QD: plain laws: filling finds a word within bounds, or there is an obstacle and no word -/
namespace J
end J
set_option Elab.async false
set_option linter.all false
set_option maxRecDepth 100000
set_option maxHeartbeats 1010000
/-! RA: what an expression or a statement gives, at every store that keeps S0's objects -/
namespace J
def Gm {α : Type} (S0 : Store) (m : M α) (a : α) : Prop := ∀ S, Kq S0 S → ∃ S', m S = .ok a S' ∧ Kq S S'
theorem Gm.mono {α : Type} {S0 S1 : Store} {m : M α} {a : α} (h : Gm S0 m a) (k : Kq S0 S1) : Gm S1 m a := fun S q => h S (k.trans q)
theorem Gm.at {α : Type} {S : Store} {m : M α} {a : α} (h : Gm S m a) : ∃ S', m S = .ok a S' ∧ Kq S S' := h S (Kq.refl S)
theorem Gm.ret {α : Type} {S0 : Store} {a : α} : Gm S0 (M.ret a) a := fun S _ => ⟨S, rfl, Kq.refl S⟩
theorem Gm.bind {α β : Type} {S0 : Store} {m : M α} {k : α → M β} {a : α} {b : β} (h : Gm S0 m a) (g : Gm S0 (k a) b) : Gm S0 (M.bind m k) b := fun S q => by
  obtain ⟨S1, e1, q1⟩ := h S q
  obtain ⟨S2, e2, q2⟩ := g S1 (q.trans q1)
  exact ⟨S2, by unfold M.bind; rw [e1]; exact e2, q1.trans q2⟩
theorem Gm.sb {α : Type} {S0 : Store} {m : M α} {ρ : Rho} {k : α → M Fl} {a : α} {b : Fl} (h : Gm S0 m a) (g : Gm S0 (k a) b) : Gm S0 (sBind m ρ k) b := fun S q => by
  obtain ⟨S1, e1, q1⟩ := h S q
  obtain ⟨S2, e2, q2⟩ := g S1 (q.trans q1)
  exact ⟨S2, by unfold sBind; rw [e1]; exact e2, q1.trans q2⟩
theorem Gm.nox {α : Type} {S0 : Store} {m : M α} {a : α} (h : Gm S0 m a) : Gm S0 (nox m) a := fun S q => by
  obtain ⟨S1, e1, q1⟩ := h S q
  exact ⟨S1, by unfold J.nox; rw [e1], q1⟩
theorem Gm.lft {α : Type} {S0 : Store} {o : Store → Option α} {a : α} (h : ∀ S, Kq S0 S → o S = some a) : Gm S0 (fun S => lift (o S) S) a := fun S q => ⟨S, by show lift (o S) S = _; rw [h S q]; rfl, Kq.refl S⟩
theorem Gm.lft0 {α : Type} {S0 : Store} {o : Option α} {a : α} (h : o = some a) : Gm S0 (lift o) a := fun S q => ⟨S, by rw [h]; rfl, Kq.refl S⟩
section
variable {S0 : Store} {ρ : Rho}
theorem gv_var {i : Nat} {d : D} (h : ρ.getD i none = some d) : Gm S0 (iVar i ρ) d := .lft0 h
theorem gv_c {d : D} : Gm S0 (iC d ρ) d := .ret
theorem gv_op {f : Op2} {a b : IE} {x y d : D} (ha : Gm S0 (a ρ) x) (hb : Gm S0 (b ρ) y) (h : ∀ S, Kq S0 S → f x y S = some d) : Gm S0 (iOp f a b ρ) d := ha.bind (hb.bind (.lft h))
theorem ga_nil : Gm S0 (iNil ρ) [] := .ret
theorem ga_cons {a : IE} {r : IA} {x : D} {xs : List D} (ha : Gm S0 (a ρ) x) (hr : Gm S0 (r ρ) xs) : Gm S0 (iCons a r ρ) (x :: xs) := ha.bind (hr.bind .ret)
theorem gv_cb {f : OpN} {ia : IA} {xs : List D} {d : D} (ha : Gm S0 (ia ρ) xs) (h : ∀ S, Kq S0 S → f xs S = some d) : Gm S0 (iCB f ia ρ) d := ha.bind (.lft h)
theorem gv_cb1 {f : OpN} {a : IE} {x d : D} (ha : Gm S0 (a ρ) x) (h : ∀ S, Kq S0 S → f [x] S = some d) : Gm S0 (iCB f (iCons a iNil) ρ) d := gv_cb (ga_cons ha ga_nil) h
theorem gv_andV {s t : IE} {a b : Bool} (hs : Gm S0 (s ρ) (.bl a)) (ht : a = true → Gm S0 (t ρ) (.bl b)) : Gm S0 (iAndV s t ρ) (.bl (a && b)) := by
  refine hs.bind (Gm.bind (Gm.lft0 (a := a) rfl) ?_)
  cases a with
  | true => exact ht rfl
  | false => exact .ret
/-! ### statements -/
theorem gs_ret {a : IE} {d : D} (h : Gm S0 (a ρ) d) : Gm S0 (sRet a ρ) (.rt d) := h.sb .ret
theorem gd_def {n : Nat} {b : IS} {ds : List D} {d : D} (h : Gm S0 (b (startR n ds)) (.rt d)) : Gm S0 (defJ n false b ds) d := fun S q => by
  obtain ⟨S1, e1, q1⟩ := h S q
  exact ⟨S1.trim S.next, defJ_rt e1, kq_trim q1⟩
end
end J
set_option Elab.async false
set_option linter.all false
set_option maxRecDepth 100000
set_option maxHeartbeats 1010000
/-! RB: bounds of rows and facts, as the program works them out -/
namespace J
theorem neD_bl {a b : Bool} {S : Store} : neD (.bl a) (.bl b) S = some (.bl (!decide (a = b))) := by
  cases a <;> cases b <;> rfl
/-! ### letters at places -/
/-! ### numbers of letters -/
end J
set_option Elab.async false
set_option linter.all false
set_option maxRecDepth 100000
set_option maxHeartbeats 1010000
/-! RC: lists that grow in a loop; greatest numbers, rows in order -/
namespace J
theorem addD_list {a b : List D} {S : Store} (h : a.length + b.length ≤ 100000) : addD (.lst a) (.lst b) S = some (.lst (a ++ b)) := by
  simp [addD, op2, addI, opI0, addS, addL, seqL, h]
end J
set_option Elab.async false
set_option linter.all false
set_option maxRecDepth 100000
set_option maxHeartbeats 1010000
/-! RD: rows in order; dicts of letters; the bounds -/
namespace J
end J
set_option Elab.async false
set_option linter.all false
set_option maxRecDepth 100000
set_option maxHeartbeats 1010000
/-! RE: dicts of letters; the bounds as an object -/
namespace J
def dictD (l : List Nat) (f : Nat → D) : D := .dct (l.map fun c => Ky.s [c]) (l.map f)
theorem dget_ok {f : Nat → D} {c : Nat} {S : Store} : ∀ {l : List Nat}, c ∈ l → dgetD (dictD l f) (.str [c]) S = some (f c) := by
  have go : ∀ l : List Nat, c ∈ l → getKy (.s [c]) ((l.map fun c => Ky.s [c]).zip (l.map f)) = some (f c) := fun l => by
    induction l with
    | nil => intro h; cases h
    | cons a l ih =>
      intro h
      rw [List.map_cons, List.map_cons, List.zip_cons_cons, getKy]
      by_cases e : a = c
      · rw [if_pos (by rw [e]), e]
      · rw [if_neg (by intro z; injection z with z; injection z with z; exact e z)]
        exact ih ((List.mem_cons.mp h).resolve_left fun z => e z.symm)
  intro l h
  exact go l h
abbrev bnds (a x y : D) : D := .ins 5 [a, x, y]
section
variable {S0 : Store} {l : List Nat} {k : Nat} {rows : List (List Nat × List Nat)} {fs : List Ft} {R F : D} (T : Tab) (ct : List Nat)
theorem ins_bnds (hT1 : T.fs 5 = [10, 11, 12]) {a x y : D} {S : Store} : insOf T (bnds a x y) S = some (5, [(10, a), (11, x), (12, y)]) := by
  simp [insOf, hT1]
theorem gv_al (hT1 : T.fs 5 = [10, 11, 12]) {ie : IE} {ρ : Rho} {a x y : D} (h : Gm S0 (ie ρ) (bnds a x y)) : Gm S0 (iFld T [5] 10 ie ρ) a := h.bind fun S _ => ⟨S, by simp [ins_bnds T hT1, lift, getF], Kq.refl S⟩
theorem gv_lo (hT1 : T.fs 5 = [10, 11, 12]) {ie : IE} {ρ : Rho} {a x y : D} (h : Gm S0 (ie ρ) (bnds a x y)) : Gm S0 (iFld T [5] 11 ie ρ) x := h.bind fun S _ => ⟨S, by simp [ins_bnds T hT1, lift, getF], Kq.refl S⟩
theorem gv_hi (hT1 : T.fs 5 = [10, 11, 12]) {ie : IE} {ρ : Rho} {a x y : D} (h : Gm S0 (ie ρ) (bnds a x y)) : Gm S0 (iFld T [5] 12 ie ρ) y := h.bind fun S _ => ⟨S, by simp [ins_bnds T hT1, lift, getF], Kq.refl S⟩
end
end J
set_option Elab.async false
set_option linter.all false
set_option maxRecDepth 100000
set_option maxHeartbeats 1010000
/-! RF: papers that show that there is none -/
namespace J
end J
set_option Elab.async false
set_option linter.all false
set_option maxRecDepth 100000
set_option maxHeartbeats 1010000
/-! RG: the judge on papers of the four forms -/
namespace J
end J
set_option Elab.async false
set_option linter.all false
set_option maxRecDepth 100000
set_option maxHeartbeats 1010000
/-! RH: the raw bounds as the law works them out -/
namespace J
end J
set_option Elab.async false
set_option linter.all false
set_option maxRecDepth 100000
set_option maxHeartbeats 1010000
/-! RI: rows that are crossed, room for letters, as the law works them out -/
namespace J
end J
set_option Elab.async false
set_option linter.all false
set_option maxRecDepth 100000
set_option maxHeartbeats 1010000
/-! RJ: room for letters, as the law works it out -/
namespace J
end J
set_option Elab.async false
set_option linter.all false
set_option maxRecDepth 100000
set_option maxHeartbeats 1010000
/-! RK: all words, and those that fit -/
namespace J
def wordsN (l : List Nat) : Nat → List (List Nat)
  | 0 => [[]]
  | n + 1 => (wordsN l n).flatMap fun w => l.map fun c => w ++ [c]
end J
set_option Elab.async false
set_option linter.all false
set_option maxRecDepth 100000
set_option maxHeartbeats 1010000
/-! RL: the law's own judge of papers -/
namespace J
end J
set_option Elab.async false
set_option linter.all false
set_option maxRecDepth 100000
set_option maxHeartbeats 1010000
/-! RM: papers of the four forms show exactly that there is no word -/
namespace J
end J
set_option Elab.async false
set_option linter.all false
set_option maxRecDepth 100000
set_option maxHeartbeats 1010000
/-! RN: small things for laws about papers -/
namespace J
section
variable {S0 : Store} {ρ : Rho}
theorem addD_tupA {a b : List D} {S : Store} (h : a.length + b.length ≤ 100000) : addD (.tup a) (.tup b) S = some (.tup (a ++ b)) := by
  simp [addD, op2, addI, opI0, addS, addL, seqL, addT, h]
theorem tup_lst {xs : List D} {S : Store} : tupD [.lst xs] S = some (.tup xs) := rfl
end
end J
set_option Elab.async false
set_option linter.all false
set_option maxRecDepth 100000
set_option maxHeartbeats 1010000
/-! VM: counting words by the places of one letter after another -/
namespace Cnt
/-- all ways to put letters of cs on places -/
def asg (al : Nat → Nat → Bool) (cs : List Nat) : List Nat → List (List Nat)
  | [] => [[]]
  | p :: E => (cs.filter (al p)).flatMap fun c => (asg al cs E).map fun w => c :: w
/-- the copies of each letter, with some that stand already, within the bounds -/
def okC (lo hi k : Nat → Nat) (cs w : List Nat) : Bool := cs.all fun c => decide (lo c ≤ w.count c + k c) && decide (w.count c + k c ≤ hi c)
def F (al : Nat → Nat → Bool) (lo hi : Nat → Nat) (cs E : List Nat) (k : Nat → Nat) : Nat := (asg al cs E).countP (okC lo hi k cs)
/-! ### the dict of places -/
end Cnt
set_option Elab.async false
set_option linter.all false
set_option maxRecDepth 100000
set_option maxHeartbeats 1010000
/-! VA: what a run ends with, step by step -/
namespace J
def Wp {α : Type} (m : M α) (S : Store) (Q : α → Store → Prop) : Prop := ∃ a S', m S = .ok a S' ∧ Q a S'
section
variable {α β : Type} {S : Store} {ρ : Rho}
theorem Wp.imp {m : M α} {Q Q' : α → Store → Prop} (h : Wp m S Q) (k : ∀ a S', Q a S' → Q' a S') : Wp m S Q' := let ⟨a, S', e, q⟩ := h; ⟨a, S', e, k a S' q⟩
theorem wp_ok {m : M α} {a : α} {S' : Store} {Q : α → Store → Prop} (e : m S = .ok a S') (q : Q a S') : Wp m S Q := ⟨a, S', e, q⟩
theorem wp_mret {a : α} {Q : α → Store → Prop} (q : Q a S) : Wp (M.ret a) S Q := ⟨a, S, rfl, q⟩
theorem wp_bind {m : M α} {k : α → M β} {Q : β → Store → Prop} (h : Wp m S fun a S1 => Wp (k a) S1 Q) : Wp (M.bind m k) S Q := by
  obtain ⟨a, S1, e, b, S2, e2, q⟩ := h
  exact ⟨b, S2, by unfold M.bind; rw [e]; exact e2, q⟩
theorem wp_sb {m : M α} {k : α → M Fl} {Q : Fl → Store → Prop} (h : Wp m S fun a S1 => Wp (k a) S1 Q) : Wp (sBind m ρ k) S Q := by
  obtain ⟨a, S1, e, b, S2, e2, q⟩ := h
  exact ⟨b, S2, by unfold sBind; rw [e]; exact e2, q⟩
theorem wp_nox {m : M α} {Q : α → Store → Prop} (h : Wp m S Q) : Wp (nox m) S Q := by
  obtain ⟨a, S1, e, q⟩ := h
  exact ⟨a, S1, by unfold nox; rw [e], q⟩
theorem wp_lift {o : Option α} {a : α} {Q : α → Store → Prop} (h : o = some a) (q : Q a S) : Wp (lift o) S Q := ⟨a, S, by rw [h]; rfl, q⟩
theorem wp_liftS {o : Store → Option α} {Q : α → Store → Prop} (h : ∃ a, o S = some a ∧ Q a S) : Wp (fun S => lift (o S) S) S Q := by
  obtain ⟨a, e, q⟩ := h
  exact ⟨a, S, by show lift (o S) S = _; rw [e]; rfl, q⟩
/-! ### expressions -/
variable {Q : D → Store → Prop} {QA : List D → Store → Prop} {QB : Bool → Store → Prop} {QF : Fl → Store → Prop} {QO : Option Int → Store → Prop}
theorem wp_var {i : Nat} {d : D} (h : ρ.getD i none = some d) (q : Q d S) : Wp (iVar i ρ) S Q := wp_lift h q
theorem wp_c {d : D} (q : Q d S) : Wp (iC d ρ) S Q := wp_mret q
theorem wp_op {f : Op2} {a b : IE} (h : Wp (a ρ) S fun x S1 => Wp (b ρ) S1 fun y S2 => ∃ d, f x y S2 = some d ∧ Q d S2) : Wp (iOp f a b ρ) S Q :=
  wp_bind (h.imp fun _ _ k => wp_bind (k.imp fun _ _ e => wp_liftS e))
theorem wp_opM {f : OpB} {a b : IE} (h : Wp (a ρ) S fun x S1 => Wp (b ρ) S1 fun y S2 => Wp (f x y) S2 Q) : Wp (iOpM f a b ρ) S Q :=
  wp_bind (h.imp fun _ _ k => wp_bind k)
theorem wp_nil (q : QA [] S) : Wp (iNil ρ) S QA := wp_mret q
theorem wp_cons {a : IE} {r : IA} (h : Wp (a ρ) S fun x S1 => Wp (r ρ) S1 fun xs S2 => QA (x :: xs) S2) : Wp (iCons a r ρ) S QA :=
  wp_bind (h.imp fun _ _ k => wp_bind (k.imp fun _ _ e => wp_mret e))
theorem wp_star {a : IE} {r : IA} (h : Wp (a ρ) S fun x S1 => ∃ xs, seqA x S1 = some xs ∧ Wp (r ρ) S1 fun ys S2 => QA (xs ++ ys) S2) : Wp (iStar a r ρ) S QA :=
  wp_bind (h.imp fun _ _ ⟨_, e, k⟩ => wp_bind (wp_liftS ⟨_, e, wp_bind (k.imp fun _ _ z => wp_mret z)⟩))
theorem wp_cb {f : OpN} {ia : IA} (h : Wp (ia ρ) S fun xs S1 => ∃ d, f xs S1 = some d ∧ Q d S1) : Wp (iCB f ia ρ) S Q := wp_bind (h.imp fun _ _ e => wp_liftS e)
theorem wp_cm {f : List D → M D} {ia : IA} (h : Wp (ia ρ) S fun xs S1 => Wp (f xs) S1 Q) : Wp (iCM f ia ρ) S Q := wp_bind h
theorem wp_call {n : Nat} {f : List D → M D} {ia : IA} (h : Wp (ia ρ) S fun xs S1 => xs.length = n ∧ Wp (f xs) S1 Q) : Wp (iCall n f ia ρ) S Q :=
  wp_bind (h.imp fun _ _ ⟨e, k⟩ => by rw [if_pos e]; exact k)
theorem wp_callV {n : Nat} {f : List D → M D} {ia : IA} (h : Wp (ia ρ) S fun xs S1 => (n ≤ xs.length ∧ xs.length ≤ 100000) ∧ Wp (f (packV n xs)) S1 Q) : Wp (iCallV n f ia ρ) S Q :=
  wp_bind (h.imp fun _ _ ⟨e, k⟩ => by rw [if_pos e]; exact k)
theorem wp_tup {ia : IA} (h : Wp (ia ρ) S fun xs S1 => xs.length ≤ 100000 ∧ Q (.tup xs) S1) : Wp (iTup ia ρ) S Q :=
  wp_bind (h.imp fun _ _ ⟨e, k⟩ => by rw [if_pos e]; exact wp_mret k)
theorem wp_lst {ia : IA} (h : Wp (ia ρ) S fun xs S1 => xs.length ≤ 100000 ∧ Q (.lst xs) S1) : Wp (iLst ia ρ) S Q :=
  wp_bind (h.imp fun _ _ ⟨e, k⟩ => by rw [if_pos e]; exact wp_mret k)
theorem wp_lstM {ia : IA} (h : Wp (ia ρ) S fun xs S1 => xs.length ≤ 100000 ∧ Q (.ref S1.next) (S1.alloc (.lst xs))) : Wp (iLstM ia ρ) S Q :=
  wp_bind (h.imp fun _ S1 ⟨e, k⟩ => by rw [if_pos e]; exact ⟨_, _, rfl, k⟩)
theorem wp_if {t : IT} {x y : IE} (h : Wp (t ρ) S fun b S1 => Wp (if b = true then x ρ else y ρ) S1 Q) : Wp (iIf t x y ρ) S Q := wp_bind h
theorem wp_notV {t : IT} (h : Wp (t ρ) S fun b S1 => Q (.bl !b) S1) : Wp (iNotV t ρ) S Q := wp_bind (h.imp fun _ _ k => wp_mret k)
theorem wp_andV {a b : IE} (h : Wp (a ρ) S fun d S1 => ∃ c, isB d = some c ∧ if c = true then Wp (b ρ) S1 Q else Q (.bl false) S1) : Wp (iAndV a b ρ) S Q :=
  wp_bind (h.imp fun _ _ ⟨c, e, k⟩ => wp_bind (wp_lift e (by cases c <;> first | exact k | exact wp_mret k)))
theorem wp_orV {a b : IE} (h : Wp (a ρ) S fun d S1 => ∃ c, isB d = some c ∧ if c = true then Q (.bl true) S1 else Wp (b ρ) S1 Q) : Wp (iOrV a b ρ) S Q :=
  wp_bind (h.imp fun _ _ ⟨c, e, k⟩ => wp_bind (wp_lift e (by cases c <;> first | exact k | exact wp_mret k)))
theorem wp_chain {f g : Op2} {a b c : IE} (h : Wp (a ρ) S fun x S1 => Wp (b ρ) S1 fun y S2 => ∃ p, f x y S2 = some (.bl p) ∧ if p = true then Wp (c ρ) S2 fun z S3 => ∃ d, g y z S3 = some d ∧ Q d S3 else Q (.bl false) S2) : Wp (iChain f g a b c ρ) S Q :=
  wp_bind (h.imp fun _ _ k => wp_bind (k.imp fun _ _ ⟨p, e, k⟩ => wp_bind (wp_liftS ⟨p, by rw [e]; rfl, by
    cases p with
    | true => exact wp_bind (k.imp fun _ _ e => wp_liftS e)
    | false => exact wp_mret k⟩)))
theorem wp_bm {Ty : Kd} {f : OpM} {a : IE} {ia : IA} (h : Wp (a ρ) S fun x S1 => kindIs Ty x S1 = true ∧ Wp (ia ρ) S1 fun xs S2 => Wp (f x xs) S2 Q) : Wp (iBM Ty f a ia ρ) S Q :=
  wp_bind (h.imp fun _ _ ⟨e, k⟩ => by
    obtain ⟨d, S3, e3, q⟩ := wp_bind k
    exact ⟨d, S3, by dsimp only; rw [if_pos e]; exact e3, q⟩)
theorem wp_bm0 {Ty : Kd} {f : OpM} {a : IE} (h : Wp (a ρ) S fun x S1 => kindIs Ty x S1 = true ∧ Wp (f x []) S1 Q) : Wp (iBM0 Ty f a ρ) S Q :=
  wp_bind (h.imp fun _ _ ⟨e, k⟩ => by
    obtain ⟨d, S3, e3, q⟩ := k
    exact ⟨d, S3, by dsimp only; rw [if_pos e]; exact e3, q⟩)
theorem wp_noP (q : QO none S) : Wp (iNoPart ρ) S QO := wp_mret q
theorem wp_part {a : IE} (h : Wp (a ρ) S fun d S1 => ∃ i, d = .int i ∧ QO (some i) S1) : Wp (iPart a ρ) S QO := wp_bind (h.imp fun _ _ ⟨_, e, k⟩ => by subst e; exact wp_mret k)
theorem wp_sl {f : OpC} {a : IE} {l u : IO} (h : Wp (a ρ) S fun x S1 => Wp (l ρ) S1 fun lo S2 => Wp (u ρ) S2 fun hi S3 => ∃ d, f x lo hi S3 = some d ∧ Q d S3) : Wp (iSl f a l u ρ) S Q :=
  wp_bind (h.imp fun _ _ k => wp_bind (k.imp fun _ _ k => wp_bind (k.imp fun _ _ e => wp_liftS e)))
theorem wp_fld {T : Tab} {cs : List Nat} {f : Nat} {a : IE} (h : Wp (a ρ) S fun d S1 => ∃ c fs v, insOf T d S1 = some (c, fs) ∧ cs.contains c = true ∧ getF f fs = some v ∧ Q v S1) : Wp (iFld T cs f a ρ) S Q :=
  wp_bind (h.imp fun d S1 ⟨c, fs, v, e1, e2, e3, k⟩ => ⟨v, S1, by
    show (match insOf T d S1 with | some (c, fs) => if cs.contains c = true then lift (getF f fs) S1 else .no | none => .no) = _
    rw [e1]
    dsimp only
    rw [if_pos e2, e3]
    rfl, k⟩)
theorem wp_meth {T : Tab} {c m n : Nat} {f : List D → M D} {a : IE} {ia : IA} (h : Wp (a ρ) S fun o S1 => ∃ fs, insOf T o S1 = some (c, fs) ∧ getF m fs = none ∧ Wp (ia ρ) S1 fun xs S2 => xs.length + 1 = n ∧ Wp (f (o :: xs)) S2 Q) : Wp (iMeth T c m n f a ia ρ) S Q :=
  wp_bind (h.imp fun o S1 ⟨fs, e1, e2, k⟩ => by
    obtain ⟨d, S3, e3, q⟩ := wp_bind (k.imp fun xs _ ⟨e, k⟩ => show Wp (if xs.length + 1 = n then f (o :: xs) else M.no) _ Q by rw [if_pos e]; exact k)
    refine ⟨d, S3, ?_, q⟩
    show (match insOf T o S1 with | some (c', fs) => if c' = c ∧ getF m fs = none then M.bind (ia ρ) (fun xs => if xs.length + 1 = n then f (o :: xs) else M.no) S1 else .no | none => .no) = _
    rw [e1]
    dsimp only
    rw [if_pos ⟨rfl, e2⟩]
    exact e3)
theorem wp_prop {T : Tab} {c : Nat} {f : List D → M D} {a : IE} (h : Wp (a ρ) S fun o S1 => ∃ fs, insOf T o S1 = some (c, fs) ∧ Wp (f [o]) S1 Q) : Wp (iProp T c f a ρ) S Q :=
  wp_bind (h.imp fun o S1 ⟨fs, e1, k⟩ => by
    obtain ⟨d, S3, e3, q⟩ := wp_nox k
    refine ⟨d, S3, ?_, q⟩
    show (match insOf T o S1 with | some (c', _) => if c' = c then nox (f [o]) S1 else .no | none => .no) = _
    rw [e1]
    dsimp only
    rw [if_pos rfl]
    exact e3)
theorem wp_make {T : Tab} {z : Bool} {c k : Nat} {f : List D → M D} {ia : IA} (h : Wp (ia ρ) S fun xs S1 => Wp (makeD T z c k f xs) S1 Q) : Wp (iMake T z c k f ia ρ) S Q := wp_bind h
theorem wp_makeV {T : Tab} {z : Bool} {c k : Nat} {f : List D → M D} {ia : IA} (h : Wp (ia ρ) S fun xs S1 => Wp (makeV T z c k f xs) S1 Q) : Wp (iMakeV T z c k f ia ρ) S Q := wp_bind h
/-! ### tests -/
theorem wp_tst {a : IE} (h : Wp (a ρ) S fun d S1 => ∃ b, isB d = some b ∧ QB b S1) : Wp (iTst a ρ) S QB := wp_bind (h.imp fun _ _ ⟨_, e, k⟩ => wp_lift e k)
theorem wp_tr {T : Tab} {cs : List Nat} {a : IE} (h : Wp (a ρ) S fun d S1 => ∃ b, truO T cs d S1 = some b ∧ QB b S1) : Wp (iTr T cs a ρ) S QB := wp_bind (h.imp fun _ _ e => wp_liftS e)
theorem wp_yes (q : QB true S) : Wp (iYes ρ) S QB := wp_mret q
theorem wp_not {t : IT} (h : Wp (t ρ) S fun b S1 => QB (!b) S1) : Wp (iNot t ρ) S QB := wp_bind (h.imp fun _ _ k => wp_mret k)
theorem wp_and {s t : IT} (h : Wp (s ρ) S fun b S1 => if b = true then Wp (t ρ) S1 QB else QB false S1) : Wp (iAnd s t ρ) S QB :=
  wp_bind (h.imp fun b _ k => by cases b <;> first | exact k | exact wp_mret k)
theorem wp_or {s t : IT} (h : Wp (s ρ) S fun b S1 => if b = true then QB true S1 else Wp (t ρ) S1 QB) : Wp (iOr s t ρ) S QB :=
  wp_bind (h.imp fun b _ k => by cases b <;> first | exact k | exact wp_mret k)
/-! ### what is walked -/
theorem wp_range {f : List D → Option (List D)} {ia : IA} (h : Wp (ia ρ) S fun xs S1 => ∃ ys, f xs = some ys ∧ QA ys S1) : Wp (iRange f ia ρ) S QA := wp_bind (h.imp fun _ _ ⟨_, e, k⟩ => wp_lift e k)
theorem wp_items {a : IE} (h : Wp (a ρ) S fun d S1 => ∃ ys, items d = some ys ∧ QA ys S1) : Wp (iItems a ρ) S QA := wp_bind (h.imp fun _ _ ⟨_, e, k⟩ => wp_lift e k)
theorem wp_zip {ia : IA} (h : Wp (ia ρ) S fun xs S1 => ∃ ys, zipOfA xs = some ys ∧ QA ys S1) : Wp (iZipA ia ρ) S QA := wp_bind (h.imp fun _ _ ⟨_, e, k⟩ => wp_lift e k)
theorem wp_enum {ia : IA} (h : Wp (ia ρ) S fun xs S1 => ∃ ys, enumOf xs = some ys ∧ QA ys S1) : Wp (iEnumD ia ρ) S QA := wp_bind (h.imp fun _ _ ⟨_, e, k⟩ => wp_lift e k)
/-! ### statements -/
def sK (b : IS) (QF : Fl → Store → Prop) (fl : Fl) (S : Store) : Prop := match fl with
  | .nx ρ => Wp (b ρ) S QF
  | fl => QF fl S
theorem sK_nx {b : IS} (h : Wp (b ρ) S QF) : sK b QF (.nx ρ) S := h
theorem sK_rt {b : IS} {d : D} (h : QF (.rt d) S) : sK b QF (.rt d) S := h
theorem wp_seq {a b : IS} (h : Wp (a ρ) S (sK b QF)) : Wp (sSeq a b ρ) S QF := by
  obtain ⟨fl, S1, e, k⟩ := h
  cases fl with
  | nx ρ1 =>
    obtain ⟨fl2, S2, e2, q⟩ := k
    exact ⟨fl2, S2, by unfold sSeq; rw [e]; exact e2, q⟩
  | _ => exact ⟨_, S1, by unfold sSeq; rw [e], k⟩
theorem wp_next (q : QF (.nx ρ) S) : Wp (sNext ρ) S QF := wp_mret q
theorem wp_expr {a : IE} (h : Wp (a ρ) S fun _ S1 => QF (.nx ρ) S1) : Wp (sExpr a ρ) S QF := wp_sb (h.imp fun _ _ k => wp_mret k)
theorem wp_asg {i : Nat} {a : IE} (h : Wp (a ρ) S fun d S1 => QF (.nx (ρ.set i (some d))) S1) : Wp (sAsg i a ρ) S QF := wp_sb (h.imp fun _ _ k => wp_mret k)
theorem wp_asgG {g : NG} {a : IE} (h : Wp (a ρ) S fun d S1 => ∃ ρ1, ngD g d ρ = some ρ1 ∧ QF (.nx ρ1) S1) : Wp (sAsgG g a ρ) S QF := wp_sb (h.imp fun _ _ ⟨_, e, k⟩ => by rw [e]; exact wp_mret k)
theorem wp_retS {a : IE} (h : Wp (a ρ) S fun d S1 => QF (.rt d) S1) : Wp (sRet a ρ) S QF := wp_sb (h.imp fun _ _ k => wp_mret k)
theorem wp_retN (q : QF (.rt .non) S) : Wp (sRetN ρ) S QF := wp_mret q
theorem wp_ifS {t : IT} {a b : IS} (h : Wp (t ρ) S fun c S1 => Wp (if c = true then a ρ else b ρ) S1 QF) : Wp (sIf t a b ρ) S QF := wp_sb h
theorem wp_par {i j : Nat} {a b : IE} (h : Wp (a ρ) S fun x S1 => Wp (b ρ) S1 fun y S2 => QF (.nx ((ρ.set i (some x)).set j (some y))) S2) : Wp (sPar i j (iCons a (iCons b iNil)) ρ) S QF :=
  wp_sb (wp_cons (h.imp fun _ _ k => wp_cons (k.imp fun _ _ q => wp_nil (wp_mret q))))
theorem wp_par3 {i j l : Nat} {a b c : IE} (h : Wp (a ρ) S fun x S1 => Wp (b ρ) S1 fun y S2 => Wp (c ρ) S2 fun z S3 => QF (.nx (((ρ.set i (some x)).set j (some y)).set l (some z))) S3) : Wp (sPar3 i j l (iCons a (iCons b (iCons c iNil))) ρ) S QF :=
  wp_sb (wp_cons (h.imp fun _ _ k => wp_cons (k.imp fun _ _ k => wp_cons (k.imp fun _ _ q => wp_nil (wp_mret q)))))
/-- a def: its value -/
def dK (N : Nat) (Q : D → Store → Prop) (fl : Fl) (S : Store) : Prop := match fl with
  | .nx _ => Q .non (S.trim N)
  | .rt d => Q d (S.trim N)
  | _ => False
theorem dK_rt {N : Nat} {d : D} (h : Q d (S.trim N)) : dK N Q (.rt d) S := h
theorem wp_def {n : Nat} {b : IS} {ds : List D} (h : Wp (b (startR n ds)) S (dK S.next Q)) : Wp (defJ n false b ds) S Q := by
  obtain ⟨fl, S1, e, k⟩ := h
  cases fl with
  | nx ρ1 => exact ⟨.non, _, by unfold defJ; rw [e]; rfl, k⟩
  | rt d => exact ⟨d, _, by unfold defJ; rw [e]; rfl, k⟩
  | _ => exact k.elim
end
/-! ### loops -/
def updR (ρ : Rho) : List Nat → List (Option D) → Rho
  | i :: is, y :: ys => updR (ρ.set i y) is ys
  | _, _ => ρ
def lK {γ : Type} (ρ0 : Rho) (is : List Nat) (I : List γ → List (Option D) → Store → Prop) (QF : Fl → Store → Prop) (pre : List γ) (fl : Fl) (S : Store) : Prop := match fl with
  | .nx ρ => ∃ ys, ys.length = is.length ∧ ρ = updR ρ0 is ys ∧ I pre ys S
  | .ct ρ => ∃ ys, ys.length = is.length ∧ ρ = updR ρ0 is ys ∧ I pre ys S
  | .bk ρ => QF (.nx ρ) S
  | fl => QF fl S
section
variable {γ : Type} {S : Store} {ρ0 : Rho} {is : List Nat} {I : List γ → List (Option D) → Store → Prop} {QF : Fl → Store → Prop}
theorem lK_rt {pre : List γ} {d : D} (h : QF (.rt d) S) : lK ρ0 is I QF pre (.rt d) S := h
end
/-! ### comprehensions that draw -/
/-! ### what is known of the store: the bowl at n, and lists that are being made -/
structure Kn (S : Store) (n : Nat) (L : List (Nat × MO)) : Prop where
  bw : Bw S n
  at_ : ∀ p ∈ L, S.get p.1 = some p.2
  lt : ∀ p ∈ L, n < p.1 ∧ p.1 < S.next
  nd : L.Pairwise fun p q => p.1 ≠ q.1
section
variable {S S' : Store} {n m : Nat} {o : MO} {L : List (Nat × MO)}
theorem Kn.of (b : Bw S n) : Kn S n [] := ⟨b, by simp, by simp, by simp⟩
theorem Kn.kp (k : Kn S n L) (h : Kp n S S') (b : Bw S' n) : Kn S' n L := ⟨b, fun p hp => (h.get _ (k.lt p hp).2 (Nat.ne_of_gt (k.lt p hp).1)).trans (k.at_ p hp), fun p hp => ⟨(k.lt p hp).1, Nat.lt_of_lt_of_le (k.lt p hp).2 h.next⟩, k.nd⟩
theorem Kn.kq (k : Kn S n L) (h : Kq S S') : Kn S' n L := k.kp h.kp (k.bw.kq h)
theorem Kn.new (k : Kn S n L) : Kn (S.alloc o) n ((S.next, o) :: L) := by
  have z := k.kq (kq_alloc (o := o))
  refine ⟨z.bw, fun p hp => ?_, fun p hp => ?_, List.pairwise_cons.mpr ⟨fun q hq => (Nat.ne_of_gt (k.lt q hq).2), k.nd⟩⟩
  · rcases List.mem_cons.mp hp with rfl | h
    · exact Store.get_alloc_self _ _
    · exact z.at_ p h
  · rcases List.mem_cons.mp hp with rfl | h
    · exact ⟨k.bw.1, Nat.lt_succ_self _⟩
    · exact z.lt p h
theorem Kn.get (k : Kn S n ((m, o) :: L)) : S.get m = some o := k.at_ _ (List.mem_cons_self ..)
theorem Kn.set {o' : MO} (k : Kn S n ((m, o) :: L)) : Kn (S.set m o') n ((m, o') :: L) := by
  have hm := k.lt (m, o) (by simp)
  have hL := List.pairwise_cons.mp k.nd
  refine ⟨k.bw.kp kp_set (Nat.ne_of_lt hm.1), fun p hp => ?_, fun p hp => ?_, List.pairwise_cons.mpr ⟨fun q hq => hL.1 q hq, hL.2⟩⟩
  · rcases List.mem_cons.mp hp with rfl | h
    · exact Store.get_set_self _ _ _
    · rw [Store.get_set_ne _ _ (Ne.symm (hL.1 p h))]
      exact k.at_ p (List.mem_cons_of_mem _ h)
  · rcases List.mem_cons.mp hp with rfl | h
    · exact hm
    · exact k.lt p (List.mem_cons_of_mem _ h)
theorem Kn.del (k : Kn S n ((m, o) :: L)) : Kn (S.del m) n L := by
  have hm := k.lt (m, o) (by simp)
  have hL := List.pairwise_cons.mp k.nd
  refine ⟨k.bw.del (Nat.ne_of_lt hm.1), fun p hp => ?_, fun p hp => k.lt p (List.mem_cons_of_mem _ hp), hL.2⟩
  rw [Store.get_del, if_neg (Ne.symm (hL.1 p hp))]
  exact k.at_ p (List.mem_cons_of_mem _ hp)
end
/-! ### the tactics -/
theorem ex_of {α : Type} {p : Option α} {q : α → Prop} {d : α} (h : p = some d) (k : q d) : ∃ d, p = some d ∧ q d := ⟨d, h, k⟩
theorem ex_int {i : Int} {q : Int → Prop} (k : q i) : ∃ j, D.int i = .int j ∧ q j := ⟨i, rfl, k⟩
theorem ex_fld {T : Tab} {d : D} {S : Store} {cs : List Nat} {f c : Nat} {fs : List (Nat × D)} {v : D} {q : D → Prop} (h1 : insOf T d S = some (c, fs)) (h2 : cs.contains c = true) (h3 : getF f fs = some v) (k : q v) : ∃ c fs v, insOf T d S = some (c, fs) ∧ cs.contains c = true ∧ getF f fs = some v ∧ q v := ⟨c, fs, v, h1, h2, h3, k⟩
end J
set_option Elab.async false
set_option linter.all false
set_option maxRecDepth 100000
set_option maxHeartbeats 1010000
/-! VB: tactics for runs, draws -/
namespace J
theorem range1_map {n : Nat} {S : Store} (h : n ≤ 1000) : range1 [.int (n : Int)] = some ((List.range n).map fun i : Nat => D.int (i : Int)) := by
  rw [range1_nat h]
  simp [rng]
local macro_rules | `(tactic| walk_at "wop") => `(tactic| first | (with_reducible exact addD_int) | (with_reducible exact subI_int) | (with_reducible exact eqD_int) | (with_reducible exact eqD_str) | (with_reducible exact eqD_bl) | (with_reducible exact neD_int) | (with_reducible exact neD_str) | (with_reducible exact neD_bl) | (with_reducible exact ltI_int) | (with_reducible exact leI_int) | (with_reducible exact gtI_int) | (with_reducible exact geI_int) | (with_reducible exact lenD_tup) | (with_reducible exact tup_lst) | (with_reducible exact addD_str (by first | omega | (simp; done) | (simp; omega))) | (with_reducible exact lenD_str (by first | omega | (simp; done) | (simp; omega))) | (with_reducible exact lenD_lst (by first | omega | (simp; done) | (simp; omega))) | (with_reducible exact slD_str (by first | omega | (simp; done) | (simp; omega))) | (with_reducible exact addD_list (by first | omega | (simp; done) | (simp; omega))) | (with_reducible exact range1_map (S := ⟨[], 0⟩) (by first | omega | (simp; done) | (simp; omega))) | (with_reducible exact addD_tupA (by first | omega | (simp; done) | (simp; omega))) | (exact rfl))
local macro_rules | `(tactic| walk_at "wx1") => `(tactic| first | (((with_reducible apply wp_var); · rfl)) | (with_reducible refine wp_seq ?_) | (with_reducible refine sK_nx ?_) | (with_reducible refine sK_rt ?_) | (with_reducible refine dK_rt ?_) | (with_reducible refine wp_c ?_) | (with_reducible refine wp_asg ?_) | (with_reducible refine wp_par ?_) | (with_reducible refine wp_par3 ?_) | (with_reducible refine wp_ifS ?_) | (with_reducible refine wp_retS ?_) | (with_reducible refine wp_expr ?_) | (with_reducible refine wp_next ?_) | (with_reducible refine wp_op ?_) | (with_reducible refine wp_cons ?_) | (with_reducible refine wp_nil ?_) | (with_reducible refine wp_call ?_) | (with_reducible refine wp_cb ?_) | (with_reducible refine wp_tst ?_) | (with_reducible refine wp_not ?_) | (with_reducible refine wp_and ?_) | (with_reducible refine wp_or ?_) | (with_reducible refine wp_andV ?_) | (with_reducible refine wp_orV ?_) | (with_reducible refine wp_notV ?_) | (with_reducible refine wp_if ?_) | (with_reducible refine wp_tup ?_) | (with_reducible refine wp_lst ?_) | (with_reducible refine wp_lstM ?_) | (with_reducible refine wp_bm ?_) | (with_reducible refine wp_sl ?_) | (with_reducible refine wp_noP ?_) | (with_reducible refine wp_part ?_) | (with_reducible refine wp_chain ?_) | (with_reducible refine wp_fld ?_) | (with_reducible refine wp_make ?_) | (with_reducible refine wp_range ?_) | (with_reducible refine wp_items ?_) | (with_reducible refine wp_zip ?_) | (with_reducible refine wp_enum ?_) | (with_reducible refine wp_yes ?_) | (with_reducible refine wp_star ?_) | (with_reducible refine wp_callV ?_) | (with_reducible refine wp_makeV ?_) | (with_reducible refine wp_meth ?_) | (with_reducible refine wp_retN ?_) | (with_reducible refine wp_cm ?_) | (with_reducible refine wp_asgG ?_) | (with_reducible refine ex_int ?_) | (with_reducible refine wp_opM ?_) | (with_reducible refine wp_prop ?_) | (with_reducible refine wp_tr ?_) | (with_reducible refine wp_bm0 ?_) | (with_reducible refine lK_rt ?_) | (((with_reducible apply ex_of); · walk_at "wop")) | (((with_reducible apply ex_fld); · rfl; · rfl; · rfl)) | (((with_reducible apply And.intro); · first | rfl | decide | (simp; done))))
/-! draws -/
end J
set_option Elab.async false
set_option linter.all false
set_option maxRecDepth 100000
set_option maxHeartbeats 1010000
/-! VC: filling within bounds, as the program runs it -/
namespace J
local macro_rules | `(tactic| walk_at "wop") => `(tactic| first | (with_reducible exact addD_int) | (with_reducible exact subI_int) | (with_reducible exact eqD_int) | (with_reducible exact eqD_str) | (with_reducible exact eqD_bl) | (with_reducible exact neD_int) | (with_reducible exact neD_str) | (with_reducible exact neD_bl) | (with_reducible exact ltI_int) | (with_reducible exact leI_int) | (with_reducible exact gtI_int) | (with_reducible exact geI_int) | (with_reducible exact lenD_tup) | (with_reducible exact tup_lst) | (with_reducible exact addD_str (by first | omega | (simp; done) | (simp; omega))) | (with_reducible exact lenD_str (by first | omega | (simp; done) | (simp; omega))) | (with_reducible exact lenD_lst (by first | omega | (simp; done) | (simp; omega))) | (with_reducible exact slD_str (by first | omega | (simp; done) | (simp; omega))) | (with_reducible exact addD_list (by first | omega | (simp; done) | (simp; omega))) | (with_reducible exact range1_map (S := ⟨[], 0⟩) (by first | omega | (simp; done) | (simp; omega))) | (with_reducible exact addD_tupA (by first | omega | (simp; done) | (simp; omega))) | (exact rfl))
local macro_rules | `(tactic| walk_at "wx1") => `(tactic| first | (((with_reducible apply wp_var); · rfl)) | (with_reducible refine wp_seq ?_) | (with_reducible refine sK_nx ?_) | (with_reducible refine sK_rt ?_) | (with_reducible refine dK_rt ?_) | (with_reducible refine wp_c ?_) | (with_reducible refine wp_asg ?_) | (with_reducible refine wp_par ?_) | (with_reducible refine wp_par3 ?_) | (with_reducible refine wp_ifS ?_) | (with_reducible refine wp_retS ?_) | (with_reducible refine wp_expr ?_) | (with_reducible refine wp_next ?_) | (with_reducible refine wp_op ?_) | (with_reducible refine wp_cons ?_) | (with_reducible refine wp_nil ?_) | (with_reducible refine wp_call ?_) | (with_reducible refine wp_cb ?_) | (with_reducible refine wp_tst ?_) | (with_reducible refine wp_not ?_) | (with_reducible refine wp_and ?_) | (with_reducible refine wp_or ?_) | (with_reducible refine wp_andV ?_) | (with_reducible refine wp_orV ?_) | (with_reducible refine wp_notV ?_) | (with_reducible refine wp_if ?_) | (with_reducible refine wp_tup ?_) | (with_reducible refine wp_lst ?_) | (with_reducible refine wp_lstM ?_) | (with_reducible refine wp_bm ?_) | (with_reducible refine wp_sl ?_) | (with_reducible refine wp_noP ?_) | (with_reducible refine wp_part ?_) | (with_reducible refine wp_chain ?_) | (with_reducible refine wp_fld ?_) | (with_reducible refine wp_make ?_) | (with_reducible refine wp_range ?_) | (with_reducible refine wp_items ?_) | (with_reducible refine wp_zip ?_) | (with_reducible refine wp_enum ?_) | (with_reducible refine wp_yes ?_) | (with_reducible refine wp_star ?_) | (with_reducible refine wp_callV ?_) | (with_reducible refine wp_makeV ?_) | (with_reducible refine wp_meth ?_) | (with_reducible refine wp_retN ?_) | (with_reducible refine wp_cm ?_) | (with_reducible refine wp_asgG ?_) | (with_reducible refine ex_int ?_) | (with_reducible refine wp_opM ?_) | (with_reducible refine wp_prop ?_) | (with_reducible refine wp_tr ?_) | (with_reducible refine wp_bm0 ?_) | (with_reducible refine lK_rt ?_) | (((with_reducible apply ex_of); · walk_at "wop")) | (((with_reducible apply ex_fld); · rfl; · rfl; · rfl)) | (((with_reducible apply And.intro); · first | rfl | decide | (simp; done))))
/-! ### what stands in the store -/
structure Ks (A : List Nat) (S S' : Store) : Prop where
  next : S.next ≤ S'.next
  get : ∀ m, m < S.next → m ∉ A → S'.get m = S.get m
theorem Ks.refl (A : List Nat) (S : Store) : Ks A S S := ⟨Nat.le_refl _, fun _ _ _ => rfl⟩
theorem Ks.trans {A : List Nat} {S S1 S2 : Store} (h : Ks A S S1) (k : Ks A S1 S2) : Ks A S S2 := ⟨Nat.le_trans h.next k.next, fun m hm hn => (k.get m (Nat.lt_of_lt_of_le hm h.next) hn).trans (h.get m hm hn)⟩
theorem Ks.set {A : List Nat} {S : Store} {m : Nat} {o : MO} (h : m ∈ A) : Ks A S (S.set m o) := ⟨Nat.le_refl _, fun i _ hi => S.get_set_ne o fun e => hi (e ▸ h)⟩
theorem Ks.trim {A : List Nat} {S S' : Store} (h : Ks A S S') : Ks A S (S'.trim S.next) := ⟨h.next, fun m hm hn => by rw [Store.get_trim, if_pos hm]; exact h.get m hm hn⟩
theorem Ks.alloc {A : List Nat} {S : Store} {o : MO} : Ks A S (S.alloc o) := ⟨Nat.le_succ _, fun m hm _ => S.get_alloc_ne o (Nat.ne_of_lt hm)⟩
theorem Ks.sub {A B : List Nat} {S S' : Store} (h : Ks A S S') (k : ∀ m, m < S.next → m ∉ B → m ∉ A) : Ks B S S' := ⟨h.next, fun m hm hn => h.get m hm (k m hm hn)⟩
theorem Ks.kq {S S' : Store} (h : Ks [] S S') : Kq S S' := ⟨h.next, fun m hm => h.get m hm (by simp)⟩
/-! ### give -/
structure SO (n : Nat) (s : List Nat) : Prop where
  nd : s.Nodup
  lt : ∀ p ∈ s, p < n
theorem SO.len {n : Nat} {s : List Nat} (h : SO n s) : s.length ≤ n := by
  have := (List.nodup_range (n := n)).length_le_of_subset (l₂ := s)
  have k := h.nd.length_le_of_subset (l₂ := List.range n) (fun p hp => List.mem_range.mpr (h.lt p hp))
  rwa [List.length_range] at k
end J
set_option Elab.async false
set_option linter.all false
set_option maxRecDepth 100000
set_option maxHeartbeats 1010000
/-! VD: take, fill -/
namespace J
local macro_rules | `(tactic| walk_at "wop") => `(tactic| first | (with_reducible exact addD_int) | (with_reducible exact subI_int) | (with_reducible exact eqD_int) | (with_reducible exact eqD_str) | (with_reducible exact eqD_bl) | (with_reducible exact neD_int) | (with_reducible exact neD_str) | (with_reducible exact neD_bl) | (with_reducible exact ltI_int) | (with_reducible exact leI_int) | (with_reducible exact gtI_int) | (with_reducible exact geI_int) | (with_reducible exact lenD_tup) | (with_reducible exact tup_lst) | (with_reducible exact addD_str (by first | omega | (simp; done) | (simp; omega))) | (with_reducible exact lenD_str (by first | omega | (simp; done) | (simp; omega))) | (with_reducible exact lenD_lst (by first | omega | (simp; done) | (simp; omega))) | (with_reducible exact slD_str (by first | omega | (simp; done) | (simp; omega))) | (with_reducible exact addD_list (by first | omega | (simp; done) | (simp; omega))) | (with_reducible exact range1_map (S := ⟨[], 0⟩) (by first | omega | (simp; done) | (simp; omega))) | (with_reducible exact addD_tupA (by first | omega | (simp; done) | (simp; omega))) | (exact rfl))
local macro_rules | `(tactic| walk_at "wx1") => `(tactic| first | (((with_reducible apply wp_var); · rfl)) | (with_reducible refine wp_seq ?_) | (with_reducible refine sK_nx ?_) | (with_reducible refine sK_rt ?_) | (with_reducible refine dK_rt ?_) | (with_reducible refine wp_c ?_) | (with_reducible refine wp_asg ?_) | (with_reducible refine wp_par ?_) | (with_reducible refine wp_par3 ?_) | (with_reducible refine wp_ifS ?_) | (with_reducible refine wp_retS ?_) | (with_reducible refine wp_expr ?_) | (with_reducible refine wp_next ?_) | (with_reducible refine wp_op ?_) | (with_reducible refine wp_cons ?_) | (with_reducible refine wp_nil ?_) | (with_reducible refine wp_call ?_) | (with_reducible refine wp_cb ?_) | (with_reducible refine wp_tst ?_) | (with_reducible refine wp_not ?_) | (with_reducible refine wp_and ?_) | (with_reducible refine wp_or ?_) | (with_reducible refine wp_andV ?_) | (with_reducible refine wp_orV ?_) | (with_reducible refine wp_notV ?_) | (with_reducible refine wp_if ?_) | (with_reducible refine wp_tup ?_) | (with_reducible refine wp_lst ?_) | (with_reducible refine wp_lstM ?_) | (with_reducible refine wp_bm ?_) | (with_reducible refine wp_sl ?_) | (with_reducible refine wp_noP ?_) | (with_reducible refine wp_part ?_) | (with_reducible refine wp_chain ?_) | (with_reducible refine wp_fld ?_) | (with_reducible refine wp_make ?_) | (with_reducible refine wp_range ?_) | (with_reducible refine wp_items ?_) | (with_reducible refine wp_zip ?_) | (with_reducible refine wp_enum ?_) | (with_reducible refine wp_yes ?_) | (with_reducible refine wp_star ?_) | (with_reducible refine wp_callV ?_) | (with_reducible refine wp_makeV ?_) | (with_reducible refine wp_meth ?_) | (with_reducible refine wp_retN ?_) | (with_reducible refine wp_cm ?_) | (with_reducible refine wp_asgG ?_) | (with_reducible refine ex_int ?_) | (with_reducible refine wp_opM ?_) | (with_reducible refine wp_prop ?_) | (with_reducible refine wp_tr ?_) | (with_reducible refine wp_bm0 ?_) | (with_reducible refine lK_rt ?_) | (((with_reducible apply ex_of); · walk_at "wop")) | (((with_reducible apply ex_fld); · rfl; · rfl; · rfl)) | (((with_reducible apply And.intro); · first | rfl | decide | (simp; done))))
section
variable {T : Tab} (hT1 : T.fs 5 = [10, 11, 12]) {al : Nat → List Nat} {n : Nat} {lo : D} {hi : Nat → Nat} {L : List Nat} {fi nh nc : Nat}
structure SL (L s : List Nat) : Prop where
  nd : s.Nodup
  sub : ∀ c ∈ s, c ∈ L
theorem SL.len {s : List Nat} (h : SL L s) : s.length ≤ L.length := h.nd.length_le_of_subset h.sub
end
end J
set_option Elab.async false
set_option linter.all false
set_option maxRecDepth 100000
set_option maxHeartbeats 1010000
/-! VE: a filling made and filled; word_within -/
namespace J
local macro_rules | `(tactic| walk_at "wop") => `(tactic| first | (with_reducible exact addD_int) | (with_reducible exact subI_int) | (with_reducible exact eqD_int) | (with_reducible exact eqD_str) | (with_reducible exact eqD_bl) | (with_reducible exact neD_int) | (with_reducible exact neD_str) | (with_reducible exact neD_bl) | (with_reducible exact ltI_int) | (with_reducible exact leI_int) | (with_reducible exact gtI_int) | (with_reducible exact geI_int) | (with_reducible exact lenD_tup) | (with_reducible exact tup_lst) | (with_reducible exact addD_str (by first | omega | (simp; done) | (simp; omega))) | (with_reducible exact lenD_str (by first | omega | (simp; done) | (simp; omega))) | (with_reducible exact lenD_lst (by first | omega | (simp; done) | (simp; omega))) | (with_reducible exact slD_str (by first | omega | (simp; done) | (simp; omega))) | (with_reducible exact addD_list (by first | omega | (simp; done) | (simp; omega))) | (with_reducible exact range1_map (S := ⟨[], 0⟩) (by first | omega | (simp; done) | (simp; omega))) | (with_reducible exact addD_tupA (by first | omega | (simp; done) | (simp; omega))) | (exact rfl))
local macro_rules | `(tactic| walk_at "wx1") => `(tactic| first | (((with_reducible apply wp_var); · rfl)) | (with_reducible refine wp_seq ?_) | (with_reducible refine sK_nx ?_) | (with_reducible refine sK_rt ?_) | (with_reducible refine dK_rt ?_) | (with_reducible refine wp_c ?_) | (with_reducible refine wp_asg ?_) | (with_reducible refine wp_par ?_) | (with_reducible refine wp_par3 ?_) | (with_reducible refine wp_ifS ?_) | (with_reducible refine wp_retS ?_) | (with_reducible refine wp_expr ?_) | (with_reducible refine wp_next ?_) | (with_reducible refine wp_op ?_) | (with_reducible refine wp_cons ?_) | (with_reducible refine wp_nil ?_) | (with_reducible refine wp_call ?_) | (with_reducible refine wp_cb ?_) | (with_reducible refine wp_tst ?_) | (with_reducible refine wp_not ?_) | (with_reducible refine wp_and ?_) | (with_reducible refine wp_or ?_) | (with_reducible refine wp_andV ?_) | (with_reducible refine wp_orV ?_) | (with_reducible refine wp_notV ?_) | (with_reducible refine wp_if ?_) | (with_reducible refine wp_tup ?_) | (with_reducible refine wp_lst ?_) | (with_reducible refine wp_lstM ?_) | (with_reducible refine wp_bm ?_) | (with_reducible refine wp_sl ?_) | (with_reducible refine wp_noP ?_) | (with_reducible refine wp_part ?_) | (with_reducible refine wp_chain ?_) | (with_reducible refine wp_fld ?_) | (with_reducible refine wp_make ?_) | (with_reducible refine wp_range ?_) | (with_reducible refine wp_items ?_) | (with_reducible refine wp_zip ?_) | (with_reducible refine wp_enum ?_) | (with_reducible refine wp_yes ?_) | (with_reducible refine wp_star ?_) | (with_reducible refine wp_callV ?_) | (with_reducible refine wp_makeV ?_) | (with_reducible refine wp_meth ?_) | (with_reducible refine wp_retN ?_) | (with_reducible refine wp_cm ?_) | (with_reducible refine wp_asgG ?_) | (with_reducible refine ex_int ?_) | (with_reducible refine wp_opM ?_) | (with_reducible refine wp_prop ?_) | (with_reducible refine wp_tr ?_) | (with_reducible refine wp_bm0 ?_) | (with_reducible refine lK_rt ?_) | (((with_reducible apply ex_of); · walk_at "wop")) | (((with_reducible apply ex_fld); · rfl; · rfl; · rfl)) | (((with_reducible apply And.intro); · first | rfl | decide | (simp; done))))
end J
set_option Elab.async false
set_option linter.all false
set_option maxRecDepth 100000
set_option maxHeartbeats 1010000
/-! VF: fill, word_within -/
namespace J
local macro_rules | `(tactic| walk_at "wop") => `(tactic| first | (with_reducible exact addD_int) | (with_reducible exact subI_int) | (with_reducible exact eqD_int) | (with_reducible exact eqD_str) | (with_reducible exact eqD_bl) | (with_reducible exact neD_int) | (with_reducible exact neD_str) | (with_reducible exact neD_bl) | (with_reducible exact ltI_int) | (with_reducible exact leI_int) | (with_reducible exact gtI_int) | (with_reducible exact geI_int) | (with_reducible exact lenD_tup) | (with_reducible exact tup_lst) | (with_reducible exact addD_str (by first | omega | (simp; done) | (simp; omega))) | (with_reducible exact lenD_str (by first | omega | (simp; done) | (simp; omega))) | (with_reducible exact lenD_lst (by first | omega | (simp; done) | (simp; omega))) | (with_reducible exact slD_str (by first | omega | (simp; done) | (simp; omega))) | (with_reducible exact addD_list (by first | omega | (simp; done) | (simp; omega))) | (with_reducible exact range1_map (S := ⟨[], 0⟩) (by first | omega | (simp; done) | (simp; omega))) | (with_reducible exact addD_tupA (by first | omega | (simp; done) | (simp; omega))) | (exact rfl))
local macro_rules | `(tactic| walk_at "wx1") => `(tactic| first | (((with_reducible apply wp_var); · rfl)) | (with_reducible refine wp_seq ?_) | (with_reducible refine sK_nx ?_) | (with_reducible refine sK_rt ?_) | (with_reducible refine dK_rt ?_) | (with_reducible refine wp_c ?_) | (with_reducible refine wp_asg ?_) | (with_reducible refine wp_par ?_) | (with_reducible refine wp_par3 ?_) | (with_reducible refine wp_ifS ?_) | (with_reducible refine wp_retS ?_) | (with_reducible refine wp_expr ?_) | (with_reducible refine wp_next ?_) | (with_reducible refine wp_op ?_) | (with_reducible refine wp_cons ?_) | (with_reducible refine wp_nil ?_) | (with_reducible refine wp_call ?_) | (with_reducible refine wp_cb ?_) | (with_reducible refine wp_tst ?_) | (with_reducible refine wp_not ?_) | (with_reducible refine wp_and ?_) | (with_reducible refine wp_or ?_) | (with_reducible refine wp_andV ?_) | (with_reducible refine wp_orV ?_) | (with_reducible refine wp_notV ?_) | (with_reducible refine wp_if ?_) | (with_reducible refine wp_tup ?_) | (with_reducible refine wp_lst ?_) | (with_reducible refine wp_lstM ?_) | (with_reducible refine wp_bm ?_) | (with_reducible refine wp_sl ?_) | (with_reducible refine wp_noP ?_) | (with_reducible refine wp_part ?_) | (with_reducible refine wp_chain ?_) | (with_reducible refine wp_fld ?_) | (with_reducible refine wp_make ?_) | (with_reducible refine wp_range ?_) | (with_reducible refine wp_items ?_) | (with_reducible refine wp_zip ?_) | (with_reducible refine wp_enum ?_) | (with_reducible refine wp_yes ?_) | (with_reducible refine wp_star ?_) | (with_reducible refine wp_callV ?_) | (with_reducible refine wp_makeV ?_) | (with_reducible refine wp_meth ?_) | (with_reducible refine wp_retN ?_) | (with_reducible refine wp_cm ?_) | (with_reducible refine wp_asgG ?_) | (with_reducible refine ex_int ?_) | (with_reducible refine wp_opM ?_) | (with_reducible refine wp_prop ?_) | (with_reducible refine wp_tr ?_) | (with_reducible refine wp_bm0 ?_) | (with_reducible refine lK_rt ?_) | (((with_reducible apply ex_of); · walk_at "wop")) | (((with_reducible apply ex_fld); · rfl; · rfl; · rfl)) | (((with_reducible apply And.intro); · first | rfl | decide | (simp; done))))
end J
set_option Elab.async false
set_option linter.all false
set_option maxRecDepth 100000
set_option maxHeartbeats 1010000
/-! VG: word_within, can_come -/
namespace J
local macro_rules | `(tactic| walk_at "wop") => `(tactic| first | (with_reducible exact addD_int) | (with_reducible exact subI_int) | (with_reducible exact eqD_int) | (with_reducible exact eqD_str) | (with_reducible exact eqD_bl) | (with_reducible exact neD_int) | (with_reducible exact neD_str) | (with_reducible exact neD_bl) | (with_reducible exact ltI_int) | (with_reducible exact leI_int) | (with_reducible exact gtI_int) | (with_reducible exact geI_int) | (with_reducible exact lenD_tup) | (with_reducible exact tup_lst) | (with_reducible exact addD_str (by first | omega | (simp; done) | (simp; omega))) | (with_reducible exact lenD_str (by first | omega | (simp; done) | (simp; omega))) | (with_reducible exact lenD_lst (by first | omega | (simp; done) | (simp; omega))) | (with_reducible exact slD_str (by first | omega | (simp; done) | (simp; omega))) | (with_reducible exact addD_list (by first | omega | (simp; done) | (simp; omega))) | (with_reducible exact range1_map (S := ⟨[], 0⟩) (by first | omega | (simp; done) | (simp; omega))) | (with_reducible exact addD_tupA (by first | omega | (simp; done) | (simp; omega))) | (exact rfl))
local macro_rules | `(tactic| walk_at "wx1") => `(tactic| first | (((with_reducible apply wp_var); · rfl)) | (with_reducible refine wp_seq ?_) | (with_reducible refine sK_nx ?_) | (with_reducible refine sK_rt ?_) | (with_reducible refine dK_rt ?_) | (with_reducible refine wp_c ?_) | (with_reducible refine wp_asg ?_) | (with_reducible refine wp_par ?_) | (with_reducible refine wp_par3 ?_) | (with_reducible refine wp_ifS ?_) | (with_reducible refine wp_retS ?_) | (with_reducible refine wp_expr ?_) | (with_reducible refine wp_next ?_) | (with_reducible refine wp_op ?_) | (with_reducible refine wp_cons ?_) | (with_reducible refine wp_nil ?_) | (with_reducible refine wp_call ?_) | (with_reducible refine wp_cb ?_) | (with_reducible refine wp_tst ?_) | (with_reducible refine wp_not ?_) | (with_reducible refine wp_and ?_) | (with_reducible refine wp_or ?_) | (with_reducible refine wp_andV ?_) | (with_reducible refine wp_orV ?_) | (with_reducible refine wp_notV ?_) | (with_reducible refine wp_if ?_) | (with_reducible refine wp_tup ?_) | (with_reducible refine wp_lst ?_) | (with_reducible refine wp_lstM ?_) | (with_reducible refine wp_bm ?_) | (with_reducible refine wp_sl ?_) | (with_reducible refine wp_noP ?_) | (with_reducible refine wp_part ?_) | (with_reducible refine wp_chain ?_) | (with_reducible refine wp_fld ?_) | (with_reducible refine wp_make ?_) | (with_reducible refine wp_range ?_) | (with_reducible refine wp_items ?_) | (with_reducible refine wp_zip ?_) | (with_reducible refine wp_enum ?_) | (with_reducible refine wp_yes ?_) | (with_reducible refine wp_star ?_) | (with_reducible refine wp_callV ?_) | (with_reducible refine wp_makeV ?_) | (with_reducible refine wp_meth ?_) | (with_reducible refine wp_retN ?_) | (with_reducible refine wp_cm ?_) | (with_reducible refine wp_asgG ?_) | (with_reducible refine ex_int ?_) | (with_reducible refine wp_opM ?_) | (with_reducible refine wp_prop ?_) | (with_reducible refine wp_tr ?_) | (with_reducible refine wp_bm0 ?_) | (with_reducible refine lK_rt ?_) | (((with_reducible apply ex_of); · walk_at "wop")) | (((with_reducible apply ex_fld); · rfl; · rfl; · rfl)) | (((with_reducible apply And.intro); · first | rfl | decide | (simp; done))))
end J
set_option Elab.async false
set_option linter.all false
set_option maxRecDepth 100000
set_option maxHeartbeats 1010000
/-! VH: draws of the first family as runs; boards, marks, can_come -/
namespace J
local macro_rules | `(tactic| walk_at "wop") => `(tactic| first | (with_reducible exact addD_int) | (with_reducible exact subI_int) | (with_reducible exact eqD_int) | (with_reducible exact eqD_str) | (with_reducible exact eqD_bl) | (with_reducible exact neD_int) | (with_reducible exact neD_str) | (with_reducible exact neD_bl) | (with_reducible exact ltI_int) | (with_reducible exact leI_int) | (with_reducible exact gtI_int) | (with_reducible exact geI_int) | (with_reducible exact lenD_tup) | (with_reducible exact tup_lst) | (with_reducible exact addD_str (by first | omega | (simp; done) | (simp; omega))) | (with_reducible exact lenD_str (by first | omega | (simp; done) | (simp; omega))) | (with_reducible exact lenD_lst (by first | omega | (simp; done) | (simp; omega))) | (with_reducible exact slD_str (by first | omega | (simp; done) | (simp; omega))) | (with_reducible exact addD_list (by first | omega | (simp; done) | (simp; omega))) | (with_reducible exact range1_map (S := ⟨[], 0⟩) (by first | omega | (simp; done) | (simp; omega))) | (with_reducible exact addD_tupA (by first | omega | (simp; done) | (simp; omega))) | (exact rfl))
local macro_rules | `(tactic| walk_at "wx1") => `(tactic| first | (((with_reducible apply wp_var); · rfl)) | (with_reducible refine wp_seq ?_) | (with_reducible refine sK_nx ?_) | (with_reducible refine sK_rt ?_) | (with_reducible refine dK_rt ?_) | (with_reducible refine wp_c ?_) | (with_reducible refine wp_asg ?_) | (with_reducible refine wp_par ?_) | (with_reducible refine wp_par3 ?_) | (with_reducible refine wp_ifS ?_) | (with_reducible refine wp_retS ?_) | (with_reducible refine wp_expr ?_) | (with_reducible refine wp_next ?_) | (with_reducible refine wp_op ?_) | (with_reducible refine wp_cons ?_) | (with_reducible refine wp_nil ?_) | (with_reducible refine wp_call ?_) | (with_reducible refine wp_cb ?_) | (with_reducible refine wp_tst ?_) | (with_reducible refine wp_not ?_) | (with_reducible refine wp_and ?_) | (with_reducible refine wp_or ?_) | (with_reducible refine wp_andV ?_) | (with_reducible refine wp_orV ?_) | (with_reducible refine wp_notV ?_) | (with_reducible refine wp_if ?_) | (with_reducible refine wp_tup ?_) | (with_reducible refine wp_lst ?_) | (with_reducible refine wp_lstM ?_) | (with_reducible refine wp_bm ?_) | (with_reducible refine wp_sl ?_) | (with_reducible refine wp_noP ?_) | (with_reducible refine wp_part ?_) | (with_reducible refine wp_chain ?_) | (with_reducible refine wp_fld ?_) | (with_reducible refine wp_make ?_) | (with_reducible refine wp_range ?_) | (with_reducible refine wp_items ?_) | (with_reducible refine wp_zip ?_) | (with_reducible refine wp_enum ?_) | (with_reducible refine wp_yes ?_) | (with_reducible refine wp_star ?_) | (with_reducible refine wp_callV ?_) | (with_reducible refine wp_makeV ?_) | (with_reducible refine wp_meth ?_) | (with_reducible refine wp_retN ?_) | (with_reducible refine wp_cm ?_) | (with_reducible refine wp_asgG ?_) | (with_reducible refine ex_int ?_) | (with_reducible refine wp_opM ?_) | (with_reducible refine wp_prop ?_) | (with_reducible refine wp_tr ?_) | (with_reducible refine wp_bm0 ?_) | (with_reducible refine lK_rt ?_) | (((with_reducible apply ex_of); · walk_at "wop")) | (((with_reducible apply ex_fld); · rfl; · rfl; · rfl)) | (((with_reducible apply And.intro); · first | rfl | decide | (simp; done))))
section
variable {S : Store} {n : Nat} {L : List (Nat × MO)} {Q : D → Store → Prop}
theorem ofl_w {xs : List D} (kn : Kn S n L) (h0 : 0 < xs.length) (h1 : xs.length ≤ 1000) (h : ∀ (d : D) (S' : Store), d ∈ xs → Kn S' n L → Q d S') : Wp (dOf [.ref n, .lst xs]) S Q := by
  obtain ⟨d, S1, e, hc, b, kp⟩ := of_lst kn.bw h0 h1
  exact wp_ok e (h d S1 hc (kn.kp kp b))
end
/-! ### texts compared -/
/-! ### marks that are all hits -/
end J
set_option Elab.async false
set_option linter.all false
set_option maxRecDepth 100000
set_option maxHeartbeats 1010000
/-! VI: cuts between statements, ends -/
namespace J
section
variable {S : Store} {ρ : Rho} {QF : Fl → Store → Prop}
theorem wp_callK {n : Nat} {pm : List Nat} {f : List D → M D} {ia : IA} {Q : D → Store → Prop} (h : Wp (ia ρ) S fun xs S1 => (xs.length = n ∧ (pickL pm xs).length = pm.length) ∧ Wp (f (pickL pm xs)) S1 Q) : Wp (iCallK n pm f ia ρ) S Q :=
  wp_bind (h.imp fun _ _ ⟨e, k⟩ => by rw [if_pos e]; exact k)
theorem wp_makeK {T : Tab} {z : Bool} {c k n : Nat} {pm : List Nat} {f : List D → M D} {ia : IA} {Q : D → Store → Prop} (h : Wp (ia ρ) S fun xs S1 => (xs.length = n ∧ (pickL pm xs).length = pm.length) ∧ Wp (makeD T z c k f (pickL pm xs)) S1 Q) : Wp (iMakeK T z c k n pm f ia ρ) S Q :=
  wp_bind (h.imp fun _ _ ⟨e, k⟩ => by rw [if_pos e]; exact k)
theorem wp_methK {T : Tab} {c m n : Nat} {pm : List Nat} {f : List D → M D} {a : IE} {ia : IA} {Q : D → Store → Prop} (h : Wp (a ρ) S fun o S1 => ∃ fs, insOf T o S1 = some (c, fs) ∧ getF m fs = none ∧ Wp (ia ρ) S1 fun xs S2 => (xs.length = n ∧ (pickL pm xs).length = pm.length) ∧ Wp (f (o :: pickL pm xs)) S2 Q) : Wp (iMethK T c m n pm f a ia ρ) S Q :=
  wp_bind (h.imp fun o S1 ⟨fs, e1, e2, k⟩ => by
    obtain ⟨d, S3, e3, q⟩ := wp_bind (k.imp fun xs _ ⟨e, k⟩ => show Wp (if xs.length = n ∧ (pickL pm xs).length = pm.length then f (o :: pickL pm xs) else M.no) _ Q by rw [if_pos e]; exact k)
    refine ⟨d, S3, ?_, q⟩
    show (match insOf T o S1 with | some (c', fs) => if c' = c ∧ getF m fs = none then M.bind (ia ρ) (fun xs => if xs.length = n ∧ (pickL pm xs).length = pm.length then f (o :: pickL pm xs) else M.no) S1 else .no | none => .no) = _
    rw [e1]
    dsimp only
    rw [if_pos ⟨rfl, e2⟩]
    exact e3)
theorem run_of {f : List D → M D} {ds : List D} {d : D} (h : Wp (f ds) S fun d' _ => d' = d) : ∃ S', f ds S = .ok d S' := by
  obtain ⟨a, S', e, rfl⟩ := h
  exact ⟨S', e⟩
end
end J
set_option Elab.async false
set_option linter.all false
set_option maxRecDepth 100000
set_option maxHeartbeats 1010000
/-! VJ: all words (first family); loops over what is drawn -/
namespace J
local macro_rules | `(tactic| walk_at "wop") => `(tactic| first | (with_reducible exact addD_int) | (with_reducible exact subI_int) | (with_reducible exact eqD_int) | (with_reducible exact eqD_str) | (with_reducible exact eqD_bl) | (with_reducible exact neD_int) | (with_reducible exact neD_str) | (with_reducible exact neD_bl) | (with_reducible exact ltI_int) | (with_reducible exact leI_int) | (with_reducible exact gtI_int) | (with_reducible exact geI_int) | (with_reducible exact lenD_tup) | (with_reducible exact tup_lst) | (with_reducible exact addD_str (by first | omega | (simp; done) | (simp; omega))) | (with_reducible exact lenD_str (by first | omega | (simp; done) | (simp; omega))) | (with_reducible exact lenD_lst (by first | omega | (simp; done) | (simp; omega))) | (with_reducible exact slD_str (by first | omega | (simp; done) | (simp; omega))) | (with_reducible exact addD_list (by first | omega | (simp; done) | (simp; omega))) | (with_reducible exact range1_map (S := ⟨[], 0⟩) (by first | omega | (simp; done) | (simp; omega))) | (with_reducible exact addD_tupA (by first | omega | (simp; done) | (simp; omega))) | (exact rfl))
local macro_rules | `(tactic| walk_at "wx1") => `(tactic| first | (((with_reducible apply wp_var); · rfl)) | (with_reducible refine wp_seq ?_) | (with_reducible refine wp_callK ?_) | (with_reducible refine wp_makeK ?_) | (with_reducible refine wp_methK ?_) | (with_reducible refine sK_nx ?_) | (with_reducible refine sK_rt ?_) | (with_reducible refine dK_rt ?_) | (with_reducible refine wp_c ?_) | (with_reducible refine wp_asg ?_) | (with_reducible refine wp_par ?_) | (with_reducible refine wp_par3 ?_) | (with_reducible refine wp_ifS ?_) | (with_reducible refine wp_retS ?_) | (with_reducible refine wp_expr ?_) | (with_reducible refine wp_next ?_) | (with_reducible refine wp_op ?_) | (with_reducible refine wp_cons ?_) | (with_reducible refine wp_nil ?_) | (with_reducible refine wp_call ?_) | (with_reducible refine wp_cb ?_) | (with_reducible refine wp_tst ?_) | (with_reducible refine wp_not ?_) | (with_reducible refine wp_and ?_) | (with_reducible refine wp_or ?_) | (with_reducible refine wp_andV ?_) | (with_reducible refine wp_orV ?_) | (with_reducible refine wp_notV ?_) | (with_reducible refine wp_if ?_) | (with_reducible refine wp_tup ?_) | (with_reducible refine wp_lst ?_) | (with_reducible refine wp_lstM ?_) | (with_reducible refine wp_bm ?_) | (with_reducible refine wp_sl ?_) | (with_reducible refine wp_noP ?_) | (with_reducible refine wp_part ?_) | (with_reducible refine wp_chain ?_) | (with_reducible refine wp_fld ?_) | (with_reducible refine wp_make ?_) | (with_reducible refine wp_range ?_) | (with_reducible refine wp_items ?_) | (with_reducible refine wp_zip ?_) | (with_reducible refine wp_enum ?_) | (with_reducible refine wp_yes ?_) | (with_reducible refine wp_star ?_) | (with_reducible refine wp_callV ?_) | (with_reducible refine wp_makeV ?_) | (with_reducible refine wp_meth ?_) | (with_reducible refine wp_retN ?_) | (with_reducible refine wp_cm ?_) | (with_reducible refine wp_asgG ?_) | (with_reducible refine ex_int ?_) | (with_reducible refine wp_opM ?_) | (with_reducible refine wp_prop ?_) | (with_reducible refine wp_tr ?_) | (with_reducible refine wp_bm0 ?_) | (with_reducible refine lK_rt ?_) | (((with_reducible apply ex_of); · walk_at "wop")) | (((with_reducible apply ex_fld); · rfl; · rfl; · rfl)) | (((with_reducible apply And.intro); · first | rfl | exact ⟨rfl, rfl⟩ | decide | (simp; done))))
end J
set_option Elab.async false
set_option linter.all false
set_option maxRecDepth 100000
set_option maxHeartbeats 1010000
/-! VK: tables -/
namespace J
local macro_rules | `(tactic| walk_at "wop") => `(tactic| first | (with_reducible exact addD_int) | (with_reducible exact subI_int) | (with_reducible exact eqD_int) | (with_reducible exact eqD_str) | (with_reducible exact eqD_bl) | (with_reducible exact neD_int) | (with_reducible exact neD_str) | (with_reducible exact neD_bl) | (with_reducible exact ltI_int) | (with_reducible exact leI_int) | (with_reducible exact gtI_int) | (with_reducible exact geI_int) | (with_reducible exact lenD_tup) | (with_reducible exact tup_lst) | (with_reducible exact addD_str (by first | omega | (simp; done) | (simp; omega))) | (with_reducible exact lenD_str (by first | omega | (simp; done) | (simp; omega))) | (with_reducible exact lenD_lst (by first | omega | (simp; done) | (simp; omega))) | (with_reducible exact slD_str (by first | omega | (simp; done) | (simp; omega))) | (with_reducible exact addD_list (by first | omega | (simp; done) | (simp; omega))) | (with_reducible exact range1_map (S := ⟨[], 0⟩) (by first | omega | (simp; done) | (simp; omega))) | (with_reducible exact addD_tupA (by first | omega | (simp; done) | (simp; omega))) | (exact rfl))
local macro_rules | `(tactic| walk_at "wx1") => `(tactic| first | (((with_reducible apply wp_var); · rfl)) | (with_reducible refine wp_seq ?_) | (with_reducible refine wp_callK ?_) | (with_reducible refine wp_makeK ?_) | (with_reducible refine wp_methK ?_) | (with_reducible refine sK_nx ?_) | (with_reducible refine sK_rt ?_) | (with_reducible refine dK_rt ?_) | (with_reducible refine wp_c ?_) | (with_reducible refine wp_asg ?_) | (with_reducible refine wp_par ?_) | (with_reducible refine wp_par3 ?_) | (with_reducible refine wp_ifS ?_) | (with_reducible refine wp_retS ?_) | (with_reducible refine wp_expr ?_) | (with_reducible refine wp_next ?_) | (with_reducible refine wp_op ?_) | (with_reducible refine wp_cons ?_) | (with_reducible refine wp_nil ?_) | (with_reducible refine wp_call ?_) | (with_reducible refine wp_cb ?_) | (with_reducible refine wp_tst ?_) | (with_reducible refine wp_not ?_) | (with_reducible refine wp_and ?_) | (with_reducible refine wp_or ?_) | (with_reducible refine wp_andV ?_) | (with_reducible refine wp_orV ?_) | (with_reducible refine wp_notV ?_) | (with_reducible refine wp_if ?_) | (with_reducible refine wp_tup ?_) | (with_reducible refine wp_lst ?_) | (with_reducible refine wp_lstM ?_) | (with_reducible refine wp_bm ?_) | (with_reducible refine wp_sl ?_) | (with_reducible refine wp_noP ?_) | (with_reducible refine wp_part ?_) | (with_reducible refine wp_chain ?_) | (with_reducible refine wp_fld ?_) | (with_reducible refine wp_make ?_) | (with_reducible refine wp_range ?_) | (with_reducible refine wp_items ?_) | (with_reducible refine wp_zip ?_) | (with_reducible refine wp_enum ?_) | (with_reducible refine wp_yes ?_) | (with_reducible refine wp_star ?_) | (with_reducible refine wp_callV ?_) | (with_reducible refine wp_makeV ?_) | (with_reducible refine wp_meth ?_) | (with_reducible refine wp_retN ?_) | (with_reducible refine wp_cm ?_) | (with_reducible refine wp_asgG ?_) | (with_reducible refine ex_int ?_) | (with_reducible refine wp_opM ?_) | (with_reducible refine wp_prop ?_) | (with_reducible refine wp_tr ?_) | (with_reducible refine wp_bm0 ?_) | (with_reducible refine lK_rt ?_) | (((with_reducible apply ex_of); · walk_at "wop")) | (((with_reducible apply ex_fld); · rfl; · rfl; · rfl)) | (((with_reducible apply And.intro); · first | rfl | exact ⟨rfl, rfl⟩ | decide | (simp; done))))
abbrev Tb := Option (List (List Nat) × List (Nat × Nat))
end J
set_option Elab.async false
set_option linter.all false
set_option maxRecDepth 100000
set_option maxHeartbeats 1010000
/-! VL: tables compared; the words that are left (first family) -/
namespace J
local macro_rules | `(tactic| walk_at "wop") => `(tactic| first | (with_reducible exact addD_int) | (with_reducible exact subI_int) | (with_reducible exact eqD_int) | (with_reducible exact eqD_str) | (with_reducible exact eqD_bl) | (with_reducible exact neD_int) | (with_reducible exact neD_str) | (with_reducible exact neD_bl) | (with_reducible exact ltI_int) | (with_reducible exact leI_int) | (with_reducible exact gtI_int) | (with_reducible exact geI_int) | (with_reducible exact lenD_tup) | (with_reducible exact tup_lst) | (with_reducible exact addD_str (by first | omega | (simp; done) | (simp; omega))) | (with_reducible exact lenD_str (by first | omega | (simp; done) | (simp; omega))) | (with_reducible exact lenD_lst (by first | omega | (simp; done) | (simp; omega))) | (with_reducible exact slD_str (by first | omega | (simp; done) | (simp; omega))) | (with_reducible exact addD_list (by first | omega | (simp; done) | (simp; omega))) | (with_reducible exact range1_map (S := ⟨[], 0⟩) (by first | omega | (simp; done) | (simp; omega))) | (with_reducible exact addD_tupA (by first | omega | (simp; done) | (simp; omega))) | (exact rfl))
local macro_rules | `(tactic| walk_at "wx1") => `(tactic| first | (((with_reducible apply wp_var); · rfl)) | (with_reducible refine wp_seq ?_) | (with_reducible refine wp_callK ?_) | (with_reducible refine wp_makeK ?_) | (with_reducible refine wp_methK ?_) | (with_reducible refine sK_nx ?_) | (with_reducible refine sK_rt ?_) | (with_reducible refine dK_rt ?_) | (with_reducible refine wp_c ?_) | (with_reducible refine wp_asg ?_) | (with_reducible refine wp_par ?_) | (with_reducible refine wp_par3 ?_) | (with_reducible refine wp_ifS ?_) | (with_reducible refine wp_retS ?_) | (with_reducible refine wp_expr ?_) | (with_reducible refine wp_next ?_) | (with_reducible refine wp_op ?_) | (with_reducible refine wp_cons ?_) | (with_reducible refine wp_nil ?_) | (with_reducible refine wp_call ?_) | (with_reducible refine wp_cb ?_) | (with_reducible refine wp_tst ?_) | (with_reducible refine wp_not ?_) | (with_reducible refine wp_and ?_) | (with_reducible refine wp_or ?_) | (with_reducible refine wp_andV ?_) | (with_reducible refine wp_orV ?_) | (with_reducible refine wp_notV ?_) | (with_reducible refine wp_if ?_) | (with_reducible refine wp_tup ?_) | (with_reducible refine wp_lst ?_) | (with_reducible refine wp_lstM ?_) | (with_reducible refine wp_bm ?_) | (with_reducible refine wp_sl ?_) | (with_reducible refine wp_noP ?_) | (with_reducible refine wp_part ?_) | (with_reducible refine wp_chain ?_) | (with_reducible refine wp_fld ?_) | (with_reducible refine wp_make ?_) | (with_reducible refine wp_range ?_) | (with_reducible refine wp_items ?_) | (with_reducible refine wp_zip ?_) | (with_reducible refine wp_enum ?_) | (with_reducible refine wp_yes ?_) | (with_reducible refine wp_star ?_) | (with_reducible refine wp_callV ?_) | (with_reducible refine wp_makeV ?_) | (with_reducible refine wp_meth ?_) | (with_reducible refine wp_retN ?_) | (with_reducible refine wp_cm ?_) | (with_reducible refine wp_asgG ?_) | (with_reducible refine ex_int ?_) | (with_reducible refine wp_opM ?_) | (with_reducible refine wp_prop ?_) | (with_reducible refine wp_tr ?_) | (with_reducible refine wp_bm0 ?_) | (with_reducible refine lK_rt ?_) | (((with_reducible apply ex_of); · walk_at "wop")) | (((with_reducible apply ex_fld); · rfl; · rfl; · rfl)) | (((with_reducible apply And.intro); · first | rfl | exact ⟨rfl, rfl⟩ | decide | (simp; done))))
end J
set_option Elab.async false
set_option linter.all false
set_option maxRecDepth 100000
set_option maxHeartbeats 1010000
/-! VN: the program's counting -/
namespace J
def isFree (T : Tab) : IS := (sRet (iAndV (iOp eqD (iOp dgetD (iFld T [5] 11 (iVar 0)) (iVar 1)) (iC (.int 0))) (iOp geI (iOp dgetD (iFld T [5] 12 (iVar 0)) (iVar 1)) (iCB lenD (iCons (iFld T [5] 10 (iVar 0)) iNil)))))
def dFree (T : Tab) : List D → M D := defJ 2 false (isFree T)
end J
set_option Elab.async false
set_option linter.all false
set_option maxRecDepth 100000
set_option maxHeartbeats 1010000
/-! VO: the dict of places -/
namespace J
end J
set_option Elab.async false
set_option linter.all false
set_option maxRecDepth 100000
set_option maxHeartbeats 1010000
/-! VP: after_letter -/
namespace J
def bD (al : List (List Nat)) (l : List Nat) (lo hi : Nat → Nat) : D := bnds (.lst (al.map D.str)) (dictD l fun c => .int (lo c : Int)) (dictD l fun c => .int (hi c : Int))
end J
set_option Elab.async false
set_option linter.all false
set_option maxRecDepth 100000
set_option maxHeartbeats 1010000
/-! VQ: what after_letter keeps -/
namespace J
open Cnt
end J
set_option Elab.async false
set_option linter.all false
set_option maxRecDepth 100000
set_option maxHeartbeats 1010000
/-! VR: number_within: its parts -/
namespace J
open Cnt
section
variable {S0 : Store} (T : Tab) {al : List (List Nat)} {l : List Nat} {lo hi : Nat → Nat} {c : Nat}
def freeB (al : List (List Nat)) (lo hi : Nat → Nat) (c : Nat) : Bool := decide (lo c = 0) && decide (al.length ≤ hi c)
theorem free_ok (hT : T.fs 5 = [10, 11, 12]) (hc : c ∈ l) (ha : al.length ≤ 1000) : Gm S0 (dFree T [bD al l lo hi, .str [c]]) (.bl (freeB al lo hi c)) := by
  refine gd_def (gs_ret (gv_andV (a := decide (lo c = 0)) (b := decide (al.length ≤ hi c)) ?_ fun _ => ?_))
  · refine gv_op (gv_op (gv_lo T hT (gv_var rfl)) (gv_var rfl) fun S _ => dget_ok hc) gv_c fun S _ => ?_
    rw [eqD_int]
    congr 2
    exact decide_eq_decide.mpr ⟨fun h => by omega, fun h => by omega⟩
  · refine gv_op (gv_op (gv_hi T hT (gv_var rfl)) (gv_var rfl) fun S _ => dget_ok hc) (gv_cb1 (gv_al T hT (gv_var rfl)) fun S _ => lenD_lst (by rw [List.length_map]; omega)) fun S _ => ?_
    rw [geI_int, List.length_map]
    congr 2
    exact decide_eq_decide.mpr ⟨fun h => by omega, fun h => by omega⟩
end
end J
set_option Elab.async false
set_option linter.all false
set_option maxRecDepth 100000
set_option maxHeartbeats 1010000
/-! VS: number_within -/
namespace J
open Cnt
end J
set_option Elab.async false
set_option linter.all false
set_option maxRecDepth 100000
set_option maxHeartbeats 1010000
/-! VW: number_within gives the number of ways -/
namespace J
open Cnt
end J
set_option Elab.async false
set_option linter.all false
set_option maxRecDepth 100000
set_option maxHeartbeats 1010000
/-! VX: number_left -/
namespace J
open Cnt
end J
set_option Elab.async false
set_option linter.all false
set_option maxRecDepth 100000
set_option maxHeartbeats 1010000
/-! VY: the number of ways is the number of words that fit -/
namespace J
open Cnt
end J
set_option Elab.async false
set_option linter.all false
set_option maxRecDepth 100000
set_option maxHeartbeats 1010000
/-! VZ: draws of the counting laws -/
namespace J
def BwF (S : Store) (n : Nat) (f : Int) : Prop := n < S.next ∧ ∃ a b c : Int, S.get n = some (.lst [.int a, .int b, .int c]) ∧ 0 ≤ c ∧ c ≤ f
end J
set_option Elab.async false
set_option linter.all false
set_option maxRecDepth 100000
set_option maxHeartbeats 1010000
/-! VZa: the counting laws' draws, with lists that are being made -/
namespace J
local macro_rules | `(tactic| walk_at "wop") => `(tactic| first | (with_reducible exact addD_int) | (with_reducible exact subI_int) | (with_reducible exact eqD_int) | (with_reducible exact eqD_str) | (with_reducible exact eqD_bl) | (with_reducible exact neD_int) | (with_reducible exact neD_str) | (with_reducible exact neD_bl) | (with_reducible exact ltI_int) | (with_reducible exact leI_int) | (with_reducible exact gtI_int) | (with_reducible exact geI_int) | (with_reducible exact lenD_tup) | (with_reducible exact tup_lst) | (with_reducible exact addD_str (by first | omega | (simp; done) | (simp; omega))) | (with_reducible exact lenD_str (by first | omega | (simp; done) | (simp; omega))) | (with_reducible exact lenD_lst (by first | omega | (simp; done) | (simp; omega))) | (with_reducible exact slD_str (by first | omega | (simp; done) | (simp; omega))) | (with_reducible exact addD_list (by first | omega | (simp; done) | (simp; omega))) | (with_reducible exact range1_map (S := ⟨[], 0⟩) (by first | omega | (simp; done) | (simp; omega))) | (with_reducible exact addD_tupA (by first | omega | (simp; done) | (simp; omega))) | (exact rfl))
local macro_rules | `(tactic| walk_at "wx1") => `(tactic| first | (((with_reducible apply wp_var); · rfl)) | (with_reducible refine wp_seq ?_) | (with_reducible refine wp_callK ?_) | (with_reducible refine wp_makeK ?_) | (with_reducible refine wp_methK ?_) | (with_reducible refine sK_nx ?_) | (with_reducible refine sK_rt ?_) | (with_reducible refine dK_rt ?_) | (with_reducible refine wp_c ?_) | (with_reducible refine wp_asg ?_) | (with_reducible refine wp_par ?_) | (with_reducible refine wp_par3 ?_) | (with_reducible refine wp_ifS ?_) | (with_reducible refine wp_retS ?_) | (with_reducible refine wp_expr ?_) | (with_reducible refine wp_next ?_) | (with_reducible refine wp_op ?_) | (with_reducible refine wp_cons ?_) | (with_reducible refine wp_nil ?_) | (with_reducible refine wp_call ?_) | (with_reducible refine wp_cb ?_) | (with_reducible refine wp_tst ?_) | (with_reducible refine wp_not ?_) | (with_reducible refine wp_and ?_) | (with_reducible refine wp_or ?_) | (with_reducible refine wp_andV ?_) | (with_reducible refine wp_orV ?_) | (with_reducible refine wp_notV ?_) | (with_reducible refine wp_if ?_) | (with_reducible refine wp_tup ?_) | (with_reducible refine wp_lst ?_) | (with_reducible refine wp_lstM ?_) | (with_reducible refine wp_bm ?_) | (with_reducible refine wp_sl ?_) | (with_reducible refine wp_noP ?_) | (with_reducible refine wp_part ?_) | (with_reducible refine wp_chain ?_) | (with_reducible refine wp_fld ?_) | (with_reducible refine wp_make ?_) | (with_reducible refine wp_range ?_) | (with_reducible refine wp_items ?_) | (with_reducible refine wp_zip ?_) | (with_reducible refine wp_enum ?_) | (with_reducible refine wp_yes ?_) | (with_reducible refine wp_star ?_) | (with_reducible refine wp_callV ?_) | (with_reducible refine wp_makeV ?_) | (with_reducible refine wp_meth ?_) | (with_reducible refine wp_retN ?_) | (with_reducible refine wp_cm ?_) | (with_reducible refine wp_asgG ?_) | (with_reducible refine ex_int ?_) | (with_reducible refine wp_opM ?_) | (with_reducible refine wp_prop ?_) | (with_reducible refine wp_tr ?_) | (with_reducible refine wp_bm0 ?_) | (with_reducible refine lK_rt ?_) | (((with_reducible apply ex_of); · walk_at "wop")) | (((with_reducible apply ex_fld); · rfl; · rfl; · rfl)) | (((with_reducible apply And.intro); · first | rfl | exact ⟨rfl, rfl⟩ | decide | (simp; done))))
section
variable {S S' : Store} {n m : Nat} {f f' : Int} {o o' : MO} {L : List (Nat × MO)} {Q : D → Store → Prop}
theorem BwF.bw (h : BwF S n f) : Bw S n := let ⟨a, x, y, z, e, _⟩ := h; ⟨a, x, y, z, e⟩
theorem BwF.kq (h : BwF S n f) (q : Kq S S') : BwF S' n f := ⟨Nat.lt_of_lt_of_le h.1 q.next, by rw [q.get n h.1]; exact h.2⟩
theorem BwF.kp (h : BwF S n f) (q : Kp m S S') (hn : n ≠ m) : BwF S' n f := ⟨Nat.lt_of_lt_of_le h.1 q.next, by rw [q.get n h.1 hn]; exact h.2⟩
theorem BwF.mono (h : BwF S n f) (le : f ≤ f') : BwF S n f' := let ⟨a, x, y, z, e, c0, c1⟩ := h; ⟨a, x, y, z, e, c0, Int.le_trans c1 le⟩
/-- the well at n with at most f turns so far, and lists that are being made -/
structure KnF (S : Store) (n : Nat) (f : Int) (L : List (Nat × MO)) : Prop where
  kn : Kn S n L
  bw : BwF S n f
theorem KnF.of (h : BwF S n f) : KnF S n f [] := ⟨Kn.of h.bw, h⟩
theorem KnF.mono (k : KnF S n f L) (le : f ≤ f') : KnF S n f' L := ⟨k.kn, k.bw.mono le⟩
theorem KnF.kq (k : KnF S n f L) (q : Kq S S') : KnF S' n f L := ⟨k.kn.kq q, k.bw.kq q⟩
theorem KnF.kp (k : KnF S n f L) (q : Kp n S S') (b : BwF S' n f') : KnF S' n f' L := ⟨k.kn.kp q b.bw, b⟩
theorem KnF.new (k : KnF S n f L) : KnF (S.alloc o) n f ((S.next, o) :: L) := ⟨k.kn.new, k.bw.kq kq_alloc⟩
theorem KnF.get (k : KnF S n f ((m, o) :: L)) : S.get m = some o := k.kn.get
theorem KnF.ne (k : KnF S n f ((m, o) :: L)) : n ≠ m := Nat.ne_of_lt (k.kn.lt (m, o) (by simp)).1
theorem KnF.set (k : KnF S n f ((m, o) :: L)) : KnF (S.set m o') n f ((m, o') :: L) := ⟨k.kn.set, k.bw.kp kp_set k.ne⟩
theorem KnF.del (k : KnF S n f ((m, o) :: L)) : KnF (S.del m) n f L := ⟨k.kn.del, k.bw.1, by rw [Store.get_del, if_neg k.ne]; exact k.bw.2⟩
/-! letters -/
end
end J
set_option Elab.async false
set_option linter.all false
set_option maxRecDepth 100000
set_option maxHeartbeats 1010000
/-! VZb: the counting laws' own marks, words, words that are left, histories -/
namespace J
local macro_rules | `(tactic| walk_at "wop") => `(tactic| first | (with_reducible exact addD_int) | (with_reducible exact subI_int) | (with_reducible exact eqD_int) | (with_reducible exact eqD_str) | (with_reducible exact eqD_bl) | (with_reducible exact neD_int) | (with_reducible exact neD_str) | (with_reducible exact neD_bl) | (with_reducible exact ltI_int) | (with_reducible exact leI_int) | (with_reducible exact gtI_int) | (with_reducible exact geI_int) | (with_reducible exact lenD_tup) | (with_reducible exact tup_lst) | (with_reducible exact addD_str (by first | omega | (simp; done) | (simp; omega))) | (with_reducible exact lenD_str (by first | omega | (simp; done) | (simp; omega))) | (with_reducible exact lenD_lst (by first | omega | (simp; done) | (simp; omega))) | (with_reducible exact slD_str (by first | omega | (simp; done) | (simp; omega))) | (with_reducible exact addD_list (by first | omega | (simp; done) | (simp; omega))) | (with_reducible exact range1_map (S := ⟨[], 0⟩) (by first | omega | (simp; done) | (simp; omega))) | (with_reducible exact addD_tupA (by first | omega | (simp; done) | (simp; omega))) | (exact rfl))
local macro_rules | `(tactic| walk_at "wx1") => `(tactic| first | (((with_reducible apply wp_var); · rfl)) | (with_reducible refine wp_seq ?_) | (with_reducible refine wp_callK ?_) | (with_reducible refine wp_makeK ?_) | (with_reducible refine wp_methK ?_) | (with_reducible refine sK_nx ?_) | (with_reducible refine sK_rt ?_) | (with_reducible refine dK_rt ?_) | (with_reducible refine wp_c ?_) | (with_reducible refine wp_asg ?_) | (with_reducible refine wp_par ?_) | (with_reducible refine wp_par3 ?_) | (with_reducible refine wp_ifS ?_) | (with_reducible refine wp_retS ?_) | (with_reducible refine wp_expr ?_) | (with_reducible refine wp_next ?_) | (with_reducible refine wp_op ?_) | (with_reducible refine wp_cons ?_) | (with_reducible refine wp_nil ?_) | (with_reducible refine wp_call ?_) | (with_reducible refine wp_cb ?_) | (with_reducible refine wp_tst ?_) | (with_reducible refine wp_not ?_) | (with_reducible refine wp_and ?_) | (with_reducible refine wp_or ?_) | (with_reducible refine wp_andV ?_) | (with_reducible refine wp_orV ?_) | (with_reducible refine wp_notV ?_) | (with_reducible refine wp_if ?_) | (with_reducible refine wp_tup ?_) | (with_reducible refine wp_lst ?_) | (with_reducible refine wp_lstM ?_) | (with_reducible refine wp_bm ?_) | (with_reducible refine wp_sl ?_) | (with_reducible refine wp_noP ?_) | (with_reducible refine wp_part ?_) | (with_reducible refine wp_chain ?_) | (with_reducible refine wp_fld ?_) | (with_reducible refine wp_make ?_) | (with_reducible refine wp_range ?_) | (with_reducible refine wp_items ?_) | (with_reducible refine wp_zip ?_) | (with_reducible refine wp_enum ?_) | (with_reducible refine wp_yes ?_) | (with_reducible refine wp_star ?_) | (with_reducible refine wp_callV ?_) | (with_reducible refine wp_makeV ?_) | (with_reducible refine wp_meth ?_) | (with_reducible refine wp_retN ?_) | (with_reducible refine wp_cm ?_) | (with_reducible refine wp_asgG ?_) | (with_reducible refine ex_int ?_) | (with_reducible refine wp_opM ?_) | (with_reducible refine wp_prop ?_) | (with_reducible refine wp_tr ?_) | (with_reducible refine wp_bm0 ?_) | (with_reducible refine lK_rt ?_) | (((with_reducible apply ex_of); · walk_at "wop")) | (((with_reducible apply ex_fld); · rfl; · rfl; · rfl)) | (((with_reducible apply And.intro); · first | rfl | exact ⟨rfl, rfl⟩ | decide | (simp; done))))
/-! ### words that are left -/
end J
set_option Elab.async false
set_option linter.all false
set_option maxRecDepth 100000
set_option maxHeartbeats 1010000
/-! VZc: the counting laws' rows and boards; the law over its wells -/
namespace J
local macro_rules | `(tactic| walk_at "wop") => `(tactic| first | (with_reducible exact addD_int) | (with_reducible exact subI_int) | (with_reducible exact eqD_int) | (with_reducible exact eqD_str) | (with_reducible exact eqD_bl) | (with_reducible exact neD_int) | (with_reducible exact neD_str) | (with_reducible exact neD_bl) | (with_reducible exact ltI_int) | (with_reducible exact leI_int) | (with_reducible exact gtI_int) | (with_reducible exact geI_int) | (with_reducible exact lenD_tup) | (with_reducible exact tup_lst) | (with_reducible exact addD_str (by first | omega | (simp; done) | (simp; omega))) | (with_reducible exact lenD_str (by first | omega | (simp; done) | (simp; omega))) | (with_reducible exact lenD_lst (by first | omega | (simp; done) | (simp; omega))) | (with_reducible exact slD_str (by first | omega | (simp; done) | (simp; omega))) | (with_reducible exact addD_list (by first | omega | (simp; done) | (simp; omega))) | (with_reducible exact range1_map (S := ⟨[], 0⟩) (by first | omega | (simp; done) | (simp; omega))) | (with_reducible exact addD_tupA (by first | omega | (simp; done) | (simp; omega))) | (exact rfl))
local macro_rules | `(tactic| walk_at "wx1") => `(tactic| first | (((with_reducible apply wp_var); · rfl)) | (with_reducible refine wp_seq ?_) | (with_reducible refine wp_callK ?_) | (with_reducible refine wp_makeK ?_) | (with_reducible refine wp_methK ?_) | (with_reducible refine sK_nx ?_) | (with_reducible refine sK_rt ?_) | (with_reducible refine dK_rt ?_) | (with_reducible refine wp_c ?_) | (with_reducible refine wp_asg ?_) | (with_reducible refine wp_par ?_) | (with_reducible refine wp_par3 ?_) | (with_reducible refine wp_ifS ?_) | (with_reducible refine wp_retS ?_) | (with_reducible refine wp_expr ?_) | (with_reducible refine wp_next ?_) | (with_reducible refine wp_op ?_) | (with_reducible refine wp_cons ?_) | (with_reducible refine wp_nil ?_) | (with_reducible refine wp_call ?_) | (with_reducible refine wp_cb ?_) | (with_reducible refine wp_tst ?_) | (with_reducible refine wp_not ?_) | (with_reducible refine wp_and ?_) | (with_reducible refine wp_or ?_) | (with_reducible refine wp_andV ?_) | (with_reducible refine wp_orV ?_) | (with_reducible refine wp_notV ?_) | (with_reducible refine wp_if ?_) | (with_reducible refine wp_tup ?_) | (with_reducible refine wp_lst ?_) | (with_reducible refine wp_lstM ?_) | (with_reducible refine wp_bm ?_) | (with_reducible refine wp_sl ?_) | (with_reducible refine wp_noP ?_) | (with_reducible refine wp_part ?_) | (with_reducible refine wp_chain ?_) | (with_reducible refine wp_fld ?_) | (with_reducible refine wp_make ?_) | (with_reducible refine wp_range ?_) | (with_reducible refine wp_items ?_) | (with_reducible refine wp_zip ?_) | (with_reducible refine wp_enum ?_) | (with_reducible refine wp_yes ?_) | (with_reducible refine wp_star ?_) | (with_reducible refine wp_callV ?_) | (with_reducible refine wp_makeV ?_) | (with_reducible refine wp_meth ?_) | (with_reducible refine wp_retN ?_) | (with_reducible refine wp_cm ?_) | (with_reducible refine wp_asgG ?_) | (with_reducible refine ex_int ?_) | (with_reducible refine wp_opM ?_) | (with_reducible refine wp_prop ?_) | (with_reducible refine wp_tr ?_) | (with_reducible refine wp_bm0 ?_) | (with_reducible refine lK_rt ?_) | (((with_reducible apply ex_of); · walk_at "wop")) | (((with_reducible apply ex_fld); · rfl; · rfl; · rfl)) | (((with_reducible apply And.intro); · first | rfl | exact ⟨rfl, rfl⟩ | decide | (simp; done))))
/-! ### the well -/
end J
set_option Elab.async false
set_option linter.all false
set_option maxRecDepth 100000
set_option maxHeartbeats 1010000
/-! VZd: facts drawn by the counting laws; count_with; large boards; rows of one hidden word -/
namespace J
local macro_rules | `(tactic| walk_at "wop") => `(tactic| first | (with_reducible exact addD_int) | (with_reducible exact subI_int) | (with_reducible exact eqD_int) | (with_reducible exact eqD_str) | (with_reducible exact eqD_bl) | (with_reducible exact neD_int) | (with_reducible exact neD_str) | (with_reducible exact neD_bl) | (with_reducible exact ltI_int) | (with_reducible exact leI_int) | (with_reducible exact gtI_int) | (with_reducible exact geI_int) | (with_reducible exact lenD_tup) | (with_reducible exact tup_lst) | (with_reducible exact addD_str (by first | omega | (simp; done) | (simp; omega))) | (with_reducible exact lenD_str (by first | omega | (simp; done) | (simp; omega))) | (with_reducible exact lenD_lst (by first | omega | (simp; done) | (simp; omega))) | (with_reducible exact slD_str (by first | omega | (simp; done) | (simp; omega))) | (with_reducible exact addD_list (by first | omega | (simp; done) | (simp; omega))) | (with_reducible exact range1_map (S := ⟨[], 0⟩) (by first | omega | (simp; done) | (simp; omega))) | (with_reducible exact addD_tupA (by first | omega | (simp; done) | (simp; omega))) | (exact rfl))
local macro_rules | `(tactic| walk_at "wx1") => `(tactic| first | (((with_reducible apply wp_var); · rfl)) | (with_reducible refine wp_seq ?_) | (with_reducible refine wp_callK ?_) | (with_reducible refine wp_makeK ?_) | (with_reducible refine wp_methK ?_) | (with_reducible refine sK_nx ?_) | (with_reducible refine sK_rt ?_) | (with_reducible refine dK_rt ?_) | (with_reducible refine wp_c ?_) | (with_reducible refine wp_asg ?_) | (with_reducible refine wp_par ?_) | (with_reducible refine wp_par3 ?_) | (with_reducible refine wp_ifS ?_) | (with_reducible refine wp_retS ?_) | (with_reducible refine wp_expr ?_) | (with_reducible refine wp_next ?_) | (with_reducible refine wp_op ?_) | (with_reducible refine wp_cons ?_) | (with_reducible refine wp_nil ?_) | (with_reducible refine wp_call ?_) | (with_reducible refine wp_cb ?_) | (with_reducible refine wp_tst ?_) | (with_reducible refine wp_not ?_) | (with_reducible refine wp_and ?_) | (with_reducible refine wp_or ?_) | (with_reducible refine wp_andV ?_) | (with_reducible refine wp_orV ?_) | (with_reducible refine wp_notV ?_) | (with_reducible refine wp_if ?_) | (with_reducible refine wp_tup ?_) | (with_reducible refine wp_lst ?_) | (with_reducible refine wp_lstM ?_) | (with_reducible refine wp_bm ?_) | (with_reducible refine wp_sl ?_) | (with_reducible refine wp_noP ?_) | (with_reducible refine wp_part ?_) | (with_reducible refine wp_chain ?_) | (with_reducible refine wp_fld ?_) | (with_reducible refine wp_make ?_) | (with_reducible refine wp_range ?_) | (with_reducible refine wp_items ?_) | (with_reducible refine wp_zip ?_) | (with_reducible refine wp_enum ?_) | (with_reducible refine wp_yes ?_) | (with_reducible refine wp_star ?_) | (with_reducible refine wp_callV ?_) | (with_reducible refine wp_makeV ?_) | (with_reducible refine wp_meth ?_) | (with_reducible refine wp_retN ?_) | (with_reducible refine wp_cm ?_) | (with_reducible refine wp_asgG ?_) | (with_reducible refine ex_int ?_) | (with_reducible refine wp_opM ?_) | (with_reducible refine wp_prop ?_) | (with_reducible refine wp_tr ?_) | (with_reducible refine wp_bm0 ?_) | (with_reducible refine lK_rt ?_) | (((with_reducible apply ex_of); · walk_at "wop")) | (((with_reducible apply ex_fld); · rfl; · rfl; · rfl)) | (((with_reducible apply And.intro); · first | rfl | exact ⟨rfl, rfl⟩ | decide | (simp; done))))
end J
set_option Elab.async false
set_option linter.all false
set_option maxRecDepth 100000
set_option maxHeartbeats 1010000
/-! VZe: powers, binomial numbers, the formula of one row with different letters -/
namespace J
local macro_rules | `(tactic| walk_at "wop") => `(tactic| first | (with_reducible exact addD_int) | (with_reducible exact subI_int) | (with_reducible exact eqD_int) | (with_reducible exact eqD_str) | (with_reducible exact eqD_bl) | (with_reducible exact neD_int) | (with_reducible exact neD_str) | (with_reducible exact neD_bl) | (with_reducible exact ltI_int) | (with_reducible exact leI_int) | (with_reducible exact gtI_int) | (with_reducible exact geI_int) | (with_reducible exact lenD_tup) | (with_reducible exact tup_lst) | (with_reducible exact addD_str (by first | omega | (simp; done) | (simp; omega))) | (with_reducible exact lenD_str (by first | omega | (simp; done) | (simp; omega))) | (with_reducible exact lenD_lst (by first | omega | (simp; done) | (simp; omega))) | (with_reducible exact slD_str (by first | omega | (simp; done) | (simp; omega))) | (with_reducible exact addD_list (by first | omega | (simp; done) | (simp; omega))) | (with_reducible exact range1_map (S := ⟨[], 0⟩) (by first | omega | (simp; done) | (simp; omega))) | (with_reducible exact addD_tupA (by first | omega | (simp; done) | (simp; omega))) | (exact rfl))
local macro_rules | `(tactic| walk_at "wx1") => `(tactic| first | (((with_reducible apply wp_var); · rfl)) | (with_reducible refine wp_seq ?_) | (with_reducible refine wp_callK ?_) | (with_reducible refine wp_makeK ?_) | (with_reducible refine wp_methK ?_) | (with_reducible refine sK_nx ?_) | (with_reducible refine sK_rt ?_) | (with_reducible refine dK_rt ?_) | (with_reducible refine wp_c ?_) | (with_reducible refine wp_asg ?_) | (with_reducible refine wp_par ?_) | (with_reducible refine wp_par3 ?_) | (with_reducible refine wp_ifS ?_) | (with_reducible refine wp_retS ?_) | (with_reducible refine wp_expr ?_) | (with_reducible refine wp_next ?_) | (with_reducible refine wp_op ?_) | (with_reducible refine wp_cons ?_) | (with_reducible refine wp_nil ?_) | (with_reducible refine wp_call ?_) | (with_reducible refine wp_cb ?_) | (with_reducible refine wp_tst ?_) | (with_reducible refine wp_not ?_) | (with_reducible refine wp_and ?_) | (with_reducible refine wp_or ?_) | (with_reducible refine wp_andV ?_) | (with_reducible refine wp_orV ?_) | (with_reducible refine wp_notV ?_) | (with_reducible refine wp_if ?_) | (with_reducible refine wp_tup ?_) | (with_reducible refine wp_lst ?_) | (with_reducible refine wp_lstM ?_) | (with_reducible refine wp_bm ?_) | (with_reducible refine wp_sl ?_) | (with_reducible refine wp_noP ?_) | (with_reducible refine wp_part ?_) | (with_reducible refine wp_chain ?_) | (with_reducible refine wp_fld ?_) | (with_reducible refine wp_make ?_) | (with_reducible refine wp_range ?_) | (with_reducible refine wp_items ?_) | (with_reducible refine wp_zip ?_) | (with_reducible refine wp_enum ?_) | (with_reducible refine wp_yes ?_) | (with_reducible refine wp_star ?_) | (with_reducible refine wp_callV ?_) | (with_reducible refine wp_makeV ?_) | (with_reducible refine wp_meth ?_) | (with_reducible refine wp_retN ?_) | (with_reducible refine wp_cm ?_) | (with_reducible refine wp_asgG ?_) | (with_reducible refine ex_int ?_) | (with_reducible refine wp_opM ?_) | (with_reducible refine wp_prop ?_) | (with_reducible refine wp_tr ?_) | (with_reducible refine wp_bm0 ?_) | (with_reducible refine lK_rt ?_) | (((with_reducible apply ex_of); · walk_at "wop")) | (((with_reducible apply ex_fld); · rfl; · rfl; · rfl)) | (((with_reducible apply And.intro); · first | rfl | exact ⟨rfl, rfl⟩ | decide | (simp; done))))
section
variable {S0 : Store}
def wyI (n : Int) (k : Nat) : Int := (List.range k).foldl (fun f (j : Nat) => f * (n - (j : Int)) / ((j : Int) + 1)) 1
def frT (n : Int) (a b o : Nat) : Int := (-1) ^ o * wyI a o * ((n - b - o - 1) ^ (a - o) * (n - b - o) ^ (o + b))
end
end J
set_option Elab.async false
set_option linter.all false
set_option maxRecDepth 100000
set_option maxHeartbeats 1010000
/-! VZf: how many words give a guess of different letters its marks -/
namespace J
end J
set_option Elab.async false
set_option linter.all false
set_option maxRecDepth 100000
set_option maxHeartbeats 1010000
/-! VZg: words by their numbers, numbers of words -/
namespace J
open Cnt
local macro_rules | `(tactic| walk_at "wop") => `(tactic| first | (with_reducible exact addD_int) | (with_reducible exact subI_int) | (with_reducible exact eqD_int) | (with_reducible exact eqD_str) | (with_reducible exact eqD_bl) | (with_reducible exact neD_int) | (with_reducible exact neD_str) | (with_reducible exact neD_bl) | (with_reducible exact ltI_int) | (with_reducible exact leI_int) | (with_reducible exact gtI_int) | (with_reducible exact geI_int) | (with_reducible exact lenD_tup) | (with_reducible exact tup_lst) | (with_reducible exact addD_str (by first | omega | (simp; done) | (simp; omega))) | (with_reducible exact lenD_str (by first | omega | (simp; done) | (simp; omega))) | (with_reducible exact lenD_lst (by first | omega | (simp; done) | (simp; omega))) | (with_reducible exact slD_str (by first | omega | (simp; done) | (simp; omega))) | (with_reducible exact addD_list (by first | omega | (simp; done) | (simp; omega))) | (with_reducible exact range1_map (S := ⟨[], 0⟩) (by first | omega | (simp; done) | (simp; omega))) | (with_reducible exact addD_tupA (by first | omega | (simp; done) | (simp; omega))) | (exact rfl))
local macro_rules | `(tactic| walk_at "wx1") => `(tactic| first | (((with_reducible apply wp_var); · rfl)) | (with_reducible refine wp_seq ?_) | (with_reducible refine wp_callK ?_) | (with_reducible refine wp_makeK ?_) | (with_reducible refine wp_methK ?_) | (with_reducible refine sK_nx ?_) | (with_reducible refine sK_rt ?_) | (with_reducible refine dK_rt ?_) | (with_reducible refine wp_c ?_) | (with_reducible refine wp_asg ?_) | (with_reducible refine wp_par ?_) | (with_reducible refine wp_par3 ?_) | (with_reducible refine wp_ifS ?_) | (with_reducible refine wp_retS ?_) | (with_reducible refine wp_expr ?_) | (with_reducible refine wp_next ?_) | (with_reducible refine wp_op ?_) | (with_reducible refine wp_cons ?_) | (with_reducible refine wp_nil ?_) | (with_reducible refine wp_call ?_) | (with_reducible refine wp_cb ?_) | (with_reducible refine wp_tst ?_) | (with_reducible refine wp_not ?_) | (with_reducible refine wp_and ?_) | (with_reducible refine wp_or ?_) | (with_reducible refine wp_andV ?_) | (with_reducible refine wp_orV ?_) | (with_reducible refine wp_notV ?_) | (with_reducible refine wp_if ?_) | (with_reducible refine wp_tup ?_) | (with_reducible refine wp_lst ?_) | (with_reducible refine wp_lstM ?_) | (with_reducible refine wp_bm ?_) | (with_reducible refine wp_sl ?_) | (with_reducible refine wp_noP ?_) | (with_reducible refine wp_part ?_) | (with_reducible refine wp_chain ?_) | (with_reducible refine wp_fld ?_) | (with_reducible refine wp_make ?_) | (with_reducible refine wp_range ?_) | (with_reducible refine wp_items ?_) | (with_reducible refine wp_zip ?_) | (with_reducible refine wp_enum ?_) | (with_reducible refine wp_yes ?_) | (with_reducible refine wp_star ?_) | (with_reducible refine wp_callV ?_) | (with_reducible refine wp_makeV ?_) | (with_reducible refine wp_meth ?_) | (with_reducible refine wp_retN ?_) | (with_reducible refine wp_cm ?_) | (with_reducible refine wp_asgG ?_) | (with_reducible refine ex_int ?_) | (with_reducible refine wp_opM ?_) | (with_reducible refine wp_prop ?_) | (with_reducible refine wp_tr ?_) | (with_reducible refine wp_bm0 ?_) | (with_reducible refine lK_rt ?_) | (((with_reducible apply ex_of); · walk_at "wop")) | (((with_reducible apply ex_fld); · rfl; · rfl; · rfl)) | (((with_reducible apply And.intro); · first | rfl | exact ⟨rfl, rfl⟩ | decide | (simp; done))))
section
variable {l : List Nat} {k : Nat}
/-! ### blocks of words with a start -/
def blk (P : List Nat → Bool) (l : List Nat) (st : List Nat) (j : Nat) : List (List Nat) := ((wordsN l j).map fun w => st ++ w).filter P
end
end J
set_option Elab.async false
set_option linter.all false
set_option maxRecDepth 100000
set_option maxHeartbeats 1010000
/-! VZh: nth_word and place_of -/
namespace J
open Cnt
local macro_rules | `(tactic| walk_at "wop") => `(tactic| first | (with_reducible exact addD_int) | (with_reducible exact subI_int) | (with_reducible exact eqD_int) | (with_reducible exact eqD_str) | (with_reducible exact eqD_bl) | (with_reducible exact neD_int) | (with_reducible exact neD_str) | (with_reducible exact neD_bl) | (with_reducible exact ltI_int) | (with_reducible exact leI_int) | (with_reducible exact gtI_int) | (with_reducible exact geI_int) | (with_reducible exact lenD_tup) | (with_reducible exact tup_lst) | (with_reducible exact addD_str (by first | omega | (simp; done) | (simp; omega))) | (with_reducible exact lenD_str (by first | omega | (simp; done) | (simp; omega))) | (with_reducible exact lenD_lst (by first | omega | (simp; done) | (simp; omega))) | (with_reducible exact slD_str (by first | omega | (simp; done) | (simp; omega))) | (with_reducible exact addD_list (by first | omega | (simp; done) | (simp; omega))) | (with_reducible exact range1_map (S := ⟨[], 0⟩) (by first | omega | (simp; done) | (simp; omega))) | (with_reducible exact addD_tupA (by first | omega | (simp; done) | (simp; omega))) | (exact rfl))
local macro_rules | `(tactic| walk_at "wx1") => `(tactic| first | (((with_reducible apply wp_var); · rfl)) | (with_reducible refine wp_seq ?_) | (with_reducible refine wp_callK ?_) | (with_reducible refine wp_makeK ?_) | (with_reducible refine wp_methK ?_) | (with_reducible refine sK_nx ?_) | (with_reducible refine sK_rt ?_) | (with_reducible refine dK_rt ?_) | (with_reducible refine wp_c ?_) | (with_reducible refine wp_asg ?_) | (with_reducible refine wp_par ?_) | (with_reducible refine wp_par3 ?_) | (with_reducible refine wp_ifS ?_) | (with_reducible refine wp_retS ?_) | (with_reducible refine wp_expr ?_) | (with_reducible refine wp_next ?_) | (with_reducible refine wp_op ?_) | (with_reducible refine wp_cons ?_) | (with_reducible refine wp_nil ?_) | (with_reducible refine wp_call ?_) | (with_reducible refine wp_cb ?_) | (with_reducible refine wp_tst ?_) | (with_reducible refine wp_not ?_) | (with_reducible refine wp_and ?_) | (with_reducible refine wp_or ?_) | (with_reducible refine wp_andV ?_) | (with_reducible refine wp_orV ?_) | (with_reducible refine wp_notV ?_) | (with_reducible refine wp_if ?_) | (with_reducible refine wp_tup ?_) | (with_reducible refine wp_lst ?_) | (with_reducible refine wp_lstM ?_) | (with_reducible refine wp_bm ?_) | (with_reducible refine wp_sl ?_) | (with_reducible refine wp_noP ?_) | (with_reducible refine wp_part ?_) | (with_reducible refine wp_chain ?_) | (with_reducible refine wp_fld ?_) | (with_reducible refine wp_make ?_) | (with_reducible refine wp_range ?_) | (with_reducible refine wp_items ?_) | (with_reducible refine wp_zip ?_) | (with_reducible refine wp_enum ?_) | (with_reducible refine wp_yes ?_) | (with_reducible refine wp_star ?_) | (with_reducible refine wp_callV ?_) | (with_reducible refine wp_makeV ?_) | (with_reducible refine wp_meth ?_) | (with_reducible refine wp_retN ?_) | (with_reducible refine wp_cm ?_) | (with_reducible refine wp_asgG ?_) | (with_reducible refine ex_int ?_) | (with_reducible refine wp_opM ?_) | (with_reducible refine wp_prop ?_) | (with_reducible refine wp_tr ?_) | (with_reducible refine wp_bm0 ?_) | (with_reducible refine lK_rt ?_) | (((with_reducible apply ex_of); · walk_at "wop")) | (((with_reducible apply ex_fld); · rfl; · rfl; · rfl)) | (((with_reducible apply And.intro); · first | rfl | exact ⟨rfl, rfl⟩ | decide | (simp; done))))
end J
set_option Elab.async false
set_option linter.all false
set_option maxRecDepth 100000
set_option maxHeartbeats 1010000
/-! VZi: counts that are known by hand -/
namespace J
/-! ### marks that are all 0, marks of one letter alone -/
end J
set_option Elab.async false
set_option linter.all false
set_option maxRecDepth 100000
set_option maxHeartbeats 1010000
/-! VZj: the numbers of copies that occur have no gaps; boards of a middle size; lists of numbers compared -/
namespace J
local macro_rules | `(tactic| walk_at "wop") => `(tactic| first | (with_reducible exact addD_int) | (with_reducible exact subI_int) | (with_reducible exact eqD_int) | (with_reducible exact eqD_str) | (with_reducible exact eqD_bl) | (with_reducible exact neD_int) | (with_reducible exact neD_str) | (with_reducible exact neD_bl) | (with_reducible exact ltI_int) | (with_reducible exact leI_int) | (with_reducible exact gtI_int) | (with_reducible exact geI_int) | (with_reducible exact lenD_tup) | (with_reducible exact tup_lst) | (with_reducible exact addD_str (by first | omega | (simp; done) | (simp; omega))) | (with_reducible exact lenD_str (by first | omega | (simp; done) | (simp; omega))) | (with_reducible exact lenD_lst (by first | omega | (simp; done) | (simp; omega))) | (with_reducible exact slD_str (by first | omega | (simp; done) | (simp; omega))) | (with_reducible exact addD_list (by first | omega | (simp; done) | (simp; omega))) | (with_reducible exact range1_map (S := ⟨[], 0⟩) (by first | omega | (simp; done) | (simp; omega))) | (with_reducible exact addD_tupA (by first | omega | (simp; done) | (simp; omega))) | (exact rfl))
local macro_rules | `(tactic| walk_at "wx1") => `(tactic| first | (((with_reducible apply wp_var); · rfl)) | (with_reducible refine wp_seq ?_) | (with_reducible refine wp_callK ?_) | (with_reducible refine wp_makeK ?_) | (with_reducible refine wp_methK ?_) | (with_reducible refine sK_nx ?_) | (with_reducible refine sK_rt ?_) | (with_reducible refine dK_rt ?_) | (with_reducible refine wp_c ?_) | (with_reducible refine wp_asg ?_) | (with_reducible refine wp_par ?_) | (with_reducible refine wp_par3 ?_) | (with_reducible refine wp_ifS ?_) | (with_reducible refine wp_retS ?_) | (with_reducible refine wp_expr ?_) | (with_reducible refine wp_next ?_) | (with_reducible refine wp_op ?_) | (with_reducible refine wp_cons ?_) | (with_reducible refine wp_nil ?_) | (with_reducible refine wp_call ?_) | (with_reducible refine wp_cb ?_) | (with_reducible refine wp_tst ?_) | (with_reducible refine wp_not ?_) | (with_reducible refine wp_and ?_) | (with_reducible refine wp_or ?_) | (with_reducible refine wp_andV ?_) | (with_reducible refine wp_orV ?_) | (with_reducible refine wp_notV ?_) | (with_reducible refine wp_if ?_) | (with_reducible refine wp_tup ?_) | (with_reducible refine wp_lst ?_) | (with_reducible refine wp_lstM ?_) | (with_reducible refine wp_bm ?_) | (with_reducible refine wp_sl ?_) | (with_reducible refine wp_noP ?_) | (with_reducible refine wp_part ?_) | (with_reducible refine wp_chain ?_) | (with_reducible refine wp_fld ?_) | (with_reducible refine wp_make ?_) | (with_reducible refine wp_range ?_) | (with_reducible refine wp_items ?_) | (with_reducible refine wp_zip ?_) | (with_reducible refine wp_enum ?_) | (with_reducible refine wp_yes ?_) | (with_reducible refine wp_star ?_) | (with_reducible refine wp_callV ?_) | (with_reducible refine wp_makeV ?_) | (with_reducible refine wp_meth ?_) | (with_reducible refine wp_retN ?_) | (with_reducible refine wp_cm ?_) | (with_reducible refine wp_asgG ?_) | (with_reducible refine ex_int ?_) | (with_reducible refine wp_opM ?_) | (with_reducible refine wp_prop ?_) | (with_reducible refine wp_tr ?_) | (with_reducible refine wp_bm0 ?_) | (with_reducible refine lK_rt ?_) | (((with_reducible apply ex_of); · walk_at "wop")) | (((with_reducible apply ex_fld); · rfl; · rfl; · rfl)) | (((with_reducible apply And.intro); · first | rfl | exact ⟨rfl, rfl⟩ | decide | (simp; done))))
end J
set_option Elab.async false
set_option linter.all false
set_option maxRecDepth 100000
set_option maxHeartbeats 1010000
/-! VZk: answers -/
namespace J
open Cnt
local macro_rules | `(tactic| walk_at "wop") => `(tactic| first | (with_reducible exact addD_int) | (with_reducible exact subI_int) | (with_reducible exact eqD_int) | (with_reducible exact eqD_str) | (with_reducible exact eqD_bl) | (with_reducible exact neD_int) | (with_reducible exact neD_str) | (with_reducible exact neD_bl) | (with_reducible exact ltI_int) | (with_reducible exact leI_int) | (with_reducible exact gtI_int) | (with_reducible exact geI_int) | (with_reducible exact lenD_tup) | (with_reducible exact tup_lst) | (with_reducible exact addD_str (by first | omega | (simp; done) | (simp; omega))) | (with_reducible exact lenD_str (by first | omega | (simp; done) | (simp; omega))) | (with_reducible exact lenD_lst (by first | omega | (simp; done) | (simp; omega))) | (with_reducible exact slD_str (by first | omega | (simp; done) | (simp; omega))) | (with_reducible exact addD_list (by first | omega | (simp; done) | (simp; omega))) | (with_reducible exact range1_map (S := ⟨[], 0⟩) (by first | omega | (simp; done) | (simp; omega))) | (with_reducible exact addD_tupA (by first | omega | (simp; done) | (simp; omega))) | (exact rfl))
local macro_rules | `(tactic| walk_at "wx1") => `(tactic| first | (((with_reducible apply wp_var); · rfl)) | (with_reducible refine wp_seq ?_) | (with_reducible refine wp_callK ?_) | (with_reducible refine wp_makeK ?_) | (with_reducible refine wp_methK ?_) | (with_reducible refine sK_nx ?_) | (with_reducible refine sK_rt ?_) | (with_reducible refine dK_rt ?_) | (with_reducible refine wp_c ?_) | (with_reducible refine wp_asg ?_) | (with_reducible refine wp_par ?_) | (with_reducible refine wp_par3 ?_) | (with_reducible refine wp_ifS ?_) | (with_reducible refine wp_retS ?_) | (with_reducible refine wp_expr ?_) | (with_reducible refine wp_next ?_) | (with_reducible refine wp_op ?_) | (with_reducible refine wp_cons ?_) | (with_reducible refine wp_nil ?_) | (with_reducible refine wp_call ?_) | (with_reducible refine wp_cb ?_) | (with_reducible refine wp_tst ?_) | (with_reducible refine wp_not ?_) | (with_reducible refine wp_and ?_) | (with_reducible refine wp_or ?_) | (with_reducible refine wp_andV ?_) | (with_reducible refine wp_orV ?_) | (with_reducible refine wp_notV ?_) | (with_reducible refine wp_if ?_) | (with_reducible refine wp_tup ?_) | (with_reducible refine wp_lst ?_) | (with_reducible refine wp_lstM ?_) | (with_reducible refine wp_bm ?_) | (with_reducible refine wp_sl ?_) | (with_reducible refine wp_noP ?_) | (with_reducible refine wp_part ?_) | (with_reducible refine wp_chain ?_) | (with_reducible refine wp_fld ?_) | (with_reducible refine wp_make ?_) | (with_reducible refine wp_range ?_) | (with_reducible refine wp_items ?_) | (with_reducible refine wp_zip ?_) | (with_reducible refine wp_enum ?_) | (with_reducible refine wp_yes ?_) | (with_reducible refine wp_star ?_) | (with_reducible refine wp_callV ?_) | (with_reducible refine wp_makeV ?_) | (with_reducible refine wp_meth ?_) | (with_reducible refine wp_retN ?_) | (with_reducible refine wp_cm ?_) | (with_reducible refine wp_asgG ?_) | (with_reducible refine ex_int ?_) | (with_reducible refine wp_opM ?_) | (with_reducible refine wp_prop ?_) | (with_reducible refine wp_tr ?_) | (with_reducible refine wp_bm0 ?_) | (with_reducible refine lK_rt ?_) | (((with_reducible apply ex_of); · walk_at "wop")) | (((with_reducible apply ex_fld); · rfl; · rfl; · rfl)) | (((with_reducible apply And.intro); · first | rfl | exact ⟨rfl, rfl⟩ | decide | (simp; done))))
end J
set_option Elab.async false
set_option linter.all false
set_option maxRecDepth 100000
set_option maxHeartbeats 1010000
/-! VZl: answers_of -/
namespace J
open Cnt
local macro_rules | `(tactic| walk_at "wop") => `(tactic| first | (with_reducible exact addD_int) | (with_reducible exact subI_int) | (with_reducible exact eqD_int) | (with_reducible exact eqD_str) | (with_reducible exact eqD_bl) | (with_reducible exact neD_int) | (with_reducible exact neD_str) | (with_reducible exact neD_bl) | (with_reducible exact ltI_int) | (with_reducible exact leI_int) | (with_reducible exact gtI_int) | (with_reducible exact geI_int) | (with_reducible exact lenD_tup) | (with_reducible exact tup_lst) | (with_reducible exact addD_str (by first | omega | (simp; done) | (simp; omega))) | (with_reducible exact lenD_str (by first | omega | (simp; done) | (simp; omega))) | (with_reducible exact lenD_lst (by first | omega | (simp; done) | (simp; omega))) | (with_reducible exact slD_str (by first | omega | (simp; done) | (simp; omega))) | (with_reducible exact addD_list (by first | omega | (simp; done) | (simp; omega))) | (with_reducible exact range1_map (S := ⟨[], 0⟩) (by first | omega | (simp; done) | (simp; omega))) | (with_reducible exact addD_tupA (by first | omega | (simp; done) | (simp; omega))) | (exact rfl))
local macro_rules | `(tactic| walk_at "wx1") => `(tactic| first | (((with_reducible apply wp_var); · rfl)) | (with_reducible refine wp_seq ?_) | (with_reducible refine wp_callK ?_) | (with_reducible refine wp_makeK ?_) | (with_reducible refine wp_methK ?_) | (with_reducible refine sK_nx ?_) | (with_reducible refine sK_rt ?_) | (with_reducible refine dK_rt ?_) | (with_reducible refine wp_c ?_) | (with_reducible refine wp_asg ?_) | (with_reducible refine wp_par ?_) | (with_reducible refine wp_par3 ?_) | (with_reducible refine wp_ifS ?_) | (with_reducible refine wp_retS ?_) | (with_reducible refine wp_expr ?_) | (with_reducible refine wp_next ?_) | (with_reducible refine wp_op ?_) | (with_reducible refine wp_cons ?_) | (with_reducible refine wp_nil ?_) | (with_reducible refine wp_call ?_) | (with_reducible refine wp_cb ?_) | (with_reducible refine wp_tst ?_) | (with_reducible refine wp_not ?_) | (with_reducible refine wp_and ?_) | (with_reducible refine wp_or ?_) | (with_reducible refine wp_andV ?_) | (with_reducible refine wp_orV ?_) | (with_reducible refine wp_notV ?_) | (with_reducible refine wp_if ?_) | (with_reducible refine wp_tup ?_) | (with_reducible refine wp_lst ?_) | (with_reducible refine wp_lstM ?_) | (with_reducible refine wp_bm ?_) | (with_reducible refine wp_sl ?_) | (with_reducible refine wp_noP ?_) | (with_reducible refine wp_part ?_) | (with_reducible refine wp_chain ?_) | (with_reducible refine wp_fld ?_) | (with_reducible refine wp_make ?_) | (with_reducible refine wp_range ?_) | (with_reducible refine wp_items ?_) | (with_reducible refine wp_zip ?_) | (with_reducible refine wp_enum ?_) | (with_reducible refine wp_yes ?_) | (with_reducible refine wp_star ?_) | (with_reducible refine wp_callV ?_) | (with_reducible refine wp_makeV ?_) | (with_reducible refine wp_meth ?_) | (with_reducible refine wp_retN ?_) | (with_reducible refine wp_cm ?_) | (with_reducible refine wp_asgG ?_) | (with_reducible refine ex_int ?_) | (with_reducible refine wp_opM ?_) | (with_reducible refine wp_prop ?_) | (with_reducible refine wp_tr ?_) | (with_reducible refine wp_bm0 ?_) | (with_reducible refine lK_rt ?_) | (((with_reducible apply ex_of); · walk_at "wop")) | (((with_reducible apply ex_fld); · rfl; · rfl; · rfl)) | (((with_reducible apply And.intro); · first | rfl | exact ⟨rfl, rfl⟩ | decide | (simp; done))))
end J
set_option Elab.async false
set_option linter.all false
set_option maxRecDepth 100000
set_option maxHeartbeats 1010000
/-! VZm: marks that are tallied -/
namespace J
open Cnt
local macro_rules | `(tactic| walk_at "wop") => `(tactic| first | (with_reducible exact addD_int) | (with_reducible exact subI_int) | (with_reducible exact eqD_int) | (with_reducible exact eqD_str) | (with_reducible exact eqD_bl) | (with_reducible exact neD_int) | (with_reducible exact neD_str) | (with_reducible exact neD_bl) | (with_reducible exact ltI_int) | (with_reducible exact leI_int) | (with_reducible exact gtI_int) | (with_reducible exact geI_int) | (with_reducible exact lenD_tup) | (with_reducible exact tup_lst) | (with_reducible exact addD_str (by first | omega | (simp; done) | (simp; omega))) | (with_reducible exact lenD_str (by first | omega | (simp; done) | (simp; omega))) | (with_reducible exact lenD_lst (by first | omega | (simp; done) | (simp; omega))) | (with_reducible exact slD_str (by first | omega | (simp; done) | (simp; omega))) | (with_reducible exact addD_list (by first | omega | (simp; done) | (simp; omega))) | (with_reducible exact range1_map (S := ⟨[], 0⟩) (by first | omega | (simp; done) | (simp; omega))) | (with_reducible exact addD_tupA (by first | omega | (simp; done) | (simp; omega))) | (exact rfl))
local macro_rules | `(tactic| walk_at "wx1") => `(tactic| first | (((with_reducible apply wp_var); · rfl)) | (with_reducible refine wp_seq ?_) | (with_reducible refine wp_callK ?_) | (with_reducible refine wp_makeK ?_) | (with_reducible refine wp_methK ?_) | (with_reducible refine sK_nx ?_) | (with_reducible refine sK_rt ?_) | (with_reducible refine dK_rt ?_) | (with_reducible refine wp_c ?_) | (with_reducible refine wp_asg ?_) | (with_reducible refine wp_par ?_) | (with_reducible refine wp_par3 ?_) | (with_reducible refine wp_ifS ?_) | (with_reducible refine wp_retS ?_) | (with_reducible refine wp_expr ?_) | (with_reducible refine wp_next ?_) | (with_reducible refine wp_op ?_) | (with_reducible refine wp_cons ?_) | (with_reducible refine wp_nil ?_) | (with_reducible refine wp_call ?_) | (with_reducible refine wp_cb ?_) | (with_reducible refine wp_tst ?_) | (with_reducible refine wp_not ?_) | (with_reducible refine wp_and ?_) | (with_reducible refine wp_or ?_) | (with_reducible refine wp_andV ?_) | (with_reducible refine wp_orV ?_) | (with_reducible refine wp_notV ?_) | (with_reducible refine wp_if ?_) | (with_reducible refine wp_tup ?_) | (with_reducible refine wp_lst ?_) | (with_reducible refine wp_lstM ?_) | (with_reducible refine wp_bm ?_) | (with_reducible refine wp_sl ?_) | (with_reducible refine wp_noP ?_) | (with_reducible refine wp_part ?_) | (with_reducible refine wp_chain ?_) | (with_reducible refine wp_fld ?_) | (with_reducible refine wp_make ?_) | (with_reducible refine wp_range ?_) | (with_reducible refine wp_items ?_) | (with_reducible refine wp_zip ?_) | (with_reducible refine wp_enum ?_) | (with_reducible refine wp_yes ?_) | (with_reducible refine wp_star ?_) | (with_reducible refine wp_callV ?_) | (with_reducible refine wp_makeV ?_) | (with_reducible refine wp_meth ?_) | (with_reducible refine wp_retN ?_) | (with_reducible refine wp_cm ?_) | (with_reducible refine wp_asgG ?_) | (with_reducible refine ex_int ?_) | (with_reducible refine wp_opM ?_) | (with_reducible refine wp_prop ?_) | (with_reducible refine wp_tr ?_) | (with_reducible refine wp_bm0 ?_) | (with_reducible refine lK_rt ?_) | (((with_reducible apply ex_of); · walk_at "wop")) | (((with_reducible apply ex_fld); · rfl; · rfl; · rfl)) | (((with_reducible apply And.intro); · first | rfl | exact ⟨rfl, rfl⟩ | decide | (simp; done))))
/-! ### words in ascending order -/
/-! ### dicts from texts to numbers -/
end J
set_option Elab.async false
set_option linter.all false
set_option maxRecDepth 100000
set_option maxHeartbeats 1010000
/-! VZn: reports -/
namespace J
open Cnt
local macro_rules | `(tactic| walk_at "wop") => `(tactic| first | (with_reducible exact addD_int) | (with_reducible exact subI_int) | (with_reducible exact eqD_int) | (with_reducible exact eqD_str) | (with_reducible exact eqD_bl) | (with_reducible exact neD_int) | (with_reducible exact neD_str) | (with_reducible exact neD_bl) | (with_reducible exact ltI_int) | (with_reducible exact leI_int) | (with_reducible exact gtI_int) | (with_reducible exact geI_int) | (with_reducible exact lenD_tup) | (with_reducible exact tup_lst) | (with_reducible exact addD_str (by first | omega | (simp; done) | (simp; omega))) | (with_reducible exact lenD_str (by first | omega | (simp; done) | (simp; omega))) | (with_reducible exact lenD_lst (by first | omega | (simp; done) | (simp; omega))) | (with_reducible exact slD_str (by first | omega | (simp; done) | (simp; omega))) | (with_reducible exact addD_list (by first | omega | (simp; done) | (simp; omega))) | (with_reducible exact range1_map (S := ⟨[], 0⟩) (by first | omega | (simp; done) | (simp; omega))) | (with_reducible exact addD_tupA (by first | omega | (simp; done) | (simp; omega))) | (exact rfl))
local macro_rules | `(tactic| walk_at "wx1") => `(tactic| first | (((with_reducible apply wp_var); · rfl)) | (with_reducible refine wp_seq ?_) | (with_reducible refine wp_callK ?_) | (with_reducible refine wp_makeK ?_) | (with_reducible refine wp_methK ?_) | (with_reducible refine sK_nx ?_) | (with_reducible refine sK_rt ?_) | (with_reducible refine dK_rt ?_) | (with_reducible refine wp_c ?_) | (with_reducible refine wp_asg ?_) | (with_reducible refine wp_par ?_) | (with_reducible refine wp_par3 ?_) | (with_reducible refine wp_ifS ?_) | (with_reducible refine wp_retS ?_) | (with_reducible refine wp_expr ?_) | (with_reducible refine wp_next ?_) | (with_reducible refine wp_op ?_) | (with_reducible refine wp_cons ?_) | (with_reducible refine wp_nil ?_) | (with_reducible refine wp_call ?_) | (with_reducible refine wp_cb ?_) | (with_reducible refine wp_tst ?_) | (with_reducible refine wp_not ?_) | (with_reducible refine wp_and ?_) | (with_reducible refine wp_or ?_) | (with_reducible refine wp_andV ?_) | (with_reducible refine wp_orV ?_) | (with_reducible refine wp_notV ?_) | (with_reducible refine wp_if ?_) | (with_reducible refine wp_tup ?_) | (with_reducible refine wp_lst ?_) | (with_reducible refine wp_lstM ?_) | (with_reducible refine wp_bm ?_) | (with_reducible refine wp_sl ?_) | (with_reducible refine wp_noP ?_) | (with_reducible refine wp_part ?_) | (with_reducible refine wp_chain ?_) | (with_reducible refine wp_fld ?_) | (with_reducible refine wp_make ?_) | (with_reducible refine wp_range ?_) | (with_reducible refine wp_items ?_) | (with_reducible refine wp_zip ?_) | (with_reducible refine wp_enum ?_) | (with_reducible refine wp_yes ?_) | (with_reducible refine wp_star ?_) | (with_reducible refine wp_callV ?_) | (with_reducible refine wp_makeV ?_) | (with_reducible refine wp_meth ?_) | (with_reducible refine wp_retN ?_) | (with_reducible refine wp_cm ?_) | (with_reducible refine wp_asgG ?_) | (with_reducible refine ex_int ?_) | (with_reducible refine wp_opM ?_) | (with_reducible refine wp_prop ?_) | (with_reducible refine wp_tr ?_) | (with_reducible refine wp_bm0 ?_) | (with_reducible refine lK_rt ?_) | (((with_reducible apply ex_of); · walk_at "wop")) | (((with_reducible apply ex_fld); · rfl; · rfl; · rfl)) | (((with_reducible apply And.intro); · first | rfl | exact ⟨rfl, rfl⟩ | decide | (simp; done))))
end J
set_option Elab.async false
set_option linter.all false
set_option maxRecDepth 100000
set_option maxHeartbeats 1010000
/-! VZo: answers on large boards -/
namespace J
open Cnt
local macro_rules | `(tactic| walk_at "wop") => `(tactic| first | (with_reducible exact addD_int) | (with_reducible exact subI_int) | (with_reducible exact eqD_int) | (with_reducible exact eqD_str) | (with_reducible exact eqD_bl) | (with_reducible exact neD_int) | (with_reducible exact neD_str) | (with_reducible exact neD_bl) | (with_reducible exact ltI_int) | (with_reducible exact leI_int) | (with_reducible exact gtI_int) | (with_reducible exact geI_int) | (with_reducible exact lenD_tup) | (with_reducible exact tup_lst) | (with_reducible exact addD_str (by first | omega | (simp; done) | (simp; omega))) | (with_reducible exact lenD_str (by first | omega | (simp; done) | (simp; omega))) | (with_reducible exact lenD_lst (by first | omega | (simp; done) | (simp; omega))) | (with_reducible exact slD_str (by first | omega | (simp; done) | (simp; omega))) | (with_reducible exact addD_list (by first | omega | (simp; done) | (simp; omega))) | (with_reducible exact range1_map (S := ⟨[], 0⟩) (by first | omega | (simp; done) | (simp; omega))) | (with_reducible exact addD_tupA (by first | omega | (simp; done) | (simp; omega))) | (exact rfl))
local macro_rules | `(tactic| walk_at "wx1") => `(tactic| first | (((with_reducible apply wp_var); · rfl)) | (with_reducible refine wp_seq ?_) | (with_reducible refine wp_callK ?_) | (with_reducible refine wp_makeK ?_) | (with_reducible refine wp_methK ?_) | (with_reducible refine sK_nx ?_) | (with_reducible refine sK_rt ?_) | (with_reducible refine dK_rt ?_) | (with_reducible refine wp_c ?_) | (with_reducible refine wp_asg ?_) | (with_reducible refine wp_par ?_) | (with_reducible refine wp_par3 ?_) | (with_reducible refine wp_ifS ?_) | (with_reducible refine wp_retS ?_) | (with_reducible refine wp_expr ?_) | (with_reducible refine wp_next ?_) | (with_reducible refine wp_op ?_) | (with_reducible refine wp_cons ?_) | (with_reducible refine wp_nil ?_) | (with_reducible refine wp_call ?_) | (with_reducible refine wp_cb ?_) | (with_reducible refine wp_tst ?_) | (with_reducible refine wp_not ?_) | (with_reducible refine wp_and ?_) | (with_reducible refine wp_or ?_) | (with_reducible refine wp_andV ?_) | (with_reducible refine wp_orV ?_) | (with_reducible refine wp_notV ?_) | (with_reducible refine wp_if ?_) | (with_reducible refine wp_tup ?_) | (with_reducible refine wp_lst ?_) | (with_reducible refine wp_lstM ?_) | (with_reducible refine wp_bm ?_) | (with_reducible refine wp_sl ?_) | (with_reducible refine wp_noP ?_) | (with_reducible refine wp_part ?_) | (with_reducible refine wp_chain ?_) | (with_reducible refine wp_fld ?_) | (with_reducible refine wp_make ?_) | (with_reducible refine wp_range ?_) | (with_reducible refine wp_items ?_) | (with_reducible refine wp_zip ?_) | (with_reducible refine wp_enum ?_) | (with_reducible refine wp_yes ?_) | (with_reducible refine wp_star ?_) | (with_reducible refine wp_callV ?_) | (with_reducible refine wp_makeV ?_) | (with_reducible refine wp_meth ?_) | (with_reducible refine wp_retN ?_) | (with_reducible refine wp_cm ?_) | (with_reducible refine wp_asgG ?_) | (with_reducible refine ex_int ?_) | (with_reducible refine wp_opM ?_) | (with_reducible refine wp_prop ?_) | (with_reducible refine wp_tr ?_) | (with_reducible refine wp_bm0 ?_) | (with_reducible refine lK_rt ?_) | (((with_reducible apply ex_of); · walk_at "wop")) | (((with_reducible apply ex_fld); · rfl; · rfl; · rfl)) | (((with_reducible apply And.intro); · first | rfl | exact ⟨rfl, rfl⟩ | decide | (simp; done))))
/-! ### the numbers of all marks add up -/
end J
set_option Elab.async false
set_option linter.all false
set_option maxRecDepth 100000
set_option maxHeartbeats 1010000
/-! VZp: runs that end with an error; the law's caught -/
namespace J
def Wx {α : Type} (m : M α) (S : Store) (c : Nat) (fs : List (Nat × D)) (Q : Store → Prop) : Prop := ∃ S', m S = .ex c fs S' ∧ Q S'
section
variable {α β : Type} {S : Store} {ρ : Rho} {c : Nat} {fs : List (Nat × D)} {QS : Store → Prop} {QF : Fl → Store → Prop} {Q : D → Store → Prop}
theorem Wx.imp {m : M α} {Q Q' : Store → Prop} (h : Wx m S c fs Q) (k : ∀ S', Q S' → Q' S') : Wx m S c fs Q' := let ⟨S', e, q⟩ := h; ⟨S', e, k S' q⟩
/-! ### caught -/
end
/-! ### texts of data, two of them in a tuple -/
/-! ### nth_word of what is no number -/
end J
set_option Elab.async false
set_option linter.all false
set_option maxRecDepth 100000
set_option maxHeartbeats 1010000
/-! VZq: the text of a word; place_of of a word that is not left -/
namespace J
end J
set_option Elab.async false
set_option linter.all false
set_option maxRecDepth 100000
set_option maxHeartbeats 1010000
/-! VZr: the worst of some answers -/
namespace J
local macro_rules | `(tactic| walk_at "wop") => `(tactic| first | (with_reducible exact addD_int) | (with_reducible exact subI_int) | (with_reducible exact eqD_int) | (with_reducible exact eqD_str) | (with_reducible exact eqD_bl) | (with_reducible exact neD_int) | (with_reducible exact neD_str) | (with_reducible exact neD_bl) | (with_reducible exact ltI_int) | (with_reducible exact leI_int) | (with_reducible exact gtI_int) | (with_reducible exact geI_int) | (with_reducible exact lenD_tup) | (with_reducible exact tup_lst) | (with_reducible exact addD_str (by first | omega | (simp; done) | (simp; omega))) | (with_reducible exact lenD_str (by first | omega | (simp; done) | (simp; omega))) | (with_reducible exact lenD_lst (by first | omega | (simp; done) | (simp; omega))) | (with_reducible exact slD_str (by first | omega | (simp; done) | (simp; omega))) | (with_reducible exact addD_list (by first | omega | (simp; done) | (simp; omega))) | (with_reducible exact range1_map (S := ⟨[], 0⟩) (by first | omega | (simp; done) | (simp; omega))) | (with_reducible exact addD_tupA (by first | omega | (simp; done) | (simp; omega))) | (exact rfl))
local macro_rules | `(tactic| walk_at "wx1") => `(tactic| first | (((with_reducible apply wp_var); · rfl)) | (with_reducible refine wp_seq ?_) | (with_reducible refine wp_callK ?_) | (with_reducible refine wp_makeK ?_) | (with_reducible refine wp_methK ?_) | (with_reducible refine sK_nx ?_) | (with_reducible refine sK_rt ?_) | (with_reducible refine dK_rt ?_) | (with_reducible refine wp_c ?_) | (with_reducible refine wp_asg ?_) | (with_reducible refine wp_par ?_) | (with_reducible refine wp_par3 ?_) | (with_reducible refine wp_ifS ?_) | (with_reducible refine wp_retS ?_) | (with_reducible refine wp_expr ?_) | (with_reducible refine wp_next ?_) | (with_reducible refine wp_op ?_) | (with_reducible refine wp_cons ?_) | (with_reducible refine wp_nil ?_) | (with_reducible refine wp_call ?_) | (with_reducible refine wp_cb ?_) | (with_reducible refine wp_tst ?_) | (with_reducible refine wp_not ?_) | (with_reducible refine wp_and ?_) | (with_reducible refine wp_or ?_) | (with_reducible refine wp_andV ?_) | (with_reducible refine wp_orV ?_) | (with_reducible refine wp_notV ?_) | (with_reducible refine wp_if ?_) | (with_reducible refine wp_tup ?_) | (with_reducible refine wp_lst ?_) | (with_reducible refine wp_lstM ?_) | (with_reducible refine wp_bm ?_) | (with_reducible refine wp_sl ?_) | (with_reducible refine wp_noP ?_) | (with_reducible refine wp_part ?_) | (with_reducible refine wp_chain ?_) | (with_reducible refine wp_fld ?_) | (with_reducible refine wp_make ?_) | (with_reducible refine wp_range ?_) | (with_reducible refine wp_items ?_) | (with_reducible refine wp_zip ?_) | (with_reducible refine wp_enum ?_) | (with_reducible refine wp_yes ?_) | (with_reducible refine wp_star ?_) | (with_reducible refine wp_callV ?_) | (with_reducible refine wp_makeV ?_) | (with_reducible refine wp_meth ?_) | (with_reducible refine wp_retN ?_) | (with_reducible refine wp_cm ?_) | (with_reducible refine wp_asgG ?_) | (with_reducible refine ex_int ?_) | (with_reducible refine wp_opM ?_) | (with_reducible refine wp_prop ?_) | (with_reducible refine wp_tr ?_) | (with_reducible refine wp_bm0 ?_) | (with_reducible refine lK_rt ?_) | (((with_reducible apply ex_of); · walk_at "wop")) | (((with_reducible apply ex_fld); · rfl; · rfl; · rfl)) | (((with_reducible apply And.intro); · first | rfl | exact ⟨rfl, rfl⟩ | decide | (simp; done))))
end J
set_option Elab.async false
set_option linter.all false
set_option maxRecDepth 100000
set_option maxHeartbeats 1010000
/-! VZs: texts of numbers; where a word stands among sorted ones, by its first letter -/
namespace J
end J
set_option Elab.async false
set_option linter.all false
set_option maxRecDepth 100000
set_option maxHeartbeats 1010000
/-! VZt: the best of some guesses -/
namespace J
local macro_rules | `(tactic| walk_at "wop") => `(tactic| first | (with_reducible exact addD_int) | (with_reducible exact subI_int) | (with_reducible exact eqD_int) | (with_reducible exact eqD_str) | (with_reducible exact eqD_bl) | (with_reducible exact neD_int) | (with_reducible exact neD_str) | (with_reducible exact neD_bl) | (with_reducible exact ltI_int) | (with_reducible exact leI_int) | (with_reducible exact gtI_int) | (with_reducible exact geI_int) | (with_reducible exact lenD_tup) | (with_reducible exact tup_lst) | (with_reducible exact addD_str (by first | omega | (simp; done) | (simp; omega))) | (with_reducible exact lenD_str (by first | omega | (simp; done) | (simp; omega))) | (with_reducible exact lenD_lst (by first | omega | (simp; done) | (simp; omega))) | (with_reducible exact slD_str (by first | omega | (simp; done) | (simp; omega))) | (with_reducible exact addD_list (by first | omega | (simp; done) | (simp; omega))) | (with_reducible exact range1_map (S := ⟨[], 0⟩) (by first | omega | (simp; done) | (simp; omega))) | (with_reducible exact addD_tupA (by first | omega | (simp; done) | (simp; omega))) | (exact rfl))
local macro_rules | `(tactic| walk_at "wx1") => `(tactic| first | (((with_reducible apply wp_var); · rfl)) | (with_reducible refine wp_seq ?_) | (with_reducible refine wp_callK ?_) | (with_reducible refine wp_makeK ?_) | (with_reducible refine wp_methK ?_) | (with_reducible refine sK_nx ?_) | (with_reducible refine sK_rt ?_) | (with_reducible refine dK_rt ?_) | (with_reducible refine wp_c ?_) | (with_reducible refine wp_asg ?_) | (with_reducible refine wp_par ?_) | (with_reducible refine wp_par3 ?_) | (with_reducible refine wp_ifS ?_) | (with_reducible refine wp_retS ?_) | (with_reducible refine wp_expr ?_) | (with_reducible refine wp_next ?_) | (with_reducible refine wp_op ?_) | (with_reducible refine wp_cons ?_) | (with_reducible refine wp_nil ?_) | (with_reducible refine wp_call ?_) | (with_reducible refine wp_cb ?_) | (with_reducible refine wp_tst ?_) | (with_reducible refine wp_not ?_) | (with_reducible refine wp_and ?_) | (with_reducible refine wp_or ?_) | (with_reducible refine wp_andV ?_) | (with_reducible refine wp_orV ?_) | (with_reducible refine wp_notV ?_) | (with_reducible refine wp_if ?_) | (with_reducible refine wp_tup ?_) | (with_reducible refine wp_lst ?_) | (with_reducible refine wp_lstM ?_) | (with_reducible refine wp_bm ?_) | (with_reducible refine wp_sl ?_) | (with_reducible refine wp_noP ?_) | (with_reducible refine wp_part ?_) | (with_reducible refine wp_chain ?_) | (with_reducible refine wp_fld ?_) | (with_reducible refine wp_make ?_) | (with_reducible refine wp_range ?_) | (with_reducible refine wp_items ?_) | (with_reducible refine wp_zip ?_) | (with_reducible refine wp_enum ?_) | (with_reducible refine wp_yes ?_) | (with_reducible refine wp_star ?_) | (with_reducible refine wp_callV ?_) | (with_reducible refine wp_makeV ?_) | (with_reducible refine wp_meth ?_) | (with_reducible refine wp_retN ?_) | (with_reducible refine wp_cm ?_) | (with_reducible refine wp_asgG ?_) | (with_reducible refine ex_int ?_) | (with_reducible refine wp_opM ?_) | (with_reducible refine wp_prop ?_) | (with_reducible refine wp_tr ?_) | (with_reducible refine wp_bm0 ?_) | (with_reducible refine lK_rt ?_) | (((with_reducible apply ex_of); · walk_at "wop")) | (((with_reducible apply ex_fld); · rfl; · rfl; · rfl)) | (((with_reducible apply And.intro); · first | rfl | exact ⟨rfl, rfl⟩ | decide | (simp; done))))
end J
set_option Elab.async false
set_option linter.all false
set_option maxRecDepth 100000
set_option maxHeartbeats 1010000
/-! VZu: best_guess, and the law's own best guess -/
namespace J
local macro_rules | `(tactic| walk_at "wop") => `(tactic| first | (with_reducible exact addD_int) | (with_reducible exact subI_int) | (with_reducible exact eqD_int) | (with_reducible exact eqD_str) | (with_reducible exact eqD_bl) | (with_reducible exact neD_int) | (with_reducible exact neD_str) | (with_reducible exact neD_bl) | (with_reducible exact ltI_int) | (with_reducible exact leI_int) | (with_reducible exact gtI_int) | (with_reducible exact geI_int) | (with_reducible exact lenD_tup) | (with_reducible exact tup_lst) | (with_reducible exact addD_str (by first | omega | (simp; done) | (simp; omega))) | (with_reducible exact lenD_str (by first | omega | (simp; done) | (simp; omega))) | (with_reducible exact lenD_lst (by first | omega | (simp; done) | (simp; omega))) | (with_reducible exact slD_str (by first | omega | (simp; done) | (simp; omega))) | (with_reducible exact addD_list (by first | omega | (simp; done) | (simp; omega))) | (with_reducible exact range1_map (S := ⟨[], 0⟩) (by first | omega | (simp; done) | (simp; omega))) | (with_reducible exact addD_tupA (by first | omega | (simp; done) | (simp; omega))) | (exact rfl))
local macro_rules | `(tactic| walk_at "wx1") => `(tactic| first | (((with_reducible apply wp_var); · rfl)) | (with_reducible refine wp_seq ?_) | (with_reducible refine wp_callK ?_) | (with_reducible refine wp_makeK ?_) | (with_reducible refine wp_methK ?_) | (with_reducible refine sK_nx ?_) | (with_reducible refine sK_rt ?_) | (with_reducible refine dK_rt ?_) | (with_reducible refine wp_c ?_) | (with_reducible refine wp_asg ?_) | (with_reducible refine wp_par ?_) | (with_reducible refine wp_par3 ?_) | (with_reducible refine wp_ifS ?_) | (with_reducible refine wp_retS ?_) | (with_reducible refine wp_expr ?_) | (with_reducible refine wp_next ?_) | (with_reducible refine wp_op ?_) | (with_reducible refine wp_cons ?_) | (with_reducible refine wp_nil ?_) | (with_reducible refine wp_call ?_) | (with_reducible refine wp_cb ?_) | (with_reducible refine wp_tst ?_) | (with_reducible refine wp_not ?_) | (with_reducible refine wp_and ?_) | (with_reducible refine wp_or ?_) | (with_reducible refine wp_andV ?_) | (with_reducible refine wp_orV ?_) | (with_reducible refine wp_notV ?_) | (with_reducible refine wp_if ?_) | (with_reducible refine wp_tup ?_) | (with_reducible refine wp_lst ?_) | (with_reducible refine wp_lstM ?_) | (with_reducible refine wp_bm ?_) | (with_reducible refine wp_sl ?_) | (with_reducible refine wp_noP ?_) | (with_reducible refine wp_part ?_) | (with_reducible refine wp_chain ?_) | (with_reducible refine wp_fld ?_) | (with_reducible refine wp_make ?_) | (with_reducible refine wp_range ?_) | (with_reducible refine wp_items ?_) | (with_reducible refine wp_zip ?_) | (with_reducible refine wp_enum ?_) | (with_reducible refine wp_yes ?_) | (with_reducible refine wp_star ?_) | (with_reducible refine wp_callV ?_) | (with_reducible refine wp_makeV ?_) | (with_reducible refine wp_meth ?_) | (with_reducible refine wp_retN ?_) | (with_reducible refine wp_cm ?_) | (with_reducible refine wp_asgG ?_) | (with_reducible refine ex_int ?_) | (with_reducible refine wp_opM ?_) | (with_reducible refine wp_prop ?_) | (with_reducible refine wp_tr ?_) | (with_reducible refine wp_bm0 ?_) | (with_reducible refine lK_rt ?_) | (((with_reducible apply ex_of); · walk_at "wop")) | (((with_reducible apply ex_fld); · rfl; · rfl; · rfl)) | (((with_reducible apply And.intro); · first | rfl | exact ⟨rfl, rfl⟩ | decide | (simp; done))))
end J
set_option Elab.async false
set_option linter.all false
set_option maxRecDepth 100000
set_option maxHeartbeats 1010000
/-! VZv: selections -/
namespace J
local macro_rules | `(tactic| walk_at "wop") => `(tactic| first | (with_reducible exact addD_int) | (with_reducible exact subI_int) | (with_reducible exact eqD_int) | (with_reducible exact eqD_str) | (with_reducible exact eqD_bl) | (with_reducible exact neD_int) | (with_reducible exact neD_str) | (with_reducible exact neD_bl) | (with_reducible exact ltI_int) | (with_reducible exact leI_int) | (with_reducible exact gtI_int) | (with_reducible exact geI_int) | (with_reducible exact lenD_tup) | (with_reducible exact tup_lst) | (with_reducible exact addD_str (by first | omega | (simp; done) | (simp; omega))) | (with_reducible exact lenD_str (by first | omega | (simp; done) | (simp; omega))) | (with_reducible exact lenD_lst (by first | omega | (simp; done) | (simp; omega))) | (with_reducible exact slD_str (by first | omega | (simp; done) | (simp; omega))) | (with_reducible exact addD_list (by first | omega | (simp; done) | (simp; omega))) | (with_reducible exact range1_map (S := ⟨[], 0⟩) (by first | omega | (simp; done) | (simp; omega))) | (with_reducible exact addD_tupA (by first | omega | (simp; done) | (simp; omega))) | (exact rfl))
local macro_rules | `(tactic| walk_at "wx1") => `(tactic| first | (((with_reducible apply wp_var); · rfl)) | (with_reducible refine wp_seq ?_) | (with_reducible refine wp_callK ?_) | (with_reducible refine wp_makeK ?_) | (with_reducible refine wp_methK ?_) | (with_reducible refine sK_nx ?_) | (with_reducible refine sK_rt ?_) | (with_reducible refine dK_rt ?_) | (with_reducible refine wp_c ?_) | (with_reducible refine wp_asg ?_) | (with_reducible refine wp_par ?_) | (with_reducible refine wp_par3 ?_) | (with_reducible refine wp_ifS ?_) | (with_reducible refine wp_retS ?_) | (with_reducible refine wp_expr ?_) | (with_reducible refine wp_next ?_) | (with_reducible refine wp_op ?_) | (with_reducible refine wp_cons ?_) | (with_reducible refine wp_nil ?_) | (with_reducible refine wp_call ?_) | (with_reducible refine wp_cb ?_) | (with_reducible refine wp_tst ?_) | (with_reducible refine wp_not ?_) | (with_reducible refine wp_and ?_) | (with_reducible refine wp_or ?_) | (with_reducible refine wp_andV ?_) | (with_reducible refine wp_orV ?_) | (with_reducible refine wp_notV ?_) | (with_reducible refine wp_if ?_) | (with_reducible refine wp_tup ?_) | (with_reducible refine wp_lst ?_) | (with_reducible refine wp_lstM ?_) | (with_reducible refine wp_bm ?_) | (with_reducible refine wp_sl ?_) | (with_reducible refine wp_noP ?_) | (with_reducible refine wp_part ?_) | (with_reducible refine wp_chain ?_) | (with_reducible refine wp_fld ?_) | (with_reducible refine wp_make ?_) | (with_reducible refine wp_range ?_) | (with_reducible refine wp_items ?_) | (with_reducible refine wp_zip ?_) | (with_reducible refine wp_enum ?_) | (with_reducible refine wp_yes ?_) | (with_reducible refine wp_star ?_) | (with_reducible refine wp_callV ?_) | (with_reducible refine wp_makeV ?_) | (with_reducible refine wp_meth ?_) | (with_reducible refine wp_retN ?_) | (with_reducible refine wp_cm ?_) | (with_reducible refine wp_asgG ?_) | (with_reducible refine ex_int ?_) | (with_reducible refine wp_opM ?_) | (with_reducible refine wp_prop ?_) | (with_reducible refine wp_tr ?_) | (with_reducible refine wp_bm0 ?_) | (with_reducible refine lK_rt ?_) | (((with_reducible apply ex_of); · walk_at "wop")) | (((with_reducible apply ex_fld); · rfl; · rfl; · rfl)) | (((with_reducible apply And.intro); · first | rfl | exact ⟨rfl, rfl⟩ | decide | (simp; done))))
end J
set_option Elab.async false
set_option linter.all false
set_option maxRecDepth 100000
set_option maxHeartbeats 1010000
/-! VZw: selections, walked -/
namespace J
local macro_rules | `(tactic| walk_at "wop") => `(tactic| first | (with_reducible exact addD_int) | (with_reducible exact subI_int) | (with_reducible exact eqD_int) | (with_reducible exact eqD_str) | (with_reducible exact eqD_bl) | (with_reducible exact neD_int) | (with_reducible exact neD_str) | (with_reducible exact neD_bl) | (with_reducible exact ltI_int) | (with_reducible exact leI_int) | (with_reducible exact gtI_int) | (with_reducible exact geI_int) | (with_reducible exact lenD_tup) | (with_reducible exact tup_lst) | (with_reducible exact addD_str (by first | omega | (simp; done) | (simp; omega))) | (with_reducible exact lenD_str (by first | omega | (simp; done) | (simp; omega))) | (with_reducible exact lenD_lst (by first | omega | (simp; done) | (simp; omega))) | (with_reducible exact slD_str (by first | omega | (simp; done) | (simp; omega))) | (with_reducible exact addD_list (by first | omega | (simp; done) | (simp; omega))) | (with_reducible exact range1_map (S := ⟨[], 0⟩) (by first | omega | (simp; done) | (simp; omega))) | (with_reducible exact addD_tupA (by first | omega | (simp; done) | (simp; omega))) | (exact rfl))
local macro_rules | `(tactic| walk_at "wx1") => `(tactic| first | (((with_reducible apply wp_var); · rfl)) | (with_reducible refine wp_seq ?_) | (with_reducible refine wp_callK ?_) | (with_reducible refine wp_makeK ?_) | (with_reducible refine wp_methK ?_) | (with_reducible refine sK_nx ?_) | (with_reducible refine sK_rt ?_) | (with_reducible refine dK_rt ?_) | (with_reducible refine wp_c ?_) | (with_reducible refine wp_asg ?_) | (with_reducible refine wp_par ?_) | (with_reducible refine wp_par3 ?_) | (with_reducible refine wp_ifS ?_) | (with_reducible refine wp_retS ?_) | (with_reducible refine wp_expr ?_) | (with_reducible refine wp_next ?_) | (with_reducible refine wp_op ?_) | (with_reducible refine wp_cons ?_) | (with_reducible refine wp_nil ?_) | (with_reducible refine wp_call ?_) | (with_reducible refine wp_cb ?_) | (with_reducible refine wp_tst ?_) | (with_reducible refine wp_not ?_) | (with_reducible refine wp_and ?_) | (with_reducible refine wp_or ?_) | (with_reducible refine wp_andV ?_) | (with_reducible refine wp_orV ?_) | (with_reducible refine wp_notV ?_) | (with_reducible refine wp_if ?_) | (with_reducible refine wp_tup ?_) | (with_reducible refine wp_lst ?_) | (with_reducible refine wp_lstM ?_) | (with_reducible refine wp_bm ?_) | (with_reducible refine wp_sl ?_) | (with_reducible refine wp_noP ?_) | (with_reducible refine wp_part ?_) | (with_reducible refine wp_chain ?_) | (with_reducible refine wp_fld ?_) | (with_reducible refine wp_make ?_) | (with_reducible refine wp_range ?_) | (with_reducible refine wp_items ?_) | (with_reducible refine wp_zip ?_) | (with_reducible refine wp_enum ?_) | (with_reducible refine wp_yes ?_) | (with_reducible refine wp_star ?_) | (with_reducible refine wp_callV ?_) | (with_reducible refine wp_makeV ?_) | (with_reducible refine wp_meth ?_) | (with_reducible refine wp_retN ?_) | (with_reducible refine wp_cm ?_) | (with_reducible refine wp_asgG ?_) | (with_reducible refine ex_int ?_) | (with_reducible refine wp_opM ?_) | (with_reducible refine wp_prop ?_) | (with_reducible refine wp_tr ?_) | (with_reducible refine wp_bm0 ?_) | (with_reducible refine lK_rt ?_) | (((with_reducible apply ex_of); · walk_at "wop")) | (((with_reducible apply ex_fld); · rfl; · rfl; · rfl)) | (((with_reducible apply And.intro); · first | rfl | exact ⟨rfl, rfl⟩ | decide | (simp; done))))
end J
set_option Elab.async false
set_option linter.all false
set_option maxRecDepth 100000
set_option maxHeartbeats 1010000
/-! VZx: is_mended, wrong_rows -/
namespace J
local macro_rules | `(tactic| walk_at "wop") => `(tactic| first | (with_reducible exact addD_int) | (with_reducible exact subI_int) | (with_reducible exact eqD_int) | (with_reducible exact eqD_str) | (with_reducible exact eqD_bl) | (with_reducible exact neD_int) | (with_reducible exact neD_str) | (with_reducible exact neD_bl) | (with_reducible exact ltI_int) | (with_reducible exact leI_int) | (with_reducible exact gtI_int) | (with_reducible exact geI_int) | (with_reducible exact lenD_tup) | (with_reducible exact tup_lst) | (with_reducible exact addD_str (by first | omega | (simp; done) | (simp; omega))) | (with_reducible exact lenD_str (by first | omega | (simp; done) | (simp; omega))) | (with_reducible exact lenD_lst (by first | omega | (simp; done) | (simp; omega))) | (with_reducible exact slD_str (by first | omega | (simp; done) | (simp; omega))) | (with_reducible exact addD_list (by first | omega | (simp; done) | (simp; omega))) | (with_reducible exact range1_map (S := ⟨[], 0⟩) (by first | omega | (simp; done) | (simp; omega))) | (with_reducible exact addD_tupA (by first | omega | (simp; done) | (simp; omega))) | (exact rfl))
local macro_rules | `(tactic| walk_at "wx1") => `(tactic| first | (((with_reducible apply wp_var); · rfl)) | (with_reducible refine wp_seq ?_) | (with_reducible refine wp_callK ?_) | (with_reducible refine wp_makeK ?_) | (with_reducible refine wp_methK ?_) | (with_reducible refine sK_nx ?_) | (with_reducible refine sK_rt ?_) | (with_reducible refine dK_rt ?_) | (with_reducible refine wp_c ?_) | (with_reducible refine wp_asg ?_) | (with_reducible refine wp_par ?_) | (with_reducible refine wp_par3 ?_) | (with_reducible refine wp_ifS ?_) | (with_reducible refine wp_retS ?_) | (with_reducible refine wp_expr ?_) | (with_reducible refine wp_next ?_) | (with_reducible refine wp_op ?_) | (with_reducible refine wp_cons ?_) | (with_reducible refine wp_nil ?_) | (with_reducible refine wp_call ?_) | (with_reducible refine wp_cb ?_) | (with_reducible refine wp_tst ?_) | (with_reducible refine wp_not ?_) | (with_reducible refine wp_and ?_) | (with_reducible refine wp_or ?_) | (with_reducible refine wp_andV ?_) | (with_reducible refine wp_orV ?_) | (with_reducible refine wp_notV ?_) | (with_reducible refine wp_if ?_) | (with_reducible refine wp_tup ?_) | (with_reducible refine wp_lst ?_) | (with_reducible refine wp_lstM ?_) | (with_reducible refine wp_bm ?_) | (with_reducible refine wp_sl ?_) | (with_reducible refine wp_noP ?_) | (with_reducible refine wp_part ?_) | (with_reducible refine wp_chain ?_) | (with_reducible refine wp_fld ?_) | (with_reducible refine wp_make ?_) | (with_reducible refine wp_range ?_) | (with_reducible refine wp_items ?_) | (with_reducible refine wp_zip ?_) | (with_reducible refine wp_enum ?_) | (with_reducible refine wp_yes ?_) | (with_reducible refine wp_star ?_) | (with_reducible refine wp_callV ?_) | (with_reducible refine wp_makeV ?_) | (with_reducible refine wp_meth ?_) | (with_reducible refine wp_retN ?_) | (with_reducible refine wp_cm ?_) | (with_reducible refine wp_asgG ?_) | (with_reducible refine ex_int ?_) | (with_reducible refine wp_opM ?_) | (with_reducible refine wp_prop ?_) | (with_reducible refine wp_tr ?_) | (with_reducible refine wp_bm0 ?_) | (with_reducible refine lK_rt ?_) | (((with_reducible apply ex_of); · walk_at "wop")) | (((with_reducible apply ex_fld); · rfl; · rfl; · rfl)) | (((with_reducible apply And.intro); · first | rfl | exact ⟨rfl, rfl⟩ | decide | (simp; done))))
end J
set_option Elab.async false
set_option linter.all false
set_option maxRecDepth 100000
set_option maxHeartbeats 1010000
/-! VZy: the shortest, then least, selection that mends: found by selections, and by words -/
namespace J
local macro_rules | `(tactic| walk_at "wop") => `(tactic| first | (with_reducible exact addD_int) | (with_reducible exact subI_int) | (with_reducible exact eqD_int) | (with_reducible exact eqD_str) | (with_reducible exact eqD_bl) | (with_reducible exact neD_int) | (with_reducible exact neD_str) | (with_reducible exact neD_bl) | (with_reducible exact ltI_int) | (with_reducible exact leI_int) | (with_reducible exact gtI_int) | (with_reducible exact geI_int) | (with_reducible exact lenD_tup) | (with_reducible exact tup_lst) | (with_reducible exact addD_str (by first | omega | (simp; done) | (simp; omega))) | (with_reducible exact lenD_str (by first | omega | (simp; done) | (simp; omega))) | (with_reducible exact lenD_lst (by first | omega | (simp; done) | (simp; omega))) | (with_reducible exact slD_str (by first | omega | (simp; done) | (simp; omega))) | (with_reducible exact addD_list (by first | omega | (simp; done) | (simp; omega))) | (with_reducible exact range1_map (S := ⟨[], 0⟩) (by first | omega | (simp; done) | (simp; omega))) | (with_reducible exact addD_tupA (by first | omega | (simp; done) | (simp; omega))) | (exact rfl))
local macro_rules | `(tactic| walk_at "wx1") => `(tactic| first | (((with_reducible apply wp_var); · rfl)) | (with_reducible refine wp_seq ?_) | (with_reducible refine wp_callK ?_) | (with_reducible refine wp_makeK ?_) | (with_reducible refine wp_methK ?_) | (with_reducible refine sK_nx ?_) | (with_reducible refine sK_rt ?_) | (with_reducible refine dK_rt ?_) | (with_reducible refine wp_c ?_) | (with_reducible refine wp_asg ?_) | (with_reducible refine wp_par ?_) | (with_reducible refine wp_par3 ?_) | (with_reducible refine wp_ifS ?_) | (with_reducible refine wp_retS ?_) | (with_reducible refine wp_expr ?_) | (with_reducible refine wp_next ?_) | (with_reducible refine wp_op ?_) | (with_reducible refine wp_cons ?_) | (with_reducible refine wp_nil ?_) | (with_reducible refine wp_call ?_) | (with_reducible refine wp_cb ?_) | (with_reducible refine wp_tst ?_) | (with_reducible refine wp_not ?_) | (with_reducible refine wp_and ?_) | (with_reducible refine wp_or ?_) | (with_reducible refine wp_andV ?_) | (with_reducible refine wp_orV ?_) | (with_reducible refine wp_notV ?_) | (with_reducible refine wp_if ?_) | (with_reducible refine wp_tup ?_) | (with_reducible refine wp_lst ?_) | (with_reducible refine wp_lstM ?_) | (with_reducible refine wp_bm ?_) | (with_reducible refine wp_sl ?_) | (with_reducible refine wp_noP ?_) | (with_reducible refine wp_part ?_) | (with_reducible refine wp_chain ?_) | (with_reducible refine wp_fld ?_) | (with_reducible refine wp_make ?_) | (with_reducible refine wp_range ?_) | (with_reducible refine wp_items ?_) | (with_reducible refine wp_zip ?_) | (with_reducible refine wp_enum ?_) | (with_reducible refine wp_yes ?_) | (with_reducible refine wp_star ?_) | (with_reducible refine wp_callV ?_) | (with_reducible refine wp_makeV ?_) | (with_reducible refine wp_meth ?_) | (with_reducible refine wp_retN ?_) | (with_reducible refine wp_cm ?_) | (with_reducible refine wp_asgG ?_) | (with_reducible refine ex_int ?_) | (with_reducible refine wp_opM ?_) | (with_reducible refine wp_prop ?_) | (with_reducible refine wp_tr ?_) | (with_reducible refine wp_bm0 ?_) | (with_reducible refine lK_rt ?_) | (((with_reducible apply ex_of); · walk_at "wop")) | (((with_reducible apply ex_fld); · rfl; · rfl; · rfl)) | (((with_reducible apply And.intro); · first | rfl | exact ⟨rfl, rfl⟩ | decide | (simp; done))))
end J
set_option Elab.async false
set_option linter.all false
set_option maxRecDepth 100000
set_option maxHeartbeats 1010000
/-! VZz: the law's own wrong rows; too many rows -/
namespace J
local macro_rules | `(tactic| walk_at "wop") => `(tactic| first | (with_reducible exact addD_int) | (with_reducible exact subI_int) | (with_reducible exact eqD_int) | (with_reducible exact eqD_str) | (with_reducible exact eqD_bl) | (with_reducible exact neD_int) | (with_reducible exact neD_str) | (with_reducible exact neD_bl) | (with_reducible exact ltI_int) | (with_reducible exact leI_int) | (with_reducible exact gtI_int) | (with_reducible exact geI_int) | (with_reducible exact lenD_tup) | (with_reducible exact tup_lst) | (with_reducible exact addD_str (by first | omega | (simp; done) | (simp; omega))) | (with_reducible exact lenD_str (by first | omega | (simp; done) | (simp; omega))) | (with_reducible exact lenD_lst (by first | omega | (simp; done) | (simp; omega))) | (with_reducible exact slD_str (by first | omega | (simp; done) | (simp; omega))) | (with_reducible exact addD_list (by first | omega | (simp; done) | (simp; omega))) | (with_reducible exact range1_map (S := ⟨[], 0⟩) (by first | omega | (simp; done) | (simp; omega))) | (with_reducible exact addD_tupA (by first | omega | (simp; done) | (simp; omega))) | (exact rfl))
local macro_rules | `(tactic| walk_at "wx1") => `(tactic| first | (((with_reducible apply wp_var); · rfl)) | (with_reducible refine wp_seq ?_) | (with_reducible refine wp_callK ?_) | (with_reducible refine wp_makeK ?_) | (with_reducible refine wp_methK ?_) | (with_reducible refine sK_nx ?_) | (with_reducible refine sK_rt ?_) | (with_reducible refine dK_rt ?_) | (with_reducible refine wp_c ?_) | (with_reducible refine wp_asg ?_) | (with_reducible refine wp_par ?_) | (with_reducible refine wp_par3 ?_) | (with_reducible refine wp_ifS ?_) | (with_reducible refine wp_retS ?_) | (with_reducible refine wp_expr ?_) | (with_reducible refine wp_next ?_) | (with_reducible refine wp_op ?_) | (with_reducible refine wp_cons ?_) | (with_reducible refine wp_nil ?_) | (with_reducible refine wp_call ?_) | (with_reducible refine wp_cb ?_) | (with_reducible refine wp_tst ?_) | (with_reducible refine wp_not ?_) | (with_reducible refine wp_and ?_) | (with_reducible refine wp_or ?_) | (with_reducible refine wp_andV ?_) | (with_reducible refine wp_orV ?_) | (with_reducible refine wp_notV ?_) | (with_reducible refine wp_if ?_) | (with_reducible refine wp_tup ?_) | (with_reducible refine wp_lst ?_) | (with_reducible refine wp_lstM ?_) | (with_reducible refine wp_bm ?_) | (with_reducible refine wp_sl ?_) | (with_reducible refine wp_noP ?_) | (with_reducible refine wp_part ?_) | (with_reducible refine wp_chain ?_) | (with_reducible refine wp_fld ?_) | (with_reducible refine wp_make ?_) | (with_reducible refine wp_range ?_) | (with_reducible refine wp_items ?_) | (with_reducible refine wp_zip ?_) | (with_reducible refine wp_enum ?_) | (with_reducible refine wp_yes ?_) | (with_reducible refine wp_star ?_) | (with_reducible refine wp_callV ?_) | (with_reducible refine wp_makeV ?_) | (with_reducible refine wp_meth ?_) | (with_reducible refine wp_retN ?_) | (with_reducible refine wp_cm ?_) | (with_reducible refine wp_asgG ?_) | (with_reducible refine ex_int ?_) | (with_reducible refine wp_opM ?_) | (with_reducible refine wp_prop ?_) | (with_reducible refine wp_tr ?_) | (with_reducible refine wp_bm0 ?_) | (with_reducible refine lK_rt ?_) | (((with_reducible apply ex_of); · walk_at "wop")) | (((with_reducible apply ex_fld); · rfl; · rfl; · rfl)) | (((with_reducible apply And.intro); · first | rfl | exact ⟨rfl, rfl⟩ | decide | (simp; done))))
end J
set_option Elab.async false
set_option linter.all false
set_option maxRecDepth 100000
set_option maxHeartbeats 1010000
/-! WA: the least selection that mends: rows less, one row more, rows that name words -/
namespace J
local macro_rules | `(tactic| walk_at "wop") => `(tactic| first | (with_reducible exact addD_int) | (with_reducible exact subI_int) | (with_reducible exact eqD_int) | (with_reducible exact eqD_str) | (with_reducible exact eqD_bl) | (with_reducible exact neD_int) | (with_reducible exact neD_str) | (with_reducible exact neD_bl) | (with_reducible exact ltI_int) | (with_reducible exact leI_int) | (with_reducible exact gtI_int) | (with_reducible exact geI_int) | (with_reducible exact lenD_tup) | (with_reducible exact tup_lst) | (with_reducible exact addD_str (by first | omega | (simp; done) | (simp; omega))) | (with_reducible exact lenD_str (by first | omega | (simp; done) | (simp; omega))) | (with_reducible exact lenD_lst (by first | omega | (simp; done) | (simp; omega))) | (with_reducible exact slD_str (by first | omega | (simp; done) | (simp; omega))) | (with_reducible exact addD_list (by first | omega | (simp; done) | (simp; omega))) | (with_reducible exact range1_map (S := ⟨[], 0⟩) (by first | omega | (simp; done) | (simp; omega))) | (with_reducible exact addD_tupA (by first | omega | (simp; done) | (simp; omega))) | (exact rfl))
local macro_rules | `(tactic| walk_at "wx1") => `(tactic| first | (((with_reducible apply wp_var); · rfl)) | (with_reducible refine wp_seq ?_) | (with_reducible refine wp_callK ?_) | (with_reducible refine wp_makeK ?_) | (with_reducible refine wp_methK ?_) | (with_reducible refine sK_nx ?_) | (with_reducible refine sK_rt ?_) | (with_reducible refine dK_rt ?_) | (with_reducible refine wp_c ?_) | (with_reducible refine wp_asg ?_) | (with_reducible refine wp_par ?_) | (with_reducible refine wp_par3 ?_) | (with_reducible refine wp_ifS ?_) | (with_reducible refine wp_retS ?_) | (with_reducible refine wp_expr ?_) | (with_reducible refine wp_next ?_) | (with_reducible refine wp_op ?_) | (with_reducible refine wp_cons ?_) | (with_reducible refine wp_nil ?_) | (with_reducible refine wp_call ?_) | (with_reducible refine wp_cb ?_) | (with_reducible refine wp_tst ?_) | (with_reducible refine wp_not ?_) | (with_reducible refine wp_and ?_) | (with_reducible refine wp_or ?_) | (with_reducible refine wp_andV ?_) | (with_reducible refine wp_orV ?_) | (with_reducible refine wp_notV ?_) | (with_reducible refine wp_if ?_) | (with_reducible refine wp_tup ?_) | (with_reducible refine wp_lst ?_) | (with_reducible refine wp_lstM ?_) | (with_reducible refine wp_bm ?_) | (with_reducible refine wp_sl ?_) | (with_reducible refine wp_noP ?_) | (with_reducible refine wp_part ?_) | (with_reducible refine wp_chain ?_) | (with_reducible refine wp_fld ?_) | (with_reducible refine wp_make ?_) | (with_reducible refine wp_range ?_) | (with_reducible refine wp_items ?_) | (with_reducible refine wp_zip ?_) | (with_reducible refine wp_enum ?_) | (with_reducible refine wp_yes ?_) | (with_reducible refine wp_star ?_) | (with_reducible refine wp_callV ?_) | (with_reducible refine wp_makeV ?_) | (with_reducible refine wp_meth ?_) | (with_reducible refine wp_retN ?_) | (with_reducible refine wp_cm ?_) | (with_reducible refine wp_asgG ?_) | (with_reducible refine ex_int ?_) | (with_reducible refine wp_opM ?_) | (with_reducible refine wp_prop ?_) | (with_reducible refine wp_tr ?_) | (with_reducible refine wp_bm0 ?_) | (with_reducible refine lK_rt ?_) | (((with_reducible apply ex_of); · walk_at "wop")) | (((with_reducible apply ex_fld); · rfl; · rfl; · rfl)) | (((with_reducible apply And.intro); · first | rfl | exact ⟨rfl, rfl⟩ | decide | (simp; done))))
end J
set_option Elab.async false
set_option linter.all false
set_option maxRecDepth 100000
set_option maxHeartbeats 1010000
/-! WB: a fact that no word has, by its number: less than none of a letter; words within, with facts out of range -/
namespace J
local macro_rules | `(tactic| walk_at "wop") => `(tactic| first | (with_reducible exact addD_int) | (with_reducible exact subI_int) | (with_reducible exact eqD_int) | (with_reducible exact eqD_str) | (with_reducible exact eqD_bl) | (with_reducible exact neD_int) | (with_reducible exact neD_str) | (with_reducible exact neD_bl) | (with_reducible exact ltI_int) | (with_reducible exact leI_int) | (with_reducible exact gtI_int) | (with_reducible exact geI_int) | (with_reducible exact lenD_tup) | (with_reducible exact tup_lst) | (with_reducible exact addD_str (by first | omega | (simp; done) | (simp; omega))) | (with_reducible exact lenD_str (by first | omega | (simp; done) | (simp; omega))) | (with_reducible exact lenD_lst (by first | omega | (simp; done) | (simp; omega))) | (with_reducible exact slD_str (by first | omega | (simp; done) | (simp; omega))) | (with_reducible exact addD_list (by first | omega | (simp; done) | (simp; omega))) | (with_reducible exact range1_map (S := ⟨[], 0⟩) (by first | omega | (simp; done) | (simp; omega))) | (with_reducible exact addD_tupA (by first | omega | (simp; done) | (simp; omega))) | (exact rfl))
local macro_rules | `(tactic| walk_at "wx1") => `(tactic| first | (((with_reducible apply wp_var); · rfl)) | (with_reducible refine wp_seq ?_) | (with_reducible refine wp_callK ?_) | (with_reducible refine wp_makeK ?_) | (with_reducible refine wp_methK ?_) | (with_reducible refine sK_nx ?_) | (with_reducible refine sK_rt ?_) | (with_reducible refine dK_rt ?_) | (with_reducible refine wp_c ?_) | (with_reducible refine wp_asg ?_) | (with_reducible refine wp_par ?_) | (with_reducible refine wp_par3 ?_) | (with_reducible refine wp_ifS ?_) | (with_reducible refine wp_retS ?_) | (with_reducible refine wp_expr ?_) | (with_reducible refine wp_next ?_) | (with_reducible refine wp_op ?_) | (with_reducible refine wp_cons ?_) | (with_reducible refine wp_nil ?_) | (with_reducible refine wp_call ?_) | (with_reducible refine wp_cb ?_) | (with_reducible refine wp_tst ?_) | (with_reducible refine wp_not ?_) | (with_reducible refine wp_and ?_) | (with_reducible refine wp_or ?_) | (with_reducible refine wp_andV ?_) | (with_reducible refine wp_orV ?_) | (with_reducible refine wp_notV ?_) | (with_reducible refine wp_if ?_) | (with_reducible refine wp_tup ?_) | (with_reducible refine wp_lst ?_) | (with_reducible refine wp_lstM ?_) | (with_reducible refine wp_bm ?_) | (with_reducible refine wp_sl ?_) | (with_reducible refine wp_noP ?_) | (with_reducible refine wp_part ?_) | (with_reducible refine wp_chain ?_) | (with_reducible refine wp_fld ?_) | (with_reducible refine wp_make ?_) | (with_reducible refine wp_range ?_) | (with_reducible refine wp_items ?_) | (with_reducible refine wp_zip ?_) | (with_reducible refine wp_enum ?_) | (with_reducible refine wp_yes ?_) | (with_reducible refine wp_star ?_) | (with_reducible refine wp_callV ?_) | (with_reducible refine wp_makeV ?_) | (with_reducible refine wp_meth ?_) | (with_reducible refine wp_retN ?_) | (with_reducible refine wp_cm ?_) | (with_reducible refine wp_asgG ?_) | (with_reducible refine ex_int ?_) | (with_reducible refine wp_opM ?_) | (with_reducible refine wp_prop ?_) | (with_reducible refine wp_tr ?_) | (with_reducible refine wp_bm0 ?_) | (with_reducible refine lK_rt ?_) | (((with_reducible apply ex_of); · walk_at "wop")) | (((with_reducible apply ex_fld); · rfl; · rfl; · rfl)) | (((with_reducible apply And.intro); · first | rfl | exact ⟨rfl, rfl⟩ | decide | (simp; done))))
end J
set_option Elab.async false
set_option linter.all false
set_option maxRecDepth 100000
set_option maxHeartbeats 4010000
/-! XL: texts of data that hold instances; what a lambda's call comes to -/
namespace J
open PySem
def Rx (rp : Nat → List D → Option (List Nat)) (k B : Nat) (d : D) : Prop := ∃ t m, txX rp d = some (t, m) ∧ m ≤ k ∧ t.length ≤ B
def rxB (rp : Nat → List D → Option (List Nat)) (k B : Nat) (d : D) : Bool := match txX rp d with
  | some (t, m) => decide (m ≤ k) && decide (t.length ≤ B)
  | none => false
section
variable {rp : Nat → List D → Option (List Nat)} {k j B B' n : Nat} {d : D} {ds : List D}
theorem Rx.of (h : rxB rp k B d = true) : Rx rp k B d := by
  unfold rxB at h
  cases e : txX rp d with
  | none => rw [e] at h; exact nomatch h
  | some p =>
    rw [e] at h
    obtain ⟨h1, h2⟩ := Bool.and_eq_true_iff.mp h
    exact ⟨p.1, p.2, e, of_decide_eq_true h1, of_decide_eq_true h2⟩
theorem Rx.up (h : Rx rp k B d) (hk : k ≤ j) (hB : B ≤ B') : Rx rp j B' d :=
  let ⟨t, m, e, h1, h2⟩ := h
  ⟨t, m, e, Nat.le_trans h1 hk, Nat.le_trans h2 hB⟩
theorem Rx.all : ∀ {ds : List D}, (∀ d ∈ ds, Rx rp k B d) → ∃ ts m, txXs rp ds = some (ts, m) ∧ m ≤ k ∧ piled ts ≤ (B + 2) * ds.length
  | [], _ => ⟨[], 0, rfl, Nat.zero_le _, by simp [piled]⟩
  | d :: ds, h => by
    obtain ⟨t, m, e, h1, h2⟩ := h d (List.mem_cons_self ..)
    obtain ⟨ts, m2, e2, g1, g2⟩ := Rx.all (ds := ds) fun x hx => h x (List.mem_cons_of_mem _ hx)
    refine ⟨t :: ts, max m m2, by simp [txXs, e, e2], Nat.max_le.mpr ⟨h1, g1⟩, ?_⟩
    rw [piled_cons, List.length_cons, Nat.mul_add]
    omega
theorem Rx.lst (h : ∀ d ∈ ds, Rx rp k B d) (hn : ds.length ≤ n) : Rx rp (k + 1) ((B + 2) * n + 3) (.lst ds) := by
  obtain ⟨ts, m, e, g1, g2⟩ := Rx.all h
  have z := listText_le ts
  have q : (B + 2) * ds.length ≤ (B + 2) * n := Nat.mul_le_mul_left _ hn
  exact ⟨listText ts, m + 1, by simp [txX, e], Nat.succ_le_succ g1, by omega⟩
theorem Rx.tup (h : ∀ d ∈ ds, Rx rp k B d) (hn : ds.length ≤ n) : Rx rp (k + 1) ((B + 2) * n + 3) (.tup ds) := by
  obtain ⟨ts, m, e, g1, g2⟩ := Rx.all h
  have z := tupleText_le ts
  have q : (B + 2) * ds.length ≤ (B + 2) * n := Nat.mul_le_mul_left _ hn
  exact ⟨tupleText ts, m + 1, by simp [txX, e], Nat.succ_le_succ g1, by omega⟩
end
/-! ### caught -/
end J
set_option Elab.async false
set_option linter.all false
set_option maxRecDepth 100000
set_option maxHeartbeats 4010000
namespace K07
open J
local macro_rules | `(tactic| walk_at "wop") => `(tactic| first | (with_reducible exact addD_int) | (with_reducible exact subI_int) | (with_reducible exact eqD_int) | (with_reducible exact eqD_str) | (with_reducible exact eqD_bl) | (with_reducible exact neD_int) | (with_reducible exact neD_str) | (with_reducible exact neD_bl) | (with_reducible exact ltI_int) | (with_reducible exact leI_int) | (with_reducible exact gtI_int) | (with_reducible exact geI_int) | (with_reducible exact lenD_tup) | (with_reducible exact tup_lst) | (with_reducible exact addD_str (by first | omega | (simp; done) | (simp; omega))) | (with_reducible exact lenD_str (by first | omega | (simp; done) | (simp; omega))) | (with_reducible exact lenD_lst (by first | omega | (simp; done) | (simp; omega))) | (with_reducible exact slD_str (by first | omega | (simp; done) | (simp; omega))) | (with_reducible exact addD_list (by first | omega | (simp; done) | (simp; omega))) | (with_reducible exact range1_map (S := ⟨[], 0⟩) (by first | omega | (simp; done) | (simp; omega))) | (with_reducible exact addD_tupA (by first | omega | (simp; done) | (simp; omega))) | (exact rfl))
local macro_rules | `(tactic| walk_at "wx1") => `(tactic| first | (((with_reducible apply wp_var); · rfl)) | (with_reducible refine wp_seq ?_) | (with_reducible refine wp_callK ?_) | (with_reducible refine wp_makeK ?_) | (with_reducible refine wp_methK ?_) | (with_reducible refine sK_nx ?_) | (with_reducible refine sK_rt ?_) | (with_reducible refine dK_rt ?_) | (with_reducible refine wp_c ?_) | (with_reducible refine wp_asg ?_) | (with_reducible refine wp_par ?_) | (with_reducible refine wp_par3 ?_) | (with_reducible refine wp_ifS ?_) | (with_reducible refine wp_retS ?_) | (with_reducible refine wp_expr ?_) | (with_reducible refine wp_next ?_) | (with_reducible refine wp_op ?_) | (with_reducible refine wp_cons ?_) | (with_reducible refine wp_nil ?_) | (with_reducible refine wp_call ?_) | (with_reducible refine wp_cb ?_) | (with_reducible refine wp_tst ?_) | (with_reducible refine wp_not ?_) | (with_reducible refine wp_and ?_) | (with_reducible refine wp_or ?_) | (with_reducible refine wp_andV ?_) | (with_reducible refine wp_orV ?_) | (with_reducible refine wp_notV ?_) | (with_reducible refine wp_if ?_) | (with_reducible refine wp_tup ?_) | (with_reducible refine wp_lst ?_) | (with_reducible refine wp_lstM ?_) | (with_reducible refine wp_bm ?_) | (with_reducible refine wp_sl ?_) | (with_reducible refine wp_noP ?_) | (with_reducible refine wp_part ?_) | (with_reducible refine wp_chain ?_) | (with_reducible refine wp_fld ?_) | (with_reducible refine wp_make ?_) | (with_reducible refine wp_range ?_) | (with_reducible refine wp_items ?_) | (with_reducible refine wp_zip ?_) | (with_reducible refine wp_enum ?_) | (with_reducible refine wp_yes ?_) | (with_reducible refine wp_star ?_) | (with_reducible refine wp_callV ?_) | (with_reducible refine wp_makeV ?_) | (with_reducible refine wp_meth ?_) | (with_reducible refine wp_retN ?_) | (with_reducible refine wp_cm ?_) | (with_reducible refine wp_asgG ?_) | (with_reducible refine ex_int ?_) | (with_reducible refine wp_opM ?_) | (with_reducible refine wp_prop ?_) | (with_reducible refine wp_tr ?_) | (with_reducible refine wp_bm0 ?_) | (with_reducible refine lK_rt ?_) | (((with_reducible apply ex_of); · walk_at "wop")) | (((with_reducible apply ex_fld); · rfl; · rfl; · rfl)) | (((with_reducible apply And.intro); · first | rfl | exact ⟨rfl, rfl⟩ | decide | (simp; done))))
/-! ### the plain law of k07 -/
theorem law_is : d_law = dLaw 6 d_right := rfl
theorem of_is : d_of = dOf := rfl
def things : List D := [.non, .int 0, .bl false, .str [120], .tup [.int 2, .str [121]], .lst [.int 3], .dct [] [], .int 10000000000000000000, .tup [], .int (-7)]
def okT (r : R Fl) : Bool := match r with
  | .ok (.rt (.bl true)) _ => true
  | _ => false
theorem wp_done {m : M Fl} {S : Store} {Q : Fl → Store → Prop} (h : okT (m S) = true) (q : ∀ S', Q (.rt (.bl true)) S') : Wp m S Q := by
  unfold okT at h
  split at h
  · rename_i S' e
    exact ⟨_, S', e, q S'⟩
  · cases h
def tailR : IS := (sSeq (sAsgG (.t [6, 7]) (iCall 1 d_value_errors (iCons (iVar 1) iNil))) (sSeq (sAsgG (.t [8, 9]) (iCall 1 d_state_errors (iCons (iVar 1) iNil))) (sSeq (sAsg 2 (iLst (iCons (iExn0 28) (iCons (iExn0 29) (iCons (iExn0 30) (iCons (iExn0 31) iNil)))))) (sSeq (sAsg 3 (iOp addD (iOp addD (iLc (iItems (iOp addD (iVar 6) (iVar 8))) (.n 12) iYes (iXf [13, 14, 15, 16, 17, 18, 19, 21, 23, 24, 27, 32, 33] 19 (iVar 12)) [12]) (iLc (iItems (iVar 7)) (.n 12) iYes (iXf [20, 22, 25, 26] 20 (iVar 12)) [12])) (iLc (iItems (iVar 9)) (.n 12) iYes (iXf [34] 21 (iVar 12)) [12]))) (sSeq (sIf (iOr (iTst (iOp neD (iCB reprD (iCons (iVar 3) iNil)) (iCB reprD (iCons (iOp mulD (iLst (iCons (iVar 1) iNil)) (iCB lenD (iCons (iVar 3) iNil))) iNil)))) (iTst (iOp neD (iLst (iCons (iCB lenD (iCons (iVar 6) iNil)) (iCons (iCB lenD (iCons (iVar 7) iNil)) iNil))) (iLst (iCons (iC (.int 22)) (iCons (iC (.int 8)) iNil)))))) (sRet (iC (.bl false))) sNext) (sSeq (sAsg 4 (iLst (iCons (iTup (iCons (iOp addD (iVar 6) (iVar 7)) (iCons (iLst (iCons (iC (.int 0)) (iCons (iC (.int 3)) iNil))) iNil))) (iCons (iTup (iCons (iOp addD (iVar 8) (iVar 2)) (iCons (iLst (iCons (iC (.int 1)) (iCons (iC (.int 4)) iNil))) iNil))) (iCons (iTup (iCons (iVar 9) (iCons (iLst (iCons (iC (.int 2)) (iCons (iC (.int 5)) iNil))) iNil))) iNil))))) (sSeq (sFor (iItems (iVar 4)) (.t [10, 11]) (sIf (iNot (iTst (iCB allD (iCons (iLc (iItems (iVar 10)) (.n 12) iYes (iAndV (iOp eqD (iCall 1 d_bases (iCons (iVar 12) iNil)) (iVar 11)) (iOp eqD (iCall 1 d_instances (iCons (iVar 12) iNil)) (iC (.int 1)))) [12]) iNil)))) (sRet (iC (.bl false))) sNext)) (sSeq (sAsg 5 (iLst (iCons (iC (.int 6)) (iCons (iC (.int 26)) (iCons (iC (.int 20)) (iCons (iC (.int 20)) (iCons (iC (.int 4)) (iCons (iC (.int 10)) iNil)))))))) (sRet (iOp eqD (iVar 5) (iLst (iCons (iC (.int 6)) (iCons (iC (.int 26)) (iCons (iC (.int 20)) (iCons (iC (.int 20)) (iCons (iC (.int 4)) (iCons (iC (.int 10)) iNil)))))))))))))))))
abbrev rhoR (n : Nat) (y : D) : Rho := [some (.ref n), some y, none, none, none, none, none, none, none, none, none, none, none]
theorem run_0 (n : Nat) (S : Store) : okT (tailR (rhoR n (.non)) S) = true := by kernel_rfl
theorem run_1 (n : Nat) (S : Store) : okT (tailR (rhoR n (.int 0)) S) = true := by kernel_rfl
theorem run_2 (n : Nat) (S : Store) : okT (tailR (rhoR n (.bl false)) S) = true := by kernel_rfl
theorem run_3 (n : Nat) (S : Store) : okT (tailR (rhoR n (.str [120])) S) = true := by kernel_rfl
theorem run_4 (n : Nat) (S : Store) : okT (tailR (rhoR n (.tup [.int 2, .str [121]])) S) = true := by kernel_rfl
theorem run_5 (n : Nat) (S : Store) : okT (tailR (rhoR n (.lst [.int 3])) S) = true := by kernel_rfl
theorem run_6 (n : Nat) (S : Store) : okT (tailR (rhoR n (.dct [] [])) S) = true := by kernel_rfl
theorem run_7 (n : Nat) (S : Store) : okT (tailR (rhoR n (.int 10000000000000000000)) S) = true := by kernel_rfl
theorem run_8 (n : Nat) (S : Store) : okT (tailR (rhoR n (.tup [])) S) = true := by kernel_rfl
theorem run_9 (n : Nat) (S : Store) : okT (tailR (rhoR n (.int (-7))) S) = true := by kernel_rfl
theorem right_ok {n : Nat} {S : Store} (b : Bw S n) : ∃ S', d_right [.ref n] S = .ok (.bl true) S' := by
  refine run_of (wp_def ?_)
  let ρr : Option D → Rho := fun y1 => [some (.ref n), y1, none, none, none, none, none, none, none, none, none, none, none]
  show Wp (is_right (ρr none)) S _
  unfold is_right
  rw [of_is]
  have kn := Kn.of b
  refine wp_seq (wp_asg (wp_call (wp_cons (wp_var rfl (wp_cons (wp_ok (a := .lst things) (S' := S) rfl (wp_nil ⟨rfl, ofl_w (xs := things) kn (by decide) (by decide) fun dn S2 hn kn => sK_nx ?_⟩)))))))
  refine wp_done ?_ fun S' => dK_rt rfl
  show okT (tailR (rhoR n dn) S2) = true
  simp only [things, List.mem_cons, List.not_mem_nil, or_false] at hn
  rcases hn with rfl | rfl | rfl | rfl | rfl | rfl | rfl | rfl | rfl | rfl
  · exact run_0 n S2
  · exact run_1 n S2
  · exact run_2 n S2
  · exact run_3 n S2
  · exact run_4 n S2
  · exact run_5 n S2
  · exact run_6 n S2
  · exact run_7 n S2
  · exact run_8 n S2
  · exact run_9 n S2
theorem plain (ns : List Int) (h : ns.length ≤ 63) : ∃ S', d_law [.scr (ns.map D.int)] ⟨[], 0⟩ = .ok (.bl true) S' := by
  rw [law_is]
  exact law_gen 6 (by omega) (by omega) (fun b => right_ok b) ns h
end K07
theorem PySem.Challenge.cw_guessmarks_k07_errors_and_limits_holds : PySem.Challenge.rw_guessmarks_k07_errors_and_limits.Holds := by
  exact K07.k07_holds K07.plain
