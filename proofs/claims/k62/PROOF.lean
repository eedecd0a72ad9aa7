import PyProof.Rows.All
import Wide.All
import OpenK.AllK
import Wide.FinOn
import HandS.ForMost
import HandS.ForExc
import HandS.Defaults
import HandS.HotCalls
import HandS.HeadHook1
import HandS.Deep
import HandS.TupLen
import HandS.CallSlots
import KE.DataFind
import HandS.More
import HandS.Comp
import HandS.Conv
import HandS.SortInts
import HandS.TupAny
import HandS.Small
import HandS.ExcIs
import HandS.WordsExc
import KE.KStateDown
import HandS.Head0
import HandS.Head1
import HandS.Head2
import HandS.HeadEnd
import HandS.HeadHook2
import PySem.Challenge.RW_latewrite_k62_no_gap
set_option Elab.async false
set_option linter.all false
set_option maxRecDepth 100000
set_option maxHeartbeats 0
/-! ## The value layer: data without a heap (D), and what stands for it -/
namespace DL
open PySem PySem.Spec PyProof.Rows L2

inductive D where
  | non | bl (b : Bool) | int (i : Int) | str (x : Str) | ref (a : Addr) | ty (n : String)
  | tup (xs : List D)
  | lst (o : Bool) (xs : List D)
  | con (xs : List D)
  | dic (o : Bool) (t : Nat) (ks vs : List D)
  | ins (o : Bool) (C : Str) (ns : List Str) (vs : List D)
  deriving Inhabited

mutual
/-- nothing in it is owned -/
def isF : D → Bool
  | .tup xs => isFs xs
  | .con xs => isFs xs
  | .lst o xs => !o && isFs xs
  | .dic o _ ks vs => !o && isFs ks && isFs vs
  | .ins o _ _ vs => !o && isFs vs
  | _ => true
def isFs : List D → Bool
  | [] => true
  | x :: r => isF x && isFs r
end
mutual
/-- all owned parts given up -/
def frz : D → D
  | .tup xs => .tup (frzs xs)
  | .con xs => .con (frzs xs)
  | .lst _ xs => .lst false (frzs xs)
  | .dic _ t ks vs => .dic false t (frzs ks) (frzs vs)
  | .ins _ C ns vs => .ins false C ns (frzs vs)
  | d => d
def frzs : List D → List D
  | [] => []
  | x :: r => frz x :: frzs r
end
mutual
/-- every list, dict and instance in it is owned -/
def isO : D → Bool
  | .tup xs => isOs xs
  | .con _ => false
  | .lst o xs => o && isOs xs
  | .dic o _ ks vs => o && isOs ks && isOs vs
  | .ins o _ _ vs => o && isOs vs
  | _ => true
def isOs : List D → Bool
  | [] => true
  | x :: r => isO x && isOs r
end

theorem frzs_map (xs : List D) : frzs xs = xs.map frz := by
  induction xs with
  | nil => rfl
  | cons x r ih => show frz x :: frzs r = _; rw [ih]; rfl
theorem isFs_all (xs : List D) : isFs xs = xs.all isF := by
  induction xs with
  | nil => rfl
  | cons x r ih => show (isF x && isFs r) = _; rw [ih]; rfl
theorem isOs_all (xs : List D) : isOs xs = xs.all isO := by
  induction xs with
  | nil => rfl
  | cons x r ih => show (isO x && isOs r) = _; rw [ih]; rfl
theorem ba {a b : Bool} (h : (a && b) = true) : a = true ∧ b = true := Bool.and_eq_true_iff.mp h
mutual
theorem isF_frz : ∀ d : D, isF (frz d) = true
  | .tup xs => by show isFs (frzs xs) = true; exact isFs_frz xs
  | .con xs => by show isFs (frzs xs) = true; exact isFs_frz xs
  | .lst _ xs => by show (!false && isFs (frzs xs)) = true; rw [isFs_frz xs]; rfl
  | .dic _ _ ks vs => by show (!false && isFs (frzs ks) && isFs (frzs vs)) = true; rw [isFs_frz ks, isFs_frz vs]; rfl
  | .ins _ _ _ vs => by show (!false && isFs (frzs vs)) = true; rw [isFs_frz vs]; rfl
  | .non => rfl
  | .bl _ => rfl
  | .int _ => rfl
  | .str _ => rfl
  | .ref _ => rfl
  | .ty _ => rfl
theorem isFs_frz : ∀ xs : List D, isFs (frzs xs) = true
  | [] => rfl
  | x :: r => by show (isF (frz x) && isFs (frzs r)) = true; rw [isF_frz x, isFs_frz r]; rfl
end
mutual
theorem frz_of : ∀ d : D, isF d = true → frz d = d
  | .tup xs, h => by show D.tup (frzs xs) = _; rw [frzs_of xs h]
  | .con xs, h => by show D.con (frzs xs) = _; rw [frzs_of xs h]
  | .lst o xs, h => by
    obtain ⟨h1, h2⟩ := ba h
    show D.lst false (frzs xs) = _
    rw [frzs_of xs h2]; cases o <;> first | rfl | cases h1
  | .dic o t ks vs, h => by
    obtain ⟨h1, h3⟩ := ba h
    obtain ⟨h1, h2⟩ := ba h1
    show D.dic false t (frzs ks) (frzs vs) = _
    rw [frzs_of ks h2, frzs_of vs h3]; cases o <;> first | rfl | cases h1
  | .ins o C ns vs, h => by
    obtain ⟨h1, h2⟩ := ba h
    show D.ins false C ns (frzs vs) = _
    rw [frzs_of vs h2]; cases o <;> first | rfl | cases h1
  | .non, _ => rfl
  | .bl _, _ => rfl
  | .int _, _ => rfl
  | .str _, _ => rfl
  | .ref _, _ => rfl
  | .ty _, _ => rfl
theorem frzs_of : ∀ xs : List D, isFs xs = true → frzs xs = xs
  | [], _ => rfl
  | x :: r, h => by
    obtain ⟨h1, h2⟩ := ba (show (isF x && isFs r) = true from h)
    show frz x :: frzs r = _
    rw [frz_of x h1, frzs_of r h2]
end

mutual
def deq : D → D → Bool
  | .non, .non => true
  | .bl a, .bl b => a == b
  | .int a, .int b => decide (a = b)
  | .str a, .str b => decide (a = b)
  | .ref a, .ref b => decide (a = b)
  | .ty a, .ty b => decide (a = b)
  | .tup xs, .tup ys => deqs xs ys
  | .lst o xs, .lst p ys => o == p && deqs xs ys
  | .con xs, .con ys => deqs xs ys
  | .dic o t ks vs, .dic p u js ws => o == p && decide (t = u) && deqs ks js && deqs vs ws
  | .ins o C ns vs, .ins p D ms ws => o == p && decide (C = D) && decide (ns = ms) && deqs vs ws
  | _, _ => false
def deqs : List D → List D → Bool
  | [], [] => true
  | x :: xs, y :: ys => deq x y && deqs xs ys
  | _, _ => false
end
mutual
theorem deq_iff : ∀ a b : D, deq a b = true ↔ a = b
  | .non, b => by cases b <;> simp [deq]
  | .bl a, b => by cases b <;> simp [deq]
  | .int a, b => by cases b <;> simp [deq]
  | .str a, b => by cases b <;> simp [deq]
  | .ref a, b => by cases b <;> simp [deq]
  | .ty a, b => by cases b <;> simp [deq]
  | .tup xs, b => by cases b <;> simp [deq, deqs_iff xs]
  | .lst o xs, b => by cases b <;> simp [deq, deqs_iff xs]
  | .con xs, b => by cases b <;> simp [deq, deqs_iff xs]
  | .dic o t ks vs, b => by cases b <;> simp [deq, deqs_iff ks, deqs_iff vs, and_assoc]
  | .ins o C ns vs, b => by cases b <;> simp [deq, deqs_iff vs, and_assoc]
theorem deqs_iff : ∀ a b : List D, deqs a b = true ↔ a = b
  | [], b => by cases b <;> simp [deqs]
  | x :: xs, b => by cases b <;> simp [deqs, deq_iff x, deqs_iff xs]
end
instance : DecidableEq D := fun a b => decidable_of_iff _ (deq_iff a b)

/-! ### keys of dicts -/
/-- a dict's keys, as the layer has them: ints and texts, or tuples of such -/
def keyD : D → Option Key
  | .int i => some (.inl i)
  | .str x => some (.inr x)
  | _ => none
def keysD : List D → Option (List Key)
  | [] => some []
  | x :: r => match keyD x, keysD r with
    | some k, some ks => some (k :: ks)
    | _, _ => none
def tkeyD : D → Option (List Key)
  | .tup xs => keysD xs
  | _ => none

abbrev strOk := PySem.PyData.strOk
def kGood : Key → Bool
  | .inl _ => true
  | .inr x => strOk x
/-! ### what stands for a datum: F the part of the heap that stays for good, S the objects that are owned -/
/-- the object holds the pairs: the keys as they are (kind 0: ints and texts, kind 1: tuples of such), the values vs -/
inductive DicAt (h : Option HO) : Nat → List D → List V → Prop where
  | k (kvs : List (Key × V)) (ks : List D) (vs : List V) : h = some (.dK kvs) → ks.map keyD = kvs.map (fun q => some q.1) → vs = kvs.map (·.2) → (kvs.map (·.1)).Nodup → (kvs.all fun q => kGood q.1) = true → DicAt h 0 ks vs
  | t (kvs : List (List Key × V)) (ks : List D) (vs : List V) : h = some (.dT kvs) → ks.map tkeyD = kvs.map (fun q => some q.1) → vs = kvs.map (·.2) → (kvs.map (·.1)).Nodup → (kvs.all fun q => q.1.all kGood) = true → DicAt h 1 ks vs

mutual
inductive Rep (K : PySem.W.Frag) (F H : Hp) : V → D → List Addr → Prop where
  | non : Rep K F H .non .non []
  | bl (b : Bool) : Rep K F H (.bl b) (.bl b) []
  | int (i : Int) : Rep K F H (.int i) (.int i) []
  | str (x : Str) : strOk x = true → Rep K F H (.str x) (.str x) []
  | ref (a : Addr) : Rep K F H (.ref a) (.ref a) []
  | ty (n : String) : Rep K F H (.ty n) (.ty n) []
  | tup (p : Addr) (vs : List V) (ds : List D) (S : List Addr) : F p = some (.tup vs) → Reps K F H vs ds S → Rep K F H (.ref p) (.tup ds) S
  | lstF (p : Addr) (vs : List V) (ds : List D) : F p = some (.lst vs) → Reps K F H vs ds [] → Rep K F H (.ref p) (.lst false ds) []
  | con (p : Addr) (vs : List V) (ds : List D) : SqL K F p vs → Reps K F H vs ds [] → Rep K F H (.ref p) (.con ds) []
  | lstO (p : Addr) (vs : List V) (ds : List D) (S : List Addr) : H p = some (.lst vs) → Reps K F H vs ds S → Rep K F H (.ref p) (.lst true ds) (p :: S)
  | dicF (p : Addr) (t : Nat) (ks : List D) (vs : List V) (ds : List D) : DicAt (F p) t ks vs → Reps K F H vs ds [] → Rep K F H (.ref p) (.dic false t ks ds) []
  | dicO (p : Addr) (t : Nat) (ks : List D) (vs : List V) (ds : List D) (S : List Addr) : DicAt (H p) t ks vs → Reps K F H vs ds S → Rep K F H (.ref p) (.dic true t ks ds) (p :: S)
  | insF (p : Addr) (C : Str) (dx : Addr) (ns : List Str) (vs : List V) (ds : List D) : F p = some (.ins (He.ga K C) dx (ns.zip vs)) → ns.length = vs.length → Reps K F H vs ds [] → Rep K F H (.ref p) (.ins false C ns ds) []
  | insO (p : Addr) (C : Str) (dx : Addr) (ns : List Str) (vs : List V) (ds : List D) (S : List Addr) : H p = some (.ins (He.ga K C) dx (ns.zip vs)) → ns.length = vs.length → Reps K F H vs ds S → Rep K F H (.ref p) (.ins true C ns ds) (p :: S)
inductive Reps (K : PySem.W.Frag) (F H : Hp) : List V → List D → List Addr → Prop where
  | nil : Reps K F H [] [] []
  | cons (v : V) (d : D) (vs : List V) (ds : List D) (S T : List Addr) : Rep K F H v d S → Reps K F H vs ds T → Reps K F H (v :: vs) (d :: ds) (S ++ T)
end

theorem sqT_mono {K : PySem.W.Frag} {F F' : Hp} {p : Addr} {vs : List V} (e : Same F F') (h : SqT K F p vs) : SqT K F' p vs := by
  rcases h with (h | ⟨o, h⟩) | h
  · exact .inl (.inl (e _ _ h))
  · exact .inl (.inr ⟨o, e _ _ h⟩)
  · exact .inr h
theorem dicAt_mono {h h' : Option HO} {t : Nat} {ks : List D} {vs : List V} (e : ∀ o, h = some o → h' = some o) (x : DicAt h t ks vs) : DicAt h' t ks vs := by
  cases x with
  | k kvs ks vs a b c nd kg => exact .k kvs _ _ (e _ a) b c nd kg
  | t kvs ks vs a b c nd kg => exact .t kvs _ _ (e _ a) b c nd kg

theorem keyD_isF {d : D} {k : Key} (h : keyD d = some k) : isF d = true := by
  cases d <;> first | rfl | cases h
theorem keysD_isF : ∀ {ds : List D} {ks : List Key}, keysD ds = some ks → isFs ds = true
  | [], _, _ => rfl
  | x :: r, ks, h => by
    unfold keysD at h
    cases h1 : keyD x with
    | none => rw [h1] at h; cases h
    | some k =>
      cases h2 : keysD r with
      | none => rw [h1, h2] at h; cases h
      | some q =>
        show (isF x && isFs r) = true
        rw [keyD_isF h1, keysD_isF h2]; rfl
theorem tkeyD_isF {d : D} {k : List Key} (h : tkeyD d = some k) : isF d = true := by
  cases d <;> first | exact keysD_isF (ks := k) h | cases h
theorem map_isF {α : Type} (f : D → Option α) (hf : ∀ d k, f d = some k → isF d = true) : ∀ {ks : List D} {qs : List α}, ks.map f = qs.map some → isFs ks = true
  | [], _, _ => rfl
  | x :: r, [], h => by cases h
  | x :: r, q :: qs, h => by
    rw [List.map_cons, List.map_cons] at h
    injection h with h1 h2
    show (isF x && isFs r) = true
    rw [hf _ _ h1, map_isF f hf h2]; rfl
theorem dicAt_isF {h : Option HO} {t : Nat} {ks : List D} {vs : List V} (x : DicAt h t ks vs) : isFs ks = true := by
  cases x with
  | k kvs ks vs a b c nd kg => exact map_isF keyD (fun d k => keyD_isF) (qs := kvs.map (·.1)) (by rw [b, List.map_map]; rfl)
  | t kvs ks vs a b c nd kg => exact map_isF tkeyD (fun d k => tkeyD_isF) (qs := kvs.map (·.1)) (by rw [b, List.map_map]; rfl)

section
variable {K : PySem.W.Frag} {F F' H H' : Hp}
mutual
/-- what is owned may lie elsewhere unchanged -/
theorem Rep.frame (e : Same F F') : ∀ {v : V} {d : D} {S : List Addr}, Rep K F H v d S → (∀ a o, a ∈ S → H a = some o → H' a = some o) → Rep K F' H' v d S
  | _, _, _, .non, _ => .non
  | _, _, _, .bl b, _ => .bl b
  | _, _, _, .int i, _ => .int i
  | _, _, _, .str x h, _ => .str x h
  | _, _, _, .ref a, _ => .ref a
  | _, _, _, .ty n, _ => .ty n
  | _, _, _, .tup p vs ds S h r, k => .tup p vs ds S (e _ _ h) (Reps.frame e r k)
  | _, _, _, .lstF p vs ds h r, k => .lstF p vs ds (e _ _ h) (Reps.frame e r (fun a o m => nomatch m))
  | _, _, _, .con p vs ds h r, k => .con p vs ds (e.seq h) (Reps.frame e r (fun a o m => nomatch m))
  | _, _, _, .lstO p vs ds S h r, k => .lstO p vs ds S (k p _ List.mem_cons_self h) (Reps.frame e r fun a o m => k a o (List.mem_cons_of_mem _ m))
  | _, _, _, .dicF p t ks vs ds h r, k => .dicF p t ks vs ds (dicAt_mono (e p) h) (Reps.frame e r (fun a o m => nomatch m))
  | _, _, _, .dicO p t ks vs ds S h r, k => .dicO p t ks vs ds S (dicAt_mono (fun o => k p o List.mem_cons_self) h) (Reps.frame e r fun a o m => k a o (List.mem_cons_of_mem _ m))
  | _, _, _, .insF p C dx ns vs ds h l r, k => .insF p C dx ns vs ds (e _ _ h) l (Reps.frame e r (fun a o m => nomatch m))
  | _, _, _, .insO p C dx ns vs ds S h l r, k => .insO p C dx ns vs ds S (k p _ List.mem_cons_self h) l (Reps.frame e r fun a o m => k a o (List.mem_cons_of_mem _ m))
theorem Reps.frame (e : Same F F') : ∀ {vs : List V} {ds : List D} {S : List Addr}, Reps K F H vs ds S → (∀ a o, a ∈ S → H a = some o → H' a = some o) → Reps K F' H' vs ds S
  | _, _, _, .nil, _ => .nil
  | _, _, _, .cons v d vs ds S T r rs, k => .cons v d vs ds S T (Rep.frame e r fun a o m => k a o (List.mem_append_left _ m)) (Reps.frame e rs fun a o m => k a o (List.mem_append_right _ m))
end
theorem Rep.mono {v : V} {d : D} {S : List Addr} (e : Same F F') (h : Same H H') (r : Rep K F H v d S) : Rep K F' H' v d S := r.frame e fun a o _ q => h a o q
theorem Reps.mono {vs : List V} {ds : List D} {S : List Addr} (e : Same F F') (h : Same H H') (r : Reps K F H vs ds S) : Reps K F' H' vs ds S := r.frame e fun a o _ q => h a o q
mutual
/-- what is owned is there, and is no tuple -/
theorem Rep.dom : ∀ {v : V} {d : D} {S : List Addr}, Rep K F H v d S → ∀ a ∈ S, ∃ o, H a = some o ∧ (∀ xs, o ≠ .tup xs) ∧ (∀ u w, o ≠ .frz u w)
  | _, _, _, .non, _, m => nomatch m
  | _, _, _, .bl b, _, m => nomatch m
  | _, _, _, .int i, _, m => nomatch m
  | _, _, _, .str x h, _, m => nomatch m
  | _, _, _, .ref a, _, m => nomatch m
  | _, _, _, .ty n, _, m => nomatch m
  | _, _, _, .tup p vs ds S h r, a, m => Reps.dom r a m
  | _, _, _, .lstF p vs ds h r, _, m => nomatch m
  | _, _, _, .con p vs ds h r, _, m => nomatch m
  | _, _, _, .lstO p vs ds S h r, a, m => by
    rcases List.mem_cons.mp m with e | m
    · subst e; exact ⟨_, h, (fun _ z => nomatch z), (fun _ _ z => nomatch z)⟩
    · exact Reps.dom r a m
  | _, _, _, .dicF p t ks vs ds h r, _, m => nomatch m
  | _, _, _, .dicO p t ks vs ds S h r, a, m => by
    rcases List.mem_cons.mp m with e | m
    · subst e
      cases h with
      | k kvs ks vs x y z nd kg => exact ⟨_, x, (fun _ z => nomatch z), (fun _ _ z => nomatch z)⟩
      | t kvs ks vs x y z nd kg => exact ⟨_, x, (fun _ z => nomatch z), (fun _ _ z => nomatch z)⟩
    · exact Reps.dom r a m
  | _, _, _, .insF p C dx ns vs ds h l r, _, m => nomatch m
  | _, _, _, .insO p C dx ns vs ds S h l r, a, m => by
    rcases List.mem_cons.mp m with e | m
    · subst e; exact ⟨_, h, (fun _ z => nomatch z), (fun _ _ z => nomatch z)⟩
    · exact Reps.dom r a m
theorem Reps.dom : ∀ {vs : List V} {ds : List D} {S : List Addr}, Reps K F H vs ds S → ∀ a ∈ S, ∃ o, H a = some o ∧ (∀ xs, o ≠ .tup xs) ∧ (∀ u w, o ≠ .frz u w)
  | _, _, _, .nil, _, m => nomatch m
  | _, _, _, .cons v d vs ds S T r rs, a, m => by
    rcases List.mem_append.mp m with m | m
    · exact Rep.dom r a m
    · exact Reps.dom rs a m
end
mutual
theorem Rep.noS : ∀ {v : V} {d : D} {S : List Addr}, Rep K F H v d S → isF d = true → S = []
  | _, _, _, .non, _ => rfl
  | _, _, _, .bl b, _ => rfl
  | _, _, _, .int i, _ => rfl
  | _, _, _, .str x h, _ => rfl
  | _, _, _, .ref a, _ => rfl
  | _, _, _, .ty n, _ => rfl
  | _, _, _, .tup p vs ds S h r, k => Reps.noS r k
  | _, _, _, .lstF p vs ds h r, k => rfl
  | _, _, _, .con p vs ds h r, k => rfl
  | _, _, _, .lstO p vs ds S h r, k => absurd (ba (show (!true && isFs ds) = true from k)).1 Bool.false_ne_true
  | _, _, _, .dicF p t ks vs ds h r, k => rfl
  | _, _, _, .dicO p t ks vs ds S h r, k => absurd (ba (ba (show (!true && isFs ks && isFs ds) = true from k)).1).1 Bool.false_ne_true
  | _, _, _, .insF p C dx ns vs ds h l r, k => rfl
  | _, _, _, .insO p C dx ns vs ds S h l r, k => absurd (ba (show (!true && isFs ds) = true from k)).1 Bool.false_ne_true
theorem Reps.noS : ∀ {vs : List V} {ds : List D} {S : List Addr}, Reps K F H vs ds S → isFs ds = true → S = []
  | _, _, _, .nil, _ => rfl
  | _, _, _, .cons v d vs ds S T r rs, k => by
    obtain ⟨k1, k2⟩ := ba (show (isF d && isFs ds) = true from k)
    rw [Rep.noS r k1, Reps.noS rs k2]; rfl
end
mutual
/-- all that is owned is given up: F' holds it -/
theorem Rep.freeze (e : Same F F') : ∀ {v : V} {d : D} {S : List Addr}, Rep K F H v d S → (∀ a o, a ∈ S → H a = some o → F' a = some o) → Rep K F' H' v (frz d) []
  | _, _, _, .non, _ => .non
  | _, _, _, .bl b, _ => .bl b
  | _, _, _, .int i, _ => .int i
  | _, _, _, .str x h, _ => .str x h
  | _, _, _, .ref a, _ => .ref a
  | _, _, _, .ty n, _ => .ty n
  | _, _, _, .tup p vs ds S h r, k => .tup p vs _ [] (e _ _ h) (Reps.freeze e r k)
  | _, _, _, .lstF p vs ds h r, k => .lstF p vs _ (e _ _ h) (Reps.freeze e r (fun a o m => nomatch m))
  | _, _, _, .con p vs ds h r, k => .con p vs _ (e.seq h) (Reps.freeze e r (fun a o m => nomatch m))
  | _, _, _, .lstO p vs ds S h r, k => .lstF p vs _ (k p _ List.mem_cons_self h) (Reps.freeze e r fun a o m => k a o (List.mem_cons_of_mem _ m))
  | _, _, _, .dicF p t ks vs ds h r, k => by
    have q : Rep K F' H' (.ref p) (.dic false t ks (frzs ds)) [] := .dicF p t ks vs _ (dicAt_mono (e p) h) (Reps.freeze e r (fun a o m => nomatch m))
    have z : frzs ks = ks := frzs_of ks (dicAt_isF h)
    show Rep K F' H' (.ref p) (.dic false t (frzs ks) (frzs ds)) []
    rw [z]; exact q
  | _, _, _, .dicO p t ks vs ds S h r, k => by
    have q : Rep K F' H' (.ref p) (.dic false t ks (frzs ds)) [] := .dicF p t ks vs _ (dicAt_mono (fun o => k p o List.mem_cons_self) h) (Reps.freeze e r fun a o m => k a o (List.mem_cons_of_mem _ m))
    have z : frzs ks = ks := frzs_of ks (dicAt_isF h)
    show Rep K F' H' (.ref p) (.dic false t (frzs ks) (frzs ds)) []
    rw [z]; exact q
  | _, _, _, .insF p C dx ns vs ds h l r, k => .insF p C dx ns vs _ (e _ _ h) l (Reps.freeze e r (fun a o m => nomatch m))
  | _, _, _, .insO p C dx ns vs ds S h l r, k => .insF p C dx ns vs _ (k p _ List.mem_cons_self h) l (Reps.freeze e r fun a o m => k a o (List.mem_cons_of_mem _ m))
theorem Reps.freeze (e : Same F F') : ∀ {vs : List V} {ds : List D} {S : List Addr}, Reps K F H vs ds S → (∀ a o, a ∈ S → H a = some o → F' a = some o) → Reps K F' H' vs (frzs ds) []
  | _, _, _, .nil, _ => .nil
  | _, _, _, .cons v d vs ds S T r rs, k => .cons v (frz d) vs (frzs ds) [] [] (Rep.freeze e r fun a o m => k a o (List.mem_append_left _ m)) (Reps.freeze e rs fun a o m => k a o (List.mem_append_right _ m))
end
end
end DL

namespace DL
open PySem PySem.Spec PyProof.Rows L2

/-! ### parts of lists -/
section
variable {K : PySem.W.Frag} {F F' H H' : Hp}
theorem Reps.len : ∀ {vs : List V} {ds : List D} {S : List Addr}, Reps K F H vs ds S → vs.length = ds.length
  | _, _, _, .nil => rfl
  | _, _, _, .cons v d vs ds S T r rs => by rw [List.length_cons, List.length_cons, Reps.len rs]
theorem Reps.get : ∀ {vs : List V} {ds : List D} {S : List Addr} {i : Nat} {d : D}, Reps K F H vs ds S → ds[i]? = some d → ∃ v A T B, vs[i]? = some v ∧ Rep K F H v d T ∧ S = A ++ T ++ B
  | _, _, _, _, _, .nil, h => by cases h
  | _, _, _, 0, _, .cons v d vs ds S T r rs, h => by
    cases h
    exact ⟨v, [], S, T, rfl, r, rfl⟩
  | _, _, _, i + 1, _, .cons v d vs ds S T r rs, h => by
    obtain ⟨u, A, T', B, h1, h2, h3⟩ := Reps.get (i := i) rs (by simpa using h)
    exact ⟨u, S ++ A, T', B, by simpa using h1, h2, by rw [h3]; simp⟩
theorem Reps.append : ∀ {vs us : List V} {ds es : List D} {S T : List Addr}, Reps K F H vs ds S → Reps K F H us es T → Reps K F H (vs ++ us) (ds ++ es) (S ++ T)
  | _, _, _, _, _, _, .nil, s => s
  | _, _, _, _, _, _, .cons v d vs ds S T r rs, s => by
    rw [List.append_assoc]
    exact .cons v d _ _ S _ r (Reps.append rs s)
theorem Reps.one {v : V} {d : D} {S : List Addr} (r : Rep K F H v d S) : Reps K F H [v] [d] S := by
  have q := Reps.cons (K := K) (F := F) (H := H) v d [] [] S [] r .nil
  rw [List.append_nil] at q
  exact q
/-- of a list that owns nothing: any parts -/
theorem Reps.free {vs : List V} {ds : List D} (r : Reps K F H vs ds []) : ∀ (i : Nat) (d : D), ds[i]? = some d → ∃ v, vs[i]? = some v ∧ Rep K F H v d [] := fun i d h => by
  obtain ⟨v, A, T, B, h1, h2, h3⟩ := r.get h
  have e : T = [] := by
    have q : (A ++ T ++ B) = [] := h3.symm
    simp at q
    exact q.2.1
  rw [e] at h2
  exact ⟨v, h1, h2⟩
theorem Reps.of : ∀ {vs : List V} {ds : List D}, vs.length = ds.length → (∀ (i : Nat) (v : V) (d : D), vs[i]? = some v → ds[i]? = some d → Rep K F H v d []) → Reps K F H vs ds []
  | [], [], _, _ => .nil
  | [], _ :: _, h, _ => by cases h
  | _ :: _, [], h, _ => by cases h
  | v :: vs, d :: ds, h, k => by
    have q := Reps.cons (K := K) (F := F) (H := H) v d vs ds [] [] (k 0 v d rfl rfl) (Reps.of (by simpa using h) fun i u e h1 h2 => k (i + 1) u e (by simpa using h1) (by simpa using h2))
    exact q
end

/-! ### the values of a frame's names -/
abbrev Ev := List (Option D)
inductive Slots (K : PySem.W.Frag) (F H : Hp) : List (Option V) → Ev → List Addr → Prop where
  | nil : Slots K F H [] [] []
  | no (o : Option V) (σ : List (Option V)) (ρ : Ev) (S : List Addr) : Slots K F H σ ρ S → Slots K F H (o :: σ) (none :: ρ) S
  | so (v : V) (d : D) (σ : List (Option V)) (ρ : Ev) (S T : List Addr) : Rep K F H v d S → Slots K F H σ ρ T → Slots K F H (some v :: σ) (some d :: ρ) (S ++ T)
section
variable {K : PySem.W.Frag} {F F' H H' : Hp}
theorem Slots.len : ∀ {σ : List (Option V)} {ρ : Ev} {S : List Addr}, Slots K F H σ ρ S → σ.length = ρ.length
  | _, _, _, .nil => rfl
  | _, _, _, .no o σ ρ S r => by rw [List.length_cons, List.length_cons, Slots.len r]
  | _, _, _, .so v d σ ρ S T q r => by rw [List.length_cons, List.length_cons, Slots.len r]
theorem Slots.dom : ∀ {σ : List (Option V)} {ρ : Ev} {S : List Addr}, Slots K F H σ ρ S → ∀ a ∈ S, ∃ o, H a = some o ∧ (∀ xs, o ≠ .tup xs) ∧ (∀ u w, o ≠ .frz u w)
  | _, _, _, .nil, _, m => nomatch m
  | _, _, _, .no o σ ρ S r, a, m => Slots.dom r a m
  | _, _, _, .so v d σ ρ S T q r, a, m => (List.mem_append.mp m).elim (q.dom a) (Slots.dom r a)
theorem Slots.frame (e : Same F F') : ∀ {σ : List (Option V)} {ρ : Ev} {S : List Addr}, Slots K F H σ ρ S → (∀ a o, a ∈ S → H a = some o → H' a = some o) → Slots K F' H' σ ρ S
  | _, _, _, .nil, _ => .nil
  | _, _, _, .no o σ ρ S r, k => .no o σ ρ S (Slots.frame e r k)
  | _, _, _, .so v d σ ρ S T q r, k => .so v d σ ρ S T (q.frame e fun a o m => k a o (List.mem_append_left _ m)) (Slots.frame e r fun a o m => k a o (List.mem_append_right _ m))
/-- a slot, and the others around it -/
theorem Slots.at : ∀ {σ : List (Option V)} {ρ : Ev} {S : List Addr} {i : Nat} {d : D}, Slots K F H σ ρ S → ρ[i]? = some (some d) →
    ∃ v A T B, σ[i]? = some (some v) ∧ Rep K F H v d T ∧ S = A ++ T ++ B
  | _, _, _, _, _, .nil, h => by cases h
  | _, _, _, 0, _, .no o σ ρ S r, h => by cases h
  | _, _, _, 0, _, .so v d σ ρ S T q r, h => by
    cases h
    exact ⟨v, [], S, T, rfl, q, rfl⟩
  | _, _, _, i + 1, _, .no o σ ρ S r, h => by
    obtain ⟨v, A, T, B, h1, h2, h3⟩ := Slots.at (i := i) r (by simpa using h)
    exact ⟨v, A, T, B, by simpa using h1, h2, h3⟩
  | _, _, _, i + 1, _, .so v d σ ρ S T q r, h => by
    obtain ⟨u, A, T', B, h1, h2, h3⟩ := Slots.at (i := i) r (by simpa using h)
    exact ⟨u, S ++ A, T', B, by simpa using h1, h2, by rw [h3]; simp⟩
/-- a slot stored anew -/
theorem Slots.put : ∀ {σ : List (Option V)} {ρ : Ev} {S : List Addr} (i : Nat), Slots K F H σ ρ S → i < ρ.length →
    ∃ A T B, S = A ++ T ++ B ∧ ∀ (F' H' : Hp) (v : V) (d : D) (T' : List Addr), Same F F' → (∀ a o, a ∈ A ++ B → H a = some o → H' a = some o) → Rep K F' H' v d T' → Slots K F' H' (σ.set i (some v)) (ρ.set i (some d)) (A ++ T' ++ B)
  | _, _, _, _, .nil, h => absurd h (Nat.not_lt_zero _)
  | _, _, _, 0, .no o σ ρ S r, h => ⟨[], [], S, rfl, fun F' H' v d T' e k q => by
    have z := Slots.so (K := K) (F := F') (H := H') v d σ ρ T' S q (r.frame e k)
    exact z⟩
  | _, _, _, 0, .so v d σ ρ S T q r, h => ⟨[], S, T, rfl, fun F' H' v d T' e k q => by
    have z := Slots.so (K := K) (F := F') (H := H') v d σ ρ T' T q (r.frame e k)
    exact z⟩
  | _, _, _, i + 1, .no o σ ρ S r, h => by
    obtain ⟨A, T, B, h1, h2⟩ := Slots.put i r (by simpa using h)
    exact ⟨A, T, B, h1, fun F' H' v d T' e k q => .no o _ _ _ (h2 F' H' v d T' e k q)⟩
  | _, _, _, i + 1, .so v d σ ρ S T q r, h => by
    obtain ⟨A, T', B, h1, h2⟩ := Slots.put i r (by simpa using h)
    refine ⟨S ++ A, T', B, by rw [h1]; simp, fun F' H' u d' T'' e k q' => ?_⟩
    have z := Slots.so (K := K) (F := F') (H := H') v d _ _ S _ (q.frame e fun a o m => k a o (by simp [m])) (h2 F' H' u d' T'' e (fun a o m => k a o (by rcases List.mem_append.mp m with m | m <;> simp [m])) q')
    simpa [List.append_assoc] using z
/-- a slot forgotten -/
theorem Slots.drop : ∀ {σ : List (Option V)} {ρ : Ev} {S : List Addr} (i : Nat), Slots K F H σ ρ S →
    ∃ A T B, S = A ++ T ++ B ∧ (∀ d, ρ[i]? = some (some d) → ∃ v, σ[i]? = some (some v) ∧ Rep K F H v d T) ∧ Slots K F H σ (ρ.set i none) (A ++ B)
  | _, _, _, _, .nil => ⟨[], [], [], rfl, fun d h => (by cases h), .nil⟩
  | _, _, _, 0, .no o σ ρ S r => ⟨[], [], S, rfl, fun d h => (by cases h), .no o σ ρ S r⟩
  | _, _, _, 0, .so v d σ ρ S T q r => ⟨[], S, T, rfl, fun d h => (by cases h; exact ⟨v, rfl, q⟩), .no (some v) σ ρ T r⟩
  | _, _, _, i + 1, .no o σ ρ S r => by
    obtain ⟨A, T, B, h1, h2, h3⟩ := Slots.drop i r
    exact ⟨A, T, B, h1, fun d h => by simpa using h2 d (by simpa using h), .no o _ _ _ h3⟩
  | _, _, _, i + 1, .so v d σ ρ S T q r => by
    obtain ⟨A, T', B, h1, h2, h3⟩ := Slots.drop i r
    refine ⟨S ++ A, T', B, by rw [h1]; simp, fun d h => by simpa using h2 d (by simpa using h), ?_⟩
    have z := Slots.so (K := K) (F := F) (H := H) v d _ _ S _ q h3
    simpa [List.append_assoc] using z
theorem Slots.args : ∀ {vs : List V} {ds : List D} {S : List Addr} (n : Nat), Reps K F H vs ds S → Slots K F H (vs.map some ++ List.replicate n none) (ds.map some ++ List.replicate n none) S
  | _, _, _, n, .nil => by
    induction n with
    | zero => exact .nil
    | succ n ih => exact .no none _ _ _ ih
  | _, _, _, n, .cons v d vs ds S T r rs => .so v d _ _ S T r (Slots.args n rs)
end

/-- the frame's state: what of the heap stays for good, the names' values, the objects owned -/
structure Rel (K : PySem.W.Frag) (F : Hp) (ρ : Ev) (σ : List (Option V)) (H : Hp) (S : List Addr) : Prop where
  same : Same F H
  fr : ∀ a ∈ S, F a = none
  nd : S.Nodup
  sl : Slots K F H σ ρ S
/-- no tuple: what is owned is none -/
def NT (o : HO) : Prop := ∀ xs, o ≠ .tup xs
/-- behind what changes nothing that stood -/
structure Post0 (F H F' H' : Hp) : Prop where
  h : Same H H'
  f : Same F F'
  fh : Same F' H'
  new : ∀ a o, F a = none → H a = some o → NT o → F' a = none
theorem Post0.refl {F H : Hp} (e : Same F H) : Post0 F H F H := ⟨Same.refl _, Same.refl _, e, fun _ _ h _ _ => h⟩
theorem Post0.trans {F H F1 H1 F2 H2 : Hp} (a : Post0 F H F1 H1) (b : Post0 F1 H1 F2 H2) : Post0 F H F2 H2 :=
  ⟨a.h.trans b.h, a.f.trans b.f, b.fh, fun x o h1 h2 h3 => b.new x o (a.new x o h1 h2 h3) (a.h x o h2) h3⟩
/-- a new object, not owned -/
theorem Post0.newF {F H : Hp} {p : Addr} {o : HO} (e : Same F H) (h : H p = none) : Post0 F H (upd F p o) (upd H p o) := by
  have hF : F p = none := by
    cases q : F p with
    | none => rfl
    | some u => rw [e p u q] at h; cases h
  refine ⟨fun a u z => ?_, fun a u z => ?_, fun a u z => ?_, fun a u z1 z2 _ => ?_⟩
  · rw [upd_ne (ne_of_none z h)]; exact z
  · rw [upd_ne (ne_of_none z hF)]; exact z
  · by_cases ha : a = p
    · subst ha; rw [upd_same] at z ⊢; exact z
    · rw [upd_ne ha] at z ⊢; exact e a u z
  · rw [upd_ne (ne_of_none z2 h)]; exact z1
/-- a new object, owned -/
theorem Post0.newO {F H : Hp} {p : Addr} {o : HO} (e : Same F H) (h : H p = none) : Post0 F H F (upd H p o) :=
  ⟨fun a u z => by rw [upd_ne (ne_of_none z h)]; exact z, Same.refl _, fun a u z => by rw [upd_ne (ne_of_none (e a u z) h)]; exact e a u z, fun _ _ h _ _ => h⟩
theorem same_none {F H : Hp} {p : Addr} (e : Same F H) (h : H p = none) : F p = none := by
  cases q : F p with
  | none => rfl
  | some u => rw [e p u q] at h; cases h
section
variable {K : PySem.W.Frag} {F F' H H' : Hp} {ρ : Ev} {σ : List (Option V)} {S : List Addr}
theorem Rel.dom (R : Rel K F ρ σ H S) : ∀ a ∈ S, ∃ o, H a = some o := fun a m => let ⟨o, h, _⟩ := R.sl.dom a m; ⟨o, h⟩
theorem Rel.post (R : Rel K F ρ σ H S) (p : Post0 F H F' H') : Rel K F' ρ σ H' S :=
  ⟨p.fh, fun a m => let ⟨o, h, nt, _⟩ := R.sl.dom a m; p.new a o (R.fr a m) h nt, R.nd, R.sl.frame p.f fun a o _ h => p.h a o h⟩
end

/-! ### what an expression gives -/
/-- an exception: its class, the value of its one field -/
structure Ex where
  C : Str
  pl : Option Int
def ExR (K : PySem.W.Frag) (H : Hp) (x : Ex) (cls : Value) (dd : Option Addr) : Prop :=
  cls = .ref (He.ga K x.C) ∧ match x.pl with
    | none => dd = none
    | some i => ∃ a, dd = some a ∧ H a = some (.xd [(("hand" : Str), .int i)])
abbrev W0 := Ev → (D → Prop) → (Ex → Prop) → Prop
abbrev WA0 := Ev → (List D → Prop) → (Ex → Prop) → Prop
/-- v stands for d; what d owns is new, or (fr = false) stood in S -/
structure V0 (K : PySem.W.Frag) (F H : Hp) (S : List Addr) (fr : Bool) (F' H' : Hp) (v : V) (d : D) (T : List Addr) : Prop where
  post : Post0 F H F' H'
  rep : Rep K F' H' v d T
  nd : T.Nodup
  own : ∀ a ∈ T, F' a = none ∧ (H a = none ∨ (fr = false ∧ a ∈ S))
structure VA0 (K : PySem.W.Frag) (F H : Hp) (S : List Addr) (fr : Bool) (F' H' : Hp) (vs : List V) (ds : List D) (T : List Addr) : Prop where
  post : Post0 F H F' H'
  rep : Reps K F' H' vs ds T
  nd : fr = true → T.Nodup
  own : ∀ a ∈ T, F' a = none ∧ (H a = none ∨ (fr = false ∧ a ∈ S))
theorem V0.frF {K : PySem.W.Frag} {F H : Hp} {S : List Addr} {fr fr' : Bool} {F' H' : Hp} {v : V} {d : D} {T : List Addr} (x : V0 K F H S fr F' H' v d T) (h : isF d = true) : V0 K F H S fr' F' H' v d [] := by
  have e := x.rep.noS h
  subst e
  exact ⟨x.post, x.rep, List.nodup_nil, fun a m => nomatch m⟩
theorem V0.view {K : PySem.W.Frag} {F H : Hp} {S : List Addr} {fr : Bool} {F' H' : Hp} {v : V} {d : D} {T : List Addr} (x : V0 K F H S true F' H' v d T) : V0 K F H S fr F' H' v d T :=
  ⟨x.post, x.rep, x.nd, fun a m => ⟨(x.own a m).1, (x.own a m).2.elim .inl fun z => Bool.noConfusion z.1⟩⟩
/-- what exceptions may be let out -/
def TkW (X : Cx) (W : WX) : Prop := ∀ σ, PassesAt (L2.CX X.prog X.w) X σ (fun cls d H => W cls d σ H)
theorem tkw_of {X : Cx} {W : WX} (tk : Takes X W) : TkW X W := fun σ => passAt tk σ
def lift0 (X : Cx) (W : WX) (fr : Bool) (w : W0) : TE := fun σ H Q => ∃ F ρ S P E, Rel X.K F ρ σ H S ∧ w ρ P E ∧
  (∀ d, P d → ∀ v F' H' T, V0 X.K F H S fr F' H' v d T → Q v H') ∧ (∀ x, E x → ∀ cls dd F' H', Post0 F H F' H' → ExR X.K H' x cls dd → W cls dd σ H')
def liftA0 (X : Cx) (W : WX) (fr : Bool) (w : WA0) : TA := fun σ H Q => ∃ F ρ S P E, Rel X.K F ρ σ H S ∧ w ρ P E ∧
  (∀ ds, P ds → ∀ vs F' H' T, VA0 X.K F H S fr F' H' vs ds T → Q vs H') ∧ (∀ x, E x → ∀ cls dd F' H', Post0 F H F' H' → ExR X.K H' x cls dd → W cls dd σ H')
abbrev PE0 (X : Cx) (W : WX) (fr : Bool) (e : Expr) (w : W0) : Prop := PE X e (lift0 X W fr w)
abbrev PA0 (X : Cx) (W : WX) (fr : Bool) (es : List Expr) (w : WA0) : Prop := PA X es (liftA0 X W fr w)
theorem PE.imp {X : Cx} {e : Expr} {t t' : TE} (h : PE X e t) (k : ∀ σ H Q, t' σ H Q → t σ H Q) : PE X e t' := ⟨fun pins s σ H Q I q => h.run pins s σ H Q I (k σ H Q q)⟩
theorem PA.imp {X : Cx} {e : List Expr} {t t' : TA} (h : PA X e t) (k : ∀ σ H Q, t' σ H Q → t σ H Q) : PA X e t' := ⟨fun pos pins s σ H Q I q => h.run pos pins s σ H Q I (k σ H Q q)⟩
theorem PT.imp {X : Cx} {e : Expr} {t t' : TT} (h : PT X e t) (k : ∀ σ H Q, t' σ H Q → t σ H Q) : PT X e t' := ⟨fun pins s σ H Q I q => h.run pins s σ H Q I (k σ H Q q)⟩
theorem PS.imp {X : Cx} {e : Stmt} {t t' : TS} (h : PS X e t) (k : ∀ D σ H, t' D σ H → t D σ H) : PS X e t' := ⟨fun pins s σ H D I q => h.run pins s σ H D I (k D σ H q)⟩
theorem PSs.imp {X : Cx} {e : List Stmt} {t t' : TS} (h : PSs X e t) (k : ∀ D σ H, t' D σ H → t D σ H) : PSs X e t' := ⟨fun pins s σ H D I q => h.run pins s σ H D I (k D σ H q)⟩

section
variable {X : Cx} {W : WX} {fr fa fb : Bool} {a b e : Expr} {wa wb w : W0} {pos : Pos}
/-! ### names, constants -/
def wVar (i : Nat) : W0 := fun ρ P _ => match ρ[i]? with
  | some (some d) => P d
  | _ => False
theorem g_var {i : Nat} {x : Str} (h : PE X (.Name x pos) (tVar i)) : PE0 X W false (.Name x pos) (wVar i) := PE.imp h fun σ H Q ⟨F, ρ, S, P, E, R, w, k, _⟩ => by
  unfold wVar at w
  split at w
  · rename_i d e
    obtain ⟨v, A, T, B, h1, h2, h3⟩ := R.sl.at e
    have nd : T.Nodup := by
      have q := R.nd
      rw [h3] at q
      exact ((List.nodup_append.mp (List.nodup_append.mp q).1).2).1
    exact ⟨v, h1, k d w v F H T ⟨Post0.refl R.same, h2, nd, fun a m => ⟨R.fr a (by rw [h3]; simp [m]), .inr ⟨rfl, by rw [h3]; simp [m]⟩⟩⟩⟩
  · exact w.elim
def wC (d : D) : W0 := fun _ P _ => P d
theorem g_c {v : V} {d : D} (h : PE X e (tC v)) (r : ∀ F H, Rep X.K F H v d []) : PE0 X W true e (wC d) := PE.imp h fun σ H Q ⟨F, ρ, S, P, E, R, w, k, _⟩ =>
  k d w v F H [] ⟨Post0.refl R.same, r F H, List.nodup_nil, fun a m => nomatch m⟩
theorem g_int {i j pos} : PE0 X W true (.Constant (.int i) j pos) (wC (.int i)) := g_c pe_int fun _ _ => .int i
theorem g_bl {i j pos} : PE0 X W true (.Constant (.bool i) j pos) (wC (.bl i)) := g_c pe_bl fun _ _ => .bl i
theorem g_non {j pos} : PE0 X W true (.Constant .none j pos) (wC .non) := g_c pe_non fun _ _ => .non
theorem g_str {i j pos} (h : strOk i = true := by decide +kernel) : PE0 X W true (.Constant (.str i) j pos) (wC (.str i)) := g_c pe_str fun _ _ => .str i h
/-- a value that owns nothing is no view -/
def wF (w : W0) : W0 := fun ρ P E => w ρ (fun d => isF d = true ∧ P d) E
theorem g_F (h : PE0 X W fa e w) : PE0 X W fr e (wF w) := PE.imp h fun σ H Q ⟨F, ρ, S, P, E, R, w, k, kx⟩ =>
  ⟨F, ρ, S, _, E, R, w, fun d q v F' H' T x => k d q.2 v F' H' [] (x.frF q.1), kx⟩
theorem g_view (h : PE0 X W true e w) : PE0 X W fr e w := PE.imp h fun σ H Q ⟨F, ρ, S, P, E, R, w, k, kx⟩ =>
  ⟨F, ρ, S, P, E, R, w, fun d q v F' H' T x => k d q v F' H' T x.view, kx⟩

/-! ### two-place operations -/
/-- an operation on values: it gives something new, or something that owns nothing -/
def OpD (X : Cx) (f : Value → Value → Sem Value) (g : D → D → (D → Prop) → Prop) : Prop :=
  ∃ r, OpR X f r ∧ ∀ (F H : Hp) (x y : V) (dx dy : D) (Sx Sy : List Addr) (P : D → Prop) (Q : VK), Same F H → Rep X.K F H x dx Sx → Rep X.K F H y dy Sy → g dx dy P →
    (∀ d, P d → ∀ v F' H' T, V0 X.K F H [] true F' H' v d T → Q v H') → r x y H Q
def w2 (g : D → D → (D → Prop) → Prop) (wa wb : W0) : W0 := fun ρ P E => wa ρ (fun x => wb ρ (fun y => g x y P) E) E
theorem lift0_2 {g : D → D → (D → Prop) → Prop} {f : Value → Value → Sem Value} {r : R2}
    (k : ∀ (F H : Hp) (x y : V) (dx dy : D) (Sx Sy : List Addr) (P : D → Prop) (Q : VK), Same F H → Rep X.K F H x dx Sx → Rep X.K F H y dy Sy → g dx dy P → (∀ d, P d → ∀ v F' H' T, V0 X.K F H [] true F' H' v d T → Q v H') → r x y H Q) :
    ∀ σ H Q, lift0 X W true (w2 g wa wb) σ H Q → tOp r (lift0 X W fa wa) (lift0 X W fb wb) σ H Q := fun σ H Q ⟨F, ρ, S, P, E, R, w, kd, kx⟩ =>
  ⟨F, ρ, S, _, E, R, w, fun dx wx x F1 H1 T1 V1 => ⟨F1, ρ, S, _, E, R.post V1.post, wx, fun dy wy y F2 H2 T2 V2 =>
    k F2 H2 x y dx dy T1 T2 P Q V2.post.fh (V1.rep.mono V2.post.f V2.post.h) V2.rep wy fun d q v F3 H3 T3 V3 =>
      kd d q v F3 H3 T3 ⟨(V1.post.trans V2.post).trans V3.post, V3.rep, V3.nd, fun a m => ⟨(V3.own a m).1, (V3.own a m).2.elim (fun z => .inl ((V1.post.trans V2.post).h.free z)) fun z => Bool.noConfusion z.1⟩⟩,
    fun x hx cls dd F2 H2 p q => kx x hx cls dd F2 H2 (V1.post.trans p) q⟩, kx⟩
theorem g_bin {op : Operator} {g : D → D → (D → Prop) → Prop} (ho : OpD X (binaryOp op) g) (ha : PE0 X W fa a wa) (hb : PE0 X W fb b wb) : PE0 X W true (.BinOp a op b pos) (w2 g wa wb) := by
  obtain ⟨r, h1, h2⟩ := ho
  exact PE.imp (pe_op h1 ha hb) (lift0_2 (f := binaryOp op) h2)
theorem g_cmp {op : CmpOp} {g : D → D → (D → Prop) → Prop} (ho : OpD X (compareOp op) g) (ha : PE0 X W fa a wa) (hb : PE0 X W fb b wb) (hm : behindInMarks op b = false) : PE0 X W true (.Compare a [op] [b] pos) (w2 g wa wb) := by
  obtain ⟨r, h1, h2⟩ := ho
  exact PE.imp (pe_cmpR h1 ha hb hm) (lift0_2 (f := compareOp op) h2)
end
end DL

namespace DL
open PySem PySem.Spec PyProof.Rows L2

section
variable {K : PySem.W.Frag} {F F' H H' : Hp}
theorem V0.flat {v : V} {d : D} {S : List Addr} {fr : Bool} (e : Same F H) (r : Rep K F H v d []) : V0 K F H S fr F H v d [] := ⟨Post0.refl e, r, List.nodup_nil, fun a m => nomatch m⟩
theorem V0.newL {p : Addr} {vs : List V} {ds : List D} {S : List Addr} {fr : Bool} (e : Same F H) (hp : H p = none) (r : Reps K F H vs ds []) : V0 K F H S fr F (upd H p (.lst vs)) (.ref p) (.lst true ds) [p] :=
  ⟨Post0.newO e hp, .lstO p vs ds [] upd_same (r.mono (Same.refl F) (Post0.newO e hp).h), by simp, fun a m => by
    have q : a = p := by simpa using m
    subst q; exact ⟨same_none e hp, .inl hp⟩⟩
/-- a list that is read -/
def lstD : D → Option (List D)
  | .lst _ xs => some xs
  | .con xs => some xs
  | _ => none
theorem Rep.seqL {v : V} {d : D} {ds : List D} {S : List Addr} (e : Same F H) (h : lstD d = some ds) (r : Rep K F H v d S) :
    ∃ p vs A T, v = .ref p ∧ SqL K H p vs ∧ Reps K F H vs ds T ∧ S = A ++ T := by
  cases r with
  | lstF p vs ds' h1 r' => cases h; exact ⟨p, vs, [], [], rfl, .of (e _ _ h1), r', rfl⟩
  | lstO p vs ds' T h1 r' => cases h; exact ⟨p, vs, [p], T, rfl, .of h1, r', rfl⟩
  | con p vs ds' h1 r' => cases h; exact ⟨p, vs, [], [], rfl, e.seq h1, r', rfl⟩
  | _ => cases h
/-- a list of the program's own -/
theorem Rep.lstH {v : V} {o : Bool} {ds : List D} {S : List Addr} (e : Same F H) (r : Rep K F H v (.lst o ds) S) :
    ∃ p vs A T, v = .ref p ∧ H p = some (.lst vs) ∧ Reps K F H vs ds T ∧ S = A ++ T := by
  cases r with
  | lstF p vs ds' h1 r' => exact ⟨p, vs, [], [], rfl, e _ _ h1, r', rfl⟩
  | lstO p vs ds' T h1 r' => exact ⟨p, vs, [p], T, rfl, h1, r', rfl⟩
theorem Rep.tupH {v : V} {ds : List D} {S : List Addr} (e : Same F H) (r : Rep K F H v (.tup ds) S) : ∃ p vs, v = .ref p ∧ F p = some (.tup vs) ∧ H p = some (.tup vs) ∧ Reps K F H vs ds S := by
  cases r with
  | tup p vs ds' T h1 r' => exact ⟨p, vs, rfl, h1, e _ _ h1, r'⟩
theorem Reps.own {vs : List V} {ds : List D} {S : List Addr} (r : Reps K F H vs ds S) (h : isFs ds = true) : Reps K F H vs ds [] := by
  have e := r.noS h
  subst e
  exact r
end

section
variable {X : Cx} {W : WX} {fr fa fb fc : Bool} {a b c e : Expr} {wa wb wc w : W0} {pos : Pos}
/-! ### operations on numbers, texts, lists -/
def gI (f : Int → Int → D) : D → D → (D → Prop) → Prop
  | .int i, .int j, P => P (f i j)
  | _, _, _ => False
def gIc (C : Int → Int → Prop) (f : Int → Int → D) : D → D → (D → Prop) → Prop
  | .int i, .int j, P => C i j ∧ P (f i j)
  | _, _, _ => False
/-- what a scalar result leaves -/
def sclD : D → Option V
  | .non => some .non
  | .bl b => some (.bl b)
  | .int i => some (.int i)
  | _ => none
theorem sclD_rep {K : PySem.W.Frag} {F H : Hp} {d : D} {v : V} (h : sclD d = some v) : Rep K F H v d [] := by
  cases d <;> first | (cases h; constructor) | cases h
theorem opD_I {f : Value → Value → Sem Value} {g : Int → Int → D} {h : Int → Int → V} (hs : ∀ i j, sclD (g i j) = some (h i j)) (ho : OpR X f (rI0 h)) : OpD X f (gI g) := by
  refine ⟨_, ho, fun F H x y dx dy Sx Sy P Q e rx ry g k => ?_⟩
  unfold gI at g
  split at g
  · cases rx; cases ry
    exact ⟨_, _, rfl, rfl, k _ g _ F H [] (V0.flat e (sclD_rep (hs _ _)))⟩
  · exact g.elim
theorem opD_Ic {f : Value → Value → Sem Value} {C : Int → Int → Prop} {g : Int → Int → D} {h : Int → Int → V} (hs : ∀ i j, sclD (g i j) = some (h i j)) (ho : OpR X f (rI C h)) : OpD X f (gIc C g) := by
  refine ⟨_, ho, fun F H x y dx dy Sx Sy P Q e rx ry g k => ?_⟩
  unfold gIc at g
  split at g
  · cases rx; cases ry
    exact ⟨_, _, rfl, rfl, g.1, k _ g.2 _ F H [] (V0.flat e (sclD_rep (hs _ _)))⟩
  · exact g.elim
abbrev gSub := gI fun i j => .int (i - j)
abbrev gMul := gIc CMul fun i j => .int (i * j)
abbrev gDiv := gIc CDiv fun i j => .int (i / j)
abbrev gMod := gIc (fun _ j => 0 < j) fun i j => .int (i % j)
abbrev gPow := gIc CPow fun i j => .int (i ^ j.toNat)
abbrev gLt := gI fun i j => .bl (decide (i < j))
abbrev gLe := gI fun i j => .bl (decide (i ≤ j))
abbrev gGt := gI fun i j => .bl (decide (j < i))
abbrev gGe := gI fun i j => .bl (decide (j ≤ i))
theorem od_sub : OpD X (binaryOp .Sub) gSub := opD_I (fun _ _ => rfl) op_sub
theorem od_mul : OpD X (binaryOp .Mult) gMul := opD_Ic (fun _ _ => rfl) op_mul
theorem od_div : OpD X (binaryOp .FloorDiv) gDiv := opD_Ic (fun _ _ => rfl) op_fdiv
theorem od_mod : OpD X (binaryOp .Mod) gMod := opD_Ic (fun _ _ => rfl) op_mod
theorem od_pow : OpD X (binaryOp .Pow) gPow := opD_Ic (fun _ _ => rfl) op_pow
theorem od_lt : OpD X (compareOp .Lt) gLt := opD_I (fun _ _ => rfl) op_lt
theorem od_le : OpD X (compareOp .LtE) gLe := opD_I (fun _ _ => rfl) op_le
theorem od_gt : OpD X (compareOp .Gt) gGt := opD_I (fun _ _ => rfl) op_gt
theorem od_ge : OpD X (compareOp .GtE) gGe := opD_I (fun _ _ => rfl) op_ge
/-- a + b -/
def gAdd : D → D → (D → Prop) → Prop
  | .int i, .int j, P => P (.int (i + j))
  | .str x, .str y, P => x.length + y.length ≤ sizeLine ∧ P (.str (x ++ y))
  | .lst _ xs, .lst _ ys, P => isFs xs = true ∧ isFs ys = true ∧ xs.length + ys.length ≤ sizeLine ∧ P (.lst true (xs ++ ys))
  | _, _, _ => False
theorem strOk_append {x y : Str} (hx : strOk x = true) (hy : strOk y = true) : strOk (x ++ y) = true := by
  have h1 : x.cps.all (· < 0x110000) = true := hx
  have h2 : y.cps.all (· < 0x110000) = true := hy
  show (x ++ y).cps.all (· < 0x110000) = true
  have e : (x ++ y).cps = x.cps ++ y.cps := rfl
  rw [e, Array.all_append, h1, h2]
  rfl
theorem od_add : OpD X (binaryOp .Add) gAdd := by
  refine ⟨_, OpR.or op_add (OpR.or op_add_str op_cat), fun F H x y dx dy Sx Sy P Q e rx ry g k => ?_⟩
  unfold gAdd at g
  split at g
  · cases rx; cases ry
    exact .inl ⟨_, _, rfl, rfl, k _ g _ F H [] (V0.flat e (.int _))⟩
  · cases rx with
    | str x hx =>
      cases ry with
      | str y hy => exact .inr (.inl ⟨_, _, rfl, rfl, g.1, k _ g.2 _ F H [] (V0.flat e (.str _ (strOk_append hx hy)))⟩)
  · obtain ⟨g1, g2, g3, g4⟩ := g
    obtain ⟨p, vs, _, _, rfl, h1, r1, _⟩ := rx.lstH e
    obtain ⟨q, us, _, _, rfl, h2, r2, _⟩ := ry.lstH e
    refine .inr (.inr ⟨p, q, vs, us, rfl, rfl, h1, h2, by rw [r1.len, r2.len]; exact g3, fun n hn => k _ g4 _ _ _ _ (V0.newL e hn ?_)⟩)
    have z := (r1.own g1).append (r2.own g2)
    exact z
  · exact g.elim
/-! ### == -/
mutual
def eqvD : D → D → Bool
  | .non, .non => true
  | .bl a, .bl b => a == b
  | .bl a, .int j => (if a then 1 else 0) == j
  | .int i, .bl b => i == (if b then 1 else 0)
  | .int i, .int j => i == j
  | .str x, .str y => x == y
  | .tup xs, .tup ys => eqvsD xs ys
  | .lst _ xs, .lst _ ys => eqvsD xs ys
  | .lst _ xs, .con ys => eqvsD xs ys
  | .con xs, .lst _ ys => eqvsD xs ys
  | .con xs, .con ys => eqvsD xs ys
  | _, _ => false
def eqvsD : List D → List D → Bool
  | [], [] => true
  | x :: xs, y :: ys => eqvD x y && eqvsD xs ys
  | _, _ => false
end
mutual
/-- it may be compared, nested at most n deep -/
def cmpD : Nat → D → Bool
  | _, .non => true
  | _, .bl _ => true
  | _, .int _ => true
  | _, .str _ => true
  | n + 1, .tup xs => cmpsD n xs
  | n + 1, .lst _ xs => cmpsD n xs
  | n + 1, .con xs => cmpsD n xs
  | _, _ => false
def cmpsD : Nat → List D → Bool
  | _, [] => true
  | n, x :: xs => cmpD n x && cmpsD n xs
end
mutual
def toP : D → PyData
  | .bl b => .bool b
  | .int i => .int i
  | .str x => .str x
  | .tup xs => .tuple (toPs xs)
  | .lst _ xs => .list (toPs xs)
  | .con xs => .list (toPs xs)
  | _ => .none
def toPs : List D → List PyData
  | [] => []
  | x :: xs => toP x :: toPs xs
end
mutual
theorem Rep.dp {K : PySem.W.Frag} {F H : Hp} (e : Same F H) : ∀ {n : Nat} {v : V} {d : D} {S : List Addr}, Rep K F H v d S → cmpD n d = true → Dp K H v (toP d) ∧ (toP d).canLay0 = true ∧ (toP d).depth ≤ n
  | _, _, _, _, .non, _ => ⟨.non, rfl, Nat.zero_le _⟩
  | _, _, _, _, .bl b, _ => ⟨.bl b, rfl, Nat.zero_le _⟩
  | _, _, _, _, .int i, _ => ⟨.int i, rfl, Nat.zero_le _⟩
  | _, _, _, _, .str x h, _ => ⟨.str x, h, Nat.zero_le _⟩
  | n, _, _, _, .ref a, h => by cases n <;> cases h
  | n, _, _, _, .ty a, h => by cases n <;> cases h
  | 0, _, _, _, .tup p vs ds S h r, k => by cases k
  | n + 1, _, _, _, .tup p vs ds S h r, k => by
    obtain ⟨h1, h2, h3⟩ := Reps.dp e r (show cmpsD n ds = true from k)
    exact ⟨.tup (.of (e _ _ h)) h1, h2, Nat.succ_le_succ h3⟩
  | 0, _, _, _, .lstF p vs ds h r, k => by cases k
  | n + 1, _, _, _, .lstF p vs ds h r, k => by
    obtain ⟨h1, h2, h3⟩ := Reps.dp e r (show cmpsD n ds = true from k)
    exact ⟨.lst (.of (e _ _ h)) h1, h2, Nat.succ_le_succ h3⟩
  | 0, _, _, _, .lstO p vs ds S h r, k => by cases k
  | n + 1, _, _, _, .lstO p vs ds S h r, k => by
    obtain ⟨h1, h2, h3⟩ := Reps.dp e r (show cmpsD n ds = true from k)
    exact ⟨.lst (.of h) h1, h2, Nat.succ_le_succ h3⟩
  | 0, _, _, _, .con p vs ds h r, k => by cases k
  | n + 1, _, _, _, .con p vs ds h r, k => by
    obtain ⟨h1, h2, h3⟩ := Reps.dp e r (show cmpsD n ds = true from k)
    exact ⟨.lst (e.seq h) h1, h2, Nat.succ_le_succ h3⟩
  | n, _, _, _, .dicF p t ks vs ds h r, k => by cases n <;> cases k
  | n, _, _, _, .dicO p t ks vs ds S h r, k => by cases n <;> cases k
  | n, _, _, _, .insF p C dx ns vs ds h l r, k => by cases n <;> cases k
  | n, _, _, _, .insO p C dx ns vs ds S h l r, k => by cases n <;> cases k
theorem Reps.dp {K : PySem.W.Frag} {F H : Hp} (e : Same F H) : ∀ {n : Nat} {vs : List V} {ds : List D} {S : List Addr}, Reps K F H vs ds S → cmpsD n ds = true → DpAll K H vs (toPs ds) ∧ PyData.canLayAll0 (toPs ds) = true ∧ PyData.depthAll (toPs ds) ≤ n
  | _, _, _, _, .nil, _ => ⟨.nil, rfl, Nat.zero_le _⟩
  | n, _, _, _, .cons v d vs ds S T r rs, k => by
    have k' : (cmpD n d && cmpsD n ds) = true := by cases n <;> exact k
    obtain ⟨k1, k2⟩ := ba k'
    obtain ⟨h1, h2, h3⟩ := Rep.dp e r k1
    obtain ⟨h4, h5, h6⟩ := Reps.dp e rs k2
    refine ⟨.cons h1 h4, ?_, Nat.max_le.mpr ⟨h3, h6⟩⟩
    show ((toP d).canLay0 && PyData.canLayAll0 (toPs ds)) = true
    rw [h2, h5]; rfl
end
mutual
theorem eqv_toP : ∀ {n m : Nat} (x y : D), cmpD n x = true → cmpD m y = true → PyData.eqv (toP x) (toP y) = eqvD x y
  | n, m, .non, y, _, h => by cases y <;> first | rfl | (cases m <;> cases h)
  | n, m, .bl a, y, _, h => by cases y <;> first | rfl | (cases m <;> cases h)
  | n, m, .int i, y, _, h => by cases y <;> first | rfl | (cases m <;> cases h)
  | n, m, .str x, y, _, h => by cases y <;> first | rfl | (cases m <;> cases h)
  | n, m, .ref a, y, k, h => by cases n <;> cases k
  | n, m, .ty a, y, k, h => by cases n <;> cases k
  | 0, m, .tup xs, y, k, h => by cases k
  | n + 1, 0, .tup xs, y, k, h => by cases y <;> first | rfl | cases h
  | n + 1, m + 1, .tup xs, y, k, h => by cases y <;> first | rfl | exact eqvs_toP (n := n) (m := m) xs _ k h | cases h
  | 0, m, .lst o xs, y, k, h => by cases k
  | n + 1, 0, .lst o xs, y, k, h => by cases y <;> first | rfl | cases h
  | n + 1, m + 1, .lst o xs, y, k, h => by cases y <;> first | rfl | exact eqvs_toP (n := n) (m := m) xs _ k h | cases h
  | 0, m, .con xs, y, k, h => by cases k
  | n + 1, 0, .con xs, y, k, h => by cases y <;> first | rfl | cases h
  | n + 1, m + 1, .con xs, y, k, h => by cases y <;> first | rfl | exact eqvs_toP (n := n) (m := m) xs _ k h | cases h
  | n, m, .dic _ _ _ _, y, k, h => by cases n <;> cases k
  | n, m, .ins _ _ _ _, y, k, h => by cases n <;> cases k
theorem eqvs_toP : ∀ {n m : Nat} (x y : List D), cmpsD n x = true → cmpsD m y = true → PyData.eqvAll (toPs x) (toPs y) = eqvsD x y
  | n, m, [], [], _, _ => rfl
  | n, m, [], y :: ys, _, _ => rfl
  | n, m, x :: xs, [], _, _ => rfl
  | n, m, x :: xs, y :: ys, k, h => by
    have k' : (cmpD n x && cmpsD n xs) = true := by cases n <;> exact k
    have h' : (cmpD m y && cmpsD m ys) = true := by cases m <;> exact h
    show (PyData.eqv (toP x) (toP y) && PyData.eqvAll (toPs xs) (toPs ys)) = (eqvD x y && eqvsD xs ys)
    rw [eqv_toP x y (ba k').1 (ba h').1, eqvs_toP xs ys (ba k').2 (ba h').2]
end
def gEq : D → D → (D → Prop) → Prop := fun x y P => cmpD 60 x = true ∧ cmpD 60 y = true ∧ P (.bl (eqvD x y))
def gNe : D → D → (D → Prop) → Prop := fun x y P => cmpD 60 x = true ∧ cmpD 60 y = true ∧ P (.bl (!eqvD x y))
theorem shaped_of {d : PyData} (h1 : d.canLay0 = true) (h2 : d.depth ≤ 60) : SeqAt.shaped d = true := by
  show (d.canLay0 && decide (d.depth ≤ 64)) = true
  rw [h1, decide_eq_true (show d.depth ≤ 64 by omega)]; rfl
theorem od_eq (hu : X.A.units + 64 < cLine) : OpD X (compareOp .Eq) gEq := by
  refine ⟨_, op_eqD hu, fun F H x y dx dy Sx Sy P Q e rx ry g k => ?_⟩
  obtain ⟨g1, g2, g3⟩ := g
  obtain ⟨h1, h2, h3⟩ := rx.dp e g1
  obtain ⟨h4, h5, h6⟩ := ry.dp e g2
  exact ⟨_, _, h1, h4, shaped_of h2 h3, shaped_of h5 h6, by rw [eqv_toP dx dy g1 g2]; exact k _ g3 _ F H [] (V0.flat e (.bl _))⟩
theorem od_ne (hu : X.A.units + 64 < cLine) : OpD X (compareOp .NotEq) gNe := by
  refine ⟨_, op_neD hu, fun F H x y dx dy Sx Sy P Q e rx ry g k => ?_⟩
  obtain ⟨g1, g2, g3⟩ := g
  obtain ⟨h1, h2, h3⟩ := rx.dp e g1
  obtain ⟨h4, h5, h6⟩ := ry.dp e g2
  exact ⟨_, _, h1, h4, shaped_of h2 h3, shaped_of h5 h6, by rw [eqv_toP dx dy g1 g2]; exact k _ g3 _ F H [] (V0.flat e (.bl _))⟩
/-! ### is None -/
def isNonD : D → Bool
  | .non => true
  | _ => false
def gIsN : D → D → (D → Prop) → Prop := fun x y P => y = .non ∧ P (.bl (isNonD x))
def gIsNot : D → D → (D → Prop) → Prop := fun x y P => y = .non ∧ P (.bl (!isNonD x))
theorem rep_non {K : PySem.W.Frag} {F H : Hp} {v : V} {d : D} {S : List Addr} (r : Rep K F H v d S) : decide (v = .non) = isNonD d := by
  cases r <;> first | rfl | exact decide_eq_false (fun z => nomatch z)
theorem od_isN : OpD X (compareOp .Is) gIsN := by
  refine ⟨_, op_isN, fun F H x y dx dy Sx Sy P Q e rx ry g k => ?_⟩
  obtain ⟨rfl, g⟩ := g
  cases ry
  exact ⟨rfl, by rw [rep_non rx]; exact k _ g _ F H [] (V0.flat e (.bl _))⟩
theorem od_isNot : OpD X (compareOp .IsNot) gIsNot := by
  refine ⟨_, op_notN, fun F H x y dx dy Sx Sy P Q e rx ry g k => ?_⟩
  obtain ⟨rfl, g⟩ := g
  cases ry
  exact ⟨rfl, by rw [rep_non rx]; exact k _ g _ F H [] (V0.flat e (.bl _))⟩

/-! ### tests -/
abbrev WT0 := Ev → (Bool → Prop) → (Ex → Prop) → Prop
def liftT0 (X : Cx) (W : WX) (w : WT0) : TT := fun σ H Q => ∃ F ρ S P E, Rel X.K F ρ σ H S ∧ w ρ P E ∧
  (∀ b, P b → ∀ F' H', Post0 F H F' H' → Q b H') ∧ (∀ x, E x → ∀ cls dd F' H', Post0 F H F' H' → ExR X.K H' x cls dd → W cls dd σ H')
abbrev PT0 (X : Cx) (W : WX) (e : Expr) (w : WT0) : Prop := PT X e (liftT0 X W w)
abbrev PW0 (X : Cx) (W : WX) (e : Expr) (w : WT0) : Prop := PW X e (liftT0 X W w)
def tV (w : W0) : WT0 := fun ρ P E => w ρ (fun d => match d with | .bl b => P b | _ => False) E
theorem liftT_tB : ∀ σ H Q, liftT0 X W (tV w) σ H Q → tB (lift0 X W fr w) σ H Q := fun σ H Q ⟨F, ρ, S, P, E, R, w, k, kx⟩ =>
  ⟨F, ρ, S, _, E, R, w, fun d q v F' H' T x => by
    cases d with
    | bl b =>
      cases x.rep
      exact ⟨b, rfl, k b q F' H' x.post⟩
    | _ => exact q.elim, kx⟩
/-- an expression that is a truth value, as a test -/
theorem t_val (h : PE0 X W fr e w) (he : ∀ whole, isTrue e X.env whole = (do let v ← whole; standAt e.pos; holding [v] (truthy v)) := by intro _; rfl) : PT0 X W e (tV w) := PT.imp (pt_val h he) liftT_tB
/-- a comparison, as a test -/
theorem t_cmp {op : CmpOp} {g : D → D → (D → Prop) → Prop} (ho : OpD X (compareOp op) g) (ha : PE0 X W fa a wa) (hb : PE0 X W fb b wb) (hm : behindInMarks op b = false) : PT0 X W (.Compare a [op] [b] pos) (tV (w2 g wa wb)) := by
  obtain ⟨r, h1, h2⟩ := ho
  refine PT.imp (pt_cmpR h1 ha hb hm) fun σ H Q q => ?_
  have z := liftT_tB (fr := true) σ H Q q
  exact lift0_2 (f := compareOp op) h2 σ H _ z
def tAn (t u : WT0) : WT0 := fun ρ P E => t ρ (fun b => match b with | true => u ρ P E | false => P false) E
def tO (t u : WT0) : WT0 := fun ρ P E => t ρ (fun b => match b with | true => P true | false => u ρ P E) E
def tN (t : WT0) : WT0 := fun ρ P E => t ρ (fun b => P (!b)) E
variable {ta tb : WT0} {rest : List Expr}
theorem t_pw (h : PW0 X W e ta) : PT0 X W e ta := PW.pt h
theorem PW.imp {e : Expr} {t t' : TT} (h : PW X e t) (k : ∀ σ H Q, t' σ H Q → t σ H Q) : PW X e t' := ⟨fun wh pins s σ H Q I q => h.run wh pins s σ H Q I (k σ H Q q)⟩
theorem w_and1 (h : PT0 X W a ta) : PW0 X W (.BoolOp .And [a] pos) ta := pw_and1 h
theorem w_or1 (h : PT0 X W a ta) : PW0 X W (.BoolOp .Or [a] pos) ta := pw_or1 h
theorem w_and (ha : PT0 X W a ta) (hb : PW0 X W (.BoolOp .And (b :: rest) pos) tb) : PW0 X W (.BoolOp .And (a :: b :: rest) pos) (tAn ta tb) :=
  PW.imp (pw_and ha hb) fun σ H Q ⟨F, ρ, S, P, E, R, w, k, kx⟩ => ⟨F, ρ, S, _, E, R, w, fun d q F1 H1 p1 => by
    cases d with
    | true => exact iteT ⟨F1, ρ, S, P, E, R.post p1, q, fun b h F2 H2 p2 => k b h F2 H2 (p1.trans p2), fun x h cls dd F2 H2 p2 => kx x h cls dd F2 H2 (p1.trans p2)⟩
    | false => exact iteF (k false q F1 H1 p1), kx⟩
theorem w_or (ha : PT0 X W a ta) (hb : PW0 X W (.BoolOp .Or (b :: rest) pos) tb) : PW0 X W (.BoolOp .Or (a :: b :: rest) pos) (tO ta tb) :=
  PW.imp (pw_or ha hb) fun σ H Q ⟨F, ρ, S, P, E, R, w, k, kx⟩ => ⟨F, ρ, S, _, E, R, w, fun d q F1 H1 p1 => by
    cases d with
    | true => exact iteT (k true q F1 H1 p1)
    | false => exact iteF ⟨F1, ρ, S, P, E, R.post p1, q, fun b h F2 H2 p2 => k b h F2 H2 (p1.trans p2), fun x h cls dd F2 H2 p2 => kx x h cls dd F2 H2 (p1.trans p2)⟩, kx⟩
theorem t_not (ha : PT0 X W a ta) : PT0 X W (.UnaryOp .Not a pos) (tN ta) := PT.imp (pt_not ha) fun σ H Q ⟨F, ρ, S, P, E, R, w, k, kx⟩ =>
  ⟨F, ρ, S, _, E, R, w, fun d q F1 H1 p1 => k _ q F1 H1 p1, kx⟩
/-! and, or, not of truth values, as values -/
def wAn (wa wb : W0) : W0 := fun ρ P E => wa ρ (fun d => match d with | .bl true => wb ρ P E | .bl false => P (.bl false) | _ => False) E
def wO (wa wb : W0) : W0 := fun ρ P E => wa ρ (fun d => match d with | .bl true => P (.bl true) | .bl false => wb ρ P E | _ => False) E
def wN (wa : W0) : W0 := fun ρ P E => wa ρ (fun d => match d with | .bl b => P (.bl (!b)) | _ => False) E
theorem g_one {op} (h : PE0 X W true a wa) : PE0 X W true (.BoolOp op [a] pos) wa := pe_one h
theorem g_and (ha : PE0 X W fa a wa) (hb : PE0 X W true (.BoolOp .And (b :: rest) pos) wb) : PE0 X W true (.BoolOp .And (a :: b :: rest) pos) (wAn wa wb) :=
  PE.imp (L2.pe_and ha hb) fun σ H Q ⟨F, ρ, S, P, E, R, w, k, kx⟩ => ⟨F, ρ, S, _, E, R, w, fun d q v F1 H1 T1 V1 => by
    cases d with
    | bl c =>
      cases V1.rep
      refine ⟨c, rfl, ?_⟩
      cases c with
      | true => exact iteT ⟨F1, ρ, S, P, E, R.post V1.post, q, fun b h v F2 H2 T2 V2 => k b h v F2 H2 T2 ⟨V1.post.trans V2.post, V2.rep, V2.nd, fun a m => ⟨(V2.own a m).1, (V2.own a m).2.elim (fun z => .inl (V1.post.h.free z)) .inr⟩⟩, fun x h cls dd F2 H2 p2 => kx x h cls dd F2 H2 (V1.post.trans p2)⟩
      | false => exact iteF (k _ q _ F1 H1 [] ⟨V1.post, .bl false, List.nodup_nil, fun a m => nomatch m⟩)
    | _ => exact q.elim, kx⟩
theorem g_or (ha : PE0 X W fa a wa) (hb : PE0 X W true (.BoolOp .Or (b :: rest) pos) wb) : PE0 X W true (.BoolOp .Or (a :: b :: rest) pos) (wO wa wb) :=
  PE.imp (L2.pe_or ha hb) fun σ H Q ⟨F, ρ, S, P, E, R, w, k, kx⟩ => ⟨F, ρ, S, _, E, R, w, fun d q v F1 H1 T1 V1 => by
    cases d with
    | bl c =>
      cases V1.rep
      refine ⟨c, rfl, ?_⟩
      cases c with
      | true => exact iteT (k _ q _ F1 H1 [] ⟨V1.post, .bl true, List.nodup_nil, fun a m => nomatch m⟩)
      | false => exact iteF ⟨F1, ρ, S, P, E, R.post V1.post, q, fun b h v F2 H2 T2 V2 => k b h v F2 H2 T2 ⟨V1.post.trans V2.post, V2.rep, V2.nd, fun a m => ⟨(V2.own a m).1, (V2.own a m).2.elim (fun z => .inl (V1.post.h.free z)) .inr⟩⟩, fun x h cls dd F2 H2 p2 => kx x h cls dd F2 H2 (V1.post.trans p2)⟩
    | _ => exact q.elim, kx⟩
theorem g_not (ha : PE0 X W fa a wa) : PE0 X W true (.UnaryOp .Not a pos) (wN wa) :=
  PE.imp (L2.pe_not ha) fun σ H Q ⟨F, ρ, S, P, E, R, w, k, kx⟩ => ⟨F, ρ, S, _, E, R, w, fun d q v F1 H1 T1 V1 => by
    cases d with
    | bl c =>
      cases V1.rep
      exact ⟨c, rfl, k _ q _ F1 H1 [] ⟨V1.post, .bl _, List.nodup_nil, fun a m => nomatch m⟩⟩
    | _ => exact q.elim, kx⟩
def wIf (t : WT0) (wa wb : W0) : W0 := fun ρ P E => t ρ (fun b => match b with | true => wa ρ P E | false => wb ρ P E) E
theorem g_if (hc : PT0 X W c ta) (ha : PE0 X W fr a wa) (hb : PE0 X W fr b wb) : PE0 X W fr (.IfExp c a b pos) (wIf ta wa wb) :=
  PE.imp (pe_ifExp hc ha hb) fun σ H Q ⟨F, ρ, S, P, E, R, w, k, kx⟩ => ⟨F, ρ, S, _, E, R, w, fun d q F1 H1 p1 => by
    cases d with
    | true => exact iteT ⟨F1, ρ, S, P, E, R.post p1, q, fun b h v F2 H2 T2 V2 => k b h v F2 H2 T2 ⟨p1.trans V2.post, V2.rep, V2.nd, fun a m => ⟨(V2.own a m).1, (V2.own a m).2.elim (fun z => .inl (p1.h.free z)) .inr⟩⟩, fun x h cls dd F2 H2 p2 => kx x h cls dd F2 H2 (p1.trans p2)⟩
    | false => exact iteF ⟨F1, ρ, S, P, E, R.post p1, q, fun b h v F2 H2 T2 V2 => k b h v F2 H2 T2 ⟨p1.trans V2.post, V2.rep, V2.nd, fun a m => ⟨(V2.own a m).1, (V2.own a m).2.elim (fun z => .inl (p1.h.free z)) .inr⟩⟩, fun x h cls dd F2 H2 p2 => kx x h cls dd F2 H2 (p1.trans p2)⟩, kx⟩
end
end DL

namespace DL
open PySem PySem.Spec PyProof.Rows L2

/-! ### arguments, displays -/
section
variable {X : Cx} {W : WX} {fr fa fb fc : Bool} {a b c e : Expr} {es : List Expr} {wa wb wc w : W0} {ws : WA0} {pos : Pos}
def aNil : WA0 := fun _ P _ => P []
def aCons (wa : W0) (ws : WA0) : WA0 := fun ρ P E => wa ρ (fun x => ws ρ (fun xs => P (x :: xs)) E) E
theorem a_nil : PA0 X W fr [] aNil := PA.imp pa_nil fun σ H Q ⟨F, ρ, S, P, E, R, w, k, kx⟩ => k [] w [] F H [] ⟨Post0.refl R.same, .nil, fun _ => List.nodup_nil, fun a m => nomatch m⟩
theorem own_trans {F H F1 H1 F2 : Hp} {S : List Addr} {fr : Bool} {a : Addr} (p : Post0 F H F1 H1) (x : F2 a = none ∧ (H1 a = none ∨ (fr = false ∧ a ∈ S))) : F2 a = none ∧ (H a = none ∨ (fr = false ∧ a ∈ S)) :=
  ⟨x.1, x.2.elim (fun z => .inl (p.h.free z)) .inr⟩
theorem a_cons (ha : PE0 X W fr e wa) (hr : PA0 X W fr es ws) (hs : starEach (e :: es) X.env = (false, eval e X.env) :: starEach es X.env := by rfl) : PA0 X W fr (e :: es) (aCons wa ws) :=
  PA.imp (pa_cons ha hr hs) fun σ H Q ⟨F, ρ, S, P, E, R, w, k, kx⟩ => ⟨F, ρ, S, _, E, R, w, fun d q v F1 H1 T1 V1 =>
    ⟨F1, ρ, S, _, E, R.post V1.post, q, fun ds q2 vs F2 H2 T2 V2 => k _ q2 _ F2 H2 (T1 ++ T2) ⟨V1.post.trans V2.post, .cons _ _ _ _ _ _ (V1.rep.mono V2.post.f V2.post.h) V2.rep, fun hf =>
        List.nodup_append.mpr ⟨V1.nd, V2.nd hf, fun x hx y hy z => by
          subst z
          obtain ⟨o, ho, _⟩ := V1.rep.dom x hx
          rcases (V2.own x hy).2 with n | ⟨n, _⟩
          · rw [ho] at n; cases n
          · rw [hf] at n; cases n⟩,
      fun a m => (List.mem_append.mp m).elim (fun m => by
        obtain ⟨o, ho, nt, _⟩ := V1.rep.dom a m
        exact ⟨V2.post.new a o (V1.own a m).1 ho nt, (V1.own a m).2⟩) fun m => own_trans V1.post (V2.own a m)⟩,
      fun x h cls dd F2 H2 p2 => kx x h cls dd F2 H2 (V1.post.trans p2)⟩, kx⟩
theorem sz1000 {n : Nat} (h : n ≤ 1000) : n ≤ sizeLine := Nat.le_trans h (by decide)
/-- (a, b, ..) -/
def wTup (ws : WA0) : W0 := fun ρ P E => ws ρ (fun ds => ds.length ≤ 1000 ∧ P (.tup ds)) E
theorem g_tup {x1} (h : PA0 X W true es ws) : PE0 X W true (.Tuple es x1 pos) (wTup ws) :=
  PE.imp (pe_tup h) fun σ H Q ⟨F, ρ, S, P, E, R, w, k, kx⟩ => ⟨F, ρ, S, _, E, R, w, fun ds q vs F1 H1 T1 V1 => ⟨by rw [V1.rep.len]; exact sz1000 q.1, fun p hp => by
    have z := Post0.newF (o := .tup vs) V1.post.fh hp
    refine k _ q.2 _ (upd F1 p (.tup vs)) _ T1 ⟨V1.post.trans z, .tup p vs ds T1 upd_same (V1.rep.mono z.f z.h), V1.nd rfl, fun a m => ?_⟩
    obtain ⟨o, ho, nt, _⟩ := V1.rep.dom a m
    exact ⟨z.new a o (V1.own a m).1 ho nt, (V1.own a m).2⟩⟩, kx⟩
/-- [a, b, ..] -/
def wLst (ws : WA0) : W0 := fun ρ P E => ws ρ (fun ds => ds.length ≤ 1000 ∧ P (.lst true ds)) E
theorem g_lst (h : PA0 X W true es ws) : PE0 X W true (.List es pos) (wLst ws) :=
  PE.imp (pe_lst h) fun σ H Q ⟨F, ρ, S, P, E, R, w, k, kx⟩ => ⟨F, ρ, S, _, E, R, w, fun ds q vs F1 H1 T1 V1 => ⟨by rw [V1.rep.len]; exact sz1000 q.1, fun p hp => by
    have z := Post0.newO (o := .lst vs) V1.post.fh hp
    refine k _ q.2 _ F1 _ (p :: T1) ⟨V1.post.trans z, .lstO p vs ds T1 upd_same (V1.rep.mono z.f z.h), List.nodup_cons.mpr ⟨fun m => ?_, V1.nd rfl⟩, fun a m => ?_⟩
    · obtain ⟨o, ho, _⟩ := V1.rep.dom p m
      rw [hp] at ho; cases ho
    · rcases List.mem_cons.mp m with e | m
      · subst e
        exact ⟨same_none V1.post.fh hp, .inl (V1.post.h.free hp)⟩
      · exact V1.own a m⟩, kx⟩
/-- {}: t = 0, to hold ints and texts as keys; t = 1, tuples -/
theorem g_dict0 : PE0 X W true (.Dict [] [] pos) (wC (.dic true 0 [] [])) :=
  PE.imp pe_dnewK fun σ H Q ⟨F, ρ, S, P, E, R, w, k, kx⟩ => fun p hp => by
    have z := Post0.newO (o := .dK []) R.same hp
    exact k _ w _ F _ [p] ⟨z, .dicO p 0 [] [] [] [] (.k [] [] [] upd_same rfl rfl List.nodup_nil rfl) .nil, by simp, fun a m => by
      have e : a = p := by simpa using m
      subst e
      exact ⟨same_none R.same hp, .inl hp⟩⟩
theorem g_dict1 : PE0 X W true (.Dict [] [] pos) (wC (.dic true 1 [] [])) :=
  PE.imp pe_dnewT fun σ H Q ⟨F, ρ, S, P, E, R, w, k, kx⟩ => fun p hp => by
    have z := Post0.newO (o := .dT []) R.same hp
    exact k _ w _ F _ [p] ⟨z, .dicO p 1 [] [] [] [] (.t [] [] [] upd_same rfl rfl List.nodup_nil rfl) .nil, by simp, fun a m => by
      have e : a = p := by simpa using m
      subst e
      exact ⟨same_none R.same hp, .inl hp⟩⟩
end

/-! ### what a dict holds -/
def dlook : List D → List D → D → Option D
  | k :: ks, v :: vs, x => if k = x then some v else dlook ks vs x
  | _, _, _ => none
/-- a key of the kind -/
def keyOk : Nat → D → Bool
  | 0, x => (keyD x).isSome
  | 1, x => (tkeyD x).isSome
  | _, _ => false
theorem keyD_inj {x y : D} {q : Key} (h1 : keyD x = some q) (h2 : keyD y = some q) : x = y := by
  cases x <;> cases y <;> simp [keyD] at h1 h2 <;> subst h1 <;> simp_all
theorem keysD_inj : ∀ {xs ys : List D} {qs : List Key}, keysD xs = some qs → keysD ys = some qs → xs = ys
  | [], [], _, _, _ => rfl
  | [], y :: ys, qs, h1, h2 => by
    cases h1
    unfold keysD at h2
    split at h2 <;> simp at h2
  | x :: xs, [], qs, h1, h2 => by
    cases h2
    unfold keysD at h1
    split at h1 <;> simp at h1
  | x :: xs, y :: ys, qs, h1, h2 => by
    unfold keysD at h1 h2
    split at h1
    · rename_i k ks e1 e2
      cases h1
      split at h2
      · rename_i j js e3 e4
        cases h2
        rw [keyD_inj e1 e3, keysD_inj e2 e4]
      · cases h2
    · cases h1
theorem tkeyD_inj {x y : D} {q : List Key} (h1 : tkeyD x = some q) (h2 : tkeyD y = some q) : x = y := by
  cases x <;> first | cases h1 | (cases y <;> first | cases h2 | (rw [keysD_inj (show keysD _ = some q from h1) (show keysD _ = some q from h2)]))
section
variable {K : PySem.W.Frag} {F F' H H' : Hp}
theorem Rep.key {v : V} {d : D} {S : List Addr} {q : Key} (r : Rep K F H v d S) (h : keyD d = some q) : v = kV q := by
  cases r <;> first | (cases h; rfl) | cases h
theorem Reps.keys : ∀ {vs : List V} {ds : List D} {S : List Addr} {qs : List Key}, Reps K F H vs ds S → keysD ds = some qs → vs = qs.map kV
  | _, _, _, _, .nil, h => by cases h; rfl
  | _, _, _, _, .cons v d vs ds S T r rs, h => by
    unfold keysD at h
    split at h
    · rename_i k ks e1 e2
      cases h
      rw [r.key e1, Reps.keys rs e2]
      rfl
    · cases h
theorem Rep.tkey {v : V} {d : D} {S : List Addr} {q : List Key} (e : Same F H) (r : Rep K F H v d S) (h : tkeyD d = some q) : ∃ b, v = .ref b ∧ F b = some (.tup (q.map kV)) ∧ H b = some (.tup (q.map kV)) := by
  cases r with
  | tup p vs ds S h1 r1 =>
    have z := r1.keys (show keysD ds = some q from h)
    rw [z] at h1
    exact ⟨p, rfl, h1, e _ _ h1⟩
  | _ => cases h
theorem dlook_of {α : Type} [DecidableEq α] (f : D → Option α) (inj : ∀ x y q, f x = some q → f y = some q → x = y) {k : D} {q : α} (hk : f k = some q) :
    ∀ {ks : List D} {kvs : List (α × V)} {ds : List D} {S : List Addr}, ks.map f = kvs.map (fun p => some p.1) → Reps K F H (kvs.map (·.2)) ds S →
      match dlook ks ds k with
      | some d => ∃ v A T B, valV kvs q = some v ∧ Rep K F H v d T ∧ S = A ++ T ++ B
      | none => valV kvs q = none
  | [], [], ds, S, _, r => by
    cases r
    show valV [] q = none
    rfl
  | [], _ :: _, _, _, h, _ => by cases h
  | _ :: _, [], _, _, h, _ => by cases h
  | x :: xs, (j, u) :: kvs, ds, S, h, r => by
    rw [List.map_cons, List.map_cons] at h
    injection h with h1 h2
    cases r with
    | cons v d vs ds' S1 T1 r1 rs =>
      unfold dlook
      by_cases e : x = k
      · rw [if_pos e]
        subst e
        rw [hk] at h1
        have ej : j = q := (Option.some.inj h1).symm
        exact ⟨u, [], S1, T1, valV_pos ej, r1, rfl⟩
      · rw [if_neg e]
        have ej : ¬ j = q := fun z => e (inj _ _ q (by rw [h1, z]) hk)
        have ih := dlook_of f inj hk h2 rs
        split at ih
        · rename_i d' hd
          obtain ⟨v', A, T, B, h3, h4, h5⟩ := ih
          exact ⟨v', S1 ++ A, T, B, by rw [valV_neg ej]; exact h3, h4, by rw [h5]; simp⟩
        · rw [valV_neg ej]; exact ih
/-- a look into a dict -/
theorem Rep.dget {x y : V} {o : Bool} {t : Nat} {ks ds : List D} {k : D} {S S' : List Addr} (e : Same F H) (r : Rep K F H x (.dic o t ks ds) S) (ry : Rep K F H y k S') (hk : keyOk t k = true) :
    ∃ p, x = .ref p ∧ match dlook ks ds k with
      | some d => ∃ v A T B, DGet H p y (some v) ∧ Rep K F H v d T ∧ S = A ++ T ++ B
      | none => DGet H p y none := by
  have main : ∀ (p : Addr) (vs : List V) (T : List Addr), DicAt (H p) t ks vs → Reps K F H vs ds T → match dlook ks ds k with
      | some d => ∃ v A T1 B, DGet H p y (some v) ∧ Rep K F H v d T1 ∧ T = A ++ T1 ++ B
      | none => DGet H p y none := fun p vs T da rs => by
    cases da with
    | k kvs _ _ a b c nd kg =>
      subst c
      obtain ⟨q, hq⟩ := Option.isSome_iff_exists.mp (show (keyD k).isSome = true from hk)
      have ey := ry.key hq
      subst ey
      have z := dlook_of keyD (fun x y q => keyD_inj) hq b rs
      split at z
      · rename_i d' hd
        obtain ⟨v, A, T1, B, h1, h2, h3⟩ := z
        exact ⟨v, A, T1, B, by rw [← h1]; exact DGet.k a, h2, h3⟩
      · rw [← z]; exact DGet.k a
    | t kvs _ _ a b c nd kg =>
      subst c
      obtain ⟨q, hq⟩ := Option.isSome_iff_exists.mp (show (tkeyD k).isSome = true from hk)
      obtain ⟨w, ey, _, hw⟩ := ry.tkey e hq
      subst ey
      have z := dlook_of tkeyD (fun x y q => tkeyD_inj) hq b rs
      split at z
      · rename_i d' hd
        obtain ⟨v, A, T1, B, h1, h2, h3⟩ := z
        exact ⟨v, A, T1, B, by rw [← h1]; exact DGet.t a hw, h2, h3⟩
      · rw [← z]; exact DGet.t a hw
  cases r with
  | dicF p t ks vs ds da rs =>
    have m := main p vs [] (dicAt_mono (e p) da) rs
    exact ⟨p, rfl, m⟩
  | dicO p t ks vs ds T da rs =>
    have m := main p vs T da rs
    refine ⟨p, rfl, ?_⟩
    split at m
    · obtain ⟨v, A, T1, B, h1, h2, h3⟩ := m
      exact ⟨v, p :: A, T1, B, h1, h2, by rw [h3]; simp⟩
    · exact m
theorem keyOk_in {t : Nat} {ks ds : List D} {k d : D} (h : Option HO) (vs : List V) (da : DicAt h t ks vs) (e : dlook ks ds k = some d) : keyOk t k = true := by
  have mem : ∀ (ks ds : List D), dlook ks ds k = some d → k ∈ ks := by
    intro ks
    induction ks with
    | nil => intro ds h; cases ds <;> cases h
    | cons x r ih =>
      intro ds h
      cases ds with
      | nil => cases h
      | cons y ys =>
        unfold dlook at h
        by_cases z : x = k
        · rw [z]; exact List.mem_cons_self
        · rw [if_neg z] at h
          exact List.mem_cons_of_mem _ (ih ys h)
  have m := mem ks ds e
  cases da with
  | k kvs _ _ a b c nd kg =>
    obtain ⟨i, hi⟩ := List.getElem?_of_mem m
    have z : (ks.map keyD)[i]? = some (keyD k) := by rw [List.getElem?_map, hi]; rfl
    rw [b, List.getElem?_map] at z
    cases q : kvs[i]? with
    | none => rw [q] at z; cases z
    | some p =>
      rw [q] at z
      have z2 := Option.some.inj z
      show (keyD k).isSome = true
      rw [← z2]; rfl
  | t kvs _ _ a b c nd kg =>
    obtain ⟨i, hi⟩ := List.getElem?_of_mem m
    have z : (ks.map tkeyD)[i]? = some (tkeyD k) := by rw [List.getElem?_map, hi]; rfl
    rw [b, List.getElem?_map] at z
    cases q : kvs[i]? with
    | none => rw [q] at z; cases z
    | some p =>
      rw [q] at z
      have z2 := Option.some.inj z
      show (tkeyD k).isSome = true
      rw [← z2]; rfl
theorem Rep.dicKey {x : V} {o : Bool} {t : Nat} {ks ds : List D} {k d : D} {S : List Addr} (r : Rep K F H x (.dic o t ks ds) S) (e : dlook ks ds k = some d) : keyOk t k = true := by
  cases r with
  | dicF p t ks vs ds da rs => exact keyOk_in _ vs da e
  | dicO p t ks vs ds T da rs => exact keyOk_in _ vs da e
end

/-! ### a subscript -/
/-- an item of a text -/
def strAt (z : Str) (i : Int) : Option D := (atI z.cps.toList i).map fun c => .str ⟨#[c]⟩
def ixD : D → D → Option D
  | .lst _ xs, .int i => atI xs i
  | .con xs, .int i => atI xs i
  | .tup xs, .int i => atI xs i
  | .str z, .int i => if z.length ≤ sizeLine then strAt z i else none
  | .dic _ _ ks vs, k => dlook ks vs k
  | _, _ => none
def gIx (x y : D) (P : D → Prop) : Prop := match ixD x y with
  | some d => P d
  | none => False
section
variable {X : Cx} {W : WX} {fr fa fb fc : Bool} {a b c e : Expr} {es : List Expr} {wa wb wc w : W0} {ws : WA0} {pos : Pos}
def rIxDict : R2 := fun x y H Q => ∃ a v, x = .ref a ∧ DGet H a y (some v) ∧ Q v H
theorem ix_dict (hu : X.A.units + 1 < cLine) : IxR X rIxDict := by
  intro value slice pins s σ H x y v u Q I rx ry h hs
  obtain ⟨p, z, rfl, g, q⟩ := h
  cases rx
  have hT := dict_typeIs I g
  unfold subscriptTail
  refine wpAny_bind ?_
  rw [getitemInPython_of_ne hT.not_modules]
  refine wpAny_bind (wpAny_specialOf hT PySem.F.slot_dict_getitem.lookup ?_)
  have fin : wpAny (model X.prog X.w) X.A (subscripted slice false (.ref p) u) (fun r s3 => wpAny (model X.prog X.w) X.A (letTemporaryGo value (.ref p) r >>= fun _ => pure r) (EP X pins σ Q) X.xe s3) X.xe s := by
    rw [hs]
    exact wpAny_operating (d_getItem hu I g ry fun w' s3 I3 rw' => wpAny_bind (wpAny_letTemporaryGo (wpAny_pure ⟨z, H, I3, rw', q⟩)))
  first
    | exact wpAny_pure (wpAny_bind fin)
    | exact wpAny_bind (wpAny_pure (wpAny_bind fin))
    | exact wpAny_bind fin
theorem atI_rep {K : PySem.W.Frag} {F H : Hp} {vs : List V} {ds : List D} {S : List Addr} {i : Int} {d : D} (r : Reps K F H vs ds S) (h : atI ds i = some d) : ∃ v A T B, atI vs i = some v ∧ Rep K F H v d T ∧ S = A ++ T ++ B := by
  unfold atI at h ⊢
  rw [r.len]
  cases e : ixN ds.length i with
  | none => rw [e] at h; cases h
  | some j =>
    rw [e] at h
    obtain ⟨v, A, T, B, h1, h2, h3⟩ := r.get (i := j) (by simpa using h)
    exact ⟨v, A, T, B, by simpa using h1, h2, h3⟩
/-- the parts of an item: a view of the container's -/
theorem sub_nd {A T B S S0 : List Addr} (h : S = A ++ T ++ B) (h0 : S0 = S ∨ ∃ Z, S0 = Z ++ S) (n : S0.Nodup) : T.Nodup ∧ ∀ a ∈ T, a ∈ S0 := by
  have n1 : S.Nodup := by
    rcases h0 with e | ⟨Z, e⟩
    · rw [← e]; exact n
    · rw [e] at n; exact (List.nodup_append.mp n).2.1
  refine ⟨?_, fun a m => ?_⟩
  · rw [h] at n1; exact (List.nodup_append.mp (List.nodup_append.mp n1).1).2.1
  · have z : a ∈ S := by rw [h]; simp [m]
    rcases h0 with e | ⟨Z, e⟩
    · rw [e]; exact z
    · rw [e]; exact List.mem_append_right _ z
theorem strAt_ok {z : Str} {c : Nat} {i : Int} (h : strOk z = true) (e : atI z.cps.toList i = some c) : strOk ⟨#[c]⟩ = true := by
  have h1 : z.cps.all (· < 0x110000) = true := h
  rw [Array.all_eq_true'] at h1
  obtain ⟨j, _, hj, _⟩ := atI_get e
  have m : c ∈ z.cps := by
    have := List.mem_of_getElem? hj
    simpa using this
  have h2 := h1 c m
  show (#[c] : Array Nat).all (· < 0x110000) = true
  simpa using h2
def wIx (wa wb : W0) : W0 := fun ρ P E => wa ρ (fun x => wb ρ (fun y => gIx x y P) E) E
theorem g_ix (hu : X.A.units + 1 < cLine) (ha : PE0 X W fr a wa) (hb : PE0 X W fb b wb) (hs : PlainIx b) : PE0 X W fr (.Subscript a b pos) (wIx wa wb) :=
  PE.imp (pe_ix (IxR.or (IxR.or ix_list (ix_dict hu)) (IxR.or ix_tup ix_str)) ha hb hs) fun σ H Q ⟨F, ρ, S, P, E, R, w, k, kx⟩ => ⟨F, ρ, S, _, E, R, w, fun dx q1 x F1 H1 T1 V1 =>
    ⟨F1, ρ, S, _, E, R.post V1.post, q1, fun dy q2 y F2 H2 T2 V2 => by
      have e2 := V2.post.fh
      have pp := V1.post.trans V2.post
      have rx := V1.rep.mono V2.post.f V2.post.h
      unfold gIx at q2
      split at q2
      · rename_i d hd
        have fin : ∀ {v : V} {A T B T0 : List Addr}, Rep X.K F2 H2 v d T → T0 = A ++ T ++ B → (T1 = T0 ∨ ∃ Z, T1 = Z ++ T0) → Q v H2 := fun {v A T B T0} r h1 h2 => by
          obtain ⟨n, m⟩ := sub_nd h1 h2 V1.nd
          refine k d q2 v F2 H2 T ⟨pp, r, n, fun a ma => ?_⟩
          obtain ⟨o, ho, nt, _⟩ := V1.rep.dom a (m a ma)
          exact ⟨V2.post.new a o (V1.own a (m a ma)).1 ho nt, (V1.own a (m a ma)).2⟩
        unfold ixD at hd
        split at hd
        · cases V2.rep
          obtain ⟨p, vs, A0, T0, rfl, h1, r1, h2⟩ := Rep.seqL (ds := _) e2 rfl rx
          obtain ⟨v, A, T, B, h3, h4, h5⟩ := atI_rep r1 hd
          exact .inl (.inl ⟨p, vs, _, v, rfl, rfl, h1, h3, fin h4 h5 (.inr ⟨A0, h2⟩)⟩)
        · cases V2.rep
          obtain ⟨p, vs, A0, T0, rfl, h1, r1, h2⟩ := Rep.seqL (ds := _) e2 rfl rx
          obtain ⟨v, A, T, B, h3, h4, h5⟩ := atI_rep r1 hd
          exact .inl (.inl ⟨p, vs, _, v, rfl, rfl, h1, h3, fin h4 h5 (.inr ⟨A0, h2⟩)⟩)
        · cases V2.rep
          obtain ⟨p, vs, rfl, _, h1, r1⟩ := rx.tupH e2
          obtain ⟨v, A, T, B, h3, h4, h5⟩ := atI_rep r1 hd
          exact .inr (.inl ⟨p, vs, _, v, rfl, rfl, .of h1, h3, fin h4 h5 (.inl rfl)⟩)
        · rename_i z i
          cases V2.rep
          cases rx with
          | str z hz =>
            by_cases hl : z.length ≤ sizeLine
            · rw [if_pos hl] at hd
              unfold strAt at hd
              cases e : atI z.cps.toList i with
              | none => rw [e] at hd; cases hd
              | some c =>
                rw [e] at hd
                cases hd
                exact .inr (.inr ⟨z, i, c, rfl, rfl, hl, e, k _ q2 _ F2 H2 [] ⟨pp, .str _ (strAt_ok hz e), List.nodup_nil, fun a m => nomatch m⟩⟩)
            · rw [if_neg hl] at hd; cases hd
        · have hk := rx.dicKey hd
          obtain ⟨p, rfl, z⟩ := rx.dget e2 V2.rep hk
          rw [hd] at z
          obtain ⟨v, A, T, B, h1, h2, h3⟩ := z
          exact .inl (.inr ⟨p, v, rfl, h1, fin h2 h3 (.inl rfl)⟩)
        · cases hd
      · exact q2.elim,
      fun x h cls dd F2 H2 p2 => kx x h cls dd F2 H2 (V1.post.trans p2)⟩, kx⟩

/-! ### in -/
def rDIn (neg : Bool) : R2 := fun x y H Q => ∃ p o, y = .ref p ∧ DGet H p x o ∧ Q (.bl (if neg then !o.isSome else o.isSome)) H
theorem op_din (hu : X.A.units + 1 < cLine) : OpR X (compareOp .In) (rDIn false) := by
  intro pins s σ H x y v u Q I rx ry h
  obtain ⟨p, o, rfl, g, q⟩ := h
  cases ry
  exact d_in hu I g rx fun s3 I3 => ⟨.bl _, H, I3, rfl, q⟩
theorem op_dnotin (hu : X.A.units + 1 < cLine) : OpR X (compareOp .NotIn) (rDIn true) := by
  intro pins s σ H x y v u Q I rx ry h
  obtain ⟨p, o, rfl, g, q⟩ := h
  cases ry
  exact d_notIn hu I g rx fun s3 I3 => ⟨.bl _, H, I3, rfl, q⟩
/-- all texts -/
def strsD : List D → Option (List Str)
  | [] => some []
  | .str x :: r => (strsD r).map (x :: ·)
  | _ :: _ => none
def oneOf : Str → Option Nat
  | ⟨⟨[c]⟩⟩ => some c
  | _ => none
def gIn (neg : Bool) : D → D → (D → Prop) → Prop
  | x, .dic _ t ks vs, P => keyOk t x = true ∧ P (.bl (if neg then !(dlook ks vs x).isSome else (dlook ks vs x).isSome))
  | x, .lst _ ys, P => cmpD 60 x = true ∧ cmpsD 59 ys = true ∧ P (.bl (if neg then !ys.any (fun z => eqvD z x) else ys.any (fun z => eqvD z x)))
  | x, .con ys, P => cmpD 60 x = true ∧ cmpsD 59 ys = true ∧ P (.bl (if neg then !ys.any (fun z => eqvD z x) else ys.any (fun z => eqvD z x)))
  | .str x, .tup ys, P => match strsD ys with
    | some zs => P (.bl (if neg then !zs.any (fun z => z == x) else zs.any (fun z => z == x)))
    | none => False
  | .str x, .str z, P => match oneOf x with
    | some c => P (.bl (if neg then !decide (c ∈ z.cps.toList) else decide (c ∈ z.cps.toList)))
    | none => False
  | _, _, _ => False
theorem any_toP {n m : Nat} {x : D} (hx : cmpD n x = true) : ∀ {ys : List D}, cmpsD m ys = true → (toPs ys).any (fun z => PyData.eqv z (toP x)) = ys.any (fun z => eqvD z x)
  | [], _ => rfl
  | y :: ys, h => by
    have h' : (cmpD m y && cmpsD m ys) = true := by cases m <;> exact h
    show (PyData.eqv (toP y) (toP x) || (toPs ys).any (fun z => PyData.eqv z (toP x))) = (eqvD y x || ys.any (fun z => eqvD z x))
    rw [eqv_toP y x (ba h').1 hx, any_toP hx (ba h').2]
theorem strs_rep {K : PySem.W.Frag} {F H : Hp} : ∀ {vs : List V} {ds : List D} {S : List Addr} {zs : List Str}, Reps K F H vs ds S → strsD ds = some zs → vs = zs.map V.str
  | _, _, _, _, .nil, h => by cases h; rfl
  | _, _, _, _, .cons v d vs ds S T r rs, h => by
    cases r with
    | str x hx =>
      have h' : (strsD ds).map (x :: ·) = some _ := h
      cases e : strsD ds with
      | none => rw [e] at h'; cases h'
      | some zs' =>
        rw [e] at h'
        cases h'
        rw [strs_rep rs e]
        rfl
    | _ => cases h
theorem strs_flat (zs : List Str) : (zs.map V.str).all flatV = true := by
  induction zs with
  | nil => rfl
  | cons z r ih => show (true && (r.map V.str).all flatV) = true; rw [ih]; rfl
theorem strs_in (x : Str) (zs : List Str) : inV (.str x) (zs.map V.str) = zs.any (fun z => z == x) := by
  induction zs with
  | nil => rfl
  | cons z r ih =>
    show ((z == x) || inV (.str x) (r.map V.str)) = _
    rw [ih]; rfl
theorem oneOf_eq {x : Str} {c : Nat} (h : oneOf x = some c) : x = ⟨#[c]⟩ := by
  unfold oneOf at h
  split at h
  · cases h; rfl
  · cases h
theorem in_list {K : PySem.W.Frag} {F H : Hp} {x y : V} {dx dy : D} {ys : List D} {Sx Sy : List Addr} (e : Same F H) (rx : Rep K F H x dx Sx) (ry : Rep K F H y dy Sy) (hl : lstD dy = some ys) (h1 : cmpD 60 dx = true) (h2 : cmpsD 59 ys = true) :
    Dp K H x (toP dx) ∧ Dp K H y (.list (toPs ys)) ∧ SeqAt.shaped (toP dx) = true ∧ SeqAt.shaped (.list (toPs ys)) = true ∧ (toPs ys).any (fun z => PyData.eqv z (toP dx)) = ys.any (fun z => eqvD z dx) := by
  obtain ⟨a1, a2, a3⟩ := rx.dp e h1
  have ec : cmpD 60 dy = true := by cases dy <;> first | (cases hl; exact h2) | cases hl
  have et : toP dy = .list (toPs ys) := by cases dy <;> first | (cases hl; rfl) | cases hl
  obtain ⟨b1, b2, b3⟩ := ry.dp e ec
  rw [et] at b1 b2 b3
  exact ⟨a1, b1, shaped_of a2 a3, shaped_of b2 b3, any_toP h1 h2⟩
theorem od_in (hu : X.A.units + 66 < cLine) : OpD X (compareOp .In) (gIn false) := by
  refine ⟨_, OpR.or (OpR.or (op_din (by omega)) (op_inD (by omega))) (OpR.or op_in_seq op_in_sign), fun F H x y dx dy Sx Sy P Q e rx ry g k => ?_⟩
  unfold gIn at g
  split at g
  · obtain ⟨p, rfl, z⟩ := ry.dget e rx g.1
    have fin := k _ g.2 _ F H [] (V0.flat e (.bl _))
    split at z
    · rename_i d hd
      obtain ⟨v, _, _, _, h1, _⟩ := z
      refine .inl (.inl ⟨p, some v, rfl, h1, ?_⟩)
      rw [hd] at fin
      exact fin
    · rename_i hd
      refine .inl (.inl ⟨p, none, rfl, z, ?_⟩)
      rw [hd] at fin
      exact fin
  · obtain ⟨a1, a2, a3, a4, a5⟩ := in_list e rx ry rfl g.1 g.2.1
    exact .inl (.inr ⟨_, _, a1, a2, a3, a4, by rw [a5]; exact k _ g.2.2 _ F H [] (V0.flat e (.bl _))⟩)
  · obtain ⟨a1, a2, a3, a4, a5⟩ := in_list e rx ry rfl g.1 g.2.1
    exact .inl (.inr ⟨_, _, a1, a2, a3, a4, by rw [a5]; exact k _ g.2.2 _ F H [] (V0.flat e (.bl _))⟩)
  · cases rx
    split at g
    · rename_i zs hz
      obtain ⟨p, vs, rfl, _, h1, r1⟩ := ry.tupH e
      have ev := strs_rep r1 hz
      subst ev
      exact .inr (.inl ⟨p, _, rfl, .inr (.of h1), rfl, strs_flat zs, by rw [strs_in]; exact k _ g _ F H [] (V0.flat e (.bl _))⟩)
    · exact g.elim
  · cases rx
    cases ry
    split at g
    · rename_i c hc
      have ec := oneOf_eq hc
      subst ec
      exact .inr (.inr ⟨c, _, rfl, rfl, k _ g _ F H [] (V0.flat e (.bl _))⟩)
    · exact g.elim
  · exact g.elim
theorem od_notin (hu : X.A.units + 66 < cLine) : OpD X (compareOp .NotIn) (gIn true) := by
  refine ⟨_, OpR.or (OpR.or (op_dnotin (by omega)) (op_notInD (by omega))) (OpR.or op_notIn_seq op_notIn_sign), fun F H x y dx dy Sx Sy P Q e rx ry g k => ?_⟩
  unfold gIn at g
  split at g
  · obtain ⟨p, rfl, z⟩ := ry.dget e rx g.1
    have fin := k _ g.2 _ F H [] (V0.flat e (.bl _))
    split at z
    · rename_i d hd
      obtain ⟨v, _, _, _, h1, _⟩ := z
      refine .inl (.inl ⟨p, some v, rfl, h1, ?_⟩)
      rw [hd] at fin
      exact fin
    · rename_i hd
      refine .inl (.inl ⟨p, none, rfl, z, ?_⟩)
      rw [hd] at fin
      exact fin
  · obtain ⟨a1, a2, a3, a4, a5⟩ := in_list e rx ry rfl g.1 g.2.1
    exact .inl (.inr ⟨_, _, a1, a2, a3, a4, by rw [a5]; exact k _ g.2.2 _ F H [] (V0.flat e (.bl _))⟩)
  · obtain ⟨a1, a2, a3, a4, a5⟩ := in_list e rx ry rfl g.1 g.2.1
    exact .inl (.inr ⟨_, _, a1, a2, a3, a4, by rw [a5]; exact k _ g.2.2 _ F H [] (V0.flat e (.bl _))⟩)
  · cases rx
    split at g
    · rename_i zs hz
      obtain ⟨p, vs, rfl, _, h1, r1⟩ := ry.tupH e
      have ev := strs_rep r1 hz
      subst ev
      exact .inr (.inl ⟨p, _, rfl, .inr (.of h1), rfl, strs_flat zs, by rw [strs_in]; exact k _ g _ F H [] (V0.flat e (.bl _))⟩)
    · exact g.elim
  · cases rx
    cases ry
    split at g
    · rename_i c hc
      have ec := oneOf_eq hc
      subst ec
      exact .inr (.inr ⟨c, _, rfl, rfl, k _ g _ F H [] (V0.flat e (.bl _))⟩)
    · exact g.elim
  · exact g.elim
end
end DL

namespace DL
open PySem PySem.Spec PyProof.Rows L2

/-! ### statements -/
structure Outs where
  nx : Ev → Prop
  rt : D → Ev → Prop
  bk : Ev → Prop
  ct : Ev → Prop
  ex : Ex → Ev → Prop
abbrev WS := Ev → Outs → Prop
abbrev W1 := Ev → (D → Ev → Prop) → (Ex → Ev → Prop) → Prop
/-- behind what may change S alone; S' is owned then -/
structure PostS (F H : Hp) (S : List Addr) (F' H' : Hp) (S' : List Addr) : Prop where
  f : Same F F'
  fr : ∀ a o, H a = some o → a ∉ S → H' a = some o
  own : ∀ a ∈ S', a ∈ S ∨ H a = none
  new : ∀ a o, F a = none → H a = some o → NT o → a ∉ S → F' a = none
theorem PostS.refl {F H : Hp} {S : List Addr} : PostS F H S F H S := ⟨Same.refl _, fun _ _ h _ => h, fun _ m => .inl m, fun _ _ h _ _ _ => h⟩
theorem Post0.s {F H F' H' : Hp} {S : List Addr} (p : Post0 F H F' H') : PostS F H S F' H' S := ⟨p.f, fun a o h _ => p.h a o h, fun _ m => .inl m, fun a o h1 h2 h3 _ => p.new a o h1 h2 h3⟩
theorem PostS.trans {F H F1 H1 F2 H2 : Hp} {S S1 S2 : List Addr} (a : PostS F H S F1 H1 S1) (b : PostS F1 H1 S1 F2 H2 S2) : PostS F H S F2 H2 S2 := by
  have out : ∀ x o, H x = some o → x ∉ S → x ∉ S1 := fun x o h n m => (a.own x m).elim n fun z => by rw [h] at z; cases z
  refine ⟨a.f.trans b.f, fun x o h n => b.fr x o (a.fr x o h n) (out x o h n), fun x m => ?_, fun x o h1 h2 h3 n => b.new x o (a.new x o h1 h2 h3 n) (a.fr x o h2 n) h3 (out x o h2 n)⟩
  rcases b.own x m with z | z
  · exact a.own x z
  · by_cases hx : x ∈ S
    · exact .inl hx
    · refine .inr ?_
      cases e : H x with
      | none => rfl
      | some o => rw [a.fr x o e hx] at z; cases z
theorem PostS.sub {F H F' H' : Hp} {S S' S'' : List Addr} (a : PostS F H S F' H' S') (h : ∀ x ∈ S'', x ∈ S') : PostS F H S F' H' S'' := ⟨a.f, a.fr, fun x m => a.own x (h x m), a.new⟩
/-- v stands for d beside what is owned already -/
structure RepT (K : PySem.W.Frag) (F H : Hp) (S : List Addr) (v : V) (d : D) (T : List Addr) : Prop where
  rep : Rep K F H v d T
  nd : T.Nodup
  own : ∀ a ∈ T, F a = none ∧ a ∉ S
def lift1 (X : Cx) (W : WX) (w : W1) : TE := fun σ H Q => ∃ F ρ S P E, Rel X.K F ρ σ H S ∧ w ρ P E ∧
  (∀ d ρ', P d ρ' → ∀ v F' H' S' T, PostS F H S F' H' (S' ++ T) → Rel X.K F' ρ' σ H' S' → RepT X.K F' H' S' v d T → Q v H') ∧
  (∀ x ρ', E x ρ' → ∀ cls dd F' H' S', PostS F H S F' H' S' → Rel X.K F' ρ' σ H' S' → ExR X.K H' x cls dd → W cls dd σ H')
abbrev PE1 (X : Cx) (W : WX) (e : Expr) (w : W1) : Prop := PE X e (lift1 X W w)
structure GoodO (K : PySem.W.Frag) (W : WX) (F H : Hp) (S : List Addr) (O : Outs) (D : Ends) : Prop where
  nx : ∀ ρ', O.nx ρ' → ∀ σ' F' H' S', PostS F H S F' H' S' → Rel K F' ρ' σ' H' S' → D.nx σ' H'
  rt : ∀ d ρ', O.rt d ρ' → ∀ v σ' F' H' S' T, PostS F H S F' H' (S' ++ T) → Rel K F' ρ' σ' H' S' → RepT K F' H' S' v d T → D.rt v H'
  bk : ∀ ρ', O.bk ρ' → ∀ σ' F' H' S', PostS F H S F' H' S' → Rel K F' ρ' σ' H' S' → D.bk σ' H'
  ct : ∀ ρ', O.ct ρ' → ∀ σ' F' H' S', PostS F H S F' H' S' → Rel K F' ρ' σ' H' S' → D.ct σ' H'
  ex : ∀ x ρ', O.ex x ρ' → ∀ cls dd σ' F' H' S', PostS F H S F' H' S' → Rel K F' ρ' σ' H' S' → ExR K H' x cls dd → W cls dd σ' H'
theorem GoodO.post {K : PySem.W.Frag} {W : WX} {F H F1 H1 : Hp} {S S1 : List Addr} {O : Outs} {D : Ends} (g : GoodO K W F H S O D) (p : PostS F H S F1 H1 S1) : GoodO K W F1 H1 S1 O D :=
  ⟨fun ρ h σ F' H' S' q => g.nx ρ h σ F' H' S' (p.trans q), fun d ρ h v σ F' H' S' T q => g.rt d ρ h v σ F' H' S' T (p.trans q), fun ρ h σ F' H' S' q => g.bk ρ h σ F' H' S' (p.trans q),
    fun ρ h σ F' H' S' q => g.ct ρ h σ F' H' S' (p.trans q), fun x ρ h cls dd σ F' H' S' q => g.ex x ρ h cls dd σ F' H' S' (p.trans q)⟩
def liftS (X : Cx) (W : WX) (w : WS) : TS := fun D σ H => ∃ F ρ S O, Rel X.K F ρ σ H S ∧ w ρ O ∧ GoodO X.K W F H S O D
abbrev PS0 (X : Cx) (W : WX) (st : Stmt) (w : WS) : Prop := PS X st (liftS X W w)
abbrev PSs0 (X : Cx) (W : WX) (st : List Stmt) (w : WS) : Prop := PSs X st (liftS X W w)

section
variable {X : Cx} {W : WX} {fr fa fb fc : Bool} {a b c e : Expr} {es : List Expr} {w0 : W0} {w1 : W1} {ta : WT0} {st : Stmt} {sts : List Stmt} {wa wb wc w : WS} {pos pos' : Pos}
def wUp (w : W0) : W1 := fun ρ P E => w ρ (fun d => P d ρ) (fun x => E x ρ)
/-- what changes nothing -/
theorem e_0 (h : PE0 X W true e w0) : PE1 X W e (wUp w0) := PE.imp h fun σ H Q ⟨F, ρ, S, P, E, R, w, k, kx⟩ =>
  ⟨F, ρ, S, _, _, R, w, fun d q v F' H' T V => by
    have nm : ∀ a ∈ T, a ∉ S := fun a m z => by
      obtain ⟨o, ho⟩ := R.dom a z
      rcases (V.own a m).2 with n | ⟨n, _⟩
      · rw [ho] at n; cases n
      · cases n
    exact k d ρ q v F' H' S T ⟨V.post.f, fun a o h _ => V.post.h a o h, fun a m => (List.mem_append.mp m).elim .inl fun m => .inr ((V.own a m).2.elim id fun z => Bool.noConfusion z.1), fun a o h1 h2 h3 _ => V.post.new a o h1 h2 h3⟩ (R.post V.post)
      ⟨V.rep, V.nd, fun a m => ⟨(V.own a m).1, nm a m⟩⟩, fun x q cls dd F' H' p ex => kx x ρ q cls dd F' H' S p.s (R.post p) ex⟩
/-- the name's value, taken out of the name -/
def wMv (i : Nat) : W1 := fun ρ P _ => match ρ[i]? with
  | some (some d) => P d (ρ.set i none)
  | _ => False
theorem e_mv {i : Nat} {x : Str} (h : PE X (.Name x pos) (tVar i)) : PE1 X W (.Name x pos) (wMv i) := PE.imp h fun σ H Q ⟨F, ρ, S, P, E, R, w, k, kx⟩ => by
  unfold wMv at w
  split at w
  · rename_i d e
    obtain ⟨A, T, B, h1, h2, h3⟩ := R.sl.drop i
    obtain ⟨v, h4, h5⟩ := h2 d e
    have nd := R.nd
    rw [h1] at nd
    have n1 := List.nodup_append.mp nd
    have n2 := List.nodup_append.mp n1.1
    have dis : ∀ a ∈ T, a ∉ A ++ B := fun a m z => by
      rcases List.mem_append.mp z with z | z
      · exact n2.2.2 a z a m rfl
      · exact n1.2.2 a (List.mem_append_right _ m) a z rfl
    have nAB : (A ++ B).Nodup := List.nodup_append.mpr ⟨n2.1, n1.2.1, fun x hx y hy => n1.2.2 x (List.mem_append_left _ hx) y hy⟩
    refine ⟨v, h4, k d _ w v F H (A ++ B) T (PostS.refl.sub fun x m => ?_) ⟨R.same, fun a m => R.fr a ?_, nAB, h3⟩ ⟨h5, n2.2.1, fun a m => ⟨R.fr a (by rw [h1]; simp [m]), dis a m⟩⟩⟩
    · rw [h1]
      simp only [List.mem_append] at m ⊢
      rcases m with (m | m) | m <;> simp [m]
    · rw [h1]
      simp only [List.mem_append] at m ⊢
      rcases m with m | m <;> simp [m]
  · exact w.elim

/-! ### blocks -/
def sNil : WS := fun ρ O => O.nx ρ
def sSeq (wa wb : WS) : WS := fun ρ O => wa ρ { O with nx := fun ρ' => wb ρ' O }
theorem b_nil : PSs0 X W [] sNil := PSs.imp pss_nil fun D σ H ⟨F, ρ, S, O, R, w, g⟩ => g.nx ρ w σ F H S PostS.refl R
theorem b_cons (h1 : PS0 X W st wa) (h2 : PSs0 X W sts wb) : PSs0 X W (st :: sts) (sSeq wa wb) := PSs.imp (pss_cons h1 h2) fun D σ H ⟨F, ρ, S, O, R, w, g⟩ =>
  ⟨F, ρ, S, _, R, w, fun ρ' h σ' F' H' S' p R' => ⟨F', ρ', S', O, R', h, g.post p⟩, g.rt, g.bk, g.ct, g.ex⟩
theorem b_one (h : PS0 X W st w) : PSs0 X W [st] w := pss_one h
theorem s_pass : PS0 X W (.Pass pos) sNil := PS.imp ps_pass fun D σ H ⟨F, ρ, S, O, R, w, g⟩ => g.nx ρ w σ F H S PostS.refl R
def sBrk : WS := fun ρ O => O.bk ρ
def sCt : WS := fun ρ O => O.ct ρ
theorem s_brk : PS0 X W (.Break pos) sBrk := PS.imp ps_break fun D σ H ⟨F, ρ, S, O, R, w, g⟩ => g.bk ρ w σ F H S PostS.refl R
theorem s_ct : PS0 X W (.Continue pos) sCt := PS.imp ps_continue fun D σ H ⟨F, ρ, S, O, R, w, g⟩ => g.ct ρ w σ F H S PostS.refl R
def sDrop (w : W1) : WS := fun ρ O => w ρ (fun _ ρ' => O.nx ρ') O.ex
theorem relSub {K : PySem.W.Frag} {F H : Hp} {S T : List Addr} : ∀ x ∈ S, x ∈ S ++ T := fun x m => List.mem_append_left _ m
theorem s_expr (h : PE1 X W e w1) (hs : swapsWith e none pos.line X.env = pure false := by rfl) : PS0 X W (.Expr e pos) (sDrop w1) := PS.imp (ps_expr h hs) fun D σ H ⟨F, ρ, S, O, R, w, g⟩ =>
  ⟨F, ρ, S, _, _, R, w, fun d ρ' q v F' H' S' T p R' _ => g.nx ρ' q σ F' H' S' (p.sub fun x m => List.mem_append_left _ m) R', fun x ρ' q cls dd F' H' S' p R' ex => g.ex x ρ' q cls dd σ F' H' S' p R' ex⟩
def sRet (w : W1) : WS := fun ρ O => w ρ O.rt O.ex
theorem s_ret (h : PE1 X W e w1) : PS0 X W (.Return (some e) pos) (sRet w1) := PS.imp (ps_ret h) fun D σ H ⟨F, ρ, S, O, R, w, g⟩ =>
  ⟨F, ρ, S, _, _, R, w, fun d ρ' q v F' H' S' T p R' r => g.rt d ρ' q v σ F' H' S' T p R' r, fun x ρ' q cls dd F' H' S' p R' ex => g.ex x ρ' q cls dd σ F' H' S' p R' ex⟩
def sRetN : WS := fun ρ O => O.rt .non ρ
theorem s_retN : PS0 X W (.Return none pos) sRetN := PS.imp ps_retN fun D σ H ⟨F, ρ, S, O, R, w, g⟩ =>
  g.rt _ _ w .non σ F H S [] (by rw [List.append_nil]; exact PostS.refl) R ⟨.non, List.nodup_nil, fun a m => nomatch m⟩
def sIf (t : WT0) (wa wb : WS) : WS := fun ρ O => t ρ (fun b => match b with | true => wa ρ O | false => wb ρ O) (fun x => O.ex x ρ)
theorem s_if {sa sb : List Stmt} (hc : PT0 X W c ta) (ha : PSs0 X W sa wa) (hb : PSs0 X W sb wb) : PS0 X W (.If c sa sb pos) (sIf ta wa wb) := PS.imp (ps_if hc ha hb) fun D σ H ⟨F, ρ, S, O, R, w, g⟩ =>
  ⟨F, ρ, S, _, _, R, w, fun b q F1 H1 p => by
    cases b with
    | true => exact iteT ⟨F1, ρ, S, O, R.post p, q, g.post p.s⟩
    | false => exact iteF ⟨F1, ρ, S, O, R.post p, q, g.post p.s⟩, fun x q cls dd F1 H1 p ex => g.ex x ρ q cls dd σ F1 H1 S p.s (R.post p) ex⟩

/-! ### targets -/
/-- a name is stored: what it held is let go -/
theorem Rel.set {K : PySem.W.Frag} {F H : Hp} {ρ : Ev} {σ : L2.St} {S T : List Addr} {v : V} {d : D} (i : Nat) (R : Rel K F ρ σ H S) (r : RepT K F H S v d T) :
    ∃ S', Rel K F (ρ.set i (some d)) (σ.set i (some v)) H S' ∧ ∀ a ∈ S', a ∈ S ++ T := by
  by_cases hi : i < ρ.length
  · obtain ⟨A, U, B, h1, h2⟩ := R.sl.put i hi
    have z := h2 F H v d T (Same.refl _) (fun _ _ _ h => h) r.rep
    have nd := R.nd
    rw [h1] at nd
    have n1 := List.nodup_append.mp nd
    have n2 := List.nodup_append.mp n1.1
    have inS : ∀ a, a ∈ A ∨ a ∈ B → a ∈ S := fun a m => by rw [h1]; rcases m with m | m <;> simp [m]
    refine ⟨A ++ T ++ B, ⟨R.same, fun a m => ?_, ?_, z⟩, fun a m => ?_⟩
    · simp only [List.mem_append] at m
      rcases m with (m | m) | m
      · exact R.fr a (inS a (.inl m))
      · exact (r.own a m).1
      · exact R.fr a (inS a (.inr m))
    · refine List.nodup_append.mpr ⟨List.nodup_append.mpr ⟨n2.1, r.nd, fun x hx y hy e => ?_⟩, n1.2.1, fun x hx y hy e => ?_⟩
      · subst e; exact (r.own x hy).2 (inS x (.inl hx))
      · subst e
        rcases List.mem_append.mp hx with hx | hx
        · exact n1.2.2 x (List.mem_append_left _ hx) x hy rfl
        · exact (r.own x hx).2 (inS x (.inr hy))
    · simp only [List.mem_append] at m ⊢
      rcases m with (m | m) | m
      · exact .inl (inS a (.inl m))
      · exact .inr m
      · exact .inl (inS a (.inr m))
  · have e1 : ρ.set i (some d) = ρ := List.set_eq_of_length_le (by omega)
    have e2 : σ.set i (some v) = σ := List.set_eq_of_length_le (by rw [R.sl.len]; omega)
    exact ⟨S, by rw [e1, e2]; exact R, fun a m => List.mem_append_left _ m⟩
/-- a target: a name, a tuple of names -/
inductive Tgt where
  | nm (i : Nat)
  | tp (is : List Nat)
def bindsT : List Nat → List D → Ev → Option Ev
  | [], [], ρ => some ρ
  | i :: is, d :: ds, ρ => bindsT is ds (ρ.set i (some d))
  | _, _, _ => none
def bindT : Tgt → D → Ev → Option Ev
  | .nm i, d, ρ => some (ρ.set i (some d))
  | .tp is, .tup ds, ρ => bindsT is ds ρ
  | _, _, _ => none
def gsOf : List Nat → TGs
  | [] => gNil
  | i :: r => gCons (gName i) (gsOf r)
def tgOf (K : PySem.W.Frag) : Tgt → TG
  | .nm i => gName i
  | .tp is => gTup K is.length (gsOf is)
theorem bindsT_len : ∀ {is : List Nat} {ds : List D} {ρ ρ' : Ev}, bindsT is ds ρ = some ρ' → is.length = ds.length
  | [], [], _, _, _ => rfl
  | _ :: is, _ :: ds, ρ, ρ', h => by rw [List.length_cons, List.length_cons, bindsT_len (is := is) (ds := ds) h]
  | [], _ :: _, _, _, h => by cases h
  | _ :: _, [], _, _, h => by cases h
theorem gsOf_ok {K : PySem.W.Frag} {F H : Hp} {Q : L2.St → Hp → Prop} : ∀ {is : List Nat} {ds : List D} {vs : List V} {ρ ρ' : Ev} {σ : L2.St} {S T S0 : List Addr}, Rel K F ρ σ H S → Reps K F H vs ds T → T.Nodup → (∀ a ∈ T, F a = none ∧ a ∉ S) → (∀ a ∈ S ++ T, a ∈ S0) →
    bindsT is ds ρ = some ρ' → (∀ σ' S', Rel K F ρ' σ' H S' → (∀ a ∈ S', a ∈ S0) → Q σ' H) → gsOf is vs σ H Q
  | [], [], vs, ρ, ρ', σ, S, T, S0, R, rr, _, _, hs, h, k => by
    cases h
    cases rr
    exact ⟨rfl, k σ S R fun a m => hs a (List.mem_append_left _ m)⟩
  | i :: is, d :: ds, vs, ρ, ρ', σ, S, T, S0, R, rr, nd, own, hs, h, k => by
    cases rr with
    | cons v d' vs ds' T1 T2 r rs =>
      have n := List.nodup_append.mp nd
      obtain ⟨S', R', hS⟩ := R.set i (⟨r, n.1, fun a m => own a (List.mem_append_left _ m)⟩ : RepT K F H S v d T1)
      refine ⟨v, vs, rfl, gsOf_ok R' rs n.2.1 (fun a m => ⟨(own a (List.mem_append_right _ m)).1, fun z => ?_⟩) (fun a m => hs a ?_) h k⟩
      · rcases List.mem_append.mp (hS a z) with z | z
        · exact (own a (List.mem_append_right _ m)).2 z
        · exact n.2.2 a z a m rfl
      · rcases List.mem_append.mp m with m | m
        · rcases List.mem_append.mp (hS a m) with m | m <;> simp [m]
        · simp [m]
  | [], _ :: _, _, _, _, _, _, _, _, _, _, _, _, _, h, _ => by cases h
  | _ :: _, [], _, _, _, _, _, _, _, _, _, _, _, _, h, _ => by cases h
theorem tgOf_ok {K : PySem.W.Frag} {F H : Hp} {Q : L2.St → Hp → Prop} {tg : Tgt} {d : D} {v : V} {ρ ρ' : Ev} {σ : L2.St} {S T : List Addr} (R : Rel K F ρ σ H S) (r : RepT K F H S v d T) (h : bindT tg d ρ = some ρ')
    (k : ∀ σ' S', Rel K F ρ' σ' H S' → (∀ a ∈ S', a ∈ S ++ T) → Q σ' H) : tgOf K tg v σ H Q := by
  cases tg with
  | nm i =>
    cases h
    obtain ⟨S', R', hS⟩ := R.set i r
    exact k _ S' R' hS
  | tp is =>
    cases d with
    | tup ds =>
      obtain ⟨p, vs, rfl, _, h1, r1⟩ := r.rep.tupH R.same
      exact ⟨p, vs, rfl, .of h1, by rw [r1.len, bindsT_len (show bindsT is ds ρ = some ρ' from h)], gsOf_ok R r1 r.nd r.own (fun a m => m) h k⟩
    | _ => cases h
def sAsg (tg : Tgt) (w : W1) : WS := fun ρ O => w ρ (fun d ρ' => match bindT tg d ρ' with | some ρ2 => O.nx ρ2 | none => False) O.ex
theorem asg_ok {tg : Tgt} : ∀ D σ H, liftS X W (sAsg tg w1) D σ H → tAsg (lift1 X W w1) (tgOf X.K tg) D σ H := fun D σ H ⟨F, ρ, S, O, R, w, g⟩ =>
  ⟨F, ρ, S, _, _, R, w, fun d ρ' q v F' H' S' T p R' r => by
    split at q
    · rename_i ρ2 e
      exact tgOf_ok R' r e fun σ' S2 R2 h2 => g.nx ρ2 q σ' F' H' S2 (p.sub h2) R2
    · exact q.elim, fun x ρ' q cls dd F' H' S' p R' ex => g.ex x ρ' q cls dd σ F' H' S' p R' ex⟩
/-- x = e -/
theorem s_set {i : Nat} {x : Str} (h : PE1 X W e w1) (hN : X.N.Nodup) (hi : X.N[i]? = some x) (hx : Loc X.env.scope x) (hs : swapsWith e (some (.Name x pos')) pos.line X.env = pure false := by rfl) (hf : X.fn x = true ∨ X.env.scope.names.lookup x = some .local := by first | exact .inl rfl | exact .inr rfl | assumption) :
    PS0 X W (.Assign [.Name x pos'] e pos) (sAsg (.nm i) w1) := PS.imp (ps_set hN hi hx h hs hf) (asg_ok (tg := .nm i))
/-- x, y = e -/
theorem s_asg {tg : Tgt} {t : Expr} (h : PE1 X W e w1) (hg : PG X t (tgOf X.K tg)) (hs : swapsWithSole [t] e pos.line X.env = pure false := by rfl) (hw : swappedStores [t] e X.env = pure none := by rfl)
    (h1 : (assignEach [t] X.env).map (·.2) = [assign t X.env] := by rfl) : PS0 X W (.Assign [t] e pos) (sAsg tg w1) := PS.imp (ps_asg h hg hs hw h1) (asg_ok (tg := tg))
/-- x += e, ints -/
def sAug (i : Nat) (f : Int → Int → Int) (w : W0) : WS := fun ρ O => match ρ[i]? with
  | some (some (.int a)) => w ρ (fun d => match d with | .int b => O.nx (ρ.set i (some (.int (f a b)))) | _ => False) (fun x => O.ex x ρ)
  | _ => False
theorem s_aug {i : Nat} {x : Str} {op : Operator} {f : Int → Int → Int} (h : PE0 X W fr e w0) (ho : PIp X op (ipI f)) (hN : X.N.Nodup) (hi : X.N[i]? = some x) (hx : Loc X.env.scope x) (hf : X.fn x = true ∨ X.env.scope.names.lookup x = some .local := by first | exact .inl rfl | exact .inr rfl | assumption) :
    PS0 X W (.AugAssign (.Name x pos') op e pos) (sAug i f w0) := PS.imp (ps_aug hN hi hx h ho hf) fun D σ H ⟨F, ρ, S, O, R, w, g⟩ => by
  unfold sAug at w
  split at w
  · rename_i a e
    obtain ⟨v, A, T, B, h1, h2, h3⟩ := R.sl.at e
    cases h2
    refine ⟨_, h1, F, ρ, S, _, _, R, w, fun d q v F1 H1 T1 V1 => ?_, fun x q cls dd F1 H1 p ex => g.ex x ρ q cls dd σ F1 H1 S p.s (R.post p) ex⟩
    cases d with
    | int b =>
      cases V1.rep
      have R1 := R.post V1.post
      obtain ⟨S', R', hS⟩ := R1.set i (⟨.int (f a b), List.nodup_nil, fun a m => nomatch m⟩ : RepT X.K F1 H1 S (.int (f a b)) (.int (f a b)) [])
      exact ⟨a, b, rfl, rfl, g.nx _ q _ F1 H1 S' (V1.post.s.sub fun x m => by simpa using hS x m) R'⟩
    | _ => exact q.elim
  · exact w.elim
end
end DL

namespace DL
open PySem PySem.Spec PyProof.Rows L2

/-! ### what a def promises: from data to data -/
abbrev SpD := List D → (D → Prop) → (Ex → Prop) → Prop
def spOf (K : PySem.W.Frag) (sp : SpD) : Sp := fun vs H Q E => ∃ F ds P Ed, Same F H ∧ Reps K F H vs ds [] ∧ isFs ds = true ∧ sp ds P Ed ∧
  (∀ d, P d → ∀ v F' H' T, V0 K F H [] true F' H' v d T → Q v H') ∧ ∀ x, Ed x → ∀ cls dd F' H', Post0 F H F' H' → ExR K H' x cls dd → E cls dd H'
abbrev FnD (P : Program) (w : World) (K : PySem.W.Frag) (mg : Str → Option Value) (base : Heap) (k : Nat) (f : Addr) (fd : FuncData) (ps : List Str) (sp : SpD) : Prop :=
  FnOk P w K mg base (L2.CX P w) k f fd ps (spOf K sp)
mutual
theorem Rep.cut {K : PySem.W.Frag} {F F' H : Hp} (e : ∀ p vs, F p = some (.tup vs) → F' p = some (.tup vs)) : ∀ {v : V} {d : D} {S : List Addr}, Rep K F H v d S → isO d = true → Rep K F' H v d S
  | _, _, _, .non, _ => .non
  | _, _, _, .bl b, _ => .bl b
  | _, _, _, .int i, _ => .int i
  | _, _, _, .str x h, _ => .str x h
  | _, _, _, .ref a, _ => .ref a
  | _, _, _, .ty n, _ => .ty n
  | _, _, _, .tup p vs ds S h r, k => .tup p vs ds S (e _ _ h) (Reps.cut e r k)
  | _, _, _, .lstF p vs ds h r, k => absurd (ba (show (false && isOs ds) = true from k)).1 Bool.false_ne_true
  | _, _, _, .con p vs ds h r, k => absurd (show false = true from k) Bool.false_ne_true
  | _, _, _, .lstO p vs ds S h r, k => .lstO p vs ds S h (Reps.cut e r (ba (show (true && isOs ds) = true from k)).2)
  | _, _, _, .dicF p t ks vs ds h r, k => absurd (ba (ba (show (false && isOs ks && isOs ds) = true from k)).1).1 Bool.false_ne_true
  | _, _, _, .dicO p t ks vs ds S h r, k => .dicO p t ks vs ds S h (Reps.cut e r (ba (show (true && isOs ks && isOs ds) = true from k)).2)
  | _, _, _, .insF p C dx ns vs ds h l r, k => absurd (ba (show (false && isOs ds) = true from k)).1 Bool.false_ne_true
  | _, _, _, .insO p C dx ns vs ds S h l r, k => .insO p C dx ns vs ds S h l (Reps.cut e r (ba (show (true && isOs ds) = true from k)).2)
theorem Reps.cut {K : PySem.W.Frag} {F F' H : Hp} (e : ∀ p vs, F p = some (.tup vs) → F' p = some (.tup vs)) : ∀ {vs : List V} {ds : List D} {S : List Addr}, Reps K F H vs ds S → isOs ds = true → Reps K F' H vs ds S
  | _, _, _, .nil, _ => .nil
  | _, _, _, .cons v d vs ds S T r rs, k => .cons v d vs ds S T (Rep.cut e r (ba (show (isO d && isOs ds) = true from k)).1) (Reps.cut e rs (ba (show (isO d && isOs ds) = true from k)).2)
end
/-- lent: F with what stands at L; and back -/
def lend (F H : Hp) (L : List Addr) : Hp := fun a => if a ∈ L then H a else F a
def unlend (F : Hp) (L : List Addr) : Hp := fun a => if a ∈ L then none else F a
theorem lend_in {F H : Hp} {L : List Addr} {a : Addr} (h : a ∈ L) : lend F H L a = H a := if_pos h
theorem lend_out {F H : Hp} {L : List Addr} {a : Addr} (h : a ∉ L) : lend F H L a = F a := if_neg h
theorem unlend_in {F : Hp} {L : List Addr} {a : Addr} (h : a ∈ L) : unlend F L a = none := if_pos h
theorem unlend_out {F : Hp} {L : List Addr} {a : Addr} (h : a ∉ L) : unlend F L a = F a := if_neg h
theorem lend_same {F H : Hp} {L : List Addr} (e : Same F H) : Same (lend F H L) H := fun a o h => by
  by_cases m : a ∈ L
  · rw [lend_in m] at h; exact h
  · rw [lend_out m] at h; exact e a o h
theorem lend_ge {F H : Hp} {L : List Addr} (n : ∀ a ∈ L, F a = none) : Same F (lend F H L) := fun a o h => by
  by_cases m : a ∈ L
  · rw [n a m] at h; cases h
  · rw [lend_out m]; exact h
theorem unlend_post {F1 H1 F2 H2 : Hp} {L : List Addr} (n : ∀ a ∈ L, F1 a = none) (p : Post0 (lend F1 H1 L) H1 F2 H2) : Post0 F1 H1 (unlend F2 L) H2 := by
  refine ⟨p.h, fun a o h => ?_, fun a o h => ?_, fun a o h1 h2 h3 => ?_⟩
  · have m : a ∉ L := fun m => by rw [n a m] at h; cases h
    rw [unlend_out m]
    exact p.f a o (by rw [lend_out m]; exact h)
  · by_cases m : a ∈ L
    · rw [unlend_in m] at h; cases h
    · rw [unlend_out m] at h; exact p.fh a o h
  · by_cases m : a ∈ L
    · exact unlend_in m
    · rw [unlend_out m]; exact p.new a o (by rw [lend_out m]; exact h1) h2 h3

section
variable {X : Cx} {W : WX} {fr fa fb fc : Bool} {a b c e : Expr} {es : List Expr} {w0 : W0} {ws : WA0} {w1 : W1} {ta : WT0} {st : Stmt} {sts : List Stmt} {wa wb wc w : WS} {pos pos' p : Pos} {k : Nat} {f : Addr} {fd : FuncData} {ps : List Str} {sp : SpD} {dvs : List V} {ds : List Value} {x : Str}
/-- a call: what is owned is lent; then what comes back must be new -/
def wCall (sp : SpD) (dds : List D) (ws : WA0) : W0 := fun ρ P E => ws ρ (fun ds => sp (frzs ds ++ dds) (fun d => (isFs ds = true ∨ isO d = true) ∧ P d) E) E
theorem call_ok {dds : List D} (hdd : ∀ F H, Reps X.K F H dvs dds []) (hfd : isFs dds = true) : ∀ σ H Q, lift0 X W true (wCall sp dds ws) σ H Q → tCallSD (spOf X.K sp) dvs (fun σ cls d H => W cls d σ H) (liftA0 X W false ws) σ H Q :=
  fun σ H Q ⟨F, ρ, S, P, E, R, w, kd, kx⟩ => ⟨F, ρ, S, _, E, R, w, fun ds q vs F1 H1 T1 V1 => by
    have n1 : ∀ a ∈ T1, F1 a = none := fun a m => (V1.own a m).1
    have r1 : Reps X.K (lend F1 H1 T1) H1 vs (frzs ds) [] := V1.rep.freeze (lend_ge n1) fun a o m h => by rw [lend_in m]; exact h
    refine ⟨lend F1 H1 T1, frzs ds ++ dds, _, E, lend_same V1.post.fh, ?_, ?_, q, fun d h v F2 H2 T2 V2 => ?_, fun x h cls dd F2 H2 p2 ex => ?_⟩
    · have z := r1.append (hdd (lend F1 H1 T1) H1)
      exact z
    · have app : ∀ xs ys : List D, isFs xs = true → isFs ys = true → isFs (xs ++ ys) = true := fun xs ys h1 h2 => by rw [isFs_all] at *; rw [List.all_append, h1, h2]; rfl
      exact app _ _ (isFs_frz ds) hfd
    · have P3 := unlend_post n1 V2.post
      have fin : Rep X.K (unlend F2 T1) H2 v d T2 → Q v H2 := fun r3 => kd d h.2 v (unlend F2 T1) H2 T2 ⟨V1.post.trans P3, r3, V2.nd, fun a m => by
        refine ⟨?_, (V2.own a m).2.elim (fun z => .inl (V1.post.h.free z)) fun z => Bool.noConfusion z.1⟩
        by_cases ml : a ∈ T1
        · exact unlend_in ml
        · rw [unlend_out ml]; exact (V2.own a m).1⟩
      rcases h.1 with hf | ho
      · have e : T1 = [] := V1.rep.noS hf
        subst e
        have e2 : unlend F2 [] = F2 := funext fun a => unlend_out (by simp)
        exact fin (by rw [e2]; exact V2.rep)
      · refine fin (V2.rep.cut (fun p vs z => ?_) ho)
        have m : p ∉ T1 := fun m => by
          obtain ⟨o, h1, h2, _⟩ := V1.rep.dom p m
          have h3 := V2.post.h p o h1
          have h4 := V2.post.fh p _ z
          rw [h3] at h4
          exact h2 vs (Option.some.inj h4)
        rw [unlend_out m]; exact z
    · exact kx x h cls dd (unlend F2 T1) H2 (V1.post.trans (unlend_post n1 p2)) ex, kx⟩
theorem g_call {dds : List D} (F : FnD X.prog X.w X.K X.mg X.base k f fd ps sp) (hr : Room k X.A) (hg : Gl X x) (hm : X.mg x = some (.ref f)) (hk : PySem.W.keepIn X.K (.ref f) = true) (hb : Binds X.K fd ps ds) (hd : Vals dvs ds) (tk : TkW X W)
    (hdd : ∀ F H, Reps X.K F H dvs dds []) (hfd : isFs dds = true) (ha : PA0 X W false (e :: es) ws) (hdb : (x == ("__debug__" : Str)) = false := by decide)
    (he : starEach (e :: es) X.env = (false, eval e X.env) :: starEach es X.env := by rfl) (hpl : (backTo pos (starEach es X.env)).any (·.1) = false := by rfl) : PE0 X W true (.Call (.Name x p) (e :: es) [] pos) (wCall sp dds ws) :=
  PE.imp (pe_callSD F hr hg hm hk hb hd tk ha hdb he hpl) (call_ok hdd hfd)
end

/-! ### a def by its body -/
section
variable {P : Program} {w : World} {K : PySem.W.Frag} {mg : Str → Option Value} {base : Heap} {x qual : Str} {params : Arguments} {body : List Stmt} {scope : Scope} {dvs : List V} {kws : List (Str × V)} {f : Addr} {fd : FuncData}
abbrev wX (E : XK) : WX := fun cls d _ H => E cls d H
def outsOf (P : D → Prop) (E : Ex → Prop) : Outs := ⟨fun _ => P .non, fun d _ => P d, fun _ => False, fun _ => False, fun x _ => E x⟩
theorem fn_pure {N ps : List Str} {k : Nat} {sp : SpD} {ws : WS} (F : FunD K x qual params body scope dvs kws f fd) (S : FnScope N ps scope) (hlen : ∀ ds P E, sp ds P E → ds.length = ps.length)
    (hb : ∀ (cdv : Value) (A : Around) (outer : List Env) (s : Shared) (H : Hp) (E : XK), Room k (A.deeper (envOfC qual scope s.heap.objs.size f cdv)) → PSs0 (cxOf (L2.CX P w) P w K mg base N qual scope f cdv A outer s H E) (wX E) body ws)
    (hw : ∀ ds P E, isFs ds = true → sp ds P E → ws (ds.map some ++ List.replicate (N.length - ds.length) none) (outsOf P E)) : FnD P w K mg base (k + 1) f fd ps sp := by
  refine F.ok S (fun vs H Q E h => ?_) fun cdv A outer s H vs Q E hr h => ?_
  · obtain ⟨F', ds, Pd, Ed, e, r, hf, hs, _⟩ := h
    rw [r.len, hlen ds Pd Ed hs]
  · obtain ⟨F', ds, Pd, Ed, e, r, hf, hs, hq, hx⟩ := h
    refine ⟨_, hb cdv A outer s H E hr, F', ds.map some ++ List.replicate (N.length - ds.length) none, [], outsOf Pd Ed, ⟨e, fun a m => (nomatch m), List.nodup_nil, ?_⟩, hw ds Pd Ed hf hs, ?_⟩
    · show Slots K F' H (vs.map some ++ List.replicate (N.length - vs.length) none) _ []
      rw [r.len]
      exact Slots.args _ r
    · refine ⟨fun ρ' q σ' F2 H2 S2 p R => ?_, fun d ρ' q v σ' F2 H2 S2 T p R rt => ?_, fun ρ' q => q.elim, fun ρ' q => q.elim, fun x ρ' q cls dd σ' F2 H2 S2 p R ex => ?_⟩
      · exact hq _ q .non F2 H2 [] ⟨⟨fun a o h => p.fr a o h (by simp), p.f, R.same, fun a o h1 h2 h3 => p.new a o h1 h2 h3 (by simp)⟩, .non, List.nodup_nil, fun a m => nomatch m⟩
      · exact hq d q v F2 H2 T ⟨⟨fun a o h => p.fr a o h (by simp), p.f, R.same, fun a o h1 h2 h3 => p.new a o h1 h2 h3 (by simp)⟩, rt.rep, rt.nd, fun a m => ⟨(rt.own a m).1, .inl ((p.own a (List.mem_append_right _ m)).elim (fun z => nomatch z) id)⟩⟩
      · exact hx x q cls dd F2 H2 ⟨fun a o h => p.fr a o h (by simp), p.f, R.same, fun a o h1 h2 h3 => p.new a o h1 h2 h3 (by simp)⟩ ex
end

/-! ### what is walked -/
def ItD (K : PySem.W.Frag) (F0 : Hp) (J : It) (ds : List D) : Prop := ∀ (n : Nat) (F H : Hp), Same F0 F → Same F H →
  (∀ d, ds[n]? = some d → J.go n H ∧ ∀ x H', J.yld n H x H' → ∃ F', Post0 F H F' H' ∧ Rep K F' H' x d []) ∧ (ds.length ≤ n → J.stop n H)
def liftI (X : Cx) (W : WX) (w : WA0) : TI := fun σ H R => ∃ F ρ S P E, Rel X.K F ρ σ H S ∧ w ρ P E ∧
  (∀ ds, P ds → ∀ J F' H', Post0 F H F' H' → ItD X.K F' J ds → R J H') ∧ (∀ x, E x → ∀ cls dd F' H', Post0 F H F' H' → ExR X.K H' x cls dd → W cls dd σ H')
abbrev PI0 (X : Cx) (W : WX) (tg iter : Expr) (w : WA0) : Prop := PI X tg iter (liftI X W w)
theorem PI.imp {X : Cx} {tg e : Expr} {t t' : TI} (h : PI X tg e t) (k : ∀ σ H Q, t' σ H Q → t σ H Q) : PI X tg e t' := ⟨fun pins s σ H Q I q => h.run pins s σ H Q I (k σ H Q q)⟩
section
variable {X : Cx} {W : WX} {fr fa fb fc : Bool} {tg a b c e : Expr} {es : List Expr} {w0 : W0} {ws : WA0} {w1 : W1} {ta : WT0} {st : Stmt} {sts : List Stmt} {wa wb wc w : WS} {pos pos' p : Pos}
/-- a new value given up: all that it owns stays as it is -/
theorem V0.froze {K : PySem.W.Frag} {F H F1 H1 : Hp} {S T : List Addr} {v : V} {d : D} (V1 : V0 K F H S true F1 H1 v d T) : Post0 F H (lend F1 H1 T) H1 ∧ Rep K (lend F1 H1 T) H1 v (frz d) [] := by
  have n1 : ∀ a ∈ T, F1 a = none := fun a m => (V1.own a m).1
  refine ⟨⟨V1.post.h, V1.post.f.trans (lend_ge n1), lend_same V1.post.fh, fun a o h1 h2 h3 => ?_⟩, V1.rep.freeze (lend_ge n1) fun a o m h => by rw [lend_in m]; exact h⟩
  by_cases m : a ∈ T
  · rcases (V1.own a m).2 with z | z
    · rw [h2] at z; cases z
    · cases z.1
  · rw [lend_out m]; exact V1.post.new a o h1 h2 h3
theorem VA0.froze {K : PySem.W.Frag} {F H F1 H1 : Hp} {S T : List Addr} {vs : List V} {ds : List D} (V1 : VA0 K F H S true F1 H1 vs ds T) : Post0 F H (lend F1 H1 T) H1 ∧ Reps K (lend F1 H1 T) H1 vs (frzs ds) [] := by
  have n1 : ∀ a ∈ T, F1 a = none := fun a m => (V1.own a m).1
  refine ⟨⟨V1.post.h, V1.post.f.trans (lend_ge n1), lend_same V1.post.fh, fun a o h1 h2 h3 => ?_⟩, V1.rep.freeze (lend_ge n1) fun a o m h => by rw [lend_in m]; exact h⟩
  by_cases m : a ∈ T
  · rcases (V1.own a m).2 with z | z
    · rw [h2] at z; cases z
    · cases z.1
  · rw [lend_out m]; exact V1.post.new a o h1 h2 h3
theorem Reps.single {K : PySem.W.Frag} {F H : Hp} {vs : List V} {d : D} {S : List Addr} (r : Reps K F H vs [d] S) : ∃ v, vs = [v] ∧ Rep K F H v d S := by
  generalize e : S = S' at r
  cases r with
  | cons v d vs ds T U r rs =>
    cases rs
    rw [List.append_nil]
    exact ⟨v, rfl, r⟩
theorem frz_lstD {d : D} {ds : List D} (h : lstD d = some ds) : lstD (frz d) = some (frzs ds) := by
  cases d <;> first | (cases h; rfl) | cases h
def iLst (w : W0) : WA0 := fun ρ P E => w ρ (fun d => match lstD d with | some ds => P (frzs ds) | none => False) E
theorem itd_lst {K : PySem.W.Frag} {F H : Hp} {p : Addr} {vs : List V} {ds : List D} (h : SqL K F p vs) (r : Reps K F H vs ds []) : ItD K F (Itl K p) ds := fun n F2 H2 e1 e2 => by
  have hs : SqL K H2 p vs := e2.seq (e1.seq h)
  refine ⟨fun d hd => ?_, fun hn => ⟨vs, hs, by rw [r.len]; exact hn⟩⟩
  obtain ⟨v, hv, rv⟩ := r.free n d hd
  refine ⟨⟨vs, v, hs, hv⟩, fun x H' ⟨eh, hx⟩ => ?_⟩
  subst eh
  have z := hx vs hs
  rw [hv] at z
  cases z
  exact ⟨F2, Post0.refl e2, rv.frame e1 fun a o m => nomatch m⟩
/-- a frozen list is to be read -/
theorem Rep.seqF {K : PySem.W.Frag} {F H : Hp} {v : V} {d : D} {ds : List D} (h : lstD d = some ds) (r : Rep K F H v d []) (hf : isF d = true) : ∃ p vs, v = .ref p ∧ SqL K F p vs ∧ Reps K F H vs ds [] := by
  cases r with
  | lstF p vs ds' h1 r' => cases h; exact ⟨p, vs, rfl, .of h1, r'⟩
  | con p vs ds' h1 r' => cases h; exact ⟨p, vs, rfl, h1, r'⟩
  | _ => cases h
theorem i_lst (h : PE0 X W true e w0) : PI0 X W tg e (iLst w0) := PI.imp (pi_list h) fun σ H R ⟨F, ρ, S, P, E, RR, w, k, kx⟩ => ⟨F, ρ, S, _, E, RR, w, fun d q v F1 H1 T V1 => by
  split at q
  · rename_i ds e
    obtain ⟨p1, r1⟩ := V1.froze
    obtain ⟨a, vs, rfl, h1, r2⟩ := r1.seqF (frz_lstD e) (isF_frz d)
    exact ⟨a, rfl, ⟨vs, p1.fh.seq h1⟩, k _ q _ _ H1 p1 (itd_lst h1 r2)⟩
  · exact q.elim, kx⟩
def iTp (w : W0) : WA0 := fun ρ P E => w ρ (fun d => match d with | .tup ds => P (frzs ds) | _ => False) E
theorem i_tup (h : PE0 X W true e w0) : PI0 X W tg e (iTp w0) := PI.imp (pi_tup h) fun σ H R ⟨F, ρ, S, P, E, RR, w, k, kx⟩ => ⟨F, ρ, S, _, E, RR, w, fun d q v F1 H1 T V1 => by
  cases d with
  | tup ds =>
    obtain ⟨p1, r1⟩ := V1.froze
    obtain ⟨a, vs, rfl, h1, h2, r2⟩ := (show Rep X.K (lend F1 H1 T) H1 v (.tup (frzs ds)) [] from r1).tupH p1.fh
    refine ⟨a, rfl, ⟨vs, .of h2⟩, k _ q _ _ H1 p1 fun n F2 H2 e1 e2 => ?_⟩
    have hs : SqT X.K H2 a vs := .of (e2 _ _ (e1 _ _ h1))
    refine ⟨fun d hd => ?_, fun hn => ⟨vs, hs, by rw [r2.len]; exact hn⟩⟩
    obtain ⟨v, hv, rv⟩ := r2.free n d hd
    refine ⟨⟨vs, v, hs, hv⟩, fun x H' ⟨eh, hx⟩ => ?_⟩
    subst eh
    have z := hx vs hs
    rw [hv] at z
    cases z
    exact ⟨F2, Post0.refl e2, rv.frame e1 fun a o m => nomatch m⟩
  | _ => exact q.elim, kx⟩
/-- range(n), range(a, b) -/
def rngD (lo : Int) (n : Nat) : List D := (List.range n).map fun (i : Nat) => D.int (lo + (i : Int))
theorem itd_rng {K : PySem.W.Frag} {F : Hp} {lo : Int} {n : Nat} : ItD K F (Itr lo n) (rngD lo n) := fun i F2 H2 e1 e2 => by
  have hl : (rngD lo n).length = n := by simp [rngD]
  refine ⟨fun d hd => ?_, fun hn => by rw [hl] at hn; exact hn⟩
  have hi : i < n := by
    have := (List.getElem?_eq_some_iff.mp hd).1
    rw [hl] at this; exact this
  have ed : d = .int (lo + (i : Int)) := by
    unfold rngD at hd
    rw [List.getElem?_map, List.getElem?_range hi] at hd
    exact (Option.some.inj hd).symm
  subst ed
  refine ⟨hi, fun x H' ⟨eh, hx⟩ => ?_⟩
  subst eh hx
  exact ⟨F2, Post0.refl e2, .int _⟩
def iR1 (ws : WA0) : WA0 := fun ρ P E => ws ρ (fun ds => match ds with | [.int n] => -(2 ^ 62) ≤ n ∧ n < 2 ^ 62 ∧ P (rngD 0 n.toNat) | _ => False) E
theorem i_rng1 {a : Expr} (hg : Gl X "range") (hm : X.mg "range" = none) (ha : PA0 X W fr [a] ws) (hs : starEach [a] X.env = [(false, eval a X.env)] := by rfl) : PI0 X W tg (.Call (.Name "range" p) [a] [] pos) (iR1 ws) :=
  PI.imp (pi_range1 hg hm ha hs) fun σ H R ⟨F, ρ, S, P, E, RR, w, k, kx⟩ => ⟨F, ρ, S, _, E, RR, w, fun ds q vs F1 H1 T V1 => by
    split at q
    · cases V1.rep with
      | cons v d vs ds S T r rs =>
        cases r
        cases rs
        exact ⟨_, rfl, q.1, q.2.1, k _ q.2.2 _ F1 H1 V1.post itd_rng⟩
    · exact q.elim, kx⟩
def iR2 (ws : WA0) : WA0 := fun ρ P E => ws ρ (fun ds => match ds with | [.int m, .int n] => (-(2 ^ 62) ≤ m ∧ m < 2 ^ 62 ∧ -(2 ^ 62) ≤ n ∧ n < 2 ^ 62) ∧ P (rngD m (n - m).toNat) | _ => False) E
theorem i_rng2 {a b : Expr} (hg : Gl X "range") (hm : X.mg "range" = none) (ha : PA0 X W fr [a, b] ws) (hs : starEach [a, b] X.env = [(false, eval a X.env), (false, eval b X.env)] := by rfl) (hs2 : starEach [b] X.env = [(false, eval b X.env)] := by rfl) :
    PI0 X W tg (.Call (.Name "range" p) [a, b] [] pos) (iR2 ws) :=
  PI.imp (pi_range2 hg hm ha hs hs2) fun σ H R ⟨F, ρ, S, P, E, RR, w, k, kx⟩ => ⟨F, ρ, S, _, E, RR, w, fun ds q vs F1 H1 T V1 => by
    split at q
    · cases V1.rep with
      | cons v d vs ds S T r rs =>
        cases r
        cases rs with
        | cons v d vs ds S T r rs =>
          cases r
          cases rs
          exact ⟨_, _, rfl, q.1, k _ q.2 _ F1 H1 V1.post itd_rng⟩
    · exact q.elim, kx⟩
/-- enumerate(list) -/
def enumD : Nat → List D → List D
  | _, [] => []
  | n, d :: r => .tup [.int (n : Int), d] :: enumD (n + 1) r
theorem enumD_get : ∀ {ds : List D} {n i : Nat}, (enumD n ds)[i]? = (ds[i]?).map fun d => .tup [.int ((n + i : Nat) : Int), d]
  | [], n, i => by simp [enumD]
  | d :: r, n, 0 => by simp [enumD]
  | d :: r, n, i + 1 => by
    show (enumD (n + 1) r)[i]? = (r[i]?).map _
    rw [enumD_get]
    have e : n + 1 + i = n + (i + 1) := by omega
    rw [e]
theorem enumD_len : ∀ {ds : List D} {n : Nat}, (enumD n ds).length = ds.length
  | [], _ => rfl
  | _ :: r, n => by show (enumD (n + 1) r).length + 1 = r.length + 1; rw [enumD_len]
def iEn (ws : WA0) : WA0 := fun ρ P E => ws ρ (fun ds => match ds with | [d] => (match lstD d with | some xs => P (enumD 0 (frzs xs)) | none => False) | _ => False) E
theorem i_enum {elts : List Expr} {kk : Nat} {tpos : Pos} (hg : Gl X "enumerate") (hm : X.mg "enumerate" = none) (ha : PA0 X W true [e] ws) (hs : starEach [e] X.env = [(false, eval e X.env)] := by rfl) :
    PI0 X W (.Tuple elts kk tpos) (.Call (.Name "enumerate" p) [e] [] pos) (iEn ws) :=
  PI.imp (pi_enum hg hm ha hs) fun σ H R ⟨F, ρ, S, P, E, RR, w, k, kx⟩ => ⟨F, ρ, S, _, E, RR, w, fun ds q vs F1 H1 T V1 => by
    obtain ⟨p1, r1⟩ := V1.froze
    split at q
    · rename_i d
      split at q
      · rename_i xs hx
        obtain ⟨v, ev, r⟩ := r1.single
        subst ev
        · obtain ⟨a, us, rfl, h1, r2⟩ := r.seqF (frz_lstD hx) (isF_frz d)
          refine ⟨a, us, rfl, p1.fh.seq h1, k _ q _ _ H1 p1 fun n F2 H2 e1 e2 => ?_⟩
          have hs : SqL X.K H2 a us := e2.seq (e1.seq h1)
          refine ⟨fun d hd => ?_, fun hn => ⟨us, hs, by rw [enumD_len] at hn; rw [r2.len]; exact hn⟩⟩
          rw [enumD_get] at hd
          obtain ⟨d0, hd0, ed⟩ := Option.map_eq_some_iff.mp hd
          obtain ⟨v, hv, rv⟩ := r2.free n d0 hd0
          refine ⟨⟨us, v, hs, hv⟩, fun x H' ⟨Tn, y, ex, hT, eh, hx⟩ => ?_⟩
          subst eh ex
          have z := hx us hs
          rw [hv] at z
          cases z
          have pn := Post0.newF (o := .tup [.int (n : Int), v]) e2 hT
          refine ⟨_, pn, ?_⟩
          rw [← ed, Nat.zero_add]
          have rr : Reps X.K (upd F2 Tn (.tup [.int (n : Int), v])) (upd H2 Tn (.tup [.int (n : Int), v])) [.int (n : Int), v] [.int (n : Int), d0] [] :=
            .cons _ _ _ _ [] [] (.int _) (.one (rv.frame (e1.trans pn.f) fun a o m => nomatch m))
          exact .tup Tn _ _ [] upd_same rr
      · exact q.elim
    · exact q.elim, kx⟩

/-! ### loops -/
def forL (tg : Tgt) (wb : WS) : List D → Ev → Outs → Prop
  | [], ρ, O => O.nx ρ
  | d :: ds, ρ, O => match bindT tg d ρ with
    | some ρ1 => wb ρ1 ⟨fun ρ' => forL tg wb ds ρ' O, O.rt, O.nx, fun ρ' => forL tg wb ds ρ' O, O.ex⟩
    | none => False
def sFor (tg : Tgt) (wi : WA0) (wb : WS) : WS := fun ρ O => wi ρ (fun ds => forL tg wb ds ρ O) (fun x => O.ex x ρ)
theorem s_for {t : Tgt} {iter : Expr} {body : List Stmt} (hp : PassesOwn (model X.prog X.w) X.A X.env X.xe) (hc : X.calm = true) (hi : PI0 X W tg iter ws) (hg : PG X tg (tgOf X.K t)) (hb : PSs0 X W body wb)
    (hs : ∀ x, foldedSetIterable iter X.env x = pure x := by intro _; rfl) : PS0 X W (.For tg iter body [] pos) (sFor t ws wb) := PS.imp (ps_for hp hc hi hg hb hs) fun Dn σ H ⟨F, ρ, S, O, R, w, g⟩ =>
  ⟨F, ρ, S, _, _, R, w, fun ds q J F1 H1 p1 it => by
    refine ⟨fun i m σ' H' => m = ds.length - i ∧ i ≤ ds.length ∧ ∃ F' ρ' S', PostS F H S F' H' S' ∧ Rel X.K F' ρ' σ' H' S' ∧ Same F1 F' ∧ forL t wb (ds.drop i) ρ' O, ⟨ds.length, by simp, Nat.zero_le _, F1, ρ, S, p1.s, R.post p1, Same.refl _, by simpa using q⟩, ?_⟩
    rintro i m σ' H' ⟨rfl, hi, F', ρ', S', p', R', e', q'⟩
    obtain ⟨i1, i2⟩ := it i F' H' e' R'.same
    by_cases hlt : i < ds.length
    · have hd : ds[i]? = some ds[i] := by simp [hlt]
      obtain ⟨go, yl⟩ := i1 _ hd
      rw [List.drop_eq_getElem_cons hlt] at q'
      refine .inr ⟨go, fun σ2 H2 => i + 1 ≤ ds.length ∧ ∃ F2 ρ2 S2, PostS F H S F2 H2 S2 ∧ Rel X.K F2 ρ2 σ2 H2 S2 ∧ Same F1 F2 ∧ forL t wb (ds.drop (i + 1)) ρ2 O, fun σ2 H2 ⟨h1, h2⟩ => ⟨ds.length - (i + 1), by omega, rfl, h1, h2⟩, fun x H2 y => ?_⟩
      obtain ⟨F2, p2, r2⟩ := yl x H2 y
      unfold forL at q'
      split at q'
      · rename_i ρ1 hbd
        have pp := p'.trans p2.s
        refine tgOf_ok (R'.post p2) (⟨r2, List.nodup_nil, fun a m => nomatch m⟩ : RepT X.K F2 H2 S' x ds[i] []) hbd fun σ3 S3 R3 h3 => ?_
        have p3 : PostS F H S F2 H2 S3 := pp.sub fun a m => by simpa using h3 a m
        refine ⟨F2, ρ1, S3, _, R3, q', ?_⟩
        have again : ∀ ρ4, forL t wb (ds.drop (i + 1)) ρ4 O → ∀ σ4 F4 H4 S4, PostS F2 H2 S3 F4 H4 S4 → Rel X.K F4 ρ4 σ4 H4 S4 → i + 1 ≤ ds.length ∧ ∃ F2 ρ2 S2, PostS F H S F2 H4 S2 ∧ Rel X.K F2 ρ2 σ4 H4 S2 ∧ Same F1 F2 ∧ forL t wb (ds.drop (i + 1)) ρ2 O :=
          fun ρ4 h4 σ4 F4 H4 S4 p4 R4 => ⟨hlt, F4, ρ4, S4, p3.trans p4, R4, (e'.trans p2.f).trans p4.f, h4⟩
        exact ⟨again, fun d ρ4 h4 v σ4 F4 H4 S4 T p4 => g.rt d ρ4 h4 v σ4 F4 H4 S4 T (p3.trans p4), fun ρ4 h4 σ4 F4 H4 S4 p4 => g.nx ρ4 h4 σ4 F4 H4 S4 (p3.trans p4), again, fun x ρ4 h4 cls dd σ4 F4 H4 S4 p4 => g.ex x ρ4 h4 cls dd σ4 F4 H4 S4 (p3.trans p4)⟩
      · exact q'.elim
    · have e0 : ds.drop i = [] := List.drop_eq_nil_of_le (by omega)
      rw [e0] at q'
      exact .inl ⟨i2 (by omega), g.nx ρ' q' σ' F' H' S' p' R'⟩, fun x q cls dd F1 H1 p1 ex => g.ex x ρ q cls dd σ F1 H1 S p1.s (R.post p1) ex⟩
def sWhile (t : WT0) (wb : WS) : WS := fun ρ O => ∃ I : Nat → Ev → Prop, (∃ m, I m ρ) ∧ ∀ m ρ, I m ρ →
  t ρ (fun b => match b with | true => wb ρ ⟨fun ρ' => ∃ m', m' < m ∧ I m' ρ', O.rt, O.nx, fun ρ' => ∃ m', m' < m ∧ I m' ρ', O.ex⟩ | false => O.nx ρ) (fun x => O.ex x ρ)
theorem s_while {body : List Stmt} (hp : PassesOwn (model X.prog X.w) X.A X.env X.xe) (hc : PT0 X W c ta) (hb : PSs0 X W body wb) : PS0 X W (.While c body [] pos) (sWhile ta wb) := PS.imp (ps_while hp hc hb) fun Dn σ H ⟨F, ρ, S, O, R, w, g⟩ => by
  obtain ⟨I, ⟨m0, i0⟩, turn⟩ := w
  refine ⟨fun m σ' H' => ∃ F' ρ' S', PostS F H S F' H' S' ∧ Rel X.K F' ρ' σ' H' S' ∧ I m ρ', ⟨m0, F, ρ, S, PostS.refl, R, i0⟩, ?_⟩
  rintro m σ' H' ⟨F', ρ', S', p', R', im⟩
  refine ⟨F', ρ', S', _, _, R', turn m ρ' im, fun b q F2 H2 p2 => ?_, fun x q cls dd F2 H2 p2 ex => g.ex x ρ' q cls dd σ' F2 H2 S' (p'.trans p2.s) (R'.post p2) ex⟩
  cases b with
  | true =>
    refine iteT ⟨fun σ4 H4 => ∃ m', m' < m ∧ ∃ F' ρ' S', PostS F H S F' H4 S' ∧ Rel X.K F' ρ' σ4 H4 S' ∧ I m' ρ', fun σ4 H4 h => h, F2, ρ', S', _, R'.post p2, q, ?_⟩
    have pp := p'.trans p2.s
    have again : ∀ ρ4, (∃ m', m' < m ∧ I m' ρ4) → ∀ σ4 F4 H4 S4, PostS F2 H2 S' F4 H4 S4 → Rel X.K F4 ρ4 σ4 H4 S4 → ∃ m', m' < m ∧ ∃ F' ρ' S', PostS F H S F' H4 S' ∧ Rel X.K F' ρ' σ4 H4 S' ∧ I m' ρ' :=
      fun ρ4 ⟨m', hm, i4⟩ σ4 F4 H4 S4 p4 R4 => ⟨m', hm, F4, ρ4, S4, pp.trans p4, R4, i4⟩
    exact ⟨again, fun d ρ4 h4 v σ4 F4 H4 S4 T p4 => g.rt d ρ4 h4 v σ4 F4 H4 S4 T (pp.trans p4), fun ρ4 h4 σ4 F4 H4 S4 p4 => g.nx ρ4 h4 σ4 F4 H4 S4 (pp.trans p4), again, fun x ρ4 h4 cls dd σ4 F4 H4 S4 p4 => g.ex x ρ4 h4 cls dd σ4 F4 H4 S4 (pp.trans p4)⟩
  | false => exact iteF (g.nx ρ' q σ' F2 H2 S' (p'.trans p2.s) (R'.post p2))
end
end DL

namespace DL
open PySem PySem.Spec PyProof.Rows L2

/-! ### places: an owned part of what a name holds -/
def Hole (K : PySem.W.Frag) (F H : Hp) (σ : List (Option V)) (S : List Addr) (d : D) (v : V) (T : List Addr) (put : D → Ev) : Prop :=
  ∃ A B, S = A ++ T ++ B ∧ Rep K F H v d T ∧ ∀ (F2 H2 : Hp) (d2 : D) (T2 : List Addr), Same F F2 → (∀ a o, a ∈ A ++ B → H a = some o → H2 a = some o) → Rep K F2 H2 v d2 T2 → Slots K F2 H2 σ (put d2) (A ++ T2 ++ B)
section
variable {K : PySem.W.Frag} {F F' H H' : Hp} {ρ : Ev} {σ : List (Option V)} {S : List Addr}
theorem Slots.hole : ∀ {σ : List (Option V)} {ρ : Ev} {S : List Addr} {i : Nat} {d : D}, Slots K F H σ ρ S → ρ[i]? = some (some d) → ∃ v T, σ[i]? = some (some v) ∧ Hole K F H σ S d v T (fun d2 => ρ.set i (some d2))
  | _, _, _, _, _, .nil, h => by cases h
  | _, _, _, 0, _, .no o σ ρ S r, h => by cases h
  | _, _, _, 0, _, .so v d σ ρ S T q r, h => by
    cases h
    exact ⟨v, S, rfl, [], T, rfl, q, fun F2 H2 d2 T2 e k q2 => .so v d2 σ ρ T2 T q2 (r.frame e k)⟩
  | _, _, _, i + 1, _, .no o σ ρ S r, h => by
    obtain ⟨v, T, h1, A, B, h2, h3, h4⟩ := Slots.hole (i := i) r (by simpa using h)
    exact ⟨v, T, by simpa using h1, A, B, h2, h3, fun F2 H2 d2 T2 e k q2 => .no o _ _ _ (h4 F2 H2 d2 T2 e k q2)⟩
  | _, _, _, i + 1, _, .so v d σ ρ S T q r, h => by
    obtain ⟨u, T', h1, A, B, h2, h3, h4⟩ := Slots.hole (i := i) r (by simpa using h)
    refine ⟨u, T', by simpa using h1, S ++ A, B, by rw [h2]; simp, h3, fun F2 H2 d2 T2 e k q2 => ?_⟩
    have z := Slots.so (K := K) (F := F2) (H := H2) v d _ _ S _ (q.frame e fun a o m => k a o (by simp [m])) (h4 F2 H2 d2 T2 e (fun a o m => k a o (by rcases List.mem_append.mp m with m | m <;> simp [m])) q2)
    simpa [List.append_assoc] using z
theorem Reps.hole : ∀ {vs : List V} {ds : List D} {S : List Addr} {i : Nat} {d : D}, Reps K F H vs ds S → ds[i]? = some d → ∃ v A T B, vs[i]? = some v ∧ S = A ++ T ++ B ∧ Rep K F H v d T ∧
    ∀ (F2 H2 : Hp) (d2 : D) (T2 : List Addr) (v2 : V), Same F F2 → (∀ a o, a ∈ A ++ B → H a = some o → H2 a = some o) → Rep K F2 H2 v2 d2 T2 → Reps K F2 H2 (vs.set i v2) (ds.set i d2) (A ++ T2 ++ B)
  | _, _, _, _, _, .nil, h => by cases h
  | _, _, _, 0, _, .cons v d vs ds S T r rs, h => by
    cases h
    exact ⟨v, [], S, T, rfl, rfl, r, fun F2 H2 d2 T2 v2 e k q => .cons v2 d2 vs ds T2 T q (rs.frame e k)⟩
  | _, _, _, i + 1, _, .cons v d vs ds S T r rs, h => by
    obtain ⟨u, A, T', B, h1, h2, h3, h4⟩ := Reps.hole (i := i) rs (by simpa using h)
    refine ⟨u, S ++ A, T', B, by simpa using h1, by rw [h2]; simp, h3, fun F2 H2 d2 T2 v2 e k q => ?_⟩
    have z := Reps.cons (K := K) (F := F2) (H := H2) v d _ _ S _ (r.frame e fun a o m => k a o (by simp [m])) (h4 F2 H2 d2 T2 v2 e (fun a o m => k a o (by rcases List.mem_append.mp m with m | m <;> simp [m])) q)
    simpa [List.append_assoc] using z
theorem set_get {α : Type} {l : List α} {i : Nat} {v : α} (h : l[i]? = some v) : l.set i v = l := by
  induction l generalizing i with
  | nil => rfl
  | cons x r ih =>
    cases i with
    | zero => cases h; rfl
    | succ i => rw [List.set_cons_succ, ih (by simpa using h)]
/-- into a list -/
theorem Hole.ix {put : D → Ev} {xs : List D} {v : V} {T : List Addr} {n : Nat} {d : D} (h : Hole K F H σ S (.lst true xs) v T put) (e : xs[n]? = some d) :
    ∃ p vs v1 T1, v = .ref p ∧ H p = some (.lst vs) ∧ vs.length = xs.length ∧ vs[n]? = some v1 ∧ Hole K F H σ S d v1 T1 (fun d2 => put (.lst true (xs.set n d2))) := by
  obtain ⟨A, B, h1, h2, h3⟩ := h
  cases h2 with
  | lstO p vs ds T0 hp rs =>
    obtain ⟨v1, A1, T1, B1, g1, g2, g3, g4⟩ := rs.hole e
    refine ⟨p, vs, v1, T1, rfl, hp, rs.len, g1, A ++ p :: A1, B1 ++ B, by rw [h1, g2]; simp, g3, fun F2 H2 d2 T2 e2 k q => ?_⟩
    have z := g4 F2 H2 d2 T2 v1 e2 (fun a o m => k a o (by rcases List.mem_append.mp m with m | m <;> simp [m])) q
    rw [set_get g1] at z
    have z2 := h3 F2 H2 (.lst true (xs.set n d2)) (p :: (A1 ++ T2 ++ B1)) e2 (fun a o m => k a o (by rcases List.mem_append.mp m with m | m <;> simp [m])) (.lstO p vs _ _ (k p _ (by simp) hp) z)
    simpa [List.append_assoc] using z2
/-- where a key stands -/
def kix : List D → D → Option Nat
  | k :: ks, x => if k = x then some 0 else (kix ks x).map (· + 1)
  | [], _ => none
theorem dlook_kix : ∀ {ks vs : List D} {x : D}, ks.length = vs.length → dlook ks vs x = (kix ks x).bind fun n => vs[n]?
  | [], [], _, _ => rfl
  | [], _ :: _, _, h => by cases h
  | _ :: _, [], _, h => by cases h
  | k :: ks, v :: vs, x, h => by
    unfold dlook kix
    by_cases e : k = x
    · rw [if_pos e, if_pos e]; rfl
    · rw [if_neg e, if_neg e, dlook_kix (by simpa using h)]
      cases kix ks x <;> rfl
theorem DicAt.len {h : Option HO} {t : Nat} {ks : List D} {vs : List V} (x : DicAt h t ks vs) : ks.length = vs.length := by
  cases x with
  | k kvs _ _ a b c nd kg =>
    have z := congrArg List.length b
    rw [List.length_map, List.length_map] at z
    rw [c, List.length_map]; exact z
  | t kvs _ _ a b c nd kg =>
    have z := congrArg List.length b
    rw [List.length_map, List.length_map] at z
    rw [c, List.length_map]; exact z
/-- into a dict -/
theorem Hole.key {put : D → Ev} {t : Nat} {ks xs : List D} {v y : V} {T S' : List Addr} {k d : D} {n : Nat} (sm : Same F H) (h : Hole K F H σ S (.dic true t ks xs) v T put) (ry : Rep K F H y k S') (e1 : kix ks k = some n) (e2 : xs[n]? = some d) :
    ∃ p v1 T1, v = .ref p ∧ DGet H p y (some v1) ∧ Hole K F H σ S d v1 T1 (fun d2 => put (.dic true t ks (xs.set n d2))) := by
  obtain ⟨A, B, h1, h2, h3⟩ := h
  have lk : dlook ks xs k = some d := by
    cases h2 with
    | dicO p t ks vs ds T0 da rs => rw [dlook_kix (da.len.trans rs.len), e1]; exact e2
  have hk := h2.dicKey lk
  obtain ⟨p0, ev, g⟩ := h2.dget sm ry hk
  rw [lk] at g
  obtain ⟨v0, _, _, _, g0, _⟩ := g
  cases h2 with
  | dicO p t ks vs ds T0 da rs =>
    have e0 := V.ref.inj ev
    subst e0
    obtain ⟨v1, A1, T1, B1, g1, g2, g3, g4⟩ := rs.hole e2
    have vv : v0 = v1 := by
      have look : ∀ {α : Type} [DecidableEq α] (f : D → Option α) (inj : ∀ x y q, f x = some q → f y = some q → x = y) (q : α) (_ : f k = some q) (kvs : List (α × V)) (ks : List D) (n : Nat) (v0 v1 : V),
          ks.map f = kvs.map (fun p => some p.1) → kix ks k = some n → (kvs.map (·.2))[n]? = some v1 → valV kvs q = some v0 → v0 = v1 := by
        intro α _ f inj q hq kvs
        induction kvs with
        | nil => intro ks n v0 v1 _ _ h _; simp at h
        | cons kv r ih =>
          intro ks n v0 v1 hm hx hv hl
          cases ks with
          | nil => cases hx
          | cons x xs =>
            rw [List.map_cons, List.map_cons] at hm
            injection hm with hm1 hm2
            unfold kix at hx
            by_cases ex : x = k
            · rw [if_pos ex] at hx
              cases hx
              rw [ex, hq] at hm1
              rw [valV_pos (Option.some.inj hm1).symm] at hl
              simp at hv
              rw [← hv]; exact (Option.some.inj hl).symm
            · rw [if_neg ex] at hx
              obtain ⟨m, hm3, hm4⟩ := Option.map_eq_some_iff.mp hx
              subst hm4
              have ne : ¬ kv.1 = q := fun z => ex (inj _ _ q (by rw [hm1, z]) hq)
              rw [valV_neg ne] at hl
              exact ih xs m v0 v1 hm2 hm3 (by simpa using hv) hl
      cases da with
      | k kvs _ _ a b c nd kg =>
        subst c
        obtain ⟨q, hq⟩ := Option.isSome_iff_exists.mp (show (keyD k).isSome = true from hk)
        have ey := ry.key hq
        rcases g0 with ⟨kvs', k', r', ey', l'⟩ | ⟨kvs', k', b', r', ey', eb', l'⟩
        · have er : HO.dK kvs' = .dK kvs := by
            rcases r' with r' | ⟨o, r'⟩
            · rw [a] at r'; exact (Option.some.inj r').symm
            · rw [a] at r'; cases r'
          cases er
          rw [ey] at ey'
          have := kV_inj ey'
          subst this
          exact look keyD (fun x y q => keyD_inj) q hq kvs ks n v0 v1 b e1 g1 l'.symm
        · rcases r' with r' | ⟨o, r'⟩ <;> (rw [a] at r'; cases r')
      | t kvs _ _ a b c nd kg =>
        subst c
        obtain ⟨q, hq⟩ := Option.isSome_iff_exists.mp (show (tkeyD k).isSome = true from hk)
        obtain ⟨bb, ey, _, hb⟩ := ry.tkey sm hq
        rcases g0 with ⟨kvs', k', r', ey', l'⟩ | ⟨kvs', k', b', r', ey', eb', l'⟩
        · rcases r' with r' | ⟨o, r'⟩ <;> (rw [a] at r'; cases r')
        · have er : HO.dT kvs' = .dT kvs := by
            rcases r' with r' | ⟨o, r'⟩
            · rw [a] at r'; exact (Option.some.inj r').symm
            · rw [a] at r'; cases r'
          cases er
          rw [ey] at ey'
          cases ey'
          rw [hb] at eb'
          have := kVs_inj (HO.tup.inj (Option.some.inj eb'))
          subst this
          exact look tkeyD (fun x y q => tkeyD_inj) q hq kvs ks n v0 v1 b e1 g1 l'.symm
    subst vv
    have hp : ∃ o, H p = some o := by
      cases da with
      | k kvs _ _ a b c nd kg => exact ⟨_, a⟩
      | t kvs _ _ a b c nd kg => exact ⟨_, a⟩
    obtain ⟨op, hp⟩ := hp
    refine ⟨p, v0, T1, rfl, g0, A ++ p :: A1, B1 ++ B, by rw [h1, g2]; simp, g3, fun F2 H2 d2 T2 e2 kk q => ?_⟩
    have z := g4 F2 H2 d2 T2 v0 e2 (fun a o m => kk a o (by rcases List.mem_append.mp m with m | m <;> simp [m])) q
    rw [set_get g1] at z
    have hp2 : H2 p = H p := by rw [hp]; exact kk p op (by simp) hp
    have z2 := h3 F2 H2 (.dic true t ks (xs.set n d2)) (p :: (A1 ++ T2 ++ B1)) e2 (fun a o m => kk a o (by rcases List.mem_append.mp m with m | m <;> simp [m])) (.dicO p t ks vs _ _ (by rw [hp2]; exact da) z)
    simpa [List.append_assoc] using z2
/-- where a field stands -/
def fix : List Str → Str → Option Nat
  | n :: ns, x => if x = n then some 0 else (fix ns x).map (· + 1)
  | [], _ => none
theorem look_fix : ∀ {ns : List Str} {vs : List V} {x : Str} {n : Nat} {v : V}, fix ns x = some n → vs[n]? = some v → (ns.zip vs).lookup x = some v
  | [], _, _, _, _, h, _ => by cases h
  | _ :: _, [], _, _, _, _, h => by simp at h
  | m :: ns, u :: vs, x, n, v, h1, h2 => by
    unfold fix at h1
    by_cases e : x = m
    · rw [if_pos e] at h1
      cases h1
      have e2 : u = v := by simpa using h2
      subst e e2
      simp [List.lookup]
    · rw [if_neg e] at h1
      obtain ⟨j, hj, ej⟩ := Option.map_eq_some_iff.mp h1
      subst ej
      have b : (x == m) = false := by simpa using e
      show (match x == m with | true => some u | false => (ns.zip vs).lookup x) = some v
      rw [b]
      exact look_fix hj (by simpa using h2)
/-- into an instance -/
theorem Hole.fld {put : D → Ev} {C : Str} {ns : List Str} {xs : List D} {v : V} {T : List Addr} {x : Str} {n : Nat} {d : D} (h : Hole K F H σ S (.ins true C ns xs) v T put) (e1 : fix ns x = some n) (e2 : xs[n]? = some d) :
    ∃ p dx vs v1 T1, v = .ref p ∧ H p = some (.ins (He.ga K C) dx (ns.zip vs)) ∧ (ns.zip vs).lookup x = some v1 ∧ Hole K F H σ S d v1 T1 (fun d2 => put (.ins true C ns (xs.set n d2))) := by
  obtain ⟨A, B, h1, h2, h3⟩ := h
  cases h2 with
  | insO p C dx ns vs ds T0 hp l rs =>
    obtain ⟨v1, A1, T1, B1, g1, g2, g3, g4⟩ := rs.hole e2
    refine ⟨p, dx, vs, v1, T1, rfl, hp, look_fix e1 g1, A ++ p :: A1, B1 ++ B, by rw [h1, g2]; simp, g3, fun F2 H2 d2 T2 e2 k q => ?_⟩
    have z := g4 F2 H2 d2 T2 v1 e2 (fun a o m => k a o (by rcases List.mem_append.mp m with m | m <;> simp [m])) q
    rw [set_get g1] at z
    have z2 := h3 F2 H2 (.ins true C ns (xs.set n d2)) (p :: (A1 ++ T2 ++ B1)) e2 (fun a o m => k a o (by rcases List.mem_append.mp m with m | m <;> simp [m])) (.insO p C dx ns vs _ _ (k p _ (by simp) hp) l z)
    simpa [List.append_assoc] using z2
/-- the object at a place is written: its parts are some of the old ones and of U -/
theorem Hole.write {put : D → Ev} {d d2 : D} {p : Addr} {T0 T2 U : List Addr} {o : HO} (R : Rel K F ρ σ H S) (h : Hole K F H σ S d (.ref p) (p :: T0) put) (r : Rep K F (upd H p o) (.ref p) d2 (p :: T2)) (nd : T2.Nodup) (sub : ∀ a ∈ T2, a ∈ T0 ∨ a ∈ U)
    (hU : ∀ a ∈ U, F a = none ∧ a ∉ S) : ∃ S', Rel K F (put d2) σ (upd H p o) S' ∧ (∀ a ∈ S', a ∈ S ∨ a ∈ U) ∧ p ∈ S ∧ (∀ a ∈ S', (a ∈ S ∧ a ∉ T0 ∧ a ≠ p) ∨ a = p ∨ a ∈ T2) ∧ p ∉ T0 := by
  obtain ⟨A, B, h1, h2, h3⟩ := h
  have nS := R.nd
  rw [h1] at nS
  have n1 := List.nodup_append.mp nS
  have n2 := List.nodup_append.mp n1.1
  have n3 := List.nodup_cons.mp n2.2.1
  have pS : p ∈ S := by rw [h1]; simp
  have Fp : F p = none := R.fr p pS
  have pT2 : p ∉ T2 := fun m => (sub p m).elim n3.1 fun z => (hU p z).2 pS
  have inS : ∀ a, a ∈ A ∨ a ∈ B ∨ a ∈ T0 → a ∈ S := fun a m => by rw [h1]; rcases m with m | m | m <;> simp [m]
  have AB : ∀ a, a ∈ A ++ B → a ≠ p := fun a m e => by
    subst e
    rcases List.mem_append.mp m with m | m
    · exact n2.2.2 a m a List.mem_cons_self rfl
    · exact n1.2.2 a (by simp) a m rfl
  have z := h3 F (upd H p o) d2 (p :: T2) (Same.refl _) (fun a u m q => by rw [upd_ne (AB a m)]; exact q) r
  refine ⟨A ++ (p :: T2) ++ B, ⟨fun a u q => ?_, fun a m => ?_, ?_, z⟩, fun a m => ?_, pS, fun a m => ?_, n3.1⟩
  · have ne : a ≠ p := fun e => by rw [e, Fp] at q; cases q
    rw [upd_ne ne]; exact R.same a u q
  · simp only [List.mem_append, List.mem_cons] at m
    rcases m with (m | m | m) | m
    · exact R.fr a (inS a (.inl m))
    · rw [m]; exact Fp
    · rcases sub a m with y | y
      · exact R.fr a (inS a (.inr (.inr y)))
      · exact (hU a y).1
    · exact R.fr a (inS a (.inr (.inl m)))
  · refine List.nodup_append.mpr ⟨List.nodup_append.mpr ⟨n2.1, List.nodup_cons.mpr ⟨pT2, nd⟩, fun x hx y hy e => ?_⟩, n1.2.1, fun x hx y hy e => ?_⟩
    · subst e
      rcases List.mem_cons.mp hy with e | hy
      · exact AB x (by simp [hx]) e
      · rcases sub x hy with q | q
        · exact n2.2.2 x hx x (List.mem_cons_of_mem _ q) rfl
        · exact (hU x q).2 (inS x (.inl hx))
    · subst e
      rcases List.mem_append.mp hx with hx | hx
      · exact n1.2.2 x (by simp [hx]) x hy rfl
      · rcases List.mem_cons.mp hx with e | hx
        · exact AB x (by simp [hy]) e
        · rcases sub x hx with q | q
          · exact n1.2.2 x (by simp [q]) x hy rfl
          · exact (hU x q).2 (inS x (.inr (.inl hy)))
  · simp only [List.mem_append, List.mem_cons] at m
    rcases m with (m | m | m) | m
    · exact .inl (inS a (.inl m))
    · exact .inl (by rw [m]; exact pS)
    · exact (sub a m).elim (fun q => .inl (inS a (.inr (.inr q)))) .inr
    · exact .inl (inS a (.inr (.inl m)))
  · simp only [List.mem_append, List.mem_cons] at m
    rcases m with (m | m | m) | m
    · exact .inl ⟨inS a (.inl m), fun z => n2.2.2 a m a (List.mem_cons_of_mem _ z) rfl, AB a (by simp [m])⟩
    · exact .inr (.inl m)
    · exact .inr (.inr m)
    · exact .inl ⟨inS a (.inr (.inl m)), fun z => n1.2.2 a (by simp [z]) a m rfl, AB a (by simp [m])⟩
theorem PostS.write {F H F' H' : Hp} {S S' S'' U : List Addr} {p : Addr} {o : HO} (q : PostS F H S F' H' (S' ++ U)) (hp : p ∈ S') (h : ∀ a ∈ S'', a ∈ S' ∨ a ∈ U) : PostS F H S F' (upd H' p o) S'' := by
  refine ⟨q.f, fun a u h1 h2 => ?_, fun a m => q.own a (by rcases h a m with z | z <;> simp [z]), q.new⟩
  have ne : a ≠ p := fun e => by
    subst e
    rcases q.own a (List.mem_append_left _ hp) with z | z
    · exact h2 z
    · rw [h1] at z; cases z
  rw [upd_ne ne]
  exact q.fr a u h1 h2
end

abbrev WP := Ev → (D → (D → Ev) → Prop) → (Ex → Prop) → Prop
def liftP (X : Cx) (W : WX) (w : WP) : TE := fun σ H Q => ∃ F ρ S P E, Rel X.K F ρ σ H S ∧ w ρ P E ∧
  (∀ d put, P d put → ∀ v F' H' T, Post0 F H F' H' → Hole X.K F' H' σ S d v T put → Q v H') ∧ (∀ x, E x → ∀ cls dd F' H', Post0 F H F' H' → ExR X.K H' x cls dd → W cls dd σ H')
abbrev PP0 (X : Cx) (W : WX) (e : Expr) (w : WP) : Prop := PE X e (liftP X W w)
theorem Hole.mono {K : PySem.W.Frag} {F F' H H' : Hp} {σ : List (Option V)} {S T : List Addr} {d : D} {v : V} {put : D → Ev} (h : Hole K F H σ S d v T put) (e : Same F F') (k : Same H H') (dm : ∀ a ∈ S, ∃ o, H a = some o) : Hole K F' H' σ S d v T put := by
  obtain ⟨A, B, h1, h2, h3⟩ := h
  refine ⟨A, B, h1, h2.mono e k, fun F2 H2 d2 T2 e2 k2 r => h3 F2 H2 d2 T2 (e.trans e2) (fun a o m q => k2 a o m (k a o q)) r⟩
section
variable {X : Cx} {W : WX} {fr fa fb fc : Bool} {tg a b c e o : Expr} {es : List Expr} {w0 wi : W0} {ws : WA0} {w1 : W1} {wp : WP} {ta : WT0} {pos pos' p apos cpos : Pos}
def pVar (i : Nat) : WP := fun ρ P _ => match ρ[i]? with
  | some (some d) => P d (fun d2 => ρ.set i (some d2))
  | _ => False
theorem p_var {i : Nat} {x : Str} (h : PE X (.Name x pos) (tVar i)) : PP0 X W (.Name x pos) (pVar i) := PE.imp h fun σ H Q ⟨F, ρ, S, P, E, R, w, k, _⟩ => by
  unfold pVar at w
  split at w
  · rename_i d e
    obtain ⟨v, T, h1, h2⟩ := R.sl.hole e
    exact ⟨v, h1, k d _ w v F H T (Post0.refl R.same) h2⟩
  · exact w.elim
def pIx (wp : WP) (wi : W0) : WP := fun ρ P E => wp ρ (fun d put => wi ρ (fun j => match d, j with
  | .lst true xs, .int i => (match ixN xs.length i with
    | some n => (match xs[n]? with | some d1 => P d1 (fun d2 => put (.lst true (xs.set n d2))) | none => False)
    | none => False)
  | .dic true t ks xs, k => (match kix ks k with
    | some n => (match xs[n]? with | some d1 => P d1 (fun d2 => put (.dic true t ks (xs.set n d2))) | none => False)
    | none => False)
  | _, _ => False) E) E
theorem p_ix (hu : X.A.units + 1 < cLine) (ha : PP0 X W a wp) (hb : PE0 X W fb b wi) (hs : PlainIx b) : PP0 X W (.Subscript a b pos) (pIx wp wi) :=
  PE.imp (pe_ix (IxR.or ix_list (ix_dict hu)) ha hb hs) fun σ H Q ⟨F, ρ, S, P, E, R, w, k, kx⟩ => ⟨F, ρ, S, _, E, R, w, fun d put q v F1 H1 T1 p1 h1 =>
    ⟨F1, ρ, S, _, E, R.post p1, q, fun j q2 y F2 H2 T2 V2 => by
      have h2 := h1.mono V2.post.f V2.post.h (R.post p1).dom
      split at q2
      · rename_i xs i
        split at q2
        · rename_i n hn
          split at q2
          · rename_i d1 hd
            cases V2.rep
            obtain ⟨pp, vs, v1, T3, rfl, g1, g2, g3, g4⟩ := h2.ix hd
            refine .inl ⟨pp, vs, i, v1, rfl, rfl, .of g1, ?_, k _ _ q2 _ F2 H2 T3 (p1.trans V2.post) g4⟩
            unfold atI
            rw [g2, hn]
            exact g3
          · exact q2.elim
        · exact q2.elim
      · rename_i t ks xs kk
        split at q2
        · rename_i n hn
          split at q2
          · rename_i d1 hd
            obtain ⟨pp, v1, T3, rfl, g1, g2⟩ := h2.key V2.post.fh V2.rep hn hd
            exact .inr ⟨pp, v1, rfl, g1, k _ _ q2 _ F2 H2 T3 (p1.trans V2.post) g2⟩
          · exact q2.elim
        · exact q2.elim
      · exact q2.elim, fun x h cls dd F2 H2 p2 => kx x h cls dd F2 H2 (p1.trans p2)⟩, kx⟩
/-- the classes of which these instances are; what is no attribute of theirs -/
def FldOk (K : PySem.W.Frag) (cs : Str → Prop) (f : Str) : Prop := ∀ C, cs C → Cls K (He.ga K C) ∧ NoAttr K (He.ga K C) f
def pFld (cs : Str → Prop) (wp : WP) (f : Str) : WP := fun ρ P E => wp ρ (fun d put => match d with
  | .ins true C ns xs => cs C ∧ (match fix ns f with
    | some n => (match xs[n]? with | some d1 => P d1 (fun d2 => put (.ins true C ns (xs.set n d2))) | none => False)
    | none => False)
  | _ => False) E
theorem p_fld {cs : Str → Prop} {f : Str} (hc : FldOk X.K cs f) (ha : PP0 X W e wp) (hb : attributeBase e f X.env (eval e X.env) = eval e X.env := by rfl) : PP0 X W (.Attribute e f pos) (pFld cs wp f) :=
  PE.imp (pe_fld ha hb) fun σ H Q ⟨F, ρ, S, P, E, R, w, k, kx⟩ => ⟨F, ρ, S, _, E, R, w, fun d put q v F1 H1 T1 p1 h1 => by
    split at q
    · rename_i C ns xs
      obtain ⟨q1, q2⟩ := q
      split at q2
      · rename_i n hn
        split at q2
        · rename_i d1 hd
          obtain ⟨pp, dx, vs, v1, T3, rfl, g1, g2, g3⟩ := h1.fld hn hd
          exact ⟨pp, _, dx, _, v1, rfl, g1, (hc C q1).1, (hc C q1).2, g2, k _ _ q2 _ F1 H1 T3 p1 g3⟩
        · exact q2.elim
      · exact q2.elim
    · exact q.elim, kx⟩
/-- a field, read -/
def wFld (cs : Str → Prop) (wa : W0) (f : Str) : W0 := fun ρ P E => wa ρ (fun d => match d with
  | .ins _ C ns xs => cs C ∧ (match fix ns f with
    | some n => (match xs[n]? with | some d1 => P d1 | none => False)
    | none => False)
  | _ => False) E
theorem g_fld {cs : Str → Prop} {f : Str} (hc : FldOk X.K cs f) (ha : PE0 X W fr e w0) (hb : attributeBase e f X.env (eval e X.env) = eval e X.env := by rfl) : PE0 X W fr (.Attribute e f pos) (wFld cs w0 f) :=
  PE.imp (pe_fld ha hb) fun σ H Q ⟨F, ρ, S, P, E, R, w, k, kx⟩ => ⟨F, ρ, S, _, E, R, w, fun d q v F1 H1 T1 V1 => by
    have main : ∀ {C : Str} {dx : Addr} {ns : List Str} {vs : List V} {xs : List D} {T0 : List Addr} {pp : Addr}, H1 pp = some (.ins (He.ga X.K C) dx (ns.zip vs)) → Reps X.K F1 H1 vs xs T0 → (T1 = T0 ∨ ∃ Z, T1 = Z ++ T0) →
        (cs C ∧ (match fix ns f with | some n => (match xs[n]? with | some d1 => P d1 | none => False) | none => False)) → v = .ref pp → ∃ a C dx fs v1, v = .ref a ∧ H1 a = some (.ins C dx fs) ∧ Cls X.K C ∧ NoAttr X.K C f ∧ fs.lookup f = some v1 ∧ Q v1 H1 := by
      intro C dx ns vs xs T0 pp hp rs hT q ev
      obtain ⟨q1, q2⟩ := q
      split at q2
      · rename_i n hn
        split at q2
        · rename_i d1 hd
          obtain ⟨v1, A, T, B, g1, g2, g3⟩ := rs.get hd
          obtain ⟨n1, n2⟩ := sub_nd g3 hT V1.nd
          exact ⟨pp, _, dx, _, v1, ev, hp, (hc C q1).1, (hc C q1).2, look_fix hn g1, k _ q2 _ F1 H1 T ⟨V1.post, g2, n1, fun a m => V1.own a (n2 a m)⟩⟩
        · exact q2.elim
      · exact q2.elim
    cases d with
    | ins o C ns xs =>
      cases V1.rep with
      | insF p C dx ns vs ds h l r => exact main (V1.post.fh _ _ h) r (.inl rfl) q rfl
      | insO p C dx ns vs ds T0 h l r => exact main h r (.inr ⟨[p], rfl⟩) q rfl
    | _ => exact q.elim, kx⟩
end
end DL

namespace DL
open PySem PySem.Spec PyProof.Rows L2

/-! ### methods that change a list -/
/-- by values: what the method m does of a list of the items xs (ds: the arguments); what comes back, the items then -/
def MtL (X : Cx) (id : String) (m : List D → List D → (D → List D → Prop) → Prop) : Prop :=
  ∃ r, MtR X id r ∧ ∀ (F H : Hp) (p : Addr) (vs us : List V) (xs ds : List D) (T0 U : List Addr) (P : D → List D → Prop) (Q : VK), Same F H → H p = some (.lst vs) → Reps X.K F H vs xs T0 → Reps X.K F H us ds U → (T0 ++ U).Nodup → m xs ds P →
    (∀ res ys, P res ys → ∀ v vs' T2 Tr, vs'.length ≤ sizeLine → Reps X.K F H vs' ys T2 → Rep X.K F H v res Tr → (T2 ++ Tr).Nodup → (∀ a ∈ T2 ++ Tr, a ∈ T0 ∨ a ∈ U) → Q v (upd H p (.lst vs'))) → r (.ref p) us H Q
theorem sizeLt {n : Nat} (h : n < sizeLine) : n + 1 ≤ sizeLine := h
def mApp : List D → List D → (D → List D → Prop) → Prop
  | xs, [x], P => xs.length < sizeLine ∧ P .non (xs ++ [x])
  | _, _, _ => False
section
variable {X : Cx}
theorem ml_app : MtL X "list.append" mApp := by
  refine ⟨_, mt_append, fun F H p vs us xs ds T0 U P Q e hp rs ru nd m k => ?_⟩
  unfold mApp at m
  split at m
  · rename_i x
    obtain ⟨v, rfl, rv⟩ := ru.single
    have hl := rs.len
    refine ⟨p, vs, v, rfl, rfl, hp, by rw [hl]; exact m.1, ?_⟩
    exact k _ _ m.2 .non _ (T0 ++ U) [] (by rw [List.length_append, hl]; exact m.1) (rs.append (.one rv)) .non (by rw [List.append_nil]; exact nd) fun a h => by simpa using h
  · exact m.elim
def mIns : List D → List D → (D → List D → Prop) → Prop
  | xs, [.int i, x], P => xs.length < sizeLine ∧ 0 ≤ i ∧ i < 2 ^ 63 ∧ isF x = true ∧ P .non (xs.take i.toNat ++ [x] ++ xs.drop i.toNat)
  | _, _, _ => False
theorem Reps.cut2 {K : PySem.W.Frag} {F H : Hp} : ∀ {vs : List V} {xs : List D} {T0 : List Addr} (n : Nat), Reps K F H vs xs T0 → ∃ A B, T0 = A ++ B ∧ Reps K F H (vs.take n) (xs.take n) A ∧ Reps K F H (vs.drop n) (xs.drop n) B
  | _, _, _, 0, r => ⟨[], _, rfl, .nil, r⟩
  | _, _, _, n + 1, .nil => ⟨[], [], rfl, .nil, .nil⟩
  | _, _, _, n + 1, .cons v d vs ds S T r rs => by
    obtain ⟨A, B, h1, h2, h3⟩ := Reps.cut2 n rs
    exact ⟨S ++ A, B, by rw [h1]; simp, .cons v d _ _ S A r h2, h3⟩
theorem ml_ins : MtL X "list.insert" mIns := by
  refine ⟨_, mt_insert, fun F H p vs us xs ds T0 U P Q e hp rs ru nd m k => ?_⟩
  unfold mIns at m
  split at m
  · rename_i i x
    obtain ⟨m1, m2, m3, m4, m5⟩ := m
    cases ru with
    | cons v0 d0 us ds U1 U2 r0 ru =>
      cases r0
      obtain ⟨v, rfl, rv⟩ := ru.single
      have eU := rv.noS m4
      subst eU
      obtain ⟨A, B, h1, h2, h3⟩ := rs.cut2 i.toNat
      refine ⟨p, vs, i, v, rfl, rfl, hp, by rw [rs.len]; exact m1, m2, m3, ?_⟩
      have z := (h2.append (.one rv)).append h3
      refine k _ _ m5 .non _ (A ++ B) [] ?_ (by simpa using z) .non (by rw [List.append_nil, ← h1]; exact (List.nodup_append.mp nd).1) fun a h => .inl (by rw [h1]; simpa using h)
      rw [List.length_append, List.length_append, List.length_take, List.length_drop, List.length_singleton, rs.len]
      have := m1
      omega
  · exact m.elim
def mExt : List D → List D → (D → List D → Prop) → Prop
  | xs, [.lst _ ys], P => isFs ys = true ∧ xs.length + ys.length ≤ sizeLine ∧ P .non (xs ++ ys)
  | _, _, _ => False
theorem ml_ext : MtL X "list.extend" mExt := by
  refine ⟨_, mt_extend, fun F H p vs us xs ds T0 U P Q e hp rs ru nd m k => ?_⟩
  unfold mExt at m
  split at m
  · rename_i o ys
    obtain ⟨v, rfl, rv⟩ := ru.single
    obtain ⟨b, ws, _, _, rfl, h1, r1, _⟩ := rv.lstH e
    have ru1 := r1.own m.1
    refine ⟨p, b, vs, ws, rfl, rfl, hp, h1, by rw [rs.len, ru1.len]; exact m.2.1, ?_⟩
    exact k _ _ m.2.2 .non _ (T0 ++ []) [] (by rw [List.length_append, rs.len, ru1.len]; exact m.2.1) (rs.append ru1) .non (by simpa using (List.nodup_append.mp nd).1) fun a h => .inl (by simpa using h)
  · exact m.elim
/-- the first place of an equal item -/
def eqIx (xs : List D) (x : D) : Option Nat := xs.findIdx? fun y => eqvD y x
def mRem : List D → List D → (D → List D → Prop) → Prop
  | xs, [x], P => isFs xs = true ∧ xs.length ≤ sizeLine ∧ cmpD 60 x = true ∧ cmpsD 59 xs = true ∧ match eqIx xs x with
    | some n => P .non (xs.eraseIdx n)
    | none => False
  | _, _, _ => False
def rRemD (K : PySem.W.Frag) : V → List V → Hp → VK → Prop := fun x us H Q => ∃ (l : Addr) (vs : List V) (y : V) (d : PyData) (ds : List PyData) (j : Nat), x = .ref l ∧ us = [y] ∧ H l = some (.lst vs) ∧ DpAll K H vs ds ∧ Dp K H y d ∧
  SeqAt.shaped (.list ds) = true ∧ SeqAt.shaped d = true ∧ SeqAt.dataPlace ds d = some j ∧ Q .non (upd H l (.lst (vs.eraseIdx j)))
theorem mt_remD (hu : X.A.units + 65 < cLine) : MtR X "list.remove" (rRemD X.K) := by
  intro pins s σ H x us v ws Q I rx ru h
  obtain ⟨l, vs, y, d, ds, j, rfl, rfl, hl, hd, hy, s1, s2, hj, q⟩ := h
  cases rx
  obtain ⟨u, rfl, ry⟩ := ru.one
  obtain ⟨z, its, n, r, hlen, e⟩ := I.lstM hl
  obtain ⟨as, h4⟩ := Dp.readsAll I ds vs its hd r
  obtain ⟨bs, h5⟩ := Dp.reads I d y u hy ry
  have rm := room_in_shaped (A := X.A) (xs := ds) s2 hu
  refine SeqAt.remove_list_data (vs := its.toArray) ⟨_, e, rfl, n, rfl⟩ h4 h5 (PyData.plainAll_of_canLay0 ds (SeqAt.canLay_of_shaped s1)) (PyData.plain_of_canLay0 d (SeqAt.canLay_of_shaped s2)) ?_ hj (by rw [List.size_toArray, ← hlen]; exact z) ?_
  · exact rm
  · have rr := r.eraseIdx j
    refine ⟨.non, _, I.lset (its' := its.eraseIdx j) (t' := s.toks) hl e ?_ rr ?_, rfl, q⟩
    · show its.toArray.eraseIdxIfInBounds j = (its.eraseIdx j).toArray
      rw [List.eraseIdxIfInBounds_toArray]
    · exact Nat.le_trans (List.length_eraseIdx_le ..) z
theorem eqIx_toP {n m : Nat} {x : D} (hx : cmpD n x = true) : ∀ {ys : List D}, cmpsD m ys = true → SeqAt.dataPlace (toPs ys) (toP x) = eqIx ys x
  | [], _ => rfl
  | y :: ys, h => by
    have h' : (cmpD m y && cmpsD m ys) = true := by cases m <;> exact h
    have ih := eqIx_toP hx (ba h').2
    unfold SeqAt.dataPlace eqIx at *
    show List.findIdx? _ (toP y :: toPs ys) = _
    rw [List.findIdx?_cons, List.findIdx?_cons, eqv_toP y x (ba h').1 hx, ih]
theorem Reps.erase {K : PySem.W.Frag} {F H : Hp} {vs : List V} {xs : List D} (n : Nat) (r : Reps K F H vs xs []) : Reps K F H (vs.eraseIdx n) (xs.eraseIdx n) [] := by
  rw [List.eraseIdx_eq_take_drop_succ, List.eraseIdx_eq_take_drop_succ]
  obtain ⟨A, B, h1, h2, h3⟩ := r.cut2 n
  obtain ⟨A2, B2, h4, h5, h6⟩ := r.cut2 (n + 1)
  have eA : A = [] := (List.append_eq_nil_iff.mp h1.symm).1
  have eB : B2 = [] := (List.append_eq_nil_iff.mp h4.symm).2
  subst eA eB
  have z := h2.append h6
  exact z
theorem ml_rem (hu : X.A.units + 65 < cLine) : MtL X "list.remove" mRem := by
  refine ⟨_, mt_remD hu, fun F H p vs us xs ds T0 U P Q e hp rs ru nd m k => ?_⟩
  unfold mRem at m
  split at m
  · rename_i x
    obtain ⟨m1, m2, m3, m4, m5⟩ := m
    split at m5
    · rename_i n hn
      obtain ⟨v, rfl, rv⟩ := ru.single
      have eT := rs.noS m1
      subst eT
      obtain ⟨a1, a2, a3⟩ := rv.dp e m3
      obtain ⟨b1, b2, b3⟩ := rs.dp e m4
      refine ⟨p, vs, v, _, _, n, rfl, rfl, hp, b1, a1, shaped_of (d := .list (toPs xs)) b2 (Nat.succ_le_succ b3), shaped_of a2 a3, by rw [eqIx_toP m3 m4]; exact hn, ?_⟩
      exact k _ _ m5 .non _ [] [] (Nat.le_trans (List.length_eraseIdx_le ..) (by rw [rs.len]; exact m2)) (rs.erase n) .non List.nodup_nil fun a h => nomatch h
    · exact m5.elim
  · exact m.elim
/-- pop(), pop(i) -/
def mPop : List D → List D → (D → List D → Prop) → Prop
  | xs, [], P => xs.length ≤ sizeLine ∧ match xs[xs.length - 1]? with
    | some d => P d xs.dropLast
    | none => False
  | xs, [.int i], P => xs.length ≤ sizeLine ∧ -(2 ^ 63) ≤ i ∧ i < 2 ^ 63 ∧ match seqIndex? i xs.length with
    | some n => (match xs[n]? with | some d => P d (xs.eraseIdx n) | none => False)
    | none => False
  | _, _, _ => False
theorem Reps.take1 {K : PySem.W.Frag} {F H : Hp} {vs : List V} {xs : List D} {T0 : List Addr} {n : Nat} {d : D} (r : Reps K F H vs xs T0) (e : xs[n]? = some d) : ∃ v A T B, vs[n]? = some v ∧ T0 = A ++ T ++ B ∧ Rep K F H v d T ∧ Reps K F H (vs.eraseIdx n) (xs.eraseIdx n) (A ++ B) := by
  induction r using Reps.rec (motive_1 := fun _ _ _ _ => True) generalizing n with
  | nil => cases e
  | cons v d' vs ds S T r rs _ ih =>
    cases n with
    | zero =>
      cases e
      exact ⟨v, [], S, T, rfl, rfl, r, rs⟩
    | succ n =>
      obtain ⟨u, A, T', B, h1, h2, h3, h4⟩ := ih (n := n) (by simpa using e)
      refine ⟨u, S ++ A, T', B, by simpa using h1, by rw [h2]; simp, h3, ?_⟩
      have z := Reps.cons (K := K) (F := F) (H := H) v d' _ _ S _ r h4
      simpa [List.append_assoc] using z
  | _ => trivial
theorem ml_pop : MtL X "list.pop" mPop := by
  refine ⟨_, MtR.or mt_pop mt_popAt, fun F H p vs us xs ds T0 U P Q e hp rs ru nd m k => ?_⟩
  have part : ∀ {A T B : List Addr}, T0 = A ++ T ++ B → ((A ++ B) ++ T).Nodup ∧ ∀ a ∈ (A ++ B) ++ T, a ∈ T0 ∨ a ∈ U := fun {A T B} h => by
    have n1 := (List.nodup_append.mp nd).1
    rw [h] at n1
    have n2 := List.nodup_append.mp n1
    have n3 := List.nodup_append.mp n2.1
    refine ⟨List.nodup_append.mpr ⟨List.nodup_append.mpr ⟨n3.1, n2.2.1, fun x hx y hy => n2.2.2 x (List.mem_append_left _ hx) y hy⟩, n3.2.1, fun x hx y hy z => ?_⟩, fun a m => .inl ?_⟩
    · subst z
      rcases List.mem_append.mp hx with hx | hx
      · exact n3.2.2 x hx x hy rfl
      · exact n2.2.2 x (List.mem_append_right _ hy) x hx rfl
    · rw [h]
      simp only [List.mem_append] at m ⊢
      rcases m with (m | m) | m <;> simp [m]
  unfold mPop at m
  split at m
  · cases ru
    obtain ⟨m0, m⟩ := m
    split at m
    · rename_i d hd
      obtain ⟨v, A, T, B, h1, h2, h3, h4⟩ := rs.take1 hd
      have hl := rs.len
      refine .inl ⟨p, vs, v, rfl, rfl, hp, by rw [hl]; exact h1, ?_⟩
      have e1 : vs.eraseIdx (xs.length - 1) = vs.dropLast := by rw [← hl]; exact List.eraseIdx_length_sub_one ..
      have e2 : xs.eraseIdx (xs.length - 1) = xs.dropLast := List.eraseIdx_length_sub_one ..
      rw [e1, e2] at h4
      exact k _ _ m v _ (A ++ B) T (by rw [List.length_dropLast]; omega) h4 h3 (part h2).1 (part h2).2
    · exact m.elim
  · rename_i i
    obtain ⟨m0, m1, m2, m⟩ := m
    cases ru with
    | cons v0 d0 us ds U1 U2 r0 ru =>
      cases r0
      cases ru
      split at m
      · rename_i n hn
        split at m
        · rename_i d hd
          obtain ⟨v, A, T, B, h1, h2, h3, h4⟩ := rs.take1 hd
          have hl := rs.len
          refine .inr ⟨p, vs, i, n, v, rfl, rfl, hp, m1, m2, by rw [hl]; exact hn, h1, ?_⟩
          exact k _ _ m v _ (A ++ B) T (Nat.le_trans (List.length_eraseIdx_le ..) (by omega)) h4 h3 (part h2).1 (part h2).2
        · exact m.elim
      · exact m.elim
  · exact m.elim
end
section
variable {X : Cx} {W : WX} {fr fa fb fc : Bool} {tg a b c e o : Expr} {es : List Expr} {w0 wi : W0} {ws : WA0} {w1 : W1} {wp : WP} {ta : WT0} {pos pos' p apos cpos : Pos} {m : List D → List D → (D → List D → Prop) → Prop} {id : String} {name : Str}
def wLm (m : List D → List D → (D → List D → Prop) → Prop) (wp : WP) (ws : WA0) : W1 := fun ρ P E => wp ρ (fun d put => match d with
  | .lst true xs => ws ρ (fun ds => m xs ds (fun res ys => P res (put (.lst true ys)))) (fun x => E x ρ)
  | _ => False) (fun x => E x ρ)
abbrev LmR (X : Cx) (m : List D → List D → (D → List D → Prop) → Prop) (r : V → List V → Hp → VK → Prop) : Prop :=
  ∀ (F H : Hp) (p : Addr) (vs us : List V) (xs ds : List D) (T0 U : List Addr) (P : D → List D → Prop) (Q : VK), Same F H → H p = some (.lst vs) → Reps X.K F H vs xs T0 → Reps X.K F H us ds U → (T0 ++ U).Nodup → m xs ds P →
    (∀ res ys, P res ys → ∀ v vs' T2 Tr, vs'.length ≤ sizeLine → Reps X.K F H vs' ys T2 → Rep X.K F H v res Tr → (T2 ++ Tr).Nodup → (∀ a ∈ T2 ++ Tr, a ∈ T0 ∨ a ∈ U) → Q v (upd H p (.lst vs'))) → r (.ref p) us H Q
/-- a list at a place, its method at values of which U is new -/
theorem lm_at {r : V → List V → Hp → VK → Prop} (hr : LmR X m r) {F H : Hp} {ρ : Ev} {σ : L2.St} {S U : List Addr} {xs ds : List D} {v : V} {T : List Addr} {put : D → Ev} {us : List V} {P : D → List D → Prop} {Q : VK} (R : Rel X.K F ρ σ H S) (h : Hole X.K F H σ S (.lst true xs) v T put)
    (ru : Reps X.K F H us ds U) (nU : U.Nodup) (fU : ∀ a ∈ U, F a = none ∧ a ∉ S) (hm : m xs ds P) (k : ∀ res ys, P res ys → ∀ v2 H2 S2 Tr, PostS F H (S ++ U) F H2 (S2 ++ Tr) → Rel X.K F (put (.lst true ys)) σ H2 S2 → RepT X.K F H2 S2 v2 res Tr → Q v2 H2) : r v us H Q := by
  obtain ⟨A, B, h1, h2, h3⟩ := id h
  cases h2 with
  | lstO p vs ds' T0 hp rs =>
    have nS := R.nd
    rw [h1] at nS
    have n1 := List.nodup_append.mp nS
    have n2 := List.nodup_append.mp n1.1
    have n3 := List.nodup_cons.mp n2.2.1
    have inS : ∀ a, a = p ∨ a ∈ T0 → a ∈ S := fun a m => by rw [h1]; rcases m with m | m <;> simp [m]
    have nTU : (T0 ++ U).Nodup := List.nodup_append.mpr ⟨n3.2, nU, fun x hx y hy z => by subst z; exact (fU x hy).2 (inS x (.inr hx))⟩
    refine hr F H p vs us xs ds T0 U P Q R.same hp rs ru nTU hm fun res ys q v2 vs' T2 Tr hz r2 rr nd sub => ?_
    have ne : ∀ a ∈ T2 ++ Tr, a ≠ p := fun a m e => by
      subst e
      rcases sub a m with z | z
      · exact n3.1 z
      · exact (fU a z).2 (inS a (.inl rfl))
    have fr : ∀ a o, a ∈ T2 ++ Tr → H a = some o → upd H p (.lst vs') a = some o := fun a o m q => by rw [upd_ne (ne a m)]; exact q
    have nd' := List.nodup_append.mp nd
    obtain ⟨S2, R2, s1, s2, s3, s4⟩ := Hole.write (o := .lst vs') (d2 := .lst true ys) (T2 := T2) (U := U) R h (.lstO p vs' ys T2 upd_same (r2.frame (Same.refl _) fun a o m => fr a o (List.mem_append_left _ m))) nd'.1 (fun a m => sub a (List.mem_append_left _ m)) fU
    have dis : ∀ a ∈ Tr, a ∉ S2 := fun a m z => by
      have sb := sub a (List.mem_append_right _ m)
      rcases s3 a z with ⟨z1, z2, z3⟩ | z | z
      · rcases sb with y | y
        · exact z2 y
        · exact (fU a y).2 z1
      · exact ne a (List.mem_append_right _ m) z
      · exact nd'.2.2 a z a m rfl
    refine k res ys q v2 _ S2 Tr ⟨Same.refl _, fun a o q1 q2 => ?_, fun a m => ?_, fun a o q1 q2 q3 q4 => q1⟩ R2 ⟨rr.frame (Same.refl _) fun a o m => fr a o (List.mem_append_right _ m), nd'.2.1, fun a m => ⟨?_, dis a m⟩⟩
    · rw [upd_ne (fun e => q2 (by rw [e]; simp [s2]))]; exact q1
    · rcases List.mem_append.mp m with m | m
      · rcases s1 a m with z | z <;> simp [z]
      · rcases sub a (List.mem_append_right _ m) with z | z
        · simp [inS a (.inr z)]
        · simp [z]
    · rcases sub a (List.mem_append_right _ m) with z | z
      · exact R.fr a (inS a (.inr z))
      · exact (fU a z).1
theorem lm_ok {r : V → List V → Hp → VK → Prop} (hr : LmR X m r) : ∀ σ H Q, lift1 X W (wLm m wp ws) σ H Q → tBM X.K "list" r (liftP X W wp) (liftA0 X W true ws) σ H Q := fun σ H Q ⟨F, ρ, S, P, E, R, w, k, kx⟩ => ⟨F, ρ, S, _, _, R, w, fun d put q v F1 H1 T1 p1 h1 => by
  have R1 := R.post p1
  split at q
  · rename_i xs
    have hl : ∃ p vs, v = .ref p ∧ H1 p = some (.lst vs) := by
      obtain ⟨A, B, h1, h2, h3⟩ := h1
      cases h2 with
      | lstO p vs ds' T0 hp rs => exact ⟨p, vs, rfl, hp⟩
    obtain ⟨p, vs, rfl, hp⟩ := hl
    refine ⟨.inl ⟨rfl, vs, .of hp⟩, F1, ρ, S, _, _, R1, q, fun ds q2 us F2 H2 U V2 => ?_, fun x q cls dd F2 H2 p2 ex => kx x ρ q cls dd F2 H2 S (p1.trans p2).s (R1.post p2) ex⟩
    have hU : ∀ a ∈ U, F2 a = none ∧ a ∉ S := fun a m => ⟨(V2.own a m).1, fun z => by
      obtain ⟨o, ho⟩ := R1.dom a z
      rcases (V2.own a m).2 with y | y
      · rw [ho] at y; cases y
      · cases y.1⟩
    refine lm_at hr (R1.post V2.post) (h1.mono V2.post.f V2.post.h R1.dom) V2.rep (V2.nd rfl) hU q2 fun res ys q3 v3 H3 S3 Tr p3 R3 r3 => ?_
    refine k res _ q3 v3 F2 H3 S3 Tr ?_ R3 r3
    have pp := (p1.trans V2.post)
    exact ⟨pp.f.trans p3.f, fun a o h n => p3.fr a o (pp.h a o h) (fun z => (List.mem_append.mp z).elim n fun z => by
      rcases (V2.own a z).2 with y | y
      · rw [p1.h a o h] at y; cases y
      · cases y.1), fun a m => by
        rcases p3.own a m with z | z
        · rcases List.mem_append.mp z with z | z
          · exact .inl z
          · rcases (V2.own a z).2 with y | y
            · exact .inr (p1.h.free y)
            · cases y.1
        · exact .inr (pp.h.free z), fun a o h1 h2 h3 _ => pp.new a o h1 h2 h3⟩
  · exact q.elim, fun x q cls dd F1 H1 p1 ex => kx x ρ q cls dd F1 H1 S p1.s (R.post p1) ex⟩
/-- place.method(a, ..) of a list -/
theorem e_lm (slot : Slot "list" name id) (hty : typeOf (.builtin id) = pure (.type "method_descriptor")) (hm : MtL X id m) (ho : PP0 X W o wp) (ha : PA0 X W true (e :: es) ws)
    (hbase : attributeBase o name X.env (eval o X.env) = eval o X.env := by rfl)
    (hfew : ((backTo cpos (starEach (e :: es) X.env)).all (fun x => !x.1) && (backToKw cpos (keywordEach [] X.env)).all (fun x => x.1.isSome)
      && decide ((e :: es).length + ([] : List Keyword).length + (if ([] : List Keyword).isEmpty then 0 else 1) < 30)) = true := by rfl)
    (hline : (apos.endLine == cpos.line) = true := by rfl) (hs : starEach (e :: es) X.env = (false, eval e X.env) :: starEach es X.env := by rfl) (hplain : (backTo cpos (starEach es X.env)).any (·.1) = false := by rfl) :
    PE1 X W (.Call (.Attribute o name apos) (e :: es) [] cpos) (wLm m wp ws) := by
  obtain ⟨r, h1, h2⟩ := hm
  exact PE.imp (pe_bm PySem.F.plainAttrs_list slot hty h1 ho ha hbase hfew hline hs hplain) (lm_ok h2)
theorem e_lm0 (slot : Slot "list" name id) (hty : typeOf (.builtin id) = pure (.type "method_descriptor")) (hm : MtL X id m) (ho : PP0 X W o wp)
    (hbase : attributeBase o name X.env (eval o X.env) = eval o X.env := by rfl) (hline : (apos.endLine == cpos.line) = true := by rfl) :
    PE1 X W (.Call (.Attribute o name apos) [] [] cpos) (wLm m wp aNil) := by
  obtain ⟨r, h1, h2⟩ := hm
  refine PE.imp (pe_bm0 PySem.F.plainAttrs_list slot hty h1 ho hbase hline) fun σ H Q q => ?_
  have z := lm_ok (X := X) (W := W) (wp := wp) (ws := aNil) h2 σ H Q q
  obtain ⟨F, ρ, S, P, E, R, w, k, kx⟩ := z
  refine ⟨F, ρ, S, P, E, R, w, fun d put q v F1 H1 T1 p1 h1 => ?_, kx⟩
  obtain ⟨y1, F2, ρ2, S2, P2, E2, R2, w2, k2, _⟩ := k d put q v F1 H1 T1 p1 h1
  exact ⟨y1, k2 [] w2 [] F2 H1 [] ⟨Post0.refl R2.same, .nil, fun _ => List.nodup_nil, fun a m => nomatch m⟩⟩
end
end DL

namespace DL
open PySem PySem.Spec PyProof.Rows L2

/-! ### the frame lent for one expression; a name's value given up -/
def frzE (ρ : Ev) : Ev := ρ.map (Option.map frz)
theorem Slots.freeze {K : PySem.W.Frag} {F F' H H' : Hp} (e : Same F F') : ∀ {σ : List (Option V)} {ρ : Ev} {S : List Addr}, Slots K F H σ ρ S → (∀ a o, a ∈ S → H a = some o → F' a = some o) → Slots K F' H' σ (frzE ρ) []
  | _, _, _, .nil, _ => .nil
  | _, _, _, .no o σ ρ S r, k => .no o σ _ [] (Slots.freeze e r k)
  | _, _, _, .so v d σ ρ S T q r, k => .so v (frz d) σ _ [] [] (q.freeze e fun a o m => k a o (List.mem_append_left _ m)) (Slots.freeze e r fun a o m => k a o (List.mem_append_right _ m))
section
variable {X : Cx} {W : WX} {fr fa fb fc : Bool} {tg a b c e : Expr} {es : List Expr} {w0 wi : W0} {ws : WA0} {w1 : W1} {ta : WT0} {st : Stmt} {sts : List Stmt} {wa wb wc : WS} {pos pos' p : Pos}
def wLend (w : W0) : W0 := fun ρ P E => w (frzE ρ) (fun d => isO d = true ∧ P d) E
theorem lend_ok : ∀ σ H Q, lift0 X W true (wLend w0) σ H Q → lift0 X W true w0 σ H Q := fun σ H Q ⟨F, ρ, S, P, E, R, w, k, kx⟩ =>
  ⟨lend F H S, frzE ρ, [], _, E, ⟨lend_same R.same, (fun a m => nomatch m), List.nodup_nil, R.sl.freeze (lend_ge R.fr) fun a o m h => by rw [lend_in m]; exact h⟩, w, fun d q v F2 H2 T2 V2 => by
    have P3 := unlend_post R.fr V2.post
    refine k d q.2 v (unlend F2 S) H2 T2 ⟨P3, V2.rep.cut (fun p vs z => ?_) q.1, V2.nd, fun a m => ⟨?_, (V2.own a m).2.elim .inl fun z => Bool.noConfusion z.1⟩⟩
    · have m : p ∉ S := fun m => by
        obtain ⟨o, h1, h2, _⟩ := R.sl.dom p m
        have h3 := V2.post.h p o h1
        have h4 := V2.post.fh p _ z
        rw [h3] at h4
        exact h2 vs (Option.some.inj h4)
      rw [unlend_out m]; exact z
    · by_cases ml : a ∈ S
      · exact unlend_in ml
      · rw [unlend_out ml]; exact (V2.own a m).1,
    fun x h cls dd F2 H2 p2 ex => kx x h cls dd (unlend F2 S) H2 (unlend_post R.fr p2) ex⟩
theorem g_lend (h : PE0 X W true e w0) : PE0 X W true e (wLend w0) := PE.imp h lend_ok
/-- a name whose value is not written any more -/
def sFrz (i : Nat) (w : WS) : WS := fun ρ O => match ρ[i]? with
  | some (some d) => w (ρ.set i (some (frz d))) O
  | _ => False
theorem frz_ok {i : Nat} : ∀ D σ H, liftS X W (sFrz i wa) D σ H → liftS X W wa D σ H := fun D σ H ⟨F, ρ, S, O, R, w, g⟩ => by
  unfold sFrz at w
  split at w
  · rename_i d e
    obtain ⟨v, T, h1, A, B, h2, h3, h4⟩ := R.sl.hole e
    have nd := R.nd
    rw [h2] at nd
    have n1 := List.nodup_append.mp nd
    have n2 := List.nodup_append.mp n1.1
    have fT : ∀ a ∈ T, F a = none := fun a m => R.fr a (by rw [h2]; simp [m])
    have out : ∀ a, a ∈ A ++ B → a ∉ T := fun a m z => by
      rcases List.mem_append.mp m with m | m
      · exact n2.2.2 a m a z rfl
      · exact n1.2.2 a (List.mem_append_right _ z) a m rfl
    have z := h4 (lend F H T) H (frz d) [] (lend_ge fT) (fun a o _ h => h) (h3.freeze (lend_ge fT) fun a o m h => by rw [lend_in m]; exact h)
    rw [List.append_nil] at z
    have sub : ∀ a, a ∈ A ++ B → a ∈ S := fun a m => by
      rw [h2]; simp only [List.mem_append] at m ⊢
      rcases m with m | m <;> simp [m]
    refine ⟨lend F H T, ρ.set i (some (frz d)), A ++ B, O, ⟨lend_same R.same, fun a m => ?_, ?_, z⟩, w, g.post ⟨lend_ge fT, fun a o h _ => h, fun a m => .inl (sub a m), fun a o q1 q2 _ q3 => ?_⟩⟩
    · rw [lend_out (out a m)]; exact R.fr a (sub a m)
    · exact List.nodup_append.mpr ⟨n2.1, n1.2.1, fun x hx y hy => n1.2.2 x (List.mem_append_left _ hx) y hy⟩
    · rw [lend_out (fun m => q3 (by rw [h2]; simp [m]))]; exact q1
  · exact w.elim
theorem b_frz {i : Nat} (h : PSs0 X W sts wa) : PSs0 X W sts (sFrz i wa) := PSs.imp h frz_ok

/-! ### a name where something may be kept: copied where it owns nothing, else moved -/
def wNm (i : Nat) : W1 := fun ρ P _ => match ρ[i]? with
  | some (some d) => if isF d = true then P d ρ else P d (ρ.set i none)
  | _ => False
theorem mv_ok {i : Nat} : ∀ σ H Q, lift1 X W (wMv i) σ H Q → tVar i σ H Q := fun σ H Q ⟨F, ρ, S, P, E, R, w, k, kx⟩ => by
  unfold wMv at w
  split at w
  · rename_i d e
    obtain ⟨A, T, B, h1, h2, h3⟩ := R.sl.drop i
    obtain ⟨v, h4, h5⟩ := h2 d e
    have nd := R.nd
    rw [h1] at nd
    have n1 := List.nodup_append.mp nd
    have n2 := List.nodup_append.mp n1.1
    have dis : ∀ a ∈ T, a ∉ A ++ B := fun a m z => by
      rcases List.mem_append.mp z with z | z
      · exact n2.2.2 a z a m rfl
      · exact n1.2.2 a (List.mem_append_right _ m) a z rfl
    have nAB : (A ++ B).Nodup := List.nodup_append.mpr ⟨n2.1, n1.2.1, fun x hx y hy => n1.2.2 x (List.mem_append_left _ hx) y hy⟩
    refine ⟨v, h4, k d _ w v F H (A ++ B) T (PostS.refl.sub fun x m => ?_) ⟨R.same, fun a m => R.fr a ?_, nAB, h3⟩ ⟨h5, n2.2.1, fun a m => ⟨R.fr a (by rw [h1]; simp [m]), dis a m⟩⟩⟩
    · rw [h1]
      simp only [List.mem_append] at m ⊢
      rcases m with (m | m) | m <;> simp [m]
    · rw [h1]
      simp only [List.mem_append] at m ⊢
      rcases m with m | m <;> simp [m]
  · exact w.elim
theorem e_nm {i : Nat} {x : Str} (h : PE X (.Name x pos) (tVar i)) : PE1 X W (.Name x pos) (wNm i) := PE.imp h fun σ H Q ⟨F, ρ, S, P, E, R, w, k, kx⟩ => by
  unfold wNm at w
  split at w
  · rename_i d e
    by_cases hf : isF d = true
    · rw [if_pos hf] at w
      obtain ⟨v, A, T, B, h1, h2, h3⟩ := R.sl.at e
      have eT := h2.noS hf
      subst eT
      exact ⟨v, h1, k d ρ w v F H S [] (PostS.refl.sub fun x m => by simpa using m) R ⟨h2, List.nodup_nil, fun a m => nomatch m⟩⟩
    · rw [if_neg hf] at w
      exact mv_ok (X := X) (W := W) (i := i) σ H Q ⟨F, ρ, S, P, E, R, by unfold wMv; rw [e]; exact w, k, kx⟩
  · exact w.elim

/-! ### values kept, in a row -/
theorem PostS.after {F H F1 H1 F2 H2 : Hp} {S S1 T1 U : List Addr} (a : PostS F H S F1 H1 (S1 ++ T1)) (b : PostS F1 H1 S1 F2 H2 U) : PostS F H S F2 H2 (U ++ T1) := by
  have out : ∀ x o, H x = some o → x ∉ S → x ∉ S1 := fun x o h n m => (a.own x (List.mem_append_left _ m)).elim n fun z => by rw [h] at z; cases z
  refine ⟨a.f.trans b.f, fun x o h n => b.fr x o (a.fr x o h n) (out x o h n), fun x m => ?_, fun x o h1 h2 h3 n => b.new x o (a.new x o h1 h2 h3 n) (a.fr x o h2 n) h3 (out x o h2 n)⟩
  rcases List.mem_append.mp m with m | m
  · rcases b.own x m with z | z
    · exact a.own x (List.mem_append_left _ z)
    · by_cases hx : x ∈ S
      · exact .inl hx
      · refine .inr ?_
        cases e : H x with
        | none => rfl
        | some o => rw [a.fr x o e hx] at z; cases z
  · exact a.own x (List.mem_append_right _ m)
abbrev WA1 := Ev → (List D → Ev → Prop) → (Ex → Ev → Prop) → Prop
structure RepsT (K : PySem.W.Frag) (F H : Hp) (S : List Addr) (vs : List V) (ds : List D) (T : List Addr) : Prop where
  rep : Reps K F H vs ds T
  nd : T.Nodup
  own : ∀ a ∈ T, F a = none ∧ a ∉ S
def liftA1 (X : Cx) (W : WX) (w : WA1) : TA := fun σ H Q => ∃ F ρ S P E, Rel X.K F ρ σ H S ∧ w ρ P E ∧
  (∀ ds ρ', P ds ρ' → ∀ vs F' H' S' T, PostS F H S F' H' (S' ++ T) → Rel X.K F' ρ' σ H' S' → RepsT X.K F' H' S' vs ds T → Q vs H') ∧
  (∀ x ρ', E x ρ' → ∀ cls dd F' H' S', PostS F H S F' H' S' → Rel X.K F' ρ' σ H' S' → ExR X.K H' x cls dd → W cls dd σ H')
abbrev PA1 (X : Cx) (W : WX) (es : List Expr) (w : WA1) : Prop := PA X es (liftA1 X W w)
def aNil1 : WA1 := fun ρ P _ => P [] ρ
theorem a1_nil : PA1 X W [] aNil1 := PA.imp pa_nil fun σ H Q ⟨F, ρ, S, P, E, R, w, k, kx⟩ => k [] ρ w [] F H S [] (PostS.refl.sub fun x m => by simpa using m) R ⟨.nil, List.nodup_nil, fun a m => nomatch m⟩
def aCons1 (w : W1) (ws : WA1) : WA1 := fun ρ P E => w ρ (fun d ρ' => ws ρ' (fun ds ρ2 => P (d :: ds) ρ2) E) E
theorem a1_cons {ws : WA1} (h1 : PE1 X W e w1) (h2 : PA1 X W es ws) (hs : starEach (e :: es) X.env = (false, eval e X.env) :: starEach es X.env := by rfl) : PA1 X W (e :: es) (aCons1 w1 ws) := PA.imp (pa_cons h1 h2 hs) fun σ H Q ⟨F, ρ, S, P, E, R, w, k, kx⟩ =>
  ⟨F, ρ, S, _, _, R, w, fun d ρ1 q v F1 H1 S1 T1 p1 R1 r1 => ⟨F1, ρ1, S1, _, _, R1, q, fun ds ρ2 q2 vs F2 H2 S2 T2 p2 R2 r2 => by
      have st : ∀ a ∈ T1, ∃ o, H1 a = some o ∧ NT o := fun a m => let ⟨o, h, nt, _⟩ := r1.rep.dom a m; ⟨o, h, nt⟩
      have n2 : ∀ a ∈ T1, a ∉ S2 ++ T2 := fun a m z => by
        obtain ⟨o, ho, _⟩ := st a m
        rcases p2.own a z with y | y
        · exact (r1.own a m).2 y
        · rw [ho] at y; cases y
      refine k (d :: ds) ρ2 q2 (v :: vs) F2 H2 S2 (T1 ++ T2) ((p1.after p2).sub fun x m => ?_) R2 ⟨.cons v d vs ds T1 T2 (r1.rep.frame p2.f fun a o m h => p2.fr a o h (r1.own a m).2) r2.rep, ?_, fun a m => ?_⟩
      · simp only [List.mem_append] at m ⊢
        rcases m with m | m | m <;> simp [m]
      · exact List.nodup_append.mpr ⟨r1.nd, r2.nd, fun x hx y hy z => by subst z; exact n2 x hx (List.mem_append_right _ hy)⟩
      · rcases List.mem_append.mp m with m | m
        · obtain ⟨o, ho, nt⟩ := st a m
          exact ⟨p2.new a o (r1.own a m).1 ho nt (r1.own a m).2, fun z => n2 a m (List.mem_append_left _ z)⟩
        · exact r2.own a m,
    fun x ρ2 q2 cls dd F2 H2 S2 p2 R2 ex => kx x ρ2 q2 cls dd F2 H2 S2 ((p1.after p2).sub fun x m => List.mem_append_left _ m) R2 ex⟩, kx⟩
def wTup1 (ws : WA1) : W1 := fun ρ P E => ws ρ (fun ds ρ' => ds.length ≤ sizeLine ∧ P (.tup ds) ρ') E
def wLst1 (ws : WA1) : W1 := fun ρ P E => ws ρ (fun ds ρ' => ds.length ≤ sizeLine ∧ P (.lst true ds) ρ') E
theorem e_tup {ws : WA1} {kk : Nat} (h : PA1 X W es ws) : PE1 X W (.Tuple es kk pos) (wTup1 ws) := PE.imp (pe_tup h) fun σ H Q ⟨F, ρ, S, P, E, R, w, k, kx⟩ =>
  ⟨F, ρ, S, _, _, R, w, fun ds ρ' q vs F1 H1 S1 T1 p1 R1 r1 => ⟨by rw [r1.rep.len]; exact q.1, fun p hp => by
    have pn := Post0.newF (o := .tup vs) R1.same hp
    have ne : ∀ a, (∃ o, H1 a = some o) → a ≠ p := fun a ⟨o, h⟩ e => by rw [e, hp] at h; cases h
    refine k _ ρ' q.2 (.ref p) _ _ S1 T1 (p1.trans (pn.s (S := S1 ++ T1))) (R1.post pn) ⟨.tup p vs ds T1 upd_same (r1.rep.mono pn.f pn.h), r1.nd, fun a m => ?_⟩
    obtain ⟨o, ho, nt, _⟩ := r1.rep.dom a m
    exact ⟨pn.new a o (r1.own a m).1 ho nt, (r1.own a m).2⟩⟩, kx⟩
theorem e_lst {ws : WA1} (h : PA1 X W es ws) : PE1 X W (.List es pos) (wLst1 ws) := PE.imp (pe_lst h) fun σ H Q ⟨F, ρ, S, P, E, R, w, k, kx⟩ =>
  ⟨F, ρ, S, _, _, R, w, fun ds ρ' q vs F1 H1 S1 T1 p1 R1 r1 => ⟨by rw [r1.rep.len]; exact q.1, fun p hp => by
    have pn := Post0.newO (o := .lst vs) R1.same hp
    have ne : ∀ a, (∃ o, H1 a = some o) → a ≠ p := fun a ⟨o, h⟩ e => by rw [e, hp] at h; cases h
    have pS : p ∉ S1 := fun m => ne p (R1.dom p m) rfl
    have pT : p ∉ T1 := fun m => ne p (let ⟨o, h, _⟩ := r1.rep.dom p m; ⟨o, h⟩) rfl
    refine k _ ρ' q.2 (.ref p) _ _ S1 (p :: T1) ⟨p1.f, fun a o h n => pn.h a o (p1.fr a o h n), fun a m => ?_, p1.new⟩ (R1.post pn) ⟨.lstO p vs ds T1 upd_same (r1.rep.mono pn.f pn.h), List.nodup_cons.mpr ⟨pT, r1.nd⟩, fun a m => ?_⟩
    · by_cases z : a = p
      · subst z
        by_cases hS : a ∈ S
        · exact .inl hS
        · refine .inr ?_
          cases e : H a with
          | none => rfl
          | some o => have := p1.fr a o e hS; rw [hp] at this; cases this
      · exact p1.own a (by simpa [z] using m)
    · rcases List.mem_cons.mp m with z | z
      · subst z; exact ⟨same_none R1.same hp, pS⟩
      · exact r1.own a z⟩, kx⟩

/-! ### a list's method at values that are kept -/
def wLmN (m : List D → List D → (D → List D → Prop) → Prop) (i : Nat) (ws : WA1) : W1 := fun ρ P E => (match ρ[i]? with | some (some (.lst _ _)) => True | _ => False) ∧ ws ρ (fun ds ρ' => match ρ'[i]? with
  | some (some (.lst true xs)) => m xs ds (fun res ys => P res (ρ'.set i (some (.lst true ys))))
  | _ => False) E
theorem e_lmN {m : List D → List D → (D → List D → Prop) → Prop} {id : String} {name x : Str} {ws : WA1} {i : Nat} {npos apos cpos : Pos} (slot : Slot "list" name id) (hty : typeOf (.builtin id) = pure (.type "method_descriptor")) (hm : MtL X id m) (ho : PE X (.Name x npos) (tVar i)) (ha : PA1 X W (e :: es) ws)
    (hbase : attributeBase (.Name x npos) name X.env (eval (.Name x npos) X.env) = eval (.Name x npos) X.env := by rfl)
    (hfew : ((backTo cpos (starEach (e :: es) X.env)).all (fun x => !x.1) && (backToKw cpos (keywordEach [] X.env)).all (fun x => x.1.isSome)
      && decide ((e :: es).length + ([] : List Keyword).length + (if ([] : List Keyword).isEmpty then 0 else 1) < 30)) = true := by rfl)
    (hline : (apos.endLine == cpos.line) = true := by rfl) (hs : starEach (e :: es) X.env = (false, eval e X.env) :: starEach es X.env := by rfl) (hplain : (backTo cpos (starEach es X.env)).any (·.1) = false := by rfl) :
    PE1 X W (.Call (.Attribute (.Name x npos) name apos) (e :: es) [] cpos) (wLmN m i ws) := by
  obtain ⟨r, h1, h2⟩ := hm
  refine PE.imp (pe_bm PySem.F.plainAttrs_list slot hty h1 ho ha hbase hfew hline hs hplain) fun σ H Q ⟨F, ρ, S, P, E, R, w, k, kx⟩ => ?_
  obtain ⟨w0, w⟩ := w
  split at w0
  · rename_i o xs0 e0
    obtain ⟨v, A, T, B, g1, g2, g3⟩ := R.sl.at e0
    obtain ⟨p, vs, _, _, rfl, g4, _, _⟩ := g2.lstH R.same
    refine ⟨_, g1, .inl ⟨rfl, vs, .of g4⟩, F, ρ, S, _, _, R, w, fun ds ρ1 q us F1 H1 S1 U p1 R1 r1 => ?_, kx⟩
    split at q
    · rename_i xs e1
      obtain ⟨v2, T2, g5, hole⟩ := R1.sl.hole e1
      have ev : v2 = .ref p := by rw [g1] at g5; exact (Option.some.inj (Option.some.inj g5)).symm
      subst ev
      refine lm_at h2 R1 hole r1.rep r1.nd r1.own q fun res ys q3 v3 H3 S3 Tr p3 R3 r3 => ?_
      exact k res _ q3 v3 F1 H3 S3 Tr (p1.trans p3) R3 r3
    · exact q.elim
  · exact w0.elim
end
end DL

namespace DL
open PySem PySem.Spec PyProof.Rows L2

/-! ### comprehensions -/
def wipeE (ρ : Ev) : List Nat → Ev
  | [] => ρ
  | v :: vs => (wipeE ρ vs).set v none
theorem Slots.wipe1 {K : PySem.W.Frag} {F H : Hp} : ∀ {σ : List (Option V)} {ρ : Ev} {S : List Addr} (i : Nat), Slots K F H σ ρ S → ∃ A T B, S = A ++ T ++ B ∧ Slots K F H (σ.set i none) (ρ.set i none) (A ++ B)
  | _, _, _, _, .nil => ⟨[], [], [], rfl, .nil⟩
  | _, _, _, 0, .no o σ ρ S r => ⟨[], [], S, rfl, .no none σ ρ S r⟩
  | _, _, _, 0, .so v d σ ρ S T q r => ⟨[], S, T, rfl, .no none σ ρ T r⟩
  | _, _, _, i + 1, .no o σ ρ S r => by
    obtain ⟨A, T, B, h1, h2⟩ := Slots.wipe1 i r
    exact ⟨A, T, B, h1, .no o _ _ _ h2⟩
  | _, _, _, i + 1, .so v d σ ρ S T q r => by
    obtain ⟨A, T', B, h1, h2⟩ := Slots.wipe1 i r
    refine ⟨S ++ A, T', B, by rw [h1]; simp, ?_⟩
    have z := Slots.so (K := K) (F := F) (H := H) v d _ _ S _ q h2
    simpa [List.append_assoc] using z
theorem Rel.wipe {K : PySem.W.Frag} {F H : Hp} {ρ : Ev} {σ : L2.St} {S : List Addr} (R : Rel K F ρ σ H S) : ∀ vs : List Nat, ∃ S0, Rel K F (wipeE ρ vs) (L2.wipe σ vs) H S0 ∧ ∀ a ∈ S0, a ∈ S
  | [] => ⟨S, R, fun a m => m⟩
  | v :: vs => by
    obtain ⟨S0, R0, h0⟩ := Rel.wipe R vs
    obtain ⟨A, T, B, h1, h2⟩ := R0.sl.wipe1 v
    have nd := R0.nd
    rw [h1] at nd
    have n1 := List.nodup_append.mp nd
    have n2 := List.nodup_append.mp n1.1
    have sub : ∀ a, a ∈ A ++ B → a ∈ S0 := fun a m => by
      rw [h1]; simp only [List.mem_append] at m ⊢
      rcases m with m | m <;> simp [m]
    exact ⟨A ++ B, ⟨R0.same, fun a m => R0.fr a (sub a m), List.nodup_append.mpr ⟨n2.1, n1.2.1, fun x hx y hy => n1.2.2 x (List.mem_append_left _ hx) y hy⟩, h2⟩, fun a m => h0 a (sub a m)⟩
def tgIn : Tgt → List Nat → Bool
  | .nm i, vs => decide (i ∈ vs)
  | .tp is, vs => is.all fun i => decide (i ∈ vs)
theorem wipe_set {σ : L2.St} {i : Nat} {x : Option V} : ∀ {vs : List Nat}, i ∈ vs → L2.wipe (σ.set i x) vs = L2.wipe σ vs
  | [], h => nomatch h
  | v :: vs, h => by
    unfold L2.wipe
    by_cases m : i ∈ vs
    · rw [wipe_set m]
    · have e : i = v := by
        rcases List.mem_cons.mp h with z | z
        · exact z
        · exact absurd z m
      subst e
      have gen : ∀ ws : List Nat, i ∉ ws → L2.wipe (σ.set i x) ws = (L2.wipe σ ws).set i x := by
        intro ws
        induction ws with
        | nil => intro _; rfl
        | cons w ws ih =>
          intro hw
          unfold L2.wipe
          have ne : i ≠ w := fun e => hw (by rw [e]; exact List.mem_cons_self)
          rw [ih fun z => hw (List.mem_cons_of_mem _ z), List.set_comm _ _ ne]
      rw [gen vs m, List.set_set]
theorem wipe_sub {σ : L2.St} {vs : List Nat} : ∀ {us : List Nat}, (∀ u ∈ us, u ∈ vs) → L2.wipe (L2.wipe σ us) vs = L2.wipe σ vs
  | [], _ => rfl
  | u :: us, h => by
    show L2.wipe ((L2.wipe σ us).set u none) vs = _
    rw [wipe_set (h u List.mem_cons_self), wipe_sub fun v m => h v (List.mem_cons_of_mem _ m)]
theorem gs_wipe {vs : List Nat} {Q : L2.St → Hp → Prop} {H : Hp} {σ0 : L2.St} : ∀ {is : List Nat} {xs : List V} {σ : L2.St}, (is.all fun i => decide (i ∈ vs)) = true → L2.wipe σ vs = L2.wipe σ0 vs → gsOf is xs σ H Q → gsOf is xs σ H fun σ' H' => L2.wipe σ' vs = L2.wipe σ0 vs ∧ Q σ' H'
  | [], xs, σ, _, e, h => ⟨h.1, e, h.2⟩
  | i :: is, xs, σ, hm, e, h => by
    obtain ⟨v, r, h1, h2⟩ := h
    obtain ⟨m1, m2⟩ := ba (show (decide (i ∈ vs) && is.all fun i => decide (i ∈ vs)) = true from hm)
    exact ⟨v, r, h1, gs_wipe (is := is) m2 (by rw [wipe_set (of_decide_eq_true m1)]; exact e) h2⟩
theorem tg_wipe {K : PySem.W.Frag} {vs : List Nat} {Q : L2.St → Hp → Prop} {H : Hp} {tg : Tgt} {v : V} {σ : L2.St} (hm : tgIn tg vs = true) (h : tgOf K tg v σ H Q) : tgOf K tg v σ H fun σ' H' => L2.wipe σ' vs = L2.wipe σ vs ∧ Q σ' H' := by
  cases tg with
  | nm i => exact ⟨wipe_set (of_decide_eq_true hm), h⟩
  | tp is =>
    obtain ⟨a, xs, h1, h2, h3, h4⟩ := h
    exact ⟨a, xs, h1, h2, h3, gs_wipe hm rfl h4⟩
theorem tg_wipe' {K : PySem.W.Frag} {vs : List Nat} {Q : L2.St → Hp → Prop} {H : Hp} {tg : Tgt} {v : V} {σ τ : L2.St} (hm : tgIn tg vs = true) (e : L2.wipe σ vs = τ) (h : tgOf K tg v σ H Q) : tgOf K tg v σ H fun σ' H' => L2.wipe σ' vs = τ ∧ Q σ' H' := by
  rw [← e]
  exact tg_wipe hm h
theorem V0.later {K : PySem.W.Frag} {F H F1 H1 F2 H2 : Hp} {S : List Addr} {fr : Bool} {v : V} {d : D} {T : List Addr} (x : V0 K F H S fr F1 H1 v d T) (p : Post0 F1 H1 F2 H2) : V0 K F H S fr F2 H2 v d T :=
  ⟨x.post.trans p, x.rep.mono p.f p.h, x.nd, fun a m => ⟨let ⟨o, ho, nt, _⟩ := x.rep.dom a m; p.new a o (x.own a m).1 ho nt, (x.own a m).2⟩⟩

abbrev WF : WX := fun _ _ _ _ => False
def lcL (t : Tgt) (tt : WT0) (we : W0) (ρ0 : Ev) : List D → List D → (List D → Prop) → Prop
  | [], acc, k => k acc
  | d :: ds, acc, k => match bindT t d ρ0 with
    | some ρ1 => tt ρ1 (fun b => match b with
      | true => we ρ1 (fun y => acc.length < sizeLine ∧ lcL t tt we ρ0 ds (acc ++ [y]) k) (fun _ => False)
      | false => lcL t tt we ρ0 ds acc k) (fun _ => False)
    | none => False
def wLc (t : Tgt) (ws : WA0) (vs : List Nat) (tt : WT0) (we : W0) : W0 := fun ρ P E => ws ρ (fun ds => lcL t tt we (wipeE ρ vs) ds [] (fun acc => P (.lst true acc))) E
section
variable {X : Cx} {W : WX} {fr fa fb fc : Bool} {tg iter a b c e elt : Expr} {es ifs : List Expr} {w0 wi we : W0} {ws : WA0} {w1 : W1} {tt : WT0} {st : Stmt} {sts : List Stmt} {wa wb wc : WS} {pos pos' p : Pos} {t : Tgt} {scope : Scope} {own : List (Str × Nat)} {vs : List Nat}
theorem lc_ok (hv : tgIn t vs = true) : ∀ σ H Q, lift0 X W true (wLc t ws vs tt we) σ H Q → tLc (liftI X W ws) (tgOf X.K t) (liftT0 X WF tt) (lift0 X WF true we) vs σ H Q := fun σ H Q ⟨F, ρ, S, P, E, R, w, k, kx⟩ =>
  ⟨F, ρ, S, _, E, R, w, fun ds q J F1 H1 p1 it D hD => by
    refine ⟨fun i m H' => m = ds.length - i ∧ i ≤ ds.length ∧ ∃ F' acc T, V0 X.K F1 H1 S true F' H' (.ref D) (.lst true acc) T ∧ lcL t tt we (wipeE ρ vs) (ds.drop i) acc (fun acc => P (.lst true acc)),
      ⟨ds.length, by simp, Nat.zero_le _, F1, [], [D], V0.newL p1.fh hD .nil, by simpa using q⟩, ?_⟩
    rintro i m H' ⟨rfl, hi, F', acc, T, V, q'⟩
    obtain ⟨i1, i2⟩ := it i F' H' V.post.f V.post.fh
    by_cases hlt : i < ds.length
    · have hd : ds[i]? = some ds[i] := by simp [hlt]
      obtain ⟨go, yl⟩ := i1 _ hd
      rw [List.drop_eq_getElem_cons hlt] at q'
      refine .inr ⟨go, fun H2 => i + 1 ≤ ds.length ∧ ∃ F2 acc T, V0 X.K F1 H1 S true F2 H2 (.ref D) (.lst true acc) T ∧ lcL t tt we (wipeE ρ vs) (ds.drop (i + 1)) acc (fun acc => P (.lst true acc)), fun H2 ⟨h1, h2⟩ => ⟨ds.length - (i + 1), by omega, rfl, h1, h2⟩, fun x H2 y => ?_⟩
      obtain ⟨F2, p2, r2⟩ := yl x H2 y
      unfold lcL at q'
      split at q'
      · rename_i ρ1 hbd
        have V2 := V.later p2
        obtain ⟨S0, R0, hS0⟩ := ((R.post p1).post V2.post).wipe vs
        have R0' := R0
        have ew : L2.wipe (L2.wipe σ vs) vs = L2.wipe σ vs := wipe_sub fun u m => m
        refine tg_wipe' hv ew (tgOf_ok R0' (⟨r2, List.nodup_nil, fun a m => nomatch m⟩ : RepT X.K F2 H2 S0 x ds[i] []) hbd fun σ3 S3 R3 h3 => ?_)
        refine ⟨F2, ρ1, S3, _, _, R3, q', fun b qb F3 H3 p3 => ?_, fun x hx => hx.elim⟩
        have V3 := V2.later p3
        cases b with
        | false => exact ⟨hlt, F3, acc, T, V3, qb⟩
        | true =>
          refine ⟨F3, ρ1, S3, _, _, R3.post p3, qb, fun yv qy v F4 H4 Ty V4 => ?_, fun x hx => hx.elim⟩
          have V5 := V3.later V4.post
          have nd3 := V3.rep
          have h3D : ∃ o, H3 D = some o := by
            cases V3.rep with
            | lstO p vs ds T hp rs => exact ⟨_, hp⟩
          obtain ⟨o3, h3D⟩ := h3D
          have dom3 : ∀ a ∈ T, ∃ o, H3 a = some o := fun a m => let ⟨o, h, _⟩ := V3.rep.dom a m; ⟨o, h⟩
          have newY : ∀ a ∈ Ty, H3 a = none := fun a m => (V4.own a m).2.elim id fun z => Bool.noConfusion z.1
          have rep5 := V5.rep
          have own5 := V5.own
          have nd5 := V5.nd
          cases rep5 with
          | lstO p vs' ds' T' hp rs =>
            have F4D : F4 D = none := (own5 D List.mem_cons_self).1
            have DT' : D ∉ T' := (List.nodup_cons.mp nd5).1
            have DTy : D ∉ Ty := fun m => by rw [newY D m] at h3D; cases h3D
            have disj : ∀ a ∈ T', a ∉ Ty := fun a m z => by
              obtain ⟨o, ho⟩ := dom3 a (List.mem_cons_of_mem _ m)
              rw [newY a z] at ho; cases ho
            have pn : Post0 F1 H1 F4 (upd H4 D (.lst (vs' ++ [v]))) := ⟨fun a o h => by rw [upd_ne (ne_of_none h hD)]; exact V5.post.h a o h, V5.post.f, fun a o h => by rw [upd_ne (ne_of_none h F4D)]; exact V4.post.fh a o h, V5.post.new⟩
            refine ⟨vs', hp, by rw [rs.len]; exact qy.1, hlt, F4, acc ++ [yv], D :: (T' ++ Ty), ⟨pn, ?_, ?_, ?_⟩, qy.2⟩
            · refine .lstO D (vs' ++ [v]) (acc ++ [yv]) (T' ++ Ty) upd_same ((rs.append (.one V4.rep)).frame (Same.refl _) fun a o m h => ?_)
              have ne : a ≠ D := fun e => by
                subst e
                rcases List.mem_append.mp m with m | m
                · exact DT' m
                · exact DTy m
              rw [upd_ne ne]; exact h
            · refine List.nodup_cons.mpr ⟨fun m => (List.mem_append.mp m).elim DT' DTy, List.nodup_append.mpr ⟨(List.nodup_cons.mp nd5).2, V4.nd, fun x hx y hy z => by subst z; exact disj x hx hy⟩⟩
            · intro a m
              rcases List.mem_cons.mp m with m | m
              · subst m; exact own5 a List.mem_cons_self
              · rcases List.mem_append.mp m with m | m
                · exact own5 a (List.mem_cons_of_mem _ m)
                · exact ⟨(V4.own a m).1, .inl (V3.post.h.free (newY a m))⟩
      · exact q'.elim
    · have e0 : ds.drop i = [] := List.drop_eq_nil_of_le (by omega)
      rw [e0] at q'
      exact .inl ⟨i2 (by omega), k _ q' _ F' H' T ⟨p1.trans V.post, V.rep, V.nd, fun a m => ⟨(V.own a m).1, (V.own a m).2.elim (fun z => .inl (p1.h.free z)) fun z => Bool.noConfusion z.1⟩⟩⟩, kx⟩
abbrev PTs0 (X : Cx) (W : WX) (ifs : List Expr) (w : WT0) : Prop := PTs X ifs (liftT0 X W w)
def tTrue : WT0 := fun _ P _ => P true
theorem ts_nil : PTs0 X W [] tTrue := ⟨fun _ _ _ H _ I ⟨F, ρ, S, P, E, R, w, k, _⟩ => wpAny_tests_nil ⟨H, I, k true w F H (Post0.refl R.same)⟩⟩
theorem ts_one (h : PT0 X W c tt) : PTs0 X W [c] tt := pts_one h
theorem g_lc (hc : X.calm = true) (hN : X.N.Nodup) (hv : tgIn t (own.map (·.2)) = true) (hi : PI0 X W tg iter ws) (ok : BlkOk X.N X.env.scope scope own)
    (hg : ∀ (s : Shared) (H : Hp) (C : Addr) (cl : List (Str × Addr)) (fp : List Addr), PG (X.blk s H scope (compEnvC scope cl C X.env) fp) tg (tgOf X.K t))
    (ht : ∀ (s : Shared) (H : Hp) (C : Addr) (cl : List (Str × Addr)) (fp : List Addr), PTs0 (X.blk s H scope (compEnvC scope cl C X.env) fp) WF ifs tt)
    (he : ∀ (s : Shared) (H : Hp) (C : Addr) (cl : List (Str × Addr)) (fp : List Addr), PE0 (X.blk s H scope (compEnvC scope cl C X.env) fp) WF true elt we)
    (hs : ∀ x, foldedSetIterable iter X.env x = pure x := by intro _; rfl) : PE0 X W true (.ListComp elt [⟨tg, iter, ifs, 0⟩] scope pos) (wLc t ws (own.map (·.2)) tt we) :=
  PE.imp (pe_lc hc hN hi ok hg ht he hs) (lc_ok hv)
theorem up_ok : ∀ σ H Q, lift1 X W (wUp w0) σ H Q → lift0 X W true w0 σ H Q := fun σ H Q ⟨F, ρ, S, P, E, R, w, k, kx⟩ =>
  ⟨F, ρ, S, _, _, R, w, fun d q v F' H' T V => by
    have nm : ∀ a ∈ T, a ∉ S := fun a m z => by
      obtain ⟨o, ho⟩ := R.dom a z
      rcases (V.own a m).2 with n | ⟨n, _⟩
      · rw [ho] at n; cases n
      · cases n
    exact k d ρ q v F' H' S T ⟨V.post.f, fun a o h _ => V.post.h a o h, fun a m => (List.mem_append.mp m).elim .inl fun m => .inr ((V.own a m).2.elim id fun z => Bool.noConfusion z.1), fun a o h1 h2 h3 _ => V.post.new a o h1 h2 h3⟩ (R.post V.post)
      ⟨V.rep, V.nd, fun a m => ⟨(V.own a m).1, nm a m⟩⟩, fun x q cls dd F' H' p ex => kx x ρ q cls dd F' H' S p.s (R.post p) ex⟩
/-- name = [..] on one line, the name a local -/
theorem s_setLc {i : Nat} {y : Str} {py spos : Pos} (hc : X.calm = true) (hN : X.N.Nodup) (hy : X.N[i]? = some y) (hyl : X.env.scope.names.lookup y = some .local)
    (hsw : swapsWith (.ListComp elt [⟨tg, iter, ifs, 0⟩] scope pos) (some (.Name y py)) spos.line X.env = pure true) (hv : tgIn t (own.map (·.2)) = true) (hi : PI0 X W tg iter ws) (ok : BlkOk X.N X.env.scope scope own)
    (hg : ∀ (s : Shared) (H : Hp) (C : Addr) (cl : List (Str × Addr)) (fp : List Addr), PG (X.blk s H scope (compEnvC scope cl C X.env) fp) tg (tgOf X.K t))
    (ht : ∀ (s : Shared) (H : Hp) (C : Addr) (cl : List (Str × Addr)) (fp : List Addr), PTs0 (X.blk s H scope (compEnvC scope cl C X.env) fp) WF ifs tt)
    (he : ∀ (s : Shared) (H : Hp) (C : Addr) (cl : List (Str × Addr)) (fp : List Addr), PE0 (X.blk s H scope (compEnvC scope cl C X.env) fp) WF true elt we)
    (hs : ∀ x, foldedSetIterable iter X.env x = pure x := by intro _; rfl) :
    PS0 X W (.Assign [.Name y py] (.ListComp elt [⟨tg, iter, ifs, 0⟩] scope pos) spos) (sAsg (.nm i) (wUp (wLc t ws (own.map (·.2)) tt we))) :=
  PS.imp (ps_setLc hc hN hy hyl hsw hi ok hg ht he hs) fun D σ H h => lc_ok hv σ H _ (up_ok σ H _ (asg_ok (tg := .nm i) D σ H h))
/-- the same, the block lent all that the frame owns -/
theorem s_setLcL {i : Nat} {y : Str} {py spos : Pos} (hc : X.calm = true) (hN : X.N.Nodup) (hy : X.N[i]? = some y) (hyl : X.env.scope.names.lookup y = some .local)
    (hsw : swapsWith (.ListComp elt [⟨tg, iter, ifs, 0⟩] scope pos) (some (.Name y py)) spos.line X.env = pure true) (hv : tgIn t (own.map (·.2)) = true) (hi : PI0 X W tg iter ws) (ok : BlkOk X.N X.env.scope scope own)
    (hg : ∀ (s : Shared) (H : Hp) (C : Addr) (cl : List (Str × Addr)) (fp : List Addr), PG (X.blk s H scope (compEnvC scope cl C X.env) fp) tg (tgOf X.K t))
    (ht : ∀ (s : Shared) (H : Hp) (C : Addr) (cl : List (Str × Addr)) (fp : List Addr), PTs0 (X.blk s H scope (compEnvC scope cl C X.env) fp) WF ifs tt)
    (he : ∀ (s : Shared) (H : Hp) (C : Addr) (cl : List (Str × Addr)) (fp : List Addr), PE0 (X.blk s H scope (compEnvC scope cl C X.env) fp) WF true elt we)
    (hs : ∀ x, foldedSetIterable iter X.env x = pure x := by intro _; rfl) :
    PS0 X W (.Assign [.Name y py] (.ListComp elt [⟨tg, iter, ifs, 0⟩] scope pos) spos) (sAsg (.nm i) (wUp (wLend (wLc t ws (own.map (·.2)) tt we)))) :=
  PS.imp (ps_setLc hc hN hy hyl hsw hi ok hg ht he hs) fun D σ H h => lc_ok hv σ H _ (lend_ok σ H _ (up_ok σ H _ (asg_ok (tg := .nm i) D σ H h)))
end
end DL

namespace DL
open PySem PySem.Spec PyProof.Rows L2

/-! ### built-in functions -/
abbrev GA := List D → (D → Prop) → Prop
def BiD (X : Cx) (f : Value) (g : GA) : Prop :=
  ∃ r, CallR X f r ∧ ∀ (F H : Hp) (vs : List V) (ds : List D) (S : List Addr) (P : D → Prop) (Q : VK), Same F H → Reps X.K F H vs ds S → g ds P →
    (∀ d, P d → ∀ v F' H' T, V0 X.K F H [] true F' H' v d T → Q v H') → r vs H Q
section
variable {X : Cx} {W : WX} {fr fa fb fc : Bool} {tg iter a b c e elt : Expr} {es ifs : List Expr} {w0 wi we wa wb wc : W0} {ws : WA0} {w1 : W1} {tt : WT0} {pos pos' p : Pos} {x : Str} {id T : String} {g : GA}
def wBi (g : GA) (ws : WA0) : W0 := fun ρ P E => ws ρ (fun ds => g ds P) E
theorem bi_ok {r : List V → Hp → VK → Prop} (hr : ∀ (F H : Hp) (vs : List V) (ds : List D) (S : List Addr) (P : D → Prop) (Q : VK), Same F H → Reps X.K F H vs ds S → g ds P → (∀ d, P d → ∀ v F' H' T, V0 X.K F H [] true F' H' v d T → Q v H') → r vs H Q) :
    ∀ σ H Q, lift0 X W true (wBi g ws) σ H Q → tCB r (liftA0 X W fr ws) σ H Q := fun σ H Q ⟨F, ρ, S, P, E, R, w, k, kx⟩ => ⟨F, ρ, S, _, E, R, w, fun ds q vs F1 H1 T1 V1 =>
  hr F1 H1 vs ds T1 P Q V1.post.fh V1.rep q fun d q2 v F2 H2 T2 V2 => k d q2 v F2 H2 T2 ⟨V1.post.trans V2.post, V2.rep, V2.nd, fun a m => ⟨(V2.own a m).1, (V2.own a m).2.elim (fun z => .inl (V1.post.h.free z)) fun z => Bool.noConfusion z.1⟩⟩, kx⟩
theorem g_bi (hb : BiD X (.builtin id) g) (hg : Gl X x) (hm : X.mg x = none) (hv : bootBuiltins x = some (.builtin id)) (ha : PA0 X W fr (e :: es) ws) (hn : x ≠ "__name__" := by decide) (hdb : (x == ("__debug__" : Str)) = false := by decide)
    (he : starEach (e :: es) X.env = (false, eval e X.env) :: starEach es X.env := by rfl) (hpl : (backTo pos (starEach es X.env)).any (·.1) = false := by rfl) : PE0 X W true (.Call (.Name x p) (e :: es) [] pos) (wBi g ws) := by
  obtain ⟨r, h1, h2⟩ := hb
  exact PE.imp (pe_callB h1 hg hm hv ha hn hdb he hpl) (bi_ok h2)
theorem g_ty (hb : BiD X (.type T) g) (hg : Gl X x) (hm : X.mg x = none) (hv : bootBuiltins x = some (.type T)) (ha : PA0 X W fr (e :: es) ws) (hn : x ≠ "__name__" := by decide) (hdb : (x == ("__debug__" : Str)) = false := by decide)
    (he : starEach (e :: es) X.env = (false, eval e X.env) :: starEach es X.env := by rfl) (hpl : (backTo pos (starEach es X.env)).any (·.1) = false := by rfl) : PE0 X W true (.Call (.Name x p) (e :: es) [] pos) (wBi g ws) := by
  obtain ⟨r, h1, h2⟩ := hb
  exact PE.imp (pe_callTy h1 hg hm hv ha hn hdb he hpl) (bi_ok h2)
/-- len -/
def lenD : D → Option Nat
  | .lst _ xs => some xs.length
  | .con xs => some xs.length
  | .tup xs => some xs.length
  | .dic _ _ ks _ => some ks.length
  | .str z => if z.length ≤ sizeLine then some z.length else none
  | _ => none
def gLen : GA
  | [d], P => (match lenD d with | some n => P (.int (n : Int)) | none => False)
  | _, _ => False
theorem DicAt.klen {h : Option HO} {ks : List D} {vs : List V} (x : DicAt h 0 ks vs) : ∃ kvs, h = some (.dK kvs) ∧ kvs.length = ks.length := by
  cases x with
  | k kvs _ _ a b c nd kg =>
    have z := congrArg List.length b
    rw [List.length_map, List.length_map] at z
    exact ⟨kvs, a, z.symm⟩
theorem DicAt.tlen {h : Option HO} {ks : List D} {vs : List V} (x : DicAt h 1 ks vs) : ∃ kvs, h = some (.dT kvs) ∧ kvs.length = ks.length := by
  cases x with
  | t kvs _ _ a b c nd kg =>
    have z := congrArg List.length b
    rw [List.length_map, List.length_map] at z
    exact ⟨kvs, a, z.symm⟩
theorem Rep.dicH {K : PySem.W.Frag} {F H : Hp} {v : V} {o : Bool} {t : Nat} {ks ds : List D} {S : List Addr} (e : Same F H) (r : Rep K F H v (.dic o t ks ds) S) : ∃ p vs A T, v = .ref p ∧ DicAt (H p) t ks vs ∧ Reps K F H vs ds T ∧ S = A ++ T := by
  cases r with
  | dicF p t ks vs ds da rs => exact ⟨p, vs, [], [], rfl, dicAt_mono (e p) da, rs, rfl⟩
  | dicO p t ks vs ds T da rs => exact ⟨p, vs, [p], T, rfl, da, rs, rfl⟩
theorem DicAt.kind {h : Option HO} {t : Nat} {ks : List D} {vs : List V} (x : DicAt h t ks vs) : t = 0 ∨ t = 1 := by
  cases x with
  | k => exact .inl rfl
  | t => exact .inr rfl
theorem bi_len : BiD X (.builtin "len") gLen := by
  refine ⟨_, CallR.or call_len (CallR.or call_lenD call_len_dT), fun F H vs ds S P Q e r g k => ?_⟩
  unfold gLen at g
  split at g
  · rename_i d
    split at g
    · rename_i n hn
      obtain ⟨v, rfl, rv⟩ := r.single
      have fin := k _ g (.int (n : Int)) F H [] (V0.flat e (.int _))
      unfold lenD at hn
      split at hn
      · cases hn
        obtain ⟨p, vs, _, _, rfl, h1, r1, _⟩ := rv.lstH e
        exact .inl ⟨_, _, rfl, .inl ⟨vs, .of h1, r1.len.symm⟩, fin⟩
      · cases hn
        obtain ⟨p, vs, _, _, rfl, h1, r1, _⟩ := Rep.seqL (ds := _) e rfl rv
        exact .inl ⟨_, _, rfl, .inl ⟨vs, h1, r1.len.symm⟩, fin⟩
      · cases hn
        obtain ⟨p, vs, rfl, _, h1, r1⟩ := rv.tupH e
        exact .inl ⟨_, _, rfl, .inr ⟨vs, .of h1, r1.len.symm⟩, fin⟩
      · rename_i o t ks vs
        cases hn
        obtain ⟨p, us, _, _, rfl, da, _, _⟩ := rv.dicH e
        rcases da.kind with z | z
        · subst z
          obtain ⟨kvs, h1, h2⟩ := da.klen
          exact .inr (.inl ⟨p, kvs, rfl, h1, by rw [h2]; exact fin⟩)
        · subst z
          obtain ⟨kvs, h1, h2⟩ := da.tlen
          exact .inr (.inr ⟨p, kvs, rfl, h1, by rw [h2]; exact fin⟩)
      · rename_i z
        split at hn
        · rename_i hz
          cases hn
          cases rv
          exact .inl ⟨_, _, rfl, (show z.length ≤ sizeLine ∧ z.length = z.length from ⟨hz, rfl⟩), fin⟩
        · cases hn
      · cases hn
    · exact g.elim
  · exact g.elim
/-- tuples may be taken for good -/
def tupF (F H : Hp) : Hp := fun a => match H a with
  | some (.tup xs) => some (.tup xs)
  | _ => F a
theorem tupF_at {F H : Hp} {a : Addr} {xs : List V} (h : H a = some (.tup xs)) : tupF F H a = some (.tup xs) := by
  unfold tupF
  rw [h]
theorem tupF_post {F H : Hp} (e : Same F H) : Post0 F H (tupF F H) H := by
  refine ⟨Same.refl _, fun a o h => ?_, fun a o h => ?_, fun a o h1 h2 h3 => ?_⟩
  · unfold tupF
    split
    · rename_i xs h2
      rw [e a o h] at h2
      exact h2.symm
    · exact h
  · unfold tupF at h
    split at h
    · rename_i xs h2
      rw [h2]; exact h
    · exact e a o h
  · unfold tupF
    split
    · rename_i xs h4
      rw [h2] at h4
      exact absurd (Option.some.inj h4) (h3 xs)
    · exact h1
theorem keyD_rep {K : PySem.W.Frag} {F H : Hp} {d : D} {k : Key} (h : keyD d = some k) (g : kGood k = true) : Rep K F H (kV k) d [] := by
  cases d <;> first | (cases h; first | exact .int _ | exact .str _ g) | cases h
theorem keysD_rep {K : PySem.W.Frag} {F H : Hp} : ∀ {ds : List D} {ks : List Key}, keysD ds = some ks → ks.all kGood = true → Reps K F H (ks.map kV) ds []
  | [], ks, h, _ => by cases h; exact .nil
  | x :: r, ks, h, g => by
    unfold keysD at h
    cases h1 : keyD x with
    | none => rw [h1] at h; cases h
    | some k =>
      cases h2 : keysD r with
      | none => rw [h1, h2] at h; cases h
      | some q =>
        rw [h1, h2] at h
        cases h
        obtain ⟨g1, g2⟩ := ba (show (kGood k && q.all kGood) = true from g)
        exact .cons _ _ _ _ [] [] (keyD_rep h1 g1) (keysD_rep h2 g2)
theorem keys_rep {K : PySem.W.Frag} {F H : Hp} : ∀ {ks : List D} {kvs : List (Key × V)}, ks.map keyD = kvs.map (fun q => some q.1) → (kvs.all fun q => kGood q.1) = true → Reps K F H (kvs.map fun q => kV q.1) ks []
  | [], [], _, _ => .nil
  | [], _ :: _, h, _ => by cases h
  | _ :: _, [], h, _ => by cases h
  | x :: r, q :: qs, h, g => by
    rw [List.map_cons, List.map_cons] at h
    injection h with h1 h2
    obtain ⟨g1, g2⟩ := ba (show (kGood q.1 && qs.all fun q => kGood q.1) = true from g)
    exact .cons _ _ _ _ [] [] (keyD_rep h1 g1) (keys_rep h2 g2)
theorem tkeys_rep {K : PySem.W.Frag} {F H : Hp} : ∀ {ks : List D} {kvs : List (List Key × V)} {bs : List Addr}, ks.map tkeyD = kvs.map (fun q => some q.1) → (kvs.all fun q => q.1.all kGood) = true → IsKeys H kvs bs → Reps K (tupF F H) H (bs.map V.ref) ks []
  | [], [], bs, _, _, h => by cases h; exact .nil
  | [], _ :: _, _, h, _, _ => by cases h
  | _ :: _, [], _, h, _, _ => by cases h
  | x :: r, q :: qs, bs, h, g, kk => by
    rw [List.map_cons, List.map_cons] at h
    injection h with h1 h2
    obtain ⟨g1, g2⟩ := ba (show (q.1.all kGood && qs.all fun q => q.1.all kGood) = true from g)
    cases kk with
    | cons hb kk =>
      cases x with
      | tup ds => exact .cons _ _ _ _ [] [] (.tup _ _ ds [] (tupF_at hb) (keysD_rep h1 g1)) (tkeys_rep h2 g2 kk)
      | _ => cases h1
/-- list(x) -/
def gList : GA
  | [.lst _ xs], P => isFs xs = true ∧ P (.lst true xs)
  | [.con xs], P => P (.lst true xs)
  | [.tup xs], P => isFs xs = true ∧ P (.lst true xs)
  | [.dic _ _ ks _], P => P (.lst true ks)
  | _, _ => False
theorem ty_list (hc : X.calm = true) : BiD X (.type "list") gList := by
  refine ⟨_, CallR.or call_list_of (CallR.or (call_listD hc) (call_list_dT hc)), fun F H vs ds S P Q e r g k => ?_⟩
  unfold gList at g
  split at g
  · obtain ⟨v, rfl, rv⟩ := r.single
    obtain ⟨p, us, _, _, rfl, h1, r1, _⟩ := rv.lstH e
    exact .inl ⟨p, us, rfl, .inl (.of h1), fun l hl => k _ g.2 _ _ _ _ (V0.newL e hl (r1.own g.1))⟩
  · obtain ⟨v, rfl, rv⟩ := r.single
    cases rv with
    | con p us ds h1 r1 => exact .inl ⟨p, us, rfl, .inl (e.seq h1), fun l hl => k _ g _ _ _ _ (V0.newL e hl r1)⟩
  · obtain ⟨v, rfl, rv⟩ := r.single
    obtain ⟨p, us, rfl, _, h1, r1⟩ := rv.tupH e
    exact .inl ⟨p, us, rfl, .inr (.of h1), fun l hl => k _ g.2 _ _ _ _ (V0.newL e hl (r1.own g.1))⟩
  · obtain ⟨v, rfl, rv⟩ := r.single
    obtain ⟨p, us, _, _, rfl, da, _, _⟩ := rv.dicH e
    cases da with
    | k kvs _ _ a b c nd kg => exact .inr (.inl ⟨p, kvs, rfl, .inl a, fun l hl => k _ g _ _ _ _ (V0.newL e hl (keys_rep b kg))⟩)
    | t kvs _ _ a b c nd kg =>
      refine .inr (.inr ⟨p, kvs, rfl, .inl a, fun l bs hl hk => ?_⟩)
      have pp := tupF_post e
      have V := V0.newL (K := X.K) (S := []) (fr := true) pp.fh hl (tkeys_rep b kg hk)
      exact k _ g _ _ _ _ ⟨pp.trans V.post, V.rep, V.nd, V.own⟩
  · exact g.elim
/-- tuple(x) -/
def gTuple : GA
  | [.lst _ xs], P => isFs xs = true ∧ P (.tup xs)
  | [.con xs], P => P (.tup xs)
  | [.tup xs], P => isFs xs = true ∧ P (.tup xs)
  | _, _ => False
theorem ty_tuple : BiD X (.type "tuple") gTuple := by
  refine ⟨_, call_tuple_of, fun F H vs ds S P Q e r g k => ?_⟩
  have mk : ∀ {us : List V} {xs : List D} {l : Addr}, H l = none → Reps X.K F H us xs [] → V0 X.K F H [] true (upd F l (.tup us)) (upd H l (.tup us)) (.ref l) (.tup xs) [] := fun {us xs l} hl r1 => by
    have z := Post0.newF (o := .tup us) e hl
    exact ⟨z, .tup l us xs [] upd_same (r1.mono z.f z.h), List.nodup_nil, fun a m => nomatch m⟩
  unfold gTuple at g
  split at g
  · obtain ⟨v, rfl, rv⟩ := r.single
    obtain ⟨p, us, _, _, rfl, h1, r1, _⟩ := rv.lstH e
    exact ⟨p, us, rfl, .inl ⟨.of h1, fun l hl => k _ g.2 _ _ _ _ (mk hl (r1.own g.1))⟩⟩
  · obtain ⟨v, rfl, rv⟩ := r.single
    cases rv with
    | con p us ds h1 r1 => exact ⟨p, us, rfl, .inl ⟨e.seq h1, fun l hl => k _ g _ _ _ _ (mk hl r1)⟩⟩
  · obtain ⟨v, rfl, rv⟩ := r.single
    have rv' := rv
    obtain ⟨p, us, rfl, h0, h1, r1⟩ := rv.tupH e
    exact ⟨p, us, rfl, .inr ⟨.of h1, k _ g.2 _ F H [] (V0.flat e (.tup p us _ [] h0 (r1.own g.1)))⟩⟩
  · exact g.elim
/-- int(i), int(b) -/
def gIntB : GA
  | [.int i], P => P (.int i)
  | [.bl b], P => P (.int (if b then 1 else 0))
  | _, _ => False
theorem ty_int : BiD X (.type "int") gIntB := by
  refine ⟨_, call_int1, fun F H vs ds S P Q e r g k => ?_⟩
  unfold gIntB at g
  split at g
  · obtain ⟨v, rfl, rv⟩ := r.single
    cases rv
    exact .inl ⟨_, rfl, k _ g _ F H [] (V0.flat e (.int _))⟩
  · obtain ⟨v, rfl, rv⟩ := r.single
    cases rv
    exact .inr ⟨_, rfl, k _ g _ F H [] (V0.flat e (.int _))⟩
  · exact g.elim
theorem Reps.pair {K : PySem.W.Frag} {F H : Hp} {vs : List V} {d1 d2 : D} {S : List Addr} (r : Reps K F H vs [d1, d2] S) : ∃ v1 v2 A B, vs = [v1, v2] ∧ Rep K F H v1 d1 A ∧ Rep K F H v2 d2 B := by
  cases r with
  | cons v d vs ds A T r rs =>
    obtain ⟨v2, rfl, r2⟩ := rs.single
    exact ⟨v, v2, A, T, rfl, r, r2⟩
def gMax2 : GA
  | [.int i, .int j], P => P (.int (if j > i then j else i))
  | _, _ => False
def gMin2 : GA
  | [.int i, .int j], P => P (.int (if j < i then j else i))
  | _, _ => False
theorem bi_max2 (hc : X.calm = true) : BiD X (.builtin "max") gMax2 := by
  refine ⟨_, call_max2 hc, fun F H vs ds S P Q e r g k => ?_⟩
  unfold gMax2 at g
  split at g
  · obtain ⟨v1, v2, _, _, rfl, r1, r2⟩ := r.pair
    cases r1; cases r2
    exact ⟨_, _, rfl, k _ g _ F H [] (V0.flat e (.int _))⟩
  · exact g.elim
theorem bi_min2 (hc : X.calm = true) : BiD X (.builtin "min") gMin2 := by
  refine ⟨_, call_min2 hc, fun F H vs ds S P Q e r g k => ?_⟩
  unfold gMin2 at g
  split at g
  · obtain ⟨v1, v2, _, _, rfl, r1, r2⟩ := r.pair
    cases r1; cases r2
    exact ⟨_, _, rfl, k _ g _ F H [] (V0.flat e (.int _))⟩
  · exact g.elim
/-- all whole numbers -/
def intsD : List D → Option (List Int)
  | [] => some []
  | .int x :: r => (intsD r).map (x :: ·)
  | _ :: _ => none
theorem ints_rep {K : PySem.W.Frag} {F H : Hp} : ∀ {vs : List V} {ds : List D} {S : List Addr} {zs : List Int}, Reps K F H vs ds S → intsD ds = some zs → vs = zs.map V.int
  | _, _, _, _, .nil, h => by cases h; rfl
  | _, _, _, _, .cons v d vs ds S T r rs, h => by
    cases r with
    | int x =>
      have h' : (intsD ds).map (x :: ·) = some _ := h
      cases e : intsD ds with
      | none => rw [e] at h'; cases h'
      | some zs' =>
        rw [e] at h'
        cases h'
        rw [ints_rep rs e]
        rfl
    | _ => cases h
def gSum : GA
  | [d], P => (match lstD d with
    | some xs => (match intsD xs with | some ns => P (.int ns.sum) | none => False)
    | none => False)
  | _, _ => False
theorem bi_sum (hc : X.calm = true) : BiD X (.builtin "sum") gSum := by
  refine ⟨_, cr_sum hc, fun F H vs ds S P Q e r g k => ?_⟩
  unfold gSum at g
  split at g
  · split at g
    · rename_i xs hx
      split at g
      · rename_i ns hn
        obtain ⟨v, rfl, rv⟩ := r.single
        obtain ⟨p, us, _, _, rfl, h1, r1, _⟩ := Rep.seqL e hx rv
        have ev := ints_rep r1 hn
        subst ev
        exact ⟨p, ns, rfl, h1, k _ g _ F H [] (V0.flat e (.int _))⟩
      · exact g.elim
    · exact g.elim
  · exact g.elim
/-- sorted of texts, fewer than 64 -/
def gSortS : GA
  | [d], P => (match lstD d with
    | some xs => (match strsD xs with | some zs => zs.length < 64 ∧ ∀ ys : List Str, ys.Perm zs → sortedS ys = true → P (.lst true (ys.map D.str)) | none => False)
    | none => False)
  | _, _ => False
theorem strs_ok {K : PySem.W.Frag} {F H : Hp} : ∀ {vs : List V} {ds : List D} {S : List Addr} {zs : List Str}, Reps K F H vs ds S → strsD ds = some zs → ∀ z ∈ zs, strOk z = true
  | _, _, _, _, .nil, h, z, m => by cases h; cases m
  | _, _, _, _, .cons v d vs ds S T r rs, h, z, m => by
    cases r with
    | str x hx =>
      have h' : (strsD ds).map (x :: ·) = some _ := h
      cases e : strsD ds with
      | none => rw [e] at h'; cases h'
      | some zs' =>
        rw [e] at h'
        cases h'
        rcases List.mem_cons.mp m with m | m
        · rw [m]; exact hx
        · exact strs_ok rs e z m
    | _ => cases h
theorem reps_strs {K : PySem.W.Frag} {F H : Hp} : ∀ {ys : List Str}, (∀ z ∈ ys, strOk z = true) → Reps K F H (ys.map V.str) (ys.map D.str) []
  | [], _ => .nil
  | y :: ys, h => .cons _ _ _ _ [] [] (.str y (h y List.mem_cons_self)) (reps_strs fun z m => h z (List.mem_cons_of_mem _ m))
theorem bi_sortS : BiD X (.builtin "sorted") gSortS := by
  refine ⟨_, cr_sortedS, fun F H vs ds S P Q e r g k => ?_⟩
  unfold gSortS at g
  split at g
  · split at g
    · rename_i xs hx
      split at g
      · rename_i zs hn
        obtain ⟨v, rfl, rv⟩ := r.single
        obtain ⟨p, us, _, _, rfl, h1, r1, _⟩ := Rep.seqL e hx rv
        have ev := strs_rep r1 hn
        subst ev
        exact ⟨p, zs, rfl, h1, g.1, fun ys l h2 h3 hl => k _ (g.2 ys h2 h3) _ _ _ _ (V0.newL e hl (reps_strs fun z m => strs_ok r1 hn z (h2.mem_iff.mp m)))⟩
      · exact g.elim
    · exact g.elim
  · exact g.elim

/-! ### signs, chains, slices -/
def wU (f : Int → Int) (w : W0) : W0 := fun ρ P E => w ρ (fun d => match d with | .int i => P (.int (f i)) | _ => False) E
theorem g_neg (h : PE0 X W fr a w0) : PE0 X W true (.UnaryOp .USub a pos) (wU (fun i => -i) w0) := PE.imp (pe_un un_neg h) fun σ H Q ⟨F, ρ, S, P, E, R, w, k, kx⟩ => ⟨F, ρ, S, _, E, R, w, fun d q v F1 H1 T1 V1 => by
  split at q
  · cases V1.rep
    exact ⟨_, rfl, k _ q _ F1 H1 [] ⟨V1.post, .int _, List.nodup_nil, fun a m => nomatch m⟩⟩
  · exact q.elim, kx⟩
def w3 (g g' : D → D → (D → Prop) → Prop) (wa wb wc : W0) : W0 := fun ρ P E => wa ρ (fun x => wb ρ (fun y => g x y (fun z => match z with
  | .bl true => wc ρ (fun u => g' y u P) E
  | .bl false => P (.bl false)
  | _ => False)) E) E
theorem g_chain {op op' : CmpOp} {g g' : D → D → (D → Prop) → Prop} (ho : OpD X (compareOp op) g) (ho' : OpD X (compareOp op') g') (ha : PE0 X W fa a wa) (hb : PE0 X W fb b wb) (hc : PE0 X W fc c wc)
    (hm : lastMarks [op, op'] [b, c] = false := by with_unfolding_all rfl) : PE0 X W true (.Compare a [op, op'] [b, c] pos) (w3 g g' wa wb wc) := by
  obtain ⟨r, h1, h2⟩ := ho
  obtain ⟨r', h3, h4⟩ := ho'
  refine PE.imp (pe_chain h1 h3 ha hb hc hm) fun σ H Q ⟨F, ρ, S, P, E, R, w, k, kx⟩ => ⟨F, ρ, S, _, E, R, w, fun dx wx x F1 H1 T1 V1 => ⟨F1, ρ, S, _, E, R.post V1.post, wx, fun dy wy y F2 H2 T2 V2 => ?_,
    fun x hx cls dd F2 H2 p q => kx x hx cls dd F2 H2 (V1.post.trans p) q⟩, kx⟩
  refine h2 F2 H2 x y dx dy T1 T2 _ _ V2.post.fh (V1.rep.mono V2.post.f V2.post.h) V2.rep wy fun dz qz z F3 H3 T3 V3 => ?_
  have p3 := (V1.post.trans V2.post).trans V3.post
  split at qz
  · cases V3.rep
    refine ⟨true, rfl, ?_⟩
    rw [if_pos rfl]
    refine ⟨F3, ρ, S, _, E, R.post p3, qz, fun du qu u F4 H4 T4 V4 => ?_, fun x hx cls dd F4 H4 p q => kx x hx cls dd F4 H4 (p3.trans p) q⟩
    have p4 := p3.trans V4.post
    have ry := (V2.rep.mono V3.post.f V3.post.h).mono V4.post.f V4.post.h
    exact h4 F4 H4 y u dy du T2 T4 P Q V4.post.fh ry V4.rep qu fun d qd v F5 H5 T5 V5 => k d qd v F5 H5 T5 ⟨p4.trans V5.post, V5.rep, V5.nd, fun a m => ⟨(V5.own a m).1, (V5.own a m).2.elim (fun z => .inl (p4.h.free z)) fun z => Bool.noConfusion z.1⟩⟩
  · cases V3.rep
    refine ⟨false, rfl, ?_⟩
    rw [if_neg (by decide)]
    exact k _ qz _ F3 H3 [] ⟨p3, .bl _, List.nodup_nil, fun a m => nomatch m⟩
  · exact qz.elim
abbrev WO0 := Ev → (Option Int → Prop) → (Ex → Prop) → Prop
def liftO0 (X : Cx) (W : WX) (w : WO0) : TO := fun σ H Q => ∃ F ρ S P E, Rel X.K F ρ σ H S ∧ w ρ P E ∧
  (∀ o, P o → ∀ F' H', Post0 F H F' H' → Q o H') ∧ (∀ x, E x → ∀ cls dd F' H', Post0 F H F' H' → ExR X.K H' x cls dd → W cls dd σ H')
abbrev PO0 (X : Cx) (W : WX) (e : Option Expr) (w : WO0) : Prop := PO X e (liftO0 X W w)
theorem PO.imp {e : Option Expr} {t t' : TO} (h : PO X e t) (k : ∀ σ H Q, t' σ H Q → t σ H Q) : PO X e t' := ⟨fun pins s σ H Q I q => h.run pins s σ H Q I (k σ H Q q)⟩
def oN : WO0 := fun _ P _ => P none
def oS (w : W0) : WO0 := fun ρ P E => w ρ (fun d => match d with | .int i => P (some i) | _ => False) E
theorem o_none : PO0 X W none oN := PO.imp po_none fun σ H Q ⟨F, ρ, S, P, E, R, w, k, kx⟩ => k none w F H (Post0.refl R.same)
theorem o_some (h : PE0 X W fr e w0) : PO0 X W (some e) (oS w0) := PO.imp (po_some h) fun σ H Q ⟨F, ρ, S, P, E, R, w, k, kx⟩ => ⟨F, ρ, S, _, E, R, w, fun d q v F1 H1 T1 V1 => by
  split at q
  · cases V1.rep
    exact ⟨_, rfl, k _ q F1 H1 V1.post⟩
  · exact q.elim, kx⟩
def cutD (xs : List D) (lo hi : Option Int) : List D := (xs.drop (HT.sIx xs.length 0 lo)).take (HT.sIx xs.length xs.length hi - HT.sIx xs.length 0 lo)
theorem Reps.take0 {K : PySem.W.Frag} {F H : Hp} : ∀ {vs : List V} {ds : List D} (n : Nat), Reps K F H vs ds [] → Reps K F H (vs.take n) (ds.take n) []
  | vs, ds, n, r => by
    obtain ⟨A, B, h1, h2, h3⟩ := r.cut2 n
    have eA : A = [] := (List.append_eq_nil_iff.mp h1.symm).1
    subst eA
    exact h2
theorem Reps.drop0 {K : PySem.W.Frag} {F H : Hp} : ∀ {vs : List V} {ds : List D} (n : Nat), Reps K F H vs ds [] → Reps K F H (vs.drop n) (ds.drop n) []
  | vs, ds, n, r => by
    obtain ⟨A, B, h1, h2, h3⟩ := r.cut2 n
    have eB : B = [] := (List.append_eq_nil_iff.mp h1.symm).2
    subst eB
    exact h3
theorem Reps.cutV {K : PySem.W.Frag} {F H : Hp} {vs : List V} {ds : List D} (lo hi : Option Int) (r : Reps K F H vs ds []) : Reps K F H (L2.cutV vs lo hi) (cutD ds lo hi) [] := by
  unfold L2.cutV cutD
  rw [r.len]
  exact (r.drop0 _).take0 _
/-- x[lo:hi] -/
def gSl (x : D) (lo hi : Option Int) (P : D → Prop) : Prop := match x with
  | .lst _ xs => isFs xs = true ∧ P (.lst true (cutD xs lo hi))
  | .con xs => P (.lst true (cutD xs lo hi))
  | .tup xs => isFs xs = true ∧ P (.tup (cutD xs lo hi))
  | .str z => z.length ≤ sizeLine ∧ (strOk (cutS z lo hi) = true → P (.str (cutS z lo hi)))
  | _ => False
def wSl (w : W0) (wl wh : WO0) : W0 := fun ρ P E => w ρ (fun x => wl ρ (fun lo => wh ρ (fun hi => gSl x lo hi P) E) E) E
theorem strOk_cut {z : Str} (lo hi : Option Int) (h : strOk z = true) : strOk (cutS z lo hi) = true := by
  have h1 : z.cps.all (· < 0x110000) = true := h
  rw [Array.all_eq_true'] at h1
  show (cutS z lo hi).cps.all (· < 0x110000) = true
  rw [Array.all_eq_true']
  intro c m
  refine h1 c ?_
  unfold cutS at m
  have m2 := Array.mem_toArray.mp (by simpa using m)
  simpa using List.mem_of_mem_drop (List.mem_of_mem_take m2)
theorem g_slice {p2 : Pos} {lo hi : Option Expr} {wl wh : WO0} (h : PE0 X W fr e w0) (hl : PO0 X W lo wl) (hh : PO0 X W hi wh) : PE0 X W true (.Subscript e (.Slice lo hi none p2) pos) (wSl w0 wl wh) := by
  refine PE.imp (pe_slice (SlR.or sl_list (SlR.or sl_tupA sl_str)) h hl hh) fun σ H Q ⟨F, ρ, S, P, E, R, w, k, kx⟩ => ⟨F, ρ, S, _, E, R, w, fun dx wx x F1 H1 T1 V1 => ⟨F1, ρ, S, _, E, R.post V1.post, wx, fun l ql F2 H2 p2 =>
    ⟨F2, ρ, S, _, E, (R.post V1.post).post p2, ql, fun u qu F3 H3 p3 => ?_, fun x hx cls dd F3 H3 p q => kx x hx cls dd F3 H3 ((V1.post.trans p2).trans p) q⟩,
    fun x hx cls dd F2 H2 p q => kx x hx cls dd F2 H2 (V1.post.trans p) q⟩, kx⟩
  have pp := (V1.post.trans p2).trans p3
  have rx := (V1.rep.mono p2.f p2.h).mono p3.f p3.h
  have e3 := p3.fh
  unfold gSl at qu
  split at qu
  · obtain ⟨p, vs, _, _, rfl, h1, r1, _⟩ := rx.lstH e3
    refine .inl ⟨p, vs, rfl, .of h1, fun n hn => ?_⟩
    have V := V0.newL (K := X.K) (S := []) (fr := true) e3 hn ((r1.own qu.1).cutV l u)
    exact k _ qu.2 _ _ _ _ ⟨pp.trans V.post, V.rep, V.nd, fun a m => ⟨(V.own a m).1, (V.own a m).2.elim (fun z => .inl (pp.h.free z)) fun z => Bool.noConfusion z.1⟩⟩
  · cases rx with
    | con p vs ds h1 r1 =>
      refine .inl ⟨p, vs, rfl, e3.seq h1, fun n hn => ?_⟩
      have V := V0.newL (K := X.K) (S := []) (fr := true) e3 hn (r1.cutV l u)
      exact k _ qu _ _ _ _ ⟨pp.trans V.post, V.rep, V.nd, fun a m => ⟨(V.own a m).1, (V.own a m).2.elim (fun z => .inl (pp.h.free z)) fun z => Bool.noConfusion z.1⟩⟩
  · rename_i xs
    obtain ⟨p, vs, rfl, h0, h1, r1⟩ := rx.tupH e3
    have r2 := r1.own qu.1
    refine .inr (.inl ⟨p, vs, rfl, .of h1, fun hw => ?_, fun hw n hn => ?_⟩)
    · have ec : cutD xs l u = xs := by
        unfold cutD
        rw [← r1.len, hw.1, hw.2, List.drop_zero, Nat.sub_zero, r1.len, List.take_length]
      have q := qu.2
      rw [ec] at q
      exact k _ q _ F3 H3 [] ⟨pp, .tup p vs xs [] h0 r2, List.nodup_nil, fun a m => nomatch m⟩
    · have z := Post0.newF (o := .tup (L2.cutV vs l u)) e3 hn
      exact k _ qu.2 _ _ _ [] ⟨pp.trans z, .tup n _ _ [] upd_same ((r2.cutV l u).mono z.f z.h), List.nodup_nil, fun a m => nomatch m⟩
  · cases rx with
    | str _ hz => exact .inr (.inr ⟨_, rfl, qu.1, k _ (qu.2 (strOk_cut l u hz)) _ F3 H3 [] ⟨pp, .str _ (strOk_cut l u hz), List.nodup_nil, fun a m => nomatch m⟩⟩)
  · exact qu.elim
end
end DL

namespace DL
open PySem PySem.Spec PyProof.Rows L2

/-! ### stores -/
section
variable {K : PySem.W.Frag} {F H : Hp}
theorem kix_at {α : Type} {f : D → Option α} {k : D} {q : α} (hq : f k = some q) : ∀ {kvs : List (α × V)} {ks : List D} {n : Nat}, ks.map f = kvs.map (fun p => some p.1) → kix ks k = some n → (kvs.map (·.1))[n]? = some q
  | [], ks, n, hm, hx => by
    cases ks with
    | nil => cases hx
    | cons x r => cases hm
  | kv :: r, ks, n, hm, hx => by
    cases ks with
    | nil => cases hx
    | cons x xs =>
      rw [List.map_cons, List.map_cons] at hm
      injection hm with h1 h2
      unfold kix at hx
      by_cases e : x = k
      · rw [if_pos e] at hx
        cases hx
        rw [e, hq] at h1
        simp [Option.some.inj h1]
      · rw [if_neg e] at hx
        obtain ⟨m, h3, h4⟩ := Option.map_eq_some_iff.mp hx
        subst h4
        simpa using kix_at hq h2 h3
theorem kix_out {α : Type} {f : D → Option α} (inj : ∀ x y q, f x = some q → f y = some q → x = y) {k : D} {q : α} (hq : f k = some q) : ∀ {kvs : List (α × V)} {ks : List D}, ks.map f = kvs.map (fun p => some p.1) → kix ks k = none → q ∉ kvs.map (·.1)
  | [], ks, hm, hx => by simp
  | kv :: r, ks, hm, hx => by
    cases ks with
    | nil => cases hm
    | cons x xs =>
      rw [List.map_cons, List.map_cons] at hm
      injection hm with h1 h2
      unfold kix at hx
      by_cases e : x = k
      · rw [if_pos e] at hx; cases hx
      · rw [if_neg e] at hx
        have h3 : kix xs k = none := by
          cases z : kix xs k with
          | none => rfl
          | some m => rw [z] at hx; cases hx
        intro m
        rw [List.map_cons] at m
        rcases List.mem_cons.mp m with m | m
        · exact e (inj _ _ q (by rw [h1, m]) hq)
        · exact kix_out inj hq h2 h3 m
theorem putK_in {α : Type} [DecidableEq α] {kvs : List (α × V)} {n : Nat} {q : α} (v : V) (nd : (kvs.map (·.1)).Nodup) (h : (kvs.map (·.1))[n]? = some q) :
    (putK kvs q v).map (·.1) = kvs.map (·.1) ∧ (putK kvs q v).map (·.2) = (kvs.map (·.2)).set n v := by
  have hany : (kvs.any fun kv => decide (kv.1 = q)) = true := by
    rw [List.any_eq_true]
    obtain ⟨kv, h1, h2⟩ := List.mem_map.mp (List.mem_of_getElem? h)
    exact ⟨kv, h1, decide_eq_true h2⟩
  unfold putK
  rw [if_pos hany]
  refine ⟨?_, ?_⟩
  · rw [List.map_map]
    apply List.map_congr_left
    intro kv _
    by_cases e : kv.1 = q
    · simp [e]
    · simp [e]
  · apply List.ext_getElem?
    intro i
    rw [List.getElem?_map, List.getElem?_map, List.getElem?_set, List.getElem?_map]
    by_cases e : n = i
    · subst e
      rw [List.getElem?_map] at h
      cases hk : kvs[n]? with
      | none => rw [hk] at h; cases h
      | some kv =>
        rw [hk] at h
        have h' : kv.1 = q := Option.some.inj h
        have hl : n < kvs.length := (List.getElem?_eq_some_iff.mp hk).1
        simp [h', hl]
    · rw [if_neg e]
      cases hk : kvs[i]? with
      | none => rfl
      | some kv =>
        have ne : kv.1 ≠ q := fun z => by
          have h1 : (kvs.map (·.1))[i]? = some q := by rw [List.getElem?_map, hk]; exact congrArg some z
          have hl1 := (List.getElem?_eq_some_iff.mp h).1
          exact e ((List.getElem?_inj hl1 nd).mp (h.trans h1.symm))
        simp [ne]
theorem putK_out {α : Type} [DecidableEq α] {kvs : List (α × V)} {q : α} (v : V) (h : q ∉ kvs.map (·.1)) : putK kvs q v = kvs ++ [(q, v)] := by
  have hany : ¬ (kvs.any fun kv => decide (kv.1 = q)) = true := fun z => by
    rw [List.any_eq_true] at z
    obtain ⟨kv, h1, h2⟩ := z
    exact h (List.mem_map.mpr ⟨kv, h1, of_decide_eq_true h2⟩)
  unfold putK
  rw [if_neg hany]
theorem kgood_rep {v : V} {d : D} {S : List Addr} {q : Key} (r : Rep K F H v d S) (h : keyD d = some q) : kGood q = true := by
  cases r with
  | int i => cases h; rfl
  | str x hx => cases h; exact hx
  | _ => cases h
theorem kgoods_rep : ∀ {vs : List V} {ds : List D} {S : List Addr} {qs : List Key}, Reps K F H vs ds S → keysD ds = some qs → qs.all kGood = true
  | _, _, _, _, .nil, h => by cases h; rfl
  | _, _, _, _, .cons v d vs ds S T r rs, h => by
    unfold keysD at h
    cases h1 : keyD d with
    | none => rw [h1] at h; cases h
    | some k =>
      cases h2 : keysD ds with
      | none => rw [h1, h2] at h; cases h
      | some q =>
        rw [h1, h2] at h
        cases h
        show (kGood k && q.all kGood) = true
        rw [kgood_rep r h1, kgoods_rep rs h2]; rfl
theorem tkgood_rep {v : V} {d : D} {S : List Addr} {q : List Key} (r : Rep K F H v d S) (h : tkeyD d = some q) : q.all kGood = true := by
  cases r with
  | tup p vs ds S h1 r1 => exact kgoods_rep r1 h
  | _ => cases h
/-- a dict with a pair put in -/
def dput (ks vs : List D) (k d : D) : List D × List D := match kix ks k with
  | some n => (ks, vs.set n d)
  | none => (ks ++ [k], vs ++ [d])
theorem DicAt.put {p : Addr} {t : Nat} {ks : List D} {vs : List V} {k : D} {y v : V} {S : List Addr} (e : Same F H) (da : DicAt (H p) t ks vs) (ry : Rep K F H y k S) (hk : keyOk t k = true) (hl : ks.length < sizeLine) :
    ∃ o, DPut H p y v (upd H p o) ∧ ∀ (H2 : Hp), H2 p = some o → DicAt (H2 p) t (match kix ks k with | some _ => ks | none => ks ++ [k]) (match kix ks k with | some n => vs.set n v | none => vs ++ [v]) := by
  have hlen := da.len
  have main : ∀ {α : Type} [DecidableEq α] (f : D → Option α) (inj : ∀ x y q, f x = some q → f y = some q → x = y) (kvs : List (α × V)) (q : α), f k = some q → ks.map f = kvs.map (fun p => some p.1) → vs = kvs.map (·.2) → (kvs.map (·.1)).Nodup →
      (match kix ks k with | some _ => ks | none => ks ++ [k]).map f = (putK kvs q v).map (fun p => some p.1) ∧ (match kix ks k with | some n => vs.set n v | none => vs ++ [v]) = (putK kvs q v).map (·.2) ∧ ((putK kvs q v).map (·.1)).Nodup ∧ (∀ x ∈ putK kvs q v, x.1 = q ∨ x.1 ∈ kvs.map (·.1)) := by
    intro α _ f inj kvs q hq hm hv nd
    have some_map : ∀ l : List (α × V), l.map (fun p => some p.1) = (l.map (·.1)).map some := fun l => by rw [List.map_map]; rfl
    cases hx : kix ks k with
    | some n =>
      have h1 := kix_at hq hm hx
      obtain ⟨h2, h3⟩ := putK_in v nd h1
      refine ⟨by rw [hm, some_map, some_map, h2], by rw [h3, hv], by rw [h2]; exact nd, fun x m => .inr ?_⟩
      rw [← h2]
      exact List.mem_map.mpr ⟨x, m, rfl⟩
    | none =>
      have h1 := kix_out inj hq hm hx
      have h2 := putK_out v h1
      refine ⟨by rw [h2, List.map_append, List.map_append, hm]; simp [hq], by rw [h2, hv]; simp, ?_, fun x m => ?_⟩
      · rw [h2, List.map_append]
        refine List.nodup_append.mpr ⟨nd, by simp, fun x hx y hy z => ?_⟩
        subst z
        have hxq : x = q := by simpa using hy
        subst hxq
        exact h1 hx
      · rw [h2] at m
        rcases List.mem_append.mp m with m | m
        · exact .inr (List.mem_map.mpr ⟨x, m, rfl⟩)
        · have hxq : x = (q, v) := by simpa using m
          exact .inl (by rw [hxq])
  generalize eh : H p = hp at da
  cases da with
  | k kvs _ _ a b c nd kg =>
    obtain ⟨q, hq⟩ := Option.isSome_iff_exists.mp (show (keyD k).isSome = true from hk)
    obtain ⟨m1, m2, m3, m4⟩ := main keyD (fun x y q => keyD_inj) kvs q hq b c nd
    have ey := ry.key hq
    have hl2 : kvs.length < sizeLine := by rw [c, List.length_map] at hlen; omega
    refine ⟨.dK (putK kvs q v), by rw [ey]; exact .k (eh.trans a) hl2, fun H2 h2 => .k (putK kvs q v) _ _ h2 m1 m2 m3 ?_⟩
    rw [List.all_eq_true] at kg ⊢
    intro x m
    rcases m4 x m with z | z
    · rw [z]; exact kgood_rep ry hq
    · obtain ⟨w, h3, h4⟩ := List.mem_map.mp z
      rw [← h4]; exact kg w h3
  | t kvs _ _ a b c nd kg =>
    obtain ⟨q, hq⟩ := Option.isSome_iff_exists.mp (show (tkeyD k).isSome = true from hk)
    obtain ⟨m1, m2, m3, m4⟩ := main tkeyD (fun x y q => tkeyD_inj) kvs q hq b c nd
    obtain ⟨bb, ey, _, hb⟩ := ry.tkey e hq
    have hl2 : kvs.length < sizeLine := by rw [c, List.length_map] at hlen; omega
    refine ⟨.dT (putK kvs q v), by rw [ey]; exact .inr ⟨kvs, q, bb, eh.trans a, rfl, hb, hl2, rfl⟩, fun H2 h2 => .t (putK kvs q v) _ _ h2 m1 m2 m3 ?_⟩
    rw [List.all_eq_true] at kg ⊢
    intro x m
    rcases m4 x m with z | z
    · rw [z]; exact tkgood_rep ry hq
    · obtain ⟨w, h3, h4⟩ := List.mem_map.mp z
      rw [← h4]; exact kg w h3
end
section
variable {X : Cx} {W : WX} {fr fa fb fc : Bool} {tg a b c e o i : Expr} {es : List Expr} {w0 wi : W0} {ws : WA0} {w1 : W1} {wp : WP} {pos pos' p apos cpos : Pos}
def putD (c k d : D) (put : D → Ev) (P : Ev → Prop) : Prop := match c, k with
  | .lst true xs, .int i => (match ixN xs.length i with
    | some n => P (put (.lst true (xs.set n d)))
    | none => False)
  | .dic true t ks xs, k => keyOk t k = true ∧ ks.length < sizeLine ∧ (match kix ks k with
    | some n => P (put (.dic true t ks (xs.set n d)))
    | none => P (put (.dic true t (ks ++ [k]) (xs ++ [d]))))
  | _, _ => False
def sPut (wp : WP) (wi : W0) (w1 : W1) : WS := fun ρ O => w1 ρ (fun d ρ' => wp ρ' (fun c put => wi ρ' (fun k => putD c k d put O.nx) (fun x => O.ex x ρ')) (fun x => O.ex x ρ')) O.ex
theorem ixN_lt {n : Nat} {i : Int} {j : Nat} (h : ixN n i = some j) : j < n := (ixN_seq h).2.2.1 |> fun z => by first | exact z | (have := ixN_seq h; omega)
/-- place[i] = e -/
theorem s_put (hu : X.A.units + 1 < cLine) (h : PE1 X W e w1) (ho : PP0 X W o wp) (hi : PE0 X W fr i wi)
    (ha : ∀ v, assign (.Subscript o i pos') X.env v = (do
      let ov ← holding [v] (eval o X.env)
      let iv ← holding [v, ov] (eval i X.env)
      standAt pos'
      holding [v, ov, iv] (setItem ov iv v)
      release [v, ov, iv] []) := by intro _; rfl)
    (hs : swapsWithSole [.Subscript o i pos'] e pos.line X.env = pure false := by rfl) (hw : swappedStores [.Subscript o i pos'] e X.env = pure none := by rfl)
    (h1 : (assignEach [.Subscript o i pos'] X.env).map (·.2) = [assign (.Subscript o i pos') X.env] := by rfl) : PS0 X W (.Assign [.Subscript o i pos'] e pos) (sPut wp wi w1) := by
  have hset : PSet X (fun o i v H Q => rSetL o i v H Q ∨ rSetD o i v H Q) := fun pins s σ H o i v ov iv u Q I ro ri rv q => q.elim (fun q => set_list pins s σ H o i v ov iv u Q I ro ri rv q) fun q => set_dict hu pins s σ H o i v ov iv u Q I ro ri rv q
  refine PS.imp (ps_asg h (pg_sub ho hi hset ha) hs hw h1) fun Dn σ H ⟨F, ρ, S, O, R, w, g⟩ => ⟨F, ρ, S, _, _, R, w, fun d ρ1 q v F1 H1 S1 T1 p1 R1 r1 => ⟨F1, ρ1, S1, _, _, R1, q, fun cc put q2 ov F2 H2 T2 p2 hole => ⟨F2, ρ1, S1, _, _, R1.post p2, q2, fun k q3 iv F3 H3 T3 V3 => ?_,
    fun x hx cls dd F3 H3 p3 ex => g.ex x ρ1 hx cls dd σ F3 H3 S1 ((p1.sub fun x m => List.mem_append_left _ m).trans (p2.trans p3).s) (R1.post (p2.trans p3)) ex⟩,
    fun x hx cls dd F3 H3 p3 ex => g.ex x ρ1 hx cls dd σ F3 H3 S1 ((p1.sub fun x m => List.mem_append_left _ m).trans p3.s) (R1.post p3) ex⟩,
    fun x ρ1 hx cls dd F3 H3 S3 p3 R3 ex => g.ex x ρ1 hx cls dd σ F3 H3 S3 p3 R3 ex⟩
  have R2 := R1.post p2
  have R3 := R2.post V3.post
  have hole3 := hole.mono V3.post.f V3.post.h R2.dom
  have p23 := p2.trans V3.post
  have rv : Rep X.K F3 H3 v d T1 := r1.rep.mono p23.f p23.h
  have oT1 : ∀ a ∈ T1, F3 a = none ∧ a ∉ S1 := fun a m => by
    obtain ⟨o, ho, nt, _⟩ := r1.rep.dom a m
    exact ⟨p23.new a o (r1.own a m).1 ho nt, (r1.own a m).2⟩
  have pS : PostS F H S F3 H3 (S1 ++ T1) := p1.trans p23.s
  -- the write
  have wr : ∀ {p : Addr} {T0 U2 : List Addr} {d2 : D} {ho : HO}, Hole X.K F3 H3 σ S1 cc (.ref p) (p :: T0) put → Rep X.K F3 (upd H3 p ho) (.ref p) d2 (p :: U2) → U2.Nodup → (∀ a ∈ U2, a ∈ T0 ∨ a ∈ T1) → O.nx (put d2) → Dn.nx σ (upd H3 p ho) := fun {p T0 U2 d2 ho} hl r nd sub q => by
    obtain ⟨S', R', s1, s2, s3, s4⟩ := Hole.write R3 hl r nd sub oT1
    exact g.nx _ q σ F3 _ S' (pS.write s2 s1) R'
  obtain ⟨A, B, hS, hr, hf⟩ := id hole3
  have nS := R3.nd
  rw [hS] at nS
  have n1 := List.nodup_append.mp nS
  have n2 := List.nodup_append.mp n1.1
  have inS : ∀ a ∈ T2, a ∈ S1 := fun a m => by rw [hS]; simp [m]
  unfold putD at q3
  split at q3
  · rename_i xs j
    split at q3
    · rename_i n hn
      cases V3.rep
      cases hr with
      | lstO p vs ds T0 hp rs =>
        have hlt : n < xs.length := by
          have := ixN_seq hn
          omega
        have e0 : xs[n]? = some xs[n] := by simp [hlt]
        obtain ⟨v1, A1, Tn, B1, g1, g2, g3, g4⟩ := rs.hole e0
        have n3 := List.nodup_cons.mp n2.2.1
        have neT0 : ∀ a ∈ T0, a ≠ p := fun a m e => by subst e; exact n3.1 m
        have neT1 : ∀ a ∈ T1, a ≠ p := fun a m e => by subst e; exact (oT1 a m).2 (inS a List.mem_cons_self)
        have z := g4 F3 (upd H3 p (.lst (vs.set n v))) d T1 v (Same.refl _) (fun a o m h => by
          rw [upd_ne (neT0 a (by rw [g2]; rcases List.mem_append.mp m with m | m <;> simp [m]))]; exact h) (rv.frame (Same.refl _) fun a o m h => by rw [upd_ne (neT1 a m)]; exact h)
        refine .inl ⟨p, vs, j, n, rfl, rfl, hp, by rw [rs.len]; exact hn, ?_⟩
        refine wr hole3 (.lstO p _ _ _ upd_same z) ?_ (fun a m => ?_) q3
        · have m1 := n3.2
          rw [g2] at m1
          have m2 := List.nodup_append.mp m1
          have m3 := List.nodup_append.mp m2.1
          have d1 : ∀ a, a ∈ A1 ∨ a ∈ B1 → a ∉ T1 := fun a m z => (oT1 a z).2 (inS a (List.mem_cons_of_mem _ (by rw [g2]; rcases m with m | m <;> simp [m])))
          exact List.nodup_append.mpr ⟨List.nodup_append.mpr ⟨m3.1, r1.nd, fun x hx y hy e => by subst e; exact d1 x (.inl hx) hy⟩, m2.2.1, fun x hx y hy e => by
            subst e
            rcases List.mem_append.mp hx with hx | hx
            · exact m2.2.2 x (List.mem_append_left _ hx) x hy rfl
            · exact d1 x (.inr hy) hx⟩
        · rw [g2]
          simp only [List.mem_append] at m ⊢
          rcases m with (m | m) | m <;> simp [m]
    · exact q3.elim
  · rename_i t ks xs
    obtain ⟨q4, q5, q6⟩ := q3
    cases hr with
    | dicO p t ks vs ds T0 da rs =>
      have n3 := List.nodup_cons.mp n2.2.1
      have neT0 : ∀ a ∈ T0, a ≠ p := fun a m e => by subst e; exact n3.1 m
      have neT1 : ∀ a ∈ T1, a ≠ p := fun a m e => by subst e; exact (oT1 a m).2 (inS a List.mem_cons_self)
      obtain ⟨oo, dp, da2⟩ := da.put (K := X.K) (v := v) R3.same V3.rep q4 q5
      have da3 := da2 (upd H3 p oo) upd_same
      refine .inr ⟨p, _, rfl, dp, ?_⟩
      have dT : ∀ a ∈ T0, a ∉ T1 := fun a m z => (oT1 a z).2 (inS a (List.mem_cons_of_mem _ m))
      split at q6
      · rename_i n hn
        rw [hn] at da3
        have hlt : n < xs.length := by
          have h1 := da.len
          have h2 := rs.len
          have h3 : ∀ (ks : List D) (n : Nat), kix ks k = some n → n < ks.length := by
            intro ks
            induction ks with
            | nil => intro n h; cases h
            | cons x r ih =>
              intro n h
              unfold kix at h
              by_cases e : x = k
              · rw [if_pos e] at h; cases h; simp
              · rw [if_neg e] at h
                obtain ⟨m, h4, h5⟩ := Option.map_eq_some_iff.mp h
                have := ih m h4
                simp; omega
          have := h3 ks n hn
          omega
        have e0 : xs[n]? = some xs[n] := by simp [hlt]
        obtain ⟨v1, A1, Tn, B1, g1, g2, g3, g4⟩ := rs.hole e0
        have z := g4 F3 (upd H3 p oo) d T1 v (Same.refl _) (fun a o m h => by
          rw [upd_ne (neT0 a (by rw [g2]; rcases List.mem_append.mp m with m | m <;> simp [m]))]; exact h) (rv.frame (Same.refl _) fun a o m h => by rw [upd_ne (neT1 a m)]; exact h)
        refine wr hole3 (.dicO p t ks _ _ _ da3 z) ?_ (fun a m => ?_) q6
        · have m1 := n3.2
          rw [g2] at m1
          have m2 := List.nodup_append.mp m1
          have m3 := List.nodup_append.mp m2.1
          have d1 : ∀ a, a ∈ A1 ∨ a ∈ B1 → a ∉ T1 := fun a m z => dT a (by rw [g2]; rcases m with m | m <;> simp [m]) z
          exact List.nodup_append.mpr ⟨List.nodup_append.mpr ⟨m3.1, r1.nd, fun x hx y hy e => by subst e; exact d1 x (.inl hx) hy⟩, m2.2.1, fun x hx y hy e => by
            subst e
            rcases List.mem_append.mp hx with hx | hx
            · exact m2.2.2 x (List.mem_append_left _ hx) x hy rfl
            · exact d1 x (.inr hy) hx⟩
        · rw [g2]
          simp only [List.mem_append] at m ⊢
          rcases m with (m | m) | m <;> simp [m]
      · rename_i hn
        rw [hn] at da3
        have z : Reps X.K F3 (upd H3 p oo) (vs ++ [v]) (xs ++ [d]) (T0 ++ T1) := (rs.frame (Same.refl _) fun a o m h => by rw [upd_ne (neT0 a m)]; exact h).append (.one (rv.frame (Same.refl _) fun a o m h => by rw [upd_ne (neT1 a m)]; exact h))
        refine wr hole3 (.dicO p t _ _ _ _ da3 z) ?_ (fun a m => List.mem_append.mp m) q6
        exact List.nodup_append.mpr ⟨n3.2, r1.nd, fun x hx y hy e => by subst e; exact dT x hx hy⟩
  · exact q3.elim

/-! ### a field stored -/
def putN (ns : List Str) (xs : List D) (f : Str) (d : D) : List Str × List D := match fix ns f with
  | some n => (ns, xs.set n d)
  | none => (ns ++ [f], xs ++ [d])
theorem putF_in {f : Str} {y : V} : ∀ {ns : List Str} {vs : List V} {n : Nat}, ns.length = vs.length → fix ns f = some n → putF f y (ns.zip vs) = ns.zip (vs.set n y)
  | [], _, _, _, h => by cases h
  | _ :: _, [], _, h, _ => by cases h
  | m :: ns, u :: vs, n, hl, h => by
    unfold fix at h
    by_cases e : f = m
    · rw [if_pos e] at h
      cases h
      subst e
      simp [putF]
    · rw [if_neg e] at h
      obtain ⟨j, h1, h2⟩ := Option.map_eq_some_iff.mp h
      subst h2
      have ne : ¬ m = f := fun z => e z.symm
      show (if m = f then (m, y) :: ns.zip vs else (m, u) :: putF f y (ns.zip vs)) = _
      rw [if_neg ne, putF_in (by simpa using hl) h1]
      rfl
theorem putF_out {f : Str} {y : V} : ∀ {ns : List Str} {vs : List V}, ns.length = vs.length → fix ns f = none → putF f y (ns.zip vs) = (ns ++ [f]).zip (vs ++ [y])
  | [], [], _, _ => rfl
  | [], _ :: _, h, _ => by cases h
  | _ :: _, [], h, _ => by cases h
  | m :: ns, u :: vs, hl, h => by
    unfold fix at h
    by_cases e : f = m
    · rw [if_pos e] at h; cases h
    · rw [if_neg e] at h
      have h1 : fix ns f = none := by
        cases z : fix ns f with
        | none => rfl
        | some j => rw [z] at h; cases h
      have ne : ¬ m = f := fun z => e z.symm
      show (if m = f then (m, y) :: ns.zip vs else (m, u) :: putF f y (ns.zip vs)) = _
      rw [if_neg ne, putF_out (by simpa using hl) h1]
      rfl
def fldPut (cs : Str → Prop) (f : Str) (c d : D) (put : D → Ev) (P : Ev → Prop) : Prop := match c with
  | .ins true C ns xs => cs C ∧ ns.length < 1000 ∧ (match fix ns f with
    | some n => P (put (.ins true C ns (xs.set n d)))
    | none => P (put (.ins true C (ns ++ [f]) (xs ++ [d]))))
  | _ => False
def sFPut (cs : Str → Prop) (wp : WP) (f : Str) (w1 : W1) : WS := fun ρ O => w1 ρ (fun d ρ' => wp ρ' (fun c put => fldPut cs f c d put O.nx) (fun x => O.ex x ρ')) O.ex
theorem fix_lt {f : Str} : ∀ {ns : List Str} {n : Nat}, fix ns f = some n → n < ns.length
  | [], _, h => by cases h
  | m :: ns, n, h => by
    unfold fix at h
    by_cases e : f = m
    · rw [if_pos e] at h; cases h; simp
    · rw [if_neg e] at h
      obtain ⟨j, h1, h2⟩ := Option.map_eq_some_iff.mp h
      have := fix_lt h1
      simp; omega
theorem s_fput {cs : Str → Prop} {f : Str} (hc : FldOk X.K cs f) (h : PE1 X W e w1) (ho : PP0 X W o wp) (hs : swapsWith e (some (.Attribute o f pos')) pos.line X.env = pure false := by rfl) : PS0 X W (.Assign [.Attribute o f pos'] e pos) (sFPut cs wp f w1) := by
  refine PS.imp (ps_fld ho h hs) fun Dn σ H ⟨F, ρ, S, O, R, w, g⟩ => ⟨F, ρ, S, _, _, R, w, fun d ρ1 q v F1 H1 S1 T1 p1 R1 r1 => ⟨F1, ρ1, S1, _, _, R1, q, fun cc put q2 ov F2 H2 T2 p2 hole => ?_,
    fun x hx cls dd F3 H3 p3 ex => g.ex x ρ1 hx cls dd σ F3 H3 S1 ((p1.sub fun x m => List.mem_append_left _ m).trans p3.s) (R1.post p3) ex⟩,
    fun x ρ1 hx cls dd F3 H3 S3 p3 R3 ex => g.ex x ρ1 hx cls dd σ F3 H3 S3 p3 R3 ex⟩
  have R2 := R1.post p2
  have rv : Rep X.K F2 H2 v d T1 := r1.rep.mono p2.f p2.h
  have oT1 : ∀ a ∈ T1, F2 a = none ∧ a ∉ S1 := fun a m => by
    obtain ⟨o, ho, nt, _⟩ := r1.rep.dom a m
    exact ⟨p2.new a o (r1.own a m).1 ho nt, (r1.own a m).2⟩
  have pS : PostS F H S F2 H2 (S1 ++ T1) := p1.trans p2.s
  have wr : ∀ {p : Addr} {T0 U2 : List Addr} {d2 : D} {ho : HO}, Hole X.K F2 H2 σ S1 cc (.ref p) (p :: T0) put → Rep X.K F2 (upd H2 p ho) (.ref p) d2 (p :: U2) → U2.Nodup → (∀ a ∈ U2, a ∈ T0 ∨ a ∈ T1) → O.nx (put d2) → Dn.nx σ (upd H2 p ho) := fun {p T0 U2 d2 ho} hl r nd sub q => by
    obtain ⟨S', R', s1, s2, s3, s4⟩ := Hole.write R2 hl r nd sub oT1
    exact g.nx _ q σ F2 _ S' (pS.write s2 s1) R'
  obtain ⟨A, B, hS, hr, hf⟩ := id hole
  have nS := R2.nd
  rw [hS] at nS
  have n1 := List.nodup_append.mp nS
  have n2 := List.nodup_append.mp n1.1
  have inS : ∀ a ∈ T2, a ∈ S1 := fun a m => by rw [hS]; simp [m]
  unfold fldPut at q2
  split at q2
  · rename_i C ns xs
    obtain ⟨q3, q4, q5⟩ := q2
    cases hr with
    | insO p C dx ns vs ds T0 hp l rs =>
      have n3 := List.nodup_cons.mp n2.2.1
      have neT0 : ∀ a ∈ T0, a ≠ p := fun a m e => by subst e; exact n3.1 m
      have neT1 : ∀ a ∈ T1, a ≠ p := fun a m e => by subst e; exact (oT1 a m).2 (inS a List.mem_cons_self)
      have dT : ∀ a ∈ T0, a ∉ T1 := fun a m z => (oT1 a z).2 (inS a (List.mem_cons_of_mem _ m))
      refine ⟨p, He.ga X.K C, dx, ns.zip vs, rfl, hp, (hc C q3).1, (hc C q3).2, by rw [List.length_zip]; omega, ?_⟩
      split at q5
      · rename_i n hn
        have hlt : n < xs.length := by
          have := fix_lt hn
          have h2 := rs.len
          omega
        have e0 : xs[n]? = some xs[n] := by simp [hlt]
        obtain ⟨v1, A1, Tn, B1, g1, g2, g3, g4⟩ := rs.hole e0
        rw [putF_in l hn]
        have z := g4 F2 (upd H2 p (.ins (He.ga X.K C) dx (ns.zip (vs.set n v)))) d T1 v (Same.refl _) (fun a o m h => by
          rw [upd_ne (neT0 a (by rw [g2]; rcases List.mem_append.mp m with m | m <;> simp [m]))]; exact h) (rv.frame (Same.refl _) fun a o m h => by rw [upd_ne (neT1 a m)]; exact h)
        refine wr hole (.insO p C dx ns _ _ _ upd_same (by rw [List.length_set]; exact l) z) ?_ (fun a m => ?_) q5
        · have m1 := n3.2
          rw [g2] at m1
          have m2 := List.nodup_append.mp m1
          have m3 := List.nodup_append.mp m2.1
          have d1 : ∀ a, a ∈ A1 ∨ a ∈ B1 → a ∉ T1 := fun a m z => dT a (by rw [g2]; rcases m with m | m <;> simp [m]) z
          exact List.nodup_append.mpr ⟨List.nodup_append.mpr ⟨m3.1, r1.nd, fun x hx y hy e => by subst e; exact d1 x (.inl hx) hy⟩, m2.2.1, fun x hx y hy e => by
            subst e
            rcases List.mem_append.mp hx with hx | hx
            · exact m2.2.2 x (List.mem_append_left _ hx) x hy rfl
            · exact d1 x (.inr hy) hx⟩
        · rw [g2]
          simp only [List.mem_append] at m ⊢
          rcases m with (m | m) | m <;> simp [m]
      · rename_i hn
        rw [putF_out l hn]
        have z : Reps X.K F2 (upd H2 p (.ins (He.ga X.K C) dx ((ns ++ [f]).zip (vs ++ [v])))) (vs ++ [v]) (xs ++ [d]) (T0 ++ T1) := (rs.frame (Same.refl _) fun a o m h => by rw [upd_ne (neT0 a m)]; exact h).append (.one (rv.frame (Same.refl _) fun a o m h => by rw [upd_ne (neT1 a m)]; exact h))
        refine wr hole (.insO p C dx _ _ _ _ upd_same (by simp [l]) z) ?_ (fun a m => List.mem_append.mp m) q5
        exact List.nodup_append.mpr ⟨n3.2, r1.nd, fun x hx y hy e => by subst e; exact dT x hx hy⟩
  · exact q2.elim
end
end DL

namespace DL
open PySem PySem.Spec PyProof.Rows L2

/-! ### exceptions -/
section
variable {X : Cx} {W : WX} {fr fa fb fc : Bool} {tg a b c e o : Expr} {es : List Expr} {w0 wi : W0} {ws : WA0} {w1 : W1} {pos pos' p p2 np q : Pos} {x n : Str} {C : Addr} {st : Stmt} {sts : List Stmt}
def sRz (x : Ex) : WS := fun ρ O => O.ex x ρ
/-- raise X('..') -/
theorem s_raise {m : Str} {j : Nat} {C : Addr} (hC : C = He.ga X.K x) (hc : X.calm = true) (tk : Takes X W) (hq : PySem.W.excIn X.K C [.type "ValueError", .type "Exception", .type "BaseException", .type "object"] "ValueError.__new__" = true) (gC : X.mg x = some (.ref C)) (kC : PySem.W.keepIn X.K (.ref C) = true) (r : Raises X (.ref C)) (hg : Gl X x)
    (hdb : (x == ("__debug__" : Str)) = false := by decide) : PS0 X W (.Raise (some (.Call (.Name x p) [.Constant (.str m) j p2] [] pos)) none pos') (sRz ⟨x, none⟩) :=
  PS.imp (ps_raise hc tk (pmk_own PySem.F.excBase_ValueError hq gC kC r hg hdb)) fun D σ H ⟨F, ρ, S, O, R, w, g⟩ => g.ex _ ρ w (.ref C) none σ F H S PostS.refl R ⟨by rw [hC], rfl⟩
/-- what is never reached -/
def sNev : WS := fun _ _ => False
theorem s_nev : PS0 X W st sNev := ⟨fun _ _ _ _ _ _ ⟨_, _, _, _, _, w, _⟩ => w.elim⟩
theorem b_nev : PSs0 X W sts sNev := ⟨fun _ _ _ _ _ _ ⟨_, _, _, _, _, w, _⟩ => w.elim⟩
/-- try: .. except c as n: .. -/
def sTry (exm : Str → Option Bool) (i : Nat) (wb : WS) (ws : Addr → Str → WS) : WS := fun ρ O => wb ρ ⟨O.nx, O.rt, O.bk, O.ct, fun x ρ' => match exm x.C with
  | some true => x.pl = none ∧ ∀ a, ws a x.C (ρ'.set i (some (.ref a))) ⟨fun ρ2 => O.nx (ρ2.set i none), O.rt, fun ρ2 => O.bk (ρ2.set i none), fun ρ2 => O.ct (ρ2.set i none), fun _ _ => False⟩
  | some false => O.ex x ρ'
  | none => False⟩
theorem Rel.unset {K : PySem.W.Frag} {F H : Hp} {ρ : Ev} {σ : L2.St} {S : List Addr} (i : Nat) (R : Rel K F ρ σ H S) : ∃ S0, Rel K F (ρ.set i none) (σ.set i none) H S0 ∧ ∀ a ∈ S0, a ∈ S := R.wipe [i]
theorem s_try {i : Nat} {c : Value} {b₀ : Stmt} {body suite : List Stmt} {wb : WS} {ws : Addr → Str → WS} {exm : Str → Option Bool} (hex : ∀ C b, exm C = some b → PySem.W.exmOne X.K (.ref (He.ga X.K C)) c = some b) (hs : X.stack = X.env :: X.outer) (hf : X.env.frame = some X.env.locals) (hN : X.N.Nodup) (hi : X.N[i]? = some n) (hln : X.env.kindOf n = some .local) (hc : Names X x c) (tk : Takes X W)
    (hb : ∀ (W' : WX) (pn : List (Addr × Obj)) (xe : Value → Shared → Prop), Takes (X.tr pn xe) W' → PassesOwn (model X.prog X.w) X.A X.env xe → PSs0 (X.tr pn xe) W' body wb)
    (hsu : ∀ (a : Addr) (oe : Obj) (C : Str) (pn : List (Addr × Obj)), Zc (.ref (He.ga X.K C)) none oe → (∃ vs, oe.data = .fields vs) → PSs0 (X.suite a ((a, oe) :: pn)) WF (b₀ :: suite) (ws a C)) :
    PS0 X W (.Try body [.ExceptHandler (some (.Name x np)) (some n) (b₀ :: suite) pos'] [] [] pos) (sTry exm i wb ws) := by
  refine PS.imp (ps_try_as (tb := fun W' => liftS X W' wb) (ts := fun a cls d D σ H => ∃ C, cls = .ref (He.ga X.K C) ∧ d = none ∧ liftS X WF (ws a C) D σ H) hs hf hN hi hln hc tk (fun W' pn xe tk' ps => hb W' pn xe tk' ps) fun a oe cls d pn hz hfs => ?_) fun D σ H ⟨F, ρ, S, O, R, w, g⟩ => ?_
  · refine ⟨fun pins s σ H D I ⟨C, ec, ed, h⟩ => ?_⟩
    subst ec ed
    exact (hsu a oe C pn hz hfs).run pins s σ H D I h
  · refine ⟨F, ρ, S, _, R, w, g.nx, g.rt, g.bk, g.ct, fun x ρ' q cls dd σ' F' H' S' p R' ex => ?_⟩
    obtain ⟨ec, ed⟩ := ex
    subst ec
    dsimp only at q
    cases hm0 : exm x.C with
    | none => rw [hm0] at q; exact q.elim
    | some b =>
      rw [hm0] at q
      have hm := hex x.C b hm0
      cases b with
      | true =>
        obtain ⟨q1, q2⟩ := q
        rw [q1] at ed
        refine ⟨true, hm, fun _ a ha => ⟨x.C, rfl, ed, ?_⟩, fun z => nomatch z⟩
        obtain ⟨S2, R2, h2⟩ := R'.set i (⟨.ref a, List.nodup_nil, fun a m => nomatch m⟩ : RepT X.K F' H' S' (.ref a) (.ref a) [])
        have p2 : PostS F H S F' H' S2 := p.sub fun a m => by simpa using h2 a m
        refine ⟨F', _, S2, _, R2, q2 a, ?_⟩
        refine ⟨fun ρ2 k σ2 F2 H2 S3 p3 R3 => ?_, fun d ρ2 k v σ2 F2 H2 S3 T p3 R3 r3 => g.rt d ρ2 k v σ2 F2 H2 S3 T (p2.trans p3) R3 r3, fun ρ2 k σ2 F2 H2 S3 p3 R3 => ?_, fun ρ2 k σ2 F2 H2 S3 p3 R3 => ?_, fun x ρ2 k => k.elim⟩
        · obtain ⟨S4, R4, h4⟩ := R3.unset i
          exact g.nx _ k _ F2 H2 S4 ((p2.trans p3).sub h4) R4
        · obtain ⟨S4, R4, h4⟩ := R3.unset i
          exact g.bk _ k _ F2 H2 S4 ((p2.trans p3).sub h4) R4
        · obtain ⟨S4, R4, h4⟩ := R3.unset i
          exact g.ct _ k _ F2 H2 S4 ((p2.trans p3).sub h4) R4
      | false => exact ⟨false, hm, (fun z => nomatch z), fun _ => g.ex x ρ' q (.ref (He.ga X.K x.C)) dd σ' F' H' S' p R' ⟨rfl, ed⟩⟩
end

/-! ### a def called in the suite, that is handed the exception -/
section
variable {P : Program} {w : World} {K : PySem.W.Frag} {mg : Str → Option Value} {base : Heap} {nm qual : Str} {params : Arguments} {body : List Stmt} {scope : Scope} {f C : Addr} {fd : FuncData}
abbrev SpE := (D → Prop) → Prop
def Hot0 (A : Around) (p : Addr × Obj) : Prop := A.handled = some (.ref p.1) ∧ ∃ vs : Array Value, p.2.data = .fields vs
def FnE (P : Program) (w : World) (K : PySem.W.Frag) (mg : Str → Option Value) (base : Heap) (k : Nat) (f : Addr) (fd : FuncData) (ps : List Str) (C : Addr) (sp : SpE) : Prop :=
  ∀ (A : Around) (outer : List Env) (s : Shared) (H : Hp) (args : Args) (us : List Value) (Q : VK) (p : Addr × Obj) (F : Hp) (Pd : D → Prop), L2H.RoomH k A → Hot0 A p → L2H.PinOk outer H s p → Env0 P w K mg base A outer s H → BindsTo s fd args (ps.zip us) →
    Vals [.ref p.1] us → Zc (.ref C) none p.2 → Same F H → sp Pd → (∀ d, Pd d → ∀ v F' H' T, V0 K F H [] true F' H' v d T → Q v H') → codeAny (model P w) A (.call (.ref f) args) (CR (L2.CX P w) outer P w H s Q fun _ _ _ => False) s
theorem fn_exc {N ps : List Str} {k : Nat} {sp : SpE} {ws : Addr → WS} (Fd : FunD K nm qual params body scope [] [] f fd) (S : FnScope N ps scope) (hl : ps.length = 1)
    (hb : ∀ (cdv : Value) (A : Around) (outer : List Env) (s : Shared) (H : Hp) (p : Addr × Obj), Hot0 A p → Zc (.ref C) none p.2 → L2H.RoomH k (A.deeper (envOfC qual scope s.heap.objs.size f cdv)) →
      PSs0 (L2H.cxH (L2.CX P w) P w K mg base N qual scope f cdv A outer s H (fun _ _ _ => False) p) WF body (ws p.1))
    (hw : ∀ a Pd, sp Pd → ws a (some (.ref a) :: List.replicate (N.length - 1) none) (outsOf Pd fun _ => False)) : FnE P w K mg base (k + 1) f fd ps C sp := by
  intro A outer s H args us Q p F Pd hr hot hpin e0 hbd r hz e hsp hq
  obtain ⟨oc, od, dV, kV, doc, pm, an, cdv, ct, osl, rfl, lk, hcd, _, _⟩ := Fd.ex
  have KX : K.In s.heap := e0.mod.kin.keeps fun b o e => (e0.bs b o e).1
  have lim : s.heap.NoLimit := e0.mod.nolimit.keeps fun b o e => (e0.bs b o e).1
  have hkind : ∀ y ∈ ps.zip us, scope.names.lookup y.1 = some .local ∨ (scope.names.lookup y.1 = some .cell ∧ ((cellsFrom (s.heap.objs.size + 1) scope.names []).lookup y.1).isSome = true) := fun ⟨n, v⟩ hy => by
    rcases S.par n (List.of_mem_zip hy).1 with z | z
    · exact .inl z
    · exact .inr ⟨z, PySem.W.cellsFrom_some _ _ _ (.inl z)⟩
  refine codeAny_call_function hr.depth (KX _ _ lk) rfl S.co S.gen rfl (PySem.W.codeRec_of KX hcd) (hbd _ _ _ _ ?_)
  refine wpAny_newFunctionEnv_cells S.kind hkind fun env he s1 x => ?_
  subst he
  refine ⟨lim.keeps x.toInCall.keep, codeAny_func ?_⟩
  have I := L2H.inv_startH (CX := L2.CX P w) (E := fun _ _ _ => False) S hpin e0 (show ([V.ref p.1] : List V).length = ps.length by rw [hl]; rfl) r x
  have hN : N.length = (N.length - 1) + 1 := by
    have h1 : (N.take ps.length).length = ps.length := by rw [S.pre]
    rw [List.length_take, hl] at h1
    omega
  have ht := hb cdv A outer s H p hot hz (hr.deeper _)
  have pre : liftS (L2H.cxH (L2.CX P w) P w K mg base N qual scope f cdv A outer s H (fun _ _ _ => False) p) WF (ws p.1) { nx := fun _ H' => Q .non H', rt := Q } (L2.start N [V.ref p.1]) H := by
    refine ⟨F, some (.ref p.1) :: List.replicate (N.length - 1) none, [], outsOf Pd fun _ => False, ⟨e, (fun a m => nomatch m), List.nodup_nil, ?_⟩, hw p.1 Pd hsp, ?_⟩
    · have z := Slots.args (K := K) (F := F) (H := H) (N.length - 1) (.one (.ref p.1))
      exact z
    · refine ⟨fun ρ' z σ' F2 H2 S2 p R => ?_, fun d ρ' z v σ' F2 H2 S2 T p R rt => ?_, fun ρ' z => z.elim, fun ρ' z => z.elim, fun x ρ' z => z.elim⟩
      · exact hq _ z .non F2 H2 [] ⟨⟨fun a o h => p.fr a o h (by simp), p.f, R.same, fun a o h1 h2 h3 => p.new a o h1 h2 h3 (by simp)⟩, .non, List.nodup_nil, fun a m => nomatch m⟩
      · exact hq d z v F2 H2 T ⟨⟨fun a o h => p.fr a o h (by simp), p.f, R.same, fun a o h1 h2 h3 => p.new a o h1 h2 h3 (by simp)⟩, rt.rep, rt.nd, fun a m => ⟨(rt.own a m).1, .inl ((p.own a (List.mem_append_right _ m)).elim (fun z => nomatch z) id)⟩⟩
  refine wpAny_mono (ht.run [] s1 (L2.start N [V.ref p.1]) H _ I pre) (fun fl s' hs => ?_) fun e s' hs => hs
  have fin : ∀ {σ' : L2.St} {H' : Hp} {v : V} {u : Value}, Inv (L2H.cxH (L2.CX P w) P w K mg base N qual scope f cdv A outer s H (fun _ _ _ => False) p) [] σ' H' s' → RelV v u → Q v H' → CE outer P w H s Q u s' :=
    fun {σ' H' v u} J rv q => ⟨v, H', J.os, J.bare, J.base, J.hok, rv, q⟩
  cases fl with
  | ret u =>
    obtain ⟨v, σ', H', J, rv, q⟩ := hs
    exact fin J rv q
  | next =>
    obtain ⟨σ', H', J, q⟩ := hs
    exact fin (v := V.non) (u := Value.none) J rfl q
  | brk =>
    obtain ⟨_, _, _, q⟩ := hs
    exact False.elim q
  | cont =>
    obtain ⟨_, _, _, q⟩ := hs
    exact False.elim q
end
section
variable {X : Cx} {W : WX} {k i : Nat} {f C a : Addr} {oe : Obj} {pn : List (Addr × Obj)} {fd : FuncData} {ps : List Str} {sp : SpE} {x n : Str} {p pos np q : Pos}
def wCallE (i : Nat) (a : Addr) (sp : SpE) : W0 := fun ρ P _ => ρ[i]? = some (some (.ref a)) ∧ sp P
theorem g_callE (F : FnE X.prog X.w X.K X.mg X.base k f fd ps C sp) (hr : L2H.RoomH k X.A) (hf : ∃ vs : Array Value, oe.data = .fields vs) (hot : X.A.handled = some (.ref a)) (hp : (a, oe) ∈ X.pn) (hz : Zc (.ref C) none oe) (hg : Gl X x) (hm : X.mg x = some (.ref f)) (hk : PySem.W.keepIn X.K (.ref f) = true)
    (hb : Binds X.K fd ps []) (hl : ps.length = 1) (hv : PE X (.Name n np) (tVar i)) (hdb : (x == ("__debug__" : Str)) = false := by decide) (he : starEach [.Name n np] X.env = [(false, eval (.Name n np) X.env)] := by rfl) :
    PE0 X W true (.Call (.Name x q) [.Name n np] [] pos) (wCallE i a sp) := by
  refine ⟨fun pins s σ H Q I h => ?_⟩
  obtain ⟨F0, ρ, S, Pd, E, R, ⟨w1, w2⟩, kd, kx⟩ := h
  obtain ⟨v, A0, T, B, h1, h2, h3⟩ := R.sl.at w1
  cases h2
  refine wpAny_Call_Name_kw (ld_glob I hg hm ?_ hdb)
  have ha : PA X [.Name n np] (tCons (tVar i) tNil) := pa_cons hv pa_nil he
  refine PySem.W.callWith_K (h₀ := X.base) I.ok.mod.kin hk (thn (ha.run pos pins s σ H (fun vs H1 => vs = [V.ref a] ∧ H = H1) I ⟨_, h1, rfl, rfl⟩) fun us s1 hh => ?_) he rfl
  obtain ⟨vs, H1, I1, r, evs, eH⟩ := hh
  subst evs eH
  refine ⟨I1.kIn, ?_⟩
  have hlu : us.length = ps.length := by rw [← r.length, hl]; rfl
  have b := hb s1 us I1.kIn (by rw [List.append_nil]; exact hlu)
  rw [List.append_nil] at b
  have P1 := I1.pin (a, oe) (List.mem_append_left _ hp)
  have hpin : L2H.PinOk X.stack H s1 (a, oe) := ⟨P1.1, P1.2.1, fun hm => (List.mem_cons.mp (I1.stkSub _ hm)).elim P1.2.2.1 P1.2.2.2.1, P1.2.2.2.2⟩
  refine wpAny_call (codeAny_mono (F X.A X.stack s1 H ⟨us, []⟩ us Q (a, oe) F0 Pd hr ⟨hot, hf⟩ hpin I1.env0 b r hz R.same w2 fun d q v F' H' T V => ?_) fun r s' hq => ?_)
  · exact kd d q v F' H' T ⟨V.post, V.rep, V.nd, fun a m => ⟨(V.own a m).1, (V.own a m).2.elim .inl fun z => Bool.noConfusion z.1⟩⟩
  · cases r with
    | error e =>
      obtain ⟨_, _, _, _, _, _, _, _, _, _, _, _, z⟩ := hq
      exact z.elim
    | ok fl =>
      cases fl with
      | ret u => exact I1.after hq
      | next => exact False.elim hq
      | brk => exact False.elim hq
      | cont => exact False.elim hq
theorem roomS {k j : Nat} {A : Around} {v : Option Value} (r : Room k A) (h : j ≤ k) : L2H.RoomH j (A.mark v) :=
  ⟨by have := r.dp; show A.depth + 3 * j + 5 < _; omega, by have := r.un; show A.units + 16 * j + 200 < _; omega⟩
structure KnE (P : Program) (w : World) (K : PySem.W.Frag) (mg : Str → Option Value) (base : Heap) (k : Nat) (x : Str) (ps : List Str) (sp : Str → SpE) : Prop where
  ex : ∃ (f : Addr) (fd : FuncData), mg x = some (.ref f) ∧ PySem.W.keepIn K (.ref f) = true ∧ Binds K fd ps [] ∧ ps.length = 1 ∧ ∀ C : Str, FnE P w K mg base k f fd ps (He.ga K C) (sp C)
theorem g_knE {sp : Str → SpE} {C : Str} (h : KnE X.prog X.w X.K X.mg X.base k x ps sp) (hr : L2H.RoomH k X.A) (hf : ∃ vs : Array Value, oe.data = .fields vs) (hot : X.A.handled = some (.ref a)) (hp : (a, oe) ∈ X.pn) (hz : Zc (.ref (He.ga X.K C)) none oe) (hg : Gl X x)
    (hv : PE X (.Name n np) (tVar i)) (hdb : (x == ("__debug__" : Str)) = false := by decide) (he : starEach [.Name n np] X.env = [(false, eval (.Name n np) X.env)] := by rfl) : PE0 X W true (.Call (.Name x q) [.Name n np] [] pos) (wCallE i a (sp C)) := by
  obtain ⟨f, fd, hm, hk, hb, hl, F⟩ := h.ex
  exact g_callE (F C) hr hf hot hp hz hg hm hk hb hl hv hdb he
/-- isinstance(e, c), e the exception -/
theorem call_isP (Cc : ExcC X.K C) (hp : (a, oe) ∈ X.pn) (hz : Zc (.ref C) none oe) (hf : ∃ vs, oe.data = .fields vs) : CallR X (.builtin "isinstance") (rIsE X.K C a) := by
  intro pins s σ H xs us Q I r h
  obtain ⟨c, cv, b, rfl, hcv, e, q⟩ := h
  cases r with
  | cons rx rr =>
    cases rr with
    | cons rt rr =>
      cases rr
      cases rx
      have ec := hcv _ rt
      subst ec
      obtain ⟨hget, _⟩ := I.pin (a, oe) (List.mem_append_left _ hp)
      obtain ⟨vs, hv⟩ := hf
      have J : PySem.W.InstAt s.heap a oe C none := by
        obtain ⟨oc, od, oda, osl⟩ := oe
        obtain ⟨h1, h2⟩ := hz
        dsimp only at h1 h2 hv
        subst h1 h2 hv
        exact ⟨hget, rfl, rfl, trivial⟩
      exact PySem.W.kia_one (PySem.W.handS_kitx_exc Cc.hg Cc.hk Cc.hs Cc.hd Cc.ha Cc.hn Cc.ht Cc.hm) I.kIn J e (fun z => nomatch z) fun tk => ⟨.bl b, H, I.kept (t' := tk) fun _ _ z => z, rfl, q⟩
def wIsE (i : Nat) (a : Addr) (b : Bool) : W0 := fun ρ P _ => ρ[i]? = some (some (.ref a)) ∧ P (.bl b)
theorem g_isE {c : Expr} {cv : Value} {b : Bool} {v : V} (Cc : ExcC X.K C) (hp : (a, oe) ∈ X.pn) (hz : Zc (.ref C) none oe) (hf : ∃ vs, oe.data = .fields vs) (hk : PySem.W.kitOne X.K (.ref C) cv = some b) (hg : Gl X "isinstance") (hm : X.mg "isinstance" = none)
    (hv : PE X (.Name n np) (tVar i)) (hc : PE X c (tC v)) (hcv : ∀ u, RelV v u → u = cv) (he : starEach [.Name n np, c] X.env = (false, eval (.Name n np) X.env) :: starEach [c] X.env := by rfl) (he2 : starEach [c] X.env = [(false, eval c X.env)] := by rfl)
    (hpl : (backTo pos (starEach [c] X.env)).any (·.1) = false := by rfl) : PE0 X W true (.Call (.Name "isinstance" q) [.Name n np, c] [] pos) (wIsE i a b) := by
  refine PE.imp (pe_callB (call_isP Cc hp hz hf) hg hm (by decide +kernel) (pa_cons hv (pa_cons hc pa_nil he2) he) (by decide) (by decide) he hpl) fun σ H Q ⟨F, ρ, S, P, E, R, ⟨w1, w2⟩, kd, kx⟩ => ?_
  obtain ⟨u, A0, T, B, h1, h2, h3⟩ := R.sl.at w1
  cases h2
  exact ⟨_, h1, v, cv, b, rfl, hcv, hk, kd _ w2 _ F H [] ⟨Post0.refl R.same, .bl _, List.nodup_nil, fun a m => nomatch m⟩⟩
end
end DL

namespace DL
open PySem PySem.Spec PyProof.Rows L2

/-! ### known defs, known exceptions -/
def Kn (P : Program) (w : World) (K : PySem.W.Frag) (mg : Str → Option Value) (base : Heap) (k : Nat) (x : Str) (ps : List Str) (dds : List D) (sp : SpD) : Prop :=
  ∃ (f : Addr) (fd : FuncData) (dvs : List V) (ds : List Value), mg x = some (.ref f) ∧ PySem.W.keepIn K (.ref f) = true ∧ FnD P w K mg base k f fd ps sp ∧ Binds K fd ps ds ∧ Vals dvs ds ∧ (∀ F H, Reps K F H dvs dds []) ∧ isFs dds = true
section
variable {X : Cx} {W : WX} {fr : Bool} {e : Expr} {es : List Expr} {ws : WA0} {pos p : Pos} {k : Nat} {ps : List Str} {sp : SpD} {dds : List D} {x : Str}
theorem g_kn (h : Kn X.prog X.w X.K X.mg X.base k x ps dds sp) (hr : Room k X.A) (hg : Gl X x) (tk : TkW X W) (ha : PA0 X W false (e :: es) ws) (hdb : (x == ("__debug__" : Str)) = false := by decide)
    (he : starEach (e :: es) X.env = (false, eval e X.env) :: starEach es X.env := by rfl) (hpl : (backTo pos (starEach es X.env)).any (·.1) = false := by rfl) : PE0 X W true (.Call (.Name x p) (e :: es) [] pos) (wCall sp dds ws) := by
  obtain ⟨f, fd, dvs, ds, hm, hk, F, hb, hd, hdd, hfd⟩ := h
  exact g_call F hr hg hm hk hb hd tk hdd hfd ha hdb he hpl
end
/-- what is known of an own exception class -/
structure XK (K : PySem.W.Frag) (mg : Str → Option Value) (x : Str) : Prop where
  q : PySem.W.excIn K (He.ga K x) [.type "ValueError", .type "Exception", .type "BaseException", .type "object"] "ValueError.__new__" = true
  g : mg x = some (.ref (He.ga K x))
  k : PySem.W.keepIn K (.ref (He.ga K x)) = true
  s : PySem.W.subIn K (.ref (He.ga K x)) (.type "BaseException") = some true
  t : PySem.W.typeIn K (.ref (He.ga K x)) = some (.type "type")
theorem XK.r {X : Cx} {x : Str} (h : XK X.K X.mg x) : Raises X (.ref (He.ga X.K x)) := raises_own h.s h.t
theorem kn_of {P : Program} {w : World} {K : PySem.W.Frag} {mg : Str → Option Value} {base : Heap} {k : Nat} {x qual : Str} {params : Arguments} {body : List Stmt} {scope : Scope} {f : Addr} {fd : FuncData} {ps : List Str} {sp : SpD} (F : FunD K x qual params body scope [] [] f fd) (g : mg x = some (.ref f)) (h : FnD P w K mg base k f fd ps sp)
    (hb : ∀ (kV doc pm : Value) (an : Option Addr) (cdv ct : Value) (us : List Value), us.length = ps.length → bindArgs (PySem.W.fnOf x qual params body scope .none kV doc pm an cdv ct) ⟨us, []⟩ = pure (ps.zip us)) : Kn P w K mg base k x ps [] sp :=
  ⟨f, fd, [], [], g, F.kp, h, F.bindsN hb, .nil, fun _ _ => .nil, rfl⟩

/-- a def that lets nothing out -/
theorem fn_no {P : Program} {w : World} {K : PySem.W.Frag} {mg : Str → Option Value} {base : Heap} {k : Nat} {f : Addr} {fd : FuncData} {ps : List Str} {sp : Sp} (F : FnOk P w K mg base (L2.CX P w) k f fd ps sp) : FnOk P w K mg base L2.CX0 k f fd ps (fun vs H Q _ => sp vs H Q fun _ _ _ => False) :=
  ⟨fun vs H Q E h => F.len _ _ _ _ h, fun A outer s H args us vs Q E hr e0 hb r h => codeAny_mono (F.run A outer s H args us vs Q _ hr e0 hb r h) fun r s' z => by
    cases r with
    | ok fl => cases fl <;> exact z
    | error e =>
      obtain ⟨_, _, _, _, _, _, _, _, _, _, _, _, z⟩ := z
      exact z.elim⟩
theorem kn_ofD {P : Program} {w : World} {K : PySem.W.Frag} {mg : Str → Option Value} {base : Heap} {k : Nat} {x qual : Str} {params : Arguments} {body : List Stmt} {scope : Scope} {dvs : List V} {f : Addr} {fd : FuncData} {ps : List Str} {sp : SpD} (F : FunD K x qual params body scope dvs [] f fd) (g : mg x = some (.ref f)) (h : FnD P w K mg base k f fd ps sp)
    (n j : Nat) (hd : dvs ≠ []) (hn : n + (dvs.length - j) = ps.length)
    (hb : ∀ (T : Addr) (kV doc pm : Value) (an : Option Addr) (cdv ct : Value) (us its : List Value), us.length = n → its.length = dvs.length →
      ∃ k, bindArgs (PySem.W.fnOf x qual params body scope (.ref T) kV doc pm an cdv ct) ⟨us, []⟩ = seqItems? (.ref T) >>= k ∧ k (some its.toArray) = pure (ps.zip (us ++ its.drop j)))
    {dds : List D} (hdd : ∀ F H, Reps K F H (dvs.drop j) dds []) (hf : isFs dds = true) : Kn P w K mg base k x ps dds sp := by
  obtain ⟨ds, hv, hB⟩ := F.binds1 n j hd hn hb
  exact ⟨f, fd, dvs.drop j, ds, g, F.kp, h, hB, hv, hdd, hf⟩

/-! ### the readings, unfolded -/
section
variable {ρ : Ev} {P : D → Prop} {E : Ex → Prop} {PA : List D → Prop} {O : Outs} {P1 : D → Ev → Prop} {E1 : Ex → Ev → Prop} {PA1 : List D → Ev → Prop}
@[simp ↓] theorem wVar_s (i : Nat) : wVar i ρ P E = (match ρ[i]? with | some (some d) => P d | _ => False) := rfl
@[simp ↓] theorem wC_s (d : D) : wC d ρ P E = P d := rfl
@[simp ↓] theorem wF_s (w : W0) : wF w ρ P E = w ρ (fun d => isF d = true ∧ P d) E := rfl
@[simp ↓] theorem w2_s (g : D → D → (D → Prop) → Prop) (wa wb : W0) : w2 g wa wb ρ P E = wa ρ (fun x => wb ρ (fun y => g x y P) E) E := rfl
@[simp ↓] theorem w3_s (g g' : D → D → (D → Prop) → Prop) (wa wb wc : W0) : w3 g g' wa wb wc ρ P E = wa ρ (fun x => wb ρ (fun y => g x y (fun z => match z with
  | .bl true => wc ρ (fun u => g' y u P) E
  | .bl false => P (.bl false)
  | _ => False)) E) E := rfl
@[simp ↓] theorem wU_s (f : Int → Int) (w : W0) : wU f w ρ P E = w ρ (fun d => match d with | .int i => P (.int (f i)) | _ => False) E := rfl
@[simp ↓] theorem wIx_s (wa wb : W0) : wIx wa wb ρ P E = wa ρ (fun x => wb ρ (fun y => gIx x y P) E) E := rfl
@[simp ↓] theorem gIx_s (x y : D) : gIx x y P = (match ixD x y with | some d => P d | none => False) := rfl
@[simp ↓] theorem tV_s (w : W0) (P : Bool → Prop) : tV w ρ P E = w ρ (fun d => match d with | .bl b => P b | _ => False) E := rfl
@[simp ↓] theorem tAn_s (t u : WT0) (P : Bool → Prop) : tAn t u ρ P E = t ρ (fun b => match b with | true => u ρ P E | false => P false) E := rfl
@[simp ↓] theorem tO_s (t u : WT0) (P : Bool → Prop) : tO t u ρ P E = t ρ (fun b => match b with | true => P true | false => u ρ P E) E := rfl
@[simp ↓] theorem tN_s (t : WT0) (P : Bool → Prop) : tN t ρ P E = t ρ (fun b => P (!b)) E := rfl
@[simp ↓] theorem tTrue_s (P : Bool → Prop) : tTrue ρ P E = P true := rfl
@[simp ↓] theorem wAn_s (wa wb : W0) : wAn wa wb ρ P E = wa ρ (fun d => match d with | .bl true => wb ρ P E | .bl false => P (.bl false) | _ => False) E := rfl
@[simp ↓] theorem wO_s (wa wb : W0) : wO wa wb ρ P E = wa ρ (fun d => match d with | .bl true => P (.bl true) | .bl false => wb ρ P E | _ => False) E := rfl
@[simp ↓] theorem wN_s (wa : W0) : wN wa ρ P E = wa ρ (fun d => match d with | .bl b => P (.bl (!b)) | _ => False) E := rfl
@[simp ↓] theorem wIf_s (t : WT0) (wa wb : W0) : wIf t wa wb ρ P E = t ρ (fun b => match b with | true => wa ρ P E | false => wb ρ P E) E := rfl
@[simp ↓] theorem aNil_s : aNil ρ PA E = PA [] := rfl
@[simp ↓] theorem aCons_s (w : W0) (ws : WA0) : aCons w ws ρ PA E = w ρ (fun d => ws ρ (fun ds => PA (d :: ds)) E) E := rfl
@[simp ↓] theorem wTup_s (ws : WA0) : wTup ws ρ P E = ws ρ (fun ds => ds.length ≤ 1000 ∧ P (.tup ds)) E := rfl
@[simp ↓] theorem wLst_s (ws : WA0) : wLst ws ρ P E = ws ρ (fun ds => ds.length ≤ 1000 ∧ P (.lst true ds)) E := rfl
@[simp ↓] theorem wUp_s (w : W0) : wUp w ρ P1 E1 = w ρ (fun d => P1 d ρ) (fun x => E1 x ρ) := rfl
@[simp ↓] theorem wNm_s (i : Nat) : wNm i ρ P1 E1 = (match ρ[i]? with | some (some d) => if isF d = true then P1 d ρ else P1 d (ρ.set i none) | _ => False) := rfl
@[simp ↓] theorem aNil1_s : aNil1 ρ PA1 E1 = PA1 [] ρ := rfl
@[simp ↓] theorem aCons1_s (w : W1) (ws : WA1) : aCons1 w ws ρ PA1 E1 = w ρ (fun d ρ' => ws ρ' (fun ds ρ2 => PA1 (d :: ds) ρ2) E1) E1 := rfl
@[simp ↓] theorem wTup1_s (ws : WA1) : wTup1 ws ρ P1 E1 = ws ρ (fun ds ρ' => ds.length ≤ sizeLine ∧ P1 (.tup ds) ρ') E1 := rfl
@[simp ↓] theorem wLst1_s (ws : WA1) : wLst1 ws ρ P1 E1 = ws ρ (fun ds ρ' => ds.length ≤ sizeLine ∧ P1 (.lst true ds) ρ') E1 := rfl
@[simp ↓] theorem wCall_s (sp : SpD) (dds : List D) (ws : WA0) : wCall sp dds ws ρ P E = ws ρ (fun ds => sp (frzs ds ++ dds) (fun d => (isFs ds = true ∨ isO d = true) ∧ P d) E) E := rfl
@[simp ↓] theorem wBi_s (g : GA) (ws : WA0) : wBi g ws ρ P E = ws ρ (fun ds => g ds P) E := rfl
@[simp ↓] theorem wLend_s (w : W0) : wLend w ρ P E = w (frzE ρ) (fun d => isO d = true ∧ P d) E := rfl
@[simp ↓] theorem wSl_s (w : W0) (wl wh : WO0) : wSl w wl wh ρ P E = w ρ (fun x => wl ρ (fun lo => wh ρ (fun hi => gSl x lo hi P) E) E) E := rfl
@[simp ↓] theorem oN_s (P : Option Int → Prop) : oN ρ P E = P none := rfl
@[simp ↓] theorem oS_s (w : W0) (P : Option Int → Prop) : oS w ρ P E = w ρ (fun d => match d with | .int i => P (some i) | _ => False) E := rfl
@[simp ↓] theorem wLc_s (t : Tgt) (ws : WA0) (vs : List Nat) (tt : WT0) (we : W0) : wLc t ws vs tt we ρ P E = ws ρ (fun ds => lcL t tt we (wipeE ρ vs) ds [] (fun acc => P (.lst true acc))) E := rfl
@[simp ↓] theorem iLst_s (w : W0) : iLst w ρ PA E = w ρ (fun d => match lstD d with | some ds => PA (frzs ds) | none => False) E := rfl
@[simp ↓] theorem iTp_s (w : W0) : iTp w ρ PA E = w ρ (fun d => match d with | .tup ds => PA (frzs ds) | _ => False) E := rfl
@[simp ↓] theorem iR1_s (ws : WA0) : iR1 ws ρ PA E = ws ρ (fun ds => match ds with | [.int n] => -(2 ^ 62) ≤ n ∧ n < 2 ^ 62 ∧ PA (rngD 0 n.toNat) | _ => False) E := rfl
@[simp ↓] theorem iR2_s (ws : WA0) : iR2 ws ρ PA E = ws ρ (fun ds => match ds with | [.int m, .int n] => (-(2 ^ 62) ≤ m ∧ m < 2 ^ 62 ∧ -(2 ^ 62) ≤ n ∧ n < 2 ^ 62) ∧ PA (rngD m (n - m).toNat) | _ => False) E := rfl
@[simp ↓] theorem iEn_s (ws : WA0) : iEn ws ρ PA E = ws ρ (fun ds => match ds with | [d] => (match lstD d with | some xs => PA (enumD 0 (frzs xs)) | none => False) | _ => False) E := rfl
@[simp ↓] theorem sNil_s : sNil ρ O = O.nx ρ := rfl
@[simp ↓] theorem sSeq_s (wa wb : WS) : sSeq wa wb ρ O = wa ρ ⟨fun ρ' => wb ρ' O, O.rt, O.bk, O.ct, O.ex⟩ := rfl
@[simp ↓] theorem sBrk_s : sBrk ρ O = O.bk ρ := rfl
@[simp ↓] theorem sCt_s : sCt ρ O = O.ct ρ := rfl
@[simp ↓] theorem sDrop_s (w : W1) : sDrop w ρ O = w ρ (fun _ ρ' => O.nx ρ') O.ex := rfl
@[simp ↓] theorem sRet_s (w : W1) : sRet w ρ O = w ρ O.rt O.ex := rfl
@[simp ↓] theorem sRetN_s : sRetN ρ O = O.rt .non ρ := rfl
@[simp ↓] theorem sIf_s (t : WT0) (wa wb : WS) : sIf t wa wb ρ O = t ρ (fun b => match b with | true => wa ρ O | false => wb ρ O) (fun x => O.ex x ρ) := rfl
@[simp ↓] theorem sAsg_s (tg : Tgt) (w : W1) : sAsg tg w ρ O = w ρ (fun d ρ' => match bindT tg d ρ' with | some ρ2 => O.nx ρ2 | none => False) O.ex := rfl
@[simp] theorem bindT_nm (i : Nat) (d : D) : bindT (.nm i) d ρ = some (ρ.set i (some d)) := rfl
@[simp] theorem bindT_tp (is : List Nat) (ds : List D) : bindT (.tp is) (.tup ds) ρ = bindsT is ds ρ := rfl
@[simp] theorem bindsT_nil : bindsT [] [] ρ = some ρ := rfl
@[simp] theorem bindsT_cons (i : Nat) (is : List Nat) (d : D) (ds : List D) : bindsT (i :: is) (d :: ds) ρ = bindsT is ds (ρ.set i (some d)) := rfl
@[simp ↓] theorem sAug_s (i : Nat) (f : Int → Int → Int) (w : W0) : sAug i f w ρ O = (match ρ[i]? with
  | some (some (.int a)) => w ρ (fun d => match d with | .int b => O.nx (ρ.set i (some (.int (f a b)))) | _ => False) (fun x => O.ex x ρ)
  | _ => False) := rfl
@[simp ↓] theorem sFor_s (tg : Tgt) (wi : WA0) (wb : WS) : sFor tg wi wb ρ O = wi ρ (fun ds => forL tg wb ds ρ O) (fun x => O.ex x ρ) := rfl
theorem forL_nil (tg : Tgt) (wb : WS) : forL tg wb [] ρ O = O.nx ρ := rfl
theorem forL_cons (tg : Tgt) (wb : WS) (d : D) (ds : List D) : forL tg wb (d :: ds) ρ O = (match bindT tg d ρ with
    | some ρ1 => wb ρ1 ⟨fun ρ' => forL tg wb ds ρ' O, O.rt, O.nx, fun ρ' => forL tg wb ds ρ' O, O.ex⟩
    | none => False) := rfl
@[simp ↓] theorem sRz_s (x : Ex) : sRz x ρ O = O.ex x ρ := rfl
@[simp ↓] theorem pVar_s (i : Nat) (P : D → (D → Ev) → Prop) : pVar i ρ P E = (match ρ[i]? with | some (some d) => P d (fun d2 => ρ.set i (some d2)) | _ => False) := rfl
@[simp ↓] theorem wLm_s (m : List D → List D → (D → List D → Prop) → Prop) (wp : WP) (ws : WA0) : wLm m wp ws ρ P1 E1 = wp ρ (fun d put => match d with
  | .lst true xs => ws ρ (fun ds => m xs ds (fun res ys => P1 res (put (.lst true ys)))) (fun x => E1 x ρ)
  | _ => False) (fun x => E1 x ρ) := rfl
@[simp ↓] theorem wLmN_s (m : List D → List D → (D → List D → Prop) → Prop) (i : Nat) (ws : WA1) : wLmN m i ws ρ P1 E1 = ((match ρ[i]? with | some (some (.lst _ _)) => True | _ => False) ∧ ws ρ (fun ds ρ' => match ρ'[i]? with
  | some (some (.lst true xs)) => m xs ds (fun res ys => P1 res (ρ'.set i (some (.lst true ys))))
  | _ => False) E1) := rfl
@[simp ↓] theorem sPut_s (wp : WP) (wi : W0) (w1 : W1) : sPut wp wi w1 ρ O = w1 ρ (fun d ρ' => wp ρ' (fun c put => wi ρ' (fun k => putD c k d put O.nx) (fun x => O.ex x ρ')) (fun x => O.ex x ρ')) O.ex := rfl
@[simp ↓] theorem sFrz_s (i : Nat) (w : WS) : sFrz i w ρ O = (match ρ[i]? with | some (some d) => w (ρ.set i (some (frz d))) O | _ => False) := rfl
@[simp ↓] theorem pIx_s (wp : WP) (wi : W0) (P : D → (D → Ev) → Prop) : pIx wp wi ρ P E = wp ρ (fun d put => wi ρ (fun j => match d, j with
  | .lst true xs, .int i => (match ixN xs.length i with
    | some n => (match xs[n]? with | some d1 => P d1 (fun d2 => put (.lst true (xs.set n d2))) | none => False)
    | none => False)
  | .dic true t ks xs, k => (match kix ks k with
    | some n => (match xs[n]? with | some d1 => P d1 (fun d2 => put (.dic true t ks (xs.set n d2))) | none => False)
    | none => False)
  | _, _ => False) E) E := rfl
@[simp ↓] theorem wCallE_s (i : Nat) (a : Addr) (sp : SpE) : wCallE i a sp ρ P E = (ρ[i]? = some (some (.ref a)) ∧ sp P) := rfl
@[simp ↓] theorem wIsE_s (i : Nat) (a : Addr) (b : Bool) : wIsE i a b ρ P E = (ρ[i]? = some (some (.ref a)) ∧ P (.bl b)) := rfl
@[simp ↓] theorem sTry_s (exm : Str → Option Bool) (i : Nat) (wb : WS) (ws : Addr → Str → WS) : sTry exm i wb ws ρ O = wb ρ ⟨O.nx, O.rt, O.bk, O.ct, fun x ρ' => match exm x.C with
  | some true => x.pl = none ∧ ∀ a, ws a x.C (ρ'.set i (some (.ref a))) ⟨fun ρ2 => O.nx (ρ2.set i none), O.rt, fun ρ2 => O.bk (ρ2.set i none), fun ρ2 => O.ct (ρ2.set i none), fun _ _ => False⟩
  | some false => O.ex x ρ'
  | none => False⟩ := rfl
@[simp] theorem outs_nx (P : D → Prop) (E : Ex → Prop) : (outsOf P E).nx = fun _ => P .non := rfl
@[simp] theorem outs_rt (P : D → Prop) (E : Ex → Prop) : (outsOf P E).rt = fun d _ => P d := rfl
@[simp] theorem outs_ex (P : D → Prop) (E : Ex → Prop) : (outsOf P E).ex = fun x _ => E x := rfl
/-- isF of parts -/
@[simp] theorem isF_non : isF .non = true := rfl
@[simp] theorem isF_bl (b : Bool) : isF (.bl b) = true := rfl
@[simp] theorem isF_int (i : Int) : isF (.int i) = true := rfl
@[simp] theorem isF_str (x : Str) : isF (.str x) = true := rfl
@[simp] theorem isF_ref (a : Addr) : isF (.ref a) = true := rfl
@[simp] theorem isF_tup (xs : List D) : isF (.tup xs) = isFs xs := rfl
@[simp] theorem isF_con (xs : List D) : isF (.con xs) = isFs xs := rfl
@[simp] theorem isF_lst (o : Bool) (xs : List D) : isF (.lst o xs) = (!o && isFs xs) := rfl
@[simp] theorem isF_dic (o : Bool) (t : Nat) (ks vs : List D) : isF (.dic o t ks vs) = (!o && isFs ks && isFs vs) := rfl
@[simp] theorem isFs_nil : isFs [] = true := rfl
@[simp] theorem isFs_cons (x : D) (r : List D) : isFs (x :: r) = (isF x && isFs r) := rfl
@[simp] theorem isFs_append (xs ys : List D) : isFs (xs ++ ys) = (isFs xs && isFs ys) := by rw [isFs_all, isFs_all, isFs_all, List.all_append]
@[simp] theorem isO_non : isO .non = true := rfl
@[simp] theorem isO_bl (b : Bool) : isO (.bl b) = true := rfl
@[simp] theorem isO_int (i : Int) : isO (.int i) = true := rfl
@[simp] theorem isO_str (x : Str) : isO (.str x) = true := rfl
@[simp] theorem isO_tup (xs : List D) : isO (.tup xs) = isOs xs := rfl
@[simp] theorem isO_lst (o : Bool) (xs : List D) : isO (.lst o xs) = (o && isOs xs) := rfl
@[simp] theorem isO_dic (o : Bool) (t : Nat) (ks vs : List D) : isO (.dic o t ks vs) = (o && isOs ks && isOs vs) := rfl
@[simp] theorem isOs_nil : isOs [] = true := rfl
@[simp] theorem isOs_cons (x : D) (r : List D) : isOs (x :: r) = (isO x && isOs r) := rfl
@[simp] theorem isOs_append (xs ys : List D) : isOs (xs ++ ys) = (isOs xs && isOs ys) := by rw [isOs_all, isOs_all, isOs_all, List.all_append]
@[simp] theorem frz_non : frz .non = .non := rfl
@[simp] theorem frz_bl (b : Bool) : frz (.bl b) = .bl b := rfl
@[simp] theorem frz_int (i : Int) : frz (.int i) = .int i := rfl
@[simp] theorem frz_str (x : Str) : frz (.str x) = .str x := rfl
@[simp] theorem frz_ref (a : Addr) : frz (.ref a) = .ref a := rfl
@[simp] theorem frz_tup (xs : List D) : frz (.tup xs) = .tup (frzs xs) := rfl
@[simp] theorem frz_con (xs : List D) : frz (.con xs) = .con (frzs xs) := rfl
@[simp] theorem frz_lst (o : Bool) (xs : List D) : frz (.lst o xs) = .lst false (frzs xs) := rfl
@[simp] theorem frz_dic (o : Bool) (t : Nat) (ks vs : List D) : frz (.dic o t ks vs) = .dic false t (frzs ks) (frzs vs) := rfl
@[simp] theorem frzs_nil : frzs [] = [] := rfl
@[simp] theorem frzs_cons (x : D) (r : List D) : frzs (x :: r) = frz x :: frzs r := rfl
@[simp] theorem frzs_append (xs ys : List D) : frzs (xs ++ ys) = frzs xs ++ frzs ys := by rw [frzs_map, frzs_map, frzs_map, List.map_append]
@[simp] theorem frzE_nil : frzE [] = [] := rfl
@[simp] theorem frzE_none (r : Ev) : frzE (none :: r) = none :: frzE r := rfl
@[simp] theorem frzE_some (d : D) (r : Ev) : frzE (some d :: r) = some (frz d) :: frzE r := rfl
@[simp] theorem wipeE_nil : wipeE ρ [] = ρ := rfl
@[simp] theorem wipeE_cons (v : Nat) (vs : List Nat) : wipeE ρ (v :: vs) = (wipeE ρ vs).set v none := rfl
@[simp] theorem lstD_lst (o : Bool) (xs : List D) : lstD (.lst o xs) = some xs := rfl
@[simp] theorem lstD_con (xs : List D) : lstD (.con xs) = some xs := rfl
@[simp] theorem ixD_tup (xs : List D) (i : Int) : ixD (.tup xs) (.int i) = atI xs i := rfl
@[simp] theorem ixD_lst (o : Bool) (xs : List D) (i : Int) : ixD (.lst o xs) (.int i) = atI xs i := rfl
@[simp] theorem ixD_con (xs : List D) (i : Int) : ixD (.con xs) (.int i) = atI xs i := rfl
@[simp] theorem ixD_dic (o : Bool) (t : Nat) (ks vs : List D) (k : D) : ixD (.dic o t ks vs) k = dlook ks vs k := rfl
@[simp] theorem ixD_str (z : Str) (i : Int) : ixD (.str z) (.int i) = if z.length ≤ sizeLine then strAt z i else none := rfl
@[simp ↓] theorem gEq_s (x y : D) : gEq x y P = (cmpD 60 x = true ∧ cmpD 60 y = true ∧ P (.bl (eqvD x y))) := rfl
@[simp ↓] theorem gNe_s (x y : D) : gNe x y P = (cmpD 60 x = true ∧ cmpD 60 y = true ∧ P (.bl (!eqvD x y))) := rfl
@[simp ↓] theorem gI_s (f : Int → Int → D) (i j : Int) : gI f (.int i) (.int j) P = P (f i j) := rfl
@[simp ↓] theorem gIc_s (C : Int → Int → Prop) (f : Int → Int → D) (i j : Int) : gIc C f (.int i) (.int j) P = (C i j ∧ P (f i j)) := rfl
@[simp ↓] theorem gAdd_i (i j : Int) : gAdd (.int i) (.int j) P = P (.int (i + j)) := rfl
@[simp ↓] theorem gAdd_s (x y : Str) : gAdd (.str x) (.str y) P = (x.length + y.length ≤ sizeLine ∧ P (.str (x ++ y))) := rfl
@[simp ↓] theorem gAdd_l (o p : Bool) (xs ys : List D) : gAdd (.lst o xs) (.lst p ys) P = (isFs xs = true ∧ isFs ys = true ∧ xs.length + ys.length ≤ sizeLine ∧ P (.lst true (xs ++ ys))) := rfl
@[simp ↓] theorem gIsN_s (x y : D) : gIsN x y P = (y = .non ∧ P (.bl (isNonD x))) := rfl
@[simp ↓] theorem gIsNot_s (x y : D) : gIsNot x y P = (y = .non ∧ P (.bl (!isNonD x))) := rfl
@[simp] theorem cmpD_non (n : Nat) : cmpD n .non = true := by cases n <;> rfl
@[simp] theorem cmpD_bl (n : Nat) (b : Bool) : cmpD n (.bl b) = true := by cases n <;> rfl
@[simp] theorem cmpD_int (n : Nat) (b : Int) : cmpD n (.int b) = true := by cases n <;> rfl
@[simp] theorem cmpD_str (n : Nat) (b : Str) : cmpD n (.str b) = true := by cases n <;> rfl
@[simp] theorem cmpD_tup (n : Nat) (xs : List D) : cmpD (n + 1) (.tup xs) = cmpsD n xs := rfl
@[simp] theorem cmpD_lst (n : Nat) (o : Bool) (xs : List D) : cmpD (n + 1) (.lst o xs) = cmpsD n xs := rfl
@[simp] theorem cmpsD_nil (n : Nat) : cmpsD n [] = true := by cases n <;> rfl
@[simp] theorem cmpsD_cons (n : Nat) (x : D) (xs : List D) : cmpsD n (x :: xs) = (cmpD n x && cmpsD n xs) := by cases n <;> rfl
theorem cmpsD_all (n : Nat) (xs : List D) : cmpsD n xs = xs.all (cmpD n) := by
  induction xs with
  | nil => simp
  | cons x r ih => simp [ih]
@[simp] theorem eqvD_int (i j : Int) : eqvD (.int i) (.int j) = decide (i = j) := by show (i == j) = _; rw [Bool.eq_iff_iff]; simp
@[simp] theorem eqvD_str (i j : Str) : eqvD (.str i) (.str j) = decide (i = j) := by show (i == j) = _; rw [Bool.eq_iff_iff]; simp
@[simp] theorem eqvD_bl (i j : Bool) : eqvD (.bl i) (.bl j) = decide (i = j) := by show (i == j) = _; rw [Bool.eq_iff_iff]; simp
@[simp] theorem eqvD_tup (xs ys : List D) : eqvD (.tup xs) (.tup ys) = eqvsD xs ys := rfl
@[simp] theorem eqvD_lst (o p : Bool) (xs ys : List D) : eqvD (.lst o xs) (.lst p ys) = eqvsD xs ys := rfl
@[simp] theorem eqvsD_nil : eqvsD [] [] = true := rfl
@[simp] theorem eqvsD_nc (y : D) (ys : List D) : eqvsD [] (y :: ys) = false := rfl
@[simp] theorem eqvsD_cn (y : D) (ys : List D) : eqvsD (y :: ys) [] = false := rfl
@[simp] theorem eqvsD_cons (x y : D) (xs ys : List D) : eqvsD (x :: xs) (y :: ys) = (eqvD x y && eqvsD xs ys) := rfl
@[simp] theorem eqvD_sn (x : Str) : eqvD (.str x) .non = false := rfl
@[simp] theorem eqvD_ns (x : Str) : eqvD .non (.str x) = false := rfl
@[simp] theorem eqvD_nn : eqvD .non .non = true := rfl
@[simp] theorem eqvD_in (x : Int) : eqvD (.int x) .non = false := rfl
@[simp] theorem eqvD_ni (x : Int) : eqvD .non (.int x) = false := rfl
@[simp] theorem eqvD_nt (x : List D) : eqvD .non (.tup x) = false := rfl
@[simp] theorem eqvD_tn (x : List D) : eqvD (.tup x) .non = false := rfl
@[simp] theorem isNonD_non : isNonD .non = true := rfl
@[simp] theorem isNonD_str (x : Str) : isNonD (.str x) = false := rfl
@[simp] theorem isNonD_int (x : Int) : isNonD (.int x) = false := rfl
@[simp] theorem isNonD_tup (x : List D) : isNonD (.tup x) = false := rfl
@[simp] theorem isNonD_lst (o : Bool) (x : List D) : isNonD (.lst o x) = false := rfl
@[simp] theorem gLen_l (o : Bool) (xs : List D) : gLen [.lst o xs] P = P (.int (xs.length : Int)) := rfl
@[simp] theorem gLen_t (xs : List D) : gLen [.tup xs] P = P (.int (xs.length : Int)) := rfl
@[simp] theorem gLen_c (xs : List D) : gLen [.con xs] P = P (.int (xs.length : Int)) := rfl
@[simp] theorem gLen_d (o : Bool) (t : Nat) (ks vs : List D) : gLen [.dic o t ks vs] P = P (.int (ks.length : Int)) := rfl
@[simp] theorem gList_l (o : Bool) (xs : List D) : gList [.lst o xs] P = (isFs xs = true ∧ P (.lst true xs)) := rfl
@[simp] theorem gList_d (o : Bool) (t : Nat) (ks vs : List D) : gList [.dic o t ks vs] P = P (.lst true ks) := rfl
@[simp] theorem gList_t (xs : List D) : gList [.tup xs] P = (isFs xs = true ∧ P (.lst true xs)) := rfl
@[simp] theorem gIntB_b (b : Bool) : gIntB [.bl b] P = P (.int (if b then 1 else 0)) := rfl
@[simp] theorem gIntB_i (i : Int) : gIntB [.int i] P = P (.int i) := rfl
@[simp] theorem gMax2_i (i j : Int) : gMax2 [.int i, .int j] P = P (.int (if j > i then j else i)) := rfl
end
/-- a text literal is just what it says -/
@[simp] theorem ofString_inj {a b : String} : Str.ofString a = Str.ofString b ↔ a = b := by
  constructor
  · intro h
    rw [Str.ofString_eq_toList, Str.ofString_eq_toList] at h
    have h1 := congrArg Str.cps h
    have h2 : a.toList.map Char.toNat = b.toList.map Char.toNat := by
      have h3 := congrArg Array.toList h1
      simpa using h3
    have h4 : a.toList = b.toList := by
      have inj : Function.Injective Char.toNat := fun x y h => Char.toNat_inj.mp h
      exact List.map_inj_right (fun x y h => inj h) |>.mp h2
    exact String.toList_inj.mp h4
  · intro h; rw [h]
end DL

namespace DL
open PySem PySem.Spec PyProof.Rows L2

/-! ### places of lists -/
theorem atI_nn {α : Type} {xs : List α} {i : Int} (h : 0 ≤ i) : atI xs i = xs[i.toNat]? := by
  unfold atI ixN
  rw [if_pos h]
  by_cases h1 : i < xs.length
  · rw [if_pos h1]; rfl
  · rw [if_neg h1]
    have : xs.length ≤ i.toNat := by omega
    simp [List.getElem?_eq_none this]
@[simp] theorem atI_cast {α : Type} (xs : List α) (n : Nat) : atI xs (n : Int) = xs[n]? := by rw [atI_nn (Int.natCast_nonneg n)]; rfl
@[simp] theorem atI_0 {α : Type} (xs : List α) : atI xs 0 = xs[0]? := atI_cast xs 0
@[simp] theorem atI_1 {α : Type} (xs : List α) : atI xs 1 = xs[1]? := atI_cast xs 1
@[simp] theorem atI_2 {α : Type} (xs : List α) : atI xs 2 = xs[2]? := atI_cast xs 2
@[simp] theorem atI_3 {α : Type} (xs : List α) : atI xs 3 = xs[3]? := atI_cast xs 3
@[simp] theorem atI_4 {α : Type} (xs : List α) : atI xs 4 = xs[4]? := atI_cast xs 4
theorem atI_some {α : Type} {xs : List α} {i : Int} (h0 : 0 ≤ i) (h1 : i < xs.length) : ∃ x, atI xs i = some x ∧ x ∈ xs := by
  rw [atI_nn h0]
  have h2 : i.toNat < xs.length := by omega
  exact ⟨xs[i.toNat], by rw [List.getElem?_eq_getElem h2], List.getElem_mem h2⟩
theorem atI_map {α β : Type} (f : α → β) {xs : List α} {i : Int} (h0 : 0 ≤ i) (h1 : i < xs.length) : ∃ x, atI (xs.map f) i = some (f x) ∧ x ∈ xs := by
  obtain ⟨y, h2, h3⟩ := atI_some (xs := xs.map f) h0 (by rw [List.length_map]; exact h1)
  obtain ⟨x, h4, h5⟩ := List.mem_map.mp h3
  exact ⟨x, by rw [h2, h5], h4⟩
theorem atI_last {α : Type} (xs : List α) (x : α) : atI (xs ++ [x]) (-1) = some x := by
  unfold atI ixN
  have h1 : ¬ (0 : Int) ≤ -1 := by omega
  rw [if_neg h1]
  have h2 : -((xs ++ [x]).length : Int) ≤ -1 := by simp; omega
  rw [if_pos h2]
  have h3 : (-1 + ((xs ++ [x]).length : Int)).toNat = xs.length := by simp; omega
  show (xs ++ [x])[(-1 + ((xs ++ [x]).length : Int)).toNat]? = some x
  rw [h3]; simp
theorem ixN_cast {n m : Nat} (h : m < n) : ixN n (m : Int) = some m := by
  unfold ixN
  rw [if_pos (Int.natCast_nonneg m), if_pos (by omega)]
  rfl
theorem beq_lit (a b : String) : ((Str.ofString a == Str.ofString b) : Bool) = decide (a = b) := by
  rw [Bool.eq_iff_iff, beq_iff_eq, ofString_inj, decide_eq_true_iff]
theorem szN {n : Nat} (h : n ≤ 16777216) : n ≤ sizeLine := by rw [sizeLine_eq]; exact h
theorem szL {n : Nat} (h : n < 16777216) : n < sizeLine := by rw [sizeLine_eq]; exact h

/-! ### walks of comprehensions and loops -/
theorem lcL_ok {α : Type} {t : Tgt} {tt : WT0} {we : W0} {ρ0 : Ev} {k : List D → Prop} (enc : α → D) (p : α → Bool) (f : α → D) : ∀ (xs : List α) (acc : List D),
    (∀ x ∈ xs, ∃ ρ1, bindT t (enc x) ρ0 = some ρ1 ∧ (∀ Pb : Bool → Prop, Pb (p x) → tt ρ1 Pb fun _ => False) ∧ (p x = true → ∀ P : D → Prop, P (f x) → we ρ1 P fun _ => False)) →
    acc.length + xs.length ≤ sizeLine → k (acc ++ (xs.filter p).map f) → lcL t tt we ρ0 (xs.map enc) acc k
  | [], acc, _, _, h => by
    simp only [List.filter_nil, List.map_nil, List.append_nil] at h
    exact h
  | x :: r, acc, st, hl, h => by
    obtain ⟨ρ1, h1, h2, h3⟩ := st x List.mem_cons_self
    have hl' : acc.length + (r.length + 1) ≤ sizeLine := by simpa using hl
    rw [List.map_cons]
    unfold lcL
    rw [h1]
    refine h2 _ ?_
    cases hp : p x with
    | true =>
      refine h3 hp _ ⟨by omega, ?_⟩
      refine lcL_ok enc p f r _ (fun y m => st y (List.mem_cons_of_mem _ m)) (by simp; omega) ?_
      rw [List.filter_cons, if_pos hp, List.map_cons] at h
      simpa using h
    | false =>
      refine lcL_ok enc p f r acc (fun y m => st y (List.mem_cons_of_mem _ m)) (by omega) ?_
      rw [List.filter_cons, if_neg (by rw [hp]; decide)] at h
      exact h
/-- without a test -/
theorem lcL_map {α : Type} {t : Tgt} {we : W0} {ρ0 : Ev} {k : List D → Prop} (enc : α → D) (f : α → D) (xs : List α)
    (st : ∀ x ∈ xs, ∃ ρ1, bindT t (enc x) ρ0 = some ρ1 ∧ (∀ P : D → Prop, P (f x) → we ρ1 P fun _ => False)) (hl : xs.length ≤ sizeLine) (h : k (xs.map f)) : lcL t tTrue we ρ0 (xs.map enc) [] k := by
  have ef : xs.filter (fun _ => true) = xs := List.filter_eq_self.mpr fun _ _ => rfl
  refine lcL_ok enc (fun _ => true) f xs [] (fun x m => ?_) (by simpa using hl) (by rw [ef]; exact h)
  obtain ⟨ρ1, h1, h2⟩ := st x m
  exact ⟨ρ1, h1, fun Pb q => q, fun _ => h2⟩
theorem forL_ind {α : Type} {tg : Tgt} {wb : WS} {O : Outs} (enc : α → D) (R : List α → Ev → Prop)
    (step : ∀ x rest ρ, R (x :: rest) ρ → ∃ ρ1, bindT tg (enc x) ρ = some ρ1 ∧ ∀ nx : Ev → Prop, (∀ ρ', R rest ρ' → nx ρ') → wb ρ1 ⟨nx, O.rt, O.nx, nx, O.ex⟩) (fin : ∀ ρ, R [] ρ → O.nx ρ) :
    ∀ (xs : List α) (ρ : Ev), R xs ρ → forL tg wb (xs.map enc) ρ O
  | [], ρ, h => fin ρ h
  | x :: r, ρ, h => by
    obtain ⟨ρ1, h1, h2⟩ := step x r ρ h
    rw [List.map_cons, forL_cons, h1]
    exact h2 _ fun ρ' h' => forL_ind enc R step fin r ρ' h'
theorem enumD_map {α : Type} (enc : α → D) : ∀ (xs : List α) (n : Nat), enumD n (xs.map enc) = (xs.zipIdx n).map fun q => .tup [.int (q.2 : Int), enc q.1]
  | [], _ => rfl
  | x :: r, n => by
    rw [List.map_cons, List.zipIdx_cons, List.map_cons, ← enumD_map enc r (n + 1)]
    rfl
theorem rngD_0 (n : Nat) : rngD 0 n = (List.range n).map fun (i : Nat) => D.int (i : Int) := by
  unfold rngD
  simp
theorem frzs_of_map {α : Type} (enc : α → D) (h : ∀ x, frz (enc x) = enc x) (xs : List α) : frzs (xs.map enc) = xs.map enc := by
  induction xs with
  | nil => rfl
  | cons x r ih => simp [h, ih]
theorem isFs_of_map {α : Type} (enc : α → D) (h : ∀ x, isF (enc x) = true) (xs : List α) : isFs (xs.map enc) = true := by
  induction xs with
  | nil => rfl
  | cons x r ih => simp [h, ih]
theorem isOs_of_map {α : Type} (enc : α → D) (h : ∀ x, isO (enc x) = true) (xs : List α) : isOs (xs.map enc) = true := by
  induction xs with
  | nil => rfl
  | cons x r ih => simp [h, ih]
theorem cmps_of_map {α : Type} (n : Nat) (enc : α → D) (h : ∀ x, cmpD n (enc x) = true) (xs : List α) : cmpsD n (xs.map enc) = true := by
  induction xs with
  | nil => simp
  | cons x r ih => simp [h, ih]
/-- equal as data: equal -/
theorem eqvs_of_map {α : Type} [DecidableEq α] (enc : α → D) (h : ∀ x y, eqvD (enc x) (enc y) = decide (x = y)) : ∀ xs ys : List α, eqvsD (xs.map enc) (ys.map enc) = decide (xs = ys)
  | [], [] => by simp
  | [], y :: ys => by simp
  | x :: xs, [] => by simp
  | x :: xs, y :: ys => by
    rw [List.map_cons, List.map_cons, eqvsD_cons, h, eqvs_of_map enc h xs ys, Bool.eq_iff_iff]
    simp
theorem any_eqv {α : Type} [BEq α] [LawfulBEq α] (enc : α → D) (h : ∀ x y, eqvD (enc x) (enc y) = (x == y)) (x : α) (xs : List α) : (xs.map enc).any (fun z => eqvD z (enc x)) = decide (x ∈ xs) := by
  induction xs with
  | nil => simp
  | cons y r ih =>
    rw [List.map_cons, List.any_cons, ih, h, Bool.eq_iff_iff, Bool.or_eq_true, decide_eq_true_iff, decide_eq_true_iff, beq_iff_eq, List.mem_cons]
    exact ⟨fun z => z.elim (fun e => .inl e.symm) .inr, fun z => z.elim (fun e => .inl e.symm) .inr⟩
end DL

namespace PR
open PySem PySem.Spec PyProof.Rows L2 DL
/-! ### data -/
inductive Gd where
  | no | g (w : Bool) (c : Str) (n : Int)
  deriving DecidableEq
inductive Dd where
  | put (p : Str) (n : Int) (g : Gd) | get (c p : Str) (g : Gd) | swap (c p : Str) (n : Int) (g : Gd) | fence (g : Gd) | bar (g : Gd)
  deriving DecidableEq
abbrev Hd := List Dd
abbrev Pg := List Hd
def encG : Gd → D
  | .no => .non
  | .g w c n => .tup [.str (if w then "when" else "unless"), .str c, .int n]
def enD : Dd → D
  | .put p n g => .tup [.str "put", .str p, .int n, encG g]
  | .get c p g => .tup [.str "get", .str c, .str p, encG g]
  | .swap c p n g => .tup [.str "swap", .str c, .str p, .int n, encG g]
  | .fence g => .tup [.str "fence", encG g]
  | .bar g => .tup [.str "bar", encG g]
def placeOf : Dd → Option Str
  | .put p _ _ => some p
  | .get _ p _ => some p
  | .swap _ p _ _ => some p
  | _ => none
def encO : Option Str → D
  | none => .non
  | some x => .str x
def encH (h : Hd) : D := .lst false (h.map enD)
def encP (p : Pg) : D := .lst false (p.map encH)
@[simp] theorem frz_encG (g : Gd) : frz (encG g) = encG g := by cases g <;> rfl
@[simp] theorem isF_encG (g : Gd) : isF (encG g) = true := by cases g <;> rfl
@[simp] theorem isO_encG (g : Gd) : isO (encG g) = true := by cases g <;> rfl
@[simp] theorem frz_encD (d : Dd) : frz (enD d) = enD d := by cases d <;> simp [enD]
@[simp] theorem isF_encD (d : Dd) : isF (enD d) = true := by cases d <;> simp [enD]
@[simp] theorem isO_encD (d : Dd) : isO (enD d) = true := by cases d <;> simp [enD]
@[simp] theorem frzs_encD (l : Hd) : frzs (l.map enD) = l.map enD := frzs_of_map _ frz_encD l
@[simp] theorem isFs_encD (l : Hd) : isFs (l.map enD) = true := isFs_of_map _ isF_encD l
@[simp] theorem isOs_encD (l : Hd) : isOs (l.map enD) = true := isOs_of_map _ isO_encD l
@[simp] theorem frz_encH (h : Hd) : frz (encH h) = encH h := by simp [encH]
@[simp] theorem isF_encH (h : Hd) : isF (encH h) = true := by simp [encH]
@[simp] theorem frzs_encH (l : Pg) : frzs (l.map encH) = l.map encH := frzs_of_map _ frz_encH l
@[simp] theorem isFs_encH (l : Pg) : isFs (l.map encH) = true := isFs_of_map _ isF_encH l
@[simp] theorem frz_encP (h : Pg) : frz (encP h) = encP h := by simp [encP]
@[simp] theorem isF_encP (h : Pg) : isF (encP h) = true := by simp [encP]
@[simp] theorem lstD_encH (h : Hd) : lstD (encH h) = some (h.map enD) := rfl
@[simp] theorem lstD_encP (h : Pg) : lstD (encP h) = some (h.map encH) := rfl
@[simp] theorem isF_encO (o : Option Str) : isF (encO o) = true := by cases o <;> rfl
@[simp] theorem isO_encO (o : Option Str) : isO (encO o) = true := by cases o <;> rfl
@[simp] theorem isNonD_encO (o : Option Str) : isNonD (encO o) = o.isNone := by cases o <;> rfl
/-- a point, a gap -/
abbrev Pt := Int × Int
def encPt (q : Pt) : D := .tup [.int q.1, .int q.2]
@[simp] theorem frz_encPt (q : Pt) : frz (encPt q) = encPt q := rfl
@[simp] theorem isF_encPt (q : Pt) : isF (encPt q) = true := rfl
@[simp] theorem isO_encPt (q : Pt) : isO (encPt q) = true := rfl
@[simp] theorem frzs_encPt (l : List Pt) : frzs (l.map encPt) = l.map encPt := frzs_of_map _ frz_encPt l
@[simp] theorem isFs_encPt (l : List Pt) : isFs (l.map encPt) = true := isFs_of_map _ isF_encPt l
@[simp] theorem isOs_encPt (l : List Pt) : isOs (l.map encPt) = true := isOs_of_map _ isO_encPt l
theorem encPt_eqv (x y : Pt) : eqvD (encPt x) (encPt y) = (x == y) := by
  rw [Bool.eq_iff_iff]
  simp [encPt, Prod.ext_iff]
theorem encPt_inj {x y : Pt} (h : encPt x = encPt y) : x = y := by
  unfold encPt at h
  injection h with h
  injection h with h1 h2
  injection h2 with h2 h3
  injection h1 with h1
  injection h2 with h2
  exact Prod.ext h1 h2
@[simp] theorem cmpD_encPt (n : Nat) (q : Pt) : cmpD (n + 1) (encPt q) = true := by simp [encPt]
@[simp] theorem cmpsD_encPt (n : Nat) (l : List Pt) : cmpsD (n + 1) (l.map encPt) = true := cmps_of_map _ _ (cmpD_encPt n) l
/-- a stop: a gap and a word -/
abbrev Stp := Pt × Bool
def wd (b : Bool) : Str := if b then "fence" else "bar"
def stopD (b : Bool) : Dd := if b then .fence .no else .bar .no
def encS (s : Stp) : D := .tup [.int s.1.1, .int s.1.2, .str (wd s.2)]
@[simp] theorem frz_encS (q : Stp) : frz (encS q) = encS q := rfl
@[simp] theorem isF_encS (q : Stp) : isF (encS q) = true := rfl
@[simp] theorem isO_encS (q : Stp) : isO (encS q) = true := rfl
@[simp] theorem frzs_encS (l : List Stp) : frzs (l.map encS) = l.map encS := frzs_of_map _ frz_encS l
@[simp] theorem isFs_encS (l : List Stp) : isFs (l.map encS) = true := isFs_of_map _ isF_encS l
@[simp] theorem isOs_encS (l : List Stp) : isOs (l.map encS) = true := isOs_of_map _ isO_encS l
def encSs (l : List Stp) : D := .lst false (l.map encS)
@[simp] theorem frz_encSs (l : List Stp) : frz (encSs l) = encSs l := by simp [encSs]
@[simp] theorem isF_encSs (l : List Stp) : isF (encSs l) = true := by simp [encSs]
@[simp] theorem lstD_encSs (l : List Stp) : lstD (encSs l) = some (l.map encS) := rfl

/-! ### what the defs compute -/
def manyOf (h : Hd) : Nat := (h.filter fun d => (placeOf d).isSome).length
def pointsOf (p : Pg) : List Pt := p.zipIdx.flatMap fun q => (List.range (manyOf q.1)).map fun (k : Nat) => ((q.2 : Int), (k : Int))
def gapsOf (p : Pg) : List Pt := (pointsOf p).filter fun q => decide (0 < q.2)
def sumOf (p : Pg) : Nat := (p.map List.length).sum
/-- a program of bearable size -/
def Fit (p : Pg) : Prop := p.length ≤ 1000 ∧ sumOf p ≤ 1000
def smallOf (p : Pg) : Bool := !(decide (4 < p.length) || decide (6 < (pointsOf p).length)) && decide (sumOf p ≤ 12)
def wordsGo : List Pt → List Stp → List Stp → Option (List Stp)
  | _, ws, [] => some ws
  | free, ws, s :: r => if s.1 ∈ free then wordsGo (free.erase s.1) (ws ++ [s]) r else none
def wordAt (ws : List Stp) (q : Pt) : Option Bool := (ws.find? fun s => decide (s.1 = q)).map (·.2)
def handGo (h : Int) (ws : List Stp) : Int → Hd → Hd
  | _, [] => []
  | k, d :: r => if (placeOf d).isSome then (match wordAt ws (h, k) with
      | some b => stopD b :: d :: handGo h ws (k + 1) r
      | none => d :: handGo h ws (k + 1) r)
    else d :: handGo h ws k r
def fencedOf (p : Pg) (ss : List Stp) : Option Pg := (wordsGo (gapsOf p) [] ss).map fun ws => p.zipIdx.map fun q => handGo q.2 ws 0 q.1
theorem many_le (h : Hd) : manyOf h ≤ h.length := List.length_filter_le _ _
/-! ### promises -/
def sp_place_of : SpD := fun ds P _ => ∃ d, ds = [enD d] ∧ P (encO (placeOf d))
def sp_points : SpD := fun ds P _ => ∃ p, ds = [encP p] ∧ Fit p ∧ P (.lst true ((pointsOf p).map encPt))
def sp_gaps : SpD := fun ds P _ => ∃ p, ds = [encP p] ∧ Fit p ∧ P (.lst true ((gapsOf p).map encPt))
def sp_is_small : SpD := fun ds P _ => ∃ p, ds = [encP p] ∧ Fit p ∧ P (.bl (smallOf p))
def encWs (ws : List Stp) (o : Bool) : D := .dic o 1 (ws.map fun s => encPt s.1) (ws.map fun s => .str (wd s.2))
def sp_words_by : SpD := fun ds P E => ∃ p ss, ds = [encP p, encSs ss] ∧ Fit p ∧ ss.length ≤ 1000 ∧ (match wordsGo (gapsOf p) [] ss with
  | some ws => P (encWs ws true)
  | none => E ⟨"NoGap", none⟩)
def sp_hand_with : SpD := fun ds P _ => ∃ (hd : Hd) (h : Int) (ws : List Stp), ds = [encH hd, .int h, encWs ws false] ∧ hd.length ≤ 1000 ∧ P (.lst true ((handGo h ws 0 hd).map enD))
def sp_fenced : SpD := fun ds P E => ∃ p ss, ds = [encP p, encSs ss] ∧ Fit p ∧ ss.length ≤ 1000 ∧ (match fencedOf p ss with
  | some q => P (.lst true (q.map fun h => .lst true (h.map enD)))
  | none => E ⟨"NoGap", none⟩)
def sp_tales : SpD := fun ds _ E => ∃ p s, ds = [encP p, s] ∧ Fit p ∧ smallOf p = false ∧ E ⟨"TooGreat", none⟩
def sp_strange : SpD := fun ds _ E => ∃ p s, ds = [encP p, s] ∧ Fit p ∧ smallOf p = false ∧ E ⟨"TooGreat", none⟩
def sp_let_by : SpD := fun _ _ _ => False
def sp_shows : SpD := fun ds _ E => ∃ p ss s, ds = [encP p, encSs ss, s] ∧ Fit p ∧ ss.length ≤ 1000 ∧ (match fencedOf p ss with
  | some _ => smallOf p = false ∧ E ⟨"TooGreat", none⟩
  | none => E ⟨"NoGap", none⟩)

theorem len_place_of (ds : List D) (P : D → Prop) (E : Ex → Prop) (h : sp_place_of ds P E) : ds.length = ["deed"].length := by obtain ⟨d, rfl, _⟩ := h; rfl
theorem len_points (ds : List D) (P : D → Prop) (E : Ex → Prop) (h : sp_points ds P E) : ds.length = ["program"].length := by obtain ⟨p, rfl, _⟩ := h; rfl
theorem len_gaps (ds : List D) (P : D → Prop) (E : Ex → Prop) (h : sp_gaps ds P E) : ds.length = ["program"].length := by obtain ⟨p, rfl, _⟩ := h; rfl
theorem len_is_small (ds : List D) (P : D → Prop) (E : Ex → Prop) (h : sp_is_small ds P E) : ds.length = ["program"].length := by obtain ⟨p, rfl, _⟩ := h; rfl
theorem len_words_by (ds : List D) (P : D → Prop) (E : Ex → Prop) (h : sp_words_by ds P E) : ds.length = ["program", "some"].length := by obtain ⟨p, ss, rfl, _⟩ := h; rfl
theorem len_hand_with (ds : List D) (P : D → Prop) (E : Ex → Prop) (h : sp_hand_with ds P E) : ds.length = ["hand", "h", "words"].length := by obtain ⟨hd, h, ws, rfl, _⟩ := h; rfl
theorem len_fenced (ds : List D) (P : D → Prop) (E : Ex → Prop) (h : sp_fenced ds P E) : ds.length = ["program", "some"].length := by obtain ⟨p, ss, rfl, _⟩ := h; rfl
theorem len_tales (ds : List D) (P : D → Prop) (E : Ex → Prop) (h : sp_tales ds P E) : ds.length = ["program", "slack"].length := by obtain ⟨p, s, rfl, _⟩ := h; rfl
theorem len_strange (ds : List D) (P : D → Prop) (E : Ex → Prop) (h : sp_strange ds P E) : ds.length = ["program", "slack"].length := by obtain ⟨p, s, rfl, _⟩ := h; rfl
theorem len_shows (ds : List D) (P : D → Prop) (E : Ex → Prop) (h : sp_shows ds P E) : ds.length = ["program", "some", "slack"].length := by obtain ⟨p, ss, s, rfl, _⟩ := h; rfl
theorem len_let_by (ds : List D) (P : D → Prop) (E : Ex → Prop) (h : sp_let_by ds P E) : ds.length = ["stopped", "rows", "slack"].length := h.elim
-- place_of: 0 deed
def w_place_of : WS := (sSeq (sIf (tV (w2 gEq (wIx (wVar 0) (wC (.int 0))) (wC (.str "put")))) (sRet (wUp (wF (wIx (wVar 0) (wC (.int 1))))))
  sNil)
  (sSeq (sIf (tO (tV (w2 gEq (wIx (wVar 0) (wC (.int 0))) (wC (.str "get")))) (tV (w2 gEq (wIx (wVar 0) (wC (.int 0))) (wC (.str "swap"))))) (sRet (wUp (wF (wIx (wVar 0) (wC (.int 2))))))
  sNil)
  (sRet (wUp (wC .non)))))

theorem sem_place_of (ds : List D) (P : D → Prop) (E : Ex → Prop) (hf : isFs ds = true) (h : sp_place_of ds P E) : w_place_of (ds.map some ++ List.replicate (["deed"].length - ds.length) none) (outsOf P E) := by
  obtain ⟨d, rfl, h⟩ := h
  cases d <;> simp [w_place_of, enD, beq_lit] <;> exact h

theorem place_step (d : Dd) (ρ1 : Ev) (Pb : Bool → Prop) (h : Pb (placeOf d).isSome) : (sp_place_of [enD d] (fun x => Pb (!isNonD x)) fun _ => False) := ⟨d, rfl, by simpa using h⟩
theorem points_sum (p : Pg) : (pointsOf p).length ≤ sumOf p := by
  have main : ∀ (p : Pg) (n : Nat), ((p.zipIdx n).flatMap fun q => (List.range (manyOf q.1)).map fun (k : Nat) => ((q.2 : Int), (k : Int))).length ≤ sumOf p := by
    intro p
    induction p with
    | nil => intro n; simp [sumOf]
    | cons x r ih =>
      intro n
      have := ih (n + 1)
      have h2 := many_le x
      rw [List.zipIdx_cons, List.flatMap_cons, List.length_append]
      simp only [sumOf, List.map_cons, List.sum_cons, List.length_map, List.length_range] at this ⊢
      omega
  exact main p 0
theorem points_len (p : Pg) (hp : Fit p) : (pointsOf p).length ≤ 1000 := Nat.le_trans (points_sum p) hp.2
theorem mem_sum {l : List Nat} {x : Nat} (h : x ∈ l) : x ≤ l.sum := by
  induction l with
  | nil => cases h
  | cons y r ih =>
    rw [List.sum_cons]
    rcases List.mem_cons.mp h with e | m
    · omega
    · have := ih m; omega
theorem hand_le {p : Pg} (hp : Fit p) {h : Hd} (m : h ∈ p) : h.length ≤ 1000 := by
  have : h.length ≤ (p.map List.length).sum := mem_sum (List.mem_map.mpr ⟨h, m, rfl⟩)
  exact Nat.le_trans this hp.2

-- points: 0 program, 1 found, 2 h, 3 hand, 4 many, 5 k, 6 deed
def w_points : WS := (sSeq (sAsg (.nm 1) (wUp (wLst aNil)))
  (sSeq (sFor (.tp [2, 3]) (iEn (aCons (wF (wVar 0)) aNil))
  (sSeq (sAsg (.nm 4) (wUp (wBi gLen (aCons (wLc (.nm 6) (iLst (wF (wVar 3))) [6] (tV (w2 gIsNot (wCall sp_place_of [] (aCons (wVar 6) aNil)) (wC .non))) (wF (wVar 6))) aNil))))
  (sFor (.nm 5) (iR1 (aCons (wVar 4) aNil))
  (sDrop (wLm mApp (pVar 1) (aCons (wTup (aCons (wF (wVar 2)) (aCons (wF (wVar 5)) aNil))) aNil))))))
  (sRet (wNm 1))))

theorem sem_points (ds : List D) (P : D → Prop) (E : Ex → Prop) (hf : isFs ds = true) (h : sp_points ds P E) : w_points (ds.map some ++ List.replicate (["program", "found", "h", "hand", "many", "k", "deed"].length - ds.length) none) (outsOf P E) := by
  obtain ⟨p, rfl, hp, h⟩ := h
  simp [w_points]
  rw [enumD_map]
  refine forL_ind (fun q : Hd × Nat => D.tup [.int (q.2 : Int), encH q.1]) (fun rest ρ => (∀ q ∈ rest, q.1.length ≤ 1000) ∧ ∃ (acc : List Pt) (a b c d e : Option D), acc ++ (rest.flatMap fun q => (List.range (manyOf q.1)).map fun (k : Nat) => ((q.2 : Int), (k : Int))) = pointsOf p ∧
    ρ = [some (encP p), some (.lst true (acc.map encPt)), a, b, c, d, e]) ?_ ?_ _ _ ?_
  · rintro ⟨x, i⟩ rest ρ ⟨hl, acc, a, b, c, d, e, hacc, rfl⟩
    refine ⟨_, rfl, fun nx hnx => ?_⟩
    have hx : x.length ≤ 1000 := hl (x, i) List.mem_cons_self
    simp only [List.set_cons_zero, List.set_cons_succ]
    simp
    refine lcL_ok enD (fun d => (placeOf d).isSome) enD x [] (fun d _ => ⟨_, rfl, fun Pb q => ?_, fun _ P q => ?_⟩) (by simpa using szN (by omega)) ?_
    · simp
      exact ⟨d, rfl, by simpa using q⟩
    · simpa using q
    · simp
      have hm : ((x.filter fun d => (placeOf d).isSome).length : Nat) = manyOf x := rfl
      rw [hm]
      have hml := many_le x
      refine ⟨by omega, ?_⟩
      rw [rngD_0]
      have tot := points_len p hp
      rw [← hacc] at tot
      simp only [List.flatMap_cons, List.length_append, List.length_map, List.length_range] at tot
      refine forL_ind (fun k : Nat => D.int (k : Int)) (fun rest2 ρ => ∃ (acc2 : List Nat) (o : Option D), acc2 ++ rest2 = List.range (manyOf x) ∧
        ρ = [some (encP p), some (.lst true ((acc ++ acc2.map fun (k : Nat) => ((i : Int), (k : Int))).map encPt)), some (.int i), some (encH x), some (.int (manyOf x)), o, e]) ?_ ?_ _ _ ⟨[], d, by simp, by simp⟩
      · rintro k r2 ρ ⟨acc2, o, h2, rfl⟩
        refine ⟨_, rfl, fun nx2 hnx2 => ?_⟩
        simp [mApp]
        have l2 := congrArg List.length h2
        simp only [List.length_append, List.length_cons, List.length_range] at l2
        refine ⟨szL (by omega), ?_⟩
        refine hnx2 _ ⟨acc2 ++ [k], some (.int (k : Int)), by rw [← h2]; simp, by simp [encPt]⟩
      · rintro ρ ⟨acc2, o, h2, rfl⟩
        have h3 : acc2 = List.range (manyOf x) := by simpa using h2
        subst h3
        refine hnx _ ⟨fun q m => hl q (List.mem_cons_of_mem _ m), _, _, _, _, _, _, ?_, rfl⟩
        rw [← hacc]; simp
  · rintro ρ ⟨_, acc, a, b, c, d, e, hacc, rfl⟩
    have h3 : acc = pointsOf p := by simpa using hacc
    subst h3
    simpa using h
  · refine ⟨fun q m => ?_, [], _, _, _, _, _, by simp [pointsOf], rfl⟩
    have := (List.mem_zipIdx m)
    exact hand_le hp (by rw [this.2.2]; simp)

-- gaps: 0 program, 1 point
def w_gaps : WS := (sRet (wUp (wLc (.nm 1) (iLst (wCall sp_points [] (aCons (wVar 0) aNil))) [1] (tV (w2 gGt (wIx (wVar 1) (wC (.int 1))) (wC (.int 0)))) (wF (wVar 1)))))

theorem sem_gaps (ds : List D) (P : D → Prop) (E : Ex → Prop) (hf : isFs ds = true) (h : sp_gaps ds P E) : w_gaps (ds.map some ++ List.replicate (["program", "point"].length - ds.length) none) (outsOf P E) := by
  obtain ⟨p, rfl, hp, h⟩ := h
  have tot := points_len p hp
  simp [w_gaps]
  refine ⟨p, by simp, hp, ?_⟩
  simp
  refine lcL_ok encPt (fun q => decide (0 < q.2)) encPt (pointsOf p) [] (fun q _ => ⟨_, rfl, fun Pb z => ?_, fun _ P z => ?_⟩) (by simpa using szN (by omega)) ?_
  · simpa [encPt] using z
  · simpa using z
  · simpa [gapsOf] using h

-- is_small: 0 program, 1 hand
def w_is_small : WS := (sSeq (sIf (tO (tV (w2 gGt (wBi gLen (aCons (wVar 0) aNil)) (wC (.int 4)))) (tV (w2 gGt (wBi gLen (aCons (wCall sp_points [] (aCons (wVar 0) aNil)) aNil)) (wC (.int 6))))) (sRet (wUp (wC (.bl false))))
  sNil)
  (sRet (wUp (w2 gLe (wBi gSum (aCons (wLc (.nm 1) (iLst (wF (wVar 0))) [1] tTrue (wBi gLen (aCons (wVar 1) aNil))) aNil)) (wC (.int 12))))))

theorem sem_is_small (ds : List D) (P : D → Prop) (E : Ex → Prop) (hf : isFs ds = true) (h : sp_is_small ds P E) : w_is_small (ds.map some ++ List.replicate (["program", "hand"].length - ds.length) none) (outsOf P E) := by
  obtain ⟨p, rfl, hp, h⟩ := h
  have tot := points_len p hp
  have hs : (match lstD (D.lst true (p.map fun h => D.int (h.length : Int))) with
    | some xs => (match intsD xs with | some ns => P (.bl (decide (ns.sum ≤ 12))) | none => False)
    | none => False) = P (.bl (decide (sumOf p ≤ 12))) := by
    have hi : ∀ p : Pg, intsD (p.map fun h => D.int (h.length : Int)) = some (p.map fun h => (h.length : Int)) := by
      intro p
      induction p with
      | nil => rfl
      | cons x r ih =>
        show (intsD (r.map fun h => D.int (h.length : Int))).map (((x.length : Nat) : Int) :: ·) = _
        rw [ih]; rfl
    have hc : ∀ p : Pg, (p.map fun h => (h.length : Int)).sum = ((sumOf p : Nat) : Int) := by
      intro p
      induction p with
      | nil => rfl
      | cons x r ih =>
        rw [List.map_cons, List.sum_cons, ih]
        simp [sumOf]
    show (match intsD (p.map fun h => D.int (h.length : Int)) with | some ns => P (.bl (decide (ns.sum ≤ 12))) | none => False) = _
    rw [hi p]
    show P (.bl (decide ((p.map fun h => (h.length : Int)).sum ≤ 12))) = _
    rw [hc p]
    congr 2
    rw [Bool.eq_iff_iff]
    simp
    omega
  have second : smallOf p = decide (sumOf p ≤ 12) → lcL (.nm 1) tTrue (wBi gLen (aCons (wVar 1) aNil)) [some (encP p), none] (p.map encH) [] (fun acc => gSum [.lst true acc] fun x => gLe x (.int 12) P) := fun e => by
    refine lcL_map encH (fun h => D.int (h.length : Int)) p (fun x _ => ⟨_, rfl, fun P q => ?_⟩) (szN (by have := hp.1; omega)) ?_
    · simpa [encH] using q
    · show (match lstD (D.lst true (p.map fun h => D.int (h.length : Int))) with
        | some xs => (match intsD xs with | some ns => P (.bl (decide (ns.sum ≤ 12))) | none => False)
        | none => False)
      rw [hs, ← e]; exact h
  simp [w_is_small, encP]
  have e4 : decide ((4 : Int) < (p.length : Int)) = decide (4 < p.length) := by rw [Bool.eq_iff_iff]; simp; omega
  rw [e4]
  cases h4 : decide (4 < p.length) with
  | true =>
    have : smallOf p = false := by unfold smallOf; rw [h4]; rfl
    rw [this] at h
    simpa using h
  | false =>
    simp
    refine ⟨p, by simp [encP], hp, ?_⟩
    simp
    have e6 : decide ((6 : Int) < ((pointsOf p).length : Int)) = decide (6 < (pointsOf p).length) := by rw [Bool.eq_iff_iff]; simp; omega
    rw [e6]
    cases h6 : decide (6 < (pointsOf p).length) with
    | true =>
      have : smallOf p = false := by unfold smallOf; rw [h6, Bool.or_true]; rfl
      rw [this] at h
      simpa using h
    | false =>
      have : smallOf p = decide (sumOf p ≤ 12) := by unfold smallOf; rw [h4, h6]; rfl
      simpa [encP] using second this

@[simp] theorem gIn_l (neg : Bool) (x : D) (o : Bool) (ys : List D) (P : D → Prop) : gIn neg x (.lst o ys) P = (cmpD 60 x = true ∧ cmpsD 59 ys = true ∧ P (.bl (if neg then !ys.any (fun z => eqvD z x) else ys.any (fun z => eqvD z x)))) := by cases x <;> rfl
@[simp] theorem gIn_d (neg : Bool) (x : D) (o : Bool) (t : Nat) (ks vs : List D) (P : D → Prop) : gIn neg x (.dic o t ks vs) P = (keyOk t x = true ∧ P (.bl (if neg then !(dlook ks vs x).isSome else (dlook ks vs x).isSome))) := by cases x <;> rfl
theorem eqIx_erase {α : Type} [BEq α] [LawfulBEq α] (enc : α → D) (h : ∀ x y, eqvD (enc x) (enc y) = (x == y)) (q : α) : ∀ {free : List α}, q ∈ free → ∃ n, eqIx (free.map enc) (enc q) = some n ∧ (free.map enc).eraseIdx n = (free.erase q).map enc
  | [], m => nomatch m
  | x :: r, m => by
    unfold eqIx
    rw [List.map_cons, List.findIdx?_cons, h]
    by_cases e : x = q
    · subst e
      refine ⟨0, by simp, ?_⟩
      simp
    · obtain ⟨n, h1, h2⟩ := eqIx_erase enc h q (free := r) (by rcases List.mem_cons.mp m with z | z; exact absurd z.symm e; exact z)
      unfold eqIx at h1
      refine ⟨n + 1, by rw [h1]; simp [e], ?_⟩
      have eb : (x == q) = false := by simpa using e
      rw [List.eraseIdx_cons_succ, h2, List.erase_cons, eb]
      simp
theorem kix_none {α : Type} (enc : α → D) (inj : ∀ x y, enc x = enc y → x = y) (q : α) : ∀ {xs : List α}, q ∉ xs → kix (xs.map enc) (enc q) = none
  | [], _ => rfl
  | x :: r, m => by
    rw [List.map_cons]
    unfold kix
    have ne : ¬ enc x = enc q := fun z => m (by rw [inj _ _ z]; exact List.mem_cons_self)
    rw [if_neg ne, kix_none enc inj q (fun z => m (List.mem_cons_of_mem _ z))]
    rfl
theorem points_nodup (p : Pg) : (pointsOf p).Nodup := by
  have main : ∀ (p : Pg) (n : Nat), ((p.zipIdx n).flatMap fun q => (List.range (manyOf q.1)).map fun (k : Nat) => ((q.2 : Int), (k : Int))).Nodup ∧ ∀ x ∈ ((p.zipIdx n).flatMap fun q => (List.range (manyOf q.1)).map fun (k : Nat) => ((q.2 : Int), (k : Int))), (n : Int) ≤ x.1 := by
    intro p
    induction p with
    | nil => intro n; simp
    | cons x r ih =>
      intro n
      obtain ⟨h1, h2⟩ := ih (n + 1)
      rw [List.zipIdx_cons, List.flatMap_cons]
      refine ⟨List.nodup_append.mpr ⟨?_, h1, fun a ha b hb e => ?_⟩, fun a ha => ?_⟩
      · refine List.Pairwise.map _ (fun a b hab e => hab ?_) List.nodup_range
        have z : ((a : Nat) : Int) = (b : Int) := congrArg Prod.snd e
        omega
      · subst e
        have h3 := h2 a hb
        obtain ⟨k, _, e⟩ := List.mem_map.mp ha
        subst e
        simp at h3
        omega
      · rcases List.mem_append.mp ha with m | m
        · obtain ⟨k, _, e⟩ := List.mem_map.mp m
          subst e
          simp
        · have := h2 a m
          omega
  exact (main p 0).1
theorem gaps_nodup (p : Pg) : (gapsOf p).Nodup := (points_nodup p).sublist List.filter_sublist
theorem gaps_len (p : Pg) (hp : Fit p) : (gapsOf p).length ≤ 1000 := Nat.le_trans (List.length_filter_le _ _) (points_len p hp)
@[simp] theorem frz_encWs (ws : List Stp) (o : Bool) : frz (encWs ws o) = encWs ws false := by
  have h1 : frzs (ws.map fun s => encPt s.1) = ws.map fun s => encPt s.1 := frzs_of_map _ (fun _ => rfl) ws
  have h2 : frzs (ws.map fun s => D.str (wd s.2)) = ws.map fun s => D.str (wd s.2) := frzs_of_map _ (fun _ => rfl) ws
  show D.dic false 1 (frzs (ws.map fun s => encPt s.1)) (frzs (ws.map fun s => D.str (wd s.2))) = _
  rw [h1, h2]; rfl
@[simp] theorem isF_encWs (ws : List Stp) (o : Bool) : isF (encWs ws o) = !o := by
  have h1 : isFs (ws.map fun s => encPt s.1) = true := isFs_of_map _ (fun _ => rfl) ws
  have h2 : isFs (ws.map fun s => D.str (wd s.2)) = true := isFs_of_map _ (fun _ => rfl) ws
  show (!o && isFs (ws.map fun s => encPt s.1) && isFs (ws.map fun s => D.str (wd s.2))) = _
  rw [h1, h2]; simp
theorem dlook_ws (q : Pt) : ∀ ws : List Stp, dlook (ws.map fun s => encPt s.1) (ws.map fun s => D.str (wd s.2)) (encPt q) = (wordAt ws q).map fun b => .str (wd b)
  | [] => rfl
  | s :: r => by
    rw [List.map_cons, List.map_cons]
    unfold dlook wordAt
    rw [List.find?_cons]
    by_cases e : s.1 = q
    · rw [if_pos (by rw [e])]
      simp [e]
    · rw [if_neg (fun z => e (encPt_inj z)), dlook_ws q r]
      unfold wordAt
      simp [e]

-- words_by: 0 program, 1 some, 2 free, 3 words, 4 h, 5 k, 6 word
def w_words_by : WS := (sSeq (sAsg (.nm 2) (wUp (wCall sp_gaps [] (aCons (wVar 0) aNil))))
  (sSeq (sAsg (.nm 3) (wUp (wC (.dic true 1 [] []))))
  (sSeq (sFor (.tp [4, 5, 6]) (iLst (wF (wVar 1)))
  (sSeq (sIf (tV (w2 (gIn true) (wTup (aCons (wF (wVar 4)) (aCons (wF (wVar 5)) aNil))) (wVar 2))) (sRz ⟨"NoGap", none⟩)
  sNil)
  (sSeq (sDrop (wLm mRem (pVar 2) (aCons (wTup (aCons (wF (wVar 4)) (aCons (wF (wVar 5)) aNil))) aNil)))
  (sPut (pVar 3) (wTup (aCons (wF (wVar 4)) (aCons (wF (wVar 5)) aNil))) (wNm 6)))))
  (sRet (wNm 3)))))

theorem sem_words_by (ds : List D) (P : D → Prop) (E : Ex → Prop) (hf : isFs ds = true) (h : sp_words_by ds P E) : w_words_by (ds.map some ++ List.replicate (["program", "some", "free", "words", "h", "k", "word"].length - ds.length) none) (outsOf P E) := by
  obtain ⟨p, ss, rfl, hp, hss, h⟩ := h
  have g1 := gaps_len p hp
  simp [w_words_by]
  refine ⟨p, by simp, hp, ?_⟩
  simp
  refine forL_ind encS (fun rest ρ => ∃ (free : List Pt) (ws : List Stp) (a b c : Option D), ρ = [some (encP p), some (encSs ss), some (.lst true (free.map encPt)), some (encWs ws true), a, b, c] ∧ free.Nodup ∧ (∀ s ∈ ws, s.1 ∉ free) ∧ ws.length + rest.length ≤ 1000 ∧ free.length ≤ 1000 ∧
    wordsGo free ws rest = wordsGo (gapsOf p) [] ss) ?_ ?_ _ _ ⟨gapsOf p, [], none, none, none, rfl, gaps_nodup p, by simp, by simpa using hss, g1, rfl⟩
  · rintro ⟨⟨x, y⟩, bb⟩ rest ρ ⟨free, ws, a, b, c, rfl, hnd, hdis, hl, hfl, hgo⟩
    refine ⟨_, rfl, fun nx hnx => ?_⟩
    have ee : D.tup [.int x, .int y] = encPt (x, y) := rfl
    simp [ee]
    rw [show free.any ((fun z => eqvD z (encPt (x, y))) ∘ encPt) = decide ((x, y) ∈ free) from by rw [← List.any_map]; exact any_eqv encPt encPt_eqv (x, y) free]
    by_cases hm : (x, y) ∈ free
    · rw [decide_eq_true hm]
      simp [mRem]
      obtain ⟨n, h1, h2⟩ := eqIx_erase encPt encPt_eqv (x, y) hm
      refine ⟨szN (by omega), ?_⟩
      rw [h1]
      show putD (encWs ws true) (encPt (x, y)) (.str (wd bb)) _ _
      have hk : kix (ws.map fun s => encPt s.1) (encPt (x, y)) = none := by
        have z := kix_none encPt (fun _ _ => encPt_inj) (x, y) (xs := ws.map (·.1)) (fun m => by
          obtain ⟨s, h3, h4⟩ := List.mem_map.mp m
          exact hdis s h3 (by rw [h4]; exact hm))
        rw [List.map_map] at z
        exact z
      unfold encWs putD
      refine ⟨rfl, szL (by simp at hl ⊢; omega), ?_⟩
      rw [hk]
      refine hnx _ ⟨free.erase (x, y), ws ++ [((x, y), bb)], some (.int x), some (.int y), some (.str (wd bb)), ?_, hnd.erase _, fun s m => ?_, by simp at hl ⊢; omega, Nat.le_trans (List.length_erase_le) hfl, ?_⟩
      · rw [h2]; simp [encWs]
      · rcases List.mem_append.mp m with m | m
        · exact fun z => hdis s m (List.mem_of_mem_erase z)
        · have e1 : s = ((x, y), bb) := by simpa using m
          subst e1
          exact hnd.not_mem_erase
      · rw [← hgo]
        show _ = if (x, y) ∈ free then _ else _
        rw [if_pos hm]
    · rw [decide_eq_false hm]
      simp
      have : wordsGo (gapsOf p) [] ss = none := by
        rw [← hgo]
        show (if (x, y) ∈ free then _ else _) = _
        rw [if_neg hm]
      rw [this] at h
      exact h
  · rintro ρ ⟨free, ws, a, b, c, rfl, hnd, hdis, hl, hfl, hgo⟩
    have : wordsGo (gapsOf p) [] ss = some ws := hgo.symm
    rw [this] at h
    simpa using h

-- hand_with: 0 hand, 1 h, 2 words, 3 found, 4 k, 5 deed
def w_hand_with : WS := (sSeq (sAsg (.nm 3) (wUp (wLst aNil)))
  (sSeq (sAsg (.nm 4) (wUp (wC (.int 0))))
  (sSeq (sFor (.nm 5) (iLst (wF (wVar 0)))
  (sSeq (sIf (tV (w2 gIsNot (wCall sp_place_of [] (aCons (wVar 5) aNil)) (wC .non))) (sSeq (sIf (tV (w2 (gIn false) (wTup (aCons (wF (wVar 1)) (aCons (wF (wVar 4)) aNil))) (wVar 2))) (sDrop (wLm mApp (pVar 3) (aCons (wTup (aCons (wF (wIx (wVar 2) (wTup (aCons (wF (wVar 1)) (aCons (wF (wVar 4)) aNil))))) (aCons (wC .non) aNil))) aNil)))
  sNil)
  (sAug 4 (fun i j => i + j) (wC (.int 1))))
  sNil)
  (sDrop (wLm mApp (pVar 3) (aCons (wF (wVar 5)) aNil)))))
  (sRet (wNm 3)))))

theorem sem_hand_with (ds : List D) (P : D → Prop) (E : Ex → Prop) (hf : isFs ds = true) (h : sp_hand_with ds P E) : w_hand_with (ds.map some ++ List.replicate (["hand", "h", "words", "found", "k", "deed"].length - ds.length) none) (outsOf P E) := by
  obtain ⟨hd, hh, ws, rfl, hl, h⟩ := h
  simp [w_hand_with]
  refine forL_ind enD (fun rest ρ => ∃ (acc : Hd) (kk : Int) (o : Option D), ρ = [some (encH hd), some (.int hh), some (encWs ws false), some (.lst true (acc.map enD)), some (.int kk), o] ∧ acc ++ handGo hh ws kk rest = handGo hh ws 0 hd ∧ acc.length + 2 * rest.length ≤ 2000) ?_ ?_ _ _ ⟨[], 0, none, rfl, rfl, by simp; omega⟩
  · rintro d rest ρ ⟨acc, kk, o, rfl, hacc, hal⟩
    refine ⟨_, rfl, fun nx hnx => ?_⟩
    have ee : D.tup [.int hh, .int kk] = encPt (hh, kk) := rfl
    simp [ee]
    refine ⟨d, rfl, ?_⟩
    have hal' : acc.length + 2 * (rest.length + 1) ≤ 2000 := by simpa using hal
    cases hp : placeOf d with
    | none =>
      simp [encO, mApp]
      refine ⟨szL (by omega), hnx _ ⟨acc ++ [d], kk, some (enD d), by simp, ?_, by simp; omega⟩⟩
      rw [← hacc, show handGo hh ws kk (d :: rest) = d :: handGo hh ws kk rest from by rw [handGo, hp]; rfl]
      simp
    | some pl =>
      have hw : handGo hh ws kk (d :: rest) = (match wordAt ws (hh, kk) with
          | some b => stopD b :: d :: handGo hh ws (kk + 1) rest
          | none => d :: handGo hh ws (kk + 1) rest) := by
        rw [handGo, hp]; rfl
      rw [hw] at hacc
      simp [encO, encWs, dlook_ws]
      refine ⟨rfl, ?_⟩
      cases hq : wordAt ws (hh, kk) with
      | none =>
        rw [hq] at hacc
        simp [mApp]
        exact ⟨szL (by omega), hnx _ ⟨acc ++ [d], kk + 1, some (enD d), by simp [encWs], by rw [← hacc]; simp, by simp; omega⟩⟩
      | some b =>
        rw [hq] at hacc
        have es : D.tup [.str (wd b), .non] = enD (stopD b) := by cases b <;> rfl
        simp [mApp, es]
        exact ⟨szL (by omega), szL (by omega), hnx _ ⟨acc ++ [stopD b, d], kk + 1, some (enD d), by simp [encWs], by rw [← hacc]; simp, by simp; omega⟩⟩
  · rintro ρ ⟨acc, kk, o, rfl, hacc, hal⟩
    have : acc = handGo hh ws 0 hd := by simpa [handGo] using hacc
    subst this
    simpa using h

theorem zip_hand {p : Pg} (hp : Fit p) {q : Hd × Nat} (m : q ∈ p.zipIdx) : q.1.length ≤ 1000 := by
  have := List.mem_zipIdx m
  exact hand_le hp (by rw [this.2.2]; simp)

-- fenced: 0 program, 1 some, 2 words, 3 h, 4 hand
def w_fenced : WS := (sSeq (sAsg (.nm 2) (wUp (wCall sp_words_by [] (aCons (wVar 0) (aCons (wVar 1) aNil)))))
  (sRet (wUp (wLc (.tp [3, 4]) (iEn (aCons (wF (wVar 0)) aNil)) [3, 4] tTrue (wCall sp_hand_with [] (aCons (wVar 4) (aCons (wVar 3) (aCons (wVar 2) aNil))))))))

theorem sem_fenced (ds : List D) (P : D → Prop) (E : Ex → Prop) (hf : isFs ds = true) (h : sp_fenced ds P E) : w_fenced (ds.map some ++ List.replicate (["program", "some", "words", "h", "hand"].length - ds.length) none) (outsOf P E) := by
  obtain ⟨p, ss, rfl, hp, hss, h⟩ := h
  simp [w_fenced]
  refine ⟨p, ss, by simp, hp, hss, ?_⟩
  unfold fencedOf at h
  cases hw : wordsGo (gapsOf p) [] ss with
  | none =>
    rw [hw] at h
    simpa using h
  | some ws =>
    rw [hw] at h
    simp
    rw [enumD_map]
    refine lcL_map (fun q : Hd × Nat => D.tup [.int (q.2 : Int), encH q.1]) (fun q => .lst true ((handGo q.2 ws 0 q.1).map enD)) _ (fun q m => ⟨_, rfl, fun P z => ?_⟩) (szN (by have := hp.1; simp; omega)) ?_
    · simp
      exact ⟨q.1, q.2, ws, rfl, zip_hand hp m, by simp, z⟩
    · simpa [Function.comp_def] using h

-- tales: 0 program, 1 slack, 2 found, 3 known, 4 waiting, 5 going, 6 moves, 7 tale, 8 can, 9 move, 10 other
def w_tales : WS := (sSeq (sIf (tN (tV (wCall sp_is_small [] (aCons (wVar 0) aNil)))) (sRz ⟨"TooGreat", none⟩)
  sNil)
  sNev)

theorem sem_tales (ds : List D) (P : D → Prop) (E : Ex → Prop) (hf : isFs ds = true) (h : sp_tales ds P E) : w_tales (ds.map some ++ List.replicate (["program", "slack", "found", "known", "waiting", "going", "moves", "tale", "can", "move", "other"].length - ds.length) none) (outsOf P E) := by
  obtain ⟨p, s, rfl, hp, hs, h⟩ := h
  simp [w_tales]
  exact ⟨p, by simp, hp, by rw [hs]; simpa using h⟩

-- strange: 0 program, 1 slack, 2 found, 3 tale, 4 moves, 5 told
def w_strange : WS := (sSeq (sAsg (.nm 2) (wUp (wLst aNil)))
  (sSeq (sFor (.tp [3, 4]) (iLst (wCall sp_tales [] (aCons (wVar 0) (aCons (wVar 1) aNil))))
  sNev)
  (sRet (wNm 2))))

theorem sem_strange (ds : List D) (P : D → Prop) (E : Ex → Prop) (hf : isFs ds = true) (h : sp_strange ds P E) : w_strange (ds.map some ++ List.replicate (["program", "slack", "found", "tale", "moves", "told"].length - ds.length) none) (outsOf P E) := by
  obtain ⟨p, s, rfl, hp, hs, h⟩ := h
  simp [w_strange]
  exact ⟨p, _, rfl, hp, hs, h⟩

-- let_by: 0 stopped, 1 rows, 2 slack, 3 tale, 4 ring, 5 told
def w_let_by : WS := sNev

theorem sem_let_by (ds : List D) (P : D → Prop) (E : Ex → Prop) (hf : isFs ds = true) (h : sp_let_by ds P E) : w_let_by (ds.map some ++ List.replicate (6 - ds.length) none) (outsOf P E) := h.elim
-- shows: 0 program, 1 some, 2 slack, 3 stopped
def w_shows : WS := (sSeq (sAsg (.nm 3) (wUp (wCall sp_fenced [] (aCons (wVar 0) (aCons (wVar 1) aNil)))))
  (sRet (wUp (wCall sp_let_by [] (aCons (wVar 3) (aCons (wCall sp_strange [] (aCons (wVar 0) (aCons (wVar 2) aNil))) (aCons (wVar 2) aNil)))))))

theorem sem_shows (ds : List D) (P : D → Prop) (E : Ex → Prop) (hf : isFs ds = true) (h : sp_shows ds P E) : w_shows (ds.map some ++ List.replicate (["program", "some", "slack", "stopped"].length - ds.length) none) (outsOf P E) := by
  obtain ⟨p, ss, s, rfl, hp, hss, h⟩ := h
  simp [w_shows]
  refine ⟨p, ss, by simp, hp, hss, ?_⟩
  cases hw : fencedOf p ss with
  | none =>
    rw [hw] at h
    exact h
  | some q =>
    rw [hw] at h
    simp
    exact ⟨p, _, rfl, hp, h.1, h.2⟩

end PR

namespace PL
open PySem PySem.Spec PyProof.Rows L2 DL PR
/-! ### what the law's defs promise -/
def encI (i : Int) : D := .int i
def scrD (ns : List Int) : D := .con (ns.map encI)
@[simp] theorem frz_scr (ns : List Int) : frz (scrD ns) = scrD ns := by
  show D.con (frzs (ns.map encI)) = _
  rw [frzs_of_map encI fun _ => rfl]; rfl
@[simp] theorem isF_scr (ns : List Int) : isF (scrD ns) = true := isFs_of_map encI (fun _ => rfl) ns
theorem scr_reps {K : PySem.W.Frag} {F H : Hp} : ∀ ns : List Int, Reps K F H (ns.map V.int) (ns.map encI) []
  | [] => .nil
  | n :: r => .cons _ _ _ _ [] [] (.int n) (scr_reps r)
def sp__law_draw : SpD := fun ds P _ => ∃ (ns : List Int) (k : Nat), ds = [scrD ns, .int k] ∧ k < 10000 ∧ ∀ x : Int, 0 ≤ x → P (.int x)
def sp__law_names : SpD := fun ds P _ => ∃ x : Int, ds = [.int x] ∧ 0 ≤ x ∧ ∀ a b c : Str, P (.lst true [.str a, .str b, .str c])
def sp__law_number : SpD := fun ds P _ => ∃ x : Int, ds = [.int x] ∧ 0 ≤ x ∧ ∀ y : Int, P (.int y)
def sp__law_place : SpD := sp_place_of
def sp__law_deed : SpD := fun ds P _ => ∃ (x : Int) (p a b c : Str), ds = [.int x, .str p, .lst false [.str a, .str b, .str c]] ∧ 0 ≤ x ∧ ∀ d : Dd, P (enD d)
def encPO (p : Pg) : D := .lst true (p.map fun h => .lst true (h.map enD))
theorem frzs_PO (p : Pg) : frzs (p.map fun h => D.lst true (h.map enD)) = p.map encH := by
  induction p with
  | nil => rfl
  | cons x r ih => rw [List.map_cons, frzs_cons, ih]; simp [encH]
@[simp] theorem frz_encPO (p : Pg) : frz (encPO p) = encP p := by
  show D.lst false (frzs (p.map fun h => D.lst true (h.map enD))) = _
  rw [frzs_PO]; rfl
def sp__law_long : SpD := fun ds P _ => ∃ (ns : List Int) (m : Nat), ds = [scrD ns, .int m] ∧ m ≤ 40 ∧ ∀ p : Pg, 1 ≤ p.length → p.length ≤ 6 → sumOf p = m → P (encPO p)
def sp__law_gaps : SpD := fun ds P _ => ∃ p, ds = [encP p] ∧ Fit p ∧ P (.lst true ((gapsOf p).map encPt))
def sp__law_stops : SpD := fun ds P _ => ∃ (p : Pg) (ns : List Int) (s : Nat), ds = [encP p, scrD ns, .int s] ∧ Fit p ∧ s ≤ 1000 ∧ ∀ ss : List Stp, (ss.map (·.1)).Nodup → (∀ q ∈ ss, q.1 ∈ gapsOf p) → P (.lst true (ss.map encS))
def lawHand (ss : List Stp) (h : Int) : Int → Hd → Hd
  | _, [] => []
  | k, d :: r => if (placeOf d).isSome then ((ss.filter fun s => decide (s.1 = (h, k))).map fun s => stopD s.2) ++ d :: lawHand ss h (k + 1) r else d :: lawHand ss h k r
def sp__law_stopped : SpD := fun ds P _ => ∃ (p : Pg) (ss : List Stp), ds = [encP p, encSs ss] ∧ Fit p ∧ ss.length ≤ 1000 ∧ P (encPO (p.zipIdx.map fun q => lawHand ss q.2 0 q.1))
def exTab : List Str := ["NoGap", "TooGreat"]
def exNames : List Str := ["NoGap", "TooGreat", "NoMove", "NoName", "NoOrder", "NoRow", "NoRun", "NoTale", "NoText", "NotEnded"]
def bE (C x : Str) : Bool := decide (x = "ValueError") || decide (C = x)
def bits (C : Str) : List D := (["NoGap", "TooGreat", "ValueError", "NoMove", "NoName", "NoOrder", "NoRow", "NoRun", "NoTale", "NoText", "NotEnded"] : List Str).map fun x => D.bl (bE C x)
def spKinds : Str → SpE := fun C P => C ∈ exTab ∧ P (.lst true (bits C))
def exmL : Str → Option Bool := fun C => if C ∈ exTab then some true else none
def refOf (p : Pg) (ss : List Stp) (way : Int) : List Int := match fencedOf p ss with
  | none => [0, 2]
  | some _ => if way = 3 then [] else [1, 2]
def sp__law_refusal : SpD := fun ds P _ => ∃ (p : Pg) (ss : List Stp) (way : Int), ds = [encP p, encSs ss, .int way] ∧ Fit p ∧ ss.length ≤ 1000 ∧ (way = 3 ∨ smallOf p = false ∨ fencedOf p ss = none) ∧ P (.lst true ((refOf p ss way).map encI))
def sp__law_no_stop : SpD := fun ds P _ => ∃ (p : Pg) (ss : List Stp) (x : Int), ds = [encP p, encSs ss, .int x] ∧ Fit p ∧ 1 ≤ p.length ∧ ss.length ≤ 1000 ∧ 0 ≤ x ∧ ∀ (g : Pt) (b : Bool), (g ∉ gapsOf p ∨ g ∈ ss.map (·.1)) → P (encS (g, b))
def sp__law_is_small : SpD := fun ds P _ => ∃ p, ds = [encP p] ∧ Fit p ∧ P (.bl (smallOf p))
def sp_law : SpD := fun ds P _ => ∃ ns : List Int, ds = [scrD ns] ∧ ns.length ≤ 63 ∧ P (.bl true)
theorem c6410 : CPow 10 64 := ⟨by decide, by decide, by decide⟩
theorem c6010 : CPow 10 60 := ⟨by decide, by decide, by decide⟩
theorem c0910 : CPow 10 9 := ⟨by decide, by decide, by decide⟩
theorem cmR {i j : Int} (h1 : -(2 ^ 64) < j) (h2 : j < 2 ^ 64) : CMul i j := .inr ⟨h1, h2⟩
theorem cmL {i j : Int} (h1 : -(2 ^ 64) < i) (h2 : i < 2 ^ 64) : CMul i j := .inl ⟨h1, h2⟩
theorem emod_lt {x : Int} {n : Int} (h : 0 < n) : 0 ≤ x % n ∧ x % n < n := ⟨Int.emod_nonneg _ (by omega), Int.emod_lt_of_pos _ h⟩

theorem len__law_draw (ds : List D) (P : D → Prop) (E : Ex → Prop) (h : sp__law_draw ds P E) : ds.length = ["_law_script", "_law_k"].length := by obtain ⟨ns, k, rfl, _⟩ := h; rfl
theorem len__law_names (ds : List D) (P : D → Prop) (E : Ex → Prop) (h : sp__law_names ds P E) : ds.length = ["_law_x"].length := by obtain ⟨x, rfl, _⟩ := h; rfl
theorem len__law_number (ds : List D) (P : D → Prop) (E : Ex → Prop) (h : sp__law_number ds P E) : ds.length = ["_law_y"].length := by obtain ⟨x, rfl, _⟩ := h; rfl
theorem len__law_place (ds : List D) (P : D → Prop) (E : Ex → Prop) (h : sp__law_place ds P E) : ds.length = ["_law_deed_here"].length := by obtain ⟨d, rfl, _⟩ := h; rfl
theorem len__law_deed (ds : List D) (P : D → Prop) (E : Ex → Prop) (h : sp__law_deed ds P E) : ds.length = ["_law_x", "_law_place_here", "_law_names_here"].length := by obtain ⟨x, p, a, b, c, rfl, _⟩ := h; rfl
theorem len__law_long (ds : List D) (P : D → Prop) (E : Ex → Prop) (h : sp__law_long ds P E) : ds.length = ["_law_script", "_law_many"].length := by obtain ⟨ns, m, rfl, _⟩ := h; rfl
theorem len__law_gaps (ds : List D) (P : D → Prop) (E : Ex → Prop) (h : sp__law_gaps ds P E) : ds.length = ["_law_program"].length := by obtain ⟨p, rfl, _⟩ := h; rfl
theorem len__law_stops (ds : List D) (P : D → Prop) (E : Ex → Prop) (h : sp__law_stops ds P E) : ds.length = ["_law_program", "_law_script", "_law_start"].length := by obtain ⟨p, ns, s, rfl, _⟩ := h; rfl
theorem len__law_stopped (ds : List D) (P : D → Prop) (E : Ex → Prop) (h : sp__law_stopped ds P E) : ds.length = ["_law_program", "_law_some"].length := by obtain ⟨p, ss, rfl, _⟩ := h; rfl
theorem len__law_refusal (ds : List D) (P : D → Prop) (E : Ex → Prop) (h : sp__law_refusal ds P E) : ds.length = ["_law_program", "_law_some", "_law_way"].length := by obtain ⟨p, ss, way, rfl, _⟩ := h; rfl
theorem len__law_no_stop (ds : List D) (P : D → Prop) (E : Ex → Prop) (h : sp__law_no_stop ds P E) : ds.length = ["_law_program", "_law_some", "_law_x"].length := by obtain ⟨p, ss, x, rfl, _⟩ := h; rfl
theorem len__law_is_small (ds : List D) (P : D → Prop) (E : Ex → Prop) (h : sp__law_is_small ds P E) : ds.length = ["_law_program"].length := by obtain ⟨p, rfl, _⟩ := h; rfl
theorem len_law (ds : List D) (P : D → Prop) (E : Ex → Prop) (h : sp_law ds P E) : ds.length = ["_law_script"].length := by obtain ⟨ns, rfl, _⟩ := h; rfl
-- _law_draw: 0 _law_script, 1 _law_k, 2 _law_near
def w__law_draw : WS := (sSeq (sIf (tV (w2 gLt (wVar 1) (wBi gLen (aCons (wVar 0) aNil)))) (sRet (wUp (w2 gMod (wIx (wVar 0) (wVar 1)) (w2 gMul (wC (.int 1000)) (w2 gPow (wC (.int 10)) (wC (.int 64)))))))
  sNil)
  (sSeq (sAsg (.nm 2) (wUp (wC (.int 0))))
  (sSeq (sIf (tV (w2 gGt (wBi gLen (aCons (wVar 0) aNil)) (wC (.int 0)))) (sAsg (.nm 2) (wUp (w2 gMod (wIx (wVar 0) (w2 gMod (wVar 1) (wBi gLen (aCons (wVar 0) aNil)))) (wC (.int 2147483647)))))
  sNil)
  (sRet (wUp (w2 gMod (w2 gMul (w2 gMul (w2 gAdd (wVar 2) (wC (.int 1))) (w2 gAdd (w2 gMul (w2 gMul (wVar 1) (wVar 1)) (wVar 1)) (wC (.int 7)))) (wC (.int 48271))) (wC (.int 2147483647))))))))

theorem sem__law_draw (ds : List D) (P : D → Prop) (E : Ex → Prop) (hf : isFs ds = true) (h : sp__law_draw ds P E) : w__law_draw (ds.map some ++ List.replicate (["_law_script", "_law_k", "_law_near"].length - ds.length) none) (outsOf P E) := by
  obtain ⟨ns, k, rfl, hk, h⟩ := h
  have hm : ∀ x n : Int, 0 < n → P (.int (x % n)) := fun x n hn => h _ (emod_lt hn).1
  simp [w__law_draw, scrD]
  by_cases hl : k < ns.length
  · rw [decide_eq_true hl]
    simp [hl, encI]
    exact ⟨c6410, cmL (by decide) (by decide), hm _ _ (by decide)⟩
  · rw [decide_eq_false hl]
    have hkk : ((k : Int) * k) < 100000000 := by
      have : k * k < 10000 * 10000 := Nat.mul_lt_mul'' hk hk
      omega
    have hkk0 : 0 ≤ ((k : Int) * k) := Int.mul_nonneg (by omega) (by omega)
    have fin : ∀ z : Int, 0 ≤ z → z < 2147483647 → CMul (k : Int) k ∧ CMul ((k : Int) * k) k ∧ CMul (z + 1) ((k : Int) * k * k + 7) ∧ CMul ((z + 1) * ((k : Int) * k * k + 7)) 48271 := fun z h1 h2 =>
      ⟨cmL (by omega) (by omega), cmR (by omega) (by omega), cmL (by omega) (by omega), cmR (by decide) (by decide)⟩
    by_cases h0 : 0 < ns.length
    · rw [decide_eq_true h0]
      simp
      refine ⟨h0, ?_⟩
      have hr := emod_lt (x := (k : Int)) (n := (ns.length : Int)) (by omega)
      obtain ⟨z, e2, _⟩ := atI_map encI (xs := ns) hr.1 hr.2
      rw [e2]
      simp [encI]
      have hz := emod_lt (x := z) (n := 2147483647) (by decide)
      obtain ⟨f1, f2, f3, f4⟩ := fin _ hz.1 hz.2
      exact ⟨f1, f2, f3, f4, hm _ _ (by decide)⟩
    · rw [decide_eq_false h0]
      obtain ⟨f1, f2, f3, f4⟩ := fin 0 (by decide) (by decide)
      exact ⟨f1, f2, by simpa using f3, by simpa using f4, hm _ _ (by decide)⟩

-- _law_number: 0 _law_y
def w__law_number : WS := (sSeq (sIf (tV (w2 gEq (w2 gMod (wVar 0) (wC (.int 4))) (wC (.int 3)))) (sRet (wUp (w2 gAdd (w2 gSub (w2 gMod (w2 gDiv (wVar 0) (wC (.int 4))) (w2 gSub (w2 gMul (wC (.int 2)) (w2 gPow (wC (.int 10)) (wC (.int 60)))) (wC (.int 1)))) (w2 gPow (wC (.int 10)) (wC (.int 60)))) (wC (.int 1)))))
  sNil)
  (sRet (wUp (wIx (wLst (aCons (wC (.int 1)) (aCons (wC (.int 2)) (aCons (wC (.int 0)) aNil)))) (w2 gMod (wVar 0) (wC (.int 4)))))))

theorem sem__law_number (ds : List D) (P : D → Prop) (E : Ex → Prop) (hf : isFs ds = true) (h : sp__law_number ds P E) : w__law_number (ds.map some ++ List.replicate (["_law_y"].length - ds.length) none) (outsOf P E) := by
  obtain ⟨x, rfl, hx, h⟩ := h
  have h4 := emod_lt (x := x) (n := 4) (by decide)
  by_cases hd : x % 4 = 3
  · simp [w__law_number, hd]
    exact ⟨⟨by decide, by decide⟩, c6010, cmL (by decide) (by decide), c6010, h _⟩
  · have h5 : x % 4 < 3 := by omega
    obtain ⟨z, hz, hm⟩ := atI_some (xs := [D.int 1, D.int 2, D.int 0]) h4.1 (by simpa using h5)
    simp [w__law_number, hd, hz]
    simp at hm
    rcases hm with rfl | rfl | rfl <;> exact h _

-- _law_place: 0 _law_deed_here
def w__law_place : WS := (sSeq (sIf (tO (tV (w2 gEq (wIx (wVar 0) (wC (.int 0))) (wC (.str "get")))) (tV (w2 gEq (wIx (wVar 0) (wC (.int 0))) (wC (.str "swap"))))) (sRet (wUp (wF (wIx (wVar 0) (wC (.int 2))))))
  sNil)
  (sSeq (sIf (tV (w2 gEq (wIx (wVar 0) (wC (.int 0))) (wC (.str "put")))) (sRet (wUp (wF (wIx (wVar 0) (wC (.int 1))))))
  sNil)
  (sRet (wUp (wC .non)))))

theorem sem__law_place (ds : List D) (P : D → Prop) (E : Ex → Prop) (hf : isFs ds = true) (h : sp__law_place ds P E) : w__law_place (ds.map some ++ List.replicate (["_law_deed_here"].length - ds.length) none) (outsOf P E) := by
  obtain ⟨d, rfl, h⟩ := h
  cases d <;> simp [w__law_place, enD, beq_lit] <;> exact h

-- _law_names: 0 _law_x, 1 _law_letters, 2 _law_size, 3 _law_at, 4 _law_step, 5 _law_names_here, 6 _law_k, 7 _law_name, 8 _law_j, 9 _law_turn
def w__law_names : WS := (sSeq (sAsg (.nm 1) (wUp (wC (.str "abcdefghijklmnopqrstuvwxyz"))))
  (sSeq (sAsg (.nm 2) (wUp (w2 gAdd (wC (.int 1)) (w2 gMod (wVar 0) (wC (.int 8))))))
  (sSeq (sAsg (.nm 3) (wUp (w2 gMod (w2 gDiv (wVar 0) (wC (.int 8))) (wVar 2))))
  (sSeq (sAsg (.nm 4) (wUp (w2 gAdd (wC (.int 1)) (w2 gMod (w2 gDiv (wVar 0) (wC (.int 64))) (wC (.int 12))))))
  (sSeq (sAsg (.nm 5) (wUp (wLst aNil)))
  (sSeq (sFor (.nm 6) (iR1 (aCons (wC (.int 3)) aNil))
  (sSeq (sAsg (.nm 7) (wUp (wC (.str ""))))
  (sSeq (sFor (.nm 8) (iR1 (aCons (wVar 2) aNil))
  (sSeq (sAsg (.nm 9) (wUp (w2 gAdd (w2 gDiv (wVar 0) (w2 gAdd (wC (.int 64)) (w2 gMul (w2 gMul (wC (.int 26)) (wVar 8)) (wVar 8)))) (w2 gMul (w2 gMul (wVar 6) (wVar 4)) (wBi gIntB (aCons (w2 gEq (wVar 8) (wVar 3)) aNil))))))
  (sAsg (.nm 7) (wUp (w2 gAdd (wVar 7) (wIx (wVar 1) (w2 gMod (wVar 9) (wC (.int 26)))))))))
  (sDrop (wLm mApp (pVar 5) (aCons (wF (wVar 7)) aNil))))))
  (sRet (wNm 5))))))))

theorem sem__law_names (ds : List D) (P : D → Prop) (E : Ex → Prop) (hf : isFs ds = true) (h : sp__law_names ds P E) : w__law_names (ds.map some ++ List.replicate (["_law_x", "_law_letters", "_law_size", "_law_at", "_law_step", "_law_names_here", "_law_k", "_law_name", "_law_j", "_law_turn"].length - ds.length) none) (outsOf P E) := by
  obtain ⟨x, rfl, hx, h⟩ := h
  have m8 := emod_lt (x := x) (n := 8) (by decide)
  have m12 := emod_lt (x := x / 64) (n := 12) (by decide)
  have ma := emod_lt (x := x / 8) (n := 1 + x % 8) (by omega)
  have hs : ∃ n : Nat, 1 + x % 8 = (n : Int) ∧ n ≤ 8 := ⟨(1 + x % 8).toNat, by omega, by omega⟩
  obtain ⟨n, hn, hn8⟩ := hs
  simp [w__law_names]
  refine ⟨⟨by decide, by decide⟩, by omega, ⟨by decide, by decide⟩, ?_⟩
  rw [hn]
  rw [rngD_0]
  have letters : ∀ j : Int, 0 ≤ j → j < 26 → ∃ c : Nat, atI (("abcdefghijklmnopqrstuvwxyz" : Str).cps.toList) j = some c := fun j h0 h1 => by
    have hl : (("abcdefghijklmnopqrstuvwxyz" : Str).cps.toList).length = 26 := by decide +kernel
    obtain ⟨c, hc, _⟩ := atI_some (xs := ("abcdefghijklmnopqrstuvwxyz" : Str).cps.toList) h0 (by rw [hl]; omega)
    exact ⟨c, hc⟩
  have str0 : ("" : Str).length = 0 := by decide +kernel
  have h26 : (("abcdefghijklmnopqrstuvwxyz" : Str)).length ≤ sizeLine := szN (by decide +kernel)
  refine forL_ind (fun k : Nat => D.int (k : Int)) (fun rest ρ => ∃ (acc : List Str) (o1 o2 o3 o4 : Option D), acc.length + rest.length = 3 ∧ (∀ k ∈ rest, k < 3) ∧
    ρ = [some (.int x), some (.str "abcdefghijklmnopqrstuvwxyz"), some (.int n), some (.int (x / 8 % n)), some (.int (1 + x / 64 % 12)), some (.lst true (acc.map D.str)), o1, o2, o3, o4]) ?_ ?_ (List.range 3) _ ⟨[], none, none, none, none, rfl, fun k m => by simpa using m, rfl⟩
  · rintro k rest ρ ⟨acc, o1, o2, o3, o4, hlen, hk3, rfl⟩
    have hk := hk3 k List.mem_cons_self
    refine ⟨_, rfl, fun nx hnx => ?_⟩
    simp
    refine ⟨by omega, ?_⟩
    rw [rngD_0]
    refine forL_ind (fun j : Nat => D.int (j : Int)) (fun r2 ρ => ∃ (z : Str) (p3 p4 : Option D), z.length + r2.length ≤ 8 ∧ (∀ j ∈ r2, j < 8) ∧
      ρ = [some (.int x), some (.str "abcdefghijklmnopqrstuvwxyz"), some (.int n), some (.int (x / 8 % n)), some (.int (1 + x / 64 % 12)), some (.lst true (acc.map D.str)), some (.int k), some (.str z), p3, p4]) ?_ ?_ (List.range n) _ ⟨"", o3, o4, by rw [str0]; simpa using hn8, fun j m => by have := List.mem_range.mp m; omega, rfl⟩
    · rintro j r2 ρ ⟨z, p3, p4, hz, hj8, rfl⟩
      have hj := hj8 j List.mem_cons_self
      refine ⟨_, rfl, fun nx2 hnx2 => ?_⟩
      have hjj : 0 ≤ (26 * (j : Int) * j) ∧ (26 * (j : Int) * j) < 2000 := by
        have h1 : 26 * j * j ≤ 26 * 8 * 8 := Nat.mul_le_mul (Nat.mul_le_mul (by omega) (by omega)) (by omega)
        constructor
        · exact Int.mul_nonneg (by omega) (by omega)
        · have : ((26 * j * j : Nat) : Int) ≤ ((26 * 8 * 8 : Nat) : Int) := by exact_mod_cast h1
          have e : ((26 * j * j : Nat) : Int) = 26 * (j : Int) * j := by push_cast; rfl
          omega
      simp
      refine ⟨cmL (by decide) (by decide), cmR (by omega) (by omega), ⟨by omega, by omega⟩, cmR (by omega) (by omega), ?_⟩
      have hstep : 0 ≤ (k : Int) * (1 + x / 64 % 12) := Int.mul_nonneg (by omega) (by omega)
      have cont : ∀ t : Int, 0 ≤ t → (match (if (("abcdefghijklmnopqrstuvwxyz" : Str)).length ≤ sizeLine then DL.strAt "abcdefghijklmnopqrstuvwxyz" (t % 26) else none) with
          | some d => gAdd (.str z) d fun d => nx2 [some (.int x), some (.str "abcdefghijklmnopqrstuvwxyz"), some (.int n), some (.int (x / 8 % n)), some (.int (1 + x / 64 % 12)), some (.lst true (acc.map D.str)), some (.int k), some d, some (.int j), some (.int t)]
          | none => False) := fun t ht => by
        have ht26 := emod_lt (x := t) (n := 26) (by decide)
        obtain ⟨c, hc⟩ := letters (t % 26) ht26.1 ht26.2
        rw [if_pos h26]
        unfold DL.strAt
        rw [hc]
        have l1 : (⟨#[c]⟩ : Str).length = 1 := rfl
        have hz' : z.length + (r2.length + 1) ≤ 8 := by simpa using hz
        simp
        refine ⟨szN (by omega), hnx2 _ ⟨z ++ ⟨#[c]⟩, some (.int j), some (.int t), ?_, fun q m => hj8 q (List.mem_cons_of_mem _ m), rfl⟩⟩
        have la : (z ++ (⟨#[c]⟩ : Str)).length = z.length + 1 := by
          show (z.cps ++ #[c]).size = _
          rw [Array.size_append]; rfl
        omega
      refine ⟨cmR (by split <;> decide) (by split <;> decide), ?_⟩
      have h1 : 0 ≤ x / (64 + 26 * (j : Int) * j) := Int.ediv_nonneg hx (by omega)
      refine cont (x / (64 + 26 * (j : Int) * j) + (k : Int) * (1 + x / 64 % 12) * if (j : Int) = x / 8 % (n : Int) then 1 else 0) ?_
      have h2 : 0 ≤ (k : Int) * (1 + x / 64 % 12) * (if (j : Int) = x / 8 % (n : Int) then 1 else 0) := by split <;> simp <;> omega
      omega
    · rintro ρ ⟨z, p3, p4, hz, hj8, rfl⟩
      have hlen' : acc.length + (rest.length + 1) = 3 := by simpa using hlen
      simp [mApp]
      refine ⟨szL (by omega), hnx _ ⟨acc ++ [z], some (.int k), some (.str z), p3, p4, by simp; omega, fun q m => hk3 q (List.mem_cons_of_mem _ m), by simp⟩⟩
  · rintro ρ ⟨acc, o1, o2, o3, o4, hlen, hk3, rfl⟩
    have h3 : acc.length = 3 := by simpa using hlen
    match acc, h3 with
    | [a, b, c], _ => simpa using h a b c

theorem three {a b c : D} {i : Int} (h0 : 0 ≤ i) (h1 : i < 3) : atI [a, b, c] i = some a ∨ atI [a, b, c] i = some b ∨ atI [a, b, c] i = some c := by
  have : i = 0 ∨ i = 1 ∨ i = 2 := by omega
  rcases this with rfl | rfl | rfl <;> simp
theorem two {a b : D} {i : Int} (h0 : 0 ≤ i) (h1 : i < 2) : atI [a, b] i = some a ∨ atI [a, b] i = some b := by
  have : i = 0 ∨ i = 1 := by omega
  rcases this with rfl | rfl <;> simp
theorem name3 {a b c : Str} {i : Int} (h0 : 0 ≤ i) (h1 : i < 3) : ∃ z, atI [D.str a, D.str b, D.str c] i = some (.str z) := by
  rcases three (a := .str a) (b := .str b) (c := .str c) h0 h1 with h | h | h <;> exact ⟨_, h⟩

-- _law_deed: 0 _law_x, 1 _law_place_here, 2 _law_names_here, 3 _law_guard, 4 _law_cup, 5 _law_number_here
def w__law_deed : WS := (sSeq (sAsg (.nm 3) (wUp (wC .non)))
  (sSeq (sIf (tV (w2 gGt (w2 gMod (w2 gDiv (wVar 0) (wC (.int 32))) (wC (.int 6))) (wC (.int 3)))) (sAsg (.nm 3) (wUp (wTup (aCons (wIx (wLst (aCons (wC (.str "when")) (aCons (wC (.str "unless")) aNil))) (w2 gMod (w2 gDiv (wVar 0) (wC (.int 32))) (wC (.int 2)))) (aCons (wF (wIx (wVar 2) (w2 gMod (w2 gDiv (wVar 0) (wC (.int 192))) (wC (.int 3))))) (aCons (w2 gMod (w2 gDiv (wVar 0) (wC (.int 576))) (wC (.int 3))) aNil))))))
  sNil)
  (sSeq (sAsg (.nm 4) (wUp (wF (wIx (wVar 2) (w2 gMod (w2 gDiv (wVar 0) (wC (.int 1728))) (wC (.int 3)))))))
  (sSeq (sAsg (.nm 5) (wUp (wCall sp__law_number [] (aCons (w2 gDiv (wVar 0) (wC (.int 5184))) aNil))))
  (sSeq (sIf (tV (w2 gLt (w2 gMod (wVar 0) (wC (.int 8))) (wC (.int 3)))) (sRet (wUp (wTup (aCons (wC (.str "put")) (aCons (wF (wVar 1)) (aCons (wF (wVar 5)) (aCons (wF (wVar 3)) aNil)))))))
  sNil)
  (sSeq (sIf (tV (w2 gLt (w2 gMod (wVar 0) (wC (.int 8))) (wC (.int 6)))) (sRet (wUp (wTup (aCons (wC (.str "get")) (aCons (wF (wVar 4)) (aCons (wF (wVar 1)) (aCons (wF (wVar 3)) aNil)))))))
  sNil)
  (sSeq (sIf (tV (w2 gEq (w2 gMod (wVar 0) (wC (.int 8))) (wC (.int 6)))) (sRet (wUp (wTup (aCons (wC (.str "swap")) (aCons (wF (wVar 4)) (aCons (wF (wVar 1)) (aCons (wF (wVar 5)) (aCons (wF (wVar 3)) aNil))))))))
  sNil)
  (sRet (wUp (wTup (aCons (wIx (wLst (aCons (wC (.str "fence")) (aCons (wC (.str "bar")) aNil))) (w2 gMod (w2 gDiv (wVar 0) (wC (.int 8))) (wC (.int 2)))) (aCons (wF (wVar 3)) aNil))))))))))))

theorem sem__law_deed (ds : List D) (P : D → Prop) (E : Ex → Prop) (hf : isFs ds = true) (h : sp__law_deed ds P E) : w__law_deed (ds.map some ++ List.replicate (["_law_x", "_law_place_here", "_law_names_here", "_law_guard", "_law_cup", "_law_number_here"].length - ds.length) none) (outsOf P E) := by
  obtain ⟨x, p, a, b, c, rfl, hx, h⟩ := h
  obtain ⟨n1, hn1⟩ := name3 (a := a) (b := b) (c := c) (i := x / 192 % 3) (emod_lt (by decide)).1 (emod_lt (by decide)).2
  obtain ⟨n2, hn2⟩ := name3 (a := a) (b := b) (c := c) (i := x / 1728 % 3) (emod_lt (by decide)).1 (emod_lt (by decide)).2
  have d1 : CDiv x 32 := ⟨by decide, by decide⟩
  have d2 : CDiv x 192 := ⟨by decide, by decide⟩
  have d3 : CDiv x 576 := ⟨by decide, by decide⟩
  have d4 : CDiv x 1728 := ⟨by decide, by decide⟩
  have d5 : CDiv x 5184 := ⟨by decide, by decide⟩
  have d6 : CDiv x 8 := ⟨by decide, by decide⟩
  have hw : ∃ wb : Bool, atI [D.str "when", D.str "unless"] (x / 32 % 2) = some (.str (if wb then "when" else "unless")) := by
    rcases two (a := .str "when") (b := .str "unless") (i := x / 32 % 2) (emod_lt (by decide)).1 (emod_lt (by decide)).2 with e | e
    · exact ⟨true, e⟩
    · exact ⟨false, e⟩
  have hs : ∃ wb : Bool, atI [D.str "fence", D.str "bar"] (x / 8 % 2) = some (.str (if wb then "fence" else "bar")) := by
    rcases two (a := .str "fence") (b := .str "bar") (i := x / 8 % 2) (emod_lt (by decide)).1 (emod_lt (by decide)).2 with e | e
    · exact ⟨true, e⟩
    · exact ⟨false, e⟩
  obtain ⟨wb, hw⟩ := hw
  obtain ⟨sb, hs⟩ := hs
  have hx5 : 0 ≤ x / 5184 := Int.ediv_nonneg hx (by decide)
  have tail : ∀ (g : Gd), ∀ y : Int, sIf (tV (w2 gLt (w2 gMod (wVar 0) (wC (.int 8))) (wC (.int 3)))) (sRet (wUp (wTup (aCons (wC (.str "put")) (aCons (wF (wVar 1)) (aCons (wF (wVar 5)) (aCons (wF (wVar 3)) aNil)))))))
      sNil [some (.int x), some (.str p), some (.lst false [.str a, .str b, .str c]), some (encG g), some (.str n2), some (.int y)] ⟨fun ρ => (sSeq (sIf (tV (w2 gLt (w2 gMod (wVar 0) (wC (.int 8))) (wC (.int 6)))) (sRet (wUp (wTup (aCons (wC (.str "get")) (aCons (wF (wVar 4)) (aCons (wF (wVar 1)) (aCons (wF (wVar 3)) aNil)))))))
  sNil)
  (sSeq (sIf (tV (w2 gEq (w2 gMod (wVar 0) (wC (.int 8))) (wC (.int 6)))) (sRet (wUp (wTup (aCons (wC (.str "swap")) (aCons (wF (wVar 4)) (aCons (wF (wVar 1)) (aCons (wF (wVar 5)) (aCons (wF (wVar 3)) aNil))))))))
  sNil)
  (sRet (wUp (wTup (aCons (wIx (wLst (aCons (wC (.str "fence")) (aCons (wC (.str "bar")) aNil))) (w2 gMod (w2 gDiv (wVar 0) (wC (.int 8))) (wC (.int 2)))) (aCons (wF (wVar 3)) aNil))))))) ρ (outsOf P E), (outsOf P E).rt, (outsOf P E).bk, (outsOf P E).ct, (outsOf P E).ex⟩ := by
    intro g y
    by_cases c1 : x % 8 < 3
    · simp [c1]
      exact h (.put p y g)
    · by_cases c2 : x % 8 < 6
      · simp [c1, c2]
        exact h (.get n2 p g)
      · by_cases c3 : x % 8 = 6
        · simp [c3]
          exact h (.swap n2 p y g)
        · simp [c1, c2, c3, hs, d6]
          cases sb
          · exact h (.bar g)
          · exact h (.fence g)
  by_cases c0 : 3 < x / 32 % 6
  · simp [w__law_deed, c0, d1, d2, d3, d4, d5, hw, hn1, hn2]
    refine ⟨x / 5184, rfl, hx5, fun y => ?_⟩
    have z := tail (.g wb n1 (x / 576 % 3)) y
    simp [encG] at z
    simpa using z
  · simp [w__law_deed, c0, d1, d2, d3, d4, d5, hw, hn1, hn2]
    refine ⟨x / 5184, rfl, hx5, fun y => ?_⟩
    have z := tail .no y
    simp [encG] at z
    simpa using z

theorem sum_set {p : Pg} {n : Nat} (h : n < p.length) (d : Dd) : sumOf (p.set n (p[n] ++ [d])) = sumOf p + 1 := by
  induction p generalizing n with
  | nil => cases h
  | cons x r ih =>
    cases n with
    | zero => simp [sumOf]; omega
    | succ n =>
      have := ih (n := n) (by simpa using h)
      simp only [sumOf, List.set_cons_succ, List.map_cons, List.sum_cons, List.getElem_cons_succ] at this ⊢
      omega
theorem sum_rep (n : Nat) : sumOf (List.replicate n ([] : Hd)) = 0 := by
  induction n with
  | zero => rfl
  | succ n ih =>
    rw [List.replicate_succ]
    simp only [sumOf, List.map_cons, List.sum_cons] at ih ⊢
    rw [ih]; rfl

-- _law_long: 0 _law_script, 1 _law_many, 2 _law_head, 3 _law_names_here, 4 _law_size, 5 _law_program, 6 _law_k, 7 _law_x, 8 _law_h, 9 _law_place_here
def w__law_long : WS := (sSeq (sAsg (.nm 2) (wUp (wCall sp__law_draw [] (aCons (wVar 0) (aCons (wC (.int 0)) aNil)))))
  (sSeq (sAsg (.nm 3) (wUp (wCall sp__law_names [] (aCons (wCall sp__law_draw [] (aCons (wVar 0) (aCons (wC (.int 1)) aNil))) aNil))))
  (sSeq (sAsg (.nm 4) (wUp (w2 gAdd (wC (.int 1)) (w2 gMod (wVar 2) (wC (.int 6))))))
  (sSeq (sAsg (.nm 5) (wUp (wLc (.nm 8) (iR1 (aCons (wVar 4) aNil)) [8] tTrue (wLst aNil))))
  (sSeq (sFor (.nm 6) (iR1 (aCons (wVar 1) aNil))
  (sSeq (sAsg (.nm 7) (wUp (wCall sp__law_draw [] (aCons (wVar 0) (aCons (w2 gAdd (wC (.int 2)) (wVar 6)) aNil)))))
  (sSeq (sAsg (.nm 8) (wUp (w2 gMod (w2 gMod (w2 gMul (wVar 7) (wC (.int 16807))) (wC (.int 2147483629))) (wVar 4))))
  (sSeq (sAsg (.nm 9) (wUp (wF (wIx (wVar 3) (w2 gMod (w2 gMod (w2 gMul (wVar 7) (wC (.int 69621))) (wC (.int 2147483587))) (wC (.int 3)))))))
  (sDrop (wLm mApp (pIx (pVar 5) (wVar 8)) (aCons (wCall sp__law_deed [] (aCons (wVar 7) (aCons (wVar 9) (aCons (wVar 3) aNil)))) aNil)))))))
  (sRet (wNm 5)))))))

theorem sem__law_long (ds : List D) (P : D → Prop) (E : Ex → Prop) (hf : isFs ds = true) (h : sp__law_long ds P E) : w__law_long (ds.map some ++ List.replicate (["_law_script", "_law_many", "_law_head", "_law_names_here", "_law_size", "_law_program", "_law_k", "_law_x", "_law_h", "_law_place_here"].length - ds.length) none) (outsOf P E) := by
  obtain ⟨ns, m, rfl, hm, h⟩ := h
  simp [w__law_long]
  refine ⟨ns, 0, by simp, by omega, fun head hh => ?_⟩
  simp
  refine ⟨ns, 1, by simp, by omega, fun x1 hx1 => ?_⟩
  simp
  refine ⟨x1, rfl, hx1, fun a b c => ?_⟩
  have m6 := emod_lt (x := head) (n := 6) (by decide)
  obtain ⟨sz, hsz, hsz1, hsz6⟩ : ∃ n : Nat, 1 + head % 6 = (n : Int) ∧ 1 ≤ n ∧ n ≤ 6 := ⟨(1 + head % 6).toNat, by omega, by omega, by omega⟩
  simp [hsz]
  refine ⟨by omega, ?_⟩
  rw [rngD_0]
  refine lcL_map (fun k : Nat => D.int (k : Int)) (fun _ => .lst true []) _ (fun k _ => ⟨_, rfl, fun P z => by simpa using z⟩) (szN (by simp; omega)) ?_
  refine ⟨by omega, ?_⟩
  rw [rngD_0]
  refine forL_ind (fun k : Nat => D.int (k : Int)) (fun rest ρ => ∃ (p : Pg) (o1 o2 o3 o4 : Option D), p.length = sz ∧ sumOf p + rest.length = m ∧ (∀ k ∈ rest, k < 40) ∧
    ρ = [some (scrD ns), some (.int m), some (.int head), some (.lst true [.str a, .str b, .str c]), some (.int sz), some (encPO p), o1, o2, o3, o4]) ?_ ?_ (List.range m) _ ⟨List.replicate sz [], none, none, none, none, by simp, by rw [sum_rep]; simp, fun k mk => by have := List.mem_range.mp mk; omega, ?_⟩
  · rintro k rest ρ ⟨p, o1, o2, o3, o4, hp, hsum, hk40, rfl⟩
    have hk := hk40 k List.mem_cons_self
    refine ⟨_, rfl, fun nx hnx => ?_⟩
    simp
    refine ⟨ns, 2 + k, by simp, by omega, fun x hx => ?_⟩
    simp
    have r1 := emod_lt (x := x * 16807 % 2147483629) (n := (sz : Int)) (by omega)
    obtain ⟨n, hn, hnl⟩ : ∃ n : Nat, x * 16807 % 2147483629 % (sz : Int) = (n : Int) ∧ n < p.length := ⟨(x * 16807 % 2147483629 % (sz : Int)).toNat, by omega, by omega⟩
    obtain ⟨nm, hnm⟩ := name3 (a := a) (b := b) (c := c) (i := x * 69621 % 2147483587 % 3) (emod_lt (by decide)).1 (emod_lt (by decide)).2
    refine ⟨cmR (by decide) (by decide), by omega, cmR (by decide) (by decide), ?_⟩
    rw [hnm]
    simp [encPO]
    have hix : ixN p.length (x * 16807 % 2147483629 % (sz : Int)) = some n := by rw [hn]; exact ixN_cast hnl
    rw [hix]
    simp [List.getElem?_eq_getElem hnl]
    refine ⟨x, nm, a, b, c, rfl, hx, fun d => ?_⟩
    simp [mApp]
    have hsum' : sumOf p + (rest.length + 1) = m := by simpa using hsum
    have hle : (p[n]).length ≤ sumOf p := mem_sum (List.mem_map.mpr ⟨p[n], List.getElem_mem hnl, rfl⟩)
    refine ⟨szL (by omega), hnx _ ⟨p.set n (p[n] ++ [d]), some (.int k), some (.int x), some (.int (x * 16807 % 2147483629 % (sz : Int))), some (.str nm), by simpa using hp, by rw [sum_set hnl]; omega, fun q mq => hk40 q (List.mem_cons_of_mem _ mq), ?_⟩⟩
    simp [encPO, List.map_set]
  · rintro ρ ⟨p, o1, o2, o3, o4, hp, hsum, hk40, rfl⟩
    have hsum' : sumOf p = m := by simpa using hsum
    have z := h p (by omega) (by omega) hsum'
    simpa [encPO] using z
  · simp [encPO, List.map_const']

-- _law_gaps: 0 _law_program, 1 _law_found, 2 _law_h, 3 _law_many, 4 _law_deed_here, 5 _law_k
def w__law_gaps : WS := (sSeq (sAsg (.nm 1) (wUp (wLst aNil)))
  (sSeq (sFor (.nm 2) (iR1 (aCons (wBi gLen (aCons (wVar 0) aNil)) aNil))
  (sSeq (sAsg (.nm 3) (wUp (wBi gLen (aCons (wLc (.nm 4) (iLst (wF (wIx (wVar 0) (wVar 2)))) [4] (tV (w2 gIsNot (wCall sp__law_place [] (aCons (wVar 4) aNil)) (wC .non))) (wF (wVar 4))) aNil))))
  (sAsg (.nm 1) (wUp (w2 gAdd (wVar 1) (wLc (.nm 5) (iR2 (aCons (wC (.int 1)) (aCons (wVar 3) aNil))) [5] tTrue (wTup (aCons (wF (wVar 2)) (aCons (wF (wVar 5)) aNil)))))))))
  (sRet (wNm 1))))

theorem sem__law_gaps (ds : List D) (P : D → Prop) (E : Ex → Prop) (hf : isFs ds = true) (h : sp__law_gaps ds P E) : w__law_gaps (ds.map some ++ List.replicate (["_law_program", "_law_found", "_law_h", "_law_many", "_law_deed_here", "_law_k"].length - ds.length) none) (outsOf P E) := by
  obtain ⟨p, rfl, hp, h⟩ := h
  have hp1 := hp.1
  simp [w__law_gaps, encP]
  refine ⟨by omega, ?_⟩
  rw [rngD_0]
  have gl : ∀ (q : Pg) (n : Nat), ((q.zipIdx n).flatMap fun q => (List.range (manyOf q.1)).map fun (k : Nat) => ((q.2 : Int), (k : Int))).filter (fun q => decide (0 < q.2)) = (q.zipIdx n).flatMap fun q => (List.range (manyOf q.1 - 1)).map fun (k : Nat) => ((q.2 : Int), ((1 + k : Nat) : Int)) := by
    intro q
    induction q with
    | nil => intro n; rfl
    | cons x r ih =>
      intro n
      rw [List.zipIdx_cons, List.flatMap_cons, List.flatMap_cons, List.filter_append, ih (n + 1)]
      congr 1
      cases hm : manyOf x with
      | zero => rfl
      | succ j =>
        rw [List.range_succ_eq_map, List.map_cons, List.filter_cons]
        simp
        rw [List.filter_eq_self.mpr]
        · apply List.map_congr_left
          intro k _
          simp
          omega
        · intro y hy
          obtain ⟨k, _, rfl⟩ := List.mem_map.mp hy
          simp
  have eg : gapsOf p = p.zipIdx.flatMap fun q => (List.range (manyOf q.1 - 1)).map fun (k : Nat) => ((q.2 : Int), ((1 + k : Nat) : Int)) := gl p 0
  have hgl := gaps_len p hp
  have er : (List.range p.length).map (fun k : Nat => D.int (k : Int)) = p.zipIdx.map fun q => D.int (q.2 : Int) := by
    apply List.ext_getElem
    · simp
    · intro i h1 h2; simp
  rw [er]
  refine forL_ind (fun q : Hd × Nat => D.int (q.2 : Int)) (fun rest ρ => (∀ q ∈ rest, p[q.2]? = some q.1) ∧ ∃ (acc : List Pt) (o1 o2 o3 o4 : Option D), acc ++ (rest.flatMap fun q => (List.range (manyOf q.1 - 1)).map fun (k : Nat) => ((q.2 : Int), ((1 + k : Nat) : Int))) = gapsOf p ∧
    ρ = [some (encP p), some (.lst true (acc.map encPt)), o1, o2, o3, o4]) ?_ ?_ _ _ ⟨fun q mq => ?_, [], none, none, none, none, by rw [eg]; rfl, rfl⟩
  · rintro ⟨x, i⟩ rest ρ ⟨hl, acc, o1, o2, o3, o4, hacc, rfl⟩
    refine ⟨_, rfl, fun nx hnx => ?_⟩
    have hxi : p[i]? = some x := hl (x, i) List.mem_cons_self
    have hx : x.length ≤ 1000 := hand_le hp (List.mem_of_getElem? hxi)
    simp [encP, hxi]
    refine lcL_ok enD (fun d => (placeOf d).isSome) enD x [] (fun d _ => ⟨_, rfl, fun Pb q => ?_, fun _ P q => ?_⟩) (by simpa using szN (by omega)) ?_
    · simp
      exact ⟨d, rfl, by simpa using q⟩
    · simpa using q
    · simp
      have hm : ((x.filter fun d => (placeOf d).isSome).length : Nat) = manyOf x := rfl
      rw [hm]
      have hml := many_le x
      refine ⟨by omega, ?_⟩
      have etot : acc.length + ((manyOf x - 1) + (rest.flatMap fun q => (List.range (manyOf q.1 - 1)).map fun (k : Nat) => ((q.2 : Int), ((1 + k : Nat) : Int))).length) ≤ 1000 := by
        rw [← hacc] at hgl
        simpa using hgl
      unfold rngD
      refine lcL_map (fun k : Nat => D.int (1 + (k : Int))) (fun k : Nat => encPt ((i : Int), ((1 + k : Nat) : Int))) _ (fun k _ => ⟨_, rfl, fun P z => ?_⟩) (szN (by simp; omega)) ?_
      · simpa [encPt] using z
      · simp
        refine ⟨?_, szN (by omega), hnx _ ⟨fun q mq => hl q (List.mem_cons_of_mem _ mq), acc ++ (List.range (manyOf x - 1)).map (fun (k : Nat) => ((i : Int), ((1 + k : Nat) : Int))), some (.int i), some (.int (manyOf x)), o3, o4, by rw [← hacc]; simp, by simp [encP, Function.comp_def]⟩⟩
        exact isFs_of_map _ (fun _ => rfl) _
  · rintro ρ ⟨_, acc, o1, o2, o3, o4, hacc, rfl⟩
    have h3 : acc = gapsOf p := by simpa using hacc
    subst h3
    simpa using h
  · have := List.mem_zipIdx mq
    rw [List.getElem?_eq_getElem (by omega)]
    simp [this.2.2]

theorem word2 {i : Int} (h0 : 0 ≤ i) (h1 : i < 2) : ∃ b, atI [D.str "fence", D.str "bar"] i = some (.str (wd b)) := by
  rcases two (a := .str "fence") (b := .str "bar") h0 h1 with e | e
  · exact ⟨true, e⟩
  · exact ⟨false, e⟩
theorem encS_ins (ss : List Stp) (n : Nat) (x : Stp) : (ss.map encS).take n ++ encS x :: (ss.map encS).drop n = (ss.take n ++ x :: ss.drop n).map encS := by simp [List.map_take, List.map_drop]

-- _law_stops: 0 _law_program, 1 _law_script, 2 _law_start, 3 _law_some, 4 _law_k, 5 _law_gap, 6 _law_x, 7 _law_at
def w__law_stops : WS := (sSeq (sAsg (.nm 3) (wUp (wLst aNil)))
  (sSeq (sFor (.tp [4, 5]) (iEn (aCons (wCall sp__law_gaps [] (aCons (wVar 0) aNil)) aNil))
  (sSeq (sAsg (.nm 6) (wUp (wCall sp__law_draw [] (aCons (wVar 1) (aCons (w2 gAdd (wVar 2) (wVar 4)) aNil)))))
  (sIf (tV (w2 gGt (w2 gMod (wVar 6) (wC (.int 3))) (wC (.int 0)))) (sSeq (sAsg (.nm 7) (wUp (w2 gMod (w2 gDiv (wVar 6) (wC (.int 3))) (w2 gAdd (wBi gLen (aCons (wVar 3) aNil)) (wC (.int 1))))))
  (sDrop (wLm mIns (pVar 3) (aCons (wF (wVar 7)) (aCons (wTup (aCons (wF (wIx (wVar 5) (wC (.int 0)))) (aCons (wF (wIx (wVar 5) (wC (.int 1)))) (aCons (wIx (wLst (aCons (wC (.str "fence")) (aCons (wC (.str "bar")) aNil))) (w2 gSub (w2 gMod (wVar 6) (wC (.int 3))) (wC (.int 1)))) aNil)))) aNil)))))
  sNil)))
  (sRet (wNm 3))))

theorem sem__law_stops (ds : List D) (P : D → Prop) (E : Ex → Prop) (hf : isFs ds = true) (h : sp__law_stops ds P E) : w__law_stops (ds.map some ++ List.replicate (["_law_program", "_law_script", "_law_start", "_law_some", "_law_k", "_law_gap", "_law_x", "_law_at"].length - ds.length) none) (outsOf P E) := by
  obtain ⟨p, ns, s, rfl, hp, hs, h⟩ := h
  have hgl := gaps_len p hp
  have hnd := gaps_nodup p
  simp [w__law_stops]
  refine ⟨p, by simp, hp, ?_⟩
  simp
  rw [enumD_map]
  refine forL_ind (fun q : Pt × Nat => D.tup [.int (q.2 : Int), encPt q.1]) (fun rest ρ => (rest.map (·.1)).Nodup ∧ (∀ q ∈ rest, q.1 ∈ gapsOf p ∧ q.2 < 1000) ∧ ∃ (ss : List Stp) (o1 o2 o3 o4 : Option D), (ss.map (·.1)).Nodup ∧ (∀ q ∈ ss, q.1 ∈ gapsOf p ∧ q.1 ∉ rest.map (·.1)) ∧ ss.length + rest.length ≤ 1000 ∧
    ρ = [some (encP p), some (scrD ns), some (.int s), some (.lst true (ss.map encS)), o1, o2, o3, o4]) ?_ ?_ _ _ ⟨by simpa [List.zipIdx_map_fst] using hnd, fun q mq => ?_, [], none, none, none, none, by simp, by simp, by simpa using hgl, rfl⟩
  · rintro ⟨⟨g1, g2⟩, i⟩ rest ρ ⟨hrn, hrg, ss, o1, o2, o3, o4, hsn, hsg, hlen, rfl⟩
    have hg := hrg ((g1, g2), i) List.mem_cons_self
    have hi : i < 1000 := hg.2
    refine ⟨_, rfl, fun nx hnx => ?_⟩
    simp
    refine ⟨ns, s + i, by simp, by omega, fun x hx => ?_⟩
    have m3 := emod_lt (x := x) (n := 3) (by decide)
    have hrn' := List.nodup_cons.mp hrn
    have hlen0 : ss.length + (rest.length + 1) ≤ 1000 := by simpa using hlen
    have keep : ∀ ρ', ρ' = [some (encP p), some (scrD ns), some (D.int s), some (.lst true (ss.map encS)), some (.int i), some (encPt (g1, g2)), some (.int x), o4] → nx ρ' := fun ρ' e =>
      hnx ρ' ⟨hrn'.2, fun q mq => hrg q (List.mem_cons_of_mem _ mq), ss, _, _, _, _, hsn, fun q mq => ⟨(hsg q mq).1, fun z => (hsg q mq).2 (List.mem_cons_of_mem _ z)⟩, by omega, e⟩
    by_cases h0 : 0 < x % 3
    · simp [h0]
      obtain ⟨b, hb⟩ := word2 (i := x % 3 - 1) (by omega) (by omega)
      refine ⟨⟨by decide, by decide⟩, by first | rfl | omega, ?_⟩
      simp [encPt, hb, mIns]
      have r1 := emod_lt (x := x / 3) (n := (ss.length : Int) + 1) (by omega)
      have hlen' : ss.length + (rest.length + 1) ≤ 1000 := by simpa using hlen
      refine ⟨szL (by omega), by omega, by omega, ?_⟩
      have es : D.tup [.int g1, .int g2, .str (wd b)] = encS ((g1, g2), b) := rfl
      generalize (x / 3 % ((ss.length : Int) + 1)).toNat = n at *
      refine hnx _ ⟨hrn'.2, fun q mq => hrg q (List.mem_cons_of_mem _ mq), ss.take n ++ ((g1, g2), b) :: ss.drop n, some (.int i), some (encPt (g1, g2)), some (.int x), some (.int (x / 3 % ((ss.length : Int) + 1))), ?_, fun q mq => ?_, ?_, ?_⟩
      · have hp1 : (ss.take n ++ ((g1, g2), b) :: ss.drop n).Perm (((g1, g2), b) :: ss) := by
          refine List.perm_middle.trans ?_
          rw [List.take_append_drop]
        refine (hp1.map (·.1)).nodup_iff.mpr ?_
        rw [List.map_cons]
        refine List.nodup_cons.mpr ⟨fun z => ?_, hsn⟩
        obtain ⟨q, hq, e⟩ := List.mem_map.mp z
        exact (hsg q hq).2 (by rw [e]; simp)
      · have hp1 : (ss.take n ++ ((g1, g2), b) :: ss.drop n).Perm (((g1, g2), b) :: ss) := by
          refine List.perm_middle.trans ?_
          rw [List.take_append_drop]
        have mq' := hp1.mem_iff.mp mq
        rcases List.mem_cons.mp mq' with e | mq'
        · rw [e]; exact ⟨hg.1, hrn'.1⟩
        · exact ⟨(hsg q mq').1, fun z => (hsg q mq').2 (List.mem_cons_of_mem _ z)⟩
      · have hp1 : (ss.take n ++ ((g1, g2), b) :: ss.drop n).Perm (((g1, g2), b) :: ss) := by
          refine List.perm_middle.trans ?_
          rw [List.take_append_drop]
        rw [hp1.length_eq]; simp; omega
      · rw [es, encS_ins]; rfl
    · simp [h0]
      exact keep _ rfl
  · rintro ρ ⟨_, _, ss, o1, o2, o3, o4, hsn, hsg, hlen, rfl⟩
    have z := h ss hsn fun q mq => (hsg q mq).1
    simpa using z
  · have := List.mem_zipIdx mq
    refine ⟨by rw [this.2.2]; simp, by omega⟩

theorem cut2 (a b c : D) : cutD [a, b, c] none (some 2) = [a, b] := rfl
theorem stop_D (b : Bool) : D.tup [.str (wd b), .non] = enD (stopD b) := by cases b <;> rfl
theorem lawHand_len (ss : List Stp) (h : Int) : ∀ (x : Hd) (k : Int), (lawHand ss h k x).length ≤ (ss.length + 1) * x.length
  | [], _ => by simp [lawHand]
  | d :: r, k => by
    have i1 := lawHand_len ss h r (k + 1)
    have i2 := lawHand_len ss h r k
    have hf := List.length_filter_le (fun s : Stp => decide (s.1 = (h, k))) ss
    rw [lawHand]
    split
    · simp only [List.length_append, List.length_map, List.length_cons, Nat.mul_add, Nat.mul_one] at *
      omega
    · simp only [List.length_cons, Nat.mul_add, Nat.mul_one] at *
      omega

-- _law_stopped: 0 _law_program, 1 _law_some, 2 _law_found, 3 _law_h, 4 _law_hand, 5 _law_k, 6 _law_deed_here, 7 _law_stop
def w__law_stopped : WS := (sSeq (sAsg (.nm 2) (wUp (wLst aNil)))
  (sSeq (sFor (.nm 3) (iR1 (aCons (wBi gLen (aCons (wVar 0) aNil)) aNil))
  (sSeq (sAsg (.nm 4) (wUp (wLst aNil)))
  (sSeq (sAsg (.nm 5) (wUp (wC (.int 0))))
  (sSeq (sFor (.nm 6) (iLst (wF (wIx (wVar 0) (wVar 3))))
  (sSeq (sIf (tV (w2 gIsNot (wCall sp__law_place [] (aCons (wVar 6) aNil)) (wC .non))) (sSeq (sAsg (.nm 4) (wUp (w2 gAdd (wVar 4) (wLc (.nm 7) (iLst (wF (wVar 1))) [7] (tV (w2 gEq (wSl (wVar 7) oN (oS (wC (.int 2)))) (wTup (aCons (wF (wVar 3)) (aCons (wF (wVar 5)) aNil))))) (wTup (aCons (wF (wIx (wVar 7) (wC (.int 2)))) (aCons (wC .non) aNil)))))))
  (sAsg (.nm 5) (wUp (w2 gAdd (wVar 5) (wC (.int 1))))))
  sNil)
  (sDrop (wLm mApp (pVar 4) (aCons (wF (wVar 6)) aNil)))))
  (sDrop (wLmN mApp 2 (aCons1 (wNm 4) aNil1)))))))
  (sRet (wNm 2))))

theorem sem__law_stopped (ds : List D) (P : D → Prop) (E : Ex → Prop) (hf : isFs ds = true) (h : sp__law_stopped ds P E) : w__law_stopped (ds.map some ++ List.replicate (["_law_program", "_law_some", "_law_found", "_law_h", "_law_hand", "_law_k", "_law_deed_here", "_law_stop"].length - ds.length) none) (outsOf P E) := by
  obtain ⟨p, ss, rfl, hp, hss, h⟩ := h
  have hp1 := hp.1
  simp [w__law_stopped, encP]
  refine ⟨by omega, ?_⟩
  rw [rngD_0]
  have er : (List.range p.length).map (fun k : Nat => D.int (k : Int)) = p.zipIdx.map fun q => D.int (q.2 : Int) := by
    apply List.ext_getElem
    · simp
    · intro i h1 h2; simp
  rw [er]
  refine forL_ind (fun q : Hd × Nat => D.int (q.2 : Int)) (fun rest ρ => (∀ q ∈ rest, p[q.2]? = some q.1) ∧ ∃ (acc : Pg) (o1 o2 o3 o4 o5 : Option D), acc ++ (rest.map fun q => lawHand ss q.2 0 q.1) = (p.zipIdx.map fun q => lawHand ss q.2 0 q.1) ∧
    ρ = [some (encP p), some (encSs ss), some (encPO acc), o1, o2, o3, o4, o5]) ?_ ?_ _ _ ⟨fun q mq => ?_, [], none, none, none, none, none, rfl, rfl⟩
  · rintro ⟨x, i⟩ rest ρ ⟨hl, acc, o1, o2, o3, o4, o5, hacc, rfl⟩
    refine ⟨_, rfl, fun nx hnx => ?_⟩
    have hxi : p[i]? = some x := hl (x, i) List.mem_cons_self
    have hx : x.length ≤ 1000 := hand_le hp (List.mem_of_getElem? hxi)
    have hll := lawHand_len ss i x 0
    have hbig : (ss.length + 1) * x.length ≤ 1001 * 1000 := Nat.mul_le_mul (by omega) hx
    simp [encP, hxi]
    refine forL_ind enD (fun r2 ρ => ∃ (ha : Hd) (kk : Int) (p4 p5 : Option D), ha ++ lawHand ss i kk r2 = lawHand ss i 0 x ∧ ρ = [some (encP p), some (encSs ss), some (encPO acc), some (.int i), some (.lst true (ha.map enD)), some (.int kk), p4, p5]) ?_ ?_ x _ ⟨[], 0, o4, o5, by simp, rfl⟩
    · rintro d r2 ρ ⟨ha, kk, p4, p5, hha, rfl⟩
      refine ⟨_, rfl, fun nx2 hnx2 => ?_⟩
      simp
      refine ⟨d, rfl, ?_⟩
      have hl2 := congrArg List.length hha
      rw [List.length_append] at hl2
      cases hpl : PR.placeOf d with
      | none =>
        have e1 : lawHand ss i kk (d :: r2) = d :: lawHand ss i kk r2 := by rw [lawHand, hpl]; rfl
        rw [e1] at hha hl2
        simp only [List.length_cons] at hl2
        simp [encO, mApp]
        exact ⟨szL (by omega), hnx2 _ ⟨ha ++ [d], kk, some (enD d), p5, by rw [← hha]; simp, by simp⟩⟩
      | some pl =>
        have e1 : lawHand ss i kk (d :: r2) = ((ss.filter fun s => decide (s.1 = ((i : Int), kk))).map fun s => stopD s.2) ++ d :: lawHand ss i (kk + 1) r2 := by rw [lawHand, hpl]; rfl
        rw [e1] at hha hl2
        simp only [List.length_append, List.length_cons, List.length_map] at hl2
        simp [encO]
        refine lcL_ok encS (fun s => decide (s.1 = ((i : Int), kk))) (fun s => enD (stopD s.2)) ss [] (fun s _ => ⟨_, rfl, fun Pb q => ?_, fun _ P q => ?_⟩) (by simpa using szN (by omega)) ?_
        · have e2 : (decide (s.1.1 = (i : Int)) && decide (s.1.2 = kk)) = decide (s.1 = ((i : Int), kk)) := by rw [Bool.eq_iff_iff]; simp [Prod.ext_iff]
          simp [encS, gSl, cut2, e2]
          exact q
        · simp [encS, stop_D]
          exact q
        · have hif : isFs ((ss.filter fun s => decide (s.1 = ((i : Int), kk))).map fun s => enD (stopD s.2)) = true := isFs_of_map _ (fun _ => isF_encD _) _
          simp [hif, mApp]
          refine ⟨szN (by omega), szL (by omega), hnx2 _ ⟨ha ++ (((ss.filter fun s => decide (s.1 = ((i : Int), kk))).map fun s => stopD s.2) ++ [d]), kk + 1, some (enD d), p5, by rw [← hha]; simp, by simp [Function.comp_def]⟩⟩
    · rintro ρ ⟨ha, kk, p4, p5, hha, rfl⟩
      have hha' : ha = lawHand ss i 0 x := by simpa [lawHand] using hha
      subst hha'
      have hal := congrArg List.length hacc
      simp only [List.length_append, List.length_map, List.length_cons, List.length_zipIdx] at hal
      simp [encPO, mApp]
      refine ⟨szL (by omega), hnx _ ⟨fun q mq => hl q (List.mem_cons_of_mem _ mq), acc ++ [lawHand ss i 0 x], some (.int i), none, some (.int kk), p4, p5, by rw [← hacc]; simp, by simp [encPO]⟩⟩
  · rintro ρ ⟨_, acc, o1, o2, o3, o4, o5, hacc, rfl⟩
    have h3 : acc = (p.zipIdx.map fun q => lawHand ss q.2 0 q.1) := by simpa using hacc
    subst h3
    simpa [encPO] using h
  · have := List.mem_zipIdx mq
    rw [List.getElem?_eq_getElem (by omega)]
    simp [this.2.2]

-- _law_kinds: 0 _law_error, 1 _law_found
def w__law_kinds (C : Str) (a : Addr) : WS := (sSeq (sAsg (.nm 1) (wUp (wLst (aCons (wIsE 0 a (bE C "NoGap")) (aCons (wIsE 0 a (bE C "TooGreat")) (aCons (wIsE 0 a (bE C "ValueError")) aNil))))))
  (sSeq (sAsg (.nm 1) (wUp (w2 gAdd (wVar 1) (wLst (aCons (wIsE 0 a (bE C "NoMove")) (aCons (wIsE 0 a (bE C "NoName")) (aCons (wIsE 0 a (bE C "NoOrder")) aNil)))))))
  (sSeq (sAsg (.nm 1) (wUp (w2 gAdd (wVar 1) (wLst (aCons (wIsE 0 a (bE C "NoRow")) (aCons (wIsE 0 a (bE C "NoRun")) (aCons (wIsE 0 a (bE C "NoTale")) aNil)))))))
  (sRet (wUp (w2 gAdd (wVar 1) (wLst (aCons (wIsE 0 a (bE C "NoText")) (aCons (wIsE 0 a (bE C "NotEnded")) aNil)))))))))

theorem sem__law_kinds (C : Str) (a : Addr) (Pd : D → Prop) (h : spKinds C Pd) : w__law_kinds C a (some (.ref a) :: List.replicate (["_law_error", "_law_found"].length - 1) none) (outsOf Pd fun _ => False) := by
  obtain ⟨_, h⟩ := h
  simp [w__law_kinds]
  refine ⟨szN (by decide), szN (by decide), szN (by decide), ?_⟩
  simpa [bits] using h
def bitsB (C : Str) : List Bool := (["NoGap", "TooGreat", "ValueError", "NoMove", "NoName", "NoOrder", "NoRow", "NoRun", "NoTale", "NoText", "NotEnded"] : List Str).map (bE C)
theorem bits_B (C : Str) : bits C = (bitsB C).map D.bl := by simp [bits, bitsB]
theorem kinds_found (bs : List Bool) (hb : bs.length ≤ 1000) (ρ : Ev) (k : List D → Prop) (h3 : ρ[3]? = some (some (.lst true (bs.map D.bl)))) (hl : 5 < ρ.length) (h : k (((List.range bs.length).filter fun j => bs[j]?.getD false).map fun (j : Nat) => encI j)) :
    lcL (.nm 5) (tV (wIx (wVar 3) (wVar 5))) (wF (wVar 5)) ρ (rngD 0 bs.length) [] k := by
  rw [rngD_0]
  refine lcL_ok (fun j : Nat => D.int (j : Int)) (fun j => bs[j]?.getD false) (fun (j : Nat) => encI j) _ [] (fun j mj => ⟨_, rfl, fun Pb q => ?_, fun _ P q => ?_⟩) (by simpa using szN (by omega)) (by simpa using h)
  · have hj : j < bs.length := List.mem_range.mp mj
    have g3 : (ρ.set 5 (some (.int (j : Int))))[3]? = some (some (.lst true (bs.map D.bl))) := by rw [List.getElem?_set_ne (by decide)]; exact h3
    have g5 : (ρ.set 5 (some (.int (j : Int))))[5]? = some (some (.int (j : Int))) := by rw [List.getElem?_set_self hl]
    simp only [tV_s, wIx_s, wVar_s, g3, g5, gIx_s, ixD_lst, atI_cast, List.getElem?_map, List.getElem?_eq_getElem hj, Option.map_some]
    rw [List.getElem?_eq_getElem hj] at q
    exact q
  · have g5 : (ρ.set 5 (some (.int (j : Int))))[5]? = some (some (.int (j : Int))) := by rw [List.getElem?_set_self hl]
    simp only [wF_s, wVar_s, g5]
    exact ⟨rfl, q⟩

-- _law_refusal: 0 _law_program, 1 _law_some, 2 _law_way, 3 _law_found, 4 _law_error, 5 _law_k
def w__law_refusal : WS := (sSeq (sAsg (.nm 3) (wUp (wLst aNil)))
  (sSeq (sTry exmL 4 (sIf (tV (w2 gEq (wVar 2) (wC (.int 3)))) (sDrop (wUp (wCall sp_fenced [] (aCons (wVar 0) (aCons (wVar 1) aNil)))))
  (sIf (tV (w2 gEq (wVar 2) (wC (.int 2)))) (sDrop (wUp (wCall sp_shows [.int 2] (aCons (wVar 0) (aCons (wVar 1) aNil)))))
  (sDrop (wUp (wCall sp_shows [] (aCons (wVar 0) (aCons (wVar 1) (aCons (wVar 2) aNil)))))))) (fun a C => (sAsg (.nm 3) (wUp (wCallE 4 a (spKinds C))))))
  (sRet (wUp (wLc (.nm 5) (iR1 (aCons (wBi gLen (aCons (wVar 3) aNil)) aNil)) [5] (tV (wIx (wVar 3) (wVar 5))) (wF (wVar 5)))))))

theorem sem__law_refusal (ds : List D) (P : D → Prop) (E : Ex → Prop) (hf : isFs ds = true) (h : sp__law_refusal ds P E) : w__law_refusal (ds.map some ++ List.replicate (["_law_program", "_law_some", "_law_way", "_law_found", "_law_error", "_law_k"].length - ds.length) none) (outsOf P E) := by
  obtain ⟨p, ss, way, rfl, hp, hss, hc, h⟩ := h
  have exG : exmL "NoGap" = some true := by decide +kernel
  have exT : exmL "TooGreat" = some true := by decide +kernel
  have inG : ("NoGap" : Str) ∈ exTab := by decide +kernel
  have inT : ("TooGreat" : Str) ∈ exTab := by decide +kernel
  have bG : bitsB "NoGap" = [true, false, true, false, false, false, false, false, false, false, false] := by decide +kernel
  have bT : bitsB "TooGreat" = [false, true, true, false, false, false, false, false, false, false, false] := by decide +kernel
  have tl : ∃ tl : WS, tl = sRet (wUp (wLc (.nm 5) (iR1 (aCons (wBi gLen (aCons (wVar 3) aNil)) aNil)) [5] (tV (wIx (wVar 3) (wVar 5))) (wF (wVar 5)))) ∧ ∀ (bs : List Bool) (o : Option D), bs.length ≤ 1000 →
      (((List.range bs.length).filter fun j => bs[j]?.getD false).map fun (j : Nat) => encI j) = (refOf p ss way).map encI → tl [some (encP p), some (encSs ss), some (.int way), some (.lst true (bs.map D.bl)), o, none] (outsOf P E) := by
    refine ⟨_, rfl, fun bs o hb e => ?_⟩
    simp
    refine ⟨by omega, kinds_found bs hb _ _ rfl (by simp) ?_⟩
    rw [e]; exact h
  obtain ⟨tl, etl, htl⟩ := tl
  have g0 : fencedOf p ss = none → spKinds "NoGap" fun d => tl [some (encP p), some (encSs ss), some (.int way), some d, none, none] (outsOf P E) := fun e => ⟨inG, by
    rw [bits_B, bG]
    exact htl [true, false, true, false, false, false, false, false, false, false, false] none (by decide) (by unfold refOf; rw [e]; rfl)⟩
  have g1 : fencedOf p ss ≠ none → way ≠ 3 → spKinds "TooGreat" fun d => tl [some (encP p), some (encSs ss), some (.int way), some d, none, none] (outsOf P E) := fun e1 e2 => ⟨inT, by
    rw [bits_B, bT]
    refine htl [false, true, true, false, false, false, false, false, false, false, false] none (by decide) ?_
    unfold refOf
    cases hf : fencedOf p ss with
    | none => exact absurd hf e1
    | some q =>
      show _ = (if way = 3 then [] else [1, 2]).map encI
      rw [if_neg e2]; rfl⟩
  have small : way ≠ 3 → fencedOf p ss ≠ none → smallOf p = false := fun e1 e2 => by
    rcases hc with z | z | z
    · exact absurd z e1
    · exact z
    · exact absurd z e2
  unfold w__law_refusal
  rw [← etl]
  by_cases w3 : way = 3
  · simp [w3]
    refine ⟨p, ss, by simp, hp, hss, ?_⟩
    cases hff : fencedOf p ss with
    | none =>
      simp [exG]
      rw [w3] at g0
      exact g0 hff
    | some q =>
      simp
      have e : (((List.range ([] : List Bool).length).filter fun j => ([] : List Bool)[j]?.getD false).map fun (j : Nat) => encI j) = (refOf p ss way).map encI := by unfold refOf; rw [hff, w3]; rfl
      have z := htl [] none (by decide) e
      rw [w3] at z
      exact z
  · by_cases w2 : way = 2
    · simp [w2]
      refine ⟨p, ss, .int 2, by simp, hp, hss, ?_⟩
      cases hff : fencedOf p ss with
      | none =>
        simp [exG]
        rw [w2] at g0
        exact g0 hff
      | some q =>
        simp [exT]
        refine ⟨small w3 (by rw [hff]; simp), ?_⟩
        have z := g1 (by rw [hff]; simp) w3
        rw [w2] at z
        exact z
    · simp [w2, w3]
      refine ⟨p, ss, .int way, by simp, hp, hss, ?_⟩
      cases hff : fencedOf p ss with
      | none =>
        simp [exG]
        exact g0 hff
      | some q =>
        simp [exT]
        exact ⟨small w3 (by rw [hff]; simp), g1 (by rw [hff]; simp) w3⟩

theorem gap_iff (p : Pg) (g : Pt) (h : g ∈ gapsOf p) : ∃ (i k : Nat) (x : Hd), g = ((i : Int), (k : Int)) ∧ p[i]? = some x ∧ 0 < k ∧ k < manyOf x := by
  unfold gapsOf pointsOf at h
  rw [List.mem_filter, List.mem_flatMap] at h
  obtain ⟨⟨⟨x, i⟩, hq, hk⟩, h0⟩ := h
  obtain ⟨k, hk2, rfl⟩ := List.mem_map.mp hk
  have hz := List.mem_zipIdx hq
  refine ⟨i, k, x, rfl, ?_, by simpa using h0, List.mem_range.mp hk2⟩
  rw [List.getElem?_eq_getElem (by omega)]
  simp [hz.2.2]

-- _law_no_stop: 0 _law_program, 1 _law_some, 2 _law_x, 3 _law_h, 4 _law_far, 5 _law_size, 6 _law_gap, 7 _law_way, 8 _law_deed_here
def w__law_no_stop : WS := (sSeq (sAsg (.nm 3) (wUp (w2 gMod (wVar 2) (wBi gLen (aCons (wVar 0) aNil)))))
  (sSeq (sAsg (.nm 4) (wUp (wIx (wLst (aCons (wC (.int 0)) (aCons (w2 gMod (w2 gDiv (wVar 2) (wC (.int 7776))) (w2 gPow (wC (.int 10)) (wC (.int 9)))) aNil))) (w2 gMod (w2 gDiv (wVar 2) (wC (.int 6))) (wC (.int 2))))))
  (sSeq (sAsg (.nm 5) (wUp (wBi gLen (aCons (wLc (.nm 8) (iLst (wF (wIx (wVar 0) (wVar 3)))) [8] (tV (w2 gIsNot (wCall sp__law_place [] (aCons (wVar 8) aNil)) (wC .non))) (wF (wVar 8))) aNil))))
  (sSeq (sAsg (.nm 6) (wUp (wTup (aCons (wF (wVar 3)) (aCons (wC (.int 0)) aNil)))))
  (sSeq (sAsg (.nm 7) (wUp (w2 gMod (w2 gDiv (wVar 2) (wC (.int 12))) (wC (.int 6)))))
  (sSeq (sIf (tV (w2 gEq (wVar 7) (wC (.int 0)))) (sAsg (.nm 6) (wUp (wTup (aCons (w2 gAdd (wBi gLen (aCons (wVar 0) aNil)) (wVar 4)) (aCons (wC (.int 1)) aNil)))))
  sNil)
  (sSeq (sIf (tV (w2 gEq (wVar 7) (wC (.int 1)))) (sAsg (.nm 6) (wUp (wTup (aCons (w2 gSub (wU (fun i => -i) (wC (.int 1))) (wVar 4)) (aCons (wC (.int 1)) aNil)))))
  sNil)
  (sSeq (sIf (tV (w2 gEq (wVar 7) (wC (.int 2)))) (sAsg (.nm 6) (wUp (wTup (aCons (wF (wVar 3)) (aCons (w2 gAdd (wBi gMax2 (aCons (wC (.int 1)) (aCons (wVar 5) aNil))) (wVar 4)) aNil)))))
  sNil)
  (sSeq (sIf (tV (w2 gEq (wVar 7) (wC (.int 3)))) (sAsg (.nm 6) (wUp (wTup (aCons (wF (wVar 3)) (aCons (w2 gSub (wU (fun i => -i) (wC (.int 1))) (wVar 4)) aNil)))))
  sNil)
  (sSeq (sIf (tAn (tV (w2 gEq (wVar 7) (wC (.int 4)))) (tV (w2 gNe (wVar 1) (wLst aNil)))) (sAsg (.nm 6) (wUp (wSl (wIx (wVar 1) (w2 gMod (w2 gDiv (wVar 2) (wC (.int 72))) (wBi gLen (aCons (wVar 1) aNil)))) oN (oS (wC (.int 2))))))
  sNil)
  (sRet (wUp (wTup (aCons (wF (wIx (wVar 6) (wC (.int 0)))) (aCons (wF (wIx (wVar 6) (wC (.int 1)))) (aCons (wIx (wLst (aCons (wC (.str "fence")) (aCons (wC (.str "bar")) aNil))) (w2 gMod (w2 gDiv (wVar 2) (wC (.int 1296))) (wC (.int 2)))) aNil))))))))))))))))

theorem sem__law_no_stop (ds : List D) (P : D → Prop) (E : Ex → Prop) (hf : isFs ds = true) (h : sp__law_no_stop ds P E) : w__law_no_stop (ds.map some ++ List.replicate (["_law_program", "_law_some", "_law_x", "_law_h", "_law_far", "_law_size", "_law_gap", "_law_way", "_law_deed_here"].length - ds.length) none) (outsOf P E) := by
  obtain ⟨p, ss, x, rfl, hp, hp1, hss, hx, h⟩ := h
  have hpl := hp.1
  have rh := emod_lt (x := x) (n := (p.length : Int)) (by omega)
  obtain ⟨n, hn, hnl⟩ : ∃ n : Nat, x % (p.length : Int) = (n : Int) ∧ n < p.length := ⟨(x % (p.length : Int)).toNat, by omega, by omega⟩
  obtain ⟨far, hfar, hf0⟩ : ∃ far : Int, atI [D.int 0, D.int (x / 7776 % 1000000000)] (x / 6 % 2) = some (.int far) ∧ 0 ≤ far := by
    rcases two (a := .int 0) (b := .int (x / 7776 % 1000000000)) (i := x / 6 % 2) (emod_lt (by decide)).1 (emod_lt (by decide)).2 with e | e
    · exact ⟨0, e, by decide⟩
    · exact ⟨_, e, (emod_lt (by decide)).1⟩
  obtain ⟨wb, hwb⟩ := word2 (i := x / 1296 % 2) (emod_lt (by decide)).1 (emod_lt (by decide)).2
  have d1 : CDiv x 7776 := ⟨by decide, by decide⟩
  have d2 : CDiv x 6 := ⟨by decide, by decide⟩
  have d3 : CDiv x 12 := ⟨by decide, by decide⟩
  have d4 : CDiv x 1296 := ⟨by decide, by decide⟩
  have d5 : CDiv x 72 := ⟨by decide, by decide⟩
  have hxn : p[n]? = some p[n] := List.getElem?_eq_getElem hnl
  have hxl : (p[n]).length ≤ 1000 := hand_le hp (List.getElem_mem hnl)
  have hml := many_le p[n]
  have base : ∀ g : Pt, g ∉ gapsOf p → P (D.tup [.int g.1, .int g.2, .str (wd wb)]) := fun g hg => h g wb (.inl hg)
  have notgap : ∀ g : Pt, (g.1 < 0 ∨ (p.length : Int) ≤ g.1 ∨ g.2 ≤ 0 ∨ (g.1 = (n : Int) ∧ ((manyOf p[n] : Nat) : Int) ≤ g.2)) → g ∉ gapsOf p := fun g hg hm => by
    obtain ⟨i, k, y, rfl, h1, h2, h3⟩ := gap_iff p g hm
    have hi := (List.getElem?_eq_some_iff.mp h1).1
    simp only at hg
    rcases hg with z | z | z | ⟨z1, z2⟩
    · omega
    · omega
    · omega
    · have e : i = n := by omega
      subst e
      rw [hxn] at h1
      cases h1
      omega
  have rw6 := emod_lt (x := x / 12) (n := 6) (by decide)
  simp [w__law_no_stop, encP, hn, hfar, d1, d2, hxn]
  refine ⟨by omega, c0910, ?_⟩
  refine lcL_ok enD (fun d => (placeOf d).isSome) enD p[n] [] (fun d _ => ⟨_, rfl, fun Pb q => ?_, fun _ P q => ?_⟩) (by simpa using szN (by omega)) ?_
  · simp
    exact ⟨d, rfl, by simpa using q⟩
  · simpa using q
  have hm : (((p[n]).filter fun d => (placeOf d).isSome).length : Nat) = manyOf p[n] := rfl
  have zero : ((n : Int), (0 : Int)) ∉ gapsOf p := notgap _ (.inr (.inr (.inl (Int.le_refl 0))))
  have cases6 : x / 12 % 6 = 0 ∨ x / 12 % 6 = 1 ∨ x / 12 % 6 = 2 ∨ x / 12 % 6 = 3 ∨ x / 12 % 6 = 4 ∨ x / 12 % 6 = 5 := by omega
  rcases cases6 with c | c | c | c | c | c
  · simp [c, d3, d4, hwb]
    exact base ((p.length : Int) + far, 1) (notgap _ (.inr (.inl (by show (p.length : Int) ≤ (p.length : Int) + far; omega))))
  · simp [c, d3, d4, hwb]
    exact base (-1 - far, 1) (notgap _ (.inl (by show (-1 - far : Int) < 0; omega)))
  · simp [c, d3, d4, hwb, hm]
    refine base ((n : Int), _) (notgap _ (.inr (.inr (.inr ⟨rfl, ?_⟩))))
    show ((manyOf p[n] : Nat) : Int) ≤ _ + far
    split <;> omega
  · simp [c, d3, d4, hwb]
    exact base ((n : Int), -1 - far) (notgap _ (.inr (.inr (.inl (by show (-1 - far : Int) ≤ 0; omega)))))
  · simp [c, d3, d4, d5, hwb, encSs]
    cases ss with
    | nil =>
      simp
      exact base ((n : Int), 0) zero
    | cons s r =>
      have rr := emod_lt (x := x / 72) (n := (((s :: r).length : Nat) : Int)) (by simp)
      obtain ⟨q, hq, hqm⟩ := atI_map encS (xs := s :: r) rr.1 rr.2
      simp at hq
      have hif : isFs (r.map encS) = true := isFs_of_map _ (fun _ => rfl) _
      have hcm : cmpsD 59 (r.map encS) = true := cmps_of_map _ _ (fun q => by simp [encS]) _
      simp [hcm, encS]
      have hq' : atI (D.tup [D.int s.1.1, D.int s.1.2, D.str (wd s.2)] :: r.map encS) (x / 72 % ((r.length : Int) + 1)) = some (encS q) := hq
      rw [hq']
      simp [encS, gSl, cut2]
      exact h q.1 wb (.inr (List.mem_map.mpr ⟨q, hqm, rfl⟩))
  · simp [c, d3, d4, hwb]
    exact base ((n : Int), 0) zero

-- _law_is_small: 0 _law_program, 1 _law_many, 2 _law_size, 3 _law_hand, 4 _law_gap, 5 _law_deed_here
def w__law_is_small : WS := (sSeq (sAsg (.nm 1) (wUp (wLc (.nm 3) (iLst (wF (wVar 0))) [3] tTrue (wBi gLen (aCons (wVar 3) aNil)))))
  (sSeq (sAsg (.nm 2) (wUp (wBi gLen (aCons (wLc (.nm 4) (iLst (wCall sp__law_gaps [] (aCons (wVar 0) aNil))) [4] tTrue (wF (wVar 4))) aNil))))
  (sSeq (sFor (.nm 3) (iLst (wF (wVar 0)))
  (sAsg (.nm 2) (wUp (w2 gAdd (wVar 2) (wBi gIntB (aCons (w2 gNe (wLc (.nm 5) (iLst (wF (wVar 3))) [5] (tV (w2 gIsNot (wCall sp__law_place [] (aCons (wVar 5) aNil)) (wC .non))) (wF (wVar 5))) (wLst aNil)) aNil))))))
  (sRet (wUp (wAn (w2 gLe (wBi gLen (aCons (wVar 0) aNil)) (wC (.int 4))) (wAn (w2 gLe (wVar 2) (wC (.int 6))) (w2 gLe (wBi gSum (aCons (wVar 1) aNil)) (wC (.int 12))))))))))

theorem sem__law_is_small (ds : List D) (P : D → Prop) (E : Ex → Prop) (hf : isFs ds = true) (h : sp__law_is_small ds P E) : w__law_is_small (ds.map some ++ List.replicate (["_law_program", "_law_many", "_law_size", "_law_hand", "_law_gap", "_law_deed_here"].length - ds.length) none) (outsOf P E) := by
  obtain ⟨p, rfl, hp, h⟩ := h
  have hp1 := hp.1
  have tot := points_len p hp
  have hgl := gaps_len p hp
  have count : ∀ (q : Pg) (n : Nat), (((q.zipIdx n).flatMap fun q => (List.range (manyOf q.1)).map fun (k : Nat) => ((q.2 : Int), (k : Int))).filter (fun q => decide (0 < q.2))).length + (q.filter fun h => decide (0 < manyOf h)).length = ((q.zipIdx n).flatMap fun q => (List.range (manyOf q.1)).map fun (k : Nat) => ((q.2 : Int), (k : Int))).length := by
    intro q
    induction q with
    | nil => intro n; rfl
    | cons y r ih =>
      intro n
      have := ih (n + 1)
      rw [List.zipIdx_cons, List.flatMap_cons, List.filter_append, List.length_append, List.length_append, List.filter_cons]
      generalize ((r.zipIdx (n + 1)).flatMap fun q => (List.range (manyOf q.1)).map fun (k : Nat) => ((q.2 : Int), (k : Int))) = A at this ⊢
      cases hm : manyOf y with
      | zero => simp [hm]; omega
      | succ j =>
        have e1 : (((List.range (j + 1)).map fun (k : Nat) => ((n : Int), (k : Int))).filter fun q => decide (0 < q.2)).length = j := by
          rw [List.range_succ_eq_map, List.map_cons, List.filter_cons]
          simp
          rw [List.filter_eq_self.mpr]
          · simp
          · intro z hz
            obtain ⟨k, _, rfl⟩ := List.mem_map.mp hz
            simp
        show (List.filter (fun q => decide (0 < q.2)) (List.map (fun (k : Nat) => ((n : Int), (k : Int))) (List.range (j + 1)))).length + _ + _ = _
        rw [e1]
        simp
        omega
  have cnt : (gapsOf p).length + (p.filter fun h => decide (0 < manyOf h)).length = (pointsOf p).length := count p 0
  have hi : ∀ p : Pg, intsD (p.map fun h => D.int (h.length : Int)) = some (p.map fun h => (h.length : Int)) := by
    intro p
    induction p with
    | nil => rfl
    | cons x r ih =>
      show (intsD (r.map fun h => D.int (h.length : Int))).map (((x.length : Nat) : Int) :: ·) = _
      rw [ih]; rfl
  have hc : ∀ p : Pg, (p.map fun h => (h.length : Int)).sum = ((sumOf p : Nat) : Int) := by
    intro p
    induction p with
    | nil => rfl
    | cons x r ih =>
      rw [List.map_cons, List.sum_cons, ih]
      simp [sumOf]
  simp [w__law_is_small]
  refine lcL_map encH (fun h => D.int (h.length : Int)) p (fun x _ => ⟨_, rfl, fun P q => by simpa [encH] using q⟩) (szN (by omega)) ?_
  refine ⟨p, by simp, hp, ?_⟩
  simp
  refine lcL_map encPt encPt (gapsOf p) (fun x _ => ⟨_, rfl, fun P q => by simpa using q⟩) (szN (by omega)) ?_
  simp
  refine forL_ind encH (fun rest ρ => (∀ q ∈ rest, q.length ≤ 1000) ∧ ∃ (m : Nat) (o : Option D), m + (rest.filter fun h => decide (0 < manyOf h)).length = (pointsOf p).length ∧ ρ = [some (encP p), some (.lst true (p.map fun h => D.int (h.length : Int))), some (.int m), o, none, none]) ?_ ?_ p _ ⟨fun q mq => hand_le hp mq, (gapsOf p).length, none, cnt, rfl⟩
  · rintro y rest ρ ⟨hl, m, o, hm, rfl⟩
    have hy : y.length ≤ 1000 := hl y List.mem_cons_self
    refine ⟨_, rfl, fun nx hnx => ?_⟩
    simp
    refine lcL_ok enD (fun d => (placeOf d).isSome) enD y [] (fun d _ => ⟨_, rfl, fun Pb q => ?_, fun _ P q => ?_⟩) (by simpa using szN (by omega)) ?_
    · simp
      exact ⟨d, rfl, by simpa using q⟩
    · simpa using q
    · have hcm : cmpsD 59 ((y.filter fun d => (placeOf d).isSome).map enD) = true := cmps_of_map _ _ (fun d => by cases d <;> simp [enD, encG] <;> split <;> simp) _
      have hm2 : ((y.filter fun d => (placeOf d).isSome).length : Nat) = manyOf y := rfl
      rw [List.filter_cons] at hm
      cases hz : (y.filter fun d => (placeOf d).isSome) with
      | nil =>
        rw [hz] at hm2
        have m0 : manyOf y = 0 := hm2.symm
        rw [m0] at hm
        simp
        exact hnx _ ⟨fun q mq => hl q (List.mem_cons_of_mem _ mq), m, some (encH y), by simpa using hm, rfl⟩
      | cons d r =>
        rw [hz] at hm2 hcm
        have m0 : 0 < manyOf y := by rw [← hm2]; simp
        rw [if_pos (by simpa using m0)] at hm
        simp only [List.length_cons] at hm
        simp [hcm] at hcm ⊢
        simp [hcm]
        refine hnx _ ⟨fun q mq => hl q (List.mem_cons_of_mem _ mq), m + 1, some (encH y), by omega, rfl⟩
  · rintro ρ ⟨_, m, o, hm, rfl⟩
    have hm' : m = (pointsOf p).length := by simpa using hm
    subst hm'
    simp [encP, gSum, hi, hc]
    have e4 : smallOf p = (decide (p.length ≤ 4) && (decide ((pointsOf p).length ≤ 6) && decide (sumOf p ≤ 12))) := by
      unfold smallOf
      rw [Bool.eq_iff_iff]
      simp
      omega
    rw [e4] at h
    have c1 : decide (((p.length : Nat) : Int) ≤ 4) = decide (p.length ≤ 4) := by rw [Bool.eq_iff_iff]; simp; omega
    have c2 : decide ((((pointsOf p).length : Nat) : Int) ≤ 6) = decide ((pointsOf p).length ≤ 6) := by rw [Bool.eq_iff_iff]; simp; omega
    have c3 : decide (((sumOf p : Nat) : Int) ≤ 12) = decide (sumOf p ≤ 12) := by rw [Bool.eq_iff_iff]; simp; omega
    rw [c1, c2, c3]
    revert h
    cases decide (p.length ≤ 4) <;> cases decide ((pointsOf p).length ≤ 6) <;> intro h <;> exact h

theorem enD_self (d : Dd) : eqvD (enD d) (enD d) = true := by
  have hg : ∀ g : Gd, eqvD (encG g) (encG g) = true := fun g => by cases g <;> simp [encG]
  cases d <;> simp [enD, hg]
theorem enDs_self (h : Hd) : eqvsD (h.map enD) (h.map enD) = true := by
  induction h with
  | nil => rfl
  | cons x r ih => simp [enD_self, ih]
theorem PO_P (p : Pg) : eqvsD (p.map fun h => D.lst true (h.map enD)) (p.map encH) = true := by
  induction p with
  | nil => rfl
  | cons x r ih => simp [encH, enDs_self, ih]
theorem PO_PO (p : Pg) : eqvsD (p.map fun h => D.lst true (h.map enD)) (p.map fun h => D.lst true (h.map enD)) = true := by
  induction p with
  | nil => rfl
  | cons x r ih => simp [enDs_self, ih]
theorem encS_self (ss : List Stp) : eqvsD (ss.map encS) (ss.map encS) = true := by
  induction ss with
  | nil => rfl
  | cons x r ih => simp [encS, ih]
theorem cmp_enD (n : Nat) (d : Dd) : cmpD (n + 2) (enD d) = true := by
  have hg : ∀ (m : Nat) (g : Gd), cmpD (m + 1) (encG g) = true := fun m g => by cases g <;> simp [encG]
  cases d <;> simp [enD, hg]
theorem cmp_enDs (n : Nat) (h : Hd) : cmpsD (n + 2) (h.map enD) = true := cmps_of_map _ _ (cmp_enD n) h
theorem cmp_PO (n : Nat) (p : Pg) : cmpsD (n + 3) (p.map fun h => D.lst true (h.map enD)) = true := cmps_of_map _ _ (fun h => by simp [cmp_enDs]) p
theorem cmp_P (n : Nat) (p : Pg) : cmpsD (n + 3) (p.map encH) = true := cmps_of_map _ _ (fun h => by simp [encH, cmp_enDs]) p
theorem cmp_S (n : Nat) (ss : List Stp) : cmpsD (n + 1) (ss.map encS) = true := cmps_of_map _ _ (fun h => by simp [encS]) ss
/-! ### the plain law -/
theorem nodup_len {α : Type} [BEq α] [LawfulBEq α] : ∀ {l m : List α}, l.Nodup → (∀ x ∈ l, x ∈ m) → l.length ≤ m.length
  | [], m, _, _ => Nat.zero_le _
  | x :: r, m, hn, h => by
    have h2 := List.nodup_cons.mp hn
    have h1 : x ∈ m := h x List.mem_cons_self
    have h3 := nodup_len (l := r) (m := m.erase x) h2.2 fun y my => (List.mem_erase_of_ne (fun e => h2.1 (by rw [← e]; exact my))).mpr (h y (List.mem_cons_of_mem _ my))
    have h4 := List.length_erase_of_mem h1
    have h5 : 0 < m.length := List.length_pos_of_mem h1
    rw [List.length_cons]
    omega
theorem words_ok : ∀ (ss : List Stp) (free : List Pt) (ws : List Stp), free.Nodup → (ss.map (·.1)).Nodup → (∀ s ∈ ss, s.1 ∈ free) → wordsGo free ws ss = some (ws ++ ss)
  | [], free, ws, _, _, _ => by simp [wordsGo]
  | s :: r, free, ws, hn, hd, hm => by
    have h1 : s.1 ∈ free := hm s List.mem_cons_self
    have h2 : s.1 ∉ r.map (·.1) ∧ (r.map (·.1)).Nodup := List.nodup_cons.mp hd
    rw [wordsGo, if_pos h1, words_ok r _ _ (hn.erase _) h2.2 fun q mq => ?_]
    · simp
    · refine (List.mem_erase_of_ne ?_).mpr (hm q (List.mem_cons_of_mem _ mq))
      intro e
      exact h2.1 (by rw [← e]; exact List.mem_map.mpr ⟨q, mq, rfl⟩)
theorem words_some : ∀ (ss : List Stp) (free : List Pt) (ws r : List Stp), free.Nodup → wordsGo free ws ss = some r → (ss.map (·.1)).Nodup ∧ ∀ s ∈ ss, s.1 ∈ free
  | [], _, _, _, _, _ => ⟨by simp, fun s m => nomatch m⟩
  | s :: t, free, ws, r, hn, h => by
    rw [wordsGo] at h
    by_cases h1 : s.1 ∈ free
    · rw [if_pos h1] at h
      obtain ⟨h2, h3⟩ := words_some t _ _ r (hn.erase _) h
      refine ⟨List.nodup_cons.mpr ⟨fun z => ?_, h2⟩, fun q mq => ?_⟩
      · obtain ⟨q, hq, e⟩ := List.mem_map.mp z
        have := h3 q hq
        rw [show q.1 = s.1 from e] at this
        exact hn.not_mem_erase this
      · rcases List.mem_cons.mp mq with e | mq
        · rw [e]; exact h1
        · exact List.mem_of_mem_erase (h3 q mq)
    · rw [if_neg h1] at h; cases h
theorem filter_word {ss : List Stp} (hd : (ss.map (·.1)).Nodup) (q : Pt) : (ss.filter fun s => decide (s.1 = q)).map (fun s => stopD s.2) = match wordAt ss q with | some b => [stopD b] | none => [] := by
  induction ss with
  | nil => rfl
  | cons s r ih =>
    have h2 : s.1 ∉ r.map (·.1) ∧ (r.map (·.1)).Nodup := List.nodup_cons.mp hd
    rw [List.filter_cons]
    unfold wordAt at ih ⊢
    rw [List.find?_cons]
    by_cases e : s.1 = q
    · have hnil : (r.filter fun s => decide (s.1 = q)) = [] := by
        rw [List.filter_eq_nil_iff]
        intro t mt z
        exact h2.1 (by rw [e, ← of_decide_eq_true z]; exact List.mem_map.mpr ⟨t, mt, rfl⟩)
      simp [e, hnil]
    · simp [e]
      exact ih h2.2
theorem lawHand_eq {ss : List Stp} (hd : (ss.map (·.1)).Nodup) (h : Int) : ∀ (x : Hd) (k : Int), lawHand ss h k x = handGo h ss k x
  | [], _ => rfl
  | d :: r, k => by
    rw [lawHand, handGo]
    split
    · rw [filter_word hd, lawHand_eq hd h r (k + 1)]
      cases wordAt ss (h, k) <;> rfl
    · rw [lawHand_eq hd h r k]

-- law: 0 _law_script, 1 _law_head, 2 _law_turn, 3 _law_many, 4 _law_program, 5 _law_some, 6 _law_x, 7 _law_spoiled, 8 _law_way, 9 _law_handed, 10 _law_hand
def w_law : WS := (sSeq (sAsg (.nm 1) (wUp (wCall sp__law_draw [] (aCons (wVar 0) (aCons (wC (.int 0)) aNil)))))
  (sSeq (sAsg (.nm 2) (wUp (w2 gMod (w2 gMul (wVar 1) (wC (.int 69621))) (wC (.int 2147483587)))))
  (sSeq (sAsg (.nm 3) (wUp (w2 gAdd (wC (.int 6)) (w2 gMod (wVar 2) (wC (.int 11))))))
  (sSeq (sIf (tV (w2 gEq (w2 gMod (w2 gDiv (wVar 2) (wC (.int 11))) (wC (.int 8))) (wC (.int 5)))) (sAsg (.nm 3) (wUp (w2 gAdd (wC (.int 17)) (w2 gMod (w2 gDiv (wVar 2) (wC (.int 88))) (wC (.int 24))))))
  sNil)
  (sSeq (sIf (tV (w2 gEq (w2 gMod (w2 gDiv (wVar 2) (wC (.int 11))) (wC (.int 8))) (wC (.int 6)))) (sAsg (.nm 3) (wUp (w2 gMod (w2 gDiv (wVar 2) (wC (.int 88))) (wC (.int 6)))))
  sNil)
  (sSeq (sAsg (.nm 4) (wUp (wCall sp__law_long [] (aCons (wVar 0) (aCons (wVar 3) aNil)))))
  (sSeq (sAsg (.nm 5) (wUp (wCall sp__law_stops [] (aCons (wVar 4) (aCons (wVar 0) (aCons (w2 gAdd (wC (.int 2)) (wVar 3)) aNil))))))
  (sSeq (sAsg (.nm 6) (wUp (wCall sp__law_draw [] (aCons (wVar 0) (aCons (w2 gAdd (w2 gAdd (wC (.int 2)) (wVar 3)) (wBi gLen (aCons (wCall sp__law_gaps [] (aCons (wVar 4) aNil)) aNil))) aNil)))))
  (sSeq (sAsg (.nm 7) (wUp (wBi gList (aCons (wVar 5) aNil))))
  (sSeq (sDrop (wLm mIns (pVar 7) (aCons (w2 gMod (w2 gDiv (wVar 6) (wC (.int 2592))) (w2 gAdd (wBi gLen (aCons (wVar 5) aNil)) (wC (.int 1)))) (aCons (wCall sp__law_no_stop [] (aCons (wVar 4) (aCons (wVar 5) (aCons (wVar 6) aNil)))) aNil))))
  (sSeq (sAsg (.nm 8) (wUp (w2 gMod (w2 gDiv (wVar 6) (wC (.int 104976))) (wC (.int 4)))))
  (sFrz 7 (sFrz 4 (sSeq (sAsg (.nm 9) (wUp (wLst (aCons (wLc (.nm 10) (iLst (wF (wVar 4))) [10] tTrue (wBi gList (aCons (wVar 10) aNil))) (aCons (wBi gList (aCons (wVar 7) aNil)) aNil)))))
  (sSeq (sIf (tO (tV (w2 gNe (wCall sp__law_refusal [] (aCons (wIx (wVar 9) (wC (.int 0))) (aCons (wIx (wVar 9) (wC (.int 1))) (aCons (wVar 8) aNil)))) (wLst (aCons (wC (.int 0)) (aCons (wC (.int 2)) aNil))))) (tV (w2 gNe (wVar 9) (wLst (aCons (wF (wVar 4)) (aCons (wF (wVar 7)) aNil)))))) (sRet (wUp (wC (.bl false))))
  sNil)
  (sSeq (sIf (tO (tV (w2 gNe (wCall sp__law_refusal [] (aCons (wIx (wVar 9) (wC (.int 0))) (aCons (wVar 5) (aCons (wC (.int 3)) aNil)))) (wLst aNil))) (tV (w2 gNe (wCall sp_fenced [] (aCons (wIx (wVar 9) (wC (.int 0))) (aCons (wVar 5) aNil))) (wCall sp__law_stopped [] (aCons (wVar 4) (aCons (wVar 5) aNil)))))) (sRet (wUp (wC (.bl false))))
  sNil)
  (sRet (wUp (wO (wCall sp__law_is_small [] (aCons (wVar 4) aNil)) (w2 gEq (wCall sp__law_refusal [] (aCons (wIx (wVar 9) (wC (.int 0))) (aCons (wVar 5) (aCons (w2 gMod (wVar 8) (wC (.int 3))) aNil)))) (wLst (aCons (wC (.int 1)) (aCons (wC (.int 2)) aNil)))))))))))))))))))))))

theorem sem_law (ds : List D) (P : D → Prop) (E : Ex → Prop) (hf : isFs ds = true) (h : sp_law ds P E) : w_law (ds.map some ++ List.replicate (["_law_script", "_law_head", "_law_turn", "_law_many", "_law_program", "_law_some", "_law_x", "_law_spoiled", "_law_way", "_law_handed", "_law_hand"].length - ds.length) none) (outsOf P E) := by
  obtain ⟨ns, rfl, hns, h⟩ := h
  have ret : ∀ b : Bool, b = true → P (.bl b) := fun b e => by rw [e]; exact h
  simp [w_law]
  refine ⟨ns, 0, by simp, by omega, fun head hh => ?_⟩
  simp
  refine ⟨cmR (by decide) (by decide), ?_⟩
  have t0 := emod_lt (x := head * 69621) (n := 2147483587) (by decide)
  generalize head * 69621 % 2147483587 = turn at t0 ⊢
  -- the number of deeds
  have rest : ∀ m : Nat, m ≤ 40 → (sSeq (sAsg (.nm 4) (wUp (wCall sp__law_long [] (aCons (wVar 0) (aCons (wVar 3) aNil)))))
  (sSeq (sAsg (.nm 5) (wUp (wCall sp__law_stops [] (aCons (wVar 4) (aCons (wVar 0) (aCons (w2 gAdd (wC (.int 2)) (wVar 3)) aNil))))))
  (sSeq (sAsg (.nm 6) (wUp (wCall sp__law_draw [] (aCons (wVar 0) (aCons (w2 gAdd (w2 gAdd (wC (.int 2)) (wVar 3)) (wBi gLen (aCons (wCall sp__law_gaps [] (aCons (wVar 4) aNil)) aNil))) aNil)))))
  (sSeq (sAsg (.nm 7) (wUp (wBi gList (aCons (wVar 5) aNil))))
  (sSeq (sDrop (wLm mIns (pVar 7) (aCons (w2 gMod (w2 gDiv (wVar 6) (wC (.int 2592))) (w2 gAdd (wBi gLen (aCons (wVar 5) aNil)) (wC (.int 1)))) (aCons (wCall sp__law_no_stop [] (aCons (wVar 4) (aCons (wVar 5) (aCons (wVar 6) aNil)))) aNil))))
  (sSeq (sAsg (.nm 8) (wUp (w2 gMod (w2 gDiv (wVar 6) (wC (.int 104976))) (wC (.int 4)))))
  (sFrz 7 (sFrz 4 (sSeq (sAsg (.nm 9) (wUp (wLst (aCons (wLc (.nm 10) (iLst (wF (wVar 4))) [10] tTrue (wBi gList (aCons (wVar 10) aNil))) (aCons (wBi gList (aCons (wVar 7) aNil)) aNil)))))
  (sSeq (sIf (tO (tV (w2 gNe (wCall sp__law_refusal [] (aCons (wIx (wVar 9) (wC (.int 0))) (aCons (wIx (wVar 9) (wC (.int 1))) (aCons (wVar 8) aNil)))) (wLst (aCons (wC (.int 0)) (aCons (wC (.int 2)) aNil))))) (tV (w2 gNe (wVar 9) (wLst (aCons (wF (wVar 4)) (aCons (wF (wVar 7)) aNil)))))) (sRet (wUp (wC (.bl false))))
  sNil)
  (sSeq (sIf (tO (tV (w2 gNe (wCall sp__law_refusal [] (aCons (wIx (wVar 9) (wC (.int 0))) (aCons (wVar 5) (aCons (wC (.int 3)) aNil)))) (wLst aNil))) (tV (w2 gNe (wCall sp_fenced [] (aCons (wIx (wVar 9) (wC (.int 0))) (aCons (wVar 5) aNil))) (wCall sp__law_stopped [] (aCons (wVar 4) (aCons (wVar 5) aNil)))))) (sRet (wUp (wC (.bl false))))
  sNil)
  (sRet (wUp (wO (wCall sp__law_is_small [] (aCons (wVar 4) aNil)) (w2 gEq (wCall sp__law_refusal [] (aCons (wIx (wVar 9) (wC (.int 0))) (aCons (wVar 5) (aCons (w2 gMod (wVar 8) (wC (.int 3))) aNil)))) (wLst (aCons (wC (.int 1)) (aCons (wC (.int 2)) aNil)))))))))))))))))) [some (scrD ns), some (.int head), some (.int turn), some (.int m), none, none, none, none, none, none, none] (outsOf P E) := by
    intro m hm
    simp
    refine ⟨ns, m, by simp, hm, fun p hp1 hp6 hpm => ?_⟩
    have hfit : Fit p := ⟨by omega, by omega⟩
    have hgl : (gapsOf p).length ≤ 40 := Nat.le_trans (List.length_filter_le _ _) (Nat.le_trans (points_sum p) (by omega))
    simp
    refine ⟨p, ns, 2 + m, by simp, hfit, by omega, fun ss hnd hsg => ?_⟩
    have hssl : ss.length ≤ 40 := by
      have z := nodup_len hnd (m := gapsOf p) fun q mq => by
        obtain ⟨s, hs, e⟩ := List.mem_map.mp mq
        rw [← e]; exact hsg s hs
      rw [List.length_map] at z
      omega
    simp
    refine ⟨p, by simp, hfit, ?_⟩
    simp
    refine ⟨ns, 2 + m + (gapsOf p).length, by simp, by omega, fun x hx => ?_⟩
    simp
    refine ⟨⟨by decide, by decide⟩, p, ss, x, by simp [encSs], hfit, hp1, by omega, hx, fun g b hbad => ?_⟩
    have r1 := emod_lt (x := x / 2592) (n := (ss.length : Int) + 1) (by omega)
    refine ⟨rfl, ?_⟩
    show (ss.map encS).length < sizeLine ∧ 0 ≤ x / 2592 % ((ss.length : Int) + 1) ∧ x / 2592 % ((ss.length : Int) + 1) < 2 ^ 63 ∧ isF (encS (g, b)) = true ∧ _
    refine ⟨by rw [List.length_map]; exact szL (by omega), r1.1, by omega, rfl, ?_⟩
    rw [show (ss.map encS).take (x / 2592 % ((ss.length : Int) + 1)).toNat ++ [encS (g, b)] ++ (ss.map encS).drop (x / 2592 % ((ss.length : Int) + 1)).toNat = (ss.take (x / 2592 % ((ss.length : Int) + 1)).toNat ++ (g, b) :: ss.drop (x / 2592 % ((ss.length : Int) + 1)).toNat).map encS from by simp [List.map_take, List.map_drop]]
    generalize (x / 2592 % ((ss.length : Int) + 1)) = at_ at r1 ⊢
    refine ⟨⟨by decide, by decide⟩, ?_⟩
    have hway := emod_lt (x := x / 104976) (n := 4) (by decide)
    generalize x / 104976 % 4 = way at hway ⊢
    have hperm : (ss.take at_.toNat ++ (g, b) :: ss.drop at_.toNat).Perm ((g, b) :: ss) := by
      refine List.perm_middle.trans ?_
      rw [List.take_append_drop]
    generalize (ss.take at_.toNat ++ (g, b) :: ss.drop at_.toNat) = sp at hperm ⊢
    have hspl : sp.length ≤ 41 := by rw [hperm.length_eq]; simp; omega
    -- what is so
    have fbad : fencedOf p sp = none := by
      unfold fencedOf
      cases hw : wordsGo (gapsOf p) [] sp with
      | none => rfl
      | some r =>
        obtain ⟨h1, h2⟩ := words_some sp _ _ _ (gaps_nodup p) hw
        exfalso
        rcases hbad with hb | hb
        · exact hb (h2 (g, b) (hperm.mem_iff.mpr List.mem_cons_self))
        · have h3 := (hperm.map (·.1)).nodup_iff.mp h1
          rw [List.map_cons] at h3
          exact (List.nodup_cons.mp h3).1 hb
    have fgood : fencedOf p ss = some (p.zipIdx.map fun q => handGo q.2 ss 0 q.1) := by
      unfold fencedOf
      rw [words_ok ss (gapsOf p) [] (gaps_nodup p) hnd hsg]
      rfl
    have fstop : (p.zipIdx.map fun q => lawHand ss q.2 0 q.1) = (p.zipIdx.map fun q => handGo q.2 ss 0 q.1) := by
      apply List.map_congr_left
      intro q _
      exact lawHand_eq hnd q.2 q.1 0
    refine lcL_map encH (fun h => .lst true (h.map enD)) p (fun h _ => ⟨_, rfl, fun P z => by simpa [encH] using z⟩) (szN (by omega)) ?_
    have e1 : frzs (p.map fun h => D.lst true (h.map enD)) = p.map encH := frzs_PO p
    have eP : D.lst false (p.map encH) = encP p := rfl
    have eS : ∀ l : List Stp, D.lst false (l.map encS) = encSs l := fun _ => rfl
    simp [e1, eP, eS]
    refine ⟨p, sp, way, rfl, hfit, by omega, .inr (.inr fbad), ?_⟩
    have r0 : refOf p sp way = [0, 2] := by unfold refOf; rw [fbad]
    rw [r0]
    simp [encI, encP, cmp_PO, cmp_P, cmp_S, PO_P, encS_self]
    refine ⟨p, ss, 3, rfl, hfit, by omega, .inl rfl, ?_⟩
    have r3 : refOf p ss 3 = [] := by unfold refOf; rw [fgood]; rfl
    rw [r3]
    simp
    refine ⟨p, ss, rfl, hfit, by omega, ?_⟩
    have fsome : fencedOf p ss ≠ none := by rw [fgood]; simp
    generalize (p.zipIdx.map fun q => handGo q.2 ss 0 q.1) = fq at fgood fstop ⊢
    rw [fgood]
    have isO1 : ∀ q : Pg, isOs (q.map fun h => D.lst true (h.map enD)) = true := fun q => isOs_of_map _ (fun h => by simp) q
    simp [isO1]
    refine ⟨p, ss, rfl, hfit, by omega, ?_⟩
    rw [fstop]
    simp [encPO, isO1, cmp_PO, PO_PO]
    refine ⟨p, rfl, hfit, ?_⟩
    cases hsm : smallOf p with
    | true => exact h
    | false =>
      refine ⟨p, ss, way % 3, rfl, hfit, by omega, .inr (.inl hsm), ?_⟩
      have r12 : refOf p ss (way % 3) = [1, 2] := by
        unfold refOf
        have w3 : way % 3 ≠ 3 := by omega
        rw [fgood]
        show (if way % 3 = 3 then [] else [1, 2]) = _
        rw [if_neg w3]
      rw [r12]
      simp [encI]
      exact h
  by_cases c5 : turn / 11 % 8 = 5
  · have z := rest (17 + turn / 88 % 24).toNat (by omega)
    have e : (((17 + turn / 88 % 24).toNat : Nat) : Int) = 17 + turn / 88 % 24 := by omega
    rw [e] at z
    simp [c5]
    refine ⟨⟨by decide, by decide⟩, ⟨by decide, by decide⟩, ⟨by decide, by decide⟩, ?_⟩
    simpa using z
  · by_cases c6 : turn / 11 % 8 = 6
    · have z := rest (turn / 88 % 6).toNat (by omega)
      have e : (((turn / 88 % 6).toNat : Nat) : Int) = turn / 88 % 6 := by omega
      rw [e] at z
      simp [c6]
      refine ⟨⟨by decide, by decide⟩, ⟨by decide, by decide⟩, ?_⟩
      simpa using z
    · have z := rest (6 + turn % 11).toNat (by omega)
      have e : (((6 + turn % 11).toNat : Nat) : Int) = 6 + turn % 11 := by omega
      rw [e] at z
      simp [c5, c6]
      refine ⟨⟨by decide, by decide⟩, ?_⟩
      simpa using z

end PL

namespace He
open PySem PySem.Spec PyProof.Rows L2
/-! ### the Hook over a written list of addresses, with facts of one's own -/
def frA (g : Addr → Option Obj) (as : List Addr) : PySem.W.Frag := as.map fun a => (a, (g a).getD default)
theorem frA_at {g : Addr → Option Obj} {a : Addr} {o : Obj} : ∀ as : List Addr, (as.all fun a => (g a).isSome) = true → (frA g as).lookup a = some o → g a = some o
  | [], _, e => nomatch (show (none : Option Obj) = some o from e)
  | b :: r, h, e => by
    obtain ⟨h1, h2⟩ := ba (show ((g b).isSome && r.all fun a => (g a).isSome) = true from h)
    have e2 : (match a == b with | true => some ((g b).getD default) | false => (frA g r).lookup a) = some o := e
    cases q : (a == b) with
    | true =>
      rw [q] at e2
      have eo : (g b).getD default = o := Option.some.inj e2
      rw [beq_iff_eq.mp q]
      cases hb : g b with
      | none => rw [hb] at h1; cases h1
      | some ob => rw [hb] at eo; exact congrArg some eo
    | false =>
      rw [q] at e2
      exact frA_at r h2 e2
abbrev AlX : Type := Bool × Bool × AlD
def obsX (as : List Addr) (fa : List Fa) (fn : List DefD) (ex : PySem.W.Frag → Bool) (g : Addr → Option Obj) : AlX := (as.all fun a => (g a).isSome, ex (frA g as), obsD fa fn (frA g as))
def valX (fn : List DefD) : AlX := (true, true, valD fn)
def hookX (as : List Addr) (fa : List Fa) (fn : List DefD) (ex : PySem.W.Frag → Bool) : PySem.W.Hook where
  α := AlX
  obs := fun s => obsX as fa fn ex s.heap.get?
  val := fun _ => valX fn
  says := fun _ h => ∃ K : PySem.W.Frag, K.In h ∧ SaysD fa fn K ∧ ex K = true
  of := fun _ _ e => ⟨_, fun _ _ q => frA_at as (congrArg (fun z : AlX => z.1) e) q, congrArg (fun z : AlX => z.2.2) e, congrArg (fun z : AlX => z.2.1) e⟩
  keeps := fun _ _ _ ⟨K, hK, c⟩ k => ⟨K, PySem.W.Frag.In.keeps hK k, c⟩
theorem obsX_eq {as : List Addr} {fa : List Fa} {fn : List DefD} {ex : PySem.W.Frag → Bool} {g : Addr → Option Obj} {s : Shared} (h : ∀ a, g a = s.heap.get? a) : obsX as fa fn ex g = (hookX as fa fn ex).obs s := by
  have e : g = s.heap.get? := funext h
  rw [e] <;> rfl
end He

namespace Hd
open PySem PySem.Spec PyProof.Rows L2 DL PR PL
def top (i : Nat) : Stmt := PySem.Challenge.pw_latewrite_k62_no_gap.main.body.getD i (.Pass ⟨0, 0, 0, 0⟩)
section
variable {P : Program} {w : World} {K : PySem.W.Frag} {mg : Str → Option Value} {base : Heap}
theorem sc_place_of : FnScope ["deed"] ["deed"] (defScope (top 2)) := ⟨rfl, rfl, rfl, by decide +kernel, rfl, by decide +kernel, by decide +kernel⟩
theorem ok_place_of {f : Addr} {fd : FuncData} (F : FunD K "place_of" "place_of" (defArgs (top 2)) (defBody (top 2)) (defScope (top 2)) [] [] f fd)  : FnD P w K mg base 1 f fd ["deed"] sp_place_of := by
  have nd := sc_place_of.nd
  refine fn_pure F sc_place_of len_place_of (fun cdv A outer s H E hr => ?_) sem_place_of
  have hu1 := hu_of hr
  have hu64 := hr.units
  have hu65 : (A.deeper (envOfC "place_of" (defScope (top 2)) s.heap.objs.size f cdv)).units + 65 < cLine := by have := hr.un; omega
  have hu66 : (A.deeper (envOfC "place_of" (defScope (top 2)) s.heap.objs.size f cdv)).units + 66 < cLine := by have := hr.un; omega
  have tk0 : Takes (cxOf (L2.CX P w) P w K mg base ["deed"] "place_of" (defScope (top 2)) f cdv A outer s H E) (wX E) := takes_of rfl rfl rfl rfl
  have tk := tkw_of tk0
  exact (b_cons (s_if (t_cmp (od_eq hu64) (g_ix hu1 (g_var (pv 0)) g_int (fun _ _ => rfl)) g_str (nomark _)) (b_one (s_ret (e_0 (g_F (g_ix hu1 (g_var (pv 0)) g_int (fun _ _ => rfl))))))
  b_nil)
  (b_cons (s_if (t_pw (w_or (t_cmp (od_eq hu64) (g_ix hu1 (g_var (pv 0)) g_int (fun _ _ => rfl)) g_str (nomark _)) (w_or1 (t_cmp (od_eq hu64) (g_ix hu1 (g_var (pv 0)) g_int (fun _ _ => rfl)) g_str (nomark _))))) (b_one (s_ret (e_0 (g_F (g_ix hu1 (g_var (pv 0)) g_int (fun _ _ => rfl))))))
  b_nil)
  (b_one (s_ret (e_0 g_non)))))
theorem sc_points : FnScope ["program", "found", "h", "hand", "many", "k", "deed"] ["program"] (defScope (top 22)) := ⟨rfl, rfl, rfl, by decide +kernel, rfl, by decide +kernel, by decide +kernel⟩
theorem ok_points {f : Addr} {fd : FuncData} (F : FunD K "points" "points" (defArgs (top 22)) (defBody (top 22)) (defScope (top 22)) [] [] f fd) (n_enumerate : mg "enumerate" = none) (n_len : mg "len" = none) (n_range : mg "range" = none) (k_place_of : Kn P w K mg base 1 "place_of" ["deed"] [] sp_place_of) : FnD P w K mg base 2 f fd ["program"] sp_points := by
  have nd := sc_points.nd
  refine fn_pure F sc_points len_points (fun cdv A outer s H E hr => ?_) sem_points
  have hu1 := hu_of hr
  have hu64 := hr.units
  have hu65 : (A.deeper (envOfC "points" (defScope (top 22)) s.heap.objs.size f cdv)).units + 65 < cLine := by have := hr.un; omega
  have hu66 : (A.deeper (envOfC "points" (defScope (top 22)) s.heap.objs.size f cdv)).units + 66 < cLine := by have := hr.un; omega
  have tk0 : Takes (cxOf (L2.CX P w) P w K mg base ["program", "found", "h", "hand", "many", "k", "deed"] "points" (defScope (top 22)) f cdv A outer s H E) (wX E) := takes_of rfl rfl rfl rfl
  have tk := tkw_of tk0
  exact (b_cons (s_set (i := 1) (e_0 (g_lst a_nil)) nd rfl (Or.inl rfl))
  (b_cons (s_for (t := (.tp [2, 3])) (passes_of rfl) rfl (i_enum rfl n_enumerate (a_cons (g_F (g_var (pv 0))) a_nil)) (pg_tup (by rfl) (pgs_cons (pg_name nd rfl (Or.inl rfl)) (pgs_cons (pg_name nd rfl (Or.inl rfl)) pgs_nil))) (b_cons (s_set (i := 4) (e_0 (g_bi (fr := false) bi_len rfl n_len (by decide +kernel) (a_cons (g_view (g_lc (own := [("deed", 6)]) rfl nd (by decide) (i_lst (g_F (g_var (pv 3)))) (blkOk_by (by rfl)) (fun _ _ _ _ _ => (pg_name nd rfl (Or.inl rfl))) (fun _ _ _ _ _ => (ts_one (t_cmp od_isNot (g_kn k_place_of (hr.mono (by decide)) rfl (tkw_of takes0) (a_cons (g_var (pv 6)) a_nil)) g_non (nomark _)))) (fun _ _ _ _ _ => (g_F (g_var (pv 6)))))) a_nil))) nd rfl (Or.inl rfl))
  (b_one (s_for (t := (.nm 5)) (passes_of rfl) rfl (i_rng1 (fr := false) rfl n_range (a_cons (g_var (pv 4)) a_nil)) (pg_name nd rfl (Or.inl rfl)) (b_one (s_expr (e_lm PySem.F.slot_list_append PySem.F.type_list_append ml_app (p_var (pv 1)) (a_cons (g_tup (a_cons (g_F (g_var (pv 2))) (a_cons (g_F (g_var (pv 5))) a_nil))) a_nil))))))))
  (b_one (s_ret (e_nm (pv 1))))))
theorem sc_is_small : FnScope ["program", "hand"] ["program"] (defScope (top 25)) := ⟨rfl, rfl, rfl, by decide +kernel, rfl, by decide +kernel, by decide +kernel⟩
theorem ok_is_small {f : Addr} {fd : FuncData} (F : FunD K "is_small" "is_small" (defArgs (top 25)) (defBody (top 25)) (defScope (top 25)) [] [] f fd) (n_len : mg "len" = none) (n_sum : mg "sum" = none) (k_points : Kn P w K mg base 2 "points" ["program"] [] sp_points) : FnD P w K mg base 3 f fd ["program"] sp_is_small := by
  have nd := sc_is_small.nd
  refine fn_pure F sc_is_small len_is_small (fun cdv A outer s H E hr => ?_) sem_is_small
  have hu1 := hu_of hr
  have hu64 := hr.units
  have hu65 : (A.deeper (envOfC "is_small" (defScope (top 25)) s.heap.objs.size f cdv)).units + 65 < cLine := by have := hr.un; omega
  have hu66 : (A.deeper (envOfC "is_small" (defScope (top 25)) s.heap.objs.size f cdv)).units + 66 < cLine := by have := hr.un; omega
  have tk0 : Takes (cxOf (L2.CX P w) P w K mg base ["program", "hand"] "is_small" (defScope (top 25)) f cdv A outer s H E) (wX E) := takes_of rfl rfl rfl rfl
  have tk := tkw_of tk0
  exact (b_cons (s_if (t_pw (w_or (t_cmp od_gt (g_bi (fr := false) bi_len rfl n_len (by decide +kernel) (a_cons (g_var (pv 0)) a_nil)) g_int (nomark _)) (w_or1 (t_cmp od_gt (g_bi (fr := false) bi_len rfl n_len (by decide +kernel) (a_cons (g_view (g_kn k_points (hr.mono (by decide)) rfl tk (a_cons (g_var (pv 0)) a_nil))) a_nil)) g_int (nomark _))))) (b_one (s_ret (e_0 g_bl)))
  b_nil)
  (b_one (s_ret (e_0 (g_cmp od_le (g_bi (fr := false) (bi_sum rfl) rfl n_sum (by decide +kernel) (a_cons (g_view (g_lc (own := [("hand", 1)]) rfl nd (by decide) (i_lst (g_F (g_var (pv 0)))) (blkOk_by (by rfl)) (fun _ _ _ _ _ => (pg_name nd rfl (Or.inl rfl))) (fun _ _ _ _ _ => ts_nil) (fun _ _ _ _ _ => (g_bi (fr := false) bi_len rfl n_len (by decide +kernel) (a_cons (g_var (pv 1)) a_nil))))) a_nil)) g_int (nomark _))))))
theorem sc_gaps : FnScope ["program", "point"] ["program"] (defScope (top 27)) := ⟨rfl, rfl, rfl, by decide +kernel, rfl, by decide +kernel, by decide +kernel⟩
theorem ok_gaps {f : Addr} {fd : FuncData} (F : FunD K "gaps" "gaps" (defArgs (top 27)) (defBody (top 27)) (defScope (top 27)) [] [] f fd) (k_points : Kn P w K mg base 2 "points" ["program"] [] sp_points) : FnD P w K mg base 3 f fd ["program"] sp_gaps := by
  have nd := sc_gaps.nd
  refine fn_pure F sc_gaps len_gaps (fun cdv A outer s H E hr => ?_) sem_gaps
  have hu1 := hu_of hr
  have hu64 := hr.units
  have hu65 : (A.deeper (envOfC "gaps" (defScope (top 27)) s.heap.objs.size f cdv)).units + 65 < cLine := by have := hr.un; omega
  have hu66 : (A.deeper (envOfC "gaps" (defScope (top 27)) s.heap.objs.size f cdv)).units + 66 < cLine := by have := hr.un; omega
  have tk0 : Takes (cxOf (L2.CX P w) P w K mg base ["program", "point"] "gaps" (defScope (top 27)) f cdv A outer s H E) (wX E) := takes_of rfl rfl rfl rfl
  have tk := tkw_of tk0
  exact (b_one (s_ret (e_0 (g_lc (own := [("point", 1)]) rfl nd (by decide) (i_lst (g_kn k_points (hr.mono (by decide)) rfl tk (a_cons (g_var (pv 0)) a_nil))) (blkOk_by (by rfl)) (fun _ _ _ _ _ => (pg_name nd rfl (Or.inl rfl))) (fun _ _ _ _ _ => (ts_one (t_cmp od_gt (g_ix hu1 (g_var (pv 1)) g_int (fun _ _ => rfl)) g_int (nomark _)))) (fun _ _ _ _ _ => (g_F (g_var (pv 1))))))))
theorem sc_words_by : FnScope ["program", "some", "free", "words", "h", "k", "word"] ["program", "some"] (defScope (top 28)) := ⟨rfl, rfl, rfl, by decide +kernel, rfl, by decide +kernel, by decide +kernel⟩
theorem ok_words_by {f : Addr} {fd : FuncData} (F : FunD K "words_by" "words_by" (defArgs (top 28)) (defBody (top 28)) (defScope (top 28)) [] [] f fd) (x_NoGap : XK K mg "NoGap") (k_gaps : Kn P w K mg base 3 "gaps" ["program"] [] sp_gaps) : FnD P w K mg base 4 f fd ["program", "some"] sp_words_by := by
  have nd := sc_words_by.nd
  refine fn_pure F sc_words_by len_words_by (fun cdv A outer s H E hr => ?_) sem_words_by
  have hu1 := hu_of hr
  have hu64 := hr.units
  have hu65 : (A.deeper (envOfC "words_by" (defScope (top 28)) s.heap.objs.size f cdv)).units + 65 < cLine := by have := hr.un; omega
  have hu66 : (A.deeper (envOfC "words_by" (defScope (top 28)) s.heap.objs.size f cdv)).units + 66 < cLine := by have := hr.un; omega
  have tk0 : Takes (cxOf (L2.CX P w) P w K mg base ["program", "some", "free", "words", "h", "k", "word"] "words_by" (defScope (top 28)) f cdv A outer s H E) (wX E) := takes_of rfl rfl rfl rfl
  have tk := tkw_of tk0
  exact (b_cons (s_set (i := 2) (e_0 (g_kn k_gaps (hr.mono (by decide)) rfl tk (a_cons (g_var (pv 0)) a_nil))) nd rfl (Or.inl rfl))
  (b_cons (s_set (i := 3) (e_0 g_dict1) nd rfl (Or.inl rfl))
  (b_cons (s_for (t := (.tp [4, 5, 6])) (passes_of rfl) rfl (i_lst (g_F (g_var (pv 1)))) (pg_tup (by rfl) (pgs_cons (pg_name nd rfl (Or.inl rfl)) (pgs_cons (pg_name nd rfl (Or.inl rfl)) (pgs_cons (pg_name nd rfl (Or.inl rfl)) pgs_nil)))) (b_cons (s_if (t_cmp (od_notin hu66) (g_tup (a_cons (g_F (g_var (pv 4))) (a_cons (g_F (g_var (pv 5))) a_nil))) (g_var (pv 2)) (by rfl)) (b_one (s_raise rfl rfl tk0 x_NoGap.q x_NoGap.g x_NoGap.k x_NoGap.r rfl))
  b_nil)
  (b_cons (s_expr (e_lm PySem.F.slot_list_remove PySem.F.type_list_remove (ml_rem hu65) (p_var (pv 2)) (a_cons (g_tup (a_cons (g_F (g_var (pv 4))) (a_cons (g_F (g_var (pv 5))) a_nil))) a_nil)))
  (b_one (s_put hu1 (e_nm (pv 6)) (p_var (pv 3)) (g_tup (a_cons (g_F (g_var (pv 4))) (a_cons (g_F (g_var (pv 5))) a_nil))))))))
  (b_one (s_ret (e_nm (pv 3)))))))
theorem sc_hand_with : FnScope ["hand", "h", "words", "found", "k", "deed"] ["hand", "h", "words"] (defScope (top 29)) := ⟨rfl, rfl, rfl, by decide +kernel, rfl, by decide +kernel, by decide +kernel⟩
theorem ok_hand_with {f : Addr} {fd : FuncData} (F : FunD K "hand_with" "hand_with" (defArgs (top 29)) (defBody (top 29)) (defScope (top 29)) [] [] f fd) (k_place_of : Kn P w K mg base 1 "place_of" ["deed"] [] sp_place_of) : FnD P w K mg base 2 f fd ["hand", "h", "words"] sp_hand_with := by
  have nd := sc_hand_with.nd
  refine fn_pure F sc_hand_with len_hand_with (fun cdv A outer s H E hr => ?_) sem_hand_with
  have hu1 := hu_of hr
  have hu64 := hr.units
  have hu65 : (A.deeper (envOfC "hand_with" (defScope (top 29)) s.heap.objs.size f cdv)).units + 65 < cLine := by have := hr.un; omega
  have hu66 : (A.deeper (envOfC "hand_with" (defScope (top 29)) s.heap.objs.size f cdv)).units + 66 < cLine := by have := hr.un; omega
  have tk0 : Takes (cxOf (L2.CX P w) P w K mg base ["hand", "h", "words", "found", "k", "deed"] "hand_with" (defScope (top 29)) f cdv A outer s H E) (wX E) := takes_of rfl rfl rfl rfl
  have tk := tkw_of tk0
  exact (b_cons (s_set (i := 3) (e_0 (g_lst a_nil)) nd rfl (Or.inl rfl))
  (b_cons (s_set (i := 4) (e_0 g_int) nd rfl (Or.inl rfl))
  (b_cons (s_for (t := (.nm 5)) (passes_of rfl) rfl (i_lst (g_F (g_var (pv 0)))) (pg_name nd rfl (Or.inl rfl)) (b_cons (s_if (t_cmp od_isNot (g_kn k_place_of (hr.mono (by decide)) rfl tk (a_cons (g_var (pv 5)) a_nil)) g_non (nomark _)) (b_cons (s_if (t_cmp (od_in hu66) (g_tup (a_cons (g_F (g_var (pv 1))) (a_cons (g_F (g_var (pv 4))) a_nil))) (g_var (pv 2)) (by rfl)) (b_one (s_expr (e_lm PySem.F.slot_list_append PySem.F.type_list_append ml_app (p_var (pv 3)) (a_cons (g_tup (a_cons (g_F (g_ix hu1 (g_var (pv 2)) (g_tup (a_cons (g_F (g_var (pv 1))) (a_cons (g_F (g_var (pv 4))) a_nil))) (fun _ _ => rfl))) (a_cons g_non a_nil))) a_nil))))
  b_nil)
  (b_one (s_aug (i := 4) g_int ip_add nd rfl (Or.inl rfl))))
  b_nil)
  (b_one (s_expr (e_lm PySem.F.slot_list_append PySem.F.type_list_append ml_app (p_var (pv 3)) (a_cons (g_F (g_var (pv 5))) a_nil))))))
  (b_one (s_ret (e_nm (pv 3)))))))
theorem sc_fenced : FnScope ["program", "some", "words", "h", "hand"] ["program", "some"] (defScope (top 30)) := ⟨rfl, rfl, rfl, by decide +kernel, rfl, by decide +kernel, by decide +kernel⟩
theorem ok_fenced {f : Addr} {fd : FuncData} (F : FunD K "fenced" "fenced" (defArgs (top 30)) (defBody (top 30)) (defScope (top 30)) [] [] f fd) (n_enumerate : mg "enumerate" = none) (k_words_by : Kn P w K mg base 4 "words_by" ["program", "some"] [] sp_words_by) (k_hand_with : Kn P w K mg base 2 "hand_with" ["hand", "h", "words"] [] sp_hand_with) : FnD P w K mg base 5 f fd ["program", "some"] sp_fenced := by
  have nd := sc_fenced.nd
  refine fn_pure F sc_fenced len_fenced (fun cdv A outer s H E hr => ?_) sem_fenced
  have hu1 := hu_of hr
  have hu64 := hr.units
  have hu65 : (A.deeper (envOfC "fenced" (defScope (top 30)) s.heap.objs.size f cdv)).units + 65 < cLine := by have := hr.un; omega
  have hu66 : (A.deeper (envOfC "fenced" (defScope (top 30)) s.heap.objs.size f cdv)).units + 66 < cLine := by have := hr.un; omega
  have tk0 : Takes (cxOf (L2.CX P w) P w K mg base ["program", "some", "words", "h", "hand"] "fenced" (defScope (top 30)) f cdv A outer s H E) (wX E) := takes_of rfl rfl rfl rfl
  have tk := tkw_of tk0
  exact (b_cons (s_set (i := 2) (e_0 (g_kn k_words_by (hr.mono (by decide)) rfl tk (a_cons (g_var (pv 0)) (a_cons (g_var (pv 1)) a_nil)))) nd rfl (Or.inr rfl))
  (b_one (s_ret (e_0 (g_lc (own := [("h", 3), ("hand", 4)]) rfl nd (by decide) (i_enum rfl n_enumerate (a_cons (g_F (g_var (pv 0))) a_nil)) (blkOk_by (by rfl)) (fun _ _ _ _ _ => (pg_tup (by rfl) (pgs_cons (pg_name nd rfl (Or.inl rfl)) (pgs_cons (pg_name nd rfl (Or.inl rfl)) pgs_nil)))) (fun _ _ _ _ _ => ts_nil) (fun _ _ _ _ _ => (g_kn k_hand_with (hr.mono (by decide)) rfl (tkw_of takes0) (a_cons (g_var (pv 4)) (a_cons (g_var (pv 3)) (a_cons (g_var (pv 2)) a_nil))))))))))
theorem sc_tales : FnScope ["program", "slack", "found", "known", "waiting", "going", "moves", "tale", "can", "move", "other"] ["program", "slack"] (defScope (top 71)) := ⟨rfl, rfl, rfl, by decide +kernel, rfl, by decide +kernel, by decide +kernel⟩
theorem ok_tales {f : Addr} {fd : FuncData} (F : FunD K "tales" "tales" (defArgs (top 71)) (defBody (top 71)) (defScope (top 71)) [.int 2] [] f fd) (x_TooGreat : XK K mg "TooGreat") (k_is_small : Kn P w K mg base 3 "is_small" ["program"] [] sp_is_small) : FnD P w K mg base 4 f fd ["program", "slack"] sp_tales := by
  have nd := sc_tales.nd
  refine fn_pure F sc_tales len_tales (fun cdv A outer s H E hr => ?_) sem_tales
  have hu1 := hu_of hr
  have hu64 := hr.units
  have hu65 : (A.deeper (envOfC "tales" (defScope (top 71)) s.heap.objs.size f cdv)).units + 65 < cLine := by have := hr.un; omega
  have hu66 : (A.deeper (envOfC "tales" (defScope (top 71)) s.heap.objs.size f cdv)).units + 66 < cLine := by have := hr.un; omega
  have tk0 : Takes (cxOf (L2.CX P w) P w K mg base ["program", "slack", "found", "known", "waiting", "going", "moves", "tale", "can", "move", "other"] "tales" (defScope (top 71)) f cdv A outer s H E) (wX E) := takes_of rfl rfl rfl rfl
  have tk := tkw_of tk0
  exact (b_cons (s_if (t_not (t_val (g_kn k_is_small (hr.mono (by decide)) rfl tk (a_cons (g_var (pv 0)) a_nil)))) (b_one (s_raise rfl rfl tk0 x_TooGreat.q x_TooGreat.g x_TooGreat.k x_TooGreat.r rfl))
  b_nil)
  b_nev)
theorem sc_strange : FnScope ["program", "slack", "found", "tale", "moves", "told"] ["program", "slack"] (defScope (top 73)) := ⟨rfl, rfl, rfl, by decide +kernel, rfl, by decide +kernel, by decide +kernel⟩
theorem ok_strange {f : Addr} {fd : FuncData} (F : FunD K "strange" "strange" (defArgs (top 73)) (defBody (top 73)) (defScope (top 73)) [] [] f fd) (k_tales : Kn P w K mg base 4 "tales" ["program", "slack"] [] sp_tales) : FnD P w K mg base 5 f fd ["program", "slack"] sp_strange := by
  have nd := sc_strange.nd
  refine fn_pure F sc_strange len_strange (fun cdv A outer s H E hr => ?_) sem_strange
  have hu1 := hu_of hr
  have hu64 := hr.units
  have hu65 : (A.deeper (envOfC "strange" (defScope (top 73)) s.heap.objs.size f cdv)).units + 65 < cLine := by have := hr.un; omega
  have hu66 : (A.deeper (envOfC "strange" (defScope (top 73)) s.heap.objs.size f cdv)).units + 66 < cLine := by have := hr.un; omega
  have tk0 : Takes (cxOf (L2.CX P w) P w K mg base ["program", "slack", "found", "tale", "moves", "told"] "strange" (defScope (top 73)) f cdv A outer s H E) (wX E) := takes_of rfl rfl rfl rfl
  have tk := tkw_of tk0
  exact (b_cons (s_set (i := 2) (e_0 (g_lst a_nil)) nd rfl (Or.inl rfl))
  (b_cons (s_for (t := (.tp [3, 4])) (passes_of rfl) rfl (i_lst (g_kn k_tales (hr.mono (by decide)) rfl tk (a_cons (g_var (pv 0)) (a_cons (g_var (pv 1)) a_nil)))) (pg_tup (by rfl) (pgs_cons (pg_name nd rfl (Or.inl rfl)) (pgs_cons (pg_name nd rfl (Or.inl rfl)) pgs_nil))) b_nev)
  (b_one (s_ret (e_nm (pv 2))))))
theorem sc_let_by : FnScope ["stopped", "rows", "slack", "tale", "ring", "told"] ["stopped", "rows", "slack"] (defScope (top 74)) := ⟨rfl, rfl, rfl, by decide +kernel, rfl, by decide +kernel, by decide +kernel⟩
theorem ok_let_by {f : Addr} {fd : FuncData} (F : FunD K "let_by" "let_by" (defArgs (top 74)) (defBody (top 74)) (defScope (top 74)) [] [] f fd)  : FnD P w K mg base 1 f fd ["stopped", "rows", "slack"] sp_let_by := by
  have nd := sc_let_by.nd
  refine fn_pure F sc_let_by len_let_by (fun cdv A outer s H E hr => ?_) sem_let_by
  have hu1 := hu_of hr
  have hu64 := hr.units
  have hu65 : (A.deeper (envOfC "let_by" (defScope (top 74)) s.heap.objs.size f cdv)).units + 65 < cLine := by have := hr.un; omega
  have hu66 : (A.deeper (envOfC "let_by" (defScope (top 74)) s.heap.objs.size f cdv)).units + 66 < cLine := by have := hr.un; omega
  have tk0 : Takes (cxOf (L2.CX P w) P w K mg base ["stopped", "rows", "slack", "tale", "ring", "told"] "let_by" (defScope (top 74)) f cdv A outer s H E) (wX E) := takes_of rfl rfl rfl rfl
  have tk := tkw_of tk0
  exact b_nev
theorem sc_shows : FnScope ["program", "some", "slack", "stopped"] ["program", "some", "slack"] (defScope (top 75)) := ⟨rfl, rfl, rfl, by decide +kernel, rfl, by decide +kernel, by decide +kernel⟩
theorem ok_shows {f : Addr} {fd : FuncData} (F : FunD K "shows" "shows" (defArgs (top 75)) (defBody (top 75)) (defScope (top 75)) [.int 2] [] f fd) (k_fenced : Kn P w K mg base 5 "fenced" ["program", "some"] [] sp_fenced) (k_let_by : Kn P w K mg base 1 "let_by" ["stopped", "rows", "slack"] [] sp_let_by) (k_strange : Kn P w K mg base 5 "strange" ["program", "slack"] [] sp_strange) : FnD P w K mg base 6 f fd ["program", "some", "slack"] sp_shows := by
  have nd := sc_shows.nd
  refine fn_pure F sc_shows len_shows (fun cdv A outer s H E hr => ?_) sem_shows
  have hu1 := hu_of hr
  have hu64 := hr.units
  have hu65 : (A.deeper (envOfC "shows" (defScope (top 75)) s.heap.objs.size f cdv)).units + 65 < cLine := by have := hr.un; omega
  have hu66 : (A.deeper (envOfC "shows" (defScope (top 75)) s.heap.objs.size f cdv)).units + 66 < cLine := by have := hr.un; omega
  have tk0 : Takes (cxOf (L2.CX P w) P w K mg base ["program", "some", "slack", "stopped"] "shows" (defScope (top 75)) f cdv A outer s H E) (wX E) := takes_of rfl rfl rfl rfl
  have tk := tkw_of tk0
  exact (b_cons (s_set (i := 3) (e_0 (g_kn k_fenced (hr.mono (by decide)) rfl tk (a_cons (g_var (pv 0)) (a_cons (g_var (pv 1)) a_nil)))) nd rfl (Or.inl rfl))
  (b_one (s_ret (e_0 (g_kn k_let_by (hr.mono (by decide)) rfl tk (a_cons (g_var (pv 3)) (a_cons (g_view (g_kn k_strange (hr.mono (by decide)) rfl tk (a_cons (g_var (pv 0)) (a_cons (g_var (pv 2)) a_nil)))) (a_cons (g_var (pv 2)) a_nil))))))))

theorem sc__law_draw : FnScope ["_law_script", "_law_k", "_law_near"] ["_law_script", "_law_k"] (defScope (top 77)) := ⟨rfl, rfl, rfl, by decide +kernel, rfl, by decide +kernel, by decide +kernel⟩
theorem ok__law_draw {f : Addr} {fd : FuncData} (F : FunD K "_law_draw" "_law_draw" (defArgs (top 77)) (defBody (top 77)) (defScope (top 77)) [] [] f fd) (n_len : mg "len" = none) : FnD P w K mg base 1 f fd ["_law_script", "_law_k"] sp__law_draw := by
  have nd := sc__law_draw.nd
  refine fn_pure F sc__law_draw len__law_draw (fun cdv A outer s H E hr => ?_) sem__law_draw
  have hu1 := hu_of hr
  have hu64 := hr.units
  have hu65 : (A.deeper (envOfC "_law_draw" (defScope (top 77)) s.heap.objs.size f cdv)).units + 65 < cLine := by have := hr.un; omega
  have hu66 : (A.deeper (envOfC "_law_draw" (defScope (top 77)) s.heap.objs.size f cdv)).units + 66 < cLine := by have := hr.un; omega
  have tk0 : Takes (cxOf (L2.CX P w) P w K mg base ["_law_script", "_law_k", "_law_near"] "_law_draw" (defScope (top 77)) f cdv A outer s H E) (wX E) := takes_of rfl rfl rfl rfl
  have tk := tkw_of tk0
  exact (b_cons (s_if (t_cmp od_lt (g_var (pv 1)) (g_bi (fr := false) bi_len rfl n_len (by decide +kernel) (a_cons (g_var (pv 0)) a_nil)) (nomark _)) (b_one (s_ret (e_0 (g_bin od_mod (g_ix hu1 (g_var (pv 0)) (g_var (pv 1)) (fun _ _ => rfl)) (g_bin od_mul g_int (g_bin od_pow g_int g_int))))))
  b_nil)
  (b_cons (s_set (i := 2) (e_0 g_int) nd rfl (Or.inl rfl))
  (b_cons (s_if (t_cmp od_gt (g_bi (fr := false) bi_len rfl n_len (by decide +kernel) (a_cons (g_var (pv 0)) a_nil)) g_int (nomark _)) (b_one (s_set (i := 2) (e_0 (g_bin od_mod (g_ix hu1 (g_var (pv 0)) (g_bin od_mod (g_var (pv 1)) (g_bi (fr := false) bi_len rfl n_len (by decide +kernel) (a_cons (g_var (pv 0)) a_nil))) (fun _ _ => rfl)) g_int)) nd rfl (Or.inl rfl)))
  b_nil)
  (b_one (s_ret (e_0 (g_bin od_mod (g_bin od_mul (g_bin od_mul (g_bin od_add (g_var (pv 2)) g_int) (g_bin od_add (g_bin od_mul (g_bin od_mul (g_var (pv 1)) (g_var (pv 1))) (g_var (pv 1))) g_int)) g_int) g_int)))))))
theorem sc__law_names : FnScope ["_law_x", "_law_letters", "_law_size", "_law_at", "_law_step", "_law_names_here", "_law_k", "_law_name", "_law_j", "_law_turn"] ["_law_x"] (defScope (top 78)) := ⟨rfl, rfl, rfl, by decide +kernel, rfl, by decide +kernel, by decide +kernel⟩
theorem ok__law_names {f : Addr} {fd : FuncData} (F : FunD K "_law_names" "_law_names" (defArgs (top 78)) (defBody (top 78)) (defScope (top 78)) [] [] f fd) (n_range : mg "range" = none) (n_int : mg "int" = none) : FnD P w K mg base 1 f fd ["_law_x"] sp__law_names := by
  have nd := sc__law_names.nd
  refine fn_pure F sc__law_names len__law_names (fun cdv A outer s H E hr => ?_) sem__law_names
  have hu1 := hu_of hr
  have hu64 := hr.units
  have hu65 : (A.deeper (envOfC "_law_names" (defScope (top 78)) s.heap.objs.size f cdv)).units + 65 < cLine := by have := hr.un; omega
  have hu66 : (A.deeper (envOfC "_law_names" (defScope (top 78)) s.heap.objs.size f cdv)).units + 66 < cLine := by have := hr.un; omega
  have tk0 : Takes (cxOf (L2.CX P w) P w K mg base ["_law_x", "_law_letters", "_law_size", "_law_at", "_law_step", "_law_names_here", "_law_k", "_law_name", "_law_j", "_law_turn"] "_law_names" (defScope (top 78)) f cdv A outer s H E) (wX E) := takes_of rfl rfl rfl rfl
  have tk := tkw_of tk0
  exact (b_cons (s_set (i := 1) (e_0 g_str) nd rfl (Or.inl rfl))
  (b_cons (s_set (i := 2) (e_0 (g_bin od_add g_int (g_bin od_mod (g_var (pv 0)) g_int))) nd rfl (Or.inl rfl))
  (b_cons (s_set (i := 3) (e_0 (g_bin od_mod (g_bin od_div (g_var (pv 0)) g_int) (g_var (pv 2)))) nd rfl (Or.inl rfl))
  (b_cons (s_set (i := 4) (e_0 (g_bin od_add g_int (g_bin od_mod (g_bin od_div (g_var (pv 0)) g_int) g_int))) nd rfl (Or.inl rfl))
  (b_cons (s_set (i := 5) (e_0 (g_lst a_nil)) nd rfl (Or.inl rfl))
  (b_cons (s_for (t := (.nm 6)) (passes_of rfl) rfl (i_rng1 (fr := false) rfl n_range (a_cons (g_view g_int) a_nil)) (pg_name nd rfl (Or.inl rfl)) (b_cons (s_set (i := 7) (e_0 g_str) nd rfl (Or.inl rfl))
  (b_cons (s_for (t := (.nm 8)) (passes_of rfl) rfl (i_rng1 (fr := false) rfl n_range (a_cons (g_var (pv 2)) a_nil)) (pg_name nd rfl (Or.inl rfl)) (b_cons (s_set (i := 9) (e_0 (g_bin od_add (g_bin od_div (g_var (pv 0)) (g_bin od_add g_int (g_bin od_mul (g_bin od_mul g_int (g_var (pv 8))) (g_var (pv 8))))) (g_bin od_mul (g_bin od_mul (g_var (pv 6)) (g_var (pv 4))) (g_ty (fr := false) ty_int rfl n_int (by decide +kernel) (a_cons (g_view (g_cmp (od_eq hu64) (g_var (pv 8)) (g_var (pv 3)) (nomark _))) a_nil))))) nd rfl (Or.inl rfl))
  (b_one (s_set (i := 7) (e_0 (g_bin od_add (g_var (pv 7)) (g_ix hu1 (g_var (pv 1)) (g_bin od_mod (g_var (pv 9)) g_int) (fun _ _ => rfl)))) nd rfl (Or.inl rfl)))))
  (b_one (s_expr (e_lm PySem.F.slot_list_append PySem.F.type_list_append ml_app (p_var (pv 5)) (a_cons (g_F (g_var (pv 7))) a_nil)))))))
  (b_one (s_ret (e_nm (pv 5))))))))))
theorem sc__law_number : FnScope ["_law_y"] ["_law_y"] (defScope (top 79)) := ⟨rfl, rfl, rfl, by decide +kernel, rfl, by decide +kernel, by decide +kernel⟩
theorem ok__law_number {f : Addr} {fd : FuncData} (F : FunD K "_law_number" "_law_number" (defArgs (top 79)) (defBody (top 79)) (defScope (top 79)) [] [] f fd)  : FnD P w K mg base 1 f fd ["_law_y"] sp__law_number := by
  have nd := sc__law_number.nd
  refine fn_pure F sc__law_number len__law_number (fun cdv A outer s H E hr => ?_) sem__law_number
  have hu1 := hu_of hr
  have hu64 := hr.units
  have hu65 : (A.deeper (envOfC "_law_number" (defScope (top 79)) s.heap.objs.size f cdv)).units + 65 < cLine := by have := hr.un; omega
  have hu66 : (A.deeper (envOfC "_law_number" (defScope (top 79)) s.heap.objs.size f cdv)).units + 66 < cLine := by have := hr.un; omega
  have tk0 : Takes (cxOf (L2.CX P w) P w K mg base ["_law_y"] "_law_number" (defScope (top 79)) f cdv A outer s H E) (wX E) := takes_of rfl rfl rfl rfl
  have tk := tkw_of tk0
  exact (b_cons (s_if (t_cmp (od_eq hu64) (g_bin od_mod (g_var (pv 0)) g_int) g_int (nomark _)) (b_one (s_ret (e_0 (g_bin od_add (g_bin od_sub (g_bin od_mod (g_bin od_div (g_var (pv 0)) g_int) (g_bin od_sub (g_bin od_mul g_int (g_bin od_pow g_int g_int)) g_int)) (g_bin od_pow g_int g_int)) g_int))))
  b_nil)
  (b_one (s_ret (e_0 (g_ix hu1 (g_lst (a_cons g_int (a_cons g_int (a_cons g_int a_nil)))) (g_bin od_mod (g_var (pv 0)) g_int) (fun _ _ => rfl))))))
theorem sc__law_place : FnScope ["_law_deed_here"] ["_law_deed_here"] (defScope (top 80)) := ⟨rfl, rfl, rfl, by decide +kernel, rfl, by decide +kernel, by decide +kernel⟩
theorem ok__law_place {f : Addr} {fd : FuncData} (F : FunD K "_law_place" "_law_place" (defArgs (top 80)) (defBody (top 80)) (defScope (top 80)) [] [] f fd)  : FnD P w K mg base 1 f fd ["_law_deed_here"] sp__law_place := by
  have nd := sc__law_place.nd
  refine fn_pure F sc__law_place len__law_place (fun cdv A outer s H E hr => ?_) sem__law_place
  have hu1 := hu_of hr
  have hu64 := hr.units
  have hu65 : (A.deeper (envOfC "_law_place" (defScope (top 80)) s.heap.objs.size f cdv)).units + 65 < cLine := by have := hr.un; omega
  have hu66 : (A.deeper (envOfC "_law_place" (defScope (top 80)) s.heap.objs.size f cdv)).units + 66 < cLine := by have := hr.un; omega
  have tk0 : Takes (cxOf (L2.CX P w) P w K mg base ["_law_deed_here"] "_law_place" (defScope (top 80)) f cdv A outer s H E) (wX E) := takes_of rfl rfl rfl rfl
  have tk := tkw_of tk0
  exact (b_cons (s_if (t_pw (w_or (t_cmp (od_eq hu64) (g_ix hu1 (g_var (pv 0)) g_int (fun _ _ => rfl)) g_str (nomark _)) (w_or1 (t_cmp (od_eq hu64) (g_ix hu1 (g_var (pv 0)) g_int (fun _ _ => rfl)) g_str (nomark _))))) (b_one (s_ret (e_0 (g_F (g_ix hu1 (g_var (pv 0)) g_int (fun _ _ => rfl))))))
  b_nil)
  (b_cons (s_if (t_cmp (od_eq hu64) (g_ix hu1 (g_var (pv 0)) g_int (fun _ _ => rfl)) g_str (nomark _)) (b_one (s_ret (e_0 (g_F (g_ix hu1 (g_var (pv 0)) g_int (fun _ _ => rfl))))))
  b_nil)
  (b_one (s_ret (e_0 g_non)))))
theorem sc__law_deed : FnScope ["_law_x", "_law_place_here", "_law_names_here", "_law_guard", "_law_cup", "_law_number_here"] ["_law_x", "_law_place_here", "_law_names_here"] (defScope (top 81)) := ⟨rfl, rfl, rfl, by decide +kernel, rfl, by decide +kernel, by decide +kernel⟩
theorem ok__law_deed {f : Addr} {fd : FuncData} (F : FunD K "_law_deed" "_law_deed" (defArgs (top 81)) (defBody (top 81)) (defScope (top 81)) [] [] f fd) (k__law_number : Kn P w K mg base 1 "_law_number" ["_law_y"] [] sp__law_number) : FnD P w K mg base 2 f fd ["_law_x", "_law_place_here", "_law_names_here"] sp__law_deed := by
  have nd := sc__law_deed.nd
  refine fn_pure F sc__law_deed len__law_deed (fun cdv A outer s H E hr => ?_) sem__law_deed
  have hu1 := hu_of hr
  have hu64 := hr.units
  have hu65 : (A.deeper (envOfC "_law_deed" (defScope (top 81)) s.heap.objs.size f cdv)).units + 65 < cLine := by have := hr.un; omega
  have hu66 : (A.deeper (envOfC "_law_deed" (defScope (top 81)) s.heap.objs.size f cdv)).units + 66 < cLine := by have := hr.un; omega
  have tk0 : Takes (cxOf (L2.CX P w) P w K mg base ["_law_x", "_law_place_here", "_law_names_here", "_law_guard", "_law_cup", "_law_number_here"] "_law_deed" (defScope (top 81)) f cdv A outer s H E) (wX E) := takes_of rfl rfl rfl rfl
  have tk := tkw_of tk0
  exact (b_cons (s_set (i := 3) (e_0 g_non) nd rfl (Or.inl rfl))
  (b_cons (s_if (t_cmp od_gt (g_bin od_mod (g_bin od_div (g_var (pv 0)) g_int) g_int) g_int (nomark _)) (b_one (s_set (i := 3) (e_0 (g_tup (a_cons (g_ix hu1 (g_lst (a_cons g_str (a_cons g_str a_nil))) (g_bin od_mod (g_bin od_div (g_var (pv 0)) g_int) g_int) (fun _ _ => rfl)) (a_cons (g_F (g_ix hu1 (g_var (pv 2)) (g_bin od_mod (g_bin od_div (g_var (pv 0)) g_int) g_int) (fun _ _ => rfl))) (a_cons (g_bin od_mod (g_bin od_div (g_var (pv 0)) g_int) g_int) a_nil))))) nd rfl (Or.inl rfl)))
  b_nil)
  (b_cons (s_set (i := 4) (e_0 (g_F (g_ix hu1 (g_var (pv 2)) (g_bin od_mod (g_bin od_div (g_var (pv 0)) g_int) g_int) (fun _ _ => rfl)))) nd rfl (Or.inl rfl))
  (b_cons (s_set (i := 5) (e_0 (g_kn k__law_number (hr.mono (by decide)) rfl tk (a_cons (g_view (g_bin od_div (g_var (pv 0)) g_int)) a_nil))) nd rfl (Or.inl rfl))
  (b_cons (s_if (t_cmp od_lt (g_bin od_mod (g_var (pv 0)) g_int) g_int (nomark _)) (b_one (s_ret (e_0 (g_tup (a_cons g_str (a_cons (g_F (g_var (pv 1))) (a_cons (g_F (g_var (pv 5))) (a_cons (g_F (g_var (pv 3))) a_nil))))))))
  b_nil)
  (b_cons (s_if (t_cmp od_lt (g_bin od_mod (g_var (pv 0)) g_int) g_int (nomark _)) (b_one (s_ret (e_0 (g_tup (a_cons g_str (a_cons (g_F (g_var (pv 4))) (a_cons (g_F (g_var (pv 1))) (a_cons (g_F (g_var (pv 3))) a_nil))))))))
  b_nil)
  (b_cons (s_if (t_cmp (od_eq hu64) (g_bin od_mod (g_var (pv 0)) g_int) g_int (nomark _)) (b_one (s_ret (e_0 (g_tup (a_cons g_str (a_cons (g_F (g_var (pv 4))) (a_cons (g_F (g_var (pv 1))) (a_cons (g_F (g_var (pv 5))) (a_cons (g_F (g_var (pv 3))) a_nil)))))))))
  b_nil)
  (b_one (s_ret (e_0 (g_tup (a_cons (g_ix hu1 (g_lst (a_cons g_str (a_cons g_str a_nil))) (g_bin od_mod (g_bin od_div (g_var (pv 0)) g_int) g_int) (fun _ _ => rfl)) (a_cons (g_F (g_var (pv 3))) a_nil)))))))))))))
theorem sc__law_long : FnScope ["_law_script", "_law_many", "_law_head", "_law_names_here", "_law_size", "_law_program", "_law_k", "_law_x", "_law_h", "_law_place_here"] ["_law_script", "_law_many"] (defScope (top 82)) := ⟨rfl, rfl, rfl, by decide +kernel, rfl, by decide +kernel, by decide +kernel⟩
theorem ok__law_long {f : Addr} {fd : FuncData} (F : FunD K "_law_long" "_law_long" (defArgs (top 82)) (defBody (top 82)) (defScope (top 82)) [] [] f fd) (n_range : mg "range" = none) (k__law_draw : Kn P w K mg base 1 "_law_draw" ["_law_script", "_law_k"] [] sp__law_draw) (k__law_names : Kn P w K mg base 1 "_law_names" ["_law_x"] [] sp__law_names) (k__law_deed : Kn P w K mg base 2 "_law_deed" ["_law_x", "_law_place_here", "_law_names_here"] [] sp__law_deed) : FnD P w K mg base 3 f fd ["_law_script", "_law_many"] sp__law_long := by
  have nd := sc__law_long.nd
  refine fn_pure F sc__law_long len__law_long (fun cdv A outer s H E hr => ?_) sem__law_long
  have hu1 := hu_of hr
  have hu64 := hr.units
  have hu65 : (A.deeper (envOfC "_law_long" (defScope (top 82)) s.heap.objs.size f cdv)).units + 65 < cLine := by have := hr.un; omega
  have hu66 : (A.deeper (envOfC "_law_long" (defScope (top 82)) s.heap.objs.size f cdv)).units + 66 < cLine := by have := hr.un; omega
  have tk0 : Takes (cxOf (L2.CX P w) P w K mg base ["_law_script", "_law_many", "_law_head", "_law_names_here", "_law_size", "_law_program", "_law_k", "_law_x", "_law_h", "_law_place_here"] "_law_long" (defScope (top 82)) f cdv A outer s H E) (wX E) := takes_of rfl rfl rfl rfl
  have tk := tkw_of tk0
  exact (b_cons (s_set (i := 2) (e_0 (g_kn k__law_draw (hr.mono (by decide)) rfl tk (a_cons (g_var (pv 0)) (a_cons (g_view g_int) a_nil)))) nd rfl (Or.inl rfl))
  (b_cons (s_set (i := 3) (e_0 (g_kn k__law_names (hr.mono (by decide)) rfl tk (a_cons (g_view (g_kn k__law_draw (hr.mono (by decide)) rfl tk (a_cons (g_var (pv 0)) (a_cons (g_view g_int) a_nil)))) a_nil))) nd rfl (Or.inl rfl))
  (b_cons (s_set (i := 4) (e_0 (g_bin od_add g_int (g_bin od_mod (g_var (pv 2)) g_int))) nd rfl (Or.inl rfl))
  (b_cons (s_setLc (i := 5) (own := [("_law_h", 8)]) rfl nd rfl rfl (sw_true rfl rfl rfl (by decide +kernel)) (by decide) (i_rng1 (fr := false) rfl n_range (a_cons (g_var (pv 4)) a_nil)) (blkOk_by (by rfl)) (fun _ _ _ _ _ => (pg_name nd rfl (Or.inl rfl))) (fun _ _ _ _ _ => ts_nil) (fun _ _ _ _ _ => (g_lst a_nil)))
  (b_cons (s_for (t := (.nm 6)) (passes_of rfl) rfl (i_rng1 (fr := false) rfl n_range (a_cons (g_var (pv 1)) a_nil)) (pg_name nd rfl (Or.inl rfl)) (b_cons (s_set (i := 7) (e_0 (g_kn k__law_draw (hr.mono (by decide)) rfl tk (a_cons (g_var (pv 0)) (a_cons (g_view (g_bin od_add g_int (g_var (pv 6)))) a_nil)))) nd rfl (Or.inl rfl))
  (b_cons (s_set (i := 8) (e_0 (g_bin od_mod (g_bin od_mod (g_bin od_mul (g_var (pv 7)) g_int) g_int) (g_var (pv 4)))) nd rfl (Or.inl rfl))
  (b_cons (s_set (i := 9) (e_0 (g_F (g_ix hu1 (g_var (pv 3)) (g_bin od_mod (g_bin od_mod (g_bin od_mul (g_var (pv 7)) g_int) g_int) g_int) (fun _ _ => rfl)))) nd rfl (Or.inl rfl))
  (b_one (s_expr (e_lm PySem.F.slot_list_append PySem.F.type_list_append ml_app (p_ix hu1 (p_var (pv 5)) (g_var (pv 8)) (fun _ _ => rfl)) (a_cons (g_kn k__law_deed (hr.mono (by decide)) rfl tk (a_cons (g_var (pv 7)) (a_cons (g_var (pv 9)) (a_cons (g_var (pv 3)) a_nil)))) a_nil))))))))
  (b_one (s_ret (e_nm (pv 5)))))))))
theorem sc__law_gaps : FnScope ["_law_program", "_law_found", "_law_h", "_law_many", "_law_deed_here", "_law_k"] ["_law_program"] (defScope (top 83)) := ⟨rfl, rfl, rfl, by decide +kernel, rfl, by decide +kernel, by decide +kernel⟩
theorem ok__law_gaps {f : Addr} {fd : FuncData} (F : FunD K "_law_gaps" "_law_gaps" (defArgs (top 83)) (defBody (top 83)) (defScope (top 83)) [] [] f fd) (n_len : mg "len" = none) (n_range : mg "range" = none) (k__law_place : Kn P w K mg base 1 "_law_place" ["_law_deed_here"] [] sp__law_place) : FnD P w K mg base 2 f fd ["_law_program"] sp__law_gaps := by
  have nd := sc__law_gaps.nd
  refine fn_pure F sc__law_gaps len__law_gaps (fun cdv A outer s H E hr => ?_) sem__law_gaps
  have hu1 := hu_of hr
  have hu64 := hr.units
  have hu65 : (A.deeper (envOfC "_law_gaps" (defScope (top 83)) s.heap.objs.size f cdv)).units + 65 < cLine := by have := hr.un; omega
  have hu66 : (A.deeper (envOfC "_law_gaps" (defScope (top 83)) s.heap.objs.size f cdv)).units + 66 < cLine := by have := hr.un; omega
  have tk0 : Takes (cxOf (L2.CX P w) P w K mg base ["_law_program", "_law_found", "_law_h", "_law_many", "_law_deed_here", "_law_k"] "_law_gaps" (defScope (top 83)) f cdv A outer s H E) (wX E) := takes_of rfl rfl rfl rfl
  have tk := tkw_of tk0
  exact (b_cons (s_set (i := 1) (e_0 (g_lst a_nil)) nd rfl (Or.inl rfl))
  (b_cons (s_for (t := (.nm 2)) (passes_of rfl) rfl (i_rng1 (fr := false) rfl n_range (a_cons (g_view (g_bi (fr := false) bi_len rfl n_len (by decide +kernel) (a_cons (g_var (pv 0)) a_nil))) a_nil)) (pg_name nd rfl (Or.inr rfl)) (b_cons (s_set (i := 3) (e_0 (g_bi (fr := false) bi_len rfl n_len (by decide +kernel) (a_cons (g_view (g_lc (own := [("_law_deed_here", 4)]) rfl nd (by decide) (i_lst (g_F (g_ix hu1 (g_var (pv 0)) (g_var (pv 2)) (fun _ _ => rfl)))) (blkOk_by (by rfl)) (fun _ _ _ _ _ => (pg_name nd rfl (Or.inl rfl))) (fun _ _ _ _ _ => (ts_one (t_cmp od_isNot (g_kn k__law_place (hr.mono (by decide)) rfl (tkw_of takes0) (a_cons (g_var (pv 4)) a_nil)) g_non (nomark _)))) (fun _ _ _ _ _ => (g_F (g_var (pv 4)))))) a_nil))) nd rfl (Or.inl rfl))
  (b_one (s_set (i := 1) (e_0 (g_bin od_add (g_var (pv 1)) (g_lc (own := [("_law_k", 5)]) rfl nd (by decide) (i_rng2 (fr := false) rfl n_range (a_cons (g_view g_int) (a_cons (g_var (pv 3)) a_nil))) (blkOk_by (by rfl)) (fun _ _ _ _ _ => (pg_name nd rfl (Or.inl rfl))) (fun _ _ _ _ _ => ts_nil) (fun _ _ _ _ _ => (g_tup (a_cons (g_F (g_var (pv 2))) (a_cons (g_F (g_var (pv 5))) a_nil))))))) nd rfl (Or.inl rfl)))))
  (b_one (s_ret (e_nm (pv 1))))))
theorem sc__law_stops : FnScope ["_law_program", "_law_script", "_law_start", "_law_some", "_law_k", "_law_gap", "_law_x", "_law_at"] ["_law_program", "_law_script", "_law_start"] (defScope (top 84)) := ⟨rfl, rfl, rfl, by decide +kernel, rfl, by decide +kernel, by decide +kernel⟩
theorem ok__law_stops {f : Addr} {fd : FuncData} (F : FunD K "_law_stops" "_law_stops" (defArgs (top 84)) (defBody (top 84)) (defScope (top 84)) [] [] f fd) (n_enumerate : mg "enumerate" = none) (n_len : mg "len" = none) (k__law_gaps : Kn P w K mg base 2 "_law_gaps" ["_law_program"] [] sp__law_gaps) (k__law_draw : Kn P w K mg base 1 "_law_draw" ["_law_script", "_law_k"] [] sp__law_draw) : FnD P w K mg base 3 f fd ["_law_program", "_law_script", "_law_start"] sp__law_stops := by
  have nd := sc__law_stops.nd
  refine fn_pure F sc__law_stops len__law_stops (fun cdv A outer s H E hr => ?_) sem__law_stops
  have hu1 := hu_of hr
  have hu64 := hr.units
  have hu65 : (A.deeper (envOfC "_law_stops" (defScope (top 84)) s.heap.objs.size f cdv)).units + 65 < cLine := by have := hr.un; omega
  have hu66 : (A.deeper (envOfC "_law_stops" (defScope (top 84)) s.heap.objs.size f cdv)).units + 66 < cLine := by have := hr.un; omega
  have tk0 : Takes (cxOf (L2.CX P w) P w K mg base ["_law_program", "_law_script", "_law_start", "_law_some", "_law_k", "_law_gap", "_law_x", "_law_at"] "_law_stops" (defScope (top 84)) f cdv A outer s H E) (wX E) := takes_of rfl rfl rfl rfl
  have tk := tkw_of tk0
  exact (b_cons (s_set (i := 3) (e_0 (g_lst a_nil)) nd rfl (Or.inl rfl))
  (b_cons (s_for (t := (.tp [4, 5])) (passes_of rfl) rfl (i_enum rfl n_enumerate (a_cons (g_kn k__law_gaps (hr.mono (by decide)) rfl tk (a_cons (g_var (pv 0)) a_nil)) a_nil)) (pg_tup (by rfl) (pgs_cons (pg_name nd rfl (Or.inl rfl)) (pgs_cons (pg_name nd rfl (Or.inl rfl)) pgs_nil))) (b_cons (s_set (i := 6) (e_0 (g_kn k__law_draw (hr.mono (by decide)) rfl tk (a_cons (g_var (pv 1)) (a_cons (g_view (g_bin od_add (g_var (pv 2)) (g_var (pv 4)))) a_nil)))) nd rfl (Or.inl rfl))
  (b_one (s_if (t_cmp od_gt (g_bin od_mod (g_var (pv 6)) g_int) g_int (nomark _)) (b_cons (s_set (i := 7) (e_0 (g_bin od_mod (g_bin od_div (g_var (pv 6)) g_int) (g_bin od_add (g_bi (fr := false) bi_len rfl n_len (by decide +kernel) (a_cons (g_var (pv 3)) a_nil)) g_int))) nd rfl (Or.inl rfl))
  (b_one (s_expr (e_lm PySem.F.slot_list_insert PySem.F.type_list_insert ml_ins (p_var (pv 3)) (a_cons (g_F (g_var (pv 7))) (a_cons (g_tup (a_cons (g_F (g_ix hu1 (g_var (pv 5)) g_int (fun _ _ => rfl))) (a_cons (g_F (g_ix hu1 (g_var (pv 5)) g_int (fun _ _ => rfl))) (a_cons (g_ix hu1 (g_lst (a_cons g_str (a_cons g_str a_nil))) (g_bin od_sub (g_bin od_mod (g_var (pv 6)) g_int) g_int) (fun _ _ => rfl)) a_nil)))) a_nil))))))
  b_nil))))
  (b_one (s_ret (e_nm (pv 3))))))
theorem sc__law_stopped : FnScope ["_law_program", "_law_some", "_law_found", "_law_h", "_law_hand", "_law_k", "_law_deed_here", "_law_stop"] ["_law_program", "_law_some"] (defScope (top 85)) := ⟨rfl, rfl, rfl, by decide +kernel, rfl, by decide +kernel, by decide +kernel⟩
theorem ok__law_stopped {f : Addr} {fd : FuncData} (F : FunD K "_law_stopped" "_law_stopped" (defArgs (top 85)) (defBody (top 85)) (defScope (top 85)) [] [] f fd) (n_len : mg "len" = none) (n_range : mg "range" = none) (k__law_place : Kn P w K mg base 1 "_law_place" ["_law_deed_here"] [] sp__law_place) : FnD P w K mg base 2 f fd ["_law_program", "_law_some"] sp__law_stopped := by
  have nd := sc__law_stopped.nd
  refine fn_pure F sc__law_stopped len__law_stopped (fun cdv A outer s H E hr => ?_) sem__law_stopped
  have hu1 := hu_of hr
  have hu64 := hr.units
  have hu65 : (A.deeper (envOfC "_law_stopped" (defScope (top 85)) s.heap.objs.size f cdv)).units + 65 < cLine := by have := hr.un; omega
  have hu66 : (A.deeper (envOfC "_law_stopped" (defScope (top 85)) s.heap.objs.size f cdv)).units + 66 < cLine := by have := hr.un; omega
  have tk0 : Takes (cxOf (L2.CX P w) P w K mg base ["_law_program", "_law_some", "_law_found", "_law_h", "_law_hand", "_law_k", "_law_deed_here", "_law_stop"] "_law_stopped" (defScope (top 85)) f cdv A outer s H E) (wX E) := takes_of rfl rfl rfl rfl
  have tk := tkw_of tk0
  exact (b_cons (s_set (i := 2) (e_0 (g_lst a_nil)) nd rfl (Or.inl rfl))
  (b_cons (s_for (t := (.nm 3)) (passes_of rfl) rfl (i_rng1 (fr := false) rfl n_range (a_cons (g_view (g_bi (fr := false) bi_len rfl n_len (by decide +kernel) (a_cons (g_var (pv 0)) a_nil))) a_nil)) (pg_name nd rfl (Or.inr rfl)) (b_cons (s_set (i := 4) (e_0 (g_lst a_nil)) nd rfl (Or.inl rfl))
  (b_cons (s_set (i := 5) (e_0 g_int) nd rfl (Or.inr rfl))
  (b_cons (s_for (t := (.nm 6)) (passes_of rfl) rfl (i_lst (g_F (g_ix hu1 (g_var (pv 0)) (g_var (pv 3)) (fun _ _ => rfl)))) (pg_name nd rfl (Or.inl rfl)) (b_cons (s_if (t_cmp od_isNot (g_kn k__law_place (hr.mono (by decide)) rfl tk (a_cons (g_var (pv 6)) a_nil)) g_non (nomark _)) (b_cons (s_set (i := 4) (e_0 (g_bin od_add (g_var (pv 4)) (g_lc (own := [("_law_stop", 7)]) rfl nd (by decide) (i_lst (g_F (g_var (pv 1)))) (blkOk_by (by rfl)) (fun _ _ _ _ _ => (pg_name nd rfl (Or.inl rfl))) (fun _ _ _ _ _ => (ts_one (t_cmp (od_eq hu64) (g_slice (g_var (pv 7)) o_none (o_some g_int)) (g_tup (a_cons (g_F (g_var (pv 3))) (a_cons (g_F (g_var (pv 5))) a_nil))) (nomark _)))) (fun _ _ _ _ _ => (g_tup (a_cons (g_F (g_ix hu1 (g_var (pv 7)) g_int (fun _ _ => rfl))) (a_cons g_non a_nil))))))) nd rfl (Or.inl rfl))
  (b_one (s_set (i := 5) (e_0 (g_bin od_add (g_var (pv 5)) g_int)) nd rfl (Or.inr rfl))))
  b_nil)
  (b_one (s_expr (e_lm PySem.F.slot_list_append PySem.F.type_list_append ml_app (p_var (pv 4)) (a_cons (g_F (g_var (pv 6))) a_nil))))))
  (b_one (s_expr (e_lmN PySem.F.slot_list_append PySem.F.type_list_append ml_app (pv 2) (a1_cons (e_nm (pv 4)) a1_nil))))))))
  (b_one (s_ret (e_nm (pv 2))))))
theorem sc__law_kinds : FnScope ["_law_error", "_law_found"] ["_law_error"] (defScope (top 86)) := ⟨rfl, rfl, rfl, by decide +kernel, rfl, by decide +kernel, by decide +kernel⟩
theorem ok__law_kinds {f : Addr} {fd : FuncData} (F : FunD K "_law_kinds" "_law_kinds" (defArgs (top 86)) (defBody (top 86)) (defScope (top 86)) [] [] f fd) (g : mg "_law_kinds" = some (.ref f)) (n_isinstance : mg "isinstance" = none) (n_ValueError : mg "ValueError" = none)
    (gx : ∀ x, x ∈ exNames → mg x = some (.ref (He.ga K x))) (cxs : ∀ C, C ∈ exTab → ExcC K (He.ga K C)) (kts : ∀ C, C ∈ exTab → ∀ x, x ∈ exNames → PySem.W.kitOne K (.ref (He.ga K C)) (.ref (He.ga K x)) = some (bE C x))
    (ktvs : ∀ C, C ∈ exTab → PySem.W.kitOne K (.ref (He.ga K C)) (.type "ValueError") = some (bE C "ValueError")) : KnE P w K mg base 1 "_law_kinds" ["_law_error"] spKinds := by
  have nd := sc__law_kinds.nd
  refine ⟨f, fd, g, F.kp, F.bindsN (fun _ _ _ _ _ _ us hl => match us, hl with | [_], _ => rfl), rfl, fun C => ?_⟩
  by_cases hC : C ∈ exTab
  · have cx := cxs C hC
    have kt := kts C hC
    have ktv := ktvs C hC
    refine fn_exc (ws := fun a => w__law_kinds C a) F sc__law_kinds rfl (fun cdv A outer s H p hot hzE hr => ?_) (fun a Pd h => sem__law_kinds C a Pd h)
    exact (b_cons (s_set (i := 1) (e_0 (g_lst (a_cons (g_isE (a := p.1) (oe := p.2) (v := .ref (He.ga K "NoGap")) cx (List.mem_singleton.mpr rfl) hzE hot.2 (kt "NoGap" (by decide +kernel)) rfl n_isinstance (pv 0) (pe_glob rfl (gx "NoGap" (by decide +kernel)) rfl) (fun u h => h)) (a_cons (g_isE (a := p.1) (oe := p.2) (v := .ref (He.ga K "TooGreat")) cx (List.mem_singleton.mpr rfl) hzE hot.2 (kt "TooGreat" (by decide +kernel)) rfl n_isinstance (pv 0) (pe_glob rfl (gx "TooGreat" (by decide +kernel)) rfl) (fun u h => h)) (a_cons (g_isE (a := p.1) (oe := p.2) (v := .ty "ValueError") cx (List.mem_singleton.mpr rfl) hzE hot.2 ktv rfl n_isinstance (pv 0) (pe_bltn (u := .type "ValueError") rfl n_ValueError (by decide +kernel) rfl) (fun u h => h)) a_nil))))) nd rfl (Or.inl rfl))
  (b_cons (s_set (i := 1) (e_0 (g_bin od_add (g_var (pv 1)) (g_lst (a_cons (g_isE (a := p.1) (oe := p.2) (v := .ref (He.ga K "NoMove")) cx (List.mem_singleton.mpr rfl) hzE hot.2 (kt "NoMove" (by decide +kernel)) rfl n_isinstance (pv 0) (pe_glob rfl (gx "NoMove" (by decide +kernel)) rfl) (fun u h => h)) (a_cons (g_isE (a := p.1) (oe := p.2) (v := .ref (He.ga K "NoName")) cx (List.mem_singleton.mpr rfl) hzE hot.2 (kt "NoName" (by decide +kernel)) rfl n_isinstance (pv 0) (pe_glob rfl (gx "NoName" (by decide +kernel)) rfl) (fun u h => h)) (a_cons (g_isE (a := p.1) (oe := p.2) (v := .ref (He.ga K "NoOrder")) cx (List.mem_singleton.mpr rfl) hzE hot.2 (kt "NoOrder" (by decide +kernel)) rfl n_isinstance (pv 0) (pe_glob rfl (gx "NoOrder" (by decide +kernel)) rfl) (fun u h => h)) a_nil)))))) nd rfl (Or.inl rfl))
  (b_cons (s_set (i := 1) (e_0 (g_bin od_add (g_var (pv 1)) (g_lst (a_cons (g_isE (a := p.1) (oe := p.2) (v := .ref (He.ga K "NoRow")) cx (List.mem_singleton.mpr rfl) hzE hot.2 (kt "NoRow" (by decide +kernel)) rfl n_isinstance (pv 0) (pe_glob rfl (gx "NoRow" (by decide +kernel)) rfl) (fun u h => h)) (a_cons (g_isE (a := p.1) (oe := p.2) (v := .ref (He.ga K "NoRun")) cx (List.mem_singleton.mpr rfl) hzE hot.2 (kt "NoRun" (by decide +kernel)) rfl n_isinstance (pv 0) (pe_glob rfl (gx "NoRun" (by decide +kernel)) rfl) (fun u h => h)) (a_cons (g_isE (a := p.1) (oe := p.2) (v := .ref (He.ga K "NoTale")) cx (List.mem_singleton.mpr rfl) hzE hot.2 (kt "NoTale" (by decide +kernel)) rfl n_isinstance (pv 0) (pe_glob rfl (gx "NoTale" (by decide +kernel)) rfl) (fun u h => h)) a_nil)))))) nd rfl (Or.inl rfl))
  (b_one (s_ret (e_0 (g_bin od_add (g_var (pv 1)) (g_lst (a_cons (g_isE (a := p.1) (oe := p.2) (v := .ref (He.ga K "NoText")) cx (List.mem_singleton.mpr rfl) hzE hot.2 (kt "NoText" (by decide +kernel)) rfl n_isinstance (pv 0) (pe_glob rfl (gx "NoText" (by decide +kernel)) rfl) (fun u h => h)) (a_cons (g_isE (a := p.1) (oe := p.2) (v := .ref (He.ga K "NotEnded")) cx (List.mem_singleton.mpr rfl) hzE hot.2 (kt "NotEnded" (by decide +kernel)) rfl n_isinstance (pv 0) (pe_glob rfl (gx "NotEnded" (by decide +kernel)) rfl) (fun u h => h)) a_nil))))))))))
  · exact fun _ _ _ _ _ _ _ _ _ _ _ _ _ _ _ _ _ _ hsp _ => absurd hsp.1 hC
theorem sc__law_refusal : FnScope ["_law_program", "_law_some", "_law_way", "_law_found", "_law_error", "_law_k"] ["_law_program", "_law_some", "_law_way"] (defScope (top 87)) := ⟨rfl, rfl, rfl, by decide +kernel, rfl, by decide +kernel, by decide +kernel⟩
theorem ok__law_refusal {f : Addr} {fd : FuncData} (F : FunD K "_law_refusal" "_law_refusal" (defArgs (top 87)) (defBody (top 87)) (defScope (top 87)) [] [] f fd) (n_len : mg "len" = none) (n_range : mg "range" = none) (x_LateError : XK K mg "LateError") (k_fenced : Kn P w K mg base 5 "fenced" ["program", "some"] [] sp_fenced) (k_shows_1 : Kn P w K mg base 6 "shows" ["program", "some", "slack"] [.int 2] sp_shows) (k_shows : Kn P w K mg base 6 "shows" ["program", "some", "slack"] [] sp_shows) (kE__law_kinds : KnE P w K mg base 1 "_law_kinds" ["_law_error"] spKinds) (hexE : ∀ C b, exmL C = some b → PySem.W.exmOne K (.ref (He.ga K C)) (.ref (He.ga K "LateError")) = some b) : FnD P w K mg base 7 f fd ["_law_program", "_law_some", "_law_way"] sp__law_refusal := by
  have nd := sc__law_refusal.nd
  refine fn_pure F sc__law_refusal len__law_refusal (fun cdv A outer s H E hr => ?_) sem__law_refusal
  have hu1 := hu_of hr
  have hu64 := hr.units
  have hu65 : (A.deeper (envOfC "_law_refusal" (defScope (top 87)) s.heap.objs.size f cdv)).units + 65 < cLine := by have := hr.un; omega
  have hu66 : (A.deeper (envOfC "_law_refusal" (defScope (top 87)) s.heap.objs.size f cdv)).units + 66 < cLine := by have := hr.un; omega
  have tk0 : Takes (cxOf (L2.CX P w) P w K mg base ["_law_program", "_law_some", "_law_way", "_law_found", "_law_error", "_law_k"] "_law_refusal" (defScope (top 87)) f cdv A outer s H E) (wX E) := takes_of rfl rfl rfl rfl
  have tk := tkw_of tk0
  exact (b_cons (s_set (i := 3) (e_0 (g_lst a_nil)) nd rfl (Or.inr rfl))
  (b_cons (s_try (i := 4) hexE rfl rfl nd rfl rfl ⟨rfl, by decide, .inl x_LateError.g⟩ tk0 (fun W tkpn tkxe tkT tkps => (b_one (s_if (t_cmp (od_eq hu64) (g_var (pv 2)) g_int (nomark _)) (b_one (s_expr (e_0 (g_kn k_fenced (hr.mono (by decide)) rfl (tkw_of tkT) (a_cons (g_var (pv 0)) (a_cons (g_var (pv 1)) a_nil))))))
  (b_one (s_if (t_cmp (od_eq hu64) (g_var (pv 2)) g_int (nomark _)) (b_one (s_expr (e_0 (g_kn k_shows_1 (hr.mono (by decide)) rfl (tkw_of tkT) (a_cons (g_var (pv 0)) (a_cons (g_var (pv 1)) a_nil))))))
  (b_one (s_expr (e_0 (g_kn k_shows (hr.mono (by decide)) rfl (tkw_of tkT) (a_cons (g_var (pv 0)) (a_cons (g_var (pv 1)) (a_cons (g_var (pv 2)) a_nil)))))))))))) (fun a oe C pn hzE hfE0 => (b_one (s_set (i := 3) (e_0 (g_knE (sp := spKinds) kE__law_kinds (roomS hr (by decide)) hfE0 rfl List.mem_cons_self hzE rfl (pv 4))) nd rfl (Or.inr rfl)))))
  (b_one (s_ret (e_0 (g_lc (own := [("_law_k", 5)]) rfl nd (by decide) (i_rng1 (fr := false) rfl n_range (a_cons (g_view (g_bi (fr := false) bi_len rfl n_len (by decide +kernel) (a_cons (g_var (pv 3)) a_nil))) a_nil)) (blkOk_by (by rfl)) (fun _ _ _ _ _ => (pg_name nd rfl (Or.inl rfl))) (fun _ _ _ _ _ => (ts_one (t_val (g_ix hu1 (g_var (pv 3)) (g_var (pv 5)) (fun _ _ => rfl))))) (fun _ _ _ _ _ => (g_F (g_var (pv 5))))))))))
theorem sc__law_no_stop : FnScope ["_law_program", "_law_some", "_law_x", "_law_h", "_law_far", "_law_size", "_law_gap", "_law_way", "_law_deed_here"] ["_law_program", "_law_some", "_law_x"] (defScope (top 88)) := ⟨rfl, rfl, rfl, by decide +kernel, rfl, by decide +kernel, by decide +kernel⟩
theorem ok__law_no_stop {f : Addr} {fd : FuncData} (F : FunD K "_law_no_stop" "_law_no_stop" (defArgs (top 88)) (defBody (top 88)) (defScope (top 88)) [] [] f fd) (n_len : mg "len" = none) (n_max : mg "max" = none) (k__law_place : Kn P w K mg base 1 "_law_place" ["_law_deed_here"] [] sp__law_place) : FnD P w K mg base 2 f fd ["_law_program", "_law_some", "_law_x"] sp__law_no_stop := by
  have nd := sc__law_no_stop.nd
  refine fn_pure F sc__law_no_stop len__law_no_stop (fun cdv A outer s H E hr => ?_) sem__law_no_stop
  have hu1 := hu_of hr
  have hu64 := hr.units
  have hu65 : (A.deeper (envOfC "_law_no_stop" (defScope (top 88)) s.heap.objs.size f cdv)).units + 65 < cLine := by have := hr.un; omega
  have hu66 : (A.deeper (envOfC "_law_no_stop" (defScope (top 88)) s.heap.objs.size f cdv)).units + 66 < cLine := by have := hr.un; omega
  have tk0 : Takes (cxOf (L2.CX P w) P w K mg base ["_law_program", "_law_some", "_law_x", "_law_h", "_law_far", "_law_size", "_law_gap", "_law_way", "_law_deed_here"] "_law_no_stop" (defScope (top 88)) f cdv A outer s H E) (wX E) := takes_of rfl rfl rfl rfl
  have tk := tkw_of tk0
  exact (b_cons (s_set (i := 3) (e_0 (g_bin od_mod (g_var (pv 2)) (g_bi (fr := false) bi_len rfl n_len (by decide +kernel) (a_cons (g_var (pv 0)) a_nil)))) nd rfl (Or.inl rfl))
  (b_cons (s_set (i := 4) (e_0 (g_ix hu1 (g_lst (a_cons g_int (a_cons (g_bin od_mod (g_bin od_div (g_var (pv 2)) g_int) (g_bin od_pow g_int g_int)) a_nil))) (g_bin od_mod (g_bin od_div (g_var (pv 2)) g_int) g_int) (fun _ _ => rfl))) nd rfl (Or.inl rfl))
  (b_cons (s_set (i := 5) (e_0 (g_bi (fr := false) bi_len rfl n_len (by decide +kernel) (a_cons (g_view (g_lc (own := [("_law_deed_here", 8)]) rfl nd (by decide) (i_lst (g_F (g_ix hu1 (g_var (pv 0)) (g_var (pv 3)) (fun _ _ => rfl)))) (blkOk_by (by rfl)) (fun _ _ _ _ _ => (pg_name nd rfl (Or.inl rfl))) (fun _ _ _ _ _ => (ts_one (t_cmp od_isNot (g_kn k__law_place (hr.mono (by decide)) rfl (tkw_of takes0) (a_cons (g_var (pv 8)) a_nil)) g_non (nomark _)))) (fun _ _ _ _ _ => (g_F (g_var (pv 8)))))) a_nil))) nd rfl (Or.inl rfl))
  (b_cons (s_set (i := 6) (e_0 (g_tup (a_cons (g_F (g_var (pv 3))) (a_cons g_int a_nil)))) nd rfl (Or.inl rfl))
  (b_cons (s_set (i := 7) (e_0 (g_bin od_mod (g_bin od_div (g_var (pv 2)) g_int) g_int)) nd rfl (Or.inl rfl))
  (b_cons (s_if (t_cmp (od_eq hu64) (g_var (pv 7)) g_int (nomark _)) (b_one (s_set (i := 6) (e_0 (g_tup (a_cons (g_bin od_add (g_bi (fr := false) bi_len rfl n_len (by decide +kernel) (a_cons (g_var (pv 0)) a_nil)) (g_var (pv 4))) (a_cons g_int a_nil)))) nd rfl (Or.inl rfl)))
  b_nil)
  (b_cons (s_if (t_cmp (od_eq hu64) (g_var (pv 7)) g_int (nomark _)) (b_one (s_set (i := 6) (e_0 (g_tup (a_cons (g_bin od_sub (g_neg g_int) (g_var (pv 4))) (a_cons g_int a_nil)))) nd rfl (Or.inl rfl)))
  b_nil)
  (b_cons (s_if (t_cmp (od_eq hu64) (g_var (pv 7)) g_int (nomark _)) (b_one (s_set (i := 6) (e_0 (g_tup (a_cons (g_F (g_var (pv 3))) (a_cons (g_bin od_add (g_bi (fr := false) (bi_max2 rfl) rfl n_max (by decide +kernel) (a_cons (g_view g_int) (a_cons (g_var (pv 5)) a_nil))) (g_var (pv 4))) a_nil)))) nd rfl (Or.inl rfl)))
  b_nil)
  (b_cons (s_if (t_cmp (od_eq hu64) (g_var (pv 7)) g_int (nomark _)) (b_one (s_set (i := 6) (e_0 (g_tup (a_cons (g_F (g_var (pv 3))) (a_cons (g_bin od_sub (g_neg g_int) (g_var (pv 4))) a_nil)))) nd rfl (Or.inl rfl)))
  b_nil)
  (b_cons (s_if (t_pw (w_and (t_cmp (od_eq hu64) (g_var (pv 7)) g_int (nomark _)) (w_and1 (t_cmp (od_ne hu64) (g_var (pv 1)) (g_lst a_nil) (nomark _))))) (b_one (s_set (i := 6) (e_0 (g_slice (g_ix hu1 (g_var (pv 1)) (g_bin od_mod (g_bin od_div (g_var (pv 2)) g_int) (g_bi (fr := false) bi_len rfl n_len (by decide +kernel) (a_cons (g_var (pv 1)) a_nil))) (fun _ _ => rfl)) o_none (o_some g_int))) nd rfl (Or.inl rfl)))
  b_nil)
  (b_one (s_ret (e_0 (g_tup (a_cons (g_F (g_ix hu1 (g_var (pv 6)) g_int (fun _ _ => rfl))) (a_cons (g_F (g_ix hu1 (g_var (pv 6)) g_int (fun _ _ => rfl))) (a_cons (g_ix hu1 (g_lst (a_cons g_str (a_cons g_str a_nil))) (g_bin od_mod (g_bin od_div (g_var (pv 2)) g_int) g_int) (fun _ _ => rfl)) a_nil)))))))))))))))))
theorem sc__law_is_small : FnScope ["_law_program", "_law_many", "_law_size", "_law_hand", "_law_gap", "_law_deed_here"] ["_law_program"] (defScope (top 89)) := ⟨rfl, rfl, rfl, by decide +kernel, rfl, by decide +kernel, by decide +kernel⟩
theorem ok__law_is_small {f : Addr} {fd : FuncData} (F : FunD K "_law_is_small" "_law_is_small" (defArgs (top 89)) (defBody (top 89)) (defScope (top 89)) [] [] f fd) (n_len : mg "len" = none) (n_int : mg "int" = none) (n_sum : mg "sum" = none) (k__law_gaps : Kn P w K mg base 2 "_law_gaps" ["_law_program"] [] sp__law_gaps) (k__law_place : Kn P w K mg base 1 "_law_place" ["_law_deed_here"] [] sp__law_place) : FnD P w K mg base 3 f fd ["_law_program"] sp__law_is_small := by
  have nd := sc__law_is_small.nd
  refine fn_pure F sc__law_is_small len__law_is_small (fun cdv A outer s H E hr => ?_) sem__law_is_small
  have hu1 := hu_of hr
  have hu64 := hr.units
  have hu65 : (A.deeper (envOfC "_law_is_small" (defScope (top 89)) s.heap.objs.size f cdv)).units + 65 < cLine := by have := hr.un; omega
  have hu66 : (A.deeper (envOfC "_law_is_small" (defScope (top 89)) s.heap.objs.size f cdv)).units + 66 < cLine := by have := hr.un; omega
  have tk0 : Takes (cxOf (L2.CX P w) P w K mg base ["_law_program", "_law_many", "_law_size", "_law_hand", "_law_gap", "_law_deed_here"] "_law_is_small" (defScope (top 89)) f cdv A outer s H E) (wX E) := takes_of rfl rfl rfl rfl
  have tk := tkw_of tk0
  exact (b_cons (s_setLc (i := 1) (own := [("_law_hand", 3)]) rfl nd rfl rfl (sw_true rfl rfl rfl (by decide +kernel)) (by decide) (i_lst (g_F (g_var (pv 0)))) (blkOk_by (by rfl)) (fun _ _ _ _ _ => (pg_name nd rfl (Or.inl rfl))) (fun _ _ _ _ _ => ts_nil) (fun _ _ _ _ _ => (g_bi (fr := false) bi_len rfl n_len (by decide +kernel) (a_cons (g_var (pv 3)) a_nil))))
  (b_cons (s_set (i := 2) (e_0 (g_bi (fr := false) bi_len rfl n_len (by decide +kernel) (a_cons (g_view (g_lc (own := [("_law_gap", 4)]) rfl nd (by decide) (i_lst (g_kn k__law_gaps (hr.mono (by decide)) rfl tk (a_cons (g_var (pv 0)) a_nil))) (blkOk_by (by rfl)) (fun _ _ _ _ _ => (pg_name nd rfl (Or.inl rfl))) (fun _ _ _ _ _ => ts_nil) (fun _ _ _ _ _ => (g_F (g_var (pv 4)))))) a_nil))) nd rfl (Or.inl rfl))
  (b_cons (s_for (t := (.nm 3)) (passes_of rfl) rfl (i_lst (g_F (g_var (pv 0)))) (pg_name nd rfl (Or.inl rfl)) (b_one (s_set (i := 2) (e_0 (g_bin od_add (g_var (pv 2)) (g_ty (fr := false) ty_int rfl n_int (by decide +kernel) (a_cons (g_view (g_cmp (od_ne hu64) (g_lc (own := [("_law_deed_here", 5)]) rfl nd (by decide) (i_lst (g_F (g_var (pv 3)))) (blkOk_by (by rfl)) (fun _ _ _ _ _ => (pg_name nd rfl (Or.inl rfl))) (fun _ _ _ _ _ => (ts_one (t_cmp od_isNot (g_kn k__law_place (hr.mono (by decide)) rfl (tkw_of takes0) (a_cons (g_var (pv 5)) a_nil)) g_non (nomark _)))) (fun _ _ _ _ _ => (g_F (g_var (pv 5))))) (g_lst a_nil) (nomark _))) a_nil)))) nd rfl (Or.inl rfl))))
  (b_one (s_ret (e_0 (g_and (g_cmp od_le (g_bi (fr := false) bi_len rfl n_len (by decide +kernel) (a_cons (g_var (pv 0)) a_nil)) g_int (nomark _)) (g_and (g_cmp od_le (g_var (pv 2)) g_int (nomark _)) (g_one (g_cmp od_le (g_bi (fr := false) (bi_sum rfl) rfl n_sum (by decide +kernel) (a_cons (g_var (pv 1)) a_nil)) g_int (nomark _)))))))))))
theorem sc_law : FnScope ["_law_script", "_law_head", "_law_turn", "_law_many", "_law_program", "_law_some", "_law_x", "_law_spoiled", "_law_way", "_law_handed", "_law_hand"] ["_law_script"] (defScope (top 90)) := ⟨rfl, rfl, rfl, by decide +kernel, rfl, by decide +kernel, by decide +kernel⟩
theorem ok_law {f : Addr} {fd : FuncData} (F : FunD K "law" "law" (defArgs (top 90)) (defBody (top 90)) (defScope (top 90)) [] [] f fd) (n_len : mg "len" = none) (n_list : mg "list" = none) (k__law_draw : Kn P w K mg base 1 "_law_draw" ["_law_script", "_law_k"] [] sp__law_draw) (k__law_long : Kn P w K mg base 3 "_law_long" ["_law_script", "_law_many"] [] sp__law_long) (k__law_stops : Kn P w K mg base 3 "_law_stops" ["_law_program", "_law_script", "_law_start"] [] sp__law_stops) (k__law_gaps : Kn P w K mg base 2 "_law_gaps" ["_law_program"] [] sp__law_gaps) (k__law_no_stop : Kn P w K mg base 2 "_law_no_stop" ["_law_program", "_law_some", "_law_x"] [] sp__law_no_stop) (k__law_refusal : Kn P w K mg base 7 "_law_refusal" ["_law_program", "_law_some", "_law_way"] [] sp__law_refusal) (k_fenced : Kn P w K mg base 5 "fenced" ["program", "some"] [] sp_fenced) (k__law_stopped : Kn P w K mg base 2 "_law_stopped" ["_law_program", "_law_some"] [] sp__law_stopped) (k__law_is_small : Kn P w K mg base 3 "_law_is_small" ["_law_program"] [] sp__law_is_small) : FnD P w K mg base 8 f fd ["_law_script"] sp_law := by
  have nd := sc_law.nd
  refine fn_pure F sc_law len_law (fun cdv A outer s H E hr => ?_) sem_law
  have hu1 := hu_of hr
  have hu64 := hr.units
  have hu65 : (A.deeper (envOfC "law" (defScope (top 90)) s.heap.objs.size f cdv)).units + 65 < cLine := by have := hr.un; omega
  have hu66 : (A.deeper (envOfC "law" (defScope (top 90)) s.heap.objs.size f cdv)).units + 66 < cLine := by have := hr.un; omega
  have tk0 : Takes (cxOf (L2.CX P w) P w K mg base ["_law_script", "_law_head", "_law_turn", "_law_many", "_law_program", "_law_some", "_law_x", "_law_spoiled", "_law_way", "_law_handed", "_law_hand"] "law" (defScope (top 90)) f cdv A outer s H E) (wX E) := takes_of rfl rfl rfl rfl
  have tk := tkw_of tk0
  exact (b_cons (s_set (i := 1) (e_0 (g_kn k__law_draw (hr.mono (by decide)) rfl tk (a_cons (g_var (pv 0)) (a_cons (g_view g_int) a_nil)))) nd rfl (Or.inl rfl))
  (b_cons (s_set (i := 2) (e_0 (g_bin od_mod (g_bin od_mul (g_var (pv 1)) g_int) g_int)) nd rfl (Or.inl rfl))
  (b_cons (s_set (i := 3) (e_0 (g_bin od_add g_int (g_bin od_mod (g_var (pv 2)) g_int))) nd rfl (Or.inl rfl))
  (b_cons (s_if (t_cmp (od_eq hu64) (g_bin od_mod (g_bin od_div (g_var (pv 2)) g_int) g_int) g_int (nomark _)) (b_one (s_set (i := 3) (e_0 (g_bin od_add g_int (g_bin od_mod (g_bin od_div (g_var (pv 2)) g_int) g_int))) nd rfl (Or.inl rfl)))
  b_nil)
  (b_cons (s_if (t_cmp (od_eq hu64) (g_bin od_mod (g_bin od_div (g_var (pv 2)) g_int) g_int) g_int (nomark _)) (b_one (s_set (i := 3) (e_0 (g_bin od_mod (g_bin od_div (g_var (pv 2)) g_int) g_int)) nd rfl (Or.inl rfl)))
  b_nil)
  (b_cons (s_set (i := 4) (e_0 (g_kn k__law_long (hr.mono (by decide)) rfl tk (a_cons (g_var (pv 0)) (a_cons (g_var (pv 3)) a_nil)))) nd rfl (Or.inl rfl))
  (b_cons (s_set (i := 5) (e_0 (g_kn k__law_stops (hr.mono (by decide)) rfl tk (a_cons (g_var (pv 4)) (a_cons (g_var (pv 0)) (a_cons (g_view (g_bin od_add g_int (g_var (pv 3)))) a_nil))))) nd rfl (Or.inl rfl))
  (b_cons (s_set (i := 6) (e_0 (g_kn k__law_draw (hr.mono (by decide)) rfl tk (a_cons (g_var (pv 0)) (a_cons (g_view (g_bin od_add (g_bin od_add g_int (g_var (pv 3))) (g_bi (fr := false) bi_len rfl n_len (by decide +kernel) (a_cons (g_view (g_kn k__law_gaps (hr.mono (by decide)) rfl tk (a_cons (g_var (pv 4)) a_nil))) a_nil)))) a_nil)))) nd rfl (Or.inl rfl))
  (b_cons (s_set (i := 7) (e_0 (g_ty (fr := false) (ty_list rfl) rfl n_list (by decide +kernel) (a_cons (g_var (pv 5)) a_nil))) nd rfl (Or.inl rfl))
  (b_cons (s_expr (e_lm PySem.F.slot_list_insert PySem.F.type_list_insert ml_ins (p_var (pv 7)) (a_cons (g_bin od_mod (g_bin od_div (g_var (pv 6)) g_int) (g_bin od_add (g_bi (fr := false) bi_len rfl n_len (by decide +kernel) (a_cons (g_var (pv 5)) a_nil)) g_int)) (a_cons (g_kn k__law_no_stop (hr.mono (by decide)) rfl tk (a_cons (g_var (pv 4)) (a_cons (g_var (pv 5)) (a_cons (g_var (pv 6)) a_nil)))) a_nil))))
  (b_cons (s_set (i := 8) (e_0 (g_bin od_mod (g_bin od_div (g_var (pv 6)) g_int) g_int)) nd rfl (Or.inl rfl))
  (b_frz (i := 7) (b_frz (i := 4) (b_cons (s_set (i := 9) (e_0 (g_lst (a_cons (g_lc (own := [("_law_hand", 10)]) rfl nd (by decide) (i_lst (g_F (g_var (pv 4)))) (blkOk_by (by rfl)) (fun _ _ _ _ _ => (pg_name nd rfl (Or.inl rfl))) (fun _ _ _ _ _ => ts_nil) (fun _ _ _ _ _ => (g_ty (fr := false) (ty_list rfl) rfl n_list (by decide +kernel) (a_cons (g_var (pv 10)) a_nil)))) (a_cons (g_ty (fr := false) (ty_list rfl) rfl n_list (by decide +kernel) (a_cons (g_var (pv 7)) a_nil)) a_nil)))) nd rfl (Or.inl rfl))
  (b_cons (s_if (t_pw (w_or (t_cmp (od_ne hu64) (g_kn k__law_refusal (hr.mono (by decide)) rfl tk (a_cons (g_ix hu1 (g_var (pv 9)) g_int (fun _ _ => rfl)) (a_cons (g_ix hu1 (g_var (pv 9)) g_int (fun _ _ => rfl)) (a_cons (g_var (pv 8)) a_nil)))) (g_lst (a_cons g_int (a_cons g_int a_nil))) (nomark _)) (w_or1 (t_cmp (od_ne hu64) (g_var (pv 9)) (g_lst (a_cons (g_F (g_var (pv 4))) (a_cons (g_F (g_var (pv 7))) a_nil))) (nomark _))))) (b_one (s_ret (e_0 g_bl)))
  b_nil)
  (b_cons (s_if (t_pw (w_or (t_cmp (od_ne hu64) (g_kn k__law_refusal (hr.mono (by decide)) rfl tk (a_cons (g_ix hu1 (g_var (pv 9)) g_int (fun _ _ => rfl)) (a_cons (g_var (pv 5)) (a_cons (g_view g_int) a_nil)))) (g_lst a_nil) (nomark _)) (w_or1 (t_cmp (od_ne hu64) (g_kn k_fenced (hr.mono (by decide)) rfl tk (a_cons (g_ix hu1 (g_var (pv 9)) g_int (fun _ _ => rfl)) (a_cons (g_var (pv 5)) a_nil))) (g_kn k__law_stopped (hr.mono (by decide)) rfl tk (a_cons (g_var (pv 4)) (a_cons (g_var (pv 5)) a_nil))) (nomark _))))) (b_one (s_ret (e_0 g_bl)))
  b_nil)
  (b_one (s_ret (e_0 (g_or (g_kn k__law_is_small (hr.mono (by decide)) rfl tk (a_cons (g_var (pv 4)) a_nil)) (g_one (g_cmp (od_eq hu64) (g_kn k__law_refusal (hr.mono (by decide)) rfl tk (a_cons (g_ix hu1 (g_var (pv 9)) g_int (fun _ _ => rfl)) (a_cons (g_var (pv 5)) (a_cons (g_view (g_bin od_mod (g_var (pv 8)) g_int)) a_nil)))) (g_lst (a_cons g_int (a_cons g_int a_nil))) (nomark _)))))))))))))))))))))))

end
def d_place_of : He.DefD := ⟨("place_of", none), "place_of", "place_of", defArgs (top 2), defBody (top 2), defScope (top 2), [], []⟩
def d_points : He.DefD := ⟨("points", none), "points", "points", defArgs (top 22), defBody (top 22), defScope (top 22), [], []⟩
def d_is_small : He.DefD := ⟨("is_small", none), "is_small", "is_small", defArgs (top 25), defBody (top 25), defScope (top 25), [], []⟩
def d_gaps : He.DefD := ⟨("gaps", none), "gaps", "gaps", defArgs (top 27), defBody (top 27), defScope (top 27), [], []⟩
def d_words_by : He.DefD := ⟨("words_by", none), "words_by", "words_by", defArgs (top 28), defBody (top 28), defScope (top 28), [], []⟩
def d_hand_with : He.DefD := ⟨("hand_with", none), "hand_with", "hand_with", defArgs (top 29), defBody (top 29), defScope (top 29), [], []⟩
def d_fenced : He.DefD := ⟨("fenced", none), "fenced", "fenced", defArgs (top 30), defBody (top 30), defScope (top 30), [], []⟩
def d_tales : He.DefD := ⟨("tales", none), "tales", "tales", defArgs (top 71), defBody (top 71), defScope (top 71), [.int 2], []⟩
def d_strange : He.DefD := ⟨("strange", none), "strange", "strange", defArgs (top 73), defBody (top 73), defScope (top 73), [], []⟩
def d_let_by : He.DefD := ⟨("let_by", none), "let_by", "let_by", defArgs (top 74), defBody (top 74), defScope (top 74), [], []⟩
def d_shows : He.DefD := ⟨("shows", none), "shows", "shows", defArgs (top 75), defBody (top 75), defScope (top 75), [.int 2], []⟩
def d__law_draw : He.DefD := ⟨("_law_draw", none), "_law_draw", "_law_draw", defArgs (top 77), defBody (top 77), defScope (top 77), [], []⟩
def d__law_names : He.DefD := ⟨("_law_names", none), "_law_names", "_law_names", defArgs (top 78), defBody (top 78), defScope (top 78), [], []⟩
def d__law_number : He.DefD := ⟨("_law_number", none), "_law_number", "_law_number", defArgs (top 79), defBody (top 79), defScope (top 79), [], []⟩
def d__law_place : He.DefD := ⟨("_law_place", none), "_law_place", "_law_place", defArgs (top 80), defBody (top 80), defScope (top 80), [], []⟩
def d__law_deed : He.DefD := ⟨("_law_deed", none), "_law_deed", "_law_deed", defArgs (top 81), defBody (top 81), defScope (top 81), [], []⟩
def d__law_long : He.DefD := ⟨("_law_long", none), "_law_long", "_law_long", defArgs (top 82), defBody (top 82), defScope (top 82), [], []⟩
def d__law_gaps : He.DefD := ⟨("_law_gaps", none), "_law_gaps", "_law_gaps", defArgs (top 83), defBody (top 83), defScope (top 83), [], []⟩
def d__law_stops : He.DefD := ⟨("_law_stops", none), "_law_stops", "_law_stops", defArgs (top 84), defBody (top 84), defScope (top 84), [], []⟩
def d__law_stopped : He.DefD := ⟨("_law_stopped", none), "_law_stopped", "_law_stopped", defArgs (top 85), defBody (top 85), defScope (top 85), [], []⟩
def d__law_kinds : He.DefD := ⟨("_law_kinds", none), "_law_kinds", "_law_kinds", defArgs (top 86), defBody (top 86), defScope (top 86), [], []⟩
def d__law_refusal : He.DefD := ⟨("_law_refusal", none), "_law_refusal", "_law_refusal", defArgs (top 87), defBody (top 87), defScope (top 87), [], []⟩
def d__law_no_stop : He.DefD := ⟨("_law_no_stop", none), "_law_no_stop", "_law_no_stop", defArgs (top 88), defBody (top 88), defScope (top 88), [], []⟩
def d__law_is_small : He.DefD := ⟨("_law_is_small", none), "_law_is_small", "_law_is_small", defArgs (top 89), defBody (top 89), defScope (top 89), [], []⟩
def d_law : He.DefD := ⟨("law", none), "law", "law", defArgs (top 90), defBody (top 90), defScope (top 90), [], []⟩
def fn : List He.DefD := [d_place_of, d_points, d_is_small, d_gaps, d_words_by, d_hand_with, d_fenced, d_tales, d_strange, d_let_by, d_shows, d__law_draw, d__law_names, d__law_number, d__law_place, d__law_deed, d__law_long, d__law_gaps, d__law_stops, d__law_stopped, d__law_kinds, d__law_refusal, d__law_no_stop, d__law_is_small, d_law]
def fa : List He.Fa := [.glo "place_of", .glo "points", .glo "is_small", .glo "gaps", .glo "words_by", .glo "hand_with", .glo "fenced", .glo "tales", .glo "strange", .glo "let_by", .glo "shows", .glo "_law_draw", .glo "_law_names", .glo "_law_number", .glo "_law_place", .glo "_law_deed", .glo "_law_long", .glo "_law_gaps", .glo "_law_stops", .glo "_law_stopped", .glo "_law_kinds", .glo "_law_refusal", .glo "_law_no_stop", .glo "_law_is_small", .glo "law", .glo "LateError", .exc "LateError", .glo "NoText", .glo "TooGreat", .exc "TooGreat", .glo "NoMove", .exc "NoMove", .glo "NotEnded", .exc "NotEnded", .glo "NoTale", .exc "NoTale", .glo "NoOrder", .exc "NoOrder", .glo "NoGap", .exc "NoGap", .glo "NoRun", .exc "NoRun", .glo "NoRow", .exc "NoRow", .glo "NoName", .exc "NoName", .free "enumerate", .free "len", .free "range", .free "sum", .free "int", .free "isinstance", .free "ValueError", .free "max", .free "list"]
def nm0 : List PySem.Str := ["_wall", "place_of", "is_write", "is_read", "number_of", "cup_of", "guard_of", "holds", "LateError", "NoText", "TooGreat", "NoMove", "NotEnded", "NoTale", "NoOrder", "NoGap", "NoRun", "NoRow", "NoName", "points", "deed_at", "places", "is_small", "gaps", "words_by", "hand_with", "fenced", "deeds_of", "number_at", "sources_of"]
def nm1 : List PySem.Str := ["walk", "check_sources", "check_lines", "looked", "points_of", "between", "is_kept", "hand_edges", "from_edges", "line_edges", "ahead_edges", "own_last", "own_edges", "edges", "incoming", "step_back", "first_free", "ring_back", "judged", "Machine", "Late", "Loose", "machine", "sight_of", "told_by", "key_of", "tale_by", "bring_to", "run_by", "plain_move"]
def nm2 : List PySem.Str := ["hasten", "tales", "strange", "let_by", "shows", "_law_draw", "_law_names", "_law_number", "_law_place", "_law_deed", "_law_long", "_law_gaps", "_law_stops", "_law_stopped", "_law_kinds", "_law_refusal", "_law_no_stop", "_law_is_small"]
def nms : List PySem.Str := nm0 ++ nm1 ++ nm2
def as0 : List Nat := [3, 21, 28, 35, 42, 49, 56, 63, 70, 80, 100, 112, 124, 136, 148, 160, 172, 184, 196, 208, 215, 220, 227, 232, 237, 244, 251, 256, 263, 270]
def as1 : List Nat := [275, 282, 287, 292, 299, 306, 313, 320, 327, 334, 341, 348, 355, 362, 370, 377, 384, 391, 398, 404, 560, 595, 628, 638, 645, 650, 655, 663, 670, 678]
def as2 : List Nat := [685, 692, 700, 707, 714, 722, 729, 736, 743, 750, 757, 762, 767, 774, 779, 786, 791, 796, 801, 806, 20, 27, 34, 41, 48, 55, 62, 69, 79, 99]
def as3 : List Nat := [97, 96, 111, 123, 135, 147, 159, 171, 183, 195, 207, 214, 219, 226, 231, 236, 243, 250, 255, 262, 269, 274, 281, 286, 291, 298, 305, 312, 319, 326]
def as4 : List Nat := [333, 340, 347, 354, 361, 369, 363, 376, 383, 390, 397, 403, 399, 559, 416, 415, 423, 422, 430, 429, 437, 436, 444, 443, 451, 450, 458, 457, 465, 464]
def as5 : List Nat := [472, 471, 479, 478, 486, 485, 493, 492, 500, 499, 507, 506, 514, 513, 519, 518, 526, 525, 533, 532, 538, 537, 545, 544, 552, 551, 557, 556, 594, 578]
def as6 : List Nat := [577, 585, 584, 592, 591, 627, 611, 610, 618, 617, 625, 624, 637, 631, 644, 649, 654, 662, 656, 669, 677, 671, 684, 691, 699, 693, 706, 713, 721, 715]
def as7 : List Nat := [728, 735, 742, 749, 756, 761, 766, 773, 778, 785, 790, 795, 800, 805]
def asL : List Nat := as0 ++ as1 ++ as2 ++ as3 ++ as4 ++ as5 ++ as6 ++ as7
def excB (K : PySem.W.Frag) (D : Addr) : Bool := decide (PySem.W.findIn K (.ref D) "__getattribute__" = some (some (Value.builtin "BaseException.__getattribute__"))) && (decide (PySem.W.findIn K (.ref D) "__getattr__" = some none) && (decide (PySem.W.subIn K (.ref D) (.type "BaseException") = some true) && (PySem.W.hasDictIn K D &&
  (decide (PySem.W.findIn K (.ref D) "__class__" = some (some (Value.builtin "object.__class__"))) && (decide (PySem.W.specialIn K (.builtin "object.__class__") "__get__" = some (some (Value.builtin "getset_descriptor.__get__"))) && (decide (PySem.W.takesIn K (.builtin "object.__class__") = some true) && decide (PySem.W.mroIn K D (.type "object") = some true)))))))
theorem excB_ok {K : PySem.W.Frag} {D : Addr} (h : excB K D = true) : ExcC K D := by
  obtain ⟨h1, h⟩ := DL.ba h
  obtain ⟨h2, h⟩ := DL.ba h
  obtain ⟨h3, h⟩ := DL.ba h
  obtain ⟨h4, h⟩ := DL.ba h
  obtain ⟨h5, h⟩ := DL.ba h
  obtain ⟨h6, h⟩ := DL.ba h
  obtain ⟨h7, h8⟩ := DL.ba h
  exact ⟨of_decide_eq_true h1, of_decide_eq_true h2, of_decide_eq_true h3, h4, of_decide_eq_true h5, of_decide_eq_true h6, of_decide_eq_true h7, of_decide_eq_true h8⟩
def exK (K : PySem.W.Frag) : Bool := exTab.all fun C => excB K (He.ga K C) && (decide (PySem.W.exmOne K (.ref (He.ga K C)) (.ref (He.ga K "LateError")) = some true) && (decide (PySem.W.kitOne K (.ref (He.ga K C)) (.type "ValueError") = some (bE C "ValueError")) &&
  exNames.all fun x => decide (PySem.W.kitOne K (.ref (He.ga K C)) (.ref (He.ga K x)) = some (bE C x))))
abbrev R : PySem.W.OpenRow := PySem.W.OpenLaw.row PySem.Challenge.rw_latewrite_k62_no_gap
abbrev hk : PySem.W.Hook := He.hookX asL fa fn exK
def ob (s : PySem.W.SharedT) : He.AlX := He.obsX asL fa fn exK (HandSHeadRun.getT s)
theorem ob_eq (s : PySem.W.SharedT) : ob s = hk.obs s.abs := He.obsX_eq (HandSHeadRun.getT_eq s)
theorem run (w : World) : HandSHeadRun.RunEq R (PySem.W.view R.prog [90]) hk ob 9000 nms w := by
  intro os
  kernel_rfl
theorem facts {P : Program} {w : World} {K : PySem.W.Frag} {h : Heap} {mg : Str → Option Value} {f : Addr} (X : K.In h) (G : h.Ns mainGlobals mg) (hfa : mg ("law" : Str) = some (.ref f)) (c : He.SaysD fa fn K) (cx : exK K = true) :
    ∃ fd : FuncData, (∀ (s : Shared) (v : Value), BindsTo s fd ⟨[v], []⟩ [("_law_script", v)]) ∧ ∀ base : Heap, K.In base → base.Ns mainGlobals mg → FnOk P w K mg base L2.CX0 8 f fd ["_law_script"] (fun vs H Q _ => spOf K sp_law vs H Q fun _ _ _ => False) := by
  obtain ⟨fd_place_of, F_place_of⟩ := c.def_ 0 (d := d_place_of) rfl
  have g_place_of := He.glo_ok X G (c.fact 0 (f := .glo "place_of") rfl)
  obtain ⟨fd_points, F_points⟩ := c.def_ 1 (d := d_points) rfl
  have g_points := He.glo_ok X G (c.fact 1 (f := .glo "points") rfl)
  obtain ⟨fd_is_small, F_is_small⟩ := c.def_ 2 (d := d_is_small) rfl
  have g_is_small := He.glo_ok X G (c.fact 2 (f := .glo "is_small") rfl)
  obtain ⟨fd_gaps, F_gaps⟩ := c.def_ 3 (d := d_gaps) rfl
  have g_gaps := He.glo_ok X G (c.fact 3 (f := .glo "gaps") rfl)
  obtain ⟨fd_words_by, F_words_by⟩ := c.def_ 4 (d := d_words_by) rfl
  have g_words_by := He.glo_ok X G (c.fact 4 (f := .glo "words_by") rfl)
  obtain ⟨fd_hand_with, F_hand_with⟩ := c.def_ 5 (d := d_hand_with) rfl
  have g_hand_with := He.glo_ok X G (c.fact 5 (f := .glo "hand_with") rfl)
  obtain ⟨fd_fenced, F_fenced⟩ := c.def_ 6 (d := d_fenced) rfl
  have g_fenced := He.glo_ok X G (c.fact 6 (f := .glo "fenced") rfl)
  obtain ⟨fd_tales, F_tales⟩ := c.def_ 7 (d := d_tales) rfl
  have g_tales := He.glo_ok X G (c.fact 7 (f := .glo "tales") rfl)
  obtain ⟨fd_strange, F_strange⟩ := c.def_ 8 (d := d_strange) rfl
  have g_strange := He.glo_ok X G (c.fact 8 (f := .glo "strange") rfl)
  obtain ⟨fd_let_by, F_let_by⟩ := c.def_ 9 (d := d_let_by) rfl
  have g_let_by := He.glo_ok X G (c.fact 9 (f := .glo "let_by") rfl)
  obtain ⟨fd_shows, F_shows⟩ := c.def_ 10 (d := d_shows) rfl
  have g_shows := He.glo_ok X G (c.fact 10 (f := .glo "shows") rfl)
  obtain ⟨fd__law_draw, F__law_draw⟩ := c.def_ 11 (d := d__law_draw) rfl
  have g__law_draw := He.glo_ok X G (c.fact 11 (f := .glo "_law_draw") rfl)
  obtain ⟨fd__law_names, F__law_names⟩ := c.def_ 12 (d := d__law_names) rfl
  have g__law_names := He.glo_ok X G (c.fact 12 (f := .glo "_law_names") rfl)
  obtain ⟨fd__law_number, F__law_number⟩ := c.def_ 13 (d := d__law_number) rfl
  have g__law_number := He.glo_ok X G (c.fact 13 (f := .glo "_law_number") rfl)
  obtain ⟨fd__law_place, F__law_place⟩ := c.def_ 14 (d := d__law_place) rfl
  have g__law_place := He.glo_ok X G (c.fact 14 (f := .glo "_law_place") rfl)
  obtain ⟨fd__law_deed, F__law_deed⟩ := c.def_ 15 (d := d__law_deed) rfl
  have g__law_deed := He.glo_ok X G (c.fact 15 (f := .glo "_law_deed") rfl)
  obtain ⟨fd__law_long, F__law_long⟩ := c.def_ 16 (d := d__law_long) rfl
  have g__law_long := He.glo_ok X G (c.fact 16 (f := .glo "_law_long") rfl)
  obtain ⟨fd__law_gaps, F__law_gaps⟩ := c.def_ 17 (d := d__law_gaps) rfl
  have g__law_gaps := He.glo_ok X G (c.fact 17 (f := .glo "_law_gaps") rfl)
  obtain ⟨fd__law_stops, F__law_stops⟩ := c.def_ 18 (d := d__law_stops) rfl
  have g__law_stops := He.glo_ok X G (c.fact 18 (f := .glo "_law_stops") rfl)
  obtain ⟨fd__law_stopped, F__law_stopped⟩ := c.def_ 19 (d := d__law_stopped) rfl
  have g__law_stopped := He.glo_ok X G (c.fact 19 (f := .glo "_law_stopped") rfl)
  obtain ⟨fd__law_kinds, F__law_kinds⟩ := c.def_ 20 (d := d__law_kinds) rfl
  have g__law_kinds := He.glo_ok X G (c.fact 20 (f := .glo "_law_kinds") rfl)
  obtain ⟨fd__law_refusal, F__law_refusal⟩ := c.def_ 21 (d := d__law_refusal) rfl
  have g__law_refusal := He.glo_ok X G (c.fact 21 (f := .glo "_law_refusal") rfl)
  obtain ⟨fd__law_no_stop, F__law_no_stop⟩ := c.def_ 22 (d := d__law_no_stop) rfl
  have g__law_no_stop := He.glo_ok X G (c.fact 22 (f := .glo "_law_no_stop") rfl)
  obtain ⟨fd__law_is_small, F__law_is_small⟩ := c.def_ 23 (d := d__law_is_small) rfl
  have g__law_is_small := He.glo_ok X G (c.fact 23 (f := .glo "_law_is_small") rfl)
  obtain ⟨fd_law, F_law⟩ := c.def_ 24 (d := d_law) rfl
  have g_law := He.glo_ok X G (c.fact 24 (f := .glo "law") rfl)
  have n_enumerate := He.free_ok X G (c.fact 46 (f := .free "enumerate") rfl)
  have n_len := He.free_ok X G (c.fact 47 (f := .free "len") rfl)
  have n_range := He.free_ok X G (c.fact 48 (f := .free "range") rfl)
  have n_sum := He.free_ok X G (c.fact 49 (f := .free "sum") rfl)
  have n_int := He.free_ok X G (c.fact 50 (f := .free "int") rfl)
  have n_isinstance := He.free_ok X G (c.fact 51 (f := .free "isinstance") rfl)
  have n_ValueError := He.free_ok X G (c.fact 52 (f := .free "ValueError") rfl)
  have n_max := He.free_ok X G (c.fact 53 (f := .free "max") rfl)
  have n_list := He.free_ok X G (c.fact 54 (f := .free "list") rfl)
  have x_NoGap : XK K mg "NoGap" := by
    obtain ⟨a1, a2, a3, a4⟩ := He.exc_ok (c.fact 39 (f := .exc "NoGap") rfl)
    exact ⟨a1, He.glo_ok X G (c.fact 38 (f := .glo "NoGap") rfl), a2, a3, a4⟩
  have x_TooGreat : XK K mg "TooGreat" := by
    obtain ⟨a1, a2, a3, a4⟩ := He.exc_ok (c.fact 29 (f := .exc "TooGreat") rfl)
    exact ⟨a1, He.glo_ok X G (c.fact 28 (f := .glo "TooGreat") rfl), a2, a3, a4⟩
  have x_LateError : XK K mg "LateError" := by
    obtain ⟨a1, a2, a3, a4⟩ := He.exc_ok (c.fact 26 (f := .exc "LateError") rfl)
    exact ⟨a1, He.glo_ok X G (c.fact 25 (f := .glo "LateError") rfl), a2, a3, a4⟩
  have exq : ∀ C, C ∈ exTab → excB K (He.ga K C) = true ∧ PySem.W.exmOne K (.ref (He.ga K C)) (.ref (He.ga K "LateError")) = some true ∧ PySem.W.kitOne K (.ref (He.ga K C)) (.type "ValueError") = some (bE C "ValueError") ∧ ∀ x, x ∈ exNames → PySem.W.kitOne K (.ref (He.ga K C)) (.ref (He.ga K x)) = some (bE C x) := fun C hC => by
    have z := (List.all_eq_true.mp cx) C hC
    obtain ⟨z1, z⟩ := DL.ba z
    obtain ⟨z2, z⟩ := DL.ba z
    obtain ⟨z3, z4⟩ := DL.ba z
    exact ⟨z1, of_decide_eq_true z2, of_decide_eq_true z3, fun x hx => of_decide_eq_true ((List.all_eq_true.mp z4) x hx)⟩
  have hexE : ∀ C b, exmL C = some b → PySem.W.exmOne K (.ref (He.ga K C)) (.ref (He.ga K "LateError")) = some b := fun C b e => by
    unfold exmL at e
    split at e
    · rename_i hC
      cases e
      exact (exq C hC).2.1
    · cases e
  have gx : ∀ x, x ∈ exNames → mg x = some (.ref (He.ga K x)) := fun x hx => by
    have e : x = "NoGap" ∨ x = "TooGreat" ∨ x = "NoMove" ∨ x = "NoName" ∨ x = "NoOrder" ∨ x = "NoRow" ∨ x = "NoRun" ∨ x = "NoTale" ∨ x = "NoText" ∨ x = "NotEnded" := by simpa [exNames] using hx
    rcases e with rfl | rfl | rfl | rfl | rfl | rfl | rfl | rfl | rfl | rfl
    · exact He.glo_ok X G (c.fact 38 (f := .glo "NoGap") rfl)
    · exact He.glo_ok X G (c.fact 28 (f := .glo "TooGreat") rfl)
    · exact He.glo_ok X G (c.fact 30 (f := .glo "NoMove") rfl)
    · exact He.glo_ok X G (c.fact 44 (f := .glo "NoName") rfl)
    · exact He.glo_ok X G (c.fact 36 (f := .glo "NoOrder") rfl)
    · exact He.glo_ok X G (c.fact 42 (f := .glo "NoRow") rfl)
    · exact He.glo_ok X G (c.fact 40 (f := .glo "NoRun") rfl)
    · exact He.glo_ok X G (c.fact 34 (f := .glo "NoTale") rfl)
    · exact He.glo_ok X G (c.fact 27 (f := .glo "NoText") rfl)
    · exact He.glo_ok X G (c.fact 32 (f := .glo "NotEnded") rfl)
  refine ⟨fd_law, fun s v => FunD.bindsA (ps := ["_law_script"]) F_law (fun _ _ _ _ _ _ us hl => match us, hl with | [_], _ => rfl) s [v] rfl, fun base _ _ => ?_⟩
  have o_place_of := ok_place_of (P := P) (w := w) (mg := mg) (base := base) F_place_of 
  have k_place_of := kn_of F_place_of g_place_of o_place_of (fun _ _ _ _ _ _ us hl => match us, hl with | [_], _ => rfl)
  have o_points := ok_points (P := P) (w := w) (mg := mg) (base := base) F_points n_enumerate n_len n_range k_place_of
  have k_points := kn_of F_points g_points o_points (fun _ _ _ _ _ _ us hl => match us, hl with | [_], _ => rfl)
  have o_is_small := ok_is_small (P := P) (w := w) (mg := mg) (base := base) F_is_small n_len n_sum k_points
  have k_is_small := kn_of F_is_small g_is_small o_is_small (fun _ _ _ _ _ _ us hl => match us, hl with | [_], _ => rfl)
  have o_gaps := ok_gaps (P := P) (w := w) (mg := mg) (base := base) F_gaps k_points
  have k_gaps := kn_of F_gaps g_gaps o_gaps (fun _ _ _ _ _ _ us hl => match us, hl with | [_], _ => rfl)
  have o_words_by := ok_words_by (P := P) (w := w) (mg := mg) (base := base) F_words_by x_NoGap k_gaps
  have k_words_by := kn_of F_words_by g_words_by o_words_by (fun _ _ _ _ _ _ us hl => match us, hl with | [_, _], _ => rfl)
  have o_hand_with := ok_hand_with (P := P) (w := w) (mg := mg) (base := base) F_hand_with k_place_of
  have k_hand_with := kn_of F_hand_with g_hand_with o_hand_with (fun _ _ _ _ _ _ us hl => match us, hl with | [_, _, _], _ => rfl)
  have o_fenced := ok_fenced (P := P) (w := w) (mg := mg) (base := base) F_fenced n_enumerate k_words_by k_hand_with
  have k_fenced := kn_of F_fenced g_fenced o_fenced (fun _ _ _ _ _ _ us hl => match us, hl with | [_, _], _ => rfl)
  have o_tales := ok_tales (P := P) (w := w) (mg := mg) (base := base) F_tales x_TooGreat k_is_small
  have k_tales := kn_ofD F_tales g_tales o_tales 2 1 (List.cons_ne_nil _ _) rfl (fun _ _ _ _ _ _ _ us its h1 h2 => match us, its, h1, h2 with | [_, _], [_], _, _ => ⟨_, rfl, rfl⟩) (dds := []) (fun _ _ => .nil) rfl
  have o_strange := ok_strange (P := P) (w := w) (mg := mg) (base := base) F_strange k_tales
  have k_strange := kn_of F_strange g_strange o_strange (fun _ _ _ _ _ _ us hl => match us, hl with | [_, _], _ => rfl)
  have o_let_by := ok_let_by (P := P) (w := w) (mg := mg) (base := base) F_let_by 
  have k_let_by := kn_of F_let_by g_let_by o_let_by (fun _ _ _ _ _ _ us hl => match us, hl with | [_, _, _], _ => rfl)
  have o_shows := ok_shows (P := P) (w := w) (mg := mg) (base := base) F_shows k_fenced k_let_by k_strange
  have k_shows := kn_ofD F_shows g_shows o_shows 3 1 (List.cons_ne_nil _ _) rfl (fun _ _ _ _ _ _ _ us its h1 h2 => match us, its, h1, h2 with | [_, _, _], [_], _, _ => ⟨_, rfl, rfl⟩) (dds := []) (fun _ _ => .nil) rfl
  have k_shows_1 := kn_ofD F_shows g_shows o_shows 2 0 (List.cons_ne_nil _ _) rfl (fun _ _ _ _ _ _ _ us its h1 h2 => match us, its, h1, h2 with | [_, _], [_], _, _ => ⟨_, rfl, rfl⟩) (dds := [.int 2]) (fun _ _ => .cons _ _ _ _ [] [] (.int _) .nil) rfl
  have o__law_draw := ok__law_draw (P := P) (w := w) (mg := mg) (base := base) F__law_draw n_len
  have k__law_draw := kn_of F__law_draw g__law_draw o__law_draw (fun _ _ _ _ _ _ us hl => match us, hl with | [_, _], _ => rfl)
  have o__law_names := ok__law_names (P := P) (w := w) (mg := mg) (base := base) F__law_names n_range n_int
  have k__law_names := kn_of F__law_names g__law_names o__law_names (fun _ _ _ _ _ _ us hl => match us, hl with | [_], _ => rfl)
  have o__law_number := ok__law_number (P := P) (w := w) (mg := mg) (base := base) F__law_number 
  have k__law_number := kn_of F__law_number g__law_number o__law_number (fun _ _ _ _ _ _ us hl => match us, hl with | [_], _ => rfl)
  have o__law_place := ok__law_place (P := P) (w := w) (mg := mg) (base := base) F__law_place 
  have k__law_place := kn_of F__law_place g__law_place o__law_place (fun _ _ _ _ _ _ us hl => match us, hl with | [_], _ => rfl)
  have o__law_deed := ok__law_deed (P := P) (w := w) (mg := mg) (base := base) F__law_deed k__law_number
  have k__law_deed := kn_of F__law_deed g__law_deed o__law_deed (fun _ _ _ _ _ _ us hl => match us, hl with | [_, _, _], _ => rfl)
  have o__law_long := ok__law_long (P := P) (w := w) (mg := mg) (base := base) F__law_long n_range k__law_draw k__law_names k__law_deed
  have k__law_long := kn_of F__law_long g__law_long o__law_long (fun _ _ _ _ _ _ us hl => match us, hl with | [_, _], _ => rfl)
  have o__law_gaps := ok__law_gaps (P := P) (w := w) (mg := mg) (base := base) F__law_gaps n_len n_range k__law_place
  have k__law_gaps := kn_of F__law_gaps g__law_gaps o__law_gaps (fun _ _ _ _ _ _ us hl => match us, hl with | [_], _ => rfl)
  have o__law_stops := ok__law_stops (P := P) (w := w) (mg := mg) (base := base) F__law_stops n_enumerate n_len k__law_gaps k__law_draw
  have k__law_stops := kn_of F__law_stops g__law_stops o__law_stops (fun _ _ _ _ _ _ us hl => match us, hl with | [_, _, _], _ => rfl)
  have o__law_stopped := ok__law_stopped (P := P) (w := w) (mg := mg) (base := base) F__law_stopped n_len n_range k__law_place
  have k__law_stopped := kn_of F__law_stopped g__law_stopped o__law_stopped (fun _ _ _ _ _ _ us hl => match us, hl with | [_, _], _ => rfl)
  have kE__law_kinds : KnE P w K mg base 1 "_law_kinds" ["_law_error"] spKinds := ok__law_kinds F__law_kinds g__law_kinds n_isinstance n_ValueError gx (fun C hC => excB_ok (exq C hC).1) (fun C hC => (exq C hC).2.2.2) (fun C hC => (exq C hC).2.2.1)
  have o__law_refusal := ok__law_refusal (P := P) (w := w) (mg := mg) (base := base) F__law_refusal n_len n_range x_LateError k_fenced k_shows_1 k_shows kE__law_kinds hexE
  have k__law_refusal := kn_of F__law_refusal g__law_refusal o__law_refusal (fun _ _ _ _ _ _ us hl => match us, hl with | [_, _, _], _ => rfl)
  have o__law_no_stop := ok__law_no_stop (P := P) (w := w) (mg := mg) (base := base) F__law_no_stop n_len n_max k__law_place
  have k__law_no_stop := kn_of F__law_no_stop g__law_no_stop o__law_no_stop (fun _ _ _ _ _ _ us hl => match us, hl with | [_, _, _], _ => rfl)
  have o__law_is_small := ok__law_is_small (P := P) (w := w) (mg := mg) (base := base) F__law_is_small n_len n_int n_sum k__law_gaps k__law_place
  have k__law_is_small := kn_of F__law_is_small g__law_is_small o__law_is_small (fun _ _ _ _ _ _ us hl => match us, hl with | [_], _ => rfl)
  have o_law := ok_law (P := P) (w := w) (mg := mg) (base := base) F_law n_len n_list k__law_draw k__law_long k__law_stops k__law_gaps k__law_no_stop k__law_refusal k_fenced k__law_stopped k__law_is_small
  have e := hfa.symm.trans g_law
  cases e
  exact fn_no o_law
end Hd
open PySem PySem.W PySem.Calls PyProof.Rows
theorem PySem.Challenge.cw_latewrite_k62_no_gap_holds : PySem.Challenge.rw_latewrite_k62_no_gap.Holds := by
  w_on; o_law
  refine HandSHeadRun.head_any (r := OpenLaw.row PySem.Challenge.rw_latewrite_k62_no_gap) (q := view (OpenLaw.row PySem.Challenge.rw_latewrite_k62_no_gap).prog [90]) (H := Hd.hk) (ob := Hd.ob) (M := 9000) (loose := Hd.nms) (d := HandSHeadRun.topDef (OpenLaw.row PySem.Challenge.rw_latewrite_k62_no_gap).prog 90) (kwd := []) Hd.ob_eq
    (by kernel_rfl) (fun s => by kernel_rfl) Hd.run (by kernel_rfl) (by kernel_rfl) (by kernel_rfl) (by rfl) (by first | assumption | decide +kernel) (by decide +kernel) ⟨rfl, rfl, rfl, rfl, rfl, by decide +kernel⟩ ?hw ?hc
  case hw => w_witness2
  case hc =>
    refine L2.walk_ofE (l := PySem.Challenge.rw_latewrite_k62_no_gap) (n := 63) (k := 8) (x := "_law_script") (CX := L2.CX0) rfl (by decide) (by kernel_rfl) ⟨rfl, by decide, by decide⟩ ?F (fun _ _ _ _ z => z)
    case F =>
      intro w mg fa h Y G hmg0
      obtain ⟨K, KX, c, cx⟩ := Y
      have hmg : mg ("law" : PySem.Str) = some (.ref fa) := by
        have e : (HandSHeadRun.topDef (OpenLaw.row PySem.Challenge.rw_latewrite_k62_no_gap).prog 90).name = ("law" : PySem.Str) := by kernel_rfl
        rw [← e]
        exact hmg0
      obtain ⟨fd, hb, hF⟩ := Hd.facts (P := (PySem.Challenge.rw_latewrite_k62_no_gap).prog) (w := w) KX G hmg c cx
      exact ⟨K, fd, _, KX, hb, fun H a ns hl _ hS => ⟨H, [PL.scrD ns], (fun d => d = DL.D.bl true), (fun _ => False), L2.Same.refl H, .one (.con a _ _ hS (PL.scr_reps ns)), by simp, ⟨ns, rfl, hl, rfl⟩, fun d e v F' H' T V => by
        subst e
        cases V.rep
        rfl, fun _ e => e.elim⟩, hF⟩
