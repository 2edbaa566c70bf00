import PyProof.Rows.All
import Wide.All
import OpenK.AllK
import Wide.FinOn
import HandS.ForMost
import HandS.ForExc
import HandS.Flow
import HandS.Style
import HandS.IsInst
import HandS.Deep
import HandS.TupAny
import HandS.TupLe
import HandS.SortInts
import HandS.Wide
import HandS.TryMany
import HandS.Defaults
import HandS.Small
import HandS.RaiseMore
import HandS.More
import HandS.SetFor
import KE.KSortedM
import HandS.Zip
import HandS.Comp
import HandS.SortKw
import KE.DatumOrd
import HandS.Iter
import HandS.Star
import HandS.Conv
import PyProof.RulesMatch
import HandS.GenList
import HandS.Base
import HandS.HeadHook2
import HandS.Head2
import HandS.HeadEnd
import HandS.EndBits
import PyProof.FitsInt
import PySem.Challenge.RW_holdtap_k37_forced_differences
set_option Elab.async false
set_option linter.all false
set_option maxRecDepth 100000
set_option maxHeartbeats 2000000
/-! MP: data trees, live objects, the world that ties them to the abstract heap -/
namespace MP
open PySem PySem.Spec PyProof.Rows L2

/-- a value as a tree: ref n is the live object n; a list's tag is 0, or one more than the live object it stands for while that is lent -/
inductive D where
  | non | bl (b : Bool) | int (i : Int) | str (s : Str)
  | tup (xs : List D) | lst (t : Nat) (xs : List D) | ref (n : Nat)
  | dct (ks : List Key) (xs : List D)
  deriving Inhabited

mutual
def beqD : D → D → Bool
  | .non, .non => true
  | .bl a, .bl b => decide (a = b)
  | .int a, .int b => decide (a = b)
  | .str a, .str b => decide (a = b)
  | .tup a, .tup b => beqDs a b
  | .lst t a, .lst u b => decide (t = u) && beqDs a b
  | .ref a, .ref b => decide (a = b)
  | .dct k a, .dct l b => decide (k = l) && beqDs a b
  | _, _ => false
def beqDs : List D → List D → Bool
  | [], [] => true
  | a :: as, b :: bs => beqD a b && beqDs as bs
  | _, _ => false
end
mutual
theorem beqD_self : ∀ a : D, beqD a a = true
  | .non => by simp [beqD]
  | .bl _ => by simp [beqD]
  | .int _ => by simp [beqD]
  | .str _ => by simp [beqD]
  | .tup a => by simp [beqD, beqDs_self a]
  | .lst _ a => by simp [beqD, beqDs_self a]
  | .ref _ => by simp [beqD]
  | .dct _ a => by simp [beqD, beqDs_self a]
theorem beqDs_self : ∀ a : List D, beqDs a a = true
  | [] => by simp [beqDs]
  | a :: as => by simp [beqDs, beqD_self a, beqDs_self as]
end
mutual
theorem beqD_eq : ∀ (a b : D), beqD a b = true → a = b
  | .non, b, h => by cases b <;> simp_all [beqD]
  | .bl _, b, h => by cases b <;> simp_all [beqD]
  | .int _, b, h => by cases b <;> simp_all [beqD]
  | .str _, b, h => by cases b <;> simp_all [beqD]
  | .tup a, b, h => by
    cases b with
    | tup c => simp only [beqD] at h; rw [beqDs_eq a c h]
    | _ => simp [beqD] at h
  | .lst _ a, b, h => by
    cases b with
    | lst _ c => simp only [beqD, Bool.and_eq_true, decide_eq_true_eq] at h; rw [h.1, beqDs_eq a c h.2]
    | _ => simp [beqD] at h
  | .ref _, b, h => by cases b <;> simp_all [beqD]
  | .dct _ a, b, h => by
    cases b with
    | dct _ c => simp only [beqD, Bool.and_eq_true, decide_eq_true_eq] at h; rw [h.1, beqDs_eq a c h.2]
    | _ => simp [beqD] at h
theorem beqDs_eq : ∀ (a b : List D), beqDs a b = true → a = b
  | [], b, h => by cases b <;> simp_all [beqDs]
  | a :: as, b, h => by
    cases b with
    | nil => simp [beqDs] at h
    | cons c cs => simp only [beqDs, Bool.and_eq_true] at h; rw [beqD_eq a c h.1, beqDs_eq as cs h.2]
end
instance : DecidableEq D := fun a b => if h : beqD a b = true then .isTrue (beqD_eq a b h) else .isFalse fun e => h (by rw [e]; exact beqD_self b)

/-- a live object -/
inductive LO where
  | lst (xs : List D) | dic (kvs : List (Key × D)) | ins (C : Str) (fs : List (Str × D)) | gone
  deriving Inhabited, DecidableEq
abbrev Live := List LO
abbrev Ev := List (Option D)

/-- an expression's end -/
inductive Res (α : Type) where
  | ok (a : α) (L : Live) | exc (C : Str) (fs : List (Str × D)) (L : Live) | stuck
def Res.bind {α β : Type} : Res α → (α → Live → Res β) → Res β
  | .ok a L, f => f a L
  | .exc C fs L, _ => .exc C fs L
  | .stuck, _ => .stuck
@[simp] theorem Res.bind_ok {α β : Type} (a : α) (L : Live) (f : α → Live → Res β) : (Res.ok a L).bind f = f a L := rfl
@[simp] theorem Res.bind_exc {α β : Type} (C : Str) (fs : List (Str × D)) (L : Live) (f : α → Live → Res β) : (Res.exc C fs L).bind f = .exc C fs L := rfl
@[simp] theorem Res.bind_stuck {α β : Type} (f : α → Live → Res β) : (Res.stuck : Res α).bind f = .stuck := rfl
theorem Res.bind_assoc {α β γ : Type} (r : Res α) (f : α → Live → Res β) (g : β → Live → Res γ) : (r.bind f).bind g = r.bind fun a L => (f a L).bind g := by
  cases r <;> rfl

/-! ### the world -/
structure Wd where
  ι : Nat → Option Addr
  F : Hp
  bor : List Addr

/-- what does not hang on the turn: the written part, where a class stands -/
structure Gv where
  K : PySem.W.Frag
  cls : Str → Option Addr
  gu : Bool

section
variable (G : Gv)
mutual
def RelD (wd : Wd) : V → D → Prop
  | v, .non => v = .non
  | v, .bl b => v = .bl b
  | v, .int i => v = .int i
  | v, .str s => v = .str s
  | v, .tup ds => ∃ a xs, v = .ref a ∧ SqT G.K wd.F a xs ∧ RelDs wd xs ds
  | v, .lst t ds => ∃ a xs, v = .ref a ∧ Rd wd.F a (.lst xs) ∧ RelDs wd xs ds ∧ (t = 0 → a ∉ wd.bor) ∧ ∀ k, t = k + 1 → wd.ι k = some a
  | v, .ref n => ∃ a, wd.ι n = some a ∧ v = .ref a
  | v, .dct ks ds => ∃ a ys, v = .ref a ∧ wd.F a = some (.dK ys) ∧ ys.map Prod.fst = ks ∧ RelDs wd (ys.map Prod.snd) ds
def RelDs (wd : Wd) : List V → List D → Prop
  | xs, [] => xs = []
  | xs, d :: ds => ∃ v vs, xs = v :: vs ∧ RelD wd v d ∧ RelDs wd vs ds
end

structure Ext (wd wd' : Wd) : Prop where
  ι : ∀ n a, wd.ι n = some a → wd'.ι n = some a
  F : ∀ a o, wd.F a = some o → wd'.F a = some o
  bor : wd'.bor = wd.bor
  new : ∀ n a, wd'.ι n = some a → wd.ι n = some a ∨ wd.F a = none
theorem Ext.refl (wd : Wd) : Ext wd wd := ⟨fun _ _ h => h, fun _ _ h => h, rfl, fun _ _ h => .inl h⟩
theorem Ext.trans {a b c : Wd} (x : Ext a b) (y : Ext b c) : Ext a c := ⟨fun n z h => y.ι n z (x.ι n z h), fun n z h => y.F n z (x.F n z h), y.bor.trans x.bor, fun n z h => (y.new n z h).elim (x.new n z) fun g => .inr (by
  cases q : a.F z with
  | none => rfl
  | some o => rw [x.F z o q] at g; cases g)⟩

theorem Rd.mono {F F' : Hp} (h : ∀ a o, F a = some o → F' a = some o) {a : Addr} {o : HO} (r : Rd F a o) : Rd F' a o := by
  rcases r with r | ⟨u, r⟩
  · exact .inl (h _ _ r)
  · exact .inr ⟨u, h _ _ r⟩
theorem SqT.mono {K : PySem.W.Frag} {F F' : Hp} (h : ∀ a o, F a = some o → F' a = some o) {a : Addr} {xs : List V} (r : SqT K F a xs) : SqT K F' a xs := by
  rcases r with r | r
  · exact .inl (Rd.mono h r)
  · exact .inr r
mutual
theorem RelD.ext {wd wd' : Wd} (e : Ext wd wd') : ∀ {d : D} {v : V}, RelD G wd v d → RelD G wd' v d
  | .non, v, h => by simpa [RelD] using h
  | .bl b, v, h => by simpa [RelD] using h
  | .int i, v, h => by simpa [RelD] using h
  | .str s, v, h => by simpa [RelD] using h
  | .tup ds, v, h => by
    simp only [RelD] at h ⊢
    obtain ⟨a, xs, h1, h2, h3⟩ := h
    exact ⟨a, xs, h1, SqT.mono e.F h2, RelDs.ext e h3⟩
  | .lst t ds, v, h => by
    simp only [RelD] at h ⊢
    obtain ⟨a, xs, h1, h2, h3, h4, h5⟩ := h
    exact ⟨a, xs, h1, Rd.mono e.F h2, RelDs.ext e h3, by rw [e.bor]; exact h4, fun k hk => e.ι _ _ (h5 k hk)⟩
  | .ref n, v, h => by
    simp only [RelD] at h ⊢
    obtain ⟨a, h1, h2⟩ := h
    exact ⟨a, e.ι _ _ h1, h2⟩
  | .dct ks ds, v, h => by
    simp only [RelD] at h ⊢
    obtain ⟨a, ys, h1, h2, h3, h4⟩ := h
    exact ⟨a, ys, h1, e.F _ _ h2, h3, RelDs.ext e h4⟩
theorem RelDs.ext {wd wd' : Wd} (e : Ext wd wd') : ∀ {ds : List D} {xs : List V}, RelDs G wd xs ds → RelDs G wd' xs ds
  | [], xs, h => by simpa [RelDs] using h
  | d :: ds, xs, h => by
    simp only [RelDs] at h ⊢
    obtain ⟨v, vs, h1, h2, h3⟩ := h
    exact ⟨v, vs, h1, RelD.ext e h2, RelDs.ext e h3⟩
end
variable {G}
theorem RelDs.length {wd : Wd} : ∀ {ds : List D} {xs : List V}, RelDs G wd xs ds → xs.length = ds.length
  | [], xs, h => by simp only [RelDs] at h; subst h; rfl
  | d :: ds, xs, h => by
    simp only [RelDs] at h
    obtain ⟨v, vs, rfl, _, h3⟩ := h
    simp [RelDs.length h3]
theorem RelDs.nil {wd : Wd} : RelDs G wd [] [] := by simp [RelDs]
theorem RelDs.cons {wd : Wd} {v : V} {d : D} {xs : List V} {ds : List D} (h : RelD G wd v d) (t : RelDs G wd xs ds) : RelDs G wd (v :: xs) (d :: ds) := by
  simp only [RelDs]; exact ⟨v, xs, rfl, h, t⟩
theorem RelDs.get {wd : Wd} : ∀ {ds : List D} {xs : List V} {i : Nat} {d : D}, RelDs G wd xs ds → ds[i]? = some d → ∃ v, xs[i]? = some v ∧ RelD G wd v d
  | [], xs, i, d, _, h => by simp at h
  | e :: ds, xs, 0, d, h, g => by
    simp only [RelDs] at h
    obtain ⟨v, vs, rfl, h2, h3⟩ := h
    simp at g; subst g
    exact ⟨v, rfl, h2⟩
  | e :: ds, xs, i + 1, d, h, g => by
    simp only [RelDs] at h
    obtain ⟨v, vs, rfl, h2, h3⟩ := h
    simp at g
    obtain ⟨u, hu, r⟩ := RelDs.get h3 g
    exact ⟨u, by simpa using hu, r⟩
theorem RelDs.getV {wd : Wd} {ds : List D} {xs : List V} {i : Nat} {v : V} (h : RelDs G wd xs ds) (g : xs[i]? = some v) : ∃ d, ds[i]? = some d ∧ RelD G wd v d := by
  have hl := RelDs.length h
  have hi : i < xs.length := (List.getElem?_eq_some_iff.mp g).1
  have : i < ds.length := by omega
  obtain ⟨u, hu, r⟩ := RelDs.get h (List.getElem?_eq_getElem this)
  rw [g] at hu; cases hu
  exact ⟨_, List.getElem?_eq_getElem this, r⟩
theorem RelDs.append {wd : Wd} : ∀ {ds es : List D} {xs ys : List V}, RelDs G wd xs ds → RelDs G wd ys es → RelDs G wd (xs ++ ys) (ds ++ es)
  | [], es, xs, ys, h, g => by simp only [RelDs] at h; subst h; simpa using g
  | d :: ds, es, xs, ys, h, g => by
    simp only [RelDs] at h
    obtain ⟨v, vs, rfl, h2, h3⟩ := h
    exact RelDs.cons h2 (RelDs.append h3 g)
theorem RelDs.take {wd : Wd} : ∀ {ds : List D} {xs : List V} (n : Nat), RelDs G wd xs ds → RelDs G wd (xs.take n) (ds.take n)
  | _, _, 0, _ => by simp [RelDs]
  | [], xs, n + 1, h => by simp only [RelDs] at h; subst h; simp [RelDs]
  | d :: ds, xs, n + 1, h => by
    simp only [RelDs] at h
    obtain ⟨v, vs, rfl, h2, h3⟩ := h
    exact RelDs.cons h2 (RelDs.take n h3)
theorem RelDs.drop {wd : Wd} : ∀ {ds : List D} {xs : List V} (n : Nat), RelDs G wd xs ds → RelDs G wd (xs.drop n) (ds.drop n)
  | _, _, 0, h => by simpa using h
  | [], xs, n + 1, h => by simp only [RelDs] at h; subst h; simp [RelDs]
  | d :: ds, xs, n + 1, h => by
    simp only [RelDs] at h
    obtain ⟨v, vs, rfl, h2, h3⟩ := h
    exact RelDs.drop n h3
theorem RelDs.set {wd : Wd} {v : V} {d : D} (r : RelD G wd v d) : ∀ {ds : List D} {xs : List V} (i : Nat), RelDs G wd xs ds → RelDs G wd (xs.set i v) (ds.set i d)
  | [], xs, i, h => by simp only [RelDs] at h; subst h; simp [RelDs]
  | e :: ds, xs, 0, h => by
    simp only [RelDs] at h
    obtain ⟨w, vs, rfl, h2, h3⟩ := h
    exact RelDs.cons r h3
  | e :: ds, xs, i + 1, h => by
    simp only [RelDs] at h
    obtain ⟨w, vs, rfl, h2, h3⟩ := h
    exact RelDs.cons h2 (RelDs.set r i h3)
theorem RelDs.reverse {wd : Wd} : ∀ {ds : List D} {xs : List V}, RelDs G wd xs ds → RelDs G wd xs.reverse ds.reverse
  | [], xs, h => by simp only [RelDs] at h; subst h; simp [RelDs]
  | d :: ds, xs, h => by
    simp only [RelDs] at h
    obtain ⟨v, vs, rfl, h2, h3⟩ := h
    simp only [List.reverse_cons]
    exact RelDs.append (RelDs.reverse h3) (RelDs.cons h2 RelDs.nil)
theorem RelDs.paired {wd : Wd} : ∀ {ds : List D} {xs : List V}, RelDs G wd xs ds ↔ Paired (fun v d => RelD G wd v d) xs ds
  | [], xs => ⟨fun h => by simp only [RelDs] at h; subst h; exact .nil, fun h => by cases h; exact RelDs.nil⟩
  | d :: ds, xs => ⟨fun h => by
      simp only [RelDs] at h
      obtain ⟨v, vs, rfl, h2, h3⟩ := h
      exact .cons h2 (RelDs.paired.mp h3), fun h => by
      cases h with
      | cons a b => exact RelDs.cons a (RelDs.paired.mpr b)⟩

/-- a live object, at its address -/
def RelO (wd : Wd) (H : Hp) (a : Addr) : LO → Prop
  | .lst ds => ∃ xs, H a = some (.lst xs) ∧ RelDs G wd xs ds
  | .dic kvs => ∃ ys, H a = some (.dK ys) ∧ Paired (fun (p : Key × V) (q : Key × D) => p.1 = q.1 ∧ RelD G wd p.2 q.2) ys kvs
  | .ins C fs => ∃ ca dx gs, G.cls C = some ca ∧ H a = some (.ins ca dx gs) ∧ H dx = some (.own a) ∧ Paired (fun (p : Str × V) (q : Str × D) => p.1 = q.1 ∧ RelD G wd p.2 q.2) gs fs
  | .gone => True
theorem RelO.ext {wd wd' : Wd} (e : Ext wd wd') {H : Hp} {a : Addr} : ∀ {o : LO}, RelO (G := G) wd H a o → RelO (G := G) wd' H a o
  | .lst ds, ⟨xs, h1, h2⟩ => ⟨xs, h1, RelDs.ext G e h2⟩
  | .dic kvs, ⟨ys, h1, h2⟩ => ⟨ys, h1, Paired.mapP h2 fun _ _ h => ⟨h.1, RelD.ext G e h.2⟩⟩
  | .ins C fs, ⟨ca, dx, gs, h0, h1, h2, h3⟩ => ⟨ca, dx, gs, h0, h1, h2, Paired.mapP h3 fun _ _ h => ⟨h.1, RelD.ext G e h.2⟩⟩
  | .gone, _ => True.intro

structure WOk (wd : Wd) (H : Hp) (L : Live) : Prop where
  sub : ∀ a o, wd.F a = some o → H a = some o
  live : ∀ n o, L[n]? = some o → ∃ a, wd.ι n = some a ∧ RelO (G := G) wd H a o ∧ (o ≠ .gone → wd.F a = none)
  dom : ∀ n a, wd.ι n = some a → n < L.length
  inj : ∀ n m a, wd.ι n = some a → wd.ι m = some a → n = m
  bor : ∀ a ∈ wd.bor, ∃ o, wd.F a = some o
  seq : ∀ a o, wd.F a = some o → (∃ xs, o = .lst xs) ∨ (∃ xs, o = .tup xs) ∨ (∃ ob xs, o = .frz ob (.lst xs)) ∨ (∃ ys, o = .dK ys) ∨ ∃ ob ys, o = .frz ob (.dK ys)
  there : ∀ n a, wd.ι n = some a → ∃ o, H a = some o

/-! ### the readings -/
def RelSt (wd : Wd) (σ : L2.St) (E : Ev) : Prop := σ.length = E.length ∧ ∀ (i : Nat) (d : D), E[i]? = some (some d) → ∃ v, σ[i]? = some (some v) ∧ RelD G wd v d
theorem RelSt.ext {wd wd' : Wd} (e : Ext wd wd') {σ : L2.St} {E : Ev} (r : RelSt (G := G) wd σ E) : RelSt (G := G) wd' σ E :=
  ⟨r.1, fun i d h => let ⟨v, h1, h2⟩ := r.2 i d h; ⟨v, h1, RelD.ext G e h2⟩⟩
theorem RelSt.set {wd : Wd} {σ : L2.St} {E : Ev} (r : RelSt (G := G) wd σ E) {v : V} {d : D} (i : Nat) (h : RelD G wd v d) : RelSt (G := G) wd (σ.set i (some v)) (E.set i (some d)) := by
  refine ⟨by simpa using r.1, fun j e hj => ?_⟩
  by_cases hij : i = j
  · subst hij
    by_cases hl : i < E.length
    · rw [List.getElem?_set_self hl] at hj
      cases hj
      exact ⟨v, by rw [List.getElem?_set_self (by rw [r.1]; exact hl)], h⟩
    · rw [List.getElem?_eq_none (by simpa using hl)] at hj; cases hj
  · rw [List.getElem?_set_ne hij] at hj
    obtain ⟨u, h1, h2⟩ := r.2 j e hj
    exact ⟨u, by rw [List.getElem?_set_ne hij]; exact h1, h2⟩
theorem RelSt.wipe {wd : Wd} {σ : L2.St} {E : Ev} (r : RelSt (G := G) wd σ E) (i : Nat) : RelSt (G := G) wd (σ.set i none) (E.set i none) := by
  refine ⟨by simpa using r.1, fun j e hj => ?_⟩
  by_cases hij : i = j
  · subst hij
    by_cases hl : i < E.length
    · rw [List.getElem?_set_self hl] at hj
      cases hj
    · rw [List.getElem?_eq_none (by simpa using hl)] at hj; cases hj
  · rw [List.getElem?_set_ne hij] at hj
    obtain ⟨u, h1, h2⟩ := r.2 j e hj
    exact ⟨u, by rw [List.getElem?_set_ne hij]; exact h1, h2⟩

/-- a raised exception of an own class: its own dict holds the fields -/
def RelX (wd : Wd) (H : Hp) (C : Str) (fs : List (Str × D)) (cls : Value) (dx : Option Addr) : Prop :=
  ∃ ca, G.cls C = some ca ∧ cls = .ref ca ∧ (fs ≠ [] → ∃ d gs, dx = some d ∧ H d = some (.xd gs) ∧ Paired (fun (p : Str × V) (q : Str × D) => p.1 = q.1 ∧ RelD G wd p.2 q.2) gs fs)

/-- what is wanted behind an end r that began in the world wd -/
def Run {α β : Type} (rel : Wd → β → α → Prop) (W : WX) (σ : L2.St) (wd : Wd) (r : Res α) (Q : β → Hp → Prop) : Prop :=
  match r with
  | .ok d L => ∀ wd' H' v, Ext wd wd' → WOk (G := G) wd' H' L → rel wd' v d → Q v H'
  | .exc C fs L => ∀ wd' H' cls dx, Ext wd wd' → WOk (G := G) wd' H' L → RelX (G := G) wd' H' C fs cls dx → W cls dx σ H'
  | .stuck => False
def RB (_ : Wd) (a b : Bool) : Prop := a = b
theorem Run.ext {α β : Type} {rel : Wd → β → α → Prop} {W : WX} {σ : L2.St} {wd wd1 : Wd} (e : Ext wd wd1) {r : Res α} {Q : β → Hp → Prop} (h : Run (G := G) rel W σ wd r Q) : Run (G := G) rel W σ wd1 r Q := by
  cases r with
  | ok d L => exact fun wd' H' v e' w r => h wd' H' v (e.trans e') w r
  | exc C fs L => exact fun wd' H' c dx e' w r => h wd' H' c dx (e.trans e') w r
  | stuck => exact h
theorem Run.imp {α β : Type} {rel : Wd → β → α → Prop} {W : WX} {σ : L2.St} {wd : Wd} {r : Res α} {Q Q' : β → Hp → Prop} (h : Run (G := G) rel W σ wd r Q) (f : ∀ v H, Q v H → Q' v H) : Run (G := G) rel W σ wd r Q' := by
  cases r with
  | ok d L => exact fun wd' H' v e' w r => f _ _ (h wd' H' v e' w r)
  | exc C fs L => exact h
  | stuck => exact h
/-- one end behind another -/
theorem Run.bind {α β α' β' : Type} {rel : Wd → β → α → Prop} {rel' : Wd → β' → α' → Prop} {W : WX} {σ : L2.St} {wd : Wd} {r : Res α} {f : α → Live → Res α'} {Q : β' → Hp → Prop} (h : Run (G := G) rel' W σ wd (r.bind f) Q) :
    Run (G := G) rel W σ wd r fun v H1 => ∃ wd1 d L1, Ext wd wd1 ∧ WOk (G := G) wd1 H1 L1 ∧ rel wd1 v d ∧ Run (G := G) rel' W σ wd1 (f d L1) Q := by
  cases r with
  | ok d L => exact fun wd' H' v e' w r => ⟨wd', d, L, e', w, r, Run.ext e' h⟩
  | exc C fs L => exact h
  | stuck => exact h
/-- the end of a value that is there -/
theorem Run.ok {α β : Type} {rel : Wd → β → α → Prop} {W : WX} {σ : L2.St} {wd wd' : Wd} {d : α} {L : Live} {Q : β → Hp → Prop} {H' : Hp} {v : β} (h : Run (G := G) rel W σ wd (.ok d L) Q) (e : Ext wd wd') (w : WOk (G := G) wd' H' L) (r : rel wd' v d) : Q v H' :=
  h wd' H' v e w r

variable (G)
/-- an evaluator of an expression, as a reading -/
def tE (W : WX) (m : Ev → Live → Res D) : TE := fun σ H Q => ∃ wd E L, RelSt (G := G) wd σ E ∧ WOk (G := G) wd H L ∧ Run (G := G) (RelD G) W σ wd (m E L) Q
def tT (W : WX) (m : Ev → Live → Res Bool) : TT := fun σ H Q => ∃ wd E L, RelSt (G := G) wd σ E ∧ WOk (G := G) wd H L ∧ Run (G := G) RB W σ wd (m E L) Q
def tA (W : WX) (m : Ev → Live → Res (List D)) : TA := fun σ H Q => ∃ wd E L, RelSt (G := G) wd σ E ∧ WOk (G := G) wd H L ∧ Run (G := G) (RelDs G) W σ wd (m E L) Q
variable {G}

/-! ### the heap grows, is written -/
theorem RelO.heap {wd : Wd} {H H' : Hp} {a : Addr} (k : ∀ b o, H b = some o → H' b = some o) : ∀ {o : LO}, RelO (G := G) wd H a o → RelO (G := G) wd H' a o
  | .lst ds, ⟨xs, h1, h2⟩ => ⟨xs, k _ _ h1, h2⟩
  | .dic kvs, ⟨ys, h1, h2⟩ => ⟨ys, k _ _ h1, h2⟩
  | .ins C fs, ⟨ca, dx, gs, h0, h1, h2, h3⟩ => ⟨ca, dx, gs, h0, k _ _ h1, k _ _ h2, h3⟩
  | .gone, _ => True.intro
theorem upd_keeps {H : Hp} {p : Addr} {o : HO} (hp : H p = none) : ∀ b u, H b = some u → upd H p o b = some u := fun b u h => by rw [upd_ne (ne_of_none h hp)]; exact h
theorem WOk.heap {wd : Wd} {H H' : Hp} {L : Live} (w : WOk (G := G) wd H L) (k : ∀ b o, H b = some o → H' b = some o) : WOk (G := G) wd H' L where
  sub := fun a o h => k _ _ (w.sub a o h)
  live := fun n o h => let ⟨a, h1, h2, h3⟩ := w.live n o h; ⟨a, h1, h2.heap k, h3⟩
  dom := w.dom
  inj := w.inj
  bor := w.bor
  seq := w.seq
  there := fun n a h => let ⟨o, e⟩ := w.there n a h; ⟨o, k _ _ e⟩
/-- a new object that is frozen at once -/
def Wd.frz (wd : Wd) (p : Addr) (o : HO) : Wd := { wd with F := upd wd.F p o }
theorem WOk.fnone {wd : Wd} {H : Hp} {L : Live} (w : WOk (G := G) wd H L) {p : Addr} (hp : H p = none) : wd.F p = none := by
  cases h : wd.F p with
  | none => rfl
  | some o => have := w.sub _ _ h; rw [hp] at this; cases this
theorem WOk.frz {wd : Wd} {H : Hp} {L : Live} (w : WOk (G := G) wd H L) {p : Addr} {o : HO} (hp : H p = none) (ho : (∃ xs, o = .lst xs) ∨ (∃ xs, o = .tup xs) ∨ (∃ ob xs, o = .frz ob (.lst xs)) ∨ (∃ ys, o = .dK ys) ∨ ∃ ob ys, o = .frz ob (.dK ys)) :
    Ext wd (wd.frz p o) ∧ WOk (G := G) (wd.frz p o) (upd H p o) L := by
  have e : Ext wd (wd.frz p o) := ⟨fun _ _ h => h, fun a u h => upd_keeps (w.fnone hp) a u h, rfl, fun _ _ h => .inl h⟩
  refine ⟨e, ⟨fun a u h => ?_, fun n u h => ?_, w.dom, w.inj, fun a ha => ?_, fun a u h => ?_, fun n a h => ?_⟩⟩
  · by_cases q : a = p
    · subst q
      have h' : upd wd.F a o a = some u := h
      rw [upd_same] at h' ⊢; exact h'
    · have h' : upd wd.F p o a = some u := h
      rw [upd_ne q] at h' ⊢; exact w.sub _ _ h'
  · obtain ⟨a, h1, h2, h3⟩ := w.live n u h
    refine ⟨a, h1, (h2.heap (upd_keeps hp)).ext e, fun g => ?_⟩
    obtain ⟨z, hz⟩ := w.there n a h1
    show upd wd.F p o a = none
    rw [upd_ne (ne_of_none hz hp)]; exact h3 g
  · obtain ⟨u, hu⟩ := w.bor a ha
    exact ⟨u, e.F _ _ hu⟩
  · by_cases q : a = p
    · subst q
      have h' : upd wd.F a o a = some u := h
      rw [upd_same] at h'; cases h'; exact ho
    · have h' : upd wd.F p o a = some u := h
      rw [upd_ne q] at h'; exact w.seq _ _ h'
  · obtain ⟨z, hz⟩ := w.there n a h
    exact ⟨z, upd_keeps hp _ _ hz⟩
/-- a new live object -/
def Wd.add (wd : Wd) (n : Nat) (p : Addr) : Wd := { wd with ι := fun m => if m = n then some p else wd.ι m }
theorem WOk.add {wd : Wd} {H : Hp} {L : Live} (w : WOk (G := G) wd H L) {p : Addr} {o : HO} {x : LO} (hp : H p = none)
    (hx : ∀ wd', Ext wd wd' → ∀ H', (∀ b u, H b = some u → H' b = some u) → H' p = some o → RelO (G := G) wd' H' p x) :
    Ext wd (wd.add L.length p) ∧ WOk (G := G) (wd.add L.length p) (upd H p o) (L ++ [x]) := by
  have hn : wd.ι L.length = none := by
    cases h : wd.ι L.length with
    | none => rfl
    | some a => exact absurd (w.dom _ _ h) (Nat.lt_irrefl _)
  have e : Ext wd (wd.add L.length p) := by
    refine ⟨fun n a h => ?_, fun _ _ h => h, rfl, fun n a h => ?_⟩
    · show (if n = L.length then some p else wd.ι n) = some a
      rw [if_neg (fun z => by rw [z, hn] at h; cases h)]; exact h
    · have h' : (if n = L.length then some p else wd.ι n) = some a := h
      split at h'
      · cases h'; exact .inr (w.fnone hp)
      · exact .inl h'
  have ad : ∀ n a, (wd.add L.length p).ι n = some a → (n = L.length ∧ a = p) ∨ wd.ι n = some a := fun n a h => by
    have h' : (if n = L.length then some p else wd.ι n) = some a := h
    by_cases q : n = L.length
    · rw [if_pos q] at h'; cases h'; exact .inl ⟨q, rfl⟩
    · rw [if_neg q] at h'; exact .inr h'
  have nop : ∀ n, wd.ι n ≠ some p := fun n h => by
    obtain ⟨z, hz⟩ := w.there n p h
    rw [hp] at hz; cases hz
  refine ⟨e, ⟨fun a u h => upd_keeps hp _ _ (w.sub _ _ h), fun n u h => ?_, fun n a h => ?_, fun n m a h1 h2 => ?_, w.bor, w.seq, fun n a h => ?_⟩⟩
  · by_cases q : n < L.length
    · rw [List.getElem?_append_left q] at h
      obtain ⟨a, h1, h2, h3⟩ := w.live n u h
      exact ⟨a, e.ι _ _ h1, (h2.heap (upd_keeps hp)).ext e, h3⟩
    · have q' : n = L.length := by
        have := (List.getElem?_eq_some_iff.mp h).1
        simp at this; omega
      subst q'
      simp at h; subst h
      refine ⟨p, ?_, hx _ e _ (upd_keeps hp) upd_same, fun _ => w.fnone hp⟩
      show (if L.length = L.length then some p else _) = some p
      rw [if_pos rfl]
  · rcases ad n a h with ⟨rfl, _⟩ | h'
    · simp
    · have := w.dom _ _ h'; simp; omega
  · rcases ad n a h1 with ⟨q1, q2⟩ | g1 <;> rcases ad m a h2 with ⟨q3, q4⟩ | g2
    · rw [q1, q3]
    · rw [q2] at g2; exact absurd g2 (nop _)
    · rw [q4] at g1; exact absurd g1 (nop _)
    · exact w.inj _ _ _ g1 g2
  · rcases ad n a h with ⟨_, rfl⟩ | h'
    · exact ⟨o, upd_same⟩
    · obtain ⟨z, hz⟩ := w.there n a h'
      exact ⟨z, upd_keeps hp _ _ hz⟩
theorem Wd.add_at {wd : Wd} {n : Nat} {p : Addr} : (wd.add n p).ι n = some p := if_pos rfl
/-- a live object is written: x is what stands at a behind it; all else is as it was -/
theorem WOk.write {wd : Wd} {H : Hp} {L : Live} (w : WOk (G := G) wd H L) {n : Nat} {a : Addr} {o : HO} {x x0 : LO} (hx0 : L[n]? = some x0) (hg : x0 ≠ .gone) (ha : wd.ι n = some a)
    (hown : ∀ y, H a ≠ some (.own y)) (hx : RelO (G := G) wd (upd H a o) a x) : WOk (G := G) wd (upd H a o) (L.set n x) := by
  obtain ⟨a', h1, h2, h3⟩ := w.live n x0 hx0
  rw [ha] at h1; cases h1
  have fa := h3 hg
  have hn : n < L.length := w.dom _ _ ha
  refine ⟨fun b u h => ?_, fun m u h => ?_, fun m b h => by simpa using w.dom m b h, w.inj, w.bor, w.seq, fun m b h => ?_⟩
  · rw [upd_ne (fun z => by rw [z, fa] at h; cases h)]; exact w.sub _ _ h
  · by_cases q : n = m
    · subst q
      rw [List.getElem?_set_self hn] at h; cases h
      exact ⟨a, ha, hx, fun _ => fa⟩
    · rw [List.getElem?_set_ne q] at h
      obtain ⟨b, g1, g2, g3⟩ := w.live m u h
      have hb : b ≠ a := fun z => q (w.inj _ _ _ ha (z ▸ g1))
      refine ⟨b, g1, ?_, g3⟩
      cases u with
      | lst ds => obtain ⟨xs, e1, e2⟩ := g2; exact ⟨xs, by rw [upd_ne hb]; exact e1, e2⟩
      | dic kvs => obtain ⟨xs, e1, e2⟩ := g2; exact ⟨xs, by rw [upd_ne hb]; exact e1, e2⟩
      | ins C fs =>
        obtain ⟨ca, dx, gs, e0, e1, e2, e3⟩ := g2
        exact ⟨ca, dx, gs, e0, by rw [upd_ne hb]; exact e1, by rw [upd_ne (fun z => hown b (by rw [← z]; exact e2))]; exact e2, e3⟩
      | gone => exact True.intro
  · by_cases q : b = a
    · subst q; exact ⟨o, upd_same⟩
    · obtain ⟨z, hz⟩ := w.there m b h
      exact ⟨z, by rw [upd_ne q]; exact hz⟩
end
end MP
set_option maxHeartbeats 2000000
/-! MP: the syntax and its evaluator -/
namespace MP
open PySem PySem.Spec PyProof.Rows L2

/-! ### trees without live objects, as the library's data -/
mutual
def toPy : D → Option PyData
  | .non => some .none
  | .bl b => some (.bool b)
  | .int i => some (.int i)
  | .str s => some (.str s)
  | .tup ds => match toPys ds with | some ps => some (.tuple ps) | none => none
  | .lst _ ds => match toPys ds with | some ps => some (.list ps) | none => none
  | .ref _ => none
  | .dct _ _ => none
def toPys : List D → Option (List PyData)
  | [] => some []
  | d :: ds => match toPy d with | some p => (match toPys ds with | some ps => some (p :: ps) | none => none) | none => none
end
def mapO {α β : Type} (f : α → Option β) : List α → Option (List β)
  | [] => some []
  | d :: ds => match f d with | some p => (match mapO f ds with | some ps => some (p :: ps) | none => none) | none => none
/-- .. with live lists looked up, so deep -/
def view (L : Live) : Nat → D → Option PyData
  | 0, _ => none
  | n + 1, d => match d with
    | .ref k => match L[k]? with
      | some (.lst ds) => (mapO (view L n) ds).map .list
      | _ => none
    | .tup ds => (mapO (view L n) ds).map .tuple
    | .lst _ ds => (mapO (view L n) ds).map .list
    | d => toPy d
/-- a key, as the library's data -/
def keyPy : Key → PyData | .inl i => .int i | .inr s => .str s
/-- .. with dicts, so deep -/
def viewX (L : Live) : Nat → D → Option PyData
  | 0, _ => none
  | n + 1, d => match d with
    | .ref k => match L[k]? with
      | some (.lst ds) => (mapO (viewX L n) ds).map .list
      | some (.dic kvs) => (mapO (viewX L n) (kvs.map Prod.snd)).map fun ps => .dict (((kvs.map Prod.fst).map keyPy).zip ps)
      | _ => none
    | .tup ds => (mapO (viewX L n) ds).map .tuple
    | .lst _ ds => (mapO (viewX L n) ds).map .list
    | .dct ks ds => (mapO (viewX L n) ds).map fun ps => .dict ((ks.map keyPy).zip ps)
    | d => toPy d
def pyOf (L : Live) (d : D) : Option PyData := match toPy d with | some p => some p | none => view L 12 d

def pyX (L : Live) (d : D) : Option PyData := match pyOf L d with | some p => some p | none => viewX L 12 d

/-- the items of a list -/
def lstOf (L : Live) : D → Option (List D)
  | .lst _ ds => some ds
  | .ref k => match L[k]? with | some (.lst ds) => some ds | _ => none
  | _ => none
/-- .. of a list or a tuple -/
def seqOf (L : Live) : D → Option (List D)
  | .tup ds => some ds
  | d => lstOf L d
def newL (lv : Bool) (xs : List D) (L : Live) : D × Live := if lv then (.ref L.length, L ++ [.lst xs]) else (.lst 0 xs, L)

/-! ### operators -/
inductive Bop where | add | sub | mul | fdiv | mod | pow
  deriving DecidableEq, Repr
inductive Cop where | eq | ne | lt | le | gt | ge | is_ | isn | in_ | nin
  deriving DecidableEq, Repr
def mulOk (i j : Int) : Bool := (decide (-(2 ^ 64) < i) && decide (i < 2 ^ 64)) || (decide (-(2 ^ 64) < j) && decide (j < 2 ^ 64)) || decide (i.natAbs.log2 + j.natAbs.log2 < 1000000)
def divOk (j : Int) : Bool := decide (0 < j) && decide (j.natAbs.log2 < 9000)
def powOk (i j : Int) : Bool := decide (0 ≤ j) && decide (((i.natAbs.log2 + 1 : Nat) : Int) * j ≤ 2 ^ 27)
def sizeOk (n : Nat) : Bool := decide (n ≤ sizeLine)
def binL (o : Bop) (lv : Bool) (xs : List D) (b : D) (L : Live) : Option (D × Live) := match o with
  | .add => match lstOf L b with
    | some ys => if sizeOk (xs.length + ys.length) then some (newL lv (xs ++ ys) L) else none
    | none => none
  | .mul => match b with
    | .int k => if decide (-(2 ^ 63) ≤ k) && decide (k < 2 ^ 63) && sizeOk (xs.length * k.toNat) then some (newL lv (List.replicate k.toNat xs).flatten L) else none
    | _ => none
  | _ => none
def repS (x : Str) (n : Nat) : Str := ⟨(List.replicate n x.cps).foldl (· ++ ·) #[]⟩
def binD (o : Bop) (lv : Bool) (a b : D) (L : Live) : Option (D × Live) :=
  match a with
  | .int i => match b with
    | .int j => match o with
      | .add => some (.int (i + j), L)
      | .sub => some (.int (i - j), L)
      | .mul => if mulOk i j then some (.int (i * j), L) else none
      | .fdiv => if divOk j then some (.int (i / j), L) else none
      | .mod => if decide (0 < j) then some (.int (i % j), L) else none
      | .pow => if powOk i j then some (.int (i ^ j.toNat), L) else none
    | _ => none
  | .str x => match b with
    | .str y => match o with
      | .add => if sizeOk (x.length + y.length) then some (.str (x ++ y), L) else none
      | _ => none
    | .int k => match o with
      | .mul => if decide (2 ≤ k) && decide (k ≤ 1000) && decide (1 ≤ x.length) && decide (x.length ≤ 1000) && sizeOk (repS x k.toNat).length then some (.str (repS x k.toNat), L) else none
      | _ => none
    | _ => none
  | .tup xs => match b with
    | .tup ys => match o with
      | .add => if sizeOk (xs.length + ys.length) then some (.tup (xs ++ ys), L) else none
      | _ => none
    | _ => none
  | a => match lstOf L a with
    | some xs => binL o lv xs b L
    | none => none
def scal2 : D → D → Bool
  | .non, .non => true | .non, .int _ => true | .int _, .non => true | .non, .bl _ => true | .bl _, .non => true | .non, .str _ => true | .str _, .non => true
  | .int _, .int _ => true | .bl _, .bl _ => true | .str _, .str _ => true
  | .int _, .str _ => true | .str _, .int _ => true | .bl _, .str _ => true | .str _, .bl _ => true
  | _, _ => false
/-- == of scalars -/
def eqS : D → D → Bool
  | .non, .non => true
  | .int i, .int j => decide (i = j)
  | .bl i, .bl j => decide (i = j)
  | .str i, .str j => decide (i = j)
  | _, _ => false
def eqD (L : Live) (a b : D) : Option Bool :=
  if scal2 a b then some (eqS a b) else match pyOf L a with
    | some p => match pyOf L b with
      | some q => if SeqAt.shaped p && SeqAt.shaped q then some (PyData.eqv p q) else none
      | none => none
    | none => none
/-- flat values -/
def flat : D → Bool
  | .non => true | .bl _ => true | .int _ => true | .str _ => true | _ => false
def eqF : D → D → Bool
  | .non, .non => true
  | .bl a, .bl b => a == b
  | .bl a, .int b => (if a then 1 else 0) == b
  | .int a, .bl b => a == (if b then 1 else 0)
  | .int a, .int b => a == b
  | .str a, .str b => a == b
  | _, _ => false
def keyOf : D → Option Key
  | .int i => some (.inl i)
  | .str s => some (.inr s)
  | _ => none
def getK (k : Key) (kvs : List (Key × D)) : Option D := (kvs.find? fun kv => decide (kv.1 = k)).map (·.2)
def isNonD : D → Bool | .non => true | _ => false
def inSeq (L : Live) (a b : D) (ds : List D) : Option Bool :=
  if flat a && ds.all flat then some (ds.any fun y => eqF y a) else match pyOf L a with
    | some p => match pyOf L b with
      | some (.list qs) => if SeqAt.shaped p && SeqAt.shaped (.list qs) then some (qs.any fun z => PyData.eqv z p) else none
      | some (.tuple qs) => if SeqAt.shaped p && SeqAt.shaped (.tuple qs) then some (qs.any fun z => PyData.eqv z p) else none
      | _ => none
    | none => none
/-- what a dict holds at a key -/
def keyAt (L : Live) (a b : D) : Option (Option D) := match b with
  | .ref n => match L[n]? with
    | some (.dic kvs) => match keyOf a with
      | some k => some (getK k kvs)
      | none => none
    | _ => none
  | _ => none
def inStr (y : Str) (a : D) : Option Bool := match a with
  | .str x => if x.length = 1 then some (decide (x.cps.getD 0 0 ∈ y.cps.toList)) else none
  | _ => none
def inD (L : Live) (a b : D) : Option Bool := match b with
  | .str y => inStr y a
  | b => match seqOf L b with
    | some ds => inSeq L a b ds
    | none => (keyAt L a b).map (·.isSome)
def ordI (o : Cop) (i j : Int) : Option Bool := match o with
  | .lt => some (decide (i < j)) | .le => some (decide (i ≤ j)) | .gt => some (decide (j < i)) | .ge => some (decide (j ≤ i)) | _ => none
def cmpD (o : Cop) (a b : D) (L : Live) : Option Bool :=
  match o with
  | .eq => eqD L a b
  | .ne => (eqD L a b).map not
  | .in_ => inD L a b
  | .nin => (inD L a b).map not
  | .is_ => match b with
    | .non => some (isNonD a)
    | .bl y => match a with
      | .bl x => some (decide (x = y))
      | _ => none
    | _ => none
  | .isn => match b with
    | .non => some (!isNonD a)
    | .bl y => match a with
      | .bl x => some (!decide (x = y))
      | _ => none
    | _ => none
  | o => match a with
    | .int i => match b with
      | .int j => ordI o i j
      | _ => none
    | _ => none
/-- truth -/
def truD (L : Live) : D → Option Bool
  | .non => some false
  | .bl b => some b
  | .int i => some (i != 0)
  | .str y => if sizeOk y.length then some ((y.length : Int) != 0) else none
  | .tup ds => some (!ds.isEmpty)
  | .lst _ ds => some (!ds.isEmpty)
  | .ref n => match L[n]? with
    | some (.lst ds) => some (!ds.isEmpty)
    | some (.dic kvs) => some (!kvs.isEmpty)
    | _ => none
  | .dct _ _ => none

/-! ### subscripts, slices -/
def idxSeq (ds : List D) (i : D) : Option D := match i with
  | .int i => atI ds i
  | _ => none
def idxStr (z : Str) (i : D) : Option D := match i with
  | .int i => if sizeOk z.length then (atI z.cps.toList i).map fun c => .str ⟨#[c]⟩ else none
  | _ => none
def idxD (a i : D) (L : Live) : Option D := match a with
  | .str z => idxStr z i
  | a => match seqOf L a with
    | some ds => idxSeq ds i
    | none => (keyAt L i a).bind id
def cutD {α : Type} (xs : List α) (lo hi : Option Int) : List α := (xs.drop (HT.sIx xs.length 0 lo)).take (HT.sIx xs.length xs.length hi - HT.sIx xs.length 0 lo)
def part : D → Option (Option Int)
  | .int i => some (some i)
  | _ => none
def slcP (lv : Bool) (a : D) (l h : Option Int) (L : Live) : Option (D × Live) := match a with
  | .str z => if sizeOk z.length then some (.str (cutS z l h), L) else none
  | .tup ds => some (.tup (cutD ds l h), L)
  | a => match lstOf L a with
    | some ds => some (newL lv (cutD ds l h) L)
    | none => none

/-! ### built-ins -/
inductive Blt where | len | abs | max | min | sum | any | all | sorted | list | tuple | int | str | repr
  deriving DecidableEq, Repr
def intsOf : List D → Option (List Int)
  | [] => some []
  | .int i :: r => match intsOf r with | some l => some (i :: l) | none => none
  | _ :: _ => none
def boolsOf : List D → Option (List Bool)
  | [] => some []
  | .bl i :: r => match boolsOf r with | some l => some (i :: l) | none => none
  | _ :: _ => none
def insI (x : Int) : List Int → List Int
  | [] => [x]
  | y :: r => if x ≤ y then x :: y :: r else y :: insI x r
def sortI : List Int → List Int
  | [] => []
  | x :: r => insI x (sortI r)
def maxI : List Int → Option Int
  | [] => none
  | x :: r => some (r.foldl (fun m y => if m < y then y else m) x)
def minI : List Int → Option Int
  | [] => none
  | x :: r => some (r.foldl (fun m y => if y < m then y else m) x)
def lenK (L : Live) (d : D) : Option Int := match d with
  | .ref n => match L[n]? with
    | some (.dic kvs) => some kvs.length
    | _ => none
  | _ => none
def lenD (L : Live) : D → Option Int
  | .str y => if sizeOk y.length then some y.length else none
  | d => match seqOf L d with
    | some ds => some ds.length
    | none => lenK L d
def keyD : Key → D | .inl i => .int i | .inr s => .str s
def keysD (L : Live) (d : D) : Option (List D) := match d with
  | .ref n => match L[n]? with
    | some (.dic kvs) => some (kvs.map fun kv => keyD kv.1)
    | _ => none
  | _ => none
def reprD (L : Live) (d : D) : Option Str := match pyX L d with
  | some p => if p.showable && sizeOk p.shown.length && decide (p.depth < 60) then some p.shown else none
  | none => none
def bltD (b : Blt) (lv : Bool) (as : List D) (L : Live) : Option (D × Live) :=
  match as with
  | [a] => match b with
    | .len => (lenD L a).map fun n => (.int n, L)
    | .abs => match a with | .int i => some (.int (if i < 0 then -i else i), L) | _ => none
    | .sum => match lstOf L a with
      | some ds => (intsOf ds).map fun ns => (.int ns.sum, L)
      | none => none
    | .max => match lstOf L a with
      | some ds => match intsOf ds with
        | some ns => (maxI ns).map fun m => (.int m, L)
        | none => none
      | none => none
    | .min => match lstOf L a with
      | some ds => match intsOf ds with
        | some ns => (minI ns).map fun m => (.int m, L)
        | none => none
      | none => none
    | .any => match lstOf L a with
      | some ds => (boolsOf ds).map fun bs => (.bl (bs.any id), L)
      | none => none
    | .all => match lstOf L a with
      | some ds => (boolsOf ds).map fun bs => (.bl (bs.all id), L)
      | none => none
    | .sorted => match lstOf L a with
      | some ds => match intsOf ds with
        | some ns => some (newL lv ((sortI ns).map .int) L)
        | none => none
      | none => none
    | .list => match seqOf L a with
      | some ds => some (newL lv ds L)
      | none => (keysD L a).map fun ks => newL lv ks L
    | .tuple => match seqOf L a with
      | some ds => some (.tup ds, L)
      | none => none
    | .int => match a with
      | .int i => some (.int i, L)
      | .bl k => some (.int (if k then 1 else 0), L)
      | .str x => match PySem.intText? x with
        | some n => if decide (x.length ≤ 640) then some (.int n, L) else none
        | none => none
      | _ => none
    | .str => match a with
      | .int i => if decide (i.natAbs.log2 < 1920) then some (.str (toString i), L) else none
      | .str s => some (.str s, L)
      | _ => none
    | .repr => (reprD L a).map fun s => (.str s, L)
  | [a, c] => match a with
    | .int i => match c with
      | .int j => match b with
        | .max => some (.int (if j > i then j else i), L)
        | .min => some (.int (if j < i then j else i), L)
        | _ => none
      | _ => none
    | _ => none
  | _ => none

/-! ### methods of built-in types -/
inductive Mth where | append | extend | pop | insert | reverse | remove | clear | index | count | join | get | values
  deriving DecidableEq, Repr
def findF (y : D) : List D → Option Nat
  | [] => none
  | z :: r => if eqF z y then some 0 else (findF y r).map (· + 1)
def findI (k : Int) : List Int → Option Nat
  | [] => none
  | z :: r => if z = k then some 0 else (findI k r).map (· + 1)
def strsOf : List D → Option (List Str)
  | [] => some []
  | .str i :: r => match strsOf r with | some l => some (i :: l) | none => none
  | _ :: _ => none
def dropKey (k : Key) (kvs : List (Key × D)) : List (Key × D) := kvs.filter fun p => decide (p.1 ≠ k)
def mthD (m : Mth) (o : D) (as : List D) (L : Live) : Option (D × Live) :=
  match o with
  | .ref n => match L[n]? with
    | some (.lst ds) => match m with
      | .append => match as with
        | [x] => if decide (ds.length < sizeLine) then some (.non, L.set n (.lst (ds ++ [x]))) else none
        | _ => none
      | .extend => match as with
        | [x] => match lstOf L x with
          | some es => if sizeOk (ds.length + es.length) then some (.non, L.set n (.lst (ds ++ es))) else none
          | none => none
        | _ => none
      | .pop => match as with
        | [] => match ds.getLast? with
          | some x => some (x, L.set n (.lst ds.dropLast))
          | none => none
        | [.int i] => match ixN ds.length i with
          | some j => (ds[j]?).map fun x => (x, L.set n (.lst (ds.eraseIdx j)))
          | none => none
        | _ => none
      | .insert => match as with
        | [.int i, x] => if decide (ds.length < sizeLine) && decide (0 ≤ i) && decide (i < 2 ^ 63) then some (.non, L.set n (.lst (ds.take i.toNat ++ [x] ++ ds.drop i.toNat))) else none
        | _ => none
      | .reverse => match as with
        | [] => some (.non, L.set n (.lst ds.reverse))
        | _ => none
      | .clear => match as with
        | [] => some (.non, L.set n (.lst []))
        | _ => none
      | .remove => match as with
        | [.int k] => match intsOf ds with
          | some ns => match findI k ns with
            | some j => some (.non, L.set n (.lst (ds.eraseIdx j)))
            | none => none
          | none => none
        | _ => none
      | .index => match as with
        | [y] => if flat y && ds.all flat then (findF y ds).map fun i => (.int (i : Nat), L) else none
        | _ => none
      | _ => none
    | some (.dic kvs) => match m with
      | .pop => match as with
        | [k] => match keyOf k with
          | some k => (getK k kvs).map fun v => (v, L.set n (.dic (dropKey k kvs)))
          | none => none
        | [k, d] => match keyOf k with
          | some k => match getK k kvs with
            | some v => some (v, L.set n (.dic (dropKey k kvs)))
            | none => some (d, L)
          | none => none
        | _ => none
      | _ => none
    | _ => none
  | .str sep => match m with
    | .join => match as with
      | [x] => match seqOf L x with
        | some ds => match strsOf ds with
          | some ys => if decide ((ys.map (·.length)).sum + ys.length * sep.length ≤ 16777216) then some (.str (Txt.join sep ys), L) else none
          | none => none
        | none => none
      | _ => none
    | _ => none
  | _ => none

inductive MT where | str | list | dict
  deriving DecidableEq, Repr
/-- the type whose method is called, where it has it -/
def mthTyK : Mth → Option MT
  | .pop => some .dict
  | _ => none
def mthTy (m : Mth) (L : Live) : D → Option MT
  | .str _ => match m with | .join => some .str | _ => none
  | .ref n => match L[n]? with
    | some (.lst _) => match m with
      | .remove => some .list | .append => some .list | .extend => some .list | .pop => some .list | .insert => some .list | .reverse => some .list | .clear => some .list | .index => some .list
      | _ => none
    | some (.dic _) => mthTyK m
    | _ => none
  | _ => none
/-! ### isinstance -/
inductive Ty where | int | bool | str | list | tuple | dict
  deriving DecidableEq, Repr
def isiD (L : Live) (d : D) (t : Ty) : Option Bool :=
  match d with
  | .non => some false
  | .bl _ => some (decide (t = .bool ∨ t = .int))
  | .int _ => some (decide (t = .int))
  | .str _ => some (decide (t = .str))
  | .tup _ => some (decide (t = .tuple))
  | .lst _ _ => some (decide (t = .list))
  | .ref n => match L[n]? with
    | some (.lst _) => some (decide (t = .list))
    | some (.dic _) => some (decide (t = .dict))
    | _ => none
  | .dct _ _ => some (decide (t = .dict))

/-! ### syntax -/
inductive Tg where | slot (i : Nat) | tup (ts : List Tg)
mutual
inductive Ex where
  | var (i : Nat) | con (d : D) | glob (x : Str) (d : D)
  | bin (o : Bop) (lv : Bool) (a b : Ex) | neg (a : Ex) | not (a : Ex)
  | cmp (o : Cop) (a b : Ex) | chn (o o' : Cop) (a b c : Ex)
  | and (a b : Ex) | or (a b : Ex) | ite (t a b : Ex)
  | tup (es : Exs) | lst (lv : Bool) (es : Exs)
  | idx (a i : Ex) | slc (lv : Bool) (a lo hi : Ex)
  | call (f : Nat) (es : Exs) | lgen (lv : Bool) (f : Nat) (es : Exs) | blt (b : Blt) (lv : Bool) (es : Exs) | mth (m : Mth) (o : Ex) (es : Exs)
  | own (m : Str) (o : Ex) (es : Exs) | fld (o : Ex) (f : Str) | make (C : Str) (es : Exs)
  | isi (a : Ex) (t : Ty)
  | dic0 | dct (ks : List Key) (es : Exs)
  | mxd (a d : Ex)
  | tks (lv : Bool) (i ik iv : Nat)
  | lrg1 (lv : Bool) (a : Ex) | lrg2 (lv : Bool) (a b : Ex) | rev (lv : Bool) (a : Ex)
  | comp (lv : Bool) (own : List Nat) (g : Tg) (it : It) (cs : Exs) (e : Ex)
  | lvl (lv : Bool) (d : Ex)
  | compv (lv : Bool) (own : List Nat) (g : Tg) (d : Ex) (cs : Exs) (e : Ex)
  | comp2 (lv : Bool) (own own1 : List Nat) (g : Tg) (it : It) (cs : Exs) (g1 : Tg) (it1 : It) (cs1 : Exs) (e : Ex)
inductive Exs where
  | nil | cons (e : Ex) (es : Exs) | star (e : Ex) (es : Exs)
inductive It where
  | val (e : Ex) | rng1 (a : Ex) | rng2 (a b : Ex) | enum (e : Ex) | zip (a b : Ex) | zip3 (a b d : Ex)
end
/-- a slice's part that is not written -/
def isAbs : Ex → Bool | .con .non => true | _ => false
inductive Tgt where
  | nm (g : Tg) | sub (o i : Ex) | fld (o : Ex) (f : Str)
mutual
inductive St where
  | ex (e : Ex) | asg (g : Tgt) (e : Ex) | par (is : List Nat) (es : Exs) | aug (i : Nat) (o : Bop) (e : Ex) | ret (e : Ex) | retN
  | ite (c : Ex) (a b : Ss) | for_ (g : Tg) (it : It) (b : Ss) | whl (c : Ex) (b : Ss) | brk | cnt | pas
  | rais (C : Str) (es : Exs) | del (o i : Ex) | nev
inductive Ss where
  | nil | cons (s : St) (ss : Ss)
end

/-! ### the evaluator -/
structure Cxt where
  φ : Nat → List D → Live → Res D
  γ : Nat → List D → Live → Res (List D)
  liv : Nat → List Bool
  meth : Str → Str → Option Nat
  init : Str → Option Nat
  exf : Str → Option (List Str)
  fuel : Nat
/-! ### lending live lists to a callee -/
mutual
def noRef : D → Bool
  | .ref _ => false
  | .tup ds => noRefs ds
  | .lst _ ds => noRefs ds
  | .dct _ ds => noRefs ds
  | _ => true
def noRefs : List D → Bool
  | [] => true
  | d :: ds => noRef d && noRefs ds
end
/-- live lists as trees that bear their numbers, so deep -/
def lendF (L : Live) : Nat → D → Option D
  | 0, _ => none
  | n + 1, d => if noRef d then some d else match d with
    | .ref k => match L[k]? with
      | some (.lst ds) => (mapO (lendF L n) ds).map (.lst (k + 1))
      | some .gone => none
      | none => none
      | _ => some d
    | .tup ds => (mapO (lendF L n) ds).map .tup
    | .lst t ds => (mapO (lendF L n) ds).map (.lst t)
    | .dct ks ds => (mapO (lendF L n) ds).map (.dct ks)
    | d => some d
def idsF (L : Live) : Nat → D → List Nat
  | 0, _ => []
  | n + 1, d => if noRef d then [] else match d with
    | .ref k => match L[k]? with
      | some (.lst ds) => k :: ds.flatMap (idsF L n)
      | _ => []
    | .tup ds => ds.flatMap (idsF L n)
    | .lst _ ds => ds.flatMap (idsF L n)
    | .dct _ ds => ds.flatMap (idsF L n)
    | _ => []
/-- the arguments; lv: which parameters take a live list as it is -/
def lendAs (L : Live) : List Bool → List D → Option (List D)
  | _, [] => some []
  | lv, d :: ds => match (if lv.headD false then some d else lendF L 12 d) with
    | some e => match lendAs L lv.tail ds with | some es => some (e :: es) | none => none
    | none => none
def idsAs (L : Live) : List Bool → List D → List Nat
  | _, [] => []
  | lv, d :: ds => (if lv.headD false then [] else idsF L 12 d) ++ idsAs L lv.tail ds
mutual
/-- what was lent is a live list again -/
def th (ids : List Nat) : D → D
  | .tup ds => .tup (ths ids ds)
  | .lst t ds => match t with
    | 0 => .lst 0 (ths ids ds)
    | k + 1 => if k ∈ ids then .ref k else .lst (k + 1) (ths ids ds)
  | .dct ks ds => .dct ks (ths ids ds)
  | d => d
def ths (ids : List Nat) : List D → List D
  | [] => []
  | d :: ds => th ids d :: ths ids ds
end
def thO (ids : List Nat) : LO → LO
  | .lst xs => .lst (ths ids xs)
  | .dic kvs => .dic (kvs.map fun p => (p.1, th ids p.2))
  | .ins C fs => .ins C (fs.map fun p => (p.1, th ids p.2))
  | .gone => .gone
def mapIx {α β : Type} (f : Nat → α → β) : Nat → List α → List β
  | _, [] => []
  | i, x :: r => f i x :: mapIx f (i + 1) r
def maskL (ids : List Nat) (L : Live) : Live := mapIx (fun i o => if i ∈ ids then .gone else o) 0 L
def backL (ids : List Nat) (L L' : Live) : Live := mapIx (fun i o => if i ∈ ids then (L[i]?).getD .gone else if L[i]? = some o then o else thO ids o) 0 L'
def callW (c : Cxt) (f : Nat) (ds : List D) (L : Live) : Res D :=
  match idsAs L (c.liv f) ds with
  | [] => c.φ f ds L
  | i :: ids => match lendAs L (c.liv f) ds with
    | none => .stuck
    | some es => match c.φ f es (maskL (i :: ids) L) with
      | .ok d L' => .ok (th (i :: ids) d) (backL (i :: ids) L L')
      | .exc C fs L' => .exc C (fs.map fun p => (p.1, th (i :: ids) p.2)) (backL (i :: ids) L L')
      | .stuck => .stuck
/-! ### a def that hands back a tree without live lists, and leaves no live object behind -/
mutual
def okB (n : Nat) : D → Bool
  | .ref k => decide (k < n)
  | .tup ds => okBs n ds
  | .lst t ds => decide (t ≤ n) && okBs n ds
  | .dct _ ds => okBs n ds
  | _ => true
def okBs (n : Nat) : List D → Bool
  | [] => true
  | d :: ds => okB n d && okBs n ds
end
def fzF (n : Nat) (L : Live) : Nat → D → Option D
  | 0, _ => none
  | m + 1, d => if okB n d then some d else match d with
    | .ref k => if k < n then some (.ref k) else match L[k]? with
      | some (.lst ds) => (mapO (fzF n L m) ds).map (.lst 0)
      | _ => none
    | .tup ds => (mapO (fzF n L m) ds).map .tup
    | .lst t ds => if t ≤ n then (mapO (fzF n L m) ds).map (.lst t) else none
    | .dct ks ds => (mapO (fzF n L m) ds).map (.dct ks)
    | d => some d
def fzP {κ : Type} (n : Nat) (L : Live) (p : κ × D) : Option (κ × D) := (fzF n L 12 p.2).map fun d => (p.1, d)
def fzO (n : Nat) (L : Live) : LO → Option LO
  | .lst xs => (mapO (fzF n L 12) xs).map .lst
  | .dic kvs => (mapO (fzP n L) kvs).map .dic
  | .ins C fs => (mapO (fzP n L) fs).map (.ins C)
  | .gone => some .gone
/-- the objects that were there ahead of the call, behind it -/
def cutL (n : Nat) (M : Live) : Live → Live → Option Live
  | [], _ => some []
  | _ :: _, [] => none
  | o :: L, o' :: L' => match (if o' = o then some o else fzO n M o') with
    | some u => match cutL n M L L' with | some r => some (u :: r) | none => none
    | none => none
def cleanR (L : Live) (r : Res D) : Res D := match r with
  | .ok d L' => match fzF L.length L' 12 d with
    | some e => match cutL L.length L' L L' with | some L2 => .ok e L2 | none => .stuck
    | none => .stuck
  | .exc C fs L' => match mapO (fzP L.length L') fs with
    | some gs => match cutL L.length L' L L' with | some L2 => .exc C gs L2 | none => .stuck
    | none => .stuck
  | .stuck => .stuck
/-- all that a generator hands out; no live list is lent to it -/
def callG (c : Cxt) (f : Nat) (ds : List D) (L : Live) : Res (List D) := if noRefs ds then (match c.γ f ds L with | .ok xs L' => .ok xs L' | _ => .stuck) else .stuck
def opt {α : Type} (o : Option (α × Live)) : Res α := match o with | some (d, L) => .ok d L | none => .stuck
def optV {α : Type} (o : Option α) (L : Live) : Res α := match o with | some d => .ok d L | none => .stuck
mutual
/-- storing by a target of names -/
def storeG : Tg → D → Ev → Option Ev
  | .slot i, d, E => if i < E.length then some (E.set i (some d)) else none
  | .tup gs, d, E => match d with
    | .tup ds => storeGs gs ds E
    | _ => none
def storeGs : List Tg → List D → Ev → Option Ev
  | [], [], E => some E
  | g :: gs, d :: ds, E => match storeG g d E with | some E' => storeGs gs ds E' | none => none
  | _, _, _ => none
end
/-- what is walked: its items, and the list that must stay as it is -/
def rng1D : D → Option (List D)
  | .int j => if decide (-(2 ^ 62) ≤ j) && decide (j < 2 ^ 62) then some ((List.range j.toNat).map fun k => D.int (k : Nat)) else none
  | _ => none
def rng2D : D → D → Option (List D)
  | .int i, .int j => if decide (-(2 ^ 62) ≤ i) && decide (i < 2 ^ 62) && decide (-(2 ^ 62) ≤ j) && decide (j < 2 ^ 62) then some ((List.range (j - i).toNat).map fun k => D.int (i + (k : Nat))) else none
  | _, _ => none
def enumD (ds : List D) : List D := ds.zipIdx.map fun p => .tup [.int (p.2 : Nat), p.1]
def zipD (ds es : List D) : List D := (ds.zip es).map fun p => .tup [p.1, p.2]
/-- the live lists that a walk looks at -/
def watch (L : Live) : D → List (Nat × List D)
  | .ref k => match L[k]? with | some (.lst ds) => [(k, ds)] | _ => []
  | _ => []
def still (L : Live) (w : List (Nat × List D)) : Bool := w.all fun p => decide (L[p.1]? = some (.lst p.2))
theorem still_iff {L : Live} {w : List (Nat × List D)} : still L w = true ↔ ∀ p ∈ w, L[p.1]? = some (.lst p.2) := by simp [still]
def zipW (L : Live) (x y : D) : Option (List D × List (Nat × List D)) := match x with
  | .tup xs => match y with
    | .tup ys => some (zipD xs ys, [])
    | _ => none
  | x => match lstOf L x with
    | some ds => match lstOf L y with
      | some es => some (zipD ds es, watch L x ++ watch L y)
      | none => none
    | none => none
def zip3D (ds es fs : List D) : List D := ((ds.zip es).zip fs).map fun p => .tup [p.1.1, p.1.2, p.2]
def zip3W (L : Live) (x y z : D) : Option (List D × List (Nat × List D)) := match lstOf L x with
  | some ds => match lstOf L y with
    | some es => match lstOf L z with
      | some fs => some (zip3D ds es fs, watch L x ++ (watch L y ++ watch L z))
      | none => none
    | none => none
  | none => none
/-- list(d.values()) -/
def lvlD (lv : Bool) (x : D) (L : Live) : Option (D × Live) := match x with
  | .ref n => match L[n]? with
    | some (.dic kvs) => if decide (kvs.length ≤ sizeLine) then some (newL lv (kvs.map Prod.snd) L) else none
    | _ => none
  | _ => none
/-- a dict that is walked: where it stands and what it holds -/
def dicAt (x : D) (L : Live) : Option (Nat × List (Key × D)) := match x with
  | .ref n => match L[n]? with
    | some (.dic kvs) => some (n, kvs)
    | _ => none
  | _ => none
def charsD (z : Str) : List D := z.cps.toList.map fun c => .str ⟨#[c]⟩
def itemsOf (L : Live) : D → Option (List D)
  | .str z => some (charsD z)
  | d => seqOf L d
def wipeE (E : Ev) : List Nat → Ev
  | [] => E
  | v :: vs => (wipeE E vs).set v none
def compL (w : List (Nat × List D)) (g : Tg) (E : Ev) (c : Ev → Live → Res Bool) (e : Ev → Live → Res D) : List D → List D → Live → Res (List D)
  | [], acc, L => if still L w then .ok acc L else .stuck
  | d :: ds, acc, L => if still L w then match storeG g d E with
      | some E' => match c E' L with
        | .ok b L1 => if b then match e E' L1 with
            | .ok x L2 => if acc.length < sizeLine then compL w g E c e ds (acc ++ [x]) L2 else .stuck
            | _ => .stuck
          else compL w g E c e ds acc L1
        | _ => .stuck
      | none => .stuck
    else .stuck
/-- the outer clause of a comprehension of two -/
def compF (w : List (Nat × List D)) (g : Tg) (E : Ev) (c : Ev → Live → Res Bool) (f : Ev → List D → Live → Res (List D)) : List D → List D → Live → Res (List D)
  | [], acc, L => if still L w then .ok acc L else .stuck
  | d :: ds, acc, L => if still L w then match storeG g d E with
      | some E' => match c E' L with
        | .ok b L1 => if b then match f E' acc L1 with
            | .ok acc2 L2 => compF w g E c f ds acc2 L2
            | _ => .stuck
          else compF w g E c f ds acc L1
        | _ => .stuck
      | none => .stuck
    else .stuck
def rgOkB (a b : Int) : Bool := decide (-(2 ^ 62) ≤ a) && decide (a < 2 ^ 62) && decide (-(2 ^ 62) ≤ b) && decide (b < 2 ^ 62) && decide ((b - a).toNat ≤ 2 ^ 24)
def rgD (a b : Int) : List D := (List.range (b - a).toNat).map fun k => D.int (a + (k : Nat))
def lrgD (lv : Bool) (a b : Int) (L : Live) : Option (D × Live) := if rgOkB a b then some (newL lv (rgD a b) L) else none
def lrg1D (lv : Bool) (x : D) (L : Live) : Option (D × Live) := match x with | .int n => lrgD lv 0 n L | _ => none
def lrg2D (lv : Bool) (x y : D) (L : Live) : Option (D × Live) := match x with | .int i => (match y with | .int j => lrgD lv i j L | _ => none) | _ => none
def revD (lv : Bool) (x : D) (L : Live) : Option (D × Live) := match lstOf L x with | some ds => some (newL lv ds.reverse L) | none => none
/-- max(.., default=..) -/
def tksL : List (Key × D) → Option (List D)
  | [] => some []
  | (k, .bl b) :: r => (tksL r).map fun ks => if b then keyD k :: ks else ks
  | _ :: _ => none
def tksD (lv : Bool) (x : D) (L : Live) : Option (D × Live) := match x with
  | .ref n => match L[n]? with
    | some (.dic kvs) => if decide (kvs.length ≤ sizeLine) then (tksL kvs).map fun ks => newL lv ks L else none
    | _ => none
  | _ => none
def mxdD (x y : D) (L : Live) : Option D := match lstOf L x with
  | some ds => match intsOf ds with
    | some ns => match maxI ns with
      | some m => some (.int m)
      | none => some y
    | none => none
  | none => none
mutual
def evE (c : Cxt) : Ex → Ev → Live → Res D
  | .var i, E, L => match E[i]? with | some (some d) => .ok d L | _ => .stuck
  | .con d, _, L => .ok d L
  | .glob _ d, _, L => .ok d L
  | .bin o lv a b, E, L => (evE c a E L).bind fun x L1 => (evE c b E L1).bind fun y L2 => opt (binD o lv x y L2)
  | .neg a, E, L => (evE c a E L).bind fun x L1 => match x with | .int i => .ok (.int (-i)) L1 | _ => .stuck
  | .not a, E, L => (evE c a E L).bind fun x L1 => (optV (truD L1 x) L1).bind fun b L2 => .ok (.bl (!b)) L2
  | .cmp o a b, E, L => (evE c a E L).bind fun x L1 => (evE c b E L1).bind fun y L2 => (optV (cmpD o x y L2) L2).bind fun b L3 => .ok (.bl b) L3
  | .chn o o' a b d, E, L => (evE c a E L).bind fun x L1 => (evE c b E L1).bind fun y L2 => (optV (cmpD o x y L2) L2).bind fun k L3 =>
      if k then (evE c d E L3).bind fun z L4 => (optV (cmpD o' y z L4) L4).bind fun b L5 => .ok (.bl b) L5 else .ok (.bl false) L3
  | .and a b, E, L => (evE c a E L).bind fun x L1 => (optV (truD L1 x) L1).bind fun k L2 => if k then evE c b E L2 else .ok x L2
  | .or a b, E, L => (evE c a E L).bind fun x L1 => (optV (truD L1 x) L1).bind fun k L2 => if k then .ok x L2 else evE c b E L2
  | .ite t a b, E, L => (evE c t E L).bind fun x L1 => (optV (truD L1 x) L1).bind fun k L2 => if k then evE c a E L2 else evE c b E L2
  | .tup es, E, L => (evA c es E L).bind fun ds L1 => if sizeOk ds.length then .ok (.tup ds) L1 else .stuck
  | .lst lv es, E, L => (evA c es E L).bind fun ds L1 => if sizeOk ds.length then opt (some (newL lv ds L1)) else .stuck
  | .idx a i, E, L => (evE c a E L).bind fun x L1 => (evE c i E L1).bind fun y L2 => optV (idxD x y L2) L2
  | .slc lv a lo hi, E, L => (evE c a E L).bind fun x L1 =>
      (if isAbs lo then .ok none L1 else (evE c lo E L1).bind fun l L2 => optV (part l) L2).bind fun l L2 =>
      (if isAbs hi then .ok none L2 else (evE c hi E L2).bind fun h L3 => optV (part h) L3).bind fun h L3 => opt (slcP lv x l h L3)
  | .call f es, E, L => (evA c es E L).bind fun ds L1 => callW c f ds L1
  | .lgen lv f es, E, L => (evA c es E L).bind fun ds L1 => (callG c f ds L1).bind fun xs L2 => opt (some (newL lv xs L2))
  | .blt b lv es, E, L => (evA c es E L).bind fun ds L1 => opt (bltD b lv ds L1)
  | .mth m o es, E, L => (evE c o E L).bind fun x L1 => match mthTy m L1 x with
      | some T => (evA c es E L1).bind fun ds L2 => if mthTy m L2 x = some T then opt (mthD m x ds L2) else .stuck
      | none => .stuck
  | .own m o es, E, L => (evE c o E L).bind fun x L1 => match x with
      | .ref n => match L1[n]? with
        | some (.ins C fs) => match c.meth C m with
          | some f => if (fs.lookup m).isNone then (evA c es E L1).bind fun ds L2 => callW c f (x :: ds) L2 else .stuck
          | none => .stuck
        | _ => .stuck
      | _ => .stuck
  | .fld o f, E, L => (evE c o E L).bind fun x L1 => match x with
      | .ref n => match L1[n]? with
        | some (.ins _ fs) => optV (fs.lookup f) L1
        | _ => .stuck
      | _ => .stuck
  | .make C es, E, L => (evA c es E L).bind fun ds L1 => match c.init C with
      | some f => (callW c f (.ref L1.length :: ds) (L1 ++ [.ins C []])).bind fun r L2 => match r with
        | .non => .ok (.ref L1.length) L2
        | _ => .stuck
      | none => .stuck
  | .isi a t, E, L => (evE c a E L).bind fun x L1 => (optV (isiD L1 x t) L1).bind fun b L2 => .ok (.bl b) L2
  | .dic0, _, L => .ok (.ref L.length) (L ++ [.dic []])
  | .dct ks es, E, L => (evA c es E L).bind fun ds L1 => if ks.length = ds.length then .ok (.dct ks ds) L1 else .stuck
  | .tks lv i ik iv, E, L => (match E[i]? with | some (some d) => Res.ok d L | _ => .stuck).bind fun x L1 => if decide (ik < E.length) && decide (iv < E.length) then opt (tksD lv x L1) else .stuck
  | .mxd a d, E, L => (evE c a E L).bind fun x L1 => (evE c d E L1).bind fun y L2 => optV (mxdD x y L2) L2
  | .lrg1 lv a, E, L => (evE c a E L).bind fun x L1 => opt (lrg1D lv x L1)
  | .lrg2 lv a b, E, L => (evE c a E L).bind fun x L1 => (evE c b E L1).bind fun y L2 => opt (lrg2D lv x y L2)
  | .rev lv a, E, L => (evE c a E L).bind fun x L1 => opt (revD lv x L1)
  | .comp lv own g it cs e, E, L => (evI c it E L).bind fun p L1 =>
      (compL p.2 g (wipeE E own) (fun E' L' => evC c cs E' L') (fun E' L' => evE c e E' L') p.1 [] L1).bind fun ds L2 => opt (some (newL lv ds L2))
  | .lvl lv d, E, L => (evE c d E L).bind fun x L1 => opt (lvlD lv x L1)
  | .compv lv own g d cs e, E, L => (evE c d E L).bind fun x L1 => (optV (dicAt x L1) L1).bind fun q L2 =>
      (compL [] g (wipeE E own) (fun E' L' => evC c cs E' L') (fun E' L' => evE c e E' L') (q.2.map Prod.snd) [] (L2.set q.1 .gone)).bind fun ds L3 =>
        if L3[q.1]? = some .gone then .ok (newL lv ds L3).1 ((newL lv ds L3).2.set q.1 (.dic q.2)) else .stuck
  | .comp2 lv own own1 g it cs g1 it1 cs1 e, E, L => (evI c it E L).bind fun p L1 =>
      (compF p.2 g (wipeE E own) (fun E' L' => evC c cs E' L') (fun E' acc L' => (evI c it1 E' L').bind fun q L2 => compL q.2 g1 (wipeE E' own1) (fun E2 L3 => evC c cs1 E2 L3) (fun E2 L3 => evE c e E2 L3) q.1 acc L2) p.1 [] L1).bind fun ds L2 => opt (some (newL lv ds L2))
def evA (c : Cxt) : Exs → Ev → Live → Res (List D)
  | .nil, _, L => .ok [] L
  | .cons e es, E, L => (evE c e E L).bind fun x L1 => (evA c es E L1).bind fun xs L2 => .ok (x :: xs) L2
  | .star e es, E, L => (evE c e E L).bind fun x L1 => (optV (seqOf L1 x) L1).bind fun xs L2 => (evA c es E L2).bind fun ys L3 => .ok (xs ++ ys) L3
/-- the tests of a comprehension -/
def evC (c : Cxt) : Exs → Ev → Live → Res Bool
  | .nil, _, L => .ok true L
  | .cons e es, E, L => (evE c e E L).bind fun x L1 => (optV (truD L1 x) L1).bind fun k L2 => if k then evC c es E L2 else .ok false L2
  | .star _ _, _, _ => .stuck
def evI (c : Cxt) : It → Ev → Live → Res (List D × List (Nat × List D))
  | .val e, E, L => (evE c e E L).bind fun x L1 => (optV (itemsOf L1 x) L1).bind fun ds L2 => .ok (ds, watch L2 x) L2
  | .rng1 a, E, L => (evE c a E L).bind fun x L1 => (optV (rng1D x) L1).bind fun ds L2 => .ok (ds, []) L2
  | .rng2 a b, E, L => (evE c a E L).bind fun x L1 => (evE c b E L1).bind fun y L2 => (optV (rng2D x y) L2).bind fun ds L3 => .ok (ds, []) L3
  | .enum e, E, L => (evE c e E L).bind fun x L1 => (optV (lstOf L1 x) L1).bind fun ds L2 => .ok (enumD ds, watch L2 x) L2
  | .zip a b, E, L => (evE c a E L).bind fun x L1 => (evE c b E L1).bind fun y L2 => optV (zipW L2 x y) L2
  | .zip3 a b d, E, L => (evE c a E L).bind fun x L1 => (evE c b E L1).bind fun y L2 => (evE c d E L2).bind fun z L3 => optV (zip3W L3 x y z) L3
end
/-- a test -/
def evT (c : Cxt) (e : Ex) (E : Ev) (L : Live) : Res Bool := (evE c e E L).bind fun x L1 => optV (truD L1 x) L1

inductive Flw where | nx | bk | ct | rt (d : D)
inductive SRes where
  | fl (f : Flw) (E : Ev) (L : Live) | exc (C : Str) (fs : List (Str × D)) (E : Ev) (L : Live) | stuck
def SRes.of {α : Type} (r : Res α) (E : Ev) (k : α → Live → SRes) : SRes := match r with
  | .ok a L => k a L
  | .exc C fs L => .exc C fs E L
  | .stuck => .stuck
@[simp] theorem SRes.of_ok {α : Type} (a : α) (L : Live) (E : Ev) (k : α → Live → SRes) : SRes.of (.ok a L) E k = k a L := rfl
@[simp] theorem SRes.of_exc {α : Type} (C : Str) (fs : List (Str × D)) (L : Live) (E : Ev) (k : α → Live → SRes) : SRes.of (.exc C fs L) E k = .exc C fs E L := rfl
@[simp] theorem SRes.of_stuck {α : Type} (E : Ev) (k : α → Live → SRes) : SRes.of (.stuck : Res α) E k = .stuck := rfl
def SRes.seq (r : SRes) (k : Ev → Live → SRes) : SRes := match r with
  | .fl .nx E L => k E L
  | r => r
@[simp] theorem SRes.seq_nx (E : Ev) (L : Live) (k : Ev → Live → SRes) : SRes.seq (.fl .nx E L) k = k E L := rfl
@[simp] theorem SRes.seq_rt (d : D) (E : Ev) (L : Live) (k : Ev → Live → SRes) : SRes.seq (.fl (.rt d) E L) k = .fl (.rt d) E L := rfl
@[simp] theorem SRes.seq_bk (E : Ev) (L : Live) (k : Ev → Live → SRes) : SRes.seq (.fl .bk E L) k = .fl .bk E L := rfl
@[simp] theorem SRes.seq_ct (E : Ev) (L : Live) (k : Ev → Live → SRes) : SRes.seq (.fl .ct E L) k = .fl .ct E L := rfl
@[simp] theorem SRes.seq_exc (C : Str) (fs : List (Str × D)) (E : Ev) (L : Live) (k : Ev → Live → SRes) : SRes.seq (.exc C fs E L) k = .exc C fs E L := rfl
@[simp] theorem SRes.seq_stuck (k : Ev → Live → SRes) : SRes.seq .stuck k = .stuck := rfl
def forL (w : List (Nat × List D)) (g : Tg) (b : Ev → Live → SRes) : List D → Ev → Live → SRes
  | [], E, L => if still L w then .fl .nx E L else .stuck
  | d :: ds, E, L => if still L w then match storeG g d E with
      | some E' => match b E' L with
        | .fl .nx E2 L2 => forL w g b ds E2 L2
        | .fl .ct E2 L2 => forL w g b ds E2 L2
        | .fl .bk E2 L2 => .fl .nx E2 L2
        | r => r
      | none => .stuck
    else .stuck
def whlL (t : Ev → Live → Res Bool) (b : Ev → Live → SRes) : Nat → Ev → Live → SRes
  | 0, _, _ => .stuck
  | n + 1, E, L => SRes.of (t E L) E fun k L1 => if k then match b E L1 with
      | .fl .nx E2 L2 => whlL t b n E2 L2
      | .fl .ct E2 L2 => whlL t b n E2 L2
      | .fl .bk E2 L2 => .fl .nx E2 L2
      | r => r
    else .fl .nx E L1
def putKey (k : Key) (v : D) (kvs : List (Key × D)) : List (Key × D) :=
  if (kvs.any fun kv => decide (kv.1 = k)) = true then kvs.map (fun kv => if kv.1 = k then (kv.1, v) else kv) else kvs ++ [(k, v)]
def putFld (f : Str) (v : D) : List (Str × D) → List (Str × D)
  | [] => [(f, v)]
  | (g, x) :: r => if g = f then (g, v) :: r else (g, x) :: putFld f v r
/-- o[i] = v -/
def setD (o i v : D) (L : Live) : Option Live := match o with
  | .ref n => match L[n]? with
    | some (.lst ds) => match i with
      | .int i => (ixN ds.length i).map fun j => L.set n (.lst (ds.set j v))
      | _ => none
    | some (.dic kvs) => match keyOf i with
      | some k => if decide (kvs.length < sizeLine) then some (L.set n (.dic (putKey k v kvs))) else none
      | none => none
    | _ => none
  | _ => none
def delD (o i : D) (L : Live) : Option Live := match o with
  | .ref n => match L[n]? with
    | some (.dic kvs) => match keyOf i with
      | some k => if (getK k kvs).isSome then some (L.set n (.dic (dropKey k kvs))) else none
      | none => none
    | _ => none
  | _ => none
def storeT (c : Cxt) (g : Tgt) (d : D) (E : Ev) (L : Live) : SRes := match g with
  | .nm g => match storeG g d E with | some E' => .fl .nx E' L | none => .stuck
  | .sub o i => SRes.of (evE c o E L) E fun x L1 => SRes.of (evE c i E L1) E fun y L2 => match setD x y d L2 with | some L3 => .fl .nx E L3 | none => .stuck
  | .fld o f => SRes.of (evE c o E L) E fun x L1 => match x with
      | .ref n => match L1[n]? with
        | some (.ins C fs) => if decide (fs.length < 1000) then .fl .nx E (L1.set n (.ins C (putFld f d fs))) else .stuck
        | _ => .stuck
      | _ => .stuck
def setAll : List Nat → List D → Ev → Ev
  | i :: is, d :: ds, E => setAll is ds (E.set i (some d))
  | _, _, E => E
mutual
def evS (c : Cxt) : St → Ev → Live → SRes
  | .ex e, E, L => SRes.of (evE c e E L) E fun _ L1 => .fl .nx E L1
  | .asg g e, E, L => SRes.of (evE c e E L) E fun d L1 => storeT c g d E L1
  | .par is es, E, L => SRes.of (evA c es E L) E fun ds L1 => if is.length = ds.length then .fl .nx (setAll is ds E) L1 else .stuck
  | .nev, _, _ => .stuck
  | .aug i o e, E, L => match E[i]? with
      | some (some x) => SRes.of (evE c e E L) E fun y L1 => match x with
        | .int a => match y with
          | .int b => match o with
            | .add => .fl .nx (E.set i (some (.int (a + b)))) L1
            | .sub => .fl .nx (E.set i (some (.int (a - b)))) L1
            | _ => .stuck
          | _ => .stuck
        | _ => .stuck
      | _ => .stuck
  | .ret e, E, L => SRes.of (evE c e E L) E fun d L1 => .fl (.rt d) E L1
  | .retN, E, L => .fl (.rt .non) E L
  | .ite t a b, E, L => SRes.of (evT c t E L) E fun k L1 => if k then evSs c a E L1 else evSs c b E L1
  | .for_ g it b, E, L => SRes.of (evI c it E L) E fun p L1 => forL p.2 g (fun E' L' => evSs c b E' L') p.1 E L1
  | .whl t b, E, L => whlL (evT c t) (fun E' L' => evSs c b E' L') c.fuel E L
  | .brk, E, L => .fl .bk E L
  | .cnt, E, L => .fl .ct E L
  | .pas, E, L => .fl .nx E L
  | .rais C es, E, L => SRes.of (evA c es E L) E fun ds L1 => match c.exf C with
      | some fs => if fs = [] ∨ fs.length = ds.length then .exc C (fs.zip ds) E L1 else .stuck
      | none => .stuck
  | .del o i, E, L => SRes.of (evE c o E L) E fun x L1 => SRes.of (evE c i E L1) E fun y L2 => match delD x y L2 with | some L3 => .fl .nx E L3 | none => .stuck
def evSs (c : Cxt) : Ss → Ev → Live → SRes
  | .nil, E, L => .fl .nx E L
  | .cons s ss, E, L => (evS c s E L).seq fun E' L' => evSs c ss E' L'
end
end MP
set_option maxHeartbeats 4000000
/-! MP: operations by values -/
namespace MP
open PySem PySem.Spec PyProof.Rows L2

section
variable {G : Gv} {wd : Wd} {H : Hp} {L : Live} {v : V} {d : D} {ds : List D}
/-- what is wanted of a value d and the live objects L behind an operation that began in wd -/
def End (G : Gv) (wd : Wd) (d : D) (L : Live) (Q : VK) : Prop := ∀ wd' H' v, Ext wd wd' → WOk (G := G) wd' H' L → RelD G wd' v d → Q v H'
theorem End.now {Q : VK} (e : End G wd d L Q) (w : WOk (G := G) wd H L) (r : RelD G wd v d) : Q v H := e wd H v (Ext.refl _) w r
theorem rd_list (w : WOk (G := G) wd H L) (r : RelD G wd v d) (h : lstOf L d = some ds) : ∃ a xs, v = .ref a ∧ Rd H a (.lst xs) ∧ RelDs G wd xs ds := by
  cases d with
  | lst t es =>
    simp only [lstOf, Option.some.injEq] at h
    subst h
    simp only [RelD] at r
    obtain ⟨a, xs, rfl, h2, h3, _⟩ := r
    exact ⟨a, xs, rfl, Rd.mono w.sub h2, h3⟩
  | ref n =>
    simp only [RelD] at r
    obtain ⟨a, h1, rfl⟩ := r
    simp only [lstOf] at h
    cases q : L[n]? with
    | none => rw [q] at h; cases h
    | some o =>
      rw [q] at h
      obtain ⟨a', e1, e2, _⟩ := w.live n o q
      rw [h1] at e1; cases e1
      cases o with
      | lst es =>
        simp only [Option.some.injEq] at h
        subst h
        obtain ⟨xs, e3, e4⟩ := e2
        exact ⟨a, xs, rfl, .inl e3, e4⟩
      | _ => simp at h
  | _ => simp [lstOf] at h
theorem rd_tup (w : WOk (G := G) wd H L) (r : RelD G wd v (.tup ds)) : ∃ a xs, v = .ref a ∧ SqT G.K H a xs ∧ RelDs G wd xs ds := by
  simp only [RelD] at r
  obtain ⟨a, xs, h1, h2, h3⟩ := r
  exact ⟨a, xs, h1, SqT.mono w.sub h2, h3⟩
theorem rd_seq (w : WOk (G := G) wd H L) (r : RelD G wd v d) (h : seqOf L d = some ds) : ∃ a xs, v = .ref a ∧ (SqL G.K H a xs ∨ SqT G.K H a xs) ∧ RelDs G wd xs ds := by
  by_cases ht : ∃ es, d = .tup es
  · obtain ⟨es, rfl⟩ := ht
    simp only [seqOf, Option.some.injEq] at h
    subst h
    obtain ⟨a, xs, h1, h2, h3⟩ := rd_tup w r
    exact ⟨a, xs, h1, .inr h2, h3⟩
  · have e : seqOf L d = lstOf L d := by
      cases d with
      | tup es => exact absurd ⟨es, rfl⟩ ht
      | _ => rfl
    rw [e] at h
    obtain ⟨a, xs, h1, h2, h3⟩ := rd_list w r h
    exact ⟨a, xs, h1, .inl (.inl h2), h3⟩
/-- a live object that a reference names -/
theorem rd_ref {n : Nat} {o : LO} (w : WOk (G := G) wd H L) (r : RelD G wd v (.ref n)) (h : L[n]? = some o) : ∃ a, v = .ref a ∧ wd.ι n = some a ∧ RelO (G := G) wd H a o ∧ (o ≠ .gone → wd.F a = none) := by
  simp only [RelD] at r
  obtain ⟨a, h1, rfl⟩ := r
  obtain ⟨a', e1, e2, e3⟩ := w.live n o h
  rw [h1] at e1; cases e1
  exact ⟨a, rfl, h1, e2, e3⟩

/-- a new list -/
theorem new_list {lv : Bool} {xs : List V} {p : Addr} {Q : VK} (w : WOk (G := G) wd H L) (rs : RelDs G wd xs ds) (hp : H p = none) (e : End G wd (newL lv ds L).1 (newL lv ds L).2 Q) : Q (.ref p) (upd H p (.lst xs)) := by
  cases lv with
  | false =>
    obtain ⟨x, w'⟩ := w.frz (o := .lst xs) hp (.inl ⟨xs, rfl⟩)
    refine e _ _ _ x w' ?_
    show RelD G _ _ (.lst 0 ds)
    simp only [RelD]
    refine ⟨p, xs, rfl, .inl upd_same, RelDs.ext G x rs, fun _ hb => ?_, fun k hk => by cases hk⟩
    obtain ⟨o, ho⟩ := w.bor p hb
    rw [w.fnone hp] at ho; cases ho
  | true =>
    obtain ⟨x, w'⟩ := w.add (o := .lst xs) (x := .lst ds) hp (fun wd' e' H' k h => ⟨xs, h, RelDs.ext G e' rs⟩)
    refine e _ _ _ x w' ?_
    show RelD G _ _ (.ref L.length)
    simp only [RelD]
    exact ⟨p, Wd.add_at, rfl⟩
/-- a new tuple -/
theorem new_tup {xs : List V} {p : Addr} {Q : VK} (w : WOk (G := G) wd H L) (rs : RelDs G wd xs ds) (hp : H p = none) (e : End G wd (.tup ds) L Q) : Q (.ref p) (upd H p (.tup xs)) := by
  obtain ⟨x, w'⟩ := w.frz (o := .tup xs) hp (.inr (.inl ⟨xs, rfl⟩))
  refine e _ _ _ x w' ?_
  simp only [RelD]
  exact ⟨p, xs, rfl, .inl (.inl upd_same), RelDs.ext G x rs⟩

/-! ### deep data -/
mutual
theorem dp_of (w : WOk (G := G) wd H L) : ∀ {d : D} {p : PyData} {v : V}, toPy d = some p → RelD G wd v d → Dp G.K H v p
  | .non, p, v, h, r => by simp only [toPy, Option.some.injEq] at h; simp only [RelD] at r; subst h r; exact .non
  | .bl b, p, v, h, r => by simp only [toPy, Option.some.injEq] at h; simp only [RelD] at r; subst h r; exact .bl b
  | .int i, p, v, h, r => by simp only [toPy, Option.some.injEq] at h; simp only [RelD] at r; subst h r; exact .int i
  | .str s, p, v, h, r => by simp only [toPy, Option.some.injEq] at h; simp only [RelD] at r; subst h r; exact .str s
  | .tup ds, p, v, h, r => by
    simp only [toPy] at h
    cases q : toPys ds with
    | none => rw [q] at h; cases h
    | some ps =>
      rw [q] at h; simp only [Option.some.injEq] at h; subst h
      obtain ⟨a, xs, rfl, h2, h3⟩ := rd_tup w r
      exact .tup h2 (dps_of w q h3)
  | .lst t ds, p, v, h, r => by
    simp only [toPy] at h
    cases q : toPys ds with
    | none => rw [q] at h; cases h
    | some ps =>
      rw [q] at h; simp only [Option.some.injEq] at h; subst h
      obtain ⟨a, xs, rfl, h2, h3⟩ := rd_list w r (ds := ds) rfl
      exact .lst (.inl h2) (dps_of w q h3)
  | .ref n, p, v, h, r => by simp [toPy] at h
  | .dct ks ds, p, v, h, r => by simp [toPy] at h
theorem dps_of (w : WOk (G := G) wd H L) : ∀ {ds : List D} {ps : List PyData} {xs : List V}, toPys ds = some ps → RelDs G wd xs ds → DpAll G.K H xs ps
  | [], ps, xs, h, r => by simp only [toPys, Option.some.injEq] at h; simp only [RelDs] at r; subst h r; exact .nil
  | d :: ds, ps, xs, h, r => by
    simp only [RelDs] at r
    obtain ⟨v, vs, rfl, r1, r2⟩ := r
    simp only [toPys] at h
    cases q : toPy d with
    | none => rw [q] at h; cases h
    | some p =>
      rw [q] at h
      cases q2 : toPys ds with
      | none => rw [q2] at h; cases h
      | some qs =>
        rw [q2] at h; simp only [Option.some.injEq] at h; subst h
        exact .cons (dp_of w q r1) (dps_of w q2 r2)
end
theorem dpm_of {f : D → Option PyData} (hf : ∀ {d p v}, f d = some p → RelD G wd v d → Dp G.K H v p) : ∀ {ds : List D} {ps : List PyData} {xs : List V}, mapO f ds = some ps → RelDs G wd xs ds → DpAll G.K H xs ps
  | [], ps, xs, h, r => by simp only [mapO, Option.some.injEq] at h; simp only [RelDs] at r; subst h r; exact .nil
  | d :: ds, ps, xs, h, r => by
    simp only [RelDs] at r
    obtain ⟨v, vs, rfl, r1, r2⟩ := r
    simp only [mapO] at h
    cases q : f d with
    | none => rw [q] at h; cases h
    | some p =>
      rw [q] at h
      cases q2 : mapO f ds with
      | none => rw [q2] at h; cases h
      | some qs =>
        rw [q2] at h; simp only [Option.some.injEq] at h; subst h
        exact .cons (hf q r1) (dpm_of hf q2 r2)
theorem dpv_of (w : WOk (G := G) wd H L) : ∀ {n : Nat} {d : D} {p : PyData} {v : V}, view L n d = some p → RelD G wd v d → Dp G.K H v p
  | 0, d, p, v, h, r => by simp [view] at h
  | n + 1, d, p, v, h, r => by
    have ih : ∀ {d : D} {p : PyData} {v : V}, view L n d = some p → RelD G wd v d → Dp G.K H v p := fun h r => dpv_of w h r
    cases d with
    | ref k =>
      simp only [view] at h
      cases q : L[k]? with
      | none => rw [q] at h; cases h
      | some o =>
        rw [q] at h
        cases o with
        | lst es =>
          simp only [Option.map_eq_some_iff] at h
          obtain ⟨ps, h1, rfl⟩ := h
          obtain ⟨a, xs, rfl, h2, h3⟩ := rd_list w r (ds := es) (by simp only [lstOf, q])
          exact .lst (.inl h2) (dpm_of ih h1 h3)
        | _ => simp at h
    | tup es =>
      simp only [view, Option.map_eq_some_iff] at h
      obtain ⟨ps, h1, rfl⟩ := h
      obtain ⟨a, xs, rfl, h2, h3⟩ := rd_tup w r
      exact .tup h2 (dpm_of ih h1 h3)
    | lst t es =>
      simp only [view, Option.map_eq_some_iff] at h
      obtain ⟨ps, h1, rfl⟩ := h
      obtain ⟨a, xs, rfl, h2, h3⟩ := rd_list w r (ds := es) rfl
      exact .lst (.inl h2) (dpm_of ih h1 h3)
    | _ => simp only [view] at h; exact dp_of w h r
theorem dpp_of (w : WOk (G := G) wd H L) {p : PyData} (h : pyOf L d = some p) (r : RelD G wd v d) : Dp G.K H v p := by
  unfold pyOf at h
  cases q : toPy d with
  | none => rw [q] at h; exact dpv_of w h r
  | some x => rw [q] at h; simp only [Option.some.injEq] at h; subst h; exact dp_of w q r
end

/-! ### operators -/
variable {G : Gv} {X : Cx}
def rB (G : Gv) (g : D → D → Live → Option (D × Live)) : R2 := fun x y H Q => ∃ wd a b L d L', WOk (G := G) wd H L ∧ RelD G wd x a ∧ RelD G wd y b ∧ g a b L = some (d, L') ∧ End G wd d L' Q
theorem mulOk_ok {i j : Int} (h : mulOk i j = true) : IntMulOk i j := by
  unfold mulOk at h
  simp only [Bool.or_eq_true, Bool.and_eq_true, decide_eq_true_eq] at h
  rcases h with (⟨h1, h2⟩ | ⟨h1, h2⟩) | h
  · exact .of_left (intBits_le_64 h1 h2)
  · exact .of_right (intBits_le_64 h1 h2)
  · exact CMulW.ok h
theorem intBits_le (a : Int) : (Builtin.Int.intBits a : Nat) ≤ a.natAbs.log2 + 1 := by
  unfold Builtin.Int.intBits
  split <;> omega
theorem binI_ok {o : Bop} {lv : Bool} {i j : Int} {d : D} {L L' : Live} (h : binD o lv (.int i) (.int j) L = some (d, L')) : L' = L ∧ ∃ k : Int, d = .int k ∧ ∀ (M : Unit) (pins : List (Addr × Obj)) (s : Shared) (t u : Tok) (Q E : Value → Shared → Prop),
    Q (.int k s.toks) { s with toks := s.toks + 1 } → wpAny (model X.prog X.w) X.A (binaryOp (match o with | .add => .Add | .sub => .Sub | .mul => .Mult | .fdiv => .FloorDiv | .mod => .Mod | .pow => .Pow) (.int i t) (.int j u)) Q E s := by
  cases o with
  | add => simp only [binD, Option.some.injEq, Prod.mk.injEq] at h; obtain ⟨rfl, rfl⟩ := h; exact ⟨rfl, _, rfl, fun _ _ _ _ _ _ _ q => add_int q⟩
  | sub => simp only [binD, Option.some.injEq, Prod.mk.injEq] at h; obtain ⟨rfl, rfl⟩ := h; exact ⟨rfl, _, rfl, fun _ _ _ _ _ _ _ q => sub_int q⟩
  | mul =>
    simp only [binD] at h
    split at h
    · rename_i hc
      simp only [Option.some.injEq, Prod.mk.injEq] at h; obtain ⟨rfl, rfl⟩ := h
      exact ⟨rfl, _, rfl, fun _ _ _ _ _ _ _ q => mul_int q (mulOk_ok hc)⟩
    · cases h
  | fdiv =>
    simp only [binD] at h
    split at h
    · rename_i hc
      simp only [divOk, Bool.and_eq_true, decide_eq_true_eq] at hc
      simp only [Option.some.injEq, Prod.mk.injEq] at h; obtain ⟨rfl, rfl⟩ := h
      refine ⟨rfl, _, rfl, fun _ _ _ _ _ _ _ q => ?_⟩
      have h1 := hc.1
      exact floordiv_int (by omega) (by rw [Int.fdiv_eq_ediv_of_nonneg i (by omega)]; exact q) (.inl (PyProof.noPylong_of_log2 hc.2))
    · cases h
  | mod =>
    simp only [binD] at h
    split at h
    · rename_i hc
      have h1 : (0 : Int) < j := of_decide_eq_true hc
      simp only [Option.some.injEq, Prod.mk.injEq] at h; obtain ⟨rfl, rfl⟩ := h
      exact ⟨rfl, _, rfl, fun _ _ _ _ _ _ _ q => mod_int' (by omega) (by rw [Int.fmod_eq_emod_of_nonneg i (by omega)]; exact q)⟩
    · cases h
  | pow =>
    simp only [binD] at h
    split at h
    · rename_i hc
      simp only [powOk, Bool.and_eq_true, decide_eq_true_eq] at hc
      simp only [Option.some.injEq, Prod.mk.injEq] at h; obtain ⟨rfl, rfl⟩ := h
      refine ⟨rfl, _, rfl, fun _ _ _ _ _ _ _ q => pow_int hc.1 ?_ q⟩
      have hb := intBits_le i
      have h2 : ((Builtin.Int.intBits i : Nat) : Int) * j ≤ ((i.natAbs.log2 + 1 : Nat) : Int) * j := Int.mul_le_mul_of_nonneg_right (by omega) hc.1
      exact Int.le_trans h2 hc.2
    · cases h
abbrev bopM : Bop → Operator | .add => .Add | .sub => .Sub | .mul => .Mult | .fdiv => .FloorDiv | .mod => .Mod | .pow => .Pow

theorem lstX {pins : List (Addr × Obj)} {s : Shared} {σ : L2.St} {H : Hp} {a : Addr} {xs : List V} (I : Inv X pins σ H s) (h : Rd H a (.lst xs)) :
    xs.length ≤ sizeLine ∧ ∃ (its : List Value) (n : Nat), Vals xs its ∧ xs.length = its.length ∧ s.heap.get? a = some { cls := .type "list", data := .seq its.toArray n } := by
  obtain ⟨z, its, n, r, e⟩ : ObjOk X.prog X.w H s.heap a (.lst xs) := h.ok I.hok
  exact ⟨z, its, n, r, r.length, e⟩
/-- list + list, any two that can be read -/
theorem cat_X : OpR X (binaryOp .Add) (fun x y H Q => ∃ l b xs zs, x = .ref l ∧ y = .ref b ∧ Rd H l (.lst xs) ∧ Rd H b (.lst zs) ∧ xs.length + zs.length ≤ sizeLine ∧ ∀ p, H p = none → Q (.ref p) (upd H p (.lst (xs ++ zs)))) := by
  intro pins s σ H x y v u Q I rx ry h
  obtain ⟨l, b, xs, zs, rfl, rfl, hH, hB, hz, q⟩ := h
  cases rx
  cases ry
  obtain ⟨z, its, n, r, hl, e⟩ := lstX I hH
  obtain ⟨z2, its2, n2, r2, hl2, e2⟩ := lstX I hB
  refine PySem.P.add_list e e2 ?_ (by rw [List.size_toArray, List.size_toArray]; omega)
  have ea : its.toArray ++ its2.toArray = (its ++ its2).toArray := by simp
  rw [ea]
  exact ⟨.ref _, _, I.lnew (t' := s.toks) (r.append r2) (by rw [List.length_append]; omega), rfl, q _ I.fresh⟩
/-- list * int -/
theorem rep_X : OpR X (binaryOp .Mult) (fun x y H Q => ∃ l k xs, x = .ref l ∧ y = .int k ∧ Rd H l (.lst xs) ∧ -(2 ^ 63) ≤ k ∧ k < 2 ^ 63 ∧ xs.length * k.toNat ≤ sizeLine ∧ ∀ p, H p = none → Q (.ref p) (upd H p (.lst (List.replicate k.toNat xs).flatten))) := by
  intro pins s σ H x y v u Q I rx ry h
  obtain ⟨l, k, xs, rfl, rfl, hH, h1, h2, hz, q⟩ := h
  cases rx
  obtain ⟨t, rfl⟩ := ry
  obtain ⟨z, its, n, r, hl, e⟩ := lstX I hH
  have hlen : its.toArray.size * k.toNat ≤ sizeLine := by rw [List.size_toArray, ← hl]; exact hz
  have hcap : ¬ its.toArray.size * k.toNat > (2 ^ 63 - 1) / 8 := by
    have : (sizeLine : Nat) ≤ (2 ^ 63 - 1) / 8 := by decide
    omega
  have hfit : ¬ (!Builtin.List.listFitsIndex k) = true := by
    rw [fitsIndex_both h1 h2]
    exact Bool.false_ne_true
  have hlong : ¬ Builtin.List.listTooLong (its.toArray.size * k.toNat) = true := by
    rw [notLongL hlen]
    exact Bool.false_ne_true
  have hnew : List.foldl (fun x1 x2 => x1 ++ x2) #[] (List.replicate (if its.toArray.isEmpty = true then 0 else k.toNat) its.toArray) = (List.replicate k.toNat its).flatten.toArray := by
    have f0 : ∀ m : Nat, List.foldl (fun x1 x2 => x1 ++ x2) #[] (List.replicate m its.toArray) = (List.replicate m its).flatten.toArray := fun m => by
      have := foldl_rep its m []
      rw [List.nil_append] at this
      exact this
    rw [f0]
    cases its with
    | nil => simp
    | cons a r' => rw [if_neg (by simp)]
  refine wpAny_binaryOp_repeat_ref (T := "list") (U := "int") (by decide) ⟨_, e, rfl⟩ (fun s' => typeIs_int s' k t) noFill_list_mul F.fills_int_mul F.slot_int_rmul repeat_list F.slot_int_index.lookup
    (call_meets F.slot_int_rmul (typeIs_int s k t) F.entry_int_rmul (F.args_int_rmul_2 _ _) (int___rmul___int_list k t l its.toArray n)
      ⟨e, rfl, ⟨_, e, rfl⟩, call_meets F.slot_list_mul ⟨_, e, rfl⟩ F.entry_list_mul (F.args_list_mul_2 _ _) (AutoListH.list___mul___list_int_3 l its.toArray n k t hfit hcap hlong) ⟨e, ?_⟩⟩)
  rw [hnew]
  exact ⟨.ref _, _, I.lnew (t' := s.toks) (r.rep k.toNat) (by rw [PyProof.Rows.lm_len_rep_flat, Nat.mul_comm]; exact hz), rfl, q _ I.fresh⟩

theorem RelDs.rep {wd : Wd} {xs : List V} {ds : List D} (r : RelDs G wd xs ds) : ∀ n : Nat, RelDs G wd (List.replicate n xs).flatten (List.replicate n ds).flatten
  | 0 => by simp [RelDs]
  | n + 1 => by
    rw [List.replicate_succ, List.replicate_succ, List.flatten_cons, List.flatten_cons]
    exact RelDs.append r (RelDs.rep r n)

/-- the operators -/
theorem op_ok (hK : X.K = G.K) (o : Bop) (lv : Bool) : OpR X (binaryOp (bopM o)) (rB G (binD o lv)) := by
  intro pins s σ H x y v u Q I rx ry h
  obtain ⟨wd, a, b, L, d, L', w, ra, rb, hg, he⟩ := h
  have other : (∀ i, a ≠ .int i) → (∀ i, a ≠ .str i) → (∀ i, a ≠ .tup i) → wpAny (model X.prog X.w) X.A (binaryOp (bopM o) v u) (EP X pins σ Q) X.xe s := fun n1 n2 n3 => by
    have e : binD o lv a b L = (match lstOf L a with | some xs => binL o lv xs b L | none => none) := by
      cases a with
      | int i => exact absurd rfl (n1 i)
      | str i => exact absurd rfl (n2 i)
      | tup i => exact absurd rfl (n3 i)
      | _ => rfl
    rw [e] at hg
    cases q : lstOf L a with
    | none => rw [q] at hg; cases hg
    | some ds =>
      rw [q] at hg
      obtain ⟨l, xs, rfl, hx, rx'⟩ := rd_list w ra q
      cases o with
      | add =>
        simp only [binL] at hg
        cases q2 : lstOf L b with
        | none => rw [q2] at hg; cases hg
        | some es =>
          rw [q2] at hg
          simp only at hg
          split at hg
          · rename_i hz
            have hz' : ds.length + es.length ≤ sizeLine := of_decide_eq_true hz
            obtain ⟨l2, ys, rfl, hy, ry'⟩ := rd_list w rb q2
            simp only [Option.some.injEq] at hg
            have e1 : (newL lv (ds ++ es) L).1 = d := by rw [hg]
            have e2 : (newL lv (ds ++ es) L).2 = L' := by rw [hg]
            subst e1 e2
            refine cat_X pins s σ H _ _ v u Q I rx ry ⟨l, l2, xs, ys, rfl, rfl, hx, hy, ?_, fun p hp => new_list w (RelDs.append rx' ry') hp he⟩
            have := RelDs.length rx'; have := RelDs.length ry'; omega
          · cases hg
      | mul =>
        simp only [binL] at hg
        cases b with
        | int k =>
          simp only at hg
          split at hg
          · rename_i hz
            simp only [Bool.and_eq_true, decide_eq_true_eq] at hz
            obtain ⟨⟨h1, h2⟩, h3⟩ := hz
            have h3' : ds.length * k.toNat ≤ sizeLine := of_decide_eq_true h3
            simp only [Option.some.injEq] at hg
            have e1 : (newL lv (List.replicate k.toNat ds).flatten L).1 = d := by rw [hg]
            have e2 : (newL lv (List.replicate k.toNat ds).flatten L).2 = L' := by rw [hg]
            subst e1 e2
            simp only [RelD] at rb
            subst rb
            refine rep_X pins s σ H _ _ v u Q I rx ry ⟨l, k, xs, rfl, rfl, hx, h1, h2, ?_, fun p hp => new_list w (RelDs.rep rx' _) hp he⟩
            rw [RelDs.length rx']; exact h3'
          · cases hg
        | _ => cases hg
      | _ => cases hg
  cases a with
  | int i =>
    simp only [RelD] at ra
    subst ra
    cases b with
    | int j =>
      simp only [RelD] at rb
      subst rb
      obtain ⟨t, rfl⟩ := rx
      obtain ⟨t', rfl⟩ := ry
      obtain ⟨rfl, k, rfl, f⟩ := binI_ok (X := X) hg
      have := f () pins s t t' (EP X pins σ Q) X.xe ⟨.int k, H, I.tok _, ⟨_, rfl⟩, he.now w (by simp [RelD])⟩
      cases o <;> exact this
    | _ => simp [binD] at hg
  | str i =>
    simp only [RelD] at ra
    subst ra
    cases b with
    | str j =>
      simp only [RelD] at rb
      subst rb
      cases o with
      | add =>
        simp only [binD] at hg
        split at hg
        · rename_i hz
          simp only [Option.some.injEq, Prod.mk.injEq] at hg
          obtain ⟨rfl, rfl⟩ := hg
          exact op_add_str pins s σ H _ _ v u Q I rx ry ⟨i, j, rfl, rfl, of_decide_eq_true hz, he.now w (by simp [RelD])⟩
        · cases hg
      | _ => simp [binD] at hg
    | int k =>
      simp only [RelD] at rb
      subst rb
      cases o with
      | mul =>
        simp only [binD] at hg
        split at hg
        · rename_i hz
          simp only [Bool.and_eq_true, decide_eq_true_eq] at hz
          obtain ⟨⟨⟨⟨h1, h2⟩, h3⟩, h4⟩, h5⟩ := hz
          have h5 : (repS i k.toNat).length ≤ sizeLine := of_decide_eq_true h5
          simp only [Option.some.injEq, Prod.mk.injEq] at hg
          obtain ⟨rfl, rfl⟩ := hg
          obtain ⟨t, rfl⟩ := rx
          obtain ⟨t', rfl⟩ := ry
          have hm : i.length * k.toNat ≤ 1000 * 1000 := Nat.mul_le_mul h4 (by omega)
          have hs : (1000 * 1000 : Nat) ≤ sizeLine := by decide
          refine PySem.P.mul_str ?_ (fun _ _ => ?_) (fun _ _ => ?_) ?_
          · rw [decide_eq_false (by omega), decide_eq_false (by omega)]; rfl
          · have : ((i.length : Nat) : Int) * k ≤ 1000 * 1000 := Int.mul_le_mul (by omega) h2 (by omega) (by omega)
            have := Int.le_ediv_of_mul_le (a := (i.length : Int)) (b := 2 ^ 63 - 1) (c := k) (by omega) (by omega)
            omega
          · exact decide_eq_false (by omega)
          · have e1 : (k == 1 || i.length == 0) = false := by
              rw [Bool.or_eq_false_iff]
              exact ⟨beq_eq_false_iff_ne.mpr (by omega), beq_eq_false_iff_ne.mpr (by omega)⟩
            rw [if_neg (by omega), e1, if_neg Bool.false_ne_true]
            exact ⟨h5, .str _, H, I.tok _, ⟨_, rfl⟩, he.now w (by simp [RelD, repS])⟩
        · cases hg
      | _ => simp [binD] at hg
    | _ => simp [binD] at hg
  | tup ds =>
    cases b with
    | tup es =>
      obtain ⟨l, xs, rfl, hx, rx'⟩ := rd_tup w ra
      obtain ⟨l2, ys, rfl, hy, ry'⟩ := rd_tup w rb
      cases o with
      | add =>
        simp only [binD] at hg
        split at hg
        · rename_i hz
          have hz' : ds.length + es.length ≤ sizeLine := of_decide_eq_true hz
          simp only [Option.some.injEq, Prod.mk.injEq] at hg
          obtain ⟨rfl, rfl⟩ := hg
          refine op_catA pins s σ H _ _ v u Q I rx ry ⟨l, l2, xs, ys, rfl, rfl, by rw [hK]; exact hx, by rw [hK]; exact hy, ?_, fun e => ?_, fun n e => ?_, fun _ _ p hp => new_tup w (RelDs.append rx' ry') hp he⟩
          · have := RelDs.length rx'; have := RelDs.length ry'; omega
          · have : ds = [] := by have := RelDs.length rx'; rw [e] at this; exact List.length_eq_zero_iff.mp this.symm
            subst this
            exact he.now w rb
          · have : es = [] := by have := RelDs.length ry'; rw [e] at this; exact List.length_eq_zero_iff.mp this.symm
            subst this
            rw [List.append_nil] at he
            exact he.now w ra
        · cases hg
      | _ => simp [binD] at hg
    | _ => simp [binD] at hg
  | non => exact other (by simp) (by simp) (by simp)
  | bl b' => exact other (by simp) (by simp) (by simp)
  | lst t es => exact other (by simp) (by simp) (by simp)
  | ref n => exact other (by simp) (by simp) (by simp)
  | dct ks es => exact other (by simp) (by simp) (by simp)
end MP
set_option maxHeartbeats 4000000
/-! MP: comparisons, subscripts, built-ins, methods by values -/
namespace MP
open PySem PySem.Spec PyProof.Rows L2

section
variable {G : Gv} {X : Cx}
abbrev copM : Cop → CmpOp | .eq => .Eq | .ne => .NotEq | .lt => .Lt | .le => .LtE | .gt => .Gt | .ge => .GtE | .is_ => .Is | .isn => .IsNot | .in_ => .In | .nin => .NotIn
def rC (G : Gv) (o : Cop) : R2 := fun x y H Q => ∃ wd a b L k, WOk (G := G) wd H L ∧ RelD G wd x a ∧ RelD G wd y b ∧ cmpD o a b L = some k ∧ Q (.bl k) H

theorem scal_of {wd : Wd} {x y : V} {a b : D} (ra : RelD G wd x a) (rb : RelD G wd y b) (h : scal2 a b = true) : scal x y = true ∧ decide (x = y) = eqS a b := by
  cases a with
  | non =>
    simp only [RelD] at ra; subst ra
    cases b <;> first | (simp [scal2] at h; done) | (simp only [RelD] at rb; subst rb; exact ⟨rfl, by simp [eqS]⟩)
  | bl i =>
    simp only [RelD] at ra; subst ra
    cases b <;> first | (simp [scal2] at h; done) | (simp only [RelD] at rb; subst rb; exact ⟨rfl, by simp [eqS]⟩)
  | int i =>
    simp only [RelD] at ra; subst ra
    cases b <;> first | (simp [scal2] at h; done) | (simp only [RelD] at rb; subst rb; exact ⟨rfl, by simp [eqS]⟩)
  | str i =>
    simp only [RelD] at ra; subst ra
    cases b <;> first | (simp [scal2] at h; done) | (simp only [RelD] at rb; subst rb; exact ⟨rfl, by simp [eqS]⟩)
  | _ => cases b <;> simp [scal2] at h

theorem eq_ok (hK : X.K = G.K) (hu : X.A.units + 64 < cLine) {wd : Wd} {x y : V} {a b : D} {L : Live} {k : Bool} {H : Hp} {pins : List (Addr × Obj)} {s : Shared} {σ : L2.St} {v u : Value} {Q : VK}
    (I : Inv X pins σ H s) (rx : RelV x v) (ry : RelV y u) (w : WOk (G := G) wd H L) (ra : RelD G wd x a) (rb : RelD G wd y b) (hg : eqD L a b = some k) :
    (Q (.bl k) H → wpAny (model X.prog X.w) X.A (compareOp .Eq v u) (EP X pins σ Q) X.xe s) ∧ (Q (.bl (!k)) H → wpAny (model X.prog X.w) X.A (compareOp .NotEq v u) (EP X pins σ Q) X.xe s) := by
  unfold eqD at hg
  split at hg
  · rename_i hs
    obtain ⟨h1, h2⟩ := scal_of ra rb hs
    simp only [Option.some.injEq] at hg
    subst hg
    exact ⟨fun q => op_eq pins s σ H x y v u Q I rx ry ⟨h1, by rw [h2]; exact q⟩, fun q => op_ne pins s σ H x y v u Q I rx ry ⟨h1, by rw [h2]; exact q⟩⟩
  · cases q1 : pyOf L a with
    | none => rw [q1] at hg; cases hg
    | some p =>
      rw [q1] at hg
      cases q2 : pyOf L b with
      | none => rw [q2] at hg; cases hg
      | some p2 =>
        rw [q2] at hg
        simp only at hg
        split at hg
        · rename_i hs
          simp only [Bool.and_eq_true] at hs
          simp only [Option.some.injEq] at hg
          subst hg
          have d1 := dpp_of w q1 ra
          have d2 := dpp_of w q2 rb
          rw [← hK] at d1 d2
          exact ⟨fun q => op_eqD hu pins s σ H x y v u Q I rx ry ⟨p, p2, d1, d2, hs.1, hs.2, q⟩, fun q => op_neD hu pins s σ H x y v u Q I rx ry ⟨p, p2, d1, d2, hs.1, hs.2, q⟩⟩
        · cases hg

theorem flat_of {wd : Wd} {x : V} {a : D} (ra : RelD G wd x a) (h : flat a = true) : flatV x = true := by
  cases a <;> first | (simp [flat] at h; done) | (simp only [RelD] at ra; subst ra; rfl)
theorem flats_of {wd : Wd} : ∀ {ds : List D} {xs : List V}, RelDs G wd xs ds → ds.all flat = true → xs.all flatV = true
  | [], xs, r, _ => by simp only [RelDs] at r; subst r; rfl
  | d :: ds, xs, r, h => by
    simp only [RelDs] at r
    obtain ⟨v, vs, rfl, r1, r2⟩ := r
    simp only [List.all_cons, Bool.and_eq_true] at h ⊢
    exact ⟨flat_of r1 h.1, flats_of r2 h.2⟩
theorem eqF_of {wd : Wd} {x y : V} {a b : D} (ra : RelD G wd x a) (rb : RelD G wd y b) (ha : flat a = true) (hb : flat b = true) : L2.eqV x y = eqF a b := by
  cases a <;> first
    | (simp [flat] at ha; done)
    | (simp only [RelD] at ra; subst ra
       cases b <;> first
         | (simp [flat] at hb; done)
         | (simp only [RelD] at rb; subst rb; rfl))
theorem inF_of {wd : Wd} {x : V} {a : D} (ra : RelD G wd x a) (ha : flat a = true) : ∀ {ds : List D} {xs : List V}, RelDs G wd xs ds → ds.all flat = true → inV x xs = ds.any fun y => eqF y a
  | [], xs, r, _ => by simp only [RelDs] at r; subst r; rfl
  | d :: ds, xs, r, h => by
    simp only [RelDs] at r
    obtain ⟨v, vs, rfl, r1, r2⟩ := r
    simp only [List.all_cons, Bool.and_eq_true] at h
    have ih := inF_of ra ha r2 h.2
    unfold inV at ih ⊢
    rw [List.any_cons, List.any_cons, ih, eqF_of r1 ra h.1 ha]
theorem pairK_get {wd : Wd} {k : Key} : ∀ {ys : List (Key × V)} {kvs : List (Key × D)}, Paired (fun (p : Key × V) (q : Key × D) => p.1 = q.1 ∧ RelD G wd p.2 q.2) ys kvs →
    (∀ v, valV ys k = some v → ∃ d, getK k kvs = some d ∧ RelD G wd v d) ∧ (∀ d, getK k kvs = some d → ∃ v, valV ys k = some v ∧ RelD G wd v d) := by
  intro ys kvs r
  induction r with
  | nil => exact ⟨fun v h => by simp [valV] at h, fun d h => by simp [getK] at h⟩
  | @cons p q ps qs h t ih =>
    by_cases e : p.1 = k
    · have e2 : q.1 = k := h.1.symm.trans e
      rw [valV_pos e]
      have g : getK k (q :: qs) = some q.2 := by simp [getK, List.find?_cons, e2]
      rw [g]
      exact ⟨fun v hv => by cases hv; exact ⟨_, rfl, h.2⟩, fun d hd => by cases hd; exact ⟨_, rfl, h.2⟩⟩
    · have e2 : ¬ q.1 = k := fun z => e (h.1.trans z)
      rw [valV_neg e]
      have g : getK k (q :: qs) = getK k qs := by simp [getK, List.find?_cons, e2]
      rw [g]
      exact ih
theorem pairK_some {wd : Wd} {k : Key} {ys : List (Key × V)} {kvs : List (Key × D)} (r : Paired (fun (p : Key × V) (q : Key × D) => p.1 = q.1 ∧ RelD G wd p.2 q.2) ys kvs) : (valV ys k).isSome = (getK k kvs).isSome := by
  obtain ⟨h1, h2⟩ := pairK_get (k := k) r
  cases q : valV ys k with
  | some v => obtain ⟨d, e, _⟩ := h1 v q; rw [e]; rfl
  | none =>
    cases q2 : getK k kvs with
    | none => rfl
    | some d => obtain ⟨v, e, _⟩ := h2 d q2; rw [q] at e; cases e
theorem key_of {wd : Wd} {x : V} {a : D} {k : Key} (ra : RelD G wd x a) (h : keyOf a = some k) : x = kV k := by
  cases a <;> first
    | (simp [keyOf] at h; done)
    | (simp only [RelD] at ra; subst ra; simp only [keyOf, Option.some.injEq] at h; subst h; rfl)

/-- what a dict holds, on both sides -/
def KeyRel (G : Gv) (wd : Wd) (o : Option V) (d : Option D) : Prop := (∀ v, o = some v → ∃ e, d = some e ∧ RelD G wd v e) ∧ (∀ e, d = some e → ∃ v, o = some v ∧ RelD G wd v e)
theorem key_rel {wd : Wd} {o : Option V} {d : Option D} (h : KeyRel G wd o d) : o.isSome = d.isSome ∧ True := by
  refine ⟨?_, True.intro⟩
  cases q : o with
  | some v => obtain ⟨e, e1, _⟩ := h.1 v q; rw [e1]; rfl
  | none =>
    cases q2 : d with
    | none => rfl
    | some e => obtain ⟨v, e1, _⟩ := h.2 e q2; rw [q] at e1; cases e1
theorem key_at {wd : Wd} {H : Hp} {L : Live} {x y : V} {a b : D} {od : Option D} (w : WOk (G := G) wd H L) (ra : RelD G wd x a) (rb : RelD G wd y b) (h : keyAt L a b = some od) :
    ∃ l ys k, y = .ref l ∧ H l = some (.dK ys) ∧ x = kV k ∧ KeyRel G wd (valV ys k) od := by
  cases b with
  | ref n =>
    simp only [keyAt] at h
    cases q3 : L[n]? with
    | none => rw [q3] at h; cases h
    | some o =>
      rw [q3] at h
      cases o with
      | dic kvs =>
        simp only at h
        cases q4 : keyOf a with
        | none => rw [q4] at h; cases h
        | some kk =>
          rw [q4] at h
          simp only [Option.some.injEq] at h
          subst h
          obtain ⟨l, rfl, _, ⟨ys, hy, pr⟩, _⟩ := rd_ref w rb q3
          exact ⟨l, ys, kk, rfl, hy, key_of ra q4, pairK_get pr⟩
      | _ => simp at h
  | _ => simp [keyAt] at h

theorem in_ok (hK : X.K = G.K) (hu : X.A.units + 65 < cLine) {wd : Wd} {x y : V} {a b : D} {L : Live} {k : Bool} {H : Hp} {pins : List (Addr × Obj)} {s : Shared} {σ : L2.St} {v u : Value} {Q : VK}
    (I : Inv X pins σ H s) (rx : RelV x v) (ry : RelV y u) (w : WOk (G := G) wd H L) (ra : RelD G wd x a) (rb : RelD G wd y b) (hg : inD L a b = some k) :
    (Q (.bl k) H → wpAny (model X.prog X.w) X.A (compareOp .In v u) (EP X pins σ Q) X.xe s) ∧ (Q (.bl (!k)) H → wpAny (model X.prog X.w) X.A (compareOp .NotIn v u) (EP X pins σ Q) X.xe s) := by
  by_cases hs : ∃ z, b = .str z
  · obtain ⟨z, rfl⟩ := hs
    cases a with
    | str c =>
      simp only [inD, inStr] at hg
      split at hg
      · rename_i h1
        simp only [Option.some.injEq] at hg
        subst hg
        simp only [RelD] at ra rb
        subst ra rb
        have e : c = ⟨#[c.cps.getD 0 0]⟩ := by
          obtain ⟨⟨l⟩⟩ := c
          have h1' : l.length = 1 := h1
          match l, h1' with
          | [n], _ => rfl
        exact ⟨fun q => op_in_sign pins s σ H _ _ v u Q I rx ry ⟨_, z, by rw [← e], rfl, q⟩, fun q => op_notIn_sign pins s σ H _ _ v u Q I rx ry ⟨_, z, by rw [← e], rfl, q⟩⟩
      · cases hg
    | _ => simp [inD, inStr] at hg
  · have e : inD L a b = (match seqOf L b with | some ds => inSeq L a b ds | none => (keyAt L a b).map (·.isSome)) := by
      cases b with
      | str z => exact absurd ⟨z, rfl⟩ hs
      | _ => rfl
    rw [e] at hg
    clear e
    cases q0 : seqOf L b with
    | some ds =>
      rw [q0] at hg
      simp only [inSeq] at hg
      split at hg
      · rename_i hf
        simp only [Bool.and_eq_true] at hf
        simp only [Option.some.injEq] at hg
        subst hg
        obtain ⟨l, xs, rfl, hx, rx'⟩ := rd_seq w rb q0
        rw [← hK] at hx
        have e1 := inF_of ra hf.1 rx' hf.2
        rw [← e1]
        exact ⟨fun q => op_in_seq pins s σ H _ _ v u Q I rx ry ⟨l, xs, rfl, hx, flat_of ra hf.1, flats_of rx' hf.2, q⟩, fun q => op_notIn_seq pins s σ H _ _ v u Q I rx ry ⟨l, xs, rfl, hx, flat_of ra hf.1, flats_of rx' hf.2, q⟩⟩
      · cases q1 : pyOf L a with
        | none => rw [q1] at hg; cases hg
        | some p =>
          rw [q1] at hg
          cases q2 : pyOf L b with
          | none => rw [q2] at hg; cases hg
          | some p2 =>
            rw [q2] at hg
            have d1 := dpp_of w q1 ra
            have d2 := dpp_of w q2 rb
            rw [← hK] at d1 d2
            obtain ⟨as, r1⟩ := Dp.reads I p x v d1 rx
            obtain ⟨bs, r2⟩ := Dp.reads I p2 y u d2 ry
            cases p2 with
            | list qs =>
              simp only at hg
              split at hg
              · rename_i hh
                simp only [Bool.and_eq_true] at hh
                simp only [Option.some.injEq] at hg
                subst hg
                exact ⟨fun q => SeqAt.in_list_reads r2 r1 (SeqAt.canLay_of_shaped hh.2) (SeqAt.canLay_of_shaped hh.1) (room_in_shaped hh.1 hu) ⟨.bl _, H, I, rfl, q⟩,
                  fun q => SeqAt.notIn_list_reads r2 r1 (SeqAt.canLay_of_shaped hh.2) (SeqAt.canLay_of_shaped hh.1) (room_in_shaped hh.1 hu) ⟨.bl _, H, I, rfl, q⟩⟩
              · cases hg
            | tuple qs =>
              simp only at hg
              split at hg
              · rename_i hh
                simp only [Bool.and_eq_true] at hh
                simp only [Option.some.injEq] at hg
                subst hg
                exact ⟨fun q => SeqAt.in_tuple_reads r2 r1 (by have := SeqAt.canLay_of_shaped hh.2; simpa only [PyData.canLay0] using this) (SeqAt.canLay_of_shaped hh.1) (room_in_shaped hh.1 hu) ⟨.bl _, H, I, rfl, q⟩,
                  fun q => SeqAt.notIn_tuple_reads r2 r1 (by have := SeqAt.canLay_of_shaped hh.2; simpa only [PyData.canLay0] using this) (SeqAt.canLay_of_shaped hh.1) (room_in_shaped hh.1 hu) ⟨.bl _, H, I, rfl, q⟩⟩
              · cases hg
            | _ => simp at hg
    | none =>
      rw [q0] at hg
      simp only [Option.map_eq_some_iff] at hg
      obtain ⟨od, hg, rfl⟩ := hg
      obtain ⟨l, ys, kk, rfl, hy, rfl, hl⟩ := key_at w ra rb hg
      cases ry
      rw [← (key_rel hl).1]
      exact ⟨fun q => d_in (by omega) I (DGet.k hy) rx fun s3 I3 => ⟨.bl _, H, I3, rfl, q⟩, fun q => d_notIn (by omega) I (DGet.k hy) rx fun s3 I3 => ⟨.bl _, H, I3, rfl, q⟩⟩

theorem isNon_of {wd : Wd} {x : V} {a : D} (ra : RelD G wd x a) : decide (x = .non) = isNonD a := by
  cases a with
  | tup ds => simp only [RelD] at ra; obtain ⟨a, xs, rfl, _⟩ := ra; simp [isNonD]
  | lst t ds => simp only [RelD] at ra; obtain ⟨a, xs, rfl, _⟩ := ra; simp [isNonD]
  | ref n => simp only [RelD] at ra; obtain ⟨a, _, rfl⟩ := ra; simp [isNonD]
  | dct ks ds => simp only [RelD] at ra; obtain ⟨a, xs, rfl, _⟩ := ra; simp [isNonD]
  | _ => simp only [RelD] at ra; subst ra; simp [isNonD]

theorem cmp_ok (hK : X.K = G.K) (hu : X.A.units + 65 < cLine) (o : Cop) : OpR X (compareOp (copM o)) (rC G o) := by
  intro pins s σ H x y v u Q I rx ry h
  obtain ⟨wd, a, b, L, k, w, ra, rb, hg, q⟩ := h
  have isB : (b = .non ∨ ∃ z, b = .bl z) ∨ ¬ (b = .non ∨ ∃ z, b = .bl z) := Classical.em _
  cases o with
  | eq => exact (eq_ok hK (by omega) I rx ry w ra rb hg).1 q
  | ne =>
    simp only [cmpD, Option.map_eq_some_iff] at hg
    obtain ⟨k', h1, rfl⟩ := hg
    exact (eq_ok hK (by omega) I rx ry w ra rb h1).2 q
  | in_ => exact (in_ok hK hu I rx ry w ra rb hg).1 q
  | nin =>
    simp only [cmpD, Option.map_eq_some_iff] at hg
    obtain ⟨k', h1, rfl⟩ := hg
    exact (in_ok hK hu I rx ry w ra rb h1).2 q
  | is_ =>
    cases b with
    | non =>
      simp only [cmpD, Option.some.injEq] at hg
      simp only [RelD] at rb
      subst rb hg
      exact op_isN pins s σ H x _ v u Q I rx ry ⟨rfl, by rw [isNon_of ra]; exact q⟩
    | bl z =>
      cases a with
      | bl z' =>
        simp only [cmpD, Option.some.injEq] at hg
        simp only [RelD] at ra rb
        subst ra rb hg
        exact op_isBl pins s σ H _ _ v u Q I rx ry ⟨z', z, rfl, rfl, q⟩
      | _ => simp [cmpD] at hg
    | _ => simp [cmpD] at hg
  | isn =>
    cases b with
    | non =>
      simp only [cmpD, Option.some.injEq] at hg
      simp only [RelD] at rb
      subst rb hg
      exact op_notN pins s σ H x _ v u Q I rx ry ⟨rfl, by rw [isNon_of ra]; exact q⟩
    | bl z =>
      cases a with
      | bl z' =>
        simp only [cmpD, Option.some.injEq] at hg
        simp only [RelD] at ra rb
        subst ra rb hg
        exact op_notBl pins s σ H _ _ v u Q I rx ry ⟨z', z, rfl, rfl, q⟩
      | _ => simp [cmpD] at hg
    | _ => simp [cmpD] at hg
  | lt =>
    cases a with
    | int i =>
      cases b with
      | int j =>
        simp only [cmpD, ordI, Option.some.injEq] at hg
        simp only [RelD] at ra rb
        subst ra rb hg
        exact op_lt pins s σ H _ _ v u Q I rx ry ⟨i, j, rfl, rfl, q⟩
      | _ => simp [cmpD] at hg
    | _ => simp [cmpD] at hg
  | le =>
    cases a with
    | int i =>
      cases b with
      | int j =>
        simp only [cmpD, ordI, Option.some.injEq] at hg
        simp only [RelD] at ra rb
        subst ra rb hg
        exact op_le pins s σ H _ _ v u Q I rx ry ⟨i, j, rfl, rfl, q⟩
      | _ => simp [cmpD] at hg
    | _ => simp [cmpD] at hg
  | gt =>
    cases a with
    | int i =>
      cases b with
      | int j =>
        simp only [cmpD, ordI, Option.some.injEq] at hg
        simp only [RelD] at ra rb
        subst ra rb hg
        exact op_gt pins s σ H _ _ v u Q I rx ry ⟨i, j, rfl, rfl, q⟩
      | _ => simp [cmpD] at hg
    | _ => simp [cmpD] at hg
  | ge =>
    cases a with
    | int i =>
      cases b with
      | int j =>
        simp only [cmpD, ordI, Option.some.injEq] at hg
        simp only [RelD] at ra rb
        subst ra rb hg
        exact op_ge pins s σ H _ _ v u Q I rx ry ⟨i, j, rfl, rfl, q⟩
      | _ => simp [cmpD] at hg
    | _ => simp [cmpD] at hg

/-! ### truth -/
theorem tru_of (hK : X.K = G.K) {wd : Wd} {x : V} {a : D} {L : Live} {H : Hp} {k : Bool} (w : WOk (G := G) wd H L) (ra : RelD G wd x a) (h : truD L a = some k) : TruV X.K x H k := by
  cases a with
  | non => simp only [RelD] at ra; subst ra; simp only [truD, Option.some.injEq] at h; exact h.symm
  | bl b => simp only [RelD] at ra; subst ra; simp only [truD, Option.some.injEq] at h; exact h.symm
  | int i => simp only [RelD] at ra; subst ra; simp only [truD, Option.some.injEq] at h; exact h.symm
  | str z =>
    simp only [RelD] at ra; subst ra
    simp only [truD] at h
    split at h
    · rename_i hz
      simp only [Option.some.injEq] at h
      exact ⟨of_decide_eq_true hz, h.symm⟩
    · cases h
  | tup ds =>
    obtain ⟨l, xs, rfl, hx, rx⟩ := rd_tup w ra
    simp only [truD, Option.some.injEq] at h
    subst h
    refine .inr (.inl ⟨xs, by rw [hK]; exact hx, ?_⟩)
    have := RelDs.length rx
    cases xs <;> cases ds <;> simp_all
  | lst t ds =>
    obtain ⟨l, xs, rfl, hx, rx⟩ := rd_list w ra (ds := ds) rfl
    simp only [truD, Option.some.injEq] at h
    subst h
    refine .inl ⟨xs, .inl hx, ?_⟩
    have := RelDs.length rx
    cases xs <;> cases ds <;> simp_all
  | dct ks ds => simp [truD] at h
  | ref n =>
    simp only [truD] at h
    cases q : L[n]? with
    | none => rw [q] at h; cases h
    | some o =>
      rw [q] at h
      obtain ⟨l, rfl, _, ro, _⟩ := rd_ref w ra q
      cases o with
      | lst ds =>
        simp only [Option.some.injEq] at h
        subst h
        obtain ⟨xs, hx, rx⟩ := ro
        refine .inl ⟨xs, SqL.of hx, ?_⟩
        have := RelDs.length rx
        cases xs <;> cases ds <;> simp_all
      | dic kvs =>
        simp only [Option.some.injEq] at h
        subst h
        obtain ⟨ys, hy, pr⟩ := ro
        refine .inr (.inr ⟨ys, hy, ?_⟩)
        have := pr.length
        cases ys <;> cases kvs <;> simp_all
      | _ => simp at h

/-! ### subscripts -/
def rX (G : Gv) : R2 := fun x y H Q => ∃ wd a b L d, WOk (G := G) wd H L ∧ RelD G wd x a ∧ RelD G wd y b ∧ idxD a b L = some d ∧ ∀ v, RelD G wd v d → Q v H
theorem ix_ok (hK : X.K = G.K) (hu : X.A.units + 1 < cLine) : IxR X (rX G) := by
  intro value slice pins s σ H x y v u Q I rx ry h hs
  obtain ⟨wd, a, b, L, d, w, ra, rb, hg, q⟩ := h
  by_cases hstr : ∃ z, a = .str z
  · obtain ⟨z, rfl⟩ := hstr
    cases b with
    | int i =>
      simp only [idxD, idxStr] at hg
      split at hg
      · rename_i hz
        simp only [Option.map_eq_some_iff] at hg
        obtain ⟨c, h1, rfl⟩ := hg
        simp only [RelD] at ra rb
        subst ra rb
        exact ix_str value slice pins s σ H _ _ v u Q I rx ry ⟨z, i, c, rfl, rfl, of_decide_eq_true hz, h1, q _ (by simp [RelD])⟩ hs
      · cases hg
    | _ => simp [idxD, idxStr] at hg
  · have e : idxD a b L = (match seqOf L a with | some ds => idxSeq ds b | none => (keyAt L b a).bind id) := by
      cases a with
      | str z => exact absurd ⟨z, rfl⟩ hstr
      | _ => rfl
    rw [e] at hg
    clear e
    cases q0 : seqOf L a with
    | some ds =>
      rw [q0] at hg
      cases b with
      | int i =>
        simp only [idxSeq] at hg
        simp only [RelD] at rb
        subst rb
        obtain ⟨l, xs, rfl, hx, rx'⟩ := rd_seq w ra q0
        have hl := RelDs.length rx'
        unfold atI at hg
        obtain ⟨j, h1, h2⟩ := Option.bind_eq_some_iff.mp hg
        obtain ⟨vv, h3, h4⟩ := RelDs.get rx' h2
        have h5 : atI xs i = some vv := by
          unfold atI
          rw [hl, h1]
          exact h3
        rw [← hK] at hx
        rcases hx with hx | hx
        · exact ix_list value slice pins s σ H _ _ v u Q I rx ry ⟨l, xs, i, vv, rfl, rfl, hx, h5, q _ h4⟩ hs
        · exact ix_tup value slice pins s σ H _ _ v u Q I rx ry ⟨l, xs, i, vv, rfl, rfl, hx, h5, q _ h4⟩ hs
      | _ => simp [idxSeq] at hg
    | none =>
      rw [q0] at hg
      obtain ⟨od, hg, h2⟩ := Option.bind_eq_some_iff.mp hg
      simp only [id] at h2
      subst h2
      obtain ⟨l, ys, kk, rfl, hy, rfl, hl⟩ := key_at w rb ra hg
      cases rx
      obtain ⟨vv, h5, h6⟩ := hl.2 d rfl
      have g : DGet H l (kV kk) (some vv) := by rw [← h5]; exact DGet.k hy
      have ht : s.TypeIs (.ref l) "dict" := dict_typeIs I g
      exact tail_any ht PySem.F.slot_dict_getitem.lookup (d_getItem hu I g ry fun w' s3 I3 rw' => ⟨vv, H, I3, rw', q _ h6⟩) hs
end
end MP
set_option maxHeartbeats 4000000
/-! MP: slices, built-ins, methods of built-in types, isinstance, by values -/
namespace MP
open PySem PySem.Spec PyProof.Rows L2

section
variable {G : Gv} {X : Cx}
/-! ### slices -/
theorem RelDs.cut {wd : Wd} {xs : List V} {ds : List D} (r : RelDs G wd xs ds) (l h : Option Int) : RelDs G wd (cutV xs l h) (cutD ds l h) := by
  unfold cutV cutD
  rw [RelDs.length r]
  exact RelDs.take _ (RelDs.drop _ r)
def rS (G : Gv) (lv : Bool) : V → Option Int → Option Int → Hp → VK → Prop := fun x lo hi H Q => ∃ wd a L d L', WOk (G := G) wd H L ∧ RelD G wd x a ∧ slcP lv a lo hi L = some (d, L') ∧ End G wd d L' Q
theorem sl_ok (hK : X.K = G.K) (lv : Bool) : SlR X (rS G lv) := by
  intro pins s σ H x v vl vu lo hi sl Q I rx hs pl pu h
  obtain ⟨wd, a, L, d, L', w, ra, hg, he⟩ := h
  have other : ∀ ds, lstOf L a = some ds → (newL lv (cutD ds lo hi) L) = (d, L') → ∃ T id, typeLookup (.type T) "__getitem__" = pure (some (.builtin id)) ∧ s.TypeIs v T ∧ wpAny (model X.prog X.w) X.A (getItem v (.ref sl)) (EP X pins σ Q) X.xe s := fun ds h1 h2 => by
    obtain ⟨l, xs, rfl, hx, rx'⟩ := rd_list w ra h1
    have e1 : (newL lv (cutD ds lo hi) L).1 = d := by rw [h2]
    have e2 : (newL lv (cutD ds lo hi) L).2 = L' := by rw [h2]
    subst e1 e2
    exact sl_list pins s σ H _ v vl vu lo hi sl Q I rx hs pl pu ⟨l, xs, rfl, .inl hx, fun p hp => new_list w (RelDs.cut rx' lo hi) hp he⟩
  cases a with
  | str z =>
    simp only [slcP] at hg
    split at hg
    · rename_i hz
      simp only [Option.some.injEq, Prod.mk.injEq] at hg
      obtain ⟨rfl, rfl⟩ := hg
      simp only [RelD] at ra
      subst ra
      exact sl_str pins s σ H _ v vl vu lo hi sl Q I rx hs pl pu ⟨z, rfl, of_decide_eq_true hz, he.now w (by simp [RelD])⟩
    · cases hg
  | tup ds =>
    simp only [slcP, Option.some.injEq, Prod.mk.injEq] at hg
    obtain ⟨rfl, rfl⟩ := hg
    obtain ⟨l, xs, rfl, hx, rx'⟩ := rd_tup w ra
    refine sl_tupA pins s σ H _ v vl vu lo hi sl Q I rx hs pl pu ⟨l, xs, rfl, by rw [hK]; exact hx, fun hw => ?_, fun _ p hp => new_tup w (RelDs.cut rx' lo hi) hp he⟩
    have e : cutD ds lo hi = ds := by
      unfold cutD
      rw [← RelDs.length rx', hw.1, hw.2, List.drop_zero, Nat.sub_zero, List.take_of_length_le]
      rw [RelDs.length rx']; exact Nat.le_refl _
    rw [e] at he
    exact he.now w ra
  | lst t ds => simp only [slcP, lstOf] at hg; exact other ds rfl (Option.some.inj hg)
  | ref n =>
    simp only [slcP] at hg
    cases q : lstOf L (.ref n) with
    | none => rw [q] at hg; cases hg
    | some ds => rw [q] at hg; exact other ds q (Option.some.inj hg)
  | _ => simp [slcP, lstOf] at hg

/-! ### lists of ints, bools, texts -/
theorem ints_of {wd : Wd} : ∀ {ds : List D} {xs : List V} {ns : List Int}, RelDs G wd xs ds → intsOf ds = some ns → xs = ns.map V.int ∧ ds = ns.map D.int
  | [], xs, ns, r, h => by simp only [RelDs] at r; simp only [intsOf, Option.some.injEq] at h; subst r h; exact ⟨rfl, rfl⟩
  | d :: ds, xs, ns, r, h => by
    simp only [RelDs] at r
    obtain ⟨v, vs, rfl, r1, r2⟩ := r
    cases d with
    | int i =>
      simp only [intsOf] at h
      cases q : intsOf ds with
      | none => rw [q] at h; cases h
      | some l =>
        rw [q] at h; simp only [Option.some.injEq] at h; subst h
        simp only [RelD] at r1; subst r1
        obtain ⟨e1, e2⟩ := ints_of r2 q
        subst e1
        exact ⟨rfl, by rw [e2]; rfl⟩
    | _ => simp [intsOf] at h
theorem bools_of {wd : Wd} : ∀ {ds : List D} {xs : List V} {ns : List Bool}, RelDs G wd xs ds → boolsOf ds = some ns → xs = ns.map V.bl
  | [], xs, ns, r, h => by simp only [RelDs] at r; simp only [boolsOf, Option.some.injEq] at h; subst r h; rfl
  | d :: ds, xs, ns, r, h => by
    simp only [RelDs] at r
    obtain ⟨v, vs, rfl, r1, r2⟩ := r
    cases d with
    | bl i =>
      simp only [boolsOf] at h
      cases q : boolsOf ds with
      | none => rw [q] at h; cases h
      | some l =>
        rw [q] at h; simp only [Option.some.injEq] at h; subst h
        simp only [RelD] at r1; subst r1
        rw [bools_of r2 q]; rfl
    | _ => simp [boolsOf] at h
theorem strs_of {wd : Wd} : ∀ {ds : List D} {xs : List V} {ns : List Str}, RelDs G wd xs ds → strsOf ds = some ns → xs = ns.map V.str
  | [], xs, ns, r, h => by simp only [RelDs] at r; simp only [strsOf, Option.some.injEq] at h; subst r h; rfl
  | d :: ds, xs, ns, r, h => by
    simp only [RelDs] at r
    obtain ⟨v, vs, rfl, r1, r2⟩ := r
    cases d with
    | str i =>
      simp only [strsOf] at h
      cases q : strsOf ds with
      | none => rw [q] at h; cases h
      | some l =>
        rw [q] at h; simp only [Option.some.injEq] at h; subst h
        simp only [RelD] at r1; subst r1
        rw [strs_of r2 q]; rfl
    | _ => simp [strsOf] at h
theorem relInts {wd : Wd} : ∀ ns : List Int, RelDs G wd (ns.map V.int) (ns.map D.int)
  | [] => RelDs.nil
  | n :: ns => RelDs.cons (by simp [RelD]) (relInts ns)

theorem insI_perm (x : Int) : ∀ l : List Int, (insI x l).Perm (x :: l)
  | [] => .refl _
  | y :: r => by
    unfold insI
    split
    · exact .refl _
    · exact ((insI_perm x r).cons y).trans (.swap x y r)
theorem insI_sorted (x : Int) : ∀ l : List Int, l.Pairwise (· ≤ ·) → (insI x l).Pairwise (· ≤ ·)
  | [], _ => by simp [insI]
  | y :: r, h => by
    unfold insI
    obtain ⟨h1, h2⟩ := List.pairwise_cons.mp h
    split
    · rename_i hxy
      refine List.pairwise_cons.mpr ⟨fun z hz => ?_, h⟩
      rcases List.mem_cons.mp hz with rfl | hz
      · exact hxy
      · exact Int.le_trans hxy (h1 z hz)
    · rename_i hxy
      refine List.pairwise_cons.mpr ⟨fun z hz => ?_, insI_sorted x r h2⟩
      rcases List.mem_cons.mp ((insI_perm x r).mem_iff.mp hz) with rfl | hz
      · omega
      · exact h1 z hz
theorem sortI_perm : ∀ l : List Int, (sortI l).Perm l
  | [] => .refl _
  | x :: r => (insI_perm x (sortI r)).trans ((sortI_perm r).cons x)
theorem sortI_sorted : ∀ l : List Int, (sortI l).Pairwise (· ≤ ·)
  | [] => .nil
  | x :: r => insI_sorted x _ (sortI_sorted r)
theorem sortI_uniq {l ns : List Int} (h1 : l.Perm ns) (h2 : l.Pairwise (· ≤ ·)) : l = sortI ns := PySem.W.ksm_same (h1.trans (sortI_perm ns).symm) h2 (sortI_sorted ns)
theorem maxF_spec : ∀ (r : List Int) (x : Int), (r.foldl (fun m y => if m < y then y else m) x ∈ x :: r) ∧ ∀ y ∈ x :: r, y ≤ r.foldl (fun m y => if m < y then y else m) x
  | [], x => ⟨by simp, fun y hy => by simp at hy; subst hy; exact Int.le_refl _⟩
  | a :: r, x => by
    simp only [List.foldl_cons]
    obtain ⟨h1, h2⟩ := maxF_spec r (if x < a then a else x)
    refine ⟨?_, fun y hy => ?_⟩
    · rcases List.mem_cons.mp h1 with e | e
      · rw [e]; split <;> simp
      · exact List.mem_cons_of_mem _ (List.mem_cons_of_mem _ e)
    · have h3 := h2 _ List.mem_cons_self
      have h4 : x ≤ (if x < a then a else x) ∧ a ≤ (if x < a then a else x) := by split <;> omega
      rcases List.mem_cons.mp hy with rfl | hy
      · exact Int.le_trans h4.1 h3
      · rcases List.mem_cons.mp hy with rfl | hy
        · exact Int.le_trans h4.2 h3
        · exact h2 y (List.mem_cons_of_mem _ hy)
theorem minF_spec : ∀ (r : List Int) (x : Int), (r.foldl (fun m y => if y < m then y else m) x ∈ x :: r) ∧ ∀ y ∈ x :: r, r.foldl (fun m y => if y < m then y else m) x ≤ y
  | [], x => ⟨by simp, fun y hy => by simp at hy; subst hy; exact Int.le_refl _⟩
  | a :: r, x => by
    simp only [List.foldl_cons]
    obtain ⟨h1, h2⟩ := minF_spec r (if a < x then a else x)
    refine ⟨?_, fun y hy => ?_⟩
    · rcases List.mem_cons.mp h1 with e | e
      · rw [e]; split <;> simp
      · exact List.mem_cons_of_mem _ (List.mem_cons_of_mem _ e)
    · have h3 := h2 _ List.mem_cons_self
      have h4 : (if a < x then a else x) ≤ x ∧ (if a < x then a else x) ≤ a := by split <;> omega
      rcases List.mem_cons.mp hy with rfl | hy
      · exact Int.le_trans h3 h4.1
      · rcases List.mem_cons.mp hy with rfl | hy
        · exact Int.le_trans h3 h4.2
        · exact h2 y (List.mem_cons_of_mem _ hy)

/-! ### built-ins -/
abbrev bltV : Blt → Value
  | .len => .builtin "len" | .abs => .builtin "abs" | .max => .builtin "max" | .min => .builtin "min" | .sum => .builtin "sum" | .any => .builtin "any" | .all => .builtin "all" | .sorted => .builtin "sorted"
  | .list => .type "list" | .tuple => .type "tuple" | .int => .type "int" | .str => .type "str" | .repr => .builtin "repr"
def rL (G : Gv) (g : List D → Live → Option (D × Live)) : List V → Hp → VK → Prop := fun xs H Q => ∃ wd as L d L', WOk (G := G) wd H L ∧ RelDs G wd xs as ∧ g as L = some (d, L') ∧ End G wd d L' Q
theorem one_of {wd : Wd} {xs : List V} {a : D} (r : RelDs G wd xs [a]) : ∃ x, xs = [x] ∧ RelD G wd x a := by
  simp only [RelDs] at r
  obtain ⟨v, vs, rfl, r1, rfl⟩ := r
  exact ⟨v, rfl, r1⟩
theorem two_of {wd : Wd} {xs : List V} {a b : D} (r : RelDs G wd xs [a, b]) : ∃ x y, xs = [x, y] ∧ RelD G wd x a ∧ RelD G wd y b := by
  simp only [RelDs] at r
  obtain ⟨v, vs, rfl, r1, v2, vs2, rfl, r2, rfl⟩ := r
  exact ⟨v, v2, rfl, r1, r2⟩

/-- where the modules' dict stands is known -/
def SmK (K : PySem.W.Frag) : Prop := ∃ o, K.lookup sysModules = some o ∧ o.cls = .type "dict"
def keyV : Key → PyData := keyPy
mutual
/-- a value that can be read, dicts too -/
inductive Dx (K : PySem.W.Frag) (H : Hp) : V → PyData → Prop
  | non : Dx K H .non .none
  | bl (b : Bool) : Dx K H (.bl b) (.bool b)
  | int (i : Int) : Dx K H (.int i) (.int i)
  | str (x : Str) : Dx K H (.str x) (.str x)
  | lst {a : Addr} {xs : List V} {ds : List PyData} : SqL K H a xs → DxAll K H xs ds → Dx K H (.ref a) (.list ds)
  | tup {a : Addr} {xs : List V} {ds : List PyData} : SqT K H a xs → DxAll K H xs ds → Dx K H (.ref a) (.tuple ds)
  | dct {a : Addr} {ys : List (Key × V)} {ds : List PyData} : H a = some (.dK ys) → DxAll K H (ys.map Prod.snd) ds → Dx K H (.ref a) (.dict (((ys.map Prod.fst).map keyPy).zip ds))
inductive DxAll (K : PySem.W.Frag) (H : Hp) : List V → List PyData → Prop
  | nil : DxAll K H [] []
  | cons {v : V} {vs : List V} {d : PyData} {ds : List PyData} : Dx K H v d → DxAll K H vs ds → DxAll K H (v :: vs) (d :: ds)
end
mutual
theorem Dx.of_dp {K : PySem.W.Frag} {H : Hp} : ∀ {v : V} {p : PyData}, Dp K H v p → Dx K H v p
  | _, _, .non => .non
  | _, _, .bl b => .bl b
  | _, _, .int i => .int i
  | _, _, .str x => .str x
  | _, _, .lst h1 h2 => .lst h1 (DxAll.of_dp h2)
  | _, _, .tup h1 h2 => .tup h1 (DxAll.of_dp h2)
theorem DxAll.of_dp {K : PySem.W.Frag} {H : Hp} : ∀ {v : List V} {p : List PyData}, DpAll K H v p → DxAll K H v p
  | _, _, .nil => .nil
  | _, _, .cons h1 h2 => .cons (Dx.of_dp h1) (DxAll.of_dp h2)
end
theorem dxm_of {wd : Wd} {f : D → Option PyData} (hf : ∀ {d p v}, f d = some p → RelD G wd v d → Dx G.K H v p) : ∀ {ds : List D} {ps : List PyData} {xs : List V}, mapO f ds = some ps → RelDs G wd xs ds → DxAll G.K H xs ps
  | [], ps, xs, h, r => by simp only [mapO, Option.some.injEq] at h; simp only [RelDs] at r; subst h r; exact .nil
  | d :: ds, ps, xs, h, r => by
    simp only [RelDs] at r
    obtain ⟨v, vs, rfl, r1, r2⟩ := r
    simp only [mapO] at h
    cases q : f d with
    | none => rw [q] at h; cases h
    | some p =>
      rw [q] at h
      cases q2 : mapO f ds with
      | none => rw [q2] at h; cases h
      | some qs =>
        rw [q2] at h; simp only [Option.some.injEq] at h; subst h
        exact .cons (hf q r1) (dxm_of hf q2 r2)
theorem paired_fst {wd : Wd} : ∀ {ys : List (Key × V)} {kvs : List (Key × D)}, Paired (fun (p : Key × V) (q : Key × D) => p.1 = q.1 ∧ RelD G wd p.2 q.2) ys kvs → ys.map Prod.fst = kvs.map Prod.fst ∧ RelDs G wd (ys.map Prod.snd) (kvs.map Prod.snd)
  | _, _, .nil => ⟨rfl, RelDs.nil⟩
  | _, _, .cons r t => by
    obtain ⟨h1, h2⟩ := paired_fst t
    exact ⟨by simp [r.1, h1], RelDs.cons r.2 h2⟩
theorem dxv_of {wd : Wd} {L : Live} (w : WOk (G := G) wd H L) : ∀ {n : Nat} {d : D} {p : PyData} {v : V}, viewX L n d = some p → RelD G wd v d → Dx G.K H v p
  | 0, d, p, v, h, r => by simp [viewX] at h
  | n + 1, d, p, v, h, r => by
    have ih : ∀ {d : D} {p : PyData} {v : V}, viewX L n d = some p → RelD G wd v d → Dx G.K H v p := fun h r => dxv_of w h r
    cases d with
    | ref k =>
      simp only [viewX] at h
      cases q : L[k]? with
      | none => rw [q] at h; cases h
      | some o =>
        rw [q] at h
        cases o with
        | lst es =>
          simp only [Option.map_eq_some_iff] at h
          obtain ⟨ps, h1, rfl⟩ := h
          obtain ⟨a, xs, rfl, h2, h3⟩ := rd_list w r (ds := es) (by simp only [lstOf, q])
          exact .lst (.inl h2) (dxm_of ih h1 h3)
        | dic kvs =>
          simp only [Option.map_eq_some_iff] at h
          obtain ⟨ps, h1, rfl⟩ := h
          obtain ⟨a, rfl, _, ⟨ys, hy, pr⟩, _⟩ := rd_ref w r q
          obtain ⟨e1, e2⟩ := paired_fst pr
          rw [← e1]
          exact .dct hy (dxm_of ih h1 e2)
        | _ => simp at h
    | tup es =>
      simp only [viewX, Option.map_eq_some_iff] at h
      obtain ⟨ps, h1, rfl⟩ := h
      obtain ⟨a, xs, rfl, h2, h3⟩ := rd_tup w r
      exact .tup h2 (dxm_of ih h1 h3)
    | lst t es =>
      simp only [viewX, Option.map_eq_some_iff] at h
      obtain ⟨ps, h1, rfl⟩ := h
      obtain ⟨a, xs, rfl, h2, h3⟩ := rd_list w r (ds := es) rfl
      exact .lst (.inl h2) (dxm_of ih h1 h3)
    | dct ks es =>
      simp only [viewX, Option.map_eq_some_iff] at h
      obtain ⟨ps, h1, rfl⟩ := h
      simp only [RelD] at r
      obtain ⟨a, ys, rfl, h2, rfl, h3⟩ := r
      exact .dct (w.sub _ _ h2) (dxm_of ih h1 h3)
    | _ => simp only [viewX] at h; exact .of_dp (dp_of w h r)
theorem dxx_of {wd : Wd} {L : Live} {d : D} {v : V} (w : WOk (G := G) wd H L) {p : PyData} (h : pyX L d = some p) (r : RelD G wd v d) : Dx G.K H v p := by
  unfold pyX at h
  cases q : pyOf L d with
  | none => rw [q] at h; exact dxv_of w h r
  | some x => rw [q] at h; simp only [Option.some.injEq] at h; subst h; exact .of_dp (dpp_of w q r)
theorem kv_vals {ys : List (Key × V)} {vs : List (Key × Value)} (r : KV ys vs) : Vals (ys.map Prod.snd) (vs.map Prod.snd) := by
  unfold KV at r
  induction r with
  | nil => exact .nil
  | cons h t ih => exact .cons h.2 ih
theorem dxAll_len {K : PySem.W.Frag} {H : Hp} : ∀ {vs : List V} {ds : List PyData}, DxAll K H vs ds → vs.length = ds.length
  | _, _, .nil => rfl
  | _, _, .cons _ h => by simp [dxAll_len h]
theorem pairs_keys {P : Program} {w : World} {h : Heap} : ∀ {es : List DictEntry} {vs : List (Key × Value)}, Pairs (mixKind P w) es vs → ReadsAll h (es.map (·.key)) ((vs.map Prod.fst).map keyPy) [] ∧ es.map (·.val) = vs.map Prod.snd
  | _, _, .nil => ⟨.nil, rfl⟩
  | _, _, .cons (e := e) (kv := kv) h1 h2 t => by
    obtain ⟨g1, g2⟩ := pairs_keys (h := h) t
    have h1 : keyIs kv.1 e.key = true := h1
    refine ⟨?_, by simp [h2, g2]⟩
    rcases keyIs_shape h1 with ⟨i, t, e1, e2⟩ | ⟨x, t, e1, e2⟩
    · have := ReadsAll.cons (Reads.int (h := h) i t) g1
      simpa [e1, e2, keyPy] using this
    · have := ReadsAll.cons (Reads.str (h := h) x t) g1
      simpa [e1, e2, keyPy] using this
section
variable {pins : List (Addr × Obj)} {s : Shared} {σ : L2.St}
mutual
theorem Dx.reads (sm : SmK X.K) (I : Inv X pins σ H s) : ∀ {d : PyData} {v : V} {u : Value}, Dx X.K H v d → RelV v u → ∃ as, Reads s.heap u d as ∧ sysModules ∉ as
  | _, _, _, .non, r => by cases r; exact ⟨_, Reads.none, by simp⟩
  | _, _, _, .bl b, r => by cases r; exact ⟨_, Reads.bool b, by simp⟩
  | _, _, _, .int i, r => by obtain ⟨t, rfl⟩ := r; exact ⟨_, Reads.int i t, by simp⟩
  | _, _, _, .str x, r => by obtain ⟨t, rfl⟩ := r; exact ⟨_, Reads.str x t, by simp⟩
  | _, _, _, .lst (a := a) hs ha, r => by
    cases r
    obtain ⟨its, rv, ⟨o, n, ho, hc, _, hd⟩, _⟩ := I.list hs
    obtain ⟨as, hr, hn⟩ := DxAll.reads sm I ha rv
    refine ⟨_, Reads.list ho hc hd hr, ?_⟩
    rw [List.mem_cons, not_or]
    refine ⟨fun z => ?_, hn⟩
    obtain ⟨om, h1, h2⟩ := sm
    have h3 := I.kIn _ _ h1
    rw [z, ho] at h3
    cases h3
    rw [hc] at h2
    simp at h2
  | _, _, _, .tup (a := a) hs ha, r => by
    cases r
    obtain ⟨its, rv, ⟨o, ho, hc, n, hd⟩, _⟩ := I.tuple hs
    obtain ⟨as, hr, hn⟩ := DxAll.reads sm I ha rv
    exact ⟨_, Reads.tuple ho hc hd hr, hn⟩
  | _, _, _, .dct (a := a) (ys := ys) hs ha, r => by
    cases r
    obtain ⟨_, hne, vs, kv, o, es, ep, ho, hx, hd, _, pr, _⟩ := dk_of I.hok hs
    obtain ⟨k1, k2⟩ := pairs_keys (h := s.heap) pr
    have ek : ys.map Prod.fst = vs.map Prod.fst := KV.keys kv
    have rv : Vals (ys.map Prod.snd) (vs.map Prod.snd) := kv_vals kv
    obtain ⟨bs, hr, hn⟩ := DxAll.reads sm I ha rv
    have hl : ((ys.map Prod.fst).map keyPy).length = _ := rfl
    have hlen := dxAll_len ha
    simp only [List.length_map] at hlen
    refine ⟨_, Reads.dict (as := []) (bs := bs) ho hx.1 hd ?_ ?_, ?_⟩
    · rw [List.map_fst_zip (by simp [hlen]), ek]
      exact k1
    · rw [List.map_snd_zip (by simp [hlen]), k2]
      exact hr
    · simp only [List.cons_append, List.nil_append, List.mem_cons, not_or]
      exact ⟨fun z => by rw [← z] at hne; simp at hne, hn⟩
theorem DxAll.reads (sm : SmK X.K) (I : Inv X pins σ H s) : ∀ {ds : List PyData} {vs : List V} {us : List Value}, DxAll X.K H vs ds → Vals vs us → ∃ as, ReadsAll s.heap us ds as ∧ sysModules ∉ as
  | _, _, _, .nil, r => by cases r; exact ⟨_, ReadsAll.nil, by simp⟩
  | _, _, _, .cons h1 h2, r => by
    cases r with
    | cons r1 r2 =>
      obtain ⟨as, q1, n1⟩ := Dx.reads sm I h1 r1
      obtain ⟨bs, q2, n2⟩ := DxAll.reads sm I h2 r2
      exact ⟨_, ReadsAll.cons q1 q2, by simp [n1, n2]⟩
end
end
/-- what repr gives of any value that can be read -/
theorem repr_ok (sm : SmK X.K) (hK : X.K = G.K) (hg : X.A.guards = some []) (hu : X.A.units + 64 < cLine) {wd : Wd} {H : Hp} {L : Live} {x : V} {a : D} {z : Str} {pins : List (Addr × Obj)} {s : Shared} {σ : L2.St} {u : Value} {Q : VK}
    (I : Inv X pins σ H s) (rx : RelV x u) (w : WOk (G := G) wd H L) (ra : RelD G wd x a) (h : reprD L a = some z) (q : Q (.str z) H) : wpAny (model X.prog X.w) X.A (call (.builtin "repr") [u]) (EP X pins σ Q) X.xe s := by
  unfold reprD at h
  cases q1 : pyX L a with
  | none => rw [q1] at h; cases h
  | some p =>
    rw [q1] at h
    simp only at h
    split at h
    · rename_i hc
      simp only [Bool.and_eq_true, decide_eq_true_eq] at hc
      obtain ⟨⟨h1, h2⟩, h3⟩ := hc
      have h2' : p.shown.length ≤ sizeLine := of_decide_eq_true h2
      simp only [Option.some.injEq] at h
      subst h
      have d1 := dxx_of w q1 ra
      rw [← hK] at d1
      obtain ⟨as, r1, nsm⟩ := Dx.reads sm I d1 rx
      have nod : p.hasDict = true → sysModules ∉ as := fun _ => nsm
      cases d1 with
      | non => cases rx; exact PySem.P.repr_of_none ⟨.str _, H, I.tok _, ⟨_, rfl⟩, q⟩
      | bl b => cases rx; exact PySem.P.repr_of_bool ⟨.str _, H, I.tok _, ⟨_, rfl⟩, by cases b <;> exact q⟩
      | int i => obtain ⟨t, rfl⟩ := rx; exact PySem.P.repr_of_int (by simpa [PyData.showable] using h1) ⟨.str _, H, I.tok _, ⟨_, rfl⟩, q⟩
      | str y => obtain ⟨t, rfl⟩ := rx; exact PySem.P.repr_of_str ⟨.str _, H, I.tok _, ⟨_, rfl⟩, q⟩ h2'
      | lst hs ha =>
        cases rx
        exact repr_of_reads' r1 h1 nod hg (by omega) (fun _ _ e => e) (fun h' u tk k => ⟨.str _, H, I.kept k, ⟨_, rfl⟩, q⟩) h2'
      | tup hs ha =>
        cases rx
        exact repr_of_reads' r1 h1 nod hg (by omega) (fun _ _ e => e) (fun h' u tk k => ⟨.str _, H, I.kept k, ⟨_, rfl⟩, q⟩) h2'
      | dct hs ha =>
        cases rx
        exact repr_of_reads' r1 h1 nod hg (by omega) (fun _ _ e => e) (fun h' u tk k => ⟨.str _, H, I.kept k, ⟨_, rfl⟩, q⟩) h2'
    · cases h

theorem keys_rel {wd : Wd} {ys : List (Key × V)} {kvs : List (Key × D)} (pr : Paired (fun (p : Key × V) (q : Key × D) => p.1 = q.1 ∧ RelD G wd p.2 q.2) ys kvs) : RelDs G wd (ys.map fun kv => kV kv.1) (kvs.map fun kv => keyD kv.1) := by
  induction pr with
  | nil => exact RelDs.nil
  | @cons p q ps qs h t ih =>
    refine RelDs.cons ?_ ih
    obtain ⟨k, v⟩ := q
    obtain ⟨k', v'⟩ := p
    obtain ⟨h1, _⟩ := h
    have h1' : k' = k := h1
    subst h1'
    show RelD G wd (kV k') (keyD k')
    cases k' <;> simp [keyD, kV, RelD]
theorem blt_ok (sm : SmK X.K) (hK : X.K = G.K) (b : Blt) (hg : b = .repr → X.A.guards = some []) (hu : X.A.units + 64 < cLine) (hc : X.calm = true) (lv : Bool) : CallR X (bltV b) (rL G (bltD b lv)) := by
  intro pins s σ H xs us Q I rs h
  obtain ⟨wd, as, L, d, L', w, ra, hd, he⟩ := h
  match as, ra, hd with
  | [], ra, hd => simp [bltD] at hd
  | [a], ra, hd =>
    obtain ⟨x, rfl, r1⟩ := one_of ra
    obtain ⟨u, rfl, rx⟩ := vals1 rs
    cases b with
    | len =>
      simp only [bltD, Option.map_eq_some_iff, Prod.mk.injEq] at hd
      obtain ⟨n, h1, rfl, rfl⟩ := hd
      by_cases hs : ∃ z, a = .str z
      · obtain ⟨z, rfl⟩ := hs
        simp only [lenD] at h1
        split at h1
        · rename_i hz
          simp only [Option.some.injEq] at h1
          subst h1
          simp only [RelD] at r1
          subst r1
          exact call_len pins s σ H _ _ Q I rs ⟨_, z.length, rfl, ⟨of_decide_eq_true hz, rfl⟩, he.now w (by simp [RelD])⟩
        · cases h1
      · have e : lenD L a = (match seqOf L a with | some ds => some (ds.length : Int) | none => lenK L a) := by
          cases a with
          | str z => exact absurd ⟨z, rfl⟩ hs
          | _ => rfl
        rw [e] at h1
        cases q : seqOf L a with
        | some ds =>
          rw [q] at h1
          simp only [Option.some.injEq] at h1
          subst h1
          obtain ⟨l, ys, rfl, hx, rx'⟩ := rd_seq w r1 q
          rw [← hK] at hx
          refine call_len_seq pins s σ H _ _ Q I rs ⟨l, ys, rfl, hx, ?_⟩
          rw [RelDs.length rx']
          exact he.now w (by simp [RelD])
        | none =>
          rw [q] at h1
          cases a with
          | ref n =>
            simp only [lenK] at h1
            cases q3 : L[n]? with
            | none => rw [q3] at h1; cases h1
            | some o =>
              rw [q3] at h1
              cases o with
              | dic kvs =>
                simp only [Option.some.injEq] at h1
                subst h1
                obtain ⟨l, rfl, _, ⟨ys, hy, pr⟩, _⟩ := rd_ref w r1 q3
                refine call_lenD pins s σ H _ _ Q I rs ⟨l, ys, rfl, hy, ?_⟩
                rw [pr.length]
                exact he.now w (by simp [RelD])
              | _ => simp at h1
          | _ => simp [lenK] at h1
    | abs =>
      cases a with
      | int i =>
        simp only [bltD, Option.some.injEq, Prod.mk.injEq] at hd
        obtain ⟨rfl, rfl⟩ := hd
        simp only [RelD] at r1
        subst r1
        exact call_abs pins s σ H _ _ Q I rs ⟨i, rfl, he.now w (by simp [RelD])⟩
      | _ => simp [bltD] at hd
    | sum =>
      simp only [bltD] at hd
      cases q : lstOf L a with
      | none => rw [q] at hd; cases hd
      | some ds =>
        rw [q] at hd
        simp only [Option.map_eq_some_iff, Prod.mk.injEq] at hd
        obtain ⟨ns, h1, rfl, rfl⟩ := hd
        obtain ⟨l, ys, rfl, hx, rx'⟩ := rd_list w r1 q
        obtain ⟨e1, _⟩ := ints_of rx' h1
        subst e1
        exact cr_sum hc pins s σ H _ _ Q I rs ⟨l, ns, rfl, .inl hx, he.now w (by simp [RelD])⟩
    | max =>
      simp only [bltD] at hd
      cases q : lstOf L a with
      | none => rw [q] at hd; cases hd
      | some ds =>
        rw [q] at hd
        simp only at hd
        cases q2 : intsOf ds with
        | none => rw [q2] at hd; cases hd
        | some ns =>
          rw [q2] at hd
          simp only [Option.map_eq_some_iff, Prod.mk.injEq] at hd
          obtain ⟨m, h1, rfl, rfl⟩ := hd
          obtain ⟨l, ys, rfl, hx, rx'⟩ := rd_list w r1 q
          obtain ⟨e1, _⟩ := ints_of rx' q2
          subst e1
          cases ns with
          | nil => simp [maxI] at h1
          | cons n r =>
            simp only [maxI, Option.some.injEq] at h1
            obtain ⟨m1, m2⟩ := maxF_spec r n
            rw [h1] at m1 m2
            refine cr_max hc pins s σ H _ _ Q I rs ⟨l, n :: r, rfl, .inl hx, by simp, fun m' p1 p2 => ?_⟩
            have e2 : m' = m := Int.le_antisymm (m2 _ p1) (p2 _ m1)
            subst e2
            exact he.now w (by simp [RelD])
    | min =>
      simp only [bltD] at hd
      cases q : lstOf L a with
      | none => rw [q] at hd; cases hd
      | some ds =>
        rw [q] at hd
        simp only at hd
        cases q2 : intsOf ds with
        | none => rw [q2] at hd; cases hd
        | some ns =>
          rw [q2] at hd
          simp only [Option.map_eq_some_iff, Prod.mk.injEq] at hd
          obtain ⟨m, h1, rfl, rfl⟩ := hd
          obtain ⟨l, ys, rfl, hx, rx'⟩ := rd_list w r1 q
          obtain ⟨e1, _⟩ := ints_of rx' q2
          subst e1
          cases ns with
          | nil => simp [minI] at h1
          | cons n r =>
            simp only [minI, Option.some.injEq] at h1
            obtain ⟨m1, m2⟩ := minF_spec r n
            rw [h1] at m1 m2
            refine cr_min hc pins s σ H _ _ Q I rs ⟨l, n :: r, rfl, .inl hx, by simp, fun m' p1 p2 => ?_⟩
            have e2 : m' = m := Int.le_antisymm (p2 _ m1) (m2 _ p1)
            subst e2
            exact he.now w (by simp [RelD])
    | any =>
      simp only [bltD] at hd
      cases q : lstOf L a with
      | none => rw [q] at hd; cases hd
      | some ds =>
        rw [q] at hd
        simp only [Option.map_eq_some_iff, Prod.mk.injEq] at hd
        obtain ⟨ns, h1, rfl, rfl⟩ := hd
        obtain ⟨l, ys, rfl, hx, rx'⟩ := rd_list w r1 q
        have e1 := bools_of rx' h1
        subst e1
        exact cr_any hc pins s σ H _ _ Q I rs ⟨l, ns, rfl, .inl hx, he.now w (by simp [RelD])⟩
    | all =>
      simp only [bltD] at hd
      cases q : lstOf L a with
      | none => rw [q] at hd; cases hd
      | some ds =>
        rw [q] at hd
        simp only [Option.map_eq_some_iff, Prod.mk.injEq] at hd
        obtain ⟨ns, h1, rfl, rfl⟩ := hd
        obtain ⟨l, ys, rfl, hx, rx'⟩ := rd_list w r1 q
        have e1 := bools_of rx' h1
        subst e1
        exact cr_all hc pins s σ H _ _ Q I rs ⟨l, ns, rfl, .inl hx, he.now w (by simp [RelD])⟩
    | sorted =>
      simp only [bltD] at hd
      cases q : lstOf L a with
      | none => rw [q] at hd; cases hd
      | some ds =>
        rw [q] at hd
        simp only at hd
        cases q2 : intsOf ds with
        | none => rw [q2] at hd; cases hd
        | some ns =>
          rw [q2] at hd
          simp only [Option.some.injEq] at hd
          have e1 : (newL lv ((sortI ns).map .int) L).1 = d := by rw [hd]
          have e2 : (newL lv ((sortI ns).map .int) L).2 = L' := by rw [hd]
          subst e1 e2
          obtain ⟨l, ys, rfl, hx, rx'⟩ := rd_list w r1 q
          obtain ⟨e1, _⟩ := ints_of rx' q2
          subst e1
          refine cr_sortedI pins s σ H _ _ Q I rs ⟨l, ns, rfl, .inl hx, fun ns' p h1 h2 hp => ?_⟩
          rw [sortI_uniq h1 h2]
          exact new_list w (relInts _) hp he
    | list =>
      simp only [bltD] at hd
      cases q : seqOf L a with
      | some ds =>
        rw [q] at hd
        simp only [Option.some.injEq] at hd
        have e1 : (newL lv ds L).1 = d := by rw [hd]
        have e2 : (newL lv ds L).2 = L' := by rw [hd]
        subst e1 e2
        obtain ⟨l, ys, rfl, hx, rx'⟩ := rd_seq w r1 q
        rw [← hK] at hx
        exact call_list_of pins s σ H _ _ Q I rs ⟨l, ys, rfl, hx, fun p hp => new_list w rx' hp he⟩
      | none =>
        rw [q] at hd
        simp only [Option.map_eq_some_iff] at hd
        obtain ⟨ks, h1, h2⟩ := hd
        have e1 : (newL lv ks L).1 = d := by rw [h2]
        have e2 : (newL lv ks L).2 = L' := by rw [h2]
        subst e1 e2
        cases a with
        | ref n =>
          simp only [keysD] at h1
          cases q3 : L[n]? with
          | none => rw [q3] at h1; cases h1
          | some o =>
            rw [q3] at h1
            cases o with
            | dic kvs =>
              simp only [Option.some.injEq] at h1
              subst h1
              obtain ⟨l, rfl, _, ⟨ys, hy, pr⟩, _⟩ := rd_ref w r1 q3
              exact call_listD hc pins s σ H _ _ Q I rs ⟨l, ys, rfl, .inl hy, fun p hp => new_list w (keys_rel pr) hp he⟩
            | _ => simp at h1
        | _ => simp [keysD] at h1
    | tuple =>
      simp only [bltD] at hd
      cases q : seqOf L a with
      | none => rw [q] at hd; cases hd
      | some ds =>
        rw [q] at hd
        simp only [Option.some.injEq, Prod.mk.injEq] at hd
        obtain ⟨rfl, rfl⟩ := hd
        by_cases ht : ∃ es, a = .tup es
        · obtain ⟨es, rfl⟩ := ht
          simp only [seqOf, Option.some.injEq] at q
          subst q
          obtain ⟨l, ys, rfl, hx, rx'⟩ := rd_tup w r1
          exact call_tuple_of pins s σ H _ _ Q I rs ⟨l, ys, rfl, .inr ⟨by rw [hK]; exact hx, he.now w r1⟩⟩
        · have e : seqOf L a = lstOf L a := by
            cases a with
            | tup es => exact absurd ⟨es, rfl⟩ ht
            | _ => rfl
          rw [e] at q
          obtain ⟨l, ys, rfl, hx, rx'⟩ := rd_list w r1 q
          exact call_tuple_of pins s σ H _ _ Q I rs ⟨l, ys, rfl, .inl ⟨.inl hx, fun p hp => new_tup w rx' hp he⟩⟩
    | int =>
      cases a with
      | int i =>
        simp only [bltD, Option.some.injEq, Prod.mk.injEq] at hd
        obtain ⟨rfl, rfl⟩ := hd
        simp only [RelD] at r1
        subst r1
        exact call_int1 pins s σ H _ _ Q I rs (.inl ⟨i, rfl, he.now w (by simp [RelD])⟩)
      | bl k =>
        simp only [bltD, Option.some.injEq, Prod.mk.injEq] at hd
        obtain ⟨rfl, rfl⟩ := hd
        simp only [RelD] at r1
        subst r1
        exact call_int1 pins s σ H _ _ Q I rs (.inr ⟨k, rfl, he.now w (by simp [RelD])⟩)
      | str z =>
        simp only [bltD] at hd
        cases q : PySem.intText? z with
        | none => rw [q] at hd; cases hd
        | some n =>
          rw [q] at hd
          simp only at hd
          split at hd
          · rename_i hz
            simp only [Option.some.injEq, Prod.mk.injEq] at hd
            obtain ⟨rfl, rfl⟩ := hd
            simp only [RelD] at r1
            subst r1
            exact call_int_str pins s σ H _ _ Q I rs ⟨z, n, rfl, q, of_decide_eq_true hz, he.now w (by simp [RelD])⟩
          · cases hd
      | _ => simp [bltD] at hd
    | str =>
      cases a with
      | int i =>
        simp only [bltD] at hd
        split at hd
        · rename_i hz
          simp only [Option.some.injEq, Prod.mk.injEq] at hd
          obtain ⟨rfl, rfl⟩ := hd
          simp only [RelD] at r1
          subst r1
          exact call_str_int pins s σ H _ _ Q I rs ⟨i, rfl, of_decide_eq_true hz, he.now w (by simp [RelD])⟩
        · cases hd
      | str z =>
        simp only [bltD, Option.some.injEq, Prod.mk.injEq] at hd
        obtain ⟨rfl, rfl⟩ := hd
        simp only [RelD] at r1
        subst r1
        exact SkE.call_str_str pins s σ H _ _ Q I rs ⟨z, rfl, he.now w (by simp [RelD])⟩
      | _ => simp [bltD] at hd
    | repr =>
      simp only [bltD, Option.map_eq_some_iff, Prod.mk.injEq] at hd
      obtain ⟨z, h1, rfl, rfl⟩ := hd
      exact repr_ok sm hK (hg rfl) hu I rx w r1 h1 (he.now w (by simp [RelD]))
  | [a, c], ra, hd =>
    obtain ⟨x, y, rfl, r1, r2⟩ := two_of ra
    cases a with
    | int i =>
      cases c with
      | int j =>
        simp only [RelD] at r1 r2
        subst r1 r2
        cases b with
        | max =>
          simp only [bltD, Option.some.injEq, Prod.mk.injEq] at hd
          obtain ⟨rfl, rfl⟩ := hd
          exact call_max2 hc pins s σ H _ _ Q I rs ⟨i, j, rfl, he.now w (by simp [RelD])⟩
        | min =>
          simp only [bltD, Option.some.injEq, Prod.mk.injEq] at hd
          obtain ⟨rfl, rfl⟩ := hd
          exact call_min2 hc pins s σ H _ _ Q I rs ⟨i, j, rfl, he.now w (by simp [RelD])⟩
        | _ => simp [bltD] at hd
      | _ => simp [bltD] at hd
    | _ => simp [bltD] at hd
  | a :: b :: c :: r, ra, hd => simp [bltD] at hd

/-- xs.extend(ys), ys any list that can be read -/
theorem ext_X : MtM X "list.extend" (fun x vs H Q => ∃ l b xs zs, x = .ref l ∧ vs = [.ref b] ∧ H l = some (.lst xs) ∧ Rd H b (.lst zs) ∧ xs.length + zs.length ≤ sizeLine ∧ Q .non (upd H l (.lst (xs ++ zs)))) := by
  intro pins s σ H x vs v us Q I rx rv h
  obtain ⟨l, b, xs, zs, rfl, rfl, hH, hB, hz, q⟩ := h
  cases rx
  obtain ⟨u, rfl, ru⟩ := rv.one
  cases ru
  obtain ⟨z, its, n, r, hl, e⟩ := I.lstM hH
  obtain ⟨z2, its2, n2, r2, hl2, e2⟩ := lstX I hB
  have hsz : its.toArray.size + its2.toArray.size ≤ sizeLine := by rw [List.size_toArray, List.size_toArray]; omega
  have hlong : ¬ (!its.toArray.isEmpty && Builtin.List.listTooLong (its.toArray.size + its2.toArray.size)) = true := by
    rw [notLongL hsz, Bool.and_false]
    exact Bool.false_ne_true
  refine call_meets F.slot_list_extend ⟨_, e, rfl⟩ F.entry_list_extend (F.args_list_extend_2 _ _)
    (AutoSeq1.list_extend_list_list_0 l its.toArray n b its2.toArray n2 hlong (by rw [List.size_toArray]; omega) (by omega)) ⟨e, e2, ?_⟩
  refine ⟨.non, _, I.lset (its' := its ++ its2) hH e (by simp) (r.append r2) ?_, rfl, q⟩
  rw [List.length_append]
  omega
/-! ### methods of built-in types -/
def rM (G : Gv) (g : D → List D → Live → Option (D × Live)) : V → List V → Hp → VK → Prop := fun x xs H Q => ∃ wd o as L d L', WOk (G := G) wd H L ∧ RelD G wd x o ∧ RelDs G wd xs as ∧ g o as L = some (d, L') ∧ End G wd d L' Q
/-- the type that a method is looked up in -/
def mthT (m : Mth) : D → String
  | .str _ => "str"
  | _ => "list"
abbrev mthN : Mth → String
  | .append => "append" | .extend => "extend" | .pop => "pop" | .insert => "insert" | .reverse => "reverse" | .remove => "remove" | .clear => "clear" | .index => "index" | .count => "count" | .join => "join" | .get => "get" | .values => "values"
theorem write_list {wd : Wd} {H : Hp} {L : Live} {n : Nat} {a : Addr} {ds es : List D} {ys : List V} {Q : VK} {d : D} {v : V} (w : WOk (G := G) wd H L) (hn : L[n]? = some (.lst ds)) (ha : wd.ι n = some a) (rs : RelDs G wd ys es) (rd : RelD G wd v d)
    (he : End G wd d (L.set n (.lst es)) Q) : Q v (upd H a (.lst ys)) := by
  obtain ⟨a', h1, h2, h3⟩ := w.live n _ hn
  rw [ha] at h1; cases h1
  obtain ⟨xs, e1, _⟩ := h2
  exact he.now (w.write hn (by simp) ha (fun y z => by rw [e1] at z; cases z) ⟨ys, upd_same, rs⟩) rd
theorem RelDs.dropLast {wd : Wd} {xs : List V} {ds : List D} (r : RelDs G wd xs ds) : RelDs G wd xs.dropLast ds.dropLast := by
  rw [List.dropLast_eq_take, List.dropLast_eq_take, RelDs.length r]
  exact RelDs.take _ r
theorem RelDs.eraseIdx {wd : Wd} {xs : List V} {ds : List D} (r : RelDs G wd xs ds) (i : Nat) : RelDs G wd (xs.eraseIdx i) (ds.eraseIdx i) := by
  rw [List.eraseIdx_eq_take_drop_succ, List.eraseIdx_eq_take_drop_succ]
  exact RelDs.append (RelDs.take _ r) (RelDs.drop _ r)
theorem findI_ok {k : Int} : ∀ {ns : List Int} {j : Nat}, findI k ns = some j → ns[j]? = some k ∧ ∀ m : Nat, m < j → ns[m]? ≠ some k
  | [], j, h => by simp [findI] at h
  | z :: r, j, h => by
    simp only [findI] at h
    split at h
    · rename_i e
      cases h
      exact ⟨by simp [e], fun m hm => by omega⟩
    · rename_i e
      simp only [Option.map_eq_some_iff] at h
      obtain ⟨i, hi, rfl⟩ := h
      obtain ⟨h1, h2⟩ := findI_ok hi
      refine ⟨by simpa using h1, fun m hm => ?_⟩
      cases m with
      | zero => simpa using e
      | succ m => simpa using h2 m (by omega)
theorem findF_ok {wd : Wd} {y : V} {a : D} (r1 : RelD G wd y a) (ha : flat a = true) : ∀ {ds : List D} {ys : List V} {j : Nat}, RelDs G wd ys ds → ds.all flat = true → findF a ds = some j → ∃ z, ys[j]? = some z ∧ L2.eqV z y = true ∧ ∀ (m : Nat) (z' : V), m < j → ys[m]? = some z' → L2.eqV z' y = false
  | [], ys, j, _, _, h => by simp [findF] at h
  | z :: r, ys, j, ry, hf, h => by
    simp only [RelDs] at ry
    obtain ⟨v, vs, rfl, rv, rvs⟩ := ry
    simp only [List.all_cons, Bool.and_eq_true] at hf
    have e := eqF_of rv r1 hf.1 ha
    simp only [findF] at h
    split at h
    · rename_i q
      cases h
      exact ⟨v, rfl, e.trans q, fun m z' hm => by omega⟩
    · rename_i q
      simp only [Option.map_eq_some_iff] at h
      obtain ⟨i, hi, rfl⟩ := h
      obtain ⟨w, h1, h2, h3⟩ := findF_ok r1 ha rvs hf.2 hi
      refine ⟨w, by simpa using h1, h2, fun m z' hm hz => ?_⟩
      cases m with
      | zero =>
        simp only [List.getElem?_cons_zero, Option.some.injEq] at hz
        subst hz
        rw [e]; simpa using q
      | succ m => exact h3 m z' (by omega) (by simpa using hz)
theorem mtl_ok (m : Mth) {pins : List (Addr × Obj)} {s : Shared} {σ : L2.St} {H : Hp} {x : V} {xs : List V} {v : Value} {us : List Value} {Q : VK} {wd : Wd} {n : Nat} {ds as : List D} {L L' : Live} {d : D} (I : Inv X pins σ H s) (rx : RelV x v) (rs : Vals xs us)
    (w : WOk (G := G) wd H L) (ro : RelD G wd x (.ref n)) (hn : L[n]? = some (.lst ds)) (ra : RelDs G wd xs as) (hg : mthD m (.ref n) as L = some (d, L')) (he : End G wd d L' Q) :
    wpAny (model X.prog X.w) X.A (call (.builtin ("list." ++ mthN m)) (v :: us)) (EP X pins σ Q) X.xe s := by
  obtain ⟨l, rfl, hl, ⟨ys, hy, ry⟩, _⟩ := rd_ref w ro hn
  have len := RelDs.length ry
  simp only [mthD, hn] at hg
  cases m with
  | append =>
    match as, ra, hg with
    | [a], ra, hg =>
      obtain ⟨y, rfl, r1⟩ := one_of ra
      simp only at hg
      split at hg
      · rename_i hz
        simp only [Option.some.injEq, Prod.mk.injEq] at hg
        obtain ⟨rfl, rfl⟩ := hg
        have hz' := of_decide_eq_true hz
        exact mt_append pins s σ H _ _ v us Q I rx rs ⟨l, ys, y, rfl, rfl, hy, by omega, write_list w hn hl (RelDs.append ry (RelDs.cons r1 RelDs.nil)) (by simp [RelD]) he⟩
      · cases hg
    | [], ra, hg => simp at hg
    | _ :: _ :: _, ra, hg => simp at hg
  | extend =>
    match as, ra, hg with
    | [a], ra, hg =>
      obtain ⟨y, rfl, r1⟩ := one_of ra
      simp only at hg
      cases q : lstOf L a with
      | none => rw [q] at hg; cases hg
      | some es =>
        rw [q] at hg
        simp only at hg
        split at hg
        · rename_i hz
          simp only [Option.some.injEq, Prod.mk.injEq] at hg
          obtain ⟨rfl, rfl⟩ := hg
          have hz' : ds.length + es.length ≤ sizeLine := of_decide_eq_true hz
          obtain ⟨l2, zs, rfl, hx, rx'⟩ := rd_list w r1 q
          have len2 := RelDs.length rx'
          exact ext_X pins s σ H _ _ v us Q I rx rs ⟨l, l2, ys, zs, rfl, rfl, hy, hx, by omega, write_list w hn hl (RelDs.append ry rx') (by simp [RelD]) he⟩
        · cases hg
    | [], ra, hg => simp at hg
    | _ :: _ :: _, ra, hg => simp at hg
  | pop =>
    match as, ra, hg with
    | [], ra, hg =>
      simp only [RelDs] at ra
      subst ra
      simp only at hg
      cases q : ds.getLast? with
      | none => rw [q] at hg; cases hg
      | some z =>
        rw [q] at hg
        simp only [Option.some.injEq, Prod.mk.injEq] at hg
        obtain ⟨rfl, rfl⟩ := hg
        rw [List.getLast?_eq_getElem?] at q
        obtain ⟨y, h1, h2⟩ := RelDs.get ry q
        exact mt_pop pins s σ H _ _ v us Q I rx rs ⟨l, ys, y, rfl, rfl, hy, by rw [len]; exact h1, write_list w hn hl (RelDs.dropLast ry) h2 he⟩
    | [a], ra, hg =>
      obtain ⟨y, rfl, r1⟩ := one_of ra
      cases a with
      | int i =>
        simp only at hg
        cases q : ixN ds.length i with
        | none => rw [q] at hg; cases hg
        | some j =>
          rw [q] at hg
          simp only [Option.map_eq_some_iff, Prod.mk.injEq] at hg
          obtain ⟨z, h1, rfl, rfl⟩ := hg
          simp only [RelD] at r1
          subst r1
          obtain ⟨y, h3, h4⟩ := RelDs.get ry h1
          obtain ⟨k1, k2, k3, k4⟩ := ixN_seq q
          have big := (lstX I (.inl hy)).1
          have hs : sizeLine = 16777216 := sizeLine_eq
          exact mt_popAt pins s σ H _ _ v us Q I rx rs ⟨l, ys, i, j, y, rfl, rfl, hy, by omega, by omega, by rw [len]; exact k1, h3, write_list w hn hl (RelDs.eraseIdx ry j) h4 he⟩
      | _ => simp at hg
    | _ :: _ :: _, ra, hg => simp at hg
  | insert =>
    match as, ra, hg with
    | [a, b], ra, hg =>
      obtain ⟨y, z, rfl, r1, r2⟩ := two_of ra
      cases a with
      | int i =>
        simp only at hg
        split at hg
        · rename_i hz
          simp only [Bool.and_eq_true, decide_eq_true_eq] at hz
          simp only [Option.some.injEq, Prod.mk.injEq] at hg
          obtain ⟨rfl, rfl⟩ := hg
          simp only [RelD] at r1
          subst r1
          refine mt_insert pins s σ H _ _ v us Q I rx rs ⟨l, ys, i, z, rfl, rfl, hy, by omega, hz.1.2, hz.2, write_list w hn hl ?_ (by simp [RelD]) he⟩
          exact RelDs.append (RelDs.append (RelDs.take _ ry) (RelDs.cons r2 RelDs.nil)) (RelDs.drop _ ry)
        · cases hg
      | _ => simp at hg
    | [], ra, hg => simp at hg
    | [a], ra, hg => cases a <;> simp at hg
    | _ :: _ :: _ :: _, ra, hg => simp at hg
  | reverse =>
    match as, ra, hg with
    | [], ra, hg =>
      simp only [RelDs] at ra
      subst ra
      simp only [Option.some.injEq, Prod.mk.injEq] at hg
      obtain ⟨rfl, rfl⟩ := hg
      exact mt_reverse pins s σ H _ _ v us Q I rx rs ⟨l, ys, rfl, rfl, hy, write_list w hn hl (RelDs.reverse ry) (by simp [RelD]) he⟩
    | _ :: _, ra, hg => simp at hg
  | clear =>
    match as, ra, hg with
    | [], ra, hg =>
      simp only [RelDs] at ra
      subst ra
      simp only [Option.some.injEq, Prod.mk.injEq] at hg
      obtain ⟨rfl, rfl⟩ := hg
      exact mt_clear pins s σ H _ _ v us Q I rx rs ⟨l, ys, rfl, rfl, hy, write_list w hn hl RelDs.nil (by simp [RelD]) he⟩
    | _ :: _, ra, hg => simp at hg
  | remove =>
    match as, ra, hg with
    | [a], ra, hg =>
      obtain ⟨y, rfl, r1⟩ := one_of ra
      cases a with
      | int k =>
        simp only at hg
        cases q : intsOf ds with
        | none => rw [q] at hg; cases hg
        | some ns =>
          rw [q] at hg
          simp only at hg
          cases q2 : findI k ns with
          | none => rw [q2] at hg; cases hg
          | some j =>
            rw [q2] at hg
            simp only [Option.some.injEq, Prod.mk.injEq] at hg
            obtain ⟨rfl, rfl⟩ := hg
            simp only [RelD] at r1
            subst r1
            obtain ⟨rfl, rfl⟩ := ints_of ry q
            obtain ⟨f1, f2⟩ := findI_ok q2
            refine mt_remove pins s σ H _ _ v us Q I rx rs ⟨l, ns, k, j, rfl, rfl, hy, f1, f2, write_list w hn hl ?_ (by simp [RelD]) he⟩
            have e := RelDs.eraseIdx ry j
            have e2 : (ns.map V.int).eraseIdx j = (ns.eraseIdx j).map V.int := by
              rw [List.eraseIdx_eq_take_drop_succ, List.eraseIdx_eq_take_drop_succ, List.map_append, List.map_take, List.map_drop]
            rw [e2] at e
            exact e
      | _ => simp at hg
    | [], ra, hg => simp at hg
    | _ :: _ :: _, ra, hg => simp at hg
  | index =>
    match as, ra, hg with
    | [a], ra, hg =>
      obtain ⟨y, rfl, r1⟩ := one_of ra
      simp only at hg
      split at hg
      case isFalse => cases hg
      rename_i hc
      rw [Bool.and_eq_true] at hc
      simp only [Option.map_eq_some_iff, Prod.mk.injEq] at hg
      obtain ⟨j, hj, rfl, rfl⟩ := hg
      obtain ⟨z, f1, f2, f3⟩ := findF_ok r1 hc.1 ry hc.2 hj
      exact mt_index pins s σ H _ _ v us Q I rx rs ⟨l, ys, y, j, z, rfl, rfl, .inl (.inl hy), flat_of r1 hc.1, flats_of ry hc.2, f1, f2, f3, he.now w (by simp [RelD])⟩
    | [], ra, hg => simp at hg
    | _ :: _ :: _, ra, hg => simp at hg
  | _ => simp at hg
theorem mts_ok (m : Mth) (hK : X.K = G.K) {pins : List (Addr × Obj)} {s : Shared} {σ : L2.St} {H : Hp} {x : V} {xs : List V} {v : Value} {us : List Value} {Q : VK} {wd : Wd} {sep : Str} {as : List D} {L L' : Live} {d : D} (I : Inv X pins σ H s) (rx : RelV x v) (rs : Vals xs us)
    (w : WOk (G := G) wd H L) (ro : RelD G wd x (.str sep)) (ra : RelDs G wd xs as) (hg : mthD m (.str sep) as L = some (d, L')) (he : End G wd d L' Q) :
    wpAny (model X.prog X.w) X.A (call (.builtin ("str." ++ mthN m)) (v :: us)) (EP X pins σ Q) X.xe s := by
  simp only [RelD] at ro
  subst ro
  simp only [mthD] at hg
  cases m with
  | join =>
    match as, ra, hg with
    | [a], ra, hg =>
      obtain ⟨y, rfl, r1⟩ := one_of ra
      simp only at hg
      cases q : seqOf L a with
      | none => rw [q] at hg; cases hg
      | some es =>
        rw [q] at hg
        simp only at hg
        cases q2 : strsOf es with
        | none => rw [q2] at hg; cases hg
        | some zs =>
          rw [q2] at hg
          simp only at hg
          split at hg
          · rename_i hz
            simp only [Option.some.injEq, Prod.mk.injEq] at hg
            obtain ⟨rfl, rfl⟩ := hg
            obtain ⟨l2, ws, rfl, hx, rx'⟩ := rd_seq w r1 q
            have e1 := strs_of rx' q2
            subst e1
            rw [← hK] at hx
            exact mt_join pins s σ H _ _ v us Q I rx rs ⟨sep, l2, zs, rfl, rfl, hx, of_decide_eq_true hz, he.now w (by simp [RelD])⟩
          · cases hg
    | [], ra, hg => simp at hg
    | _ :: _ :: _, ra, hg => simp at hg
  | _ => simp at hg
end
end MP
set_option maxHeartbeats 4000000
/-! MP: lending, cleaning -/
namespace MP
open PySem PySem.Spec PyProof.Rows L2 Classical
section
variable {G : Gv} {wd wd2 : Wd} {H H2 : Hp} {L L' : Live} {ids : List Nat}
theorem mapIx_get {α β : Type} (f : Nat → α → β) : ∀ (l : List α) (i j : Nat), (mapIx f i l)[j]? = (l[j]?).map (f (i + j))
  | [], i, j => by simp [mapIx]
  | x :: r, i, 0 => by simp [mapIx]
  | x :: r, i, j + 1 => by
    simp only [mapIx, List.getElem?_cons_succ]
    rw [mapIx_get f r (i + 1) j]
    congr 2
    omega
theorem mapIx_length {α β : Type} (f : Nat → α → β) : ∀ (l : List α) (i : Nat), (mapIx f i l).length = l.length
  | [], i => rfl
  | x :: r, i => by simp [mapIx, mapIx_length f r]
theorem Rd.dom {F : Hp} {a : Addr} {o : HO} (r : Rd F a o) : ∃ u, F a = some u := by
  rcases r with r | ⟨u, r⟩
  · exact ⟨_, r⟩
  · exact ⟨_, r⟩
theorem mapO_spec {α β : Type} {f : α → Option β} : ∀ {l : List α} {r : List β}, mapO f l = some r → Paired (fun x y => f x = some y) l r
  | [], r, h => by simp only [mapO, Option.some.injEq] at h; subst h; exact .nil
  | x :: l, r, h => by
    simp only [mapO] at h
    cases q : f x with
    | none => rw [q] at h; cases h
    | some y =>
      rw [q] at h
      cases q2 : mapO f l with
      | none => rw [q2] at h; cases h
      | some ys =>
        rw [q2] at h; simp only [Option.some.injEq] at h; subst h
        exact .cons q (mapO_spec q2)
theorem relDs_mapO {wd wd' : Wd} {f : D → Option D} : ∀ {ds es : List D} {xs : List V}, mapO f ds = some es → RelDs G wd xs ds → (∀ d e v, d ∈ ds → f d = some e → RelD G wd v d → RelD G wd' v e) → RelDs G wd' xs es
  | [], es, xs, h, r, k => by simp only [mapO, Option.some.injEq] at h; subst h; simpa [RelDs] using r
  | d :: ds, es, xs, h, r, k => by
    simp only [RelDs] at r
    obtain ⟨v, vs, rfl, r1, r2⟩ := r
    simp only [mapO] at h
    cases q : f d with
    | none => rw [q] at h; cases h
    | some y =>
      rw [q] at h
      cases q2 : mapO f ds with
      | none => rw [q2] at h; cases h
      | some ys =>
        rw [q2] at h; simp only [Option.some.injEq] at h; subst h
        exact RelDs.cons (k d y v List.mem_cons_self q r1) (relDs_mapO q2 r2 fun d e v hd => k d e v (List.mem_cons_of_mem _ hd))

/-! ### lending -/
def LentA (wd : Wd) (ids : List Nat) (a : Addr) : Prop := ∃ k ∈ ids, wd.ι k = some a
noncomputable def Wd.lend (wd : Wd) (H : Hp) (ids : List Nat) : Wd := { ι := wd.ι, F := fun a => if LentA wd ids a then H a else wd.F a, bor := wd.bor ++ ids.filterMap wd.ι }
theorem mem_lent {a : Addr} : a ∈ ids.filterMap wd.ι ↔ LentA wd ids a := by
  simp [LentA, List.mem_filterMap]
theorem lent_none (w : WOk (G := G) wd H L) (hl : ∀ k ∈ ids, ∃ ds, L[k]? = some (.lst ds)) {a : Addr} (h : LentA wd ids a) : wd.F a = none := by
  obtain ⟨k, hk, e⟩ := h
  obtain ⟨ds, e2⟩ := hl k hk
  obtain ⟨a', h1, _, h3⟩ := w.live k _ e2
  rw [e] at h1; cases h1
  exact h3 (by simp)
theorem lend_F (w : WOk (G := G) wd H L) (hl : ∀ k ∈ ids, ∃ ds, L[k]? = some (.lst ds)) {a : Addr} {o : HO} (h : wd.F a = some o) : (wd.lend H ids).F a = some o := by
  show (if LentA wd ids a then H a else wd.F a) = some o
  rw [if_neg (fun z => by rw [lent_none w hl z] at h; cases h)]; exact h
mutual
theorem lend_rel (w : WOk (G := G) wd H L) (hl : ∀ k ∈ ids, ∃ ds, L[k]? = some (.lst ds)) : ∀ {d : D} {v : V}, RelD G wd v d → RelD G (wd.lend H ids) v d
  | .non, v, h => by simpa [RelD] using h
  | .bl b, v, h => by simpa [RelD] using h
  | .int i, v, h => by simpa [RelD] using h
  | .str s, v, h => by simpa [RelD] using h
  | .tup ds, v, h => by
    simp only [RelD] at h ⊢
    obtain ⟨a, xs, h1, h2, h3⟩ := h
    exact ⟨a, xs, h1, SqT.mono (fun _ _ => lend_F w hl) h2, lend_rels w hl h3⟩
  | .lst t ds, v, h => by
    simp only [RelD] at h ⊢
    obtain ⟨a, xs, h1, h2, h3, h4, h5⟩ := h
    refine ⟨a, xs, h1, Rd.mono (fun _ _ => lend_F w hl) h2, lend_rels w hl h3, fun e hb => ?_, h5⟩
    rcases List.mem_append.mp hb with hb | hb
    · exact h4 e hb
    · obtain ⟨u, hu⟩ := Rd.dom h2
      rw [lent_none w hl (mem_lent.mp hb)] at hu; cases hu
  | .ref n, v, h => by simpa [RelD, Wd.lend] using h
  | .dct ks ds, v, h => by
    simp only [RelD] at h ⊢
    obtain ⟨a, ys, h1, h2, h3, h4⟩ := h
    exact ⟨a, ys, h1, lend_F w hl h2, h3, lend_rels w hl h4⟩
theorem lend_rels (w : WOk (G := G) wd H L) (hl : ∀ k ∈ ids, ∃ ds, L[k]? = some (.lst ds)) : ∀ {ds : List D} {xs : List V}, RelDs G wd xs ds → RelDs G (wd.lend H ids) xs ds
  | [], xs, h => by simpa [RelDs] using h
  | d :: ds, xs, h => by
    simp only [RelDs] at h ⊢
    obtain ⟨v, vs, h1, h2, h3⟩ := h
    exact ⟨v, vs, h1, lend_rel w hl h2, lend_rels w hl h3⟩
end
theorem idsF_lst : ∀ {m : Nat} {d : D} {k : Nat}, k ∈ idsF L m d → ∃ ds, L[k]? = some (.lst ds)
  | 0, d, k, h => by simp [idsF] at h
  | m + 1, d, k, h => by
    have ih : ∀ {ds : List D}, k ∈ ds.flatMap (idsF L m) → ∃ ds, L[k]? = some (.lst ds) := fun {ds} h => by
      obtain ⟨x, _, h⟩ := List.mem_flatMap.mp h
      exact idsF_lst h
    simp only [idsF] at h
    split at h
    · simp at h
    · cases d with
      | ref j =>
        simp only at h
        cases q : L[j]? with
        | none => rw [q] at h; simp at h
        | some o =>
          rw [q] at h
          cases o with
          | lst ds =>
            simp only [List.mem_cons] at h
            rcases h with rfl | h
            · exact ⟨ds, q⟩
            · exact ih h
          | _ => simp at h
      | tup ds => exact ih h
      | lst t ds => exact ih h
      | dct ks ds => exact ih h
      | _ => simp at h
theorem idsAs_lst : ∀ {lv : List Bool} {ds : List D} {k : Nat}, k ∈ idsAs L lv ds → ∃ ds, L[k]? = some (.lst ds)
  | lv, [], k, h => by simp [idsAs] at h
  | lv, d :: ds, k, h => by
    simp only [idsAs, List.mem_append] at h
    rcases h with h | h
    · split at h
      · simp at h
      · exact idsF_lst h
    · exact idsAs_lst h
theorem lendF_rel (w : WOk (G := G) wd H L) (hl : ∀ k ∈ ids, ∃ ds, L[k]? = some (.lst ds)) : ∀ {m : Nat} {d e : D} {v : V}, lendF L m d = some e → (∀ k ∈ idsF L m d, k ∈ ids) → RelD G wd v d → RelD G (wd.lend H ids) v e
  | 0, d, e, v, h, hi, r => by simp [lendF] at h
  | m + 1, d, e, v, h, hi, r => by
    have ih : ∀ {ds es : List D} {xs : List V}, mapO (lendF L m) ds = some es → (∀ k ∈ ds.flatMap (idsF L m), k ∈ ids) → RelDs G wd xs ds → RelDs G (wd.lend H ids) xs es := fun {ds es xs} h hi r =>
      relDs_mapO h r fun d e v hd q r => lendF_rel w hl q (fun k hk => hi k (List.mem_flatMap.mpr ⟨d, hd, hk⟩)) r
    simp only [lendF] at h
    simp only [idsF] at hi
    split at h
    · simp only [Option.some.injEq] at h; subst h
      exact lend_rel w hl r
    · rename_i hn
      rw [if_neg hn] at hi
      cases d with
      | ref j =>
        simp only at h hi
        cases q : L[j]? with
        | none => rw [q] at h; cases h
        | some o =>
          rw [q] at h hi
          cases o with
          | lst ds =>
            simp only [Option.map_eq_some_iff] at h
            obtain ⟨es, h1, rfl⟩ := h
            simp only [List.mem_cons] at hi
            obtain ⟨a, rfl, ha, ⟨xs, hx, rx⟩, _⟩ := rd_ref w r q
            simp only [RelD]
            refine ⟨a, xs, rfl, .inl ?_, ih h1 (fun k hk => hi k (.inr hk)) rx, by simp, fun k e => ?_⟩
            · show (if LentA wd ids a then H a else wd.F a) = _
              rw [if_pos ⟨j, hi j (.inl rfl), ha⟩]; exact hx
            · cases e; exact ha
          | dic kvs => simp only [Option.some.injEq] at h; subst h; exact lend_rel w hl r
          | ins C fs => simp only [Option.some.injEq] at h; subst h; exact lend_rel w hl r
          | gone => simp at h
      | tup ds =>
        simp only [Option.map_eq_some_iff] at h
        obtain ⟨es, h1, rfl⟩ := h
        simp only [RelD] at r ⊢
        obtain ⟨a, xs, h2, h3, h4⟩ := r
        exact ⟨a, xs, h2, SqT.mono (fun _ _ => lend_F w hl) h3, ih h1 hi h4⟩
      | lst t ds =>
        simp only [Option.map_eq_some_iff] at h
        obtain ⟨es, h1, rfl⟩ := h
        have r' := lend_rel w hl r
        simp only [RelD] at r r' ⊢
        obtain ⟨a, xs, e2, h3, h4, _⟩ := r
        obtain ⟨a', xs', e2', h3', h4', h5', h6'⟩ := r'
        rw [e2] at e2'; cases e2'
        exact ⟨a, xs, e2, Rd.mono (fun _ _ => lend_F w hl) h3, ih h1 hi h4, h5', h6'⟩
      | dct ks ds =>
        simp only [Option.map_eq_some_iff] at h
        obtain ⟨es, h1, rfl⟩ := h
        simp only [RelD] at r ⊢
        obtain ⟨a, ys, h2, h3, h4, h5⟩ := r
        exact ⟨a, ys, h2, lend_F w hl h3, h4, ih h1 hi h5⟩
      | non => simp only [Option.some.injEq] at h; subst h; exact lend_rel w hl r
      | bl b => simp only [Option.some.injEq] at h; subst h; exact lend_rel w hl r
      | int b => simp only [Option.some.injEq] at h; subst h; exact lend_rel w hl r
      | str b => simp only [Option.some.injEq] at h; subst h; exact lend_rel w hl r
theorem lendAs_rel (w : WOk (G := G) wd H L) (hl : ∀ k ∈ ids, ∃ ds, L[k]? = some (.lst ds)) : ∀ {lv : List Bool} {ds es : List D} {xs : List V}, lendAs L lv ds = some es → (∀ k ∈ idsAs L lv ds, k ∈ ids) → RelDs G wd xs ds → RelDs G (wd.lend H ids) xs es
  | lv, [], es, xs, h, hi, r => by simp only [lendAs, Option.some.injEq] at h; subst h; simpa [RelDs] using r
  | lv, d :: ds, es, xs, h, hi, r => by
    simp only [RelDs] at r
    obtain ⟨v, vs, rfl, r1, r2⟩ := r
    simp only [lendAs] at h
    simp only [idsAs, List.mem_append] at hi
    cases q : (if lv.headD false = true then some d else lendF L 12 d) with
    | none => rw [q] at h; cases h
    | some e =>
      rw [q] at h
      simp only at h
      cases q2 : lendAs L lv.tail ds with
      | none => rw [q2] at h; cases h
      | some es' =>
        rw [q2] at h; simp only [Option.some.injEq] at h; subst h
        refine RelDs.cons ?_ (lendAs_rel w hl q2 (fun k hk => hi k (.inr hk)) r2)
        split at q
        · simp only [Option.some.injEq] at q; subst q
          exact lend_rel w hl r1
        · rename_i hb
          refine lendF_rel w hl q (fun k hk => hi k (.inl ?_)) r1
          rw [if_neg hb]; exact hk
theorem lendAs_length : ∀ {lv : List Bool} {ds es : List D}, lendAs L lv ds = some es → es.length = ds.length
  | lv, [], es, h => by simp only [lendAs, Option.some.injEq] at h; subst h; rfl
  | lv, d :: ds, es, h => by
    simp only [lendAs] at h
    cases q : (if lv.headD false = true then some d else lendF L 12 d) with
    | none => rw [q] at h; cases h
    | some e =>
      rw [q] at h
      simp only at h
      cases q2 : lendAs L lv.tail ds with
      | none => rw [q2] at h; cases h
      | some es' =>
        rw [q2] at h; simp only [Option.some.injEq] at h; subst h
        simp [lendAs_length q2]
theorem relO_of {wd wd' : Wd} {H H' : Hp} {a : Addr} (k : ∀ d v, RelD G wd v d → RelD G wd' v d) (ks : ∀ ds xs, RelDs G wd xs ds → RelDs G wd' xs ds) (hh : H' = H) : ∀ {o : LO}, RelO (G := G) wd H a o → RelO (G := G) wd' H' a o
  | .lst ds, ⟨xs, h1, h2⟩ => ⟨xs, by rw [hh]; exact h1, ks _ _ h2⟩
  | .dic kvs, ⟨ys, h1, h2⟩ => ⟨ys, by rw [hh]; exact h1, Paired.mapP h2 fun _ _ h => ⟨h.1, k _ _ h.2⟩⟩
  | .ins C fs, ⟨ca, dx, gs, h0, h1, h2, h3⟩ => ⟨ca, dx, gs, h0, by rw [hh]; exact h1, by rw [hh]; exact h2, Paired.mapP h3 fun _ _ h => ⟨h.1, k _ _ h.2⟩⟩
  | .gone, _ => True.intro
theorem lend_ok (w : WOk (G := G) wd H L) (hl : ∀ k ∈ ids, ∃ ds, L[k]? = some (.lst ds)) : WOk (G := G) (wd.lend H ids) H (maskL ids L) := by
  refine ⟨fun a o h => ?_, fun n o h => ?_, fun n a h => ?_, w.inj, fun a ha => ?_, fun a o h => ?_, w.there⟩
  · have h' : (if LentA wd ids a then H a else wd.F a) = some o := h
    split at h'
    · exact h'
    · exact w.sub _ _ h'
  · unfold maskL at h
    rw [mapIx_get, Option.map_eq_some_iff] at h
    obtain ⟨u, hu, e⟩ := h
    rw [Nat.zero_add] at e
    obtain ⟨a, h1, h2, h3⟩ := w.live n u hu
    refine ⟨a, h1, ?_, fun g => ?_⟩
    · split at e
      · subst e; exact True.intro
      · subst e; exact relO_of (fun _ _ => lend_rel w hl) (fun _ _ => lend_rels w hl) rfl h2
    · split at e
      · exact absurd e.symm g
      · rename_i hn
        subst e
        show (if LentA wd ids a then H a else wd.F a) = none
        rw [if_neg (fun ⟨k, hk, e⟩ => hn (w.inj _ _ _ e h1 ▸ hk))]
        exact h3 g
  · unfold maskL; rw [mapIx_length]; exact w.dom n a h
  · rcases List.mem_append.mp ha with ha | ha
    · obtain ⟨o, ho⟩ := w.bor a ha
      exact ⟨o, lend_F w hl ho⟩
    · have hL := mem_lent.mp ha
      obtain ⟨k, _, e⟩ := hL
      obtain ⟨o, ho⟩ := w.there k a e
      refine ⟨o, ?_⟩
      show (if LentA wd ids a then H a else wd.F a) = some o
      rw [if_pos (mem_lent.mp ha)]; exact ho
  · have h' : (if LentA wd ids a then H a else wd.F a) = some o := h
    split at h'
    · rename_i hL
      obtain ⟨k, hk, e⟩ := hL
      obtain ⟨ds, e2⟩ := hl k hk
      obtain ⟨a', g1, ⟨xs, g2, _⟩, _⟩ := w.live k _ e2
      rw [e] at g1; cases g1
      rw [g2] at h'; cases h'
      exact .inl ⟨xs, rfl⟩
    · exact w.seq _ _ h'

/-! ### taking back -/
noncomputable def Wd.unlend (wd wd2 : Wd) (ids : List Nat) : Wd := { ι := wd2.ι, F := fun a => if LentA wd ids a then none else wd2.F a, bor := wd.bor }
theorem unlend_ext (w : WOk (G := G) wd H L) (hl : ∀ k ∈ ids, ∃ ds, L[k]? = some (.lst ds)) (e : Ext (wd.lend H ids) wd2) : Ext wd (wd.unlend wd2 ids) := by
  refine ⟨fun n a h => e.ι n a h, fun a o h => ?_, rfl, fun n a h => (e.new n a h).elim .inl fun g => .inr ?_⟩
  · show (if LentA wd ids a then none else wd2.F a) = some o
    rw [if_neg (fun z => by rw [lent_none w hl z] at h; cases h)]
    exact e.F _ _ (lend_F w hl h)
  · cases q : wd.F a with
    | none => rfl
    | some o => rw [lend_F w hl q] at g; cases g
theorem unlend_F {a : Addr} {o : HO} (h : wd2.F a = some o) (n : ¬ LentA wd ids a) : (wd.unlend wd2 ids).F a = some o := by
  show (if LentA wd ids a then none else wd2.F a) = some o
  rw [if_neg n]; exact h
theorem unlend_Rd {a : Addr} {o : HO} (r : Rd wd2.F a o) (n : ¬ LentA wd ids a) : Rd (wd.unlend wd2 ids).F a o := by
  rcases r with r | ⟨u, r⟩
  · exact .inl (unlend_F r n)
  · exact .inr ⟨u, unlend_F r n⟩
theorem lent_lst (w : WOk (G := G) wd H L) (hl : ∀ k ∈ ids, ∃ ds, L[k]? = some (.lst ds)) (e : Ext (wd.lend H ids) wd2) {a : Addr} (h : LentA wd ids a) : ∃ xs, wd2.F a = some (.lst xs) := by
  obtain ⟨k, hk, e1⟩ := h
  obtain ⟨ds, e2⟩ := hl k hk
  obtain ⟨a', g1, ⟨xs, g2, _⟩, _⟩ := w.live k _ e2
  rw [e1] at g1; cases g1
  refine ⟨xs, e.F _ _ ?_⟩
  show (if LentA wd ids a then H a else wd.F a) = _
  rw [if_pos ⟨k, hk, e1⟩]; exact g2
mutual
theorem th_rel (w : WOk (G := G) wd H L) (hl : ∀ k ∈ ids, ∃ ds, L[k]? = some (.lst ds)) (e : Ext (wd.lend H ids) wd2) (w2 : WOk (G := G) wd2 H2 L') : ∀ {d : D} {v : V}, RelD G wd2 v d → RelD G (wd.unlend wd2 ids) v (th ids d)
  | .non, v, h => by simpa [RelD, th] using h
  | .bl b, v, h => by simpa [RelD, th] using h
  | .int i, v, h => by simpa [RelD, th] using h
  | .str s, v, h => by simpa [RelD, th] using h
  | .ref n, v, h => by simpa [RelD, th, Wd.unlend] using h
  | .dct ks ds, v, h => by
    simp only [RelD, th] at h ⊢
    obtain ⟨a, ys, h1, h2, h3, h4⟩ := h
    refine ⟨a, ys, h1, ?_, h3, ths_rel w hl e w2 h4⟩
    show (if LentA wd ids a then none else wd2.F a) = _
    rw [if_neg fun z => ?_]
    · exact h2
    · obtain ⟨xs, hx⟩ := lent_lst w hl e z
      rw [hx] at h2; cases h2
  | .tup ds, v, h => by
    simp only [RelD, th] at h ⊢
    obtain ⟨a, xs, h1, h2, h3⟩ := h
    refine ⟨a, xs, h1, ?_, ths_rel w hl e w2 h3⟩
    rcases h2 with r | r
    · refine .inl (unlend_Rd r fun z => ?_)
      obtain ⟨ys, hy⟩ := lent_lst w hl e z
      rcases r with r | ⟨u, r⟩
      · rw [hy] at r; cases r
      · rw [hy] at r; cases r
    · exact .inr r
  | .lst t ds, v, h => by
    cases t with
    | zero =>
      simp only [RelD, th] at h ⊢
      obtain ⟨a, xs, h1, h2, h3, h4, h5⟩ := h
      have hb := h4 (by trivial)
      rw [e.bor] at hb
      refine ⟨a, xs, h1, unlend_Rd h2 fun z => hb (List.mem_append_right _ (mem_lent.mpr z)), ths_rel w hl e w2 h3, fun _ z => hb (List.mem_append_left _ z), fun k hk => by cases hk⟩
    | succ k =>
      simp only [RelD] at h
      obtain ⟨a, xs, h1, h2, h3, h4, h5⟩ := h
      simp only [th]
      split
      · simp only [RelD]
        exact ⟨a, h5 k rfl, h1⟩
      · rename_i hn
        simp only [RelD]
        refine ⟨a, xs, h1, unlend_Rd h2 fun ⟨j, hj, ej⟩ => ?_, ths_rel w hl e w2 h3, by simp, h5⟩
        exact hn (w2.inj _ _ _ (e.ι j a ej) (h5 k rfl) ▸ hj)
theorem ths_rel (w : WOk (G := G) wd H L) (hl : ∀ k ∈ ids, ∃ ds, L[k]? = some (.lst ds)) (e : Ext (wd.lend H ids) wd2) (w2 : WOk (G := G) wd2 H2 L') : ∀ {ds : List D} {xs : List V}, RelDs G wd2 xs ds → RelDs G (wd.unlend wd2 ids) xs (ths ids ds)
  | [], xs, h => by simpa [RelDs, ths] using h
  | d :: ds, xs, h => by
    simp only [RelDs, ths] at h ⊢
    obtain ⟨v, vs, h1, h2, h3⟩ := h
    exact ⟨v, vs, h1, th_rel w hl e w2 h2, ths_rel w hl e w2 h3⟩
end
mutual
theorem th_id (w : WOk (G := G) wd H L) (hl : ∀ k ∈ ids, ∃ ds, L[k]? = some (.lst ds)) : ∀ {d : D} {v : V}, RelD G wd v d → th ids d = d
  | .non, v, h => rfl
  | .bl b, v, h => rfl
  | .int i, v, h => rfl
  | .str s, v, h => rfl
  | .ref n, v, h => rfl
  | .dct ks ds, v, h => by
    simp only [RelD] at h
    obtain ⟨a, ys, h1, h2, h3, h4⟩ := h
    simp only [th, ths_id w hl h4]
  | .tup ds, v, h => by
    simp only [RelD] at h
    obtain ⟨a, xs, h1, h2, h3⟩ := h
    simp only [th, ths_id w hl h3]
  | .lst t ds, v, h => by
    simp only [RelD] at h
    obtain ⟨a, xs, h1, h2, h3, h4, h5⟩ := h
    cases t with
    | zero => simp only [th, ths_id w hl h3]
    | succ k =>
      simp only [th, ths_id w hl h3]
      rw [if_neg fun hk => ?_]
      obtain ⟨u, hu⟩ := Rd.dom h2
      rw [lent_none w hl ⟨k, hk, h5 k rfl⟩] at hu; cases hu
theorem ths_id (w : WOk (G := G) wd H L) (hl : ∀ k ∈ ids, ∃ ds, L[k]? = some (.lst ds)) : ∀ {ds : List D} {xs : List V}, RelDs G wd xs ds → ths ids ds = ds
  | [], xs, h => rfl
  | d :: ds, xs, h => by
    simp only [RelDs] at h
    obtain ⟨v, vs, h1, h2, h3⟩ := h
    simp only [ths, th_id w hl h2, ths_id w hl h3]
end
theorem paired_map_r {α β γ : Type} {P : α → β → Prop} {R : α → γ → Prop} {f : β → γ} : ∀ {l : List α} {m : List β}, Paired P l m → (∀ a b, P a b → R a (f b)) → Paired R l (m.map f)
  | _, _, .nil, _ => .nil
  | _, _, .cons r t, k => .cons (k _ _ r) (paired_map_r t k)
theorem paired_map_id {α β : Type} {P : α → β → Prop} {f : β → β} : ∀ {l : List α} {m : List β}, Paired P l m → (∀ a b, P a b → f b = b) → m.map f = m
  | _, _, .nil, _ => rfl
  | _, _, .cons r t, k => by rw [List.map_cons, k _ _ r, paired_map_id t k]
theorem thO_rel (w : WOk (G := G) wd H L) (hl : ∀ k ∈ ids, ∃ ds, L[k]? = some (.lst ds)) (e : Ext (wd.lend H ids) wd2) (w2 : WOk (G := G) wd2 H2 L') {a : Addr} : ∀ {o : LO}, RelO (G := G) wd2 H2 a o → RelO (G := G) (wd.unlend wd2 ids) H2 a (thO ids o)
  | .lst ds, ⟨xs, h1, h2⟩ => ⟨xs, h1, ths_rel w hl e w2 h2⟩
  | .dic kvs, ⟨ys, h1, h2⟩ => ⟨ys, h1, paired_map_r h2 fun _ _ h => ⟨h.1, th_rel w hl e w2 h.2⟩⟩
  | .ins C fs, ⟨ca, dx, gs, h0, h1, h2, h3⟩ => ⟨ca, dx, gs, h0, h1, h2, paired_map_r h3 fun _ _ h => ⟨h.1, th_rel w hl e w2 h.2⟩⟩
  | .gone, _ => True.intro
theorem thO_id (w : WOk (G := G) wd H L) (hl : ∀ k ∈ ids, ∃ ds, L[k]? = some (.lst ds)) {a : Addr} : ∀ {o : LO}, RelO (G := G) wd H a o → thO ids o = o
  | .lst ds, ⟨xs, h1, h2⟩ => by simp only [thO, ths_id w hl h2]
  | .dic kvs, ⟨ys, h1, h2⟩ => by
    simp only [thO]
    rw [paired_map_id h2 fun p q h => ?_]
    show (q.1, th ids q.2) = q
    rw [th_id w hl h.2]
  | .ins C fs, ⟨ca, dx, gs, h0, h1, h2, h3⟩ => by
    simp only [thO]
    rw [paired_map_id h3 fun p q h => ?_]
    show (q.1, th ids q.2) = q
    rw [th_id w hl h.2]
  | .gone, _ => rfl
theorem unlend_ok (w : WOk (G := G) wd H L) (hl : ∀ k ∈ ids, ∃ ds, L[k]? = some (.lst ds)) (e : Ext (wd.lend H ids) wd2) (w2 : WOk (G := G) wd2 H2 L') : WOk (G := G) (wd.unlend wd2 ids) H2 (backL ids L L') := by
  refine ⟨fun a o h => ?_, fun n o h => ?_, fun n a h => ?_, w2.inj, fun a ha => ?_, fun a o h => ?_, w2.there⟩
  · have h' : (if LentA wd ids a then none else wd2.F a) = some o := h
    split at h'
    · cases h'
    · exact w2.sub _ _ h'
  · unfold backL at h
    rw [mapIx_get, Option.map_eq_some_iff] at h
    obtain ⟨u, hu, q⟩ := h
    rw [Nat.zero_add] at q
    obtain ⟨a, h1, h2, h3⟩ := w2.live n u hu
    refine ⟨a, h1, ?_⟩
    by_cases hn : n ∈ ids
    · rw [if_pos hn] at q
      obtain ⟨ds, e2⟩ := hl n hn
      rw [e2] at q
      simp only [Option.getD_some] at q
      subst q
      obtain ⟨a', g1, ⟨xs, g2, g3⟩, _⟩ := w.live n _ e2
      have ea : a' = a := by
        have := e.ι n a' g1
        rw [h1] at this; cases this; rfl
      subst ea
      have hL : LentA wd ids a' := ⟨n, hn, g1⟩
      refine ⟨⟨xs, w2.sub _ _ (e.F _ _ ?_), RelDs.ext G (unlend_ext w hl e) g3⟩, fun _ => ?_⟩
      · show (if LentA wd ids a' then H a' else wd.F a') = _
        rw [if_pos hL]; exact g2
      · show (if LentA wd ids a' then none else wd2.F a') = none
        rw [if_pos hL]
    · rw [if_neg hn] at q
      have fz : o ≠ .gone → (wd.unlend wd2 ids).F a = none := fun g => by
        show (if LentA wd ids a then none else wd2.F a) = none
        split
        · rfl
        · refine h3 fun z => g ?_
          subst z
          split at q
          · exact q.symm
          · exact q.symm
      refine ⟨?_, fz⟩
      have hr := thO_rel w hl e w2 h2
      split at q
      · rename_i hs
        subst q
        obtain ⟨a', _, g2, _⟩ := w.live n _ hs
        rw [thO_id w hl g2] at hr
        exact hr
      · subst q; exact hr
  · unfold backL; rw [mapIx_length]; exact w2.dom n a h
  · obtain ⟨o, ho⟩ := w.bor a ha
    exact ⟨o, (unlend_ext w hl e).F _ _ ho⟩
  · have h' : (if LentA wd ids a then none else wd2.F a) = some o := h
    split at h'
    · cases h'
    · exact w2.seq _ _ h'

/-! ### cleaning -/
def NewA (wd2 : Wd) (n : Nat) (L' : Live) (a : Addr) : Prop := ∃ k, n ≤ k ∧ (∃ ds, L'[k]? = some (.lst ds)) ∧ wd2.ι k = some a
noncomputable def Wd.clean (wd2 : Wd) (n : Nat) (L' : Live) (H2 : Hp) : Wd := { ι := fun k => if k < n then wd2.ι k else none, F := fun a => if NewA wd2 n L' a then H2 a else wd2.F a, bor := wd2.bor }
theorem new_none (w2 : WOk (G := G) wd2 H2 L') {n : Nat} {a : Addr} (h : NewA wd2 n L' a) : wd2.F a = none := by
  obtain ⟨k, _, ⟨ds, e⟩, e2⟩ := h
  obtain ⟨a', h1, _, h3⟩ := w2.live k _ e
  rw [e2] at h1; cases h1
  exact h3 (by simp)
theorem clean_F (w2 : WOk (G := G) wd2 H2 L') {n : Nat} {a : Addr} {o : HO} (h : wd2.F a = some o) : (wd2.clean n L' H2).F a = some o := by
  show (if NewA wd2 n L' a then H2 a else wd2.F a) = some o
  rw [if_neg (fun z => by rw [new_none w2 z] at h; cases h)]; exact h
theorem clean_ext (w : WOk (G := G) wd H L) (w2 : WOk (G := G) wd2 H2 L') (e : Ext wd wd2) : Ext wd (wd2.clean L.length L' H2) := by
  refine ⟨fun n a h => ?_, fun a o h => clean_F w2 (e.F _ _ h), e.bor, fun n a h => ?_⟩
  · show (if n < L.length then wd2.ι n else none) = some a
    rw [if_pos (w.dom _ _ h)]; exact e.ι _ _ h
  · have h' : (if n < L.length then wd2.ι n else none) = some a := h
    split at h'
    · exact e.new n a h'
    · cases h'
mutual
theorem okB_rel (w2 : WOk (G := G) wd2 H2 L') {n : Nat} : ∀ {d : D} {v : V}, okB n d = true → RelD G wd2 v d → RelD G (wd2.clean n L' H2) v d
  | .non, v, _, h => by simpa [RelD] using h
  | .bl b, v, _, h => by simpa [RelD] using h
  | .int i, v, _, h => by simpa [RelD] using h
  | .str s, v, _, h => by simpa [RelD] using h
  | .ref k, v, b, h => by
    simp only [okB, decide_eq_true_eq] at b
    simp only [RelD] at h ⊢
    obtain ⟨a, h1, h2⟩ := h
    refine ⟨a, ?_, h2⟩
    show (if k < n then wd2.ι k else none) = some a
    rw [if_pos b]; exact h1
  | .dct ks ds, v, b, h => by
    simp only [okB] at b
    simp only [RelD] at h ⊢
    obtain ⟨a, ys, h1, h2, h3, h4⟩ := h
    exact ⟨a, ys, h1, clean_F w2 h2, h3, okBs_rel w2 b h4⟩
  | .tup ds, v, b, h => by
    simp only [okB] at b
    simp only [RelD] at h ⊢
    obtain ⟨a, xs, h1, h2, h3⟩ := h
    exact ⟨a, xs, h1, SqT.mono (fun _ _ => clean_F w2) h2, okBs_rel w2 b h3⟩
  | .lst t ds, v, b, h => by
    simp only [okB, Bool.and_eq_true, decide_eq_true_eq] at b
    simp only [RelD] at h ⊢
    obtain ⟨a, xs, h1, h2, h3, h4, h5⟩ := h
    refine ⟨a, xs, h1, Rd.mono (fun _ _ => clean_F w2) h2, okBs_rel w2 b.2 h3, h4, fun k hk => ?_⟩
    show (if k < n then wd2.ι k else none) = some a
    rw [if_pos (by omega)]; exact h5 k hk
theorem okBs_rel (w2 : WOk (G := G) wd2 H2 L') {n : Nat} : ∀ {ds : List D} {xs : List V}, okBs n ds = true → RelDs G wd2 xs ds → RelDs G (wd2.clean n L' H2) xs ds
  | [], xs, _, h => by simpa [RelDs] using h
  | d :: ds, xs, b, h => by
    simp only [okBs, Bool.and_eq_true] at b
    simp only [RelDs] at h ⊢
    obtain ⟨v, vs, h1, h2, h3⟩ := h
    exact ⟨v, vs, h1, okB_rel w2 b.1 h2, okBs_rel w2 b.2 h3⟩
end
theorem fzF_rel (w2 : WOk (G := G) wd2 H2 L') {n : Nat} : ∀ {m : Nat} {d e : D} {v : V}, fzF n L' m d = some e → RelD G wd2 v d → RelD G (wd2.clean n L' H2) v e
  | 0, d, e, v, h, r => by simp [fzF] at h
  | m + 1, d, e, v, h, r => by
    have ih : ∀ {ds es : List D} {xs : List V}, mapO (fzF n L' m) ds = some es → RelDs G wd2 xs ds → RelDs G (wd2.clean n L' H2) xs es := fun {ds es xs} h r =>
      relDs_mapO h r fun d e v hd q r => fzF_rel w2 q r
    simp only [fzF] at h
    split at h
    · rename_i hb
      simp only [Option.some.injEq] at h; subst h
      exact okB_rel w2 hb r
    · rename_i hb
      cases d with
      | ref k =>
        simp only at h
        split at h
        · rename_i hk
          exact absurd (by simp [okB, hk]) hb
        · rename_i hk
          cases q : L'[k]? with
          | none => rw [q] at h; cases h
          | some o =>
            rw [q] at h
            cases o with
            | lst ds =>
              simp only [Option.map_eq_some_iff] at h
              obtain ⟨es, h1, rfl⟩ := h
              obtain ⟨a, rfl, ha, ⟨xs, hx, rx⟩, hf⟩ := rd_ref w2 r q
              simp only [RelD]
              refine ⟨a, xs, rfl, .inl ?_, ih h1 rx, fun _ hb => ?_, fun k e => by cases e⟩
              · show (if NewA wd2 n L' a then H2 a else wd2.F a) = _
                rw [if_pos ⟨k, by omega, ⟨ds, q⟩, ha⟩]; exact hx
              · obtain ⟨o, ho⟩ := w2.bor a hb
                rw [hf (by simp)] at ho; cases ho
            | _ => simp at h
      | tup ds =>
        simp only [Option.map_eq_some_iff] at h
        obtain ⟨es, h1, rfl⟩ := h
        simp only [RelD] at r ⊢
        obtain ⟨a, xs, h2, h3, h4⟩ := r
        exact ⟨a, xs, h2, SqT.mono (fun _ _ => clean_F w2) h3, ih h1 h4⟩
      | dct ks ds =>
        simp only [Option.map_eq_some_iff] at h
        obtain ⟨es, h1, rfl⟩ := h
        simp only [RelD] at r ⊢
        obtain ⟨a, ys, h2, h3, h4, h5⟩ := r
        exact ⟨a, ys, h2, clean_F w2 h3, h4, ih h1 h5⟩
      | lst t ds =>
        simp only at h
        split at h
        · rename_i ht
          simp only [Option.map_eq_some_iff] at h
          obtain ⟨es, h1, rfl⟩ := h
          simp only [RelD] at r ⊢
          obtain ⟨a, xs, e2, h3, h4, h5, h6⟩ := r
          refine ⟨a, xs, e2, Rd.mono (fun _ _ => clean_F w2) h3, ih h1 h4, h5, fun k hk => ?_⟩
          show (if k < n then wd2.ι k else none) = some a
          rw [if_pos (by omega)]; exact h6 k hk
        · cases h
      | non => simp [okB] at hb
      | bl b => simp [okB] at hb
      | int b => simp [okB] at hb
      | str b => simp [okB] at hb
mutual
theorem okB_of (w : WOk (G := G) wd H L) : ∀ {d : D} {v : V}, RelD G wd v d → okB L.length d = true
  | .non, v, h => rfl
  | .bl b, v, h => rfl
  | .int i, v, h => rfl
  | .str s, v, h => rfl
  | .ref n, v, h => by
    simp only [RelD] at h
    obtain ⟨a, h1, _⟩ := h
    simp only [okB, decide_eq_true_eq]
    exact w.dom _ _ h1
  | .dct ks ds, v, h => by
    simp only [RelD] at h
    obtain ⟨a, ys, h1, h2, h3, h4⟩ := h
    simp only [okB]
    exact okBs_of w h4
  | .tup ds, v, h => by
    simp only [RelD] at h
    obtain ⟨a, xs, h1, h2, h3⟩ := h
    simp only [okB]
    exact okBs_of w h3
  | .lst t ds, v, h => by
    simp only [RelD] at h
    obtain ⟨a, xs, h1, h2, h3, h4, h5⟩ := h
    simp only [okB, Bool.and_eq_true, decide_eq_true_eq]
    refine ⟨?_, okBs_of w h3⟩
    cases t with
    | zero => exact Nat.zero_le _
    | succ k => exact w.dom _ _ (h5 k rfl)
theorem okBs_of (w : WOk (G := G) wd H L) : ∀ {ds : List D} {xs : List V}, RelDs G wd xs ds → okBs L.length ds = true
  | [], xs, h => rfl
  | d :: ds, xs, h => by
    simp only [RelDs] at h
    obtain ⟨v, vs, h1, h2, h3⟩ := h
    simp only [okBs, Bool.and_eq_true]
    exact ⟨okB_of w h2, okBs_of w h3⟩
end
theorem paired_okB {κ : Type} (w : WOk (G := G) wd H L) : ∀ {ys : List (κ × V)} {kvs : List (κ × D)}, Paired (fun (p : κ × V) (q : κ × D) => p.1 = q.1 ∧ RelD G wd p.2 q.2) ys kvs → ∀ q ∈ kvs, okB L.length q.2 = true
  | _, _, .nil, q, hq => by cases hq
  | _, _, .cons r t, q, hq => by
    rcases List.mem_cons.mp hq with rfl | hq
    · exact okB_of w r.2
    · exact paired_okB w t q hq
theorem okO_rel (w : WOk (G := G) wd H L) (w2 : WOk (G := G) wd2 H2 L') {a a' : Addr} : ∀ {o : LO}, RelO (G := G) wd H a' o → RelO (G := G) wd2 H2 a o → RelO (G := G) (wd2.clean L.length L' H2) H2 a o
  | .lst ds, ⟨zs, _, g2⟩, ⟨xs, h1, h2⟩ => ⟨xs, h1, okBs_rel w2 (okBs_of w g2) h2⟩
  | .dic kvs, ⟨zs, _, g2⟩, ⟨ys, h1, h2⟩ => by
    refine ⟨ys, h1, ?_⟩
    have : ∀ q ∈ kvs, okB L.length q.2 = true := paired_okB w g2
    clear g2 h1
    induction h2 with
    | nil => exact .nil
    | @cons p q ps qs r t ih => exact .cons ⟨r.1, okB_rel w2 (this _ List.mem_cons_self) r.2⟩ (ih fun q hq => this q (List.mem_cons_of_mem _ hq))
  | .ins C fs, ⟨_, _, zs, _, _, _, g2⟩, ⟨ca, dx, gs, h0, h1, h2, h3⟩ => by
    refine ⟨ca, dx, gs, h0, h1, h2, ?_⟩
    have : ∀ q ∈ fs, okB L.length q.2 = true := paired_okB w g2
    clear g2 h1 h2
    induction h3 with
    | nil => exact .nil
    | @cons p q ps qs r t ih => exact .cons ⟨r.1, okB_rel w2 (this _ List.mem_cons_self) r.2⟩ (ih fun q hq => this q (List.mem_cons_of_mem _ hq))
  | .gone, _, _ => True.intro
theorem paired_fz {κ : Type} (w2 : WOk (G := G) wd2 H2 L') {n : Nat} : ∀ {ys : List (κ × V)} {kvs kws : List (κ × D)}, mapO (fzP n L') kvs = some kws → Paired (fun (p : κ × V) (q : κ × D) => p.1 = q.1 ∧ RelD G wd2 p.2 q.2) ys kvs →
    Paired (fun (p : κ × V) (q : κ × D) => p.1 = q.1 ∧ RelD G (wd2.clean n L' H2) p.2 q.2) ys kws
  | _, _, kws, h, .nil => by simp only [mapO, Option.some.injEq] at h; subst h; exact .nil
  | _, q :: qs, kws, h, .cons r t => by
    simp only [mapO] at h
    cases q1 : fzP n L' q with
    | none => rw [q1] at h; cases h
    | some y =>
      rw [q1] at h
      cases q2 : mapO (fzP n L') qs with
      | none => rw [q2] at h; cases h
      | some ys =>
        rw [q2] at h; simp only [Option.some.injEq] at h; subst h
        refine .cons ?_ (paired_fz w2 q2 t)
        simp only [fzP, Option.map_eq_some_iff] at q1
        obtain ⟨d, h1, rfl⟩ := q1
        exact ⟨r.1, fzF_rel w2 h1 r.2⟩
theorem fzO_rel (w2 : WOk (G := G) wd2 H2 L') {n : Nat} {a : Addr} : ∀ {o u : LO}, fzO n L' o = some u → RelO (G := G) wd2 H2 a o → RelO (G := G) (wd2.clean n L' H2) H2 a u
  | .lst ds, u, h, ⟨xs, h1, h2⟩ => by
    simp only [fzO, Option.map_eq_some_iff] at h
    obtain ⟨es, h3, rfl⟩ := h
    exact ⟨xs, h1, relDs_mapO h3 h2 fun d e v hd q r => fzF_rel w2 q r⟩
  | .dic kvs, u, h, ⟨ys, h1, h2⟩ => by
    simp only [fzO, Option.map_eq_some_iff] at h
    obtain ⟨es, h3, rfl⟩ := h
    exact ⟨ys, h1, paired_fz w2 h3 h2⟩
  | .ins C fs, u, h, ⟨ca, dx, gs, h0, h1, h2, h3⟩ => by
    simp only [fzO, Option.map_eq_some_iff] at h
    obtain ⟨es, h4, rfl⟩ := h
    exact ⟨ca, dx, gs, h0, h1, h2, paired_fz w2 h4 h3⟩
  | .gone, u, h, _ => by simp only [fzO, Option.some.injEq] at h; subst h; exact True.intro
theorem fzO_gone {n : Nat} {M : Live} {o : LO} (h : fzO n M o = some .gone) : o = .gone := by
  cases o with
  | gone => rfl
  | lst ds => simp [fzO] at h
  | dic ds => simp [fzO] at h
  | ins C ds => simp [fzO] at h
theorem cutL_spec {n : Nat} {M : Live} : ∀ {L L' R : Live}, cutL n M L L' = some R → R.length = L.length ∧ ∀ (i : Nat) (u : LO), R[i]? = some u → ∃ o o' : LO, L[i]? = some o ∧ L'[i]? = some o' ∧ ((o' = o ∧ u = o) ∨ fzO n M o' = some u)
  | [], L', R, h => by simp only [cutL, Option.some.injEq] at h; subst h; exact ⟨rfl, fun i u h => by simp at h⟩
  | o :: L, [], R, h => by simp [cutL] at h
  | o :: L, o' :: L', R, h => by
    simp only [cutL] at h
    cases q : (if o' = o then some o else fzO n M o') with
    | none => rw [q] at h; cases h
    | some u =>
      rw [q] at h
      simp only at h
      cases q2 : cutL n M L L' with
      | none => rw [q2] at h; cases h
      | some r =>
        rw [q2] at h; simp only [Option.some.injEq] at h; subst h
        obtain ⟨h1, h2⟩ := cutL_spec q2
        refine ⟨by simp [h1], fun i x hx => ?_⟩
        cases i with
        | zero =>
          simp at hx; subst hx
          refine ⟨o, o', rfl, rfl, ?_⟩
          split at q
          · rename_i e; cases q; exact .inl ⟨e, rfl⟩
          · exact .inr q
        | succ i =>
          simp only [List.getElem?_cons_succ] at hx ⊢
          exact h2 i x hx
theorem clean_ok (w : WOk (G := G) wd H L) (w2 : WOk (G := G) wd2 H2 L') (e : Ext wd wd2) {R : Live} (hR : cutL L.length L' L L' = some R) : WOk (G := G) (wd2.clean L.length L' H2) H2 R := by
  obtain ⟨hlen, hsp⟩ := cutL_spec hR
  have iot : ∀ {n a}, (wd2.clean L.length L' H2).ι n = some a → n < L.length ∧ wd2.ι n = some a := fun {n a} h => by
    have h' : (if n < L.length then wd2.ι n else none) = some a := h
    split at h'
    · exact ⟨‹_›, h'⟩
    · cases h'
  refine ⟨fun a o h => ?_, fun n u h => ?_, fun n a h => by rw [hlen]; exact (iot h).1, fun n m a h1 h2 => w2.inj _ _ _ (iot h1).2 (iot h2).2, fun a ha => ?_, fun a o h => ?_, fun n a h => w2.there _ _ (iot h).2⟩
  · have h' : (if NewA wd2 L.length L' a then H2 a else wd2.F a) = some o := h
    split at h'
    · exact h'
    · exact w2.sub _ _ h'
  · obtain ⟨o, o', h1, h2, h3⟩ := hsp n u h
    have hn : n < L.length := (List.getElem?_eq_some_iff.mp h1).1
    obtain ⟨a, g1, g2, g3⟩ := w2.live n o' h2
    have fN : ¬ NewA wd2 L.length L' a := fun ⟨k, hk, _, ek⟩ => by
      have := w2.inj _ _ _ ek g1
      omega
    refine ⟨a, ?_, ?_, fun g => ?_⟩
    · show (if n < L.length then wd2.ι n else none) = some a
      rw [if_pos hn]; exact g1
    · rcases h3 with ⟨rfl, rfl⟩ | h3
      · obtain ⟨a', _, r2, _⟩ := w.live n _ h1
        exact okO_rel w w2 r2 g2
      · exact fzO_rel w2 h3 g2
    · show (if NewA wd2 L.length L' a then H2 a else wd2.F a) = none
      rw [if_neg fN]
      refine g3 fun z => g ?_
      subst z
      rcases h3 with ⟨e1, rfl⟩ | h3
      · exact e1.symm
      · simp only [fzO, Option.some.injEq] at h3; exact h3.symm
  · obtain ⟨o, ho⟩ := w2.bor a ha
    exact ⟨o, clean_F w2 ho⟩
  · have h' : (if NewA wd2 L.length L' a then H2 a else wd2.F a) = some o := h
    split at h'
    · rename_i hN
      obtain ⟨k, _, ⟨ds, hk⟩, ek⟩ := hN
      obtain ⟨a', g1, ⟨xs, g2, _⟩, _⟩ := w2.live k _ hk
      rw [ek] at g1; cases g1
      rw [g2] at h'; cases h'
      exact .inl ⟨xs, rfl⟩
    · exact w2.seq _ _ h'
end
end MP
set_option maxHeartbeats 4000000
/-! MP: rules for expressions -/
namespace MP
open PySem PySem.Spec PyProof.Rows L2

structure Gd (G : Gv) (X : Cx) : Prop where
  K : X.K = G.K
  calm : X.calm = true
  gu : G.gu = true → X.A.guards = some []
  un : X.A.units + 65 < cLine
  nd : X.N.Nodup
  sm : SmK X.K

theorem peImp {X : Cx} {e : Expr} {t t' : TE} (h : PE X e t) (i : ∀ σ H Q, t' σ H Q → t σ H Q) : PE X e t' := ⟨fun pins s σ H Q I q => h.run pins s σ H Q I (i σ H Q q)⟩
theorem ptImp {X : Cx} {e : Expr} {t t' : TT} (h : PT X e t) (i : ∀ σ H Q, t' σ H Q → t σ H Q) : PT X e t' := ⟨fun pins s σ H Q I q => h.run pins s σ H Q I (i σ H Q q)⟩
section
variable {G : Gv} {X : Cx} {W : WX} {a b c e : Expr} {es : List Expr} {ma mb mc : Ev → Live → Res D} {ms : Ev → Live → Res (List D)} {ta tb : Ev → Live → Res Bool} {pos p2 : Pos}

theorem opt_run {wd : Wd} {σ : L2.St} {o : Option (D × Live)} {Q : VK} (h : Run (G := G) (RelD G) W σ wd (opt o) Q) : ∃ d L', o = some (d, L') ∧ End G wd d L' Q := by
  cases o with
  | none => exact False.elim h
  | some p => exact ⟨p.1, p.2, rfl, h⟩
theorem optV_run {α β β' : Type} {rel : Wd → β → β' → Prop} {wd : Wd} {σ : L2.St} {o : Option α} {L : Live} {f : α → Live → Res β'} {Q : β → Hp → Prop} (h : Run (G := G) rel W σ wd ((optV o L).bind f) Q) : ∃ d, o = some d ∧ Run (G := G) rel W σ wd (f d L) Q := by
  cases o with
  | none => exact False.elim h
  | some p => exact ⟨p, rfl, h⟩
theorem optV_run' {β β' : Type} {rel : Wd → β → β' → Prop} {wd : Wd} {σ : L2.St} {o : Option β'} {L : Live} {Q : β → Hp → Prop} (h : Run (G := G) rel W σ wd (optV o L) Q) : ∃ d, o = some d ∧ Run (G := G) rel W σ wd (.ok d L) Q := by
  cases o with
  | none => exact False.elim h
  | some p => exact ⟨p, rfl, h⟩
theorem Run.now {α β : Type} {rel : Wd → β → α → Prop} {wd : Wd} {σ : L2.St} {d : α} {L : Live} {Q : β → Hp → Prop} {H : Hp} {v : β} (h : Run (G := G) rel W σ wd (.ok d L) Q) (w : WOk (G := G) wd H L) (r : rel wd v d) : Q v H := h wd H v (Ext.refl _) w r

/-! ### names, constants -/
theorem me_var {i : Nat} {x : Str} (hN : X.N[i]? = some x) (hv : Vis X.env.scope x) (hd : (x == ("__debug__" : Str)) = false) (hcd : (x == ("__classdict__" : Str)) = false) :
    PE X (.Name x pos) (tE G W fun E L => match E[i]? with | some (some d) => .ok d L | _ => .stuck) :=
  peImp (pe_var hN hv hd hcd) fun σ H Q ⟨wd, E, L, rs, w, run⟩ => by
    dsimp only at run
    cases q : E[i]? with
    | none => rw [q] at run; exact False.elim run
    | some o =>
      rw [q] at run
      cases o with
      | none => exact False.elim run
      | some d =>
        obtain ⟨v, h1, h2⟩ := rs.2 i d q
        exact ⟨v, h1, run.now w h2⟩
theorem me_con {v : V} {d : D} (h : PE X e (tC v)) (r : ∀ wd, RelD G wd v d) : PE X e (tE G W fun _ L => .ok d L) :=
  peImp h fun σ H Q ⟨wd, E, L, rs, w, run⟩ => run.now w (r wd)

/-! ### operators -/
theorem me_op (g : Gd G X) (o : Bop) (lv : Bool) (ha : PE X a (tE G W ma)) (hb : PE X b (tE G W mb)) :
    PE X (.BinOp a (bopM o) b pos) (tE G W fun E L => (ma E L).bind fun x L1 => (mb E L1).bind fun y L2 => opt (binD o lv x y L2)) :=
  peImp (pe_op (op_ok g.K o lv) ha hb) fun σ H Q ⟨wd, E, L, rs, w, run⟩ => ⟨wd, E, L, rs, w, run.bind.imp fun v H1 ⟨wd1, d1, L1, e1, w1, r1, run1⟩ => ⟨wd1, E, L1, rs.ext e1, w1, run1.bind.imp fun u H2 ⟨wd2, d2, L2, e2, w2, r2, run2⟩ => by
    obtain ⟨d, L', h1, h2⟩ := opt_run run2
    exact ⟨wd2, d1, d2, L2, d, L', w2, r1.ext G e2, r2, h1, h2⟩⟩⟩
theorem me_neg (ha : PE X a (tE G W ma)) : PE X (.UnaryOp .USub a pos) (tE G W fun E L => (ma E L).bind fun x L1 => match x with | .int i => .ok (.int (-i)) L1 | _ => .stuck) :=
  peImp (pe_un un_neg ha) fun σ H Q ⟨wd, E, L, rs, w, run⟩ => ⟨wd, E, L, rs, w, run.bind.imp fun v H1 ⟨wd1, d1, L1, e1, w1, r1, run1⟩ => by
    cases d1 with
    | int i =>
      simp only [RelD] at r1; subst r1
      exact ⟨i, rfl, run1.now w1 (by simp [RelD])⟩
    | _ => exact False.elim run1⟩
theorem me_cmp (g : Gd G X) (o : Cop) (ha : PE X a (tE G W ma)) (hb : PE X b (tE G W mb)) (hm : behindInMarks (copM o) b = false) :
    PE X (.Compare a [copM o] [b] pos) (tE G W fun E L => (ma E L).bind fun x L1 => (mb E L1).bind fun y L2 => (optV (cmpD o x y L2) L2).bind fun k L3 => .ok (.bl k) L3) :=
  peImp (pe_cmpR (cmp_ok g.K g.un o) ha hb hm) fun σ H Q ⟨wd, E, L, rs, w, run⟩ => ⟨wd, E, L, rs, w, run.bind.imp fun v H1 ⟨wd1, d1, L1, e1, w1, r1, run1⟩ => ⟨wd1, E, L1, rs.ext e1, w1, run1.bind.imp fun u H2 ⟨wd2, d2, L2, e2, w2, r2, run2⟩ => by
    obtain ⟨k, h1, h2⟩ := optV_run run2
    exact ⟨wd2, d1, d2, L2, k, w2, r1.ext G e2, r2, h1, h2.now w2 (by simp [RelD])⟩⟩⟩
theorem mt_cmp (g : Gd G X) (o : Cop) (ha : PE X a (tE G W ma)) (hb : PE X b (tE G W mb)) (hm : behindInMarks (copM o) b = false) :
    PT X (.Compare a [copM o] [b] pos) (tT G W fun E L => (ma E L).bind fun x L1 => (mb E L1).bind fun y L2 => optV (cmpD o x y L2) L2) :=
  ptImp (pt_cmpR (cmp_ok g.K g.un o) ha hb hm) fun σ H Q ⟨wd, E, L, rs, w, run⟩ => ⟨wd, E, L, rs, w, run.bind.imp fun v H1 ⟨wd1, d1, L1, e1, w1, r1, run1⟩ => ⟨wd1, E, L1, rs.ext e1, w1, run1.bind.imp fun u H2 ⟨wd2, d2, L2, e2, w2, r2, run2⟩ => by
    obtain ⟨k, h1, h2⟩ := optV_run' run2
    exact ⟨wd2, d1, d2, L2, k, w2, r1.ext G e2, r2, h1, k, rfl, h2.now w2 rfl⟩⟩⟩
theorem me_chn (g : Gd G X) (o o' : Cop) (ha : PE X a (tE G W ma)) (hb : PE X b (tE G W mb)) (hc : PE X c (tE G W mc)) (hm : lastMarks [copM o, copM o'] [b, c] = false) :
    PE X (.Compare a [copM o, copM o'] [b, c] pos) (tE G W fun E L => (ma E L).bind fun x L1 => (mb E L1).bind fun y L2 => (optV (cmpD o x y L2) L2).bind fun k L3 =>
      if k then (mc E L3).bind fun z L4 => (optV (cmpD o' y z L4) L4).bind fun b L5 => .ok (.bl b) L5 else .ok (.bl false) L3) :=
  peImp (pe_chain (cmp_ok g.K g.un o) (cmp_ok g.K g.un o') ha hb hc hm) fun σ H Q ⟨wd, E, L, rs, w, run⟩ => ⟨wd, E, L, rs, w, run.bind.imp fun v H1 ⟨wd1, d1, L1, e1, w1, r1, run1⟩ => ⟨wd1, E, L1, rs.ext e1, w1, run1.bind.imp fun u H2 ⟨wd2, d2, L2, e2, w2, r2, run2⟩ => by
    obtain ⟨k, h1, h2⟩ := optV_run run2
    refine ⟨wd2, d1, d2, L2, k, w2, r1.ext G e2, r2, h1, k, rfl, ?_⟩
    cases k with
    | false => exact h2.now w2 (by simp [RelD])
    | true =>
      simp only [if_true] at h2
      rw [if_pos rfl]
      refine ⟨wd2, E, L2, (rs.ext e1).ext e2, w2, h2.bind.imp fun z H3 ⟨wd3, d3, L3, e3, w3, r3, run3⟩ => ?_⟩
      obtain ⟨k2, h3, h4⟩ := optV_run run3
      exact ⟨wd3, d2, d3, L3, k2, w3, r2.ext G e3, r3, h3, h4.now w3 (by simp [RelD])⟩⟩⟩
theorem mt_chn (g : Gd G X) (o o' : Cop) (ha : PE X a (tE G W ma)) (hb : PE X b (tE G W mb)) (hc : PE X c (tE G W mc)) (hm : lastMarks [copM o, copM o'] [b, c] = false) :
    PT X (.Compare a [copM o, copM o'] [b, c] pos) (tT G W fun E L => (ma E L).bind fun x L1 => (mb E L1).bind fun y L2 => (optV (cmpD o x y L2) L2).bind fun k L3 =>
      if k then (mc E L3).bind fun z L4 => optV (cmpD o' y z L4) L4 else .ok false L3) :=
  ptImp (pt_chain (cmp_ok g.K g.un o) (cmp_ok g.K g.un o') ha hb hc hm) fun σ H Q ⟨wd, E, L, rs, w, run⟩ => ⟨wd, E, L, rs, w, run.bind.imp fun v H1 ⟨wd1, d1, L1, e1, w1, r1, run1⟩ => ⟨wd1, E, L1, rs.ext e1, w1, run1.bind.imp fun u H2 ⟨wd2, d2, L2, e2, w2, r2, run2⟩ => by
    obtain ⟨k, h1, h2⟩ := optV_run run2
    refine ⟨wd2, d1, d2, L2, k, w2, r1.ext G e2, r2, h1, k, rfl, ?_⟩
    cases k with
    | false => exact ⟨false, rfl, h2.now w2 rfl⟩
    | true =>
      simp only [if_true] at h2
      rw [if_pos rfl]
      refine ⟨wd2, E, L2, (rs.ext e1).ext e2, w2, h2.bind.imp fun z H3 ⟨wd3, d3, L3, e3, w3, r3, run3⟩ => ?_⟩
      obtain ⟨k2, h3, h4⟩ := optV_run' run3
      exact ⟨wd3, d2, d3, L3, k2, w3, r2.ext G e3, r3, h3, k2, rfl, h4.now w3 rfl⟩⟩⟩

/-! ### tests -/
def tst (m : Ev → Live → Res D) : Ev → Live → Res Bool := fun E L => (m E L).bind fun x L1 => optV (truD L1 x) L1
theorem mt_truth (g : Gd G X) (ha : PE X a (tE G W ma)) (he : ∀ whole, isTrue a X.env whole = (do let v ← whole; standAt a.pos; holding [v] (truthy v))) : PT X a (tT G W (tst ma)) :=
  ptImp (pt_truth ha he) fun σ H Q ⟨wd, E, L, rs, w, run⟩ => ⟨wd, E, L, rs, w, Run.imp (Run.bind run) fun v H1 ⟨wd1, d1, L1, e1, w1, r1, run1⟩ => by
    obtain ⟨k, h1, h2⟩ := optV_run' run1
    exact ⟨k, tru_of g.K w1 r1 h1, h2.now w1 rfl⟩⟩
theorem mt_not (ha : PT X a (tT G W ta)) : PT X (.UnaryOp .Not a pos) (tT G W fun E L => (ta E L).bind fun k L1 => .ok (!k) L1) :=
  ptImp (pt_not ha) fun σ H Q ⟨wd, E, L, rs, w, run⟩ => ⟨wd, E, L, rs, w, run.bind.imp fun v H1 ⟨wd1, d1, L1, e1, w1, r1, run1⟩ => by
    cases r1; exact run1.now w1 rfl⟩
theorem mt_and (ha : PT X a (tT G W ta)) (hb : PW X (.BoolOp .And (b :: es) pos) (tT G W tb)) : PW X (.BoolOp .And (a :: b :: es) pos) (tT G W fun E L => (ta E L).bind fun k L1 => if k then tb E L1 else .ok false L1) := by
  have h := pw_and ha hb
  refine ⟨fun wh pins s σ H Q I ⟨wd, E, L, rs, w, run⟩ => h.run wh pins s σ H Q I ⟨wd, E, L, rs, w, run.bind.imp fun v H1 ⟨wd1, d1, L1, e1, w1, r1, run1⟩ => ?_⟩⟩
  cases r1
  cases v with
  | true => exact ⟨wd1, E, L1, rs.ext e1, w1, run1⟩
  | false => exact run1.now w1 rfl
theorem mt_or (ha : PT X a (tT G W ta)) (hb : PW X (.BoolOp .Or (b :: es) pos) (tT G W tb)) : PW X (.BoolOp .Or (a :: b :: es) pos) (tT G W fun E L => (ta E L).bind fun k L1 => if k then .ok true L1 else tb E L1) := by
  have h := pw_or ha hb
  refine ⟨fun wh pins s σ H Q I ⟨wd, E, L, rs, w, run⟩ => h.run wh pins s σ H Q I ⟨wd, E, L, rs, w, run.bind.imp fun v H1 ⟨wd1, d1, L1, e1, w1, r1, run1⟩ => ?_⟩⟩
  cases r1
  cases v with
  | true => exact run1.now w1 rfl
  | false => exact ⟨wd1, E, L1, rs.ext e1, w1, run1⟩
/-- a if t else b as a test -/
theorem mt_ite {tc : Ev → Live → Res Bool} (hc : PT X c (tT G W tc)) (ha : PT X a (tT G W ta)) (hb : PT X b (tT G W tb)) : PT X (.IfExp c a b pos) (tT G W fun E L => (tc E L).bind fun k L1 => if k then ta E L1 else tb E L1) := by
  refine ⟨fun pins s σ H Q I ⟨wd, E, L, rs, w, run⟩ => ?_⟩
  show wpAny _ _ (do if ← isTrue c X.env (eval c X.env) then isTrue a X.env (eval a X.env) else isTrue b X.env (eval b X.env)) _ _ s
  refine wpAny_bind (thn (hc.run pins s σ H _ I ⟨wd, E, L, rs, w, run.bind⟩) fun k s1 ⟨H1, I1, wd1, d1, L1, e1, w1, r1, run1⟩ => ?_)
  cases r1
  cases k with
  | true => exact ha.run pins s1 σ H1 Q I1 ⟨wd1, E, L1, rs.ext e1, w1, run1⟩
  | false => exact hb.run pins s1 σ H1 Q I1 ⟨wd1, E, L1, rs.ext e1, w1, run1⟩
theorem me_not (g : Gd G X) (ha : PE X a (tE G W ma)) : PE X (.UnaryOp .Not a pos) (tE G W fun E L => (ma E L).bind fun x L1 => (optV (truD L1 x) L1).bind fun k L2 => .ok (.bl (!k)) L2) := by
  refine ⟨fun pins s σ H Q I ⟨wd, E, L, rs, w, run⟩ => ?_⟩
  refine UnaryOp_ (thn (ha.run pins s σ H _ I ⟨wd, E, L, rs, w, run.bind⟩) fun v s1 ⟨x, H1, I1, rx, wd1, d1, L1, e1, w1, r1, run1⟩ => ?_)
  obtain ⟨k, h1, h2⟩ := optV_run run1
  exact not_of (thn (tru_ok pins s1 σ H1 x v (fun k' H' => k' = k ∧ H' = H1) I1 rx ⟨k, tru_of g.K w1 r1 h1, rfl, rfl⟩) fun k' s2 ⟨H2, I2, ek, eH⟩ => by
    subst ek eH
    exact ⟨.bl (!k'), _, I2, rfl, h2.now w1 (by simp [RelD])⟩)
theorem me_and (g : Gd G X) (ha : PE X a (tE G W ma)) (hb : PE X (.BoolOp .And (b :: es) pos) (tE G W mb)) :
    PE X (.BoolOp .And (a :: b :: es) pos) (tE G W fun E L => (ma E L).bind fun x L1 => (optV (truD L1 x) L1).bind fun k L2 => if k then mb E L2 else .ok x L2) := by
  refine ⟨fun pins s σ H Q I ⟨wd, E, L, rs, w, run⟩ => ?_⟩
  refine BoolOp_and (thn (ha.run pins s σ H _ I ⟨wd, E, L, rs, w, run.bind⟩) fun v s1 ⟨x, H1, I1, rx, wd1, d1, L1, e1, w1, r1, run1⟩ => ?_)
  obtain ⟨k, h1, h2⟩ := optV_run run1
  refine thn (tru_ok pins s1 σ H1 x v (fun k' H' => k' = k ∧ H' = H1) I1 rx ⟨k, tru_of g.K w1 r1 h1, rfl, rfl⟩) fun k' s2 ⟨H2, I2, ek, eH⟩ => ?_
  subst ek eH
  cases k' with
  | true => exact hb.run pins s2 σ _ Q I2 ⟨wd1, E, L1, rs.ext e1, w1, h2⟩
  | false => exact ⟨x, _, I2, rx, h2.now w1 r1⟩
theorem me_or (g : Gd G X) (ha : PE X a (tE G W ma)) (hb : PE X (.BoolOp .Or (b :: es) pos) (tE G W mb)) :
    PE X (.BoolOp .Or (a :: b :: es) pos) (tE G W fun E L => (ma E L).bind fun x L1 => (optV (truD L1 x) L1).bind fun k L2 => if k then .ok x L2 else mb E L2) := by
  refine ⟨fun pins s σ H Q I ⟨wd, E, L, rs, w, run⟩ => ?_⟩
  refine BoolOp_or (thn (ha.run pins s σ H _ I ⟨wd, E, L, rs, w, run.bind⟩) fun v s1 ⟨x, H1, I1, rx, wd1, d1, L1, e1, w1, r1, run1⟩ => ?_)
  obtain ⟨k, h1, h2⟩ := optV_run run1
  refine thn (tru_ok pins s1 σ H1 x v (fun k' H' => k' = k ∧ H' = H1) I1 rx ⟨k, tru_of g.K w1 r1 h1, rfl, rfl⟩) fun k' s2 ⟨H2, I2, ek, eH⟩ => ?_
  subst ek eH
  cases k' with
  | true => exact ⟨x, _, I2, rx, h2.now w1 r1⟩
  | false => exact hb.run pins s2 σ _ Q I2 ⟨wd1, E, L1, rs.ext e1, w1, h2⟩
theorem me_ite {tc : Ev → Live → Res Bool} (hc : PT X c (tT G W tc)) (ha : PE X a (tE G W ma)) (hb : PE X b (tE G W mb)) : PE X (.IfExp c a b pos) (tE G W fun E L => (tc E L).bind fun k L1 => if k then ma E L1 else mb E L1) :=
  peImp (pe_ifExp hc ha hb) fun σ H Q ⟨wd, E, L, rs, w, run⟩ => ⟨wd, E, L, rs, w, run.bind.imp fun v H1 ⟨wd1, d1, L1, e1, w1, r1, run1⟩ => by
    cases r1
    cases v with
    | true => exact ⟨wd1, E, L1, rs.ext e1, w1, run1⟩
    | false => exact ⟨wd1, E, L1, rs.ext e1, w1, run1⟩⟩

/-! ### argument lists, displays -/
theorem ma_nil : PA X [] (tA G W fun _ L => .ok [] L) := by
  refine ⟨fun pos pins s σ H Q I ⟨wd, E, L, rs, w, run⟩ => pa_nil.run pos pins s σ H Q I ?_⟩
  exact run.now w RelDs.nil
theorem ma_cons (ha : PE X a (tE G W ma)) (hr : PA X es (tA G W ms)) (hs : starEach (a :: es) X.env = (false, eval a X.env) :: starEach es X.env) :
    PA X (a :: es) (tA G W fun E L => (ma E L).bind fun x L1 => (ms E L1).bind fun xs L2 => .ok (x :: xs) L2) := by
  have h := pa_cons ha hr hs
  refine ⟨fun pos pins s σ H Q I ⟨wd, E, L, rs, w, run⟩ => h.run pos pins s σ H Q I ⟨wd, E, L, rs, w, run.bind.imp fun v H1 ⟨wd1, d1, L1, e1, w1, r1, run1⟩ => ⟨wd1, E, L1, rs.ext e1, w1, run1.bind.imp fun u H2 ⟨wd2, d2, L2, e2, w2, r2, run2⟩ => ?_⟩⟩⟩
  exact run2.now w2 (RelDs.cons (r1.ext G e2) r2)
theorem me_tup {k : Nat} (h : PA X es (tA G W ms)) : PE X (.Tuple es k pos) (tE G W fun E L => (ms E L).bind fun ds L1 => if sizeOk ds.length then .ok (.tup ds) L1 else .stuck) :=
  peImp (pe_tup h) fun σ H Q ⟨wd, E, L, rs, w, run⟩ => ⟨wd, E, L, rs, w, run.bind.imp fun vs H1 ⟨wd1, ds, L1, e1, w1, r1, run1⟩ => by
    split at run1
    · rename_i hz
      have len := RelDs.length r1
      refine ⟨by rw [len]; exact of_decide_eq_true hz, fun p hp => new_tup w1 r1 hp fun wd' H' v e' w' r' => run1 wd' H' v e' w' r'⟩
    · exact False.elim run1⟩
theorem me_lst (lv : Bool) (h : PA X es (tA G W ms)) : PE X (.List es pos) (tE G W fun E L => (ms E L).bind fun ds L1 => if sizeOk ds.length then opt (some (newL lv ds L1)) else .stuck) :=
  peImp (pe_lst h) fun σ H Q ⟨wd, E, L, rs, w, run⟩ => ⟨wd, E, L, rs, w, run.bind.imp fun vs H1 ⟨wd1, ds, L1, e1, w1, r1, run1⟩ => by
    split at run1
    · rename_i hz
      have len := RelDs.length r1
      refine ⟨by rw [len]; exact of_decide_eq_true hz, fun p hp => new_list (lv := lv) w1 r1 hp run1⟩
    · exact False.elim run1⟩

/-! ### subscripts, slices -/
theorem me_ix (g : Gd G X) (ha : PE X a (tE G W ma)) (hb : PE X b (tE G W mb)) (hs : PlainIx b) : PE X (.Subscript a b pos) (tE G W fun E L => (ma E L).bind fun x L1 => (mb E L1).bind fun y L2 => optV (idxD x y L2) L2) :=
  peImp (pe_ix (ix_ok g.K (by have := g.un; omega)) ha hb hs) fun σ H Q ⟨wd, E, L, rs, w, run⟩ => ⟨wd, E, L, rs, w, run.bind.imp fun v H1 ⟨wd1, d1, L1, e1, w1, r1, run1⟩ => ⟨wd1, E, L1, rs.ext e1, w1, run1.bind.imp fun u H2 ⟨wd2, d2, L2, e2, w2, r2, run2⟩ => by
    obtain ⟨d, h1, h2⟩ := optV_run' run2
    exact ⟨wd2, d1, d2, L2, d, w2, r1.ext G e2, r2, h1, fun v hv => h2.now w2 hv⟩⟩⟩
def mPart (m : Option (Ev → Live → Res D)) (E : Ev) (L : Live) : Res (Option Int) := match m with
  | none => .ok none L
  | some m => (m E L).bind fun l L1 => optV (part l) L1
def RelP (_ : Wd) (v d : Option Int) : Prop := v = d
def tO (G : Gv) (W : WX) (m : Ev → Live → Res (Option Int)) : TO := fun σ H Q => ∃ wd E L, RelSt (G := G) wd σ E ∧ WOk (G := G) wd H L ∧ Run (G := G) RelP W σ wd (m E L) Q
theorem mo_none : PO X none (tO G W (mPart none)) := ⟨fun pins s σ H Q I ⟨wd, E, L, rs, w, run⟩ => po_none.run pins s σ H Q I (Run.now (rel := RelP) run w rfl)⟩
theorem mo_some (ha : PE X a (tE G W ma)) : PO X (some a) (tO G W (mPart (some ma))) :=
  ⟨fun pins s σ H Q I ⟨wd, E, L, rs, w, run⟩ => (po_some ha).run pins s σ H Q I ⟨wd, E, L, rs, w, Run.imp (Run.bind run) fun v H1 ⟨wd1, d1, L1, e1, w1, r1, run1⟩ => by
    obtain ⟨d, h1, h2⟩ := optV_run' run1
    cases d1 with
    | int i =>
      simp only [part, Option.some.injEq] at h1
      subst h1
      simp only [RelD] at r1
      exact ⟨i, r1, Run.now (rel := RelP) h2 w1 rfl⟩
    | _ => simp [part] at h1⟩⟩
theorem me_slc (g : Gd G X) (lv : Bool) {lo hi : Option Expr} {ml mh : Ev → Live → Res (Option Int)} (ha : PE X a (tE G W ma)) (hl : PO X lo (tO G W ml)) (hh : PO X hi (tO G W mh)) :
    PE X (.Subscript a (.Slice lo hi none p2) pos) (tE G W fun E L => (ma E L).bind fun x L1 => (ml E L1).bind fun l L2 => (mh E L2).bind fun h L3 => opt (slcP lv x l h L3)) :=
  peImp (pe_slice (sl_ok g.K lv) ha hl hh) fun σ H Q ⟨wd, E, L, rs, w, run⟩ => ⟨wd, E, L, rs, w, run.bind.imp fun v H1 ⟨wd1, d1, L1, e1, w1, r1, run1⟩ => ⟨wd1, E, L1, rs.ext e1, w1, run1.bind.imp fun l H2 ⟨wd2, l2, L2, e2, w2, r2, run2⟩ =>
    ⟨wd2, E, L2, (rs.ext e1).ext e2, w2, run2.bind.imp fun h H3 ⟨wd3, h3, L3, e3, w3, r3, run3⟩ => by
      cases r2
      cases r3
      obtain ⟨d, L', q1, q2⟩ := opt_run run3
      exact ⟨wd3, d1, L3, d, L', w3, (r1.ext G e2).ext G e3, q1, q2⟩⟩⟩⟩

/-! ### calls of built-ins -/
theorem me_blt (g : Gd G X) (bl : Blt) (hrp : bl = .repr → G.gu = true) (lv : Bool) {x : Str} {p : Pos} (hx : Gl X x) (hm : X.mg x = none) (hv : bootBuiltins x = some (bltV bl)) (ha : PA X (e :: es) (tA G W ms)) (hn : x ≠ "__name__") (hdb : (x == ("__debug__" : Str)) = false)
    (he : starEach (e :: es) X.env = (false, eval e X.env) :: starEach es X.env) (hpl : (backTo pos (starEach es X.env)).any (·.1) = false) :
    PE X (.Call (.Name x p) (e :: es) [] pos) (tE G W fun E L => (ms E L).bind fun ds L1 => opt (bltD bl lv ds L1)) := by
  have hc := blt_ok (X := X) g.sm g.K bl (fun h => g.gu (hrp h)) (by have := g.un; omega) g.calm lv
  have key : PE X (.Call (.Name x p) (e :: es) [] pos) (tCB (rL G (bltD bl lv)) (tA G W ms)) := by
    cases bl <;> first
      | exact pe_callB hc hx hm hv ha hn hdb he hpl
      | exact pe_callTy hc hx hm hv ha hn hdb he hpl
  exact peImp key fun σ H Q ⟨wd, E, L, rs, w, run⟩ => ⟨wd, E, L, rs, w, run.bind.imp fun vs H1 ⟨wd1, ds, L1, e1, w1, r1, run1⟩ => by
    obtain ⟨d, L', h1, h2⟩ := opt_run run1
    exact ⟨wd1, ds, L1, d, L', w1, r1, h1, h2⟩⟩

/-! ### isinstance -/
abbrev tyN : Ty → String | .int => "int" | .bool => "bool" | .str => "str" | .list => "list" | .tuple => "tuple" | .dict => "dict"
theorem isi_of {wd : Wd} {x : V} {d : D} {L : Live} {H : Hp} {t : Ty} {k : Bool} {K : PySem.W.Frag} (hK : K = G.K) (w : WOk (G := G) wd H L) (r : RelD G wd x d) (h : isiD L d t = some k) : ∃ s, TyX K H x (.type s) ∧ kitB s (tyN t) = some k := by
  subst hK
  cases d with
  | non => simp only [RelD] at r; subst r; refine ⟨_, .base .non, ?_⟩; simp only [isiD, Option.some.injEq] at h; subst h; cases t <;> decide +kernel
  | bl b => simp only [RelD] at r; subst r; refine ⟨_, .base (.bl b), ?_⟩; simp only [isiD, Option.some.injEq] at h; subst h; cases t <;> decide +kernel
  | int i => simp only [RelD] at r; subst r; refine ⟨_, .base (.int i), ?_⟩; simp only [isiD, Option.some.injEq] at h; subst h; cases t <;> decide +kernel
  | str i => simp only [RelD] at r; subst r; refine ⟨_, .base (.str i), ?_⟩; simp only [isiD, Option.some.injEq] at h; subst h; cases t <;> decide +kernel
  | tup ds =>
    obtain ⟨a, xs, rfl, hx, _⟩ := rd_tup w r
    refine ⟨"tuple", ?_, ?_⟩
    · rcases hx with (hx | ⟨o, hx⟩) | ⟨o, its, n, h1, h2, _⟩
      · exact .base (.tup hx)
      · exact .fTuple hx
      · exact .kTuple h1 h2
    · simp only [isiD, Option.some.injEq] at h; subst h; cases t <;> decide +kernel
  | lst u ds =>
    obtain ⟨a, xs, rfl, hx, _⟩ := rd_list w r (ds := ds) rfl
    refine ⟨"list", ?_, ?_⟩
    · rcases hx with hx | ⟨o, hx⟩
      · exact .base (.lst hx)
      · exact .base (.frz hx)
    · simp only [isiD, Option.some.injEq] at h; subst h; cases t <;> decide +kernel
  | dct ks ds =>
    simp only [RelD] at r
    obtain ⟨a, ys, rfl, hx, _⟩ := r
    refine ⟨"dict", .base (.dK (w.sub _ _ hx)), ?_⟩
    simp only [isiD, Option.some.injEq] at h; subst h; cases t <;> decide +kernel
  | ref n =>
    simp only [isiD] at h
    cases q : L[n]? with
    | none => rw [q] at h; cases h
    | some o =>
      rw [q] at h
      obtain ⟨a, rfl, ha, ho, _⟩ := rd_ref w r q
      cases o with
      | lst ds =>
        obtain ⟨xs, hx, _⟩ := ho
        simp only [Option.some.injEq] at h; subst h
        exact ⟨"list", .base (.lst hx), by cases t <;> decide +kernel⟩
      | dic kvs =>
        obtain ⟨xs, hx, _⟩ := ho
        simp only [Option.some.injEq] at h; subst h
        exact ⟨"dict", .base (.dK hx), by cases t <;> decide +kernel⟩
      | _ => simp at h
theorem boot_ty (t : Ty) : bootBuiltins (Str.ofString (tyN t)) = some (.type (tyN t)) := by cases t <;> decide +kernel
theorem me_isi (g : Gd G X) (t : Ty) {p p3 : Pos} (hx : Gl X "isinstance") (hm : X.mg "isinstance" = none) (hx2 : Gl X (Str.ofString (tyN t))) (hm2 : X.mg (Str.ofString (tyN t)) = none) (ha : PE X a (tE G W ma))
    (he : starEach [a, .Name (Str.ofString (tyN t)) p3] X.env = (false, eval a X.env) :: starEach [.Name (Str.ofString (tyN t)) p3] X.env) :
    PE X (.Call (.Name "isinstance" p) [a, .Name (Str.ofString (tyN t)) p3] [] pos) (tE G W fun E L => (ma E L).bind fun x L1 => (optV (isiD L1 x t) L1).bind fun k L2 => .ok (.bl k) L2) := by
  have pn : PE X (.Name (Str.ofString (tyN t)) p3) (tC (.ty (tyN t))) := pe_bltn hx2 hm2 (boot_ty t) rfl (by cases t <;> decide) (by cases t <;> decide)
  have key := pe_callB (pos := pos) (p := p) call_isi hx hm (by decide +kernel) (pa_cons ha (pa_cons pn pa_nil rfl) he) (by decide) (by decide) he rfl
  exact peImp key fun σ H Q ⟨wd, E, L, rs, w, run⟩ => ⟨wd, E, L, rs, w, run.bind.imp fun v H1 ⟨wd1, d1, L1, e1, w1, r1, run1⟩ => by
    obtain ⟨k, h1, h2⟩ := optV_run run1
    obtain ⟨s, h3, h4⟩ := isi_of g.K w1 r1 h1
    exact ⟨v, .ty (tyN t), .type s, .type (tyN t), k, rfl, .ty _, h3, kit_ty h4, h2.now w1 (by simp [RelD])⟩⟩

/-! ### methods of built-in types -/
theorem md_list (m : Mth) : typeOf (.builtin ("list." ++ mthN m)) = pure (.type "method_descriptor") ∨ mthD m (.ref 0) [] [] = none := by
  cases m <;> first | exact .inl rfl | exact .inr rfl
end
end MP
set_option maxHeartbeats 4000000
/-! MP: methods, item stores, targets, what is walked -/
namespace MP
open PySem PySem.Spec PyProof.Rows L2
section
variable {G : Gv} {X : Cx} {W : WX} {a b c e o : Expr} {es : List Expr} {ma mb mc mo : Ev → Live → Res D} {ms : Ev → Live → Res (List D)} {pos p2 apos cpos : Pos}

/-! ### methods -/
abbrev mtN : MT → String | .str => "str" | .list => "list" | .dict => "dict"
theorem mth_facts {m : Mth} {L : Live} {d : D} {T : MT} (h : mthTy m L d = some T) : PlainAttrs (mtN T) ∧ Slot (mtN T) (Str.ofString (mthN m)) (mtN T ++ "." ++ mthN m) ∧ typeOf (.builtin (mtN T ++ "." ++ mthN m)) = pure (.type "method_descriptor") := by
  cases d with
  | str z =>
    cases m <;> simp only [mthTy] at h <;> first | cases h | skip
    exact ⟨PySem.F.plainAttrs_str, PySem.F.slot_str_join, rfl⟩
  | ref n =>
    simp only [mthTy] at h
    cases q : L[n]? with
    | none => rw [q] at h; cases h
    | some o =>
      rw [q] at h
      cases o with
      | lst ds =>
        cases m <;> simp only at h <;> first | cases h | skip
        · exact ⟨PySem.F.plainAttrs_list, PySem.F.slot_list_append, rfl⟩
        · exact ⟨PySem.F.plainAttrs_list, PySem.F.slot_list_extend, rfl⟩
        · exact ⟨PySem.F.plainAttrs_list, PySem.F.slot_list_pop, rfl⟩
        · exact ⟨PySem.F.plainAttrs_list, PySem.F.slot_list_insert, rfl⟩
        · exact ⟨PySem.F.plainAttrs_list, PySem.F.slot_list_reverse, rfl⟩
        · exact ⟨PySem.F.plainAttrs_list, PySem.F.slot_list_remove, rfl⟩
        · exact ⟨PySem.F.plainAttrs_list, PySem.F.slot_list_clear, rfl⟩
        · exact ⟨PySem.F.plainAttrs_list, PySem.F.slot_list_index, rfl⟩
      | dic kvs =>
        cases m <;> simp only [mthTyK] at h <;> first | cases h | skip
        exact ⟨PySem.F.plainAttrs_dict, PySem.F.slot_dict_pop, PySem.F.type_dict_pop⟩
      | _ => simp at h
  | _ => simp [mthTy] at h
theorem mth_is {m : Mth} {L : Live} {d : D} {T : MT} {wd : Wd} {H : Hp} {x : V} {K : PySem.W.Frag} (h : mthTy m L d = some T) (w : WOk (G := G) wd H L) (r : RelD G wd x d) : tyV K (mtN T) x H := by
  cases d with
  | str z =>
    simp only [RelD] at r
    subst r
    cases m <;> simp only [mthTy] at h <;> cases h
    rfl
  | ref n =>
    simp only [mthTy] at h
    cases q : L[n]? with
    | none => rw [q] at h; cases h
    | some o =>
      rw [q] at h
      obtain ⟨a, rfl, ha, ho, _⟩ := rd_ref w r q
      cases o with
      | lst ds =>
        obtain ⟨xs, hx, _⟩ := ho
        cases m <;> simp only at h <;> cases h <;> exact .inl ⟨rfl, xs, .inl (.inl hx)⟩
      | dic kvs =>
        obtain ⟨ys, hy, _⟩ := ho
        cases m <;> simp only [mthTyK] at h <;> cases h
        exact .inr (.inr (.inl ⟨rfl, .inl ⟨ys, hy⟩⟩))
      | _ => simp at h
  | _ => simp [mthTy] at h
theorem putK_rel {wd : Wd} {k : Key} {v : V} {d : D} (r : RelD G wd v d) : ∀ {ys : List (Key × V)} {kvs : List (Key × D)}, Paired (fun (p : Key × V) (q : Key × D) => p.1 = q.1 ∧ RelD G wd p.2 q.2) ys kvs →
    Paired (fun (p : Key × V) (q : Key × D) => p.1 = q.1 ∧ RelD G wd p.2 q.2) (putK ys k v) (putKey k d kvs) := by
  intro ys kvs h
  have e : (ys.any fun kv => decide (kv.1 = k)) = kvs.any fun kv => decide (kv.1 = k) := by
    induction h with
    | nil => rfl
    | @cons p q ps qs h t ih => rw [List.any_cons, List.any_cons, ih, h.1]
  unfold putK putKey
  rw [e]
  split
  · rename_i hc
    clear e hc
    induction h with
    | nil => exact .nil
    | @cons p q ps qs h t ih =>
      rw [List.map_cons, List.map_cons]
      refine .cons ?_ ih
      by_cases hk : q.1 = k
      · rw [if_pos hk, if_pos (h.1.trans hk)]
        exact ⟨h.1, r⟩
      · rw [if_neg hk, if_neg (fun z => hk (h.1.symm.trans z))]
        exact h
  · rename_i hc
    clear e hc
    induction h with
    | nil => exact .cons ⟨rfl, r⟩ .nil
    | @cons p q ps qs h t ih => exact .cons h ih
theorem dropK_rel {wd : Wd} {k : Key} : ∀ {ys : List (Key × V)} {kvs : List (Key × D)}, Paired (fun (p : Key × V) (q : Key × D) => p.1 = q.1 ∧ RelD G wd p.2 q.2) ys kvs →
    Paired (fun (p : Key × V) (q : Key × D) => p.1 = q.1 ∧ RelD G wd p.2 q.2) (dropK ys k) (dropKey k kvs) := by
  intro ys kvs h
  unfold dropK dropKey
  induction h with
  | nil => exact .nil
  | @cons p q ps qs h t ih =>
    rw [List.filter_cons, List.filter_cons, h.1]
    split
    · exact .cons h ih
    · exact ih

theorem mtk_ok {pins : List (Addr × Obj)} {s : Shared} {σ : L2.St} {H : Hp} {x : V} {xs : List V} {v : Value} {us : List Value} {Q : VK} {wd : Wd} {n : Nat} {kvs : List (Key × D)} {as : List D} {L L' : Live} {d : D} (I : Inv X pins σ H s) (rx : RelV x v) (rs : Vals xs us)
    (w : WOk (G := G) wd H L) (ro : RelD G wd x (.ref n)) (hn : L[n]? = some (.dic kvs)) (ra : RelDs G wd xs as) (hg : mthD .pop (.ref n) as L = some (d, L')) (he : End G wd d L' Q) :
    wpAny (model X.prog X.w) X.A (call (.builtin "dict.pop") (v :: us)) (EP X pins σ Q) X.xe s := by
  obtain ⟨l, rfl, hl, ⟨ys, hy, ry⟩, _⟩ := rd_ref w ro hn
  cases rx
  simp only [mthD, hn] at hg
  have there : ∀ {k : Key} {z : V} {u : Value} {vd : D} {more : List Value}, RelV (kV k) u → getK k kvs = some vd → d = vd → L' = L.set n (.dic (dropKey k kvs)) → (more = [] ∨ ∃ x, more = [x]) → wpAny (model X.prog X.w) X.A (call (.builtin "dict.pop") (.ref l :: u :: more)) (EP X pins σ Q) X.xe s := fun {k z u vd more} ru hk e1 e2 hm => by
    subst e1 e2
    obtain ⟨v1, hv, rv⟩ := (pairK_get (k := k) ry).2 _ hk
    refine d_pop I hy ru hv hm fun w' s' I' rw' => ⟨v1, _, I', rw', ?_⟩
    exact he.now (w.write hn (by simp) hl (fun y z => by rw [hy] at z; cases z) ⟨_, upd_same, dropK_rel ry⟩) rv
  match as, ra, hg with
  | [a], ra, hg =>
    obtain ⟨y, rfl, r1⟩ := one_of ra
    simp only at hg
    cases q : keyOf a with
    | none => rw [q] at hg; cases hg
    | some k =>
      rw [q] at hg
      simp only [Option.map_eq_some_iff, Prod.mk.injEq] at hg
      obtain ⟨vd, hk, e1, e2⟩ := hg
      have ek := key_of r1 q
      subst ek
      cases rs with
      | cons ru rt => cases rt; exact there (z := .non) ru hk e1.symm e2.symm (.inl rfl)
  | [a, b], ra, hg =>
    obtain ⟨y, z, rfl, r1, r2⟩ := two_of ra
    simp only at hg
    cases q : keyOf a with
    | none => rw [q] at hg; cases hg
    | some k =>
      rw [q] at hg
      simp only at hg
      have ek := key_of r1 q
      subst ek
      cases rs with
      | cons ru rt =>
        cases rt with
        | cons ru2 rt =>
          cases rt
          cases hk : getK k kvs with
          | some vd =>
            rw [hk] at hg
            simp only [Option.some.injEq, Prod.mk.injEq] at hg
            exact there (z := .non) ru hk hg.1.symm hg.2.symm (.inr ⟨_, rfl⟩)
          | none =>
            rw [hk] at hg
            simp only [Option.some.injEq, Prod.mk.injEq] at hg
            obtain ⟨rfl, rfl⟩ := hg
            have hv : valV ys k = none := by
              have := pairK_some (k := k) ry
              rw [hk] at this
              simpa using this
            exact d_popD I hy ru hv fun s' I' => ⟨z, _, I', ru2, he.now w r2⟩
  | [], ra, hg => simp at hg
  | _ :: _ :: _ :: _, ra, hg => simp at hg
theorem mth_run (g : Gd G X) {m : Mth} {L L' : Live} {d e : D} {T : MT} {wd : Wd} {H : Hp} {x : V} {xs : List V} {ds : List D} {v : Value} {us : List Value} {pins : List (Addr × Obj)} {s : Shared} {σ : L2.St} {Q : VK} (I : Inv X pins σ H s) (rx : RelV x v) (rs : Vals xs us)
    (h : mthTy m L d = some T) (w : WOk (G := G) wd H L) (r : RelD G wd x d) (ra : RelDs G wd xs ds) (hg : mthD m d ds L = some (e, L')) (he : End G wd e L' Q) :
    wpAny (model X.prog X.w) X.A (call (.builtin (mtN T ++ "." ++ mthN m)) (v :: us)) (EP X pins σ Q) X.xe s := by
  cases d with
  | str z =>
    cases m <;> simp only [mthTy] at h <;> cases h
    exact mts_ok .join g.K I rx rs w r ra hg he
  | ref n =>
    simp only [mthTy] at h
    cases q : L[n]? with
    | none => rw [q] at h; cases h
    | some o =>
      rw [q] at h
      cases o with
      | lst ds =>
        have e1 : T = .list := by cases m <;> simp at h <;> exact h.symm
        subst e1
        exact mtl_ok m I rx rs w r q ra hg he
      | dic kvs =>
        cases m <;> simp only [mthTyK] at h <;> cases h
        exact mtk_ok I rx rs w r q ra hg he
      | _ => simp at h
  | _ => simp [mthTy] at h
theorem me_mth0 (g : Gd G X) (m : Mth) (ho : PE X o (tE G W mo)) (hbase : attributeBase o (Str.ofString (mthN m)) X.env (eval o X.env) = eval o X.env) (hline : (apos.endLine == cpos.line) = true) :
    PE X (.Call (.Attribute o (Str.ofString (mthN m)) apos) [] [] cpos) (tE G W fun E L => (mo E L).bind fun x L1 => match mthTy m L1 x with
      | some T => (Res.ok [] L1).bind fun ds L2 => if mthTy m L2 x = some T then opt (mthD m x ds L2) else .stuck
      | none => .stuck) := by
  refine ⟨fun pins s σ H Q I ⟨wd, E, L, rs, w, run⟩ => ?_⟩
  refine wpAny_Call_method0_late hbase hline (thn (ho.run pins s σ H _ I ⟨wd, E, L, rs, w, run.bind⟩) fun v s1 ⟨x, H1, I1, rx, wd1, d1, L1, e1, w1, r1, run1⟩ => ?_)
  cases q : mthTy m L1 d1 with
  | none => rw [q] at run1; exact False.elim run1
  | some T =>
    rw [q] at run1
    obtain ⟨pa, slot, hty⟩ := mth_facts q
    obtain ⟨h1, h2⟩ := tyV_is I1 rx (mth_is (K := X.K) q w1 r1)
    simp only [Res.bind_ok, q, if_true] at run1
    obtain ⟨d, L', h3, h4⟩ := opt_run run1
    exact ⟨mtN T, mtN T ++ "." ++ mthN m, pa, slot, hty, h1, h2, Calls.callWith_builtin rfl (PySem.evalArgs_none (mth_run g I1 rx .nil q w1 r1 RelDs.nil h3 h4))⟩
theorem me_mth (g : Gd G X) (m : Mth) (ho : PE X o (tE G W mo)) (ha : PA X (e :: es) (tA G W ms)) (hbase : attributeBase o (Str.ofString (mthN m)) X.env (eval o X.env) = eval o X.env)
    (hfew : ((backTo cpos (starEach (e :: es) X.env)).all (fun x => !x.1) && (backToKw cpos (keywordEach [] X.env)).all (fun x => x.1.isSome)
      && decide ((e :: es).length + ([] : List Keyword).length + (if ([] : List Keyword).isEmpty then 0 else 1) < 30)) = true)
    (hline : (apos.endLine == cpos.line) = true) (hs : starEach (e :: es) X.env = (false, eval e X.env) :: starEach es X.env) (hplain : (backTo cpos (starEach es X.env)).any (·.1) = false) :
    PE X (.Call (.Attribute o (Str.ofString (mthN m)) apos) (e :: es) [] cpos) (tE G W fun E L => (mo E L).bind fun x L1 => match mthTy m L1 x with
      | some T => (ms E L1).bind fun ds L2 => if mthTy m L2 x = some T then opt (mthD m x ds L2) else .stuck
      | none => .stuck) := by
  refine ⟨fun pins s σ H Q I ⟨wd, E, L, rs, w, run⟩ => ?_⟩
  refine wpAny_Call_method_late hbase hfew hline rfl (thn (ho.run pins s σ H _ I ⟨wd, E, L, rs, w, run.bind⟩) fun v s1 ⟨x, H1, I1, rx, wd1, d1, L1, e1, w1, r1, run1⟩ => ?_)
  cases q : mthTy m L1 d1 with
  | none => rw [q] at run1; exact False.elim run1
  | some T =>
    rw [q] at run1
    obtain ⟨pa, slot, hty⟩ := mth_facts q
    obtain ⟨h1, h2⟩ := tyV_is I1 rx (mth_is (K := X.K) q w1 r1)
    refine ⟨mtN T, mtN T ++ "." ++ mthN m, pa, slot, hty, h1, h2, ?_⟩
    have hA := ha.run cpos pins s1 σ H1 _ I1 ⟨wd1, E, L1, rs.ext e1, w1, Run.bind run1⟩
    rw [hs] at hA ⊢
    refine Calls.callWith_builtin (by show (false || (backTo cpos (starEach es X.env)).any (·.1)) = false; rw [hplain] <;> rfl) (Calls.evalArgs_plain ?_)
    refine thn hA fun us s2 ⟨vs, H2, I2, r2, wd2, ds, L2, e2, w2, rd2, run2⟩ => ?_
    split at run2
    · rename_i hT
      obtain ⟨d, L', h3, h4⟩ := opt_run run2
      exact mth_run g I2 rx r2 hT w2 (r1.ext G e2) rd2 h3 h4
    · exact False.elim run2

/-! ### o[i] = v, del o[i] -/
def rSet (G : Gv) : TSet := fun o i v H Q => ∃ wd od id vd L L', WOk (G := G) wd H L ∧ RelD G wd o od ∧ RelD G wd i id ∧ RelD G wd v vd ∧ setD od id vd L = some L' ∧ ∀ wd' H', Ext wd wd' → WOk (G := G) wd' H' L' → Q H'
theorem set_ok (g : Gd G X) : PSet X (rSet G) := by
  intro pins s σ H o i v ov iv u Q I ro ri rv h
  obtain ⟨wd, od, id, vd, L, L', w, ho, hi, hv, hg, q⟩ := h
  cases od with
  | ref n =>
    simp only [setD] at hg
    cases q1 : L[n]? with
    | none => rw [q1] at hg; cases hg
    | some lo =>
      rw [q1] at hg
      obtain ⟨a, rfl, ha, hx, _⟩ := rd_ref w ho q1
      cases lo with
      | lst ds =>
        obtain ⟨ys, hy, ry⟩ := hx
        cases id with
        | int k =>
          simp only [Option.map_eq_some_iff] at hg
          obtain ⟨j, hj, rfl⟩ := hg
          simp only [RelD] at hi
          subst hi
          have len := RelDs.length ry
          refine set_list pins s σ H _ _ v ov iv u Q I ro ri rv ⟨a, ys, k, j, rfl, rfl, hy, by rw [len]; exact hj, ?_⟩
          exact q wd _ (Ext.refl _) (w.write q1 (by simp) ha (fun y z => by rw [hy] at z; cases z) ⟨_, upd_same, RelDs.set hv j ry⟩)
        | _ => simp at hg
      | dic kvs =>
        obtain ⟨ys, hy, ry⟩ := hx
        simp only at hg
        cases q2 : keyOf id with
        | none => rw [q2] at hg; cases hg
        | some k =>
          rw [q2] at hg
          simp only at hg
          split at hg
          · rename_i hz
            simp only [Option.some.injEq] at hg
            subst hg
            have hz' := of_decide_eq_true hz
            cases ro
            have ek := key_of hi q2
            subst ek
            have len : ys.length = kvs.length := ry.length
            refine d_setItem (by have := g.un; omega) I (DPut.k hy (by omega)) ri rv fun s' I' => ⟨_, I', ?_⟩
            exact q wd _ (Ext.refl _) (w.write q1 (by simp) ha (fun y z => by rw [hy] at z; cases z) ⟨_, upd_same, putK_rel hv ry⟩)
          · cases hg
      | _ => simp at hg
  | _ => simp [setD] at hg
theorem del_ok {pins : List (Addr × Obj)} {s : Shared} {σ : L2.St} {H : Hp} {o i : V} {ov iv : Value} {wd : Wd} {od id : D} {L L' : Live} {Q : Unit → Shared → Prop} {E : Value → Shared → Prop} (I : Inv X pins σ H s) (ro : RelV o ov) (ri : RelV i iv) (w : WOk (G := G) wd H L) (ho : RelD G wd o od) (hi : RelD G wd i id)
    (hg : delD od id L = some L') (q : ∀ H' s', Inv X pins σ H' s' → WOk (G := G) wd H' L' → Q () s') : wpAny (model X.prog X.w) X.A (delItem ov iv) Q E s := by
  cases od with
  | ref n =>
    simp only [delD] at hg
    cases q1 : L[n]? with
    | none => rw [q1] at hg; cases hg
    | some lo =>
      rw [q1] at hg
      obtain ⟨a, rfl, ha, hx, _⟩ := rd_ref w ho q1
      cases lo with
      | dic kvs =>
        obtain ⟨ys, hy, ry⟩ := hx
        simp only at hg
        cases q2 : keyOf id with
        | none => rw [q2] at hg; cases hg
        | some k =>
          rw [q2] at hg
          simp only at hg
          split at hg
          · rename_i hz
            simp only [Option.some.injEq] at hg
            subst hg
            cases ro
            have ek := key_of hi q2
            subst ek
            refine d_delItem I hy ri (by rw [pairK_some ry]; exact hz) fun s' I' => q _ _ I' ?_
            exact w.write q1 (by simp) ha (fun y z => by rw [hy] at z; cases z) ⟨_, upd_same, dropK_rel ry⟩
          · cases hg
      | _ => simp at hg
  | _ => simp [delD] at hg

/-! ### targets of names -/
mutual
def slotsG : Tg → List Nat
  | .slot i => [i]
  | .tup gs => slotsGs gs
def slotsGs : List Tg → List Nat
  | [] => []
  | g :: gs => slotsG g ++ slotsGs gs
end
def SameOff (s : List Nat) (σ σ' : L2.St) : Prop := σ'.length = σ.length ∧ ∀ i : Nat, i ∉ s → σ'[i]? = σ[i]?
theorem SameOff.refl (s : List Nat) (σ : L2.St) : SameOff s σ σ := ⟨rfl, fun _ _ => rfl⟩
theorem SameOff.set {s : List Nat} {σ : L2.St} {i : Nat} {v : Option V} (h : i ∈ s) : SameOff s σ (σ.set i v) := ⟨by simp, fun j hj => List.getElem?_set_ne (fun e => hj (by rw [← e]; exact h))⟩
theorem SameOff.trans {s t : List Nat} {a b c : L2.St} (h : SameOff s a b) (k : SameOff t b c) : SameOff (s ++ t) a c :=
  ⟨k.1.trans h.1, fun i hi => by
    simp only [List.mem_append, not_or] at hi
    rw [k.2 i hi.2, h.2 i hi.1]⟩
theorem SameOff.wipe {s vs : List Nat} {a b : L2.St} (h : SameOff s a b) (hs : ∀ i ∈ s, i ∈ vs) : L2.wipe b vs = L2.wipe a vs := by
  have get : ∀ (vs : List Nat) (σ : L2.St) (i : Nat), i < σ.length → (L2.wipe σ vs)[i]? = if i ∈ vs then some none else σ[i]? := by
    intro vs
    induction vs with
    | nil => intro σ i _; simp [L2.wipe]
    | cons v vs ih =>
      intro σ i hi
      unfold L2.wipe
      by_cases e : v = i
      · subst e
        rw [List.getElem?_set_self (by rw [wipe_length]; exact hi)]
        simp
      · rw [List.getElem?_set_ne e, ih σ i hi]
        have : (i ∈ v :: vs) ↔ i ∈ vs := by simp [Ne.symm e]
        simp only [this]
  refine List.ext_getElem? fun i => ?_
  by_cases hi : i < a.length
  · rw [get vs b i (by rw [h.1]; exact hi), get vs a i hi]
    split
    · rfl
    · rename_i hn
      exact h.2 i fun z => hn (hs i z)
  · rw [List.getElem?_eq_none (by rw [wipe_length, h.1]; omega), List.getElem?_eq_none (by rw [wipe_length]; omega)]
def tG (G : Gv) (g : Tg) : TG := fun v σ H Q => ∃ wd d E E' L, RelSt (G := G) wd σ E ∧ WOk (G := G) wd H L ∧ RelD G wd v d ∧ storeG g d E = some E' ∧ ∀ σ', RelSt (G := G) wd σ' E' → SameOff (slotsG g) σ σ' → Q σ' H
def tGs (G : Gv) (gs : List Tg) : TGs := fun vs σ H Q => ∃ wd ds E E' L, RelSt (G := G) wd σ E ∧ WOk (G := G) wd H L ∧ RelDs G wd vs ds ∧ storeGs gs ds E = some E' ∧ ∀ σ', RelSt (G := G) wd σ' E' → SameOff (slotsGs gs) σ σ' → Q σ' H
theorem pgImp {e : Expr} {t t' : TG} (h : PG X e t) (i : ∀ v σ H Q, t' v σ H Q → t v σ H Q) : PG X e t' := ⟨fun pins s σ H v u Q I r q => h.run pins s σ H v u Q I r (i v σ H Q q)⟩
theorem pgsImp {e : List Expr} {t t' : TGs} (h : PGs X e t) (i : ∀ v σ H Q, t' v σ H Q → t v σ H Q) : PGs X e t' := ⟨fun pins s σ H v u Q I r q => h.run pins s σ H v u Q I r (i v σ H Q q)⟩
theorem mg_slot (g : Gd G X) {i : Nat} {x : Str} (hi : X.N[i]? = some x) (hx : Loc X.env.scope x) (hf : X.fn x = true ∨ X.env.scope.names.lookup x = some .local) : PG X (.Name x pos) (tG G (.slot i)) :=
  pgImp (pg_name g.nd hi hx hf) fun v σ H Q ⟨wd, d, E, E', L, rs, w, r, hs, q⟩ => by
    simp only [storeG] at hs
    split at hs
    · simp only [Option.some.injEq] at hs
      subst hs
      exact q _ (rs.set i r) (SameOff.set (by simp [slotsG]))
    · cases hs
theorem mgs_nil : PGs X [] (tGs G []) :=
  pgsImp pgs_nil fun v σ H Q ⟨wd, ds, E, E', L, rs, w, r, hs, q⟩ => by
    cases ds with
    | nil =>
      simp only [RelDs] at r
      simp only [storeGs, Option.some.injEq] at hs
      subst hs
      exact ⟨r, q _ rs (SameOff.refl _ _)⟩
    | cons d ds => simp [storeGs] at hs
theorem mgs_cons {e : Expr} {es : List Expr} {g1 : Tg} {gs : List Tg} (h1 : PG X e (tG G g1)) (h2 : PGs X es (tGs G gs)) (hs : (assignEach (e :: es) X.env).map (·.2) = assign e X.env :: (assignEach es X.env).map (·.2)) : PGs X (e :: es) (tGs G (g1 :: gs)) :=
  pgsImp (pgs_cons h1 h2 hs) fun v σ H Q ⟨wd, ds, E, E', L, rs, w, r, hs, q⟩ => by
    cases ds with
    | nil => simp [storeGs] at hs
    | cons d ds =>
      simp only [RelDs] at r
      obtain ⟨v1, vs, rfl, r1, r2⟩ := r
      simp only [storeGs] at hs
      cases q1 : storeG g1 d E with
      | none => rw [q1] at hs; cases hs
      | some E1 =>
        rw [q1] at hs
        exact ⟨v1, vs, rfl, wd, d, E, E1, L, rs, w, r1, q1, fun σ' rs' so => ⟨wd, ds, E1, E', L, rs', w, r2, hs, fun σ2 rs2 so2 => q σ2 rs2 (so.trans so2)⟩⟩
theorem storeGs_len : ∀ {gs : List Tg} {ds : List D} {E E' : Ev}, storeGs gs ds E = some E' → ds.length = gs.length
  | [], [], _, _, _ => rfl
  | [], _ :: _, _, _, h => by simp [storeGs] at h
  | _ :: _, [], _, _, h => by simp [storeGs] at h
  | g :: gs, d :: ds, E, E', h => by
    simp only [storeGs] at h
    cases q : storeG g d E with
    | none => rw [q] at h; cases h
    | some E1 => rw [q] at h; simp [storeGs_len h]
theorem mg_tup (g : Gd G X) {es : List Expr} {k : Nat} {gs : List Tg} (h : PGs X es (tGs G gs)) (hn : (assignEach es X.env).length = gs.length) (hst : (assignEach es X.env).findIdx? (·.1) = none) : PG X (.Tuple es k pos) (tG G (.tup gs)) :=
  pgImp (pg_tup g.calm h hn hst) fun v σ H Q ⟨wd, d, E, E', L, rs, w, r, hs, q⟩ => by
    cases d with
    | tup ds =>
      simp only [storeG] at hs
      obtain ⟨a, xs, rfl, hx, rx⟩ := rd_tup w r
      exact ⟨a, xs, rfl, by rw [g.K]; exact hx, by rw [RelDs.length rx, storeGs_len hs], wd, ds, E, E', L, rs, w, rx, hs, q⟩
    | _ => simp [storeG] at hs
end
end MP
set_option maxHeartbeats 4000000
/-! MP: what is walked, comprehensions -/
namespace MP
open PySem PySem.Spec PyProof.Rows L2
section
variable {G : Gv} {X : Cx} {W : WX} {a b c e o tg : Expr} {es : List Expr} {ma mb mc mo : Ev → Live → Res D} {ms : Ev → Live → Res (List D)} {pos p2 p apos cpos : Pos}

/-- what is told of trees stays true -/
structure Kp (G : Gv) (wd0 wd : Wd) : Prop where
  rel : ∀ d v, RelD G wd0 v d → RelD G wd v d
  frz : ∀ a od ys, wd0.F a = some (.frz od (.dK ys)) → wd.F a = some (.frz od (.dK ys))
theorem Kp.of {wd0 wd : Wd} (e : Ext wd0 wd) : Kp G wd0 wd := ⟨fun _ _ r => r.ext G e, fun _ _ _ h => e.F _ _ h⟩
theorem Kp.trans {a b c : Wd} (x : Kp G a b) (y : Kp G b c) : Kp G a c := ⟨fun d v r => y.rel d v (x.rel d v r), fun _ _ _ h => y.frz _ _ _ (x.frz _ _ _ h)⟩
theorem Kp.list {wd0 wd : Wd} (k : Kp G wd0 wd) : ∀ {ds : List D} {vs : List V}, RelDs G wd0 vs ds → RelDs G wd vs ds
  | [], vs, r => by simpa [RelDs] using r
  | d :: ds, vs, r => by
    simp only [RelDs] at r ⊢
    obtain ⟨v, us, h1, h2, h3⟩ := r
    exact ⟨v, us, h1, k.rel _ _ h2, k.list h3⟩
theorem Kp.st {wd0 wd : Wd} (k : Kp G wd0 wd) {σ : L2.St} {E : Ev} (r : RelSt (G := G) wd0 σ E) : RelSt (G := G) wd σ E :=
  ⟨r.1, fun i d h => let ⟨v, h1, h2⟩ := r.2 i d h; ⟨v, h1, k.rel _ _ h2⟩⟩
structure WalkD (G : Gv) (wd0 : Wd) (J : L2.It) (ds : List D) (w : List (Nat × List D)) : Prop where
  go : ∀ {wd H L} {i : Nat}, Kp G wd0 wd → WOk (G := G) wd H L → still L w = true → i < ds.length → J.go i H
  yld : ∀ {wd H L} {i : Nat} {x H'} (h : i < ds.length), Kp G wd0 wd → WOk (G := G) wd H L → still L w = true → J.yld i H x H' → ∃ wd', Ext wd wd' ∧ WOk (G := G) wd' H' L ∧ RelD G wd' x ds[i]
  stop : ∀ {wd H L} {i : Nat}, Kp G wd0 wd → WOk (G := G) wd H L → still L w = true → ds.length ≤ i → J.stop i H
def relI (G : Gv) (wd : Wd) (J : L2.It) (p : List D × List (Nat × List D)) : Prop := WalkD G wd J p.1 p.2
def tI (G : Gv) (W : WX) (m : Ev → Live → Res (List D × List (Nat × List D))) : TI := fun σ H R => ∃ wd E L, RelSt (G := G) wd σ E ∧ WOk (G := G) wd H L ∧ Run (G := G) (relI G) W σ wd (m E L) R
theorem lst_at {wd0 : Wd} {a : Addr} {d : D} {L0 : Live} {ds : List D} (r : RelD G wd0 (.ref a) d) (h : lstOf L0 d = some ds) {wd : Wd} {H : Hp} {L : Live} (e : Kp G wd0 wd) (w : WOk (G := G) wd H L) (hs : still L (watch L0 d) = true) : ∃ xs, Rd H a (.lst xs) ∧ RelDs G wd xs ds := by
  cases d with
  | lst t es =>
    simp only [lstOf, Option.some.injEq] at h
    subst h
    obtain ⟨b, xs, e1, h2, h3⟩ := rd_list w (e.rel _ _ r) (ds := es) rfl
    cases e1
    exact ⟨xs, h2, h3⟩
  | ref k =>
    simp only [lstOf] at h
    cases q : L0[k]? with
    | none => rw [q] at h; cases h
    | some o =>
      rw [q] at h
      cases o with
      | lst es =>
        simp only [Option.some.injEq] at h
        subst h
        have hk : L[k]? = some (.lst es) := still_iff.mp hs (k, es) (by simp [watch, q])
        obtain ⟨b, xs, e1, h2, h3⟩ := rd_list w (e.rel _ _ r) (ds := es) (by simp only [lstOf, hk])
        cases e1
        exact ⟨xs, h2, h3⟩
      | _ => simp at h
  | _ => simp [lstOf] at h
theorem walk_list (hK : X.K = G.K) {wd0 : Wd} {a : Addr} {d : D} {L0 : Live} {ds : List D} (r : RelD G wd0 (.ref a) d) (h : lstOf L0 d = some ds) : WalkD G wd0 (Itl X.K a) ds (watch L0 d) where
  go := fun {wd H L i} e w hs hi => by
    obtain ⟨xs, h1, h2⟩ := lst_at r h e w hs
    have len := RelDs.length h2
    exact ⟨xs, xs[i]'(by omega), .inl h1, List.getElem?_eq_getElem _⟩
  yld := fun {wd H L i x H'} hi e w hs y => by
    obtain ⟨xs, h1, h2⟩ := lst_at r h e w hs
    obtain ⟨rfl, y⟩ := y
    obtain ⟨v, h3, h4⟩ := RelDs.get h2 (List.getElem?_eq_getElem hi)
    rw [y xs (.inl h1)] at h3
    cases h3
    exact ⟨wd, Ext.refl _, w, h4⟩
  stop := fun {wd H L i} e w hs hi => by
    obtain ⟨xs, h1, h2⟩ := lst_at r h e w hs
    have len := RelDs.length h2
    exact ⟨xs, .inl h1, by omega⟩
theorem walk_tup (hK : X.K = G.K) {wd0 : Wd} {a : Addr} {ds : List D} (r : RelD G wd0 (.ref a) (.tup ds)) : WalkD G wd0 (Itt X.K a) ds [] where
  go := fun {wd H L i} e w hs hi => by
    obtain ⟨b, xs, e1, h1, h2⟩ := rd_tup w (e.rel _ _ r)
    cases e1
    have len := RelDs.length h2
    exact ⟨xs, xs[i]'(by omega), by rw [hK]; exact h1, List.getElem?_eq_getElem _⟩
  yld := fun {wd H L i x H'} hi e w hs y => by
    obtain ⟨b, xs, e1, h1, h2⟩ := rd_tup w (e.rel _ _ r)
    cases e1
    obtain ⟨rfl, y⟩ := y
    obtain ⟨v, h3, h4⟩ := RelDs.get h2 (List.getElem?_eq_getElem hi)
    rw [y xs (by rw [hK]; exact h1)] at h3
    cases h3
    exact ⟨wd, Ext.refl _, w, h4⟩
  stop := fun {wd H L i} e w hs hi => by
    obtain ⟨b, xs, e1, h1, h2⟩ := rd_tup w (e.rel _ _ r)
    cases e1
    have len := RelDs.length h2
    exact ⟨xs, by rw [hK]; exact h1, by omega⟩
theorem chars_get {x : Str} {i : Nat} : (charsD x)[i]? = (x.cps[i]?).map fun c => D.str ⟨#[c]⟩ := by
  simp [charsD]
theorem walk_str {wd0 : Wd} {x : Str} : WalkD G wd0 (Its x) (charsD x) [] where
  go := fun {wd H L i} e w hs hi => by simpa [charsD, Its] using hi
  yld := fun {wd H L i v H'} hi e w hs y => by
    obtain ⟨rfl, c, h1, rfl⟩ := y
    refine ⟨wd, Ext.refl _, w, ?_⟩
    have := (chars_get (x := x) (i := i)).symm
    rw [h1, List.getElem?_eq_getElem hi] at this
    simp only [Option.map_some, Option.some.injEq] at this
    rw [← this]
    simp [RelD]
  stop := fun {wd H L i} e w hs hi => by simpa [charsD, Its] using hi
theorem mi_val (g : Gd G X) (he : PE X e (tE G W ma)) : PI X tg e (tI G W fun E L => (ma E L).bind fun x L1 => (optV (itemsOf L1 x) L1).bind fun ds L2 => .ok (ds, watch L2 x) L2) := by
  refine ⟨fun pins s σ H R I ⟨wd, E, L, rs, w, run⟩ => ?_⟩
  refine thn (he.run pins s σ H _ I ⟨wd, E, L, rs, w, run.bind⟩) fun v s1 ⟨x, H1, I1, rx, wd1, d, L1, e1, w1, r1, run1⟩ => ?_
  obtain ⟨ds, h1, h2⟩ := optV_run run1
  have list : ∀ a, x = .ref a → lstOf L1 d = some ds → wpAny (model X.prog X.w) X.A (pyIter v) (PIE X pins σ tg R) X.xe s1 := fun a ea hl => by
    subst ea
    cases rx
    obtain ⟨b, xs, eb, hx, _⟩ := rd_list w1 r1 hl
    cases eb
    obtain ⟨its, rv, pl, hz⟩ := I1.list (.inl hx)
    refine wpAny_pyIter_list pl.isList ?_
    refine ⟨s1.heap.objs.size, [s1.heap.objs.size], _, _, H1, rfl, I1.kept (t' := s1.toks) fun b o e => Heap.get?_push_of_some _ e, turn_list a _, ⟨_, Heap.get?_push_size _ rfl, rfl, rfl⟩, fun b hb => ?_, h2.now w1 (walk_list g.K r1 hl)⟩
    have e : b = s1.heap.objs.size := by simpa using hb
    subst e
    exact I1.fpOk (Nat.le_refl _) (I1.hok.fresh (Nat.le_refl _))
  cases d with
  | str z =>
    simp only [RelD] at r1
    subst r1
    simp only [itemsOf, Option.some.injEq] at h1
    subst h1
    obtain ⟨t, rfl⟩ := rx
    have q := h2.now w1 (walk_str (x := z))
    cases ha : z.cps.all (· < 128)
    · exact wpAny_pyIter_wide ha (pi_one (tk := s1.toks) I1 _ (turn_str _ z t "str_iterator" (.inr rfl)) ⟨_, Heap.get?_push_size _ rfl, rfl, rfl⟩ q)
    · exact wpAny_pyIter_ascii ha (pi_one (tk := s1.toks) I1 _ (turn_str _ z t "str_ascii_iterator" (.inl rfl)) ⟨_, Heap.get?_push_size _ rfl, rfl, rfl⟩ q)
  | tup es =>
    simp only [itemsOf, seqOf, Option.some.injEq] at h1
    subst h1
    obtain ⟨a, xs, rfl, hx, _⟩ := rd_tup w1 r1
    cases rx
    rw [← g.K] at hx
    obtain ⟨its, rv, pl, hz⟩ := I1.tuple hx
    refine wpAny_pyIter_tuple (show s1.heap.IsTuple a its.toArray from pl) ?_
    refine ⟨s1.heap.objs.size, [s1.heap.objs.size], _, _, H1, rfl, I1.kept (t' := s1.toks) fun b o e => Heap.get?_push_of_some _ e, turn_tuple a _, ⟨_, Heap.get?_push_size _ rfl, rfl, rfl⟩, fun b hb => ?_, h2.now w1 (walk_tup g.K r1)⟩
    have e : b = s1.heap.objs.size := by simpa using hb
    subst e
    exact I1.fpOk (Nat.le_refl _) (I1.hok.fresh (Nat.le_refl _))
  | lst t es =>
    obtain ⟨a, xs, rfl, _⟩ := rd_list w1 r1 (ds := es) rfl
    exact list a rfl h1
  | ref n =>
    have h1' : lstOf L1 (.ref n) = some ds := h1
    obtain ⟨a, xs, rfl, _⟩ := rd_list w1 r1 h1'
    exact list a rfl h1'
  | _ => simp [itemsOf, seqOf, lstOf] at h1
theorem walk_rng {wd0 : Wd} {lo : Int} {n : Nat} : WalkD G wd0 (Itr lo n) ((List.range n).map fun k => D.int (lo + (k : Nat))) [] where
  go := fun {wd H L i} e w hs hi => by simpa [Itr] using hi
  yld := fun {wd H L i v H'} hi e w hs y => by
    obtain ⟨rfl, rfl⟩ := y
    exact ⟨wd, Ext.refl _, w, by simp [RelD]⟩
  stop := fun {wd H L i} e w hs hi => by simpa [Itr] using hi
theorem mi_rng1 (hg : Gl X "range") (hm : X.mg "range" = none) (ha : PE X a (tE G W ma)) (hs : starEach [a] X.env = [(false, eval a X.env)]) :
    PI X tg (.Call (.Name "range" p) [a] [] pos) (tI G W fun E L => (ma E L).bind fun x L1 => (optV (rng1D x) L1).bind fun ds L2 => .ok (ds, []) L2) := by
  have key := pi_range1 (tg := tg) (p := p) (pos := pos) hg hm (pa_cons ha pa_nil hs) hs
  refine ⟨fun pins s σ H R I ⟨wd, E, L, rs, w, run⟩ => key.run pins s σ H R I ⟨wd, E, L, rs, w, run.bind.imp fun v H1 ⟨wd1, d1, L1, e1, w1, r1, run1⟩ => ?_⟩⟩
  obtain ⟨ds, h1, h2⟩ := optV_run run1
  cases d1 with
  | int j =>
    simp only [RelD] at r1
    subst r1
    simp only [rng1D] at h1
    split at h1
    · rename_i hz
      simp only [Bool.and_eq_true, decide_eq_true_eq] at hz
      simp only [Option.some.injEq] at h1
      subst h1
      refine ⟨j, rfl, hz.1, hz.2, h2.now w1 ?_⟩
      have := walk_rng (G := G) (wd0 := wd1) (lo := 0) (n := j.toNat)
      simp only [Int.zero_add] at this
      exact this
    · cases h1
  | _ => simp [rng1D] at h1
theorem mi_rng2 (hg : Gl X "range") (hm : X.mg "range" = none) (ha : PE X a (tE G W ma)) (hb : PE X b (tE G W mb)) (hs : starEach [a, b] X.env = [(false, eval a X.env), (false, eval b X.env)]) (hs2 : starEach [b] X.env = [(false, eval b X.env)]) :
    PI X tg (.Call (.Name "range" p) [a, b] [] pos) (tI G W fun E L => (ma E L).bind fun x L1 => (mb E L1).bind fun y L2 => (optV (rng2D x y) L2).bind fun ds L3 => .ok (ds, []) L3) := by
  have key := pi_range2 (tg := tg) (p := p) (pos := pos) hg hm (pa_cons ha (pa_cons hb pa_nil hs2) (by rw [hs, hs2])) hs hs2
  refine ⟨fun pins s σ H R I ⟨wd, E, L, rs, w, run⟩ => key.run pins s σ H R I ⟨wd, E, L, rs, w, run.bind.imp fun v H1 ⟨wd1, d1, L1, e1, w1, r1, run1⟩ => ⟨wd1, E, L1, rs.ext e1, w1, run1.bind.imp fun u H2 ⟨wd2, d2, L2, e2, w2, r2, run2⟩ => ?_⟩⟩⟩
  obtain ⟨ds, h1, h2⟩ := optV_run run2
  cases d1 with
  | int i =>
    cases d2 with
    | int j =>
      simp only [RelD] at r1 r2
      subst r1 r2
      simp only [rng2D] at h1
      split at h1
      · rename_i hz
        simp only [Bool.and_eq_true, decide_eq_true_eq] at hz
        simp only [Option.some.injEq] at h1
        subst h1
        exact ⟨i, j, rfl, ⟨hz.1.1.1, hz.1.1.2, hz.1.2, hz.2⟩, h2.now w2 walk_rng⟩
      · cases h1
    | _ => simp [rng2D] at h1
  | _ => simp [rng2D] at h1
theorem new_pair {wd : Wd} {H : Hp} {L : Live} {p : Addr} {x y : V} {d1 d2 : D} (w : WOk (G := G) wd H L) (hp : H p = none) (r1 : RelD G wd x d1) (r2 : RelD G wd y d2) : ∃ wd', Ext wd wd' ∧ WOk (G := G) wd' (upd H p (.tup [x, y])) L ∧ RelD G wd' (.ref p) (.tup [d1, d2]) := by
  obtain ⟨e, w'⟩ := w.frz (o := .tup [x, y]) hp (.inr (.inl ⟨_, rfl⟩))
  refine ⟨_, e, w', ?_⟩
  simp only [RelD]
  exact ⟨p, _, rfl, .inl (.inl upd_same), RelDs.cons (r1.ext G e) (RelDs.cons (r2.ext G e) RelDs.nil)⟩
theorem enumD_len {ds : List D} : (enumD ds).length = ds.length := by simp [enumD]
theorem enumD_get {ds : List D} {i : Nat} (h : i < (enumD ds).length) : (enumD ds)[i] = .tup [.int (i : Nat), ds[i]'(by simpa [enumD] using h)] := by simp [enumD]
theorem walk_enum (hK : X.K = G.K) {wd0 : Wd} {a : Addr} {d : D} {L0 : Live} {ds : List D} (r : RelD G wd0 (.ref a) d) (h : lstOf L0 d = some ds) : WalkD G wd0 (Ite X.K a) (enumD ds) (watch L0 d) where
  go := fun {wd H L i} e w hs hi => by
    rw [enumD_len] at hi
    obtain ⟨xs, h1, h2⟩ := lst_at r h e w hs
    have len := RelDs.length h2
    exact ⟨xs, xs[i]'(by omega), .inl h1, List.getElem?_eq_getElem _⟩
  yld := fun {wd H L i v H'} hi e w hs y => by
    obtain ⟨xs, h1, h2⟩ := lst_at r h e w hs
    obtain ⟨T, x, rfl, hT, rfl, y⟩ := y
    rw [enumD_get hi]
    obtain ⟨v, h3, h4⟩ := RelDs.get h2 (List.getElem?_eq_getElem (by simpa [enumD] using hi))
    rw [y xs (.inl h1)] at h3
    cases h3
    exact new_pair w hT (by simp [RelD]) h4
  stop := fun {wd H L i} e w hs hi => by
    rw [enumD_len] at hi
    obtain ⟨xs, h1, h2⟩ := lst_at r h e w hs
    have len := RelDs.length h2
    exact ⟨xs, .inl h1, by omega⟩
theorem mi_enum (g : Gd G X) {elts : List Expr} {kk : Nat} {tpos : Pos} (hg : Gl X "enumerate") (hm : X.mg "enumerate" = none) (ha : PE X a (tE G W ma)) (hs : starEach [a] X.env = [(false, eval a X.env)]) :
    PI X (.Tuple elts kk tpos) (.Call (.Name "enumerate" p) [a] [] pos) (tI G W fun E L => (ma E L).bind fun x L1 => (optV (lstOf L1 x) L1).bind fun ds L2 => .ok (enumD ds, watch L2 x) L2) := by
  have key := pi_enum (elts := elts) (kk := kk) (tpos := tpos) (p := p) (pos := pos) hg hm (pa_cons ha pa_nil hs) hs
  refine ⟨fun pins s σ H R I ⟨wd, E, L, rs, w, run⟩ => key.run pins s σ H R I ⟨wd, E, L, rs, w, run.bind.imp fun v H1 ⟨wd1, d1, L1, e1, w1, r1, run1⟩ => ?_⟩⟩
  obtain ⟨ds, h1, h2⟩ := optV_run run1
  obtain ⟨a, xs, rfl, hx, _⟩ := rd_list w1 r1 h1
  exact ⟨a, xs, rfl, .inl hx, h2.now w1 (walk_enum g.K r1 h1)⟩
theorem zipD_len {ds es : List D} : (zipD ds es).length = min ds.length es.length := by simp [zipD]
theorem zipD_get {ds es : List D} {i : Nat} (h : i < (zipD ds es).length) : (zipD ds es)[i] = .tup [ds[i]'(by rw [zipD_len] at h; omega), es[i]'(by rw [zipD_len] at h; omega)] := by simp [zipD]
theorem still_app {L : Live} {w w' : List (Nat × List D)} (h : still L (w ++ w') = true) : still L w = true ∧ still L w' = true := by
  simp only [still, List.all_append, Bool.and_eq_true] at h
  exact h
theorem walk_zip (hK : X.K = G.K) {wd0 : Wd} {a b : Addr} {d1 d2 : D} {L0 : Live} {ds es : List D} (r1 : RelD G wd0 (.ref a) d1) (r2 : RelD G wd0 (.ref b) d2) (h1 : lstOf L0 d1 = some ds) (h2 : lstOf L0 d2 = some es) : WalkD G wd0 (Itz X.K a b) (zipD ds es) (watch L0 d1 ++ watch L0 d2) where
  go := fun {wd H L i} e w hs hi => by
    rw [zipD_len] at hi
    obtain ⟨s1, s2⟩ := still_app hs
    obtain ⟨xs, k1, k2⟩ := lst_at r1 h1 e w s1
    obtain ⟨ys, k3, k4⟩ := lst_at r2 h2 e w s2
    have l1 := RelDs.length k2
    have l2 := RelDs.length k4
    exact ⟨xs, ys, xs[i]'(by omega), ys[i]'(by omega), .inl k1, .inl k3, List.getElem?_eq_getElem _, List.getElem?_eq_getElem _⟩
  yld := fun {wd H L i v H'} hi e w hs y => by
    obtain ⟨s1, s2⟩ := still_app hs
    obtain ⟨xs, k1, k2⟩ := lst_at r1 h1 e w s1
    obtain ⟨ys, k3, k4⟩ := lst_at r2 h2 e w s2
    obtain ⟨T, x, y, rfl, hT, rfl, y1, y2⟩ := y
    rw [zipD_get hi]
    rw [zipD_len] at hi
    obtain ⟨v, h3, h4⟩ := RelDs.get k2 (List.getElem?_eq_getElem (i := i) (by omega))
    rw [y1 xs (.inl k1)] at h3
    cases h3
    obtain ⟨v, h5, h6⟩ := RelDs.get k4 (List.getElem?_eq_getElem (i := i) (by omega))
    rw [y2 ys (.inl k3)] at h5
    cases h5
    exact new_pair w hT h4 h6
  stop := fun {wd H L i} e w hs hi => by
    rw [zipD_len] at hi
    obtain ⟨s1, s2⟩ := still_app hs
    obtain ⟨xs, k1, k2⟩ := lst_at r1 h1 e w s1
    obtain ⟨ys, k3, k4⟩ := lst_at r2 h2 e w s2
    have l1 := RelDs.length k2
    have l2 := RelDs.length k4
    exact ⟨xs, ys, .inl k1, .inl k3, by omega⟩
theorem walk_zipT (hK : X.K = G.K) {wd0 : Wd} {a b : Addr} {ds es : List D} (r1 : RelD G wd0 (.ref a) (.tup ds)) (r2 : RelD G wd0 (.ref b) (.tup es)) : WalkD G wd0 (RZ.ItzT X.K a b) (zipD ds es) [] where
  go := fun {wd H L i} e w hs hi => by
    rw [zipD_len] at hi
    obtain ⟨a', xs, ea, k1, k2⟩ := rd_tup w (e.rel _ _ r1)
    cases ea
    obtain ⟨b', ys, eb, k3, k4⟩ := rd_tup w (e.rel _ _ r2)
    cases eb
    have l1 := RelDs.length k2
    have l2 := RelDs.length k4
    exact ⟨xs, ys, xs[i]'(by omega), ys[i]'(by omega), by rw [hK]; exact k1, by rw [hK]; exact k3, List.getElem?_eq_getElem _, List.getElem?_eq_getElem _⟩
  yld := fun {wd H L i v H'} hi e w hs y => by
    obtain ⟨a', xs, ea, k1, k2⟩ := rd_tup w (e.rel _ _ r1)
    cases ea
    obtain ⟨b', ys, eb, k3, k4⟩ := rd_tup w (e.rel _ _ r2)
    cases eb
    obtain ⟨T, x, y, rfl, hT, rfl, y1, y2⟩ := y
    rw [zipD_get hi]
    rw [zipD_len] at hi
    obtain ⟨v, h3, h4⟩ := RelDs.get k2 (List.getElem?_eq_getElem (i := i) (by omega))
    rw [y1 xs (by rw [hK]; exact k1)] at h3
    cases h3
    obtain ⟨v, h5, h6⟩ := RelDs.get k4 (List.getElem?_eq_getElem (i := i) (by omega))
    rw [y2 ys (by rw [hK]; exact k3)] at h5
    cases h5
    exact new_pair w hT h4 h6
  stop := fun {wd H L i} e w hs hi => by
    rw [zipD_len] at hi
    obtain ⟨a', xs, ea, k1, k2⟩ := rd_tup w (e.rel _ _ r1)
    cases ea
    obtain ⟨b', ys, eb, k3, k4⟩ := rd_tup w (e.rel _ _ r2)
    cases eb
    have l1 := RelDs.length k2
    have l2 := RelDs.length k4
    exact ⟨xs, ys, by rw [hK]; exact k1, by rw [hK]; exact k3, by omega⟩
theorem mi_zip (g : Gd G X) {elts : List Expr} {kk : Nat} {tpos : Pos} (hg : Gl X "zip") (hm : X.mg "zip" = none) (ha : PE X a (tE G W ma)) (hb : PE X b (tE G W mb)) (hs : starEach [a, b] X.env = (false, eval a X.env) :: starEach [b] X.env) (hs2 : starEach [b] X.env = [(false, eval b X.env)]) :
    PI X (.Tuple elts kk tpos) (.Call (.Name "zip" p) [a, b] [] pos) (tI G W fun E L => (ma E L).bind fun x L1 => (mb E L1).bind fun y L2 => optV (zipW L2 x y) L2) := by
  have key := RZ.pi_zipA (elts := elts) (kk := kk) (tpos := tpos) (p := p) (pos := pos) hg hm (pa_cons ha (pa_cons hb pa_nil hs2) hs) hs (by rw [hs2]; rfl)
  refine ⟨fun pins s σ H R I ⟨wd, E, L, rs, w, run⟩ => key.run pins s σ H R I ⟨wd, E, L, rs, w, run.bind.imp fun v H1 ⟨wd1, d1, L1, e1, w1, r1, run1⟩ => ⟨wd1, E, L1, rs.ext e1, w1, run1.bind.imp fun u H2 ⟨wd2, d2, L2, e2, w2, r2, run2⟩ => ?_⟩⟩⟩
  obtain ⟨z, h1, h4⟩ := optV_run' run2
  have r1 := r1.ext G e2
  have lists : (∀ xs, d1 ≠ .tup xs) → ∃ a b xs ys, [v, u] = [V.ref a, .ref b] ∧ ((SqL X.K H2 a xs ∧ SqL X.K H2 b ys ∧ R (Itz X.K a b) H2) ∨ (SqT X.K H2 a xs ∧ SqT X.K H2 b ys ∧ R (RZ.ItzT X.K a b) H2)) := fun hne => by
    have hz : ∃ ds es, lstOf L2 d1 = some ds ∧ lstOf L2 d2 = some es ∧ z = (zipD ds es, watch L2 d1 ++ watch L2 d2) := by
      cases d1 with
      | tup xs => exact absurd rfl (hne xs)
      | _ =>
        simp only [zipW] at h1
        split at h1
        · rename_i ds q1
          split at h1
          · rename_i es q2
            simp only [Option.some.injEq] at h1
            exact ⟨ds, es, q1, q2, h1.symm⟩
          · cases h1
        · cases h1
    obtain ⟨ds, es, q1, q2, rfl⟩ := hz
    obtain ⟨a, xs, rfl, hx, _⟩ := rd_list w2 r1 q1
    obtain ⟨b, ys, rfl, hy, _⟩ := rd_list w2 r2 q2
    exact ⟨a, b, xs, ys, rfl, .inl ⟨.inl hx, .inl hy, h4.now w2 (walk_zip g.K r1 r2 q1 q2)⟩⟩
  cases d1 with
  | tup xs =>
    simp only [zipW] at h1
    cases d2 with
    | tup ys =>
      simp only [Option.some.injEq] at h1
      subst h1
      obtain ⟨a, us, rfl, hx, _⟩ := rd_tup w2 r1
      obtain ⟨b, ws, rfl, hy, _⟩ := rd_tup w2 r2
      exact ⟨a, b, us, ws, rfl, .inr ⟨by rw [g.K]; exact hx, by rw [g.K]; exact hy, h4.now w2 (walk_zipT g.K r1 r2)⟩⟩
    | _ => cases h1
  | _ => exact lists fun xs => by simp
/-! ### comprehensions -/
theorem relSt_wipe {wd : Wd} {σ : L2.St} {E : Ev} (rs : RelSt (G := G) wd σ E) : ∀ vs : List Nat, RelSt (G := G) wd (L2.wipe σ vs) (wipeE E vs)
  | [] => rs
  | v :: vs => (relSt_wipe rs vs).wipe v
/-- the new list is no one's -/
def Wd.hide (wd : Wd) (p : Addr) (xs : List V) : Wd := { ι := wd.ι, F := upd wd.F p (.lst xs), bor := p :: wd.bor }
def Wd.show (wd : Wd) (p : Addr) (bor : List Addr) : Wd := { ι := wd.ι, F := fun a => if a = p then none else wd.F a, bor := bor }
/-- p holds a list that no tree tells of -/
structure Hid (G : Gv) (wd0 wd : Wd) (H : Hp) (p : Addr) (xs : List V) : Prop where
  F : wd.F p = some (.lst xs)
  bor : wd.bor = p :: wd0.bor
  ι : ∀ n, wd.ι n ≠ some p
theorem hid_at {wd0 wd : Wd} {H : Hp} {L : Live} {p : Addr} {xs : List V} (h : Hid G wd0 wd H p xs) (w : WOk (G := G) wd H L) : H p = some (.lst xs) := w.sub _ _ h.F
mutual
theorem hid_rel {wd0 wd wd' : Wd} {H : Hp} {p : Addr} {xs : List V} (h : Hid G wd0 wd H p xs) (hi : wd'.ι = wd.ι) (hF : ∀ a, a ≠ p → wd'.F a = wd.F a) (hb : ∀ a ∈ wd'.bor, a ∈ wd.bor) : ∀ {d : D} {v : V}, RelD G wd v d → RelD G wd' v d
  | .non, v, r => by simpa [RelD] using r
  | .bl b, v, r => by simpa [RelD] using r
  | .int i, v, r => by simpa [RelD] using r
  | .str s, v, r => by simpa [RelD] using r
  | .ref n, v, r => by simp only [RelD] at r ⊢; rw [hi]; exact r
  | .dct ks ds, v, r => by
    simp only [RelD] at r ⊢
    obtain ⟨a, ys, h1, h2, h3, h4⟩ := r
    have ne : a ≠ p := fun z => by
      subst z
      rw [h.F] at h2; cases h2
    exact ⟨a, ys, h1, by rw [hF a ne]; exact h2, h3, hid_rels h hi hF hb h4⟩
  | .tup ds, v, r => by
    simp only [RelD] at r ⊢
    obtain ⟨a, ys, h1, h2, h3⟩ := r
    refine ⟨a, ys, h1, ?_, hid_rels h hi hF hb h3⟩
    rcases h2 with h2 | h2
    · have ne : a ≠ p := fun z => by
        subst z
        rcases h2 with h2 | ⟨o, h2⟩
        · rw [h.F] at h2; cases h2
        · rw [h.F] at h2; cases h2
      refine .inl ?_
      unfold Rd
      rw [hF a ne]
      exact h2
    · exact .inr h2
  | .lst t ds, v, r => by
    simp only [RelD] at r ⊢
    obtain ⟨a, ys, h1, h2, h3, h4, h5⟩ := r
    have ne : a ≠ p := fun z => by
      subst z
      cases t with
      | zero => exact h4 rfl (by rw [h.bor]; simp)
      | succ k => exact h.ι k (h5 k rfl)
    refine ⟨a, ys, h1, ?_, hid_rels h hi hF hb h3, fun e z => h4 e (hb a z), by rw [hi]; exact h5⟩
    unfold Rd
    rw [hF a ne]
    exact h2
theorem hid_rels {wd0 wd wd' : Wd} {H : Hp} {p : Addr} {xs : List V} (h : Hid G wd0 wd H p xs) (hi : wd'.ι = wd.ι) (hF : ∀ a, a ≠ p → wd'.F a = wd.F a) (hb : ∀ a ∈ wd'.bor, a ∈ wd.bor) : ∀ {ds : List D} {vs : List V}, RelDs G wd vs ds → RelDs G wd' vs ds
  | [], vs, r => by simpa [RelDs] using r
  | d :: ds, vs, r => by
    simp only [RelDs] at r ⊢
    obtain ⟨v, us, h1, h2, h3⟩ := r
    exact ⟨v, us, h1, hid_rel h hi hF hb h2, hid_rels h hi hF hb h3⟩
end
mutual
theorem hide_rel {wd : Wd} {p : Addr} {xs : List V} (nF : wd.F p = none) : ∀ {d : D} {v : V}, RelD G wd v d → RelD G (wd.hide p xs) v d
  | .non, v, r => by simpa [RelD] using r
  | .bl b, v, r => by simpa [RelD] using r
  | .int i, v, r => by simpa [RelD] using r
  | .str s, v, r => by simpa [RelD] using r
  | .ref n, v, r => by simpa [RelD, Wd.hide] using r
  | .dct ks ds, v, r => by
    simp only [RelD] at r ⊢
    obtain ⟨a, ys, h1, h2, h3, h4⟩ := r
    exact ⟨a, ys, h1, upd_keeps nF _ _ h2, h3, hide_rels nF h4⟩
  | .tup ds, v, r => by
    simp only [RelD] at r ⊢
    obtain ⟨a, ys, h1, h2, h3⟩ := r
    exact ⟨a, ys, h1, SqT.mono (fun a o h => upd_keeps nF a o h) h2, hide_rels nF h3⟩
  | .lst t ds, v, r => by
    simp only [RelD] at r ⊢
    obtain ⟨a, ys, h1, h2, h3, h4, h5⟩ := r
    refine ⟨a, ys, h1, Rd.mono (fun a o h => upd_keeps nF a o h) h2, hide_rels nF h3, fun e z => ?_, h5⟩
    rcases List.mem_cons.mp z with rfl | z
    · obtain ⟨u, hu⟩ := Rd.dom h2
      rw [nF] at hu; cases hu
    · exact h4 e z
theorem hide_rels {wd : Wd} {p : Addr} {xs : List V} (nF : wd.F p = none) : ∀ {ds : List D} {vs : List V}, RelDs G wd vs ds → RelDs G (wd.hide p xs) vs ds
  | [], vs, r => by simpa [RelDs] using r
  | d :: ds, vs, r => by
    simp only [RelDs] at r ⊢
    obtain ⟨v, us, h1, h2, h3⟩ := r
    exact ⟨v, us, h1, hide_rel nF h2, hide_rels nF h3⟩
end
theorem hide_ok {wd : Wd} {H : Hp} {L : Live} (w : WOk (G := G) wd H L) {p : Addr} {xs : List V} (hp : H p = none) : WOk (G := G) (wd.hide p xs) (upd H p (.lst xs)) L ∧ Hid G wd (wd.hide p xs) (upd H p (.lst xs)) p xs := by
  obtain ⟨e, w'⟩ := w.frz (o := .lst xs) hp (.inl ⟨_, rfl⟩)
  have nF := w.fnone hp
  have ni : ∀ n, wd.ι n ≠ some p := fun n z => by
    obtain ⟨o, ho⟩ := w.there n p z
    rw [hp] at ho; cases ho
  refine ⟨⟨w'.sub, fun n o h => ?_, w'.dom, w'.inj, fun a ha => ?_, w'.seq, w'.there⟩, ⟨upd_same, rfl, ni⟩⟩
  · obtain ⟨a, h1, h2, h3⟩ := w.live n o h
    refine ⟨a, h1, relO_of (fun _ _ => hide_rel nF) (fun _ _ => hide_rels nF) rfl (h2.heap (upd_keeps hp)), fun g => ?_⟩
    show upd wd.F p (.lst xs) a = none
    rw [upd_ne (fun z => ni n (by rw [← z]; exact h1))]
    exact h3 g
  · rcases List.mem_cons.mp ha with rfl | ha
    · exact ⟨_, upd_same⟩
    · exact w'.bor a ha
/-- an item more -/
theorem Hid.app {wd0 wd : Wd} {H : Hp} {L : Live} {p : Addr} {xs : List V} (h : Hid G wd0 wd H p xs) (w : WOk (G := G) wd H L) (ys : List V) :
    WOk (G := G) { wd with F := upd wd.F p (.lst ys) } (upd H p (.lst ys)) L ∧ Hid G wd0 { wd with F := upd wd.F p (.lst ys) } (upd H p (.lst ys)) p ys := by
  have rel : (∀ (d : D) (v : V), RelD G wd v d → RelD G { wd with F := upd wd.F p (.lst ys) } v d) := fun d v => hid_rel (wd' := { wd with F := upd wd.F p (.lst ys) }) h rfl (fun a n => upd_ne n) fun a z => z
  have rels : (∀ (d : List D) (v : List V), RelDs G wd v d → RelDs G { wd with F := upd wd.F p (.lst ys) } v d) := fun d v => hid_rels (wd' := { wd with F := upd wd.F p (.lst ys) }) h rfl (fun a n => upd_ne n) fun a z => z
  have hH := hid_at h w
  have own : ∀ y, H p ≠ some (.own y) := fun y z => by rw [hH] at z; cases z
  refine ⟨⟨fun a o g => ?_, fun n o g => ?_, w.dom, w.inj, fun a ha => ?_, fun a o g => ?_, fun n a g => ?_⟩, ⟨upd_same, h.bor, h.ι⟩⟩
  · by_cases q : a = p
    · subst q
      have g' : upd wd.F a (.lst ys) a = some o := g
      rw [upd_same] at g' ⊢; exact g'
    · have g' : upd wd.F p (.lst ys) a = some o := g
      rw [upd_ne q] at g' ⊢; exact w.sub _ _ g'
  · obtain ⟨a, h1, h2, h3⟩ := w.live n o g
    have ne : a ≠ p := fun z => h.ι n (by rw [← z]; exact h1)
    refine ⟨a, h1, ?_, fun gg => by show upd wd.F p (.lst ys) a = none; rw [upd_ne ne]; exact h3 gg⟩
    cases o with
    | lst ds => obtain ⟨xs, e1, e2⟩ := h2; exact ⟨xs, by rw [upd_ne ne]; exact e1, rels _ _ e2⟩
    | dic kvs => obtain ⟨xs, e1, e2⟩ := h2; exact ⟨xs, by rw [upd_ne ne]; exact e1, Paired.mapP e2 fun _ _ h => ⟨h.1, rel _ _ h.2⟩⟩
    | ins C fs =>
      obtain ⟨ca, dx, gs, e0, e1, e2, e3⟩ := h2
      exact ⟨ca, dx, gs, e0, by rw [upd_ne ne]; exact e1, by rw [upd_ne (fun z => own a (by rw [← z]; exact e2))]; exact e2, Paired.mapP e3 fun _ _ h => ⟨h.1, rel _ _ h.2⟩⟩
    | gone => exact True.intro
  · by_cases q : a = p
    · exact ⟨_, by rw [q]; exact upd_same⟩
    · obtain ⟨o, ho⟩ := w.bor a ha
      exact ⟨o, by show upd wd.F p (.lst ys) a = _; rw [upd_ne q]; exact ho⟩
  · by_cases q : a = p
    · subst q
      have g' : upd wd.F a (.lst ys) a = some o := g
      rw [upd_same] at g'; cases g'; exact .inl ⟨_, rfl⟩
    · have g' : upd wd.F p (.lst ys) a = some o := g
      rw [upd_ne q] at g'; exact w.seq _ _ g'
  · by_cases q : a = p
    · exact ⟨_, by rw [q]; exact upd_same⟩
    · obtain ⟨o, ho⟩ := w.there n a g
      exact ⟨o, by rw [upd_ne q]; exact ho⟩
/-- later, while no one writes it -/
theorem Hid.ext {wd0 wd wd' : Wd} {H H' : Hp} {p : Addr} {xs : List V} (h : Hid G wd0 wd H p xs) (e : Ext wd wd') : Hid G wd0 wd' H' p xs := by
  refine ⟨e.F _ _ h.F, e.bor.trans h.bor, fun n z => ?_⟩
  rcases e.new n p z with g | g
  · exact h.ι n g
  · rw [h.F] at g; cases g
/-- it is a list as others -/
theorem Hid.end_ {wd0 wd : Wd} {H : Hp} {L : Live} {p : Addr} {xs : List V} {ds : List D} {Q : VK} (lv : Bool) (h : Hid G wd0 wd H p xs) (w : WOk (G := G) wd H L) (rs : RelDs G wd xs ds)
    (hι : ∀ n a, wd0.ι n = some a → wd.ι n = some a) (hF : ∀ a o, wd0.F a = some o → wd.F a = some o) (hn : ∀ n a, wd.ι n = some a → wd0.ι n = some a ∨ wd0.F a = none) (nF : wd0.F p = none) (nb : p ∉ wd0.bor)
    (q : End G wd0 (newL lv ds L).1 (newL lv ds L).2 Q) : Q (.ref p) H := by
  have hb : ∀ a ∈ wd0.bor, a ∈ wd.bor := fun a z => by rw [h.bor]; exact List.mem_cons_of_mem _ z
  have hH := hid_at h w
  cases lv with
  | false =>
    have rel : (∀ (d : D) (v : V), RelD G wd v d → RelD G { wd with bor := wd0.bor } v d) := fun d v => hid_rel (wd' := { wd with bor := wd0.bor }) h rfl (fun a n => rfl) hb
    have rels : (∀ (d : List D) (v : List V), RelDs G wd v d → RelDs G { wd with bor := wd0.bor } v d) := fun d v => hid_rels (wd' := { wd with bor := wd0.bor }) h rfl (fun a n => rfl) hb
    refine q { wd with bor := wd0.bor } H _ ⟨hι, hF, rfl, hn⟩ ⟨w.sub, fun n o g => ?_, w.dom, w.inj, fun a ha => w.bor a (hb a ha), w.seq, w.there⟩ ?_
    · obtain ⟨a, h1, h2, h3⟩ := w.live n o g
      exact ⟨a, h1, relO_of rel rels rfl h2, h3⟩
    · show RelD G _ _ (.lst 0 ds)
      simp only [RelD]
      exact ⟨p, xs, rfl, .inl h.F, rels _ _ rs, fun _ => nb, fun k hk => by cases hk⟩
  | true =>
    have hL : ∀ n a, wd.ι n = some a → n ≠ L.length := fun n a z e => absurd (w.dom n a z) (by omega)
    -- first out of the frozen part
    let wd1 : Wd := { ι := wd.ι, F := fun a => if a = p then none else wd.F a, bor := wd0.bor }
    have F1 : ∀ a, a ≠ p → wd1.F a = wd.F a := fun a n => if_neg n
    have rel : (∀ (d : D) (v : V), RelD G wd v d → RelD G wd1 v d) := fun d v => hid_rel (wd' := wd1) h rfl F1 hb
    have rels : (∀ (d : List D) (v : List V), RelDs G wd v d → RelDs G wd1 v d) := fun d v => hid_rels (wd' := wd1) h rfl F1 hb
    have e12 : Ext wd1 { wd1 with ι := fun m => if m = L.length then some p else wd.ι m } := ⟨fun n a z => by
        show (if n = L.length then some p else wd.ι n) = some a
        rw [if_neg (hL n a z)]; exact z, fun _ _ z => z, rfl, fun n a z => by
        have z' : (if n = L.length then some p else wd.ι n) = some a := z
        split at z'
        · cases z'; exact .inr (if_pos rfl)
        · exact .inl z'⟩
    refine q { wd1 with ι := fun m => if m = L.length then some p else wd.ι m } H _ ⟨fun n a z => e12.ι n a (hι n a z), fun a o z => ?_, rfl, fun n a z => ?_⟩ ⟨fun a o z => ?_, fun n o g => ?_, fun n a z => ?_, fun n m a z1 z2 => ?_, fun a ha => ?_, fun a o z => ?_, fun n a z => ?_⟩ ?_
    · rw [F1 a (fun e => by rw [e, nF] at z; cases z)]; exact hF a o z
    · have z' : (if n = L.length then some p else wd.ι n) = some a := z
      split at z'
      · cases z'; exact .inr nF
      · exact hn n a z'
    · have z' : (if a = p then none else wd.F a) = some o := z
      split at z'
      · cases z'
      · exact w.sub _ _ z'
    · show ∃ a, (if n = L.length then some p else wd.ι n) = some a ∧ _
      have g' : (L ++ [LO.lst ds])[n]? = some o := g
      by_cases hlt : n < L.length
      · rw [List.getElem?_append_left hlt] at g'
        obtain ⟨a, h1, h2, h3⟩ := w.live n o g'
        refine ⟨a, by rw [if_neg (by omega)]; exact h1, (relO_of rel rels rfl h2).ext e12, fun gg => ?_⟩
        show (if a = p then none else wd.F a) = none
        split
        · rfl
        · exact h3 gg
      · have hn' : n = L.length := by
          have := (List.getElem?_eq_some_iff.mp g').1
          simp at this; omega
        subst hn'
        simp at g'; subst g'
        exact ⟨p, if_pos rfl, ⟨xs, hH, RelDs.ext G e12 (rels _ _ rs)⟩, fun _ => if_pos rfl⟩
    · have z' : (if n = L.length then some p else wd.ι n) = some a := z
      show n < (L ++ [LO.lst ds]).length
      split at z'
      · simp; omega
      · have := w.dom n a z'; simp; omega
    · have z1' : (if n = L.length then some p else wd.ι n) = some a := z1
      have z2' : (if m = L.length then some p else wd.ι m) = some a := z2
      split at z1' <;> split at z2'
      · omega
      · cases z1'; exact absurd z2' (h.ι m)
      · cases z2'; exact absurd z1' (h.ι n)
      · exact w.inj _ _ _ z1' z2'
    · obtain ⟨o, ho⟩ := w.bor a (hb a ha)
      exact ⟨o, by rw [F1 a (fun e => nb (by rw [← e]; exact ha))]; exact ho⟩
    · have z' : (if a = p then none else wd.F a) = some o := z
      split at z'
      · cases z'
      · exact w.seq _ _ z'
    · have z' : (if n = L.length then some p else wd.ι n) = some a := z
      split at z'
      · cases z'; exact ⟨_, hH⟩
      · exact w.there n a z'
    · show RelD G _ _ (.ref L.length)
      simp only [RelD]
      exact ⟨p, if_pos trivial, rfl⟩

abbrev W0 : WX := fun _ _ _ _ => False
theorem wipe_wipe (σ : L2.St) (vs : List Nat) : L2.wipe (L2.wipe σ vs) vs = L2.wipe σ vs := by
  have get : ∀ (vs : List Nat) (σ : L2.St) (i : Nat), i < σ.length → (L2.wipe σ vs)[i]? = if i ∈ vs then some none else σ[i]? := by
    intro vs
    induction vs with
    | nil => intro σ i _; simp [L2.wipe]
    | cons v vs ih =>
      intro σ i hi
      unfold L2.wipe
      by_cases e : v = i
      · subst e
        rw [List.getElem?_set_self (by rw [wipe_length]; exact hi)]
        simp
      · rw [List.getElem?_set_ne e, ih σ i hi]
        have : (i ∈ v :: vs) ↔ i ∈ vs := by simp [Ne.symm e]
        simp only [this]
  refine List.ext_getElem? fun i => ?_
  by_cases hi : i < σ.length
  · rw [get vs (L2.wipe σ vs) i (by rw [wipe_length]; exact hi), get vs σ i hi]
    split <;> rfl
  · rw [List.getElem?_eq_none (by rw [wipe_length, wipe_length]; omega), List.getElem?_eq_none (by rw [wipe_length]; omega)]
theorem mc_nil : PTs X [] (tT G W fun _ L => .ok true L) :=
  ⟨fun pins s σ H Q I ⟨wd, E, L, rs, w, run⟩ => pts_nil.run pins s σ H Q I (run.now w rfl)⟩
theorem mc_one {tc : Ev → Live → Res Bool} (h : PT X c (tT G W tc)) : PTs X [c] (tT G W tc) := pts_one h
theorem me_comp_gen (lv : Bool) {own : List (Str × Nat)} {gt : Tg} {tc : Ev → Live → Res Bool} {me : Ev → Live → Res D} (hsl : ∀ i ∈ slotsG gt, i ∈ own.map (·.2)) {σ : L2.St} {H : Hp} {Q : VK} {ti : TI} {wd : Wd} {E : Ev} (rs : RelSt (G := G) wd σ E)
    (hti : ∀ R : L2.It → Hp → Prop, (∀ J H1, (∃ wd1 ds wt L1, Ext wd wd1 ∧ WOk (G := G) wd1 H1 L1 ∧ relI G wd1 J (ds, wt) ∧ Run (G := G) (RelD G) W σ wd1 ((compL wt gt (wipeE E (own.map (·.2))) tc me ds [] L1).bind fun ds L2 => opt (some (newL lv ds L2))) Q) → R J H1) → ti σ H R) :
    tLc ti (tG G gt) (tT G W0 tc) (tE G W0 me) (own.map (·.2)) σ H Q := by
  refine hti _ fun J H1 ⟨wd1, ds, wt, L1, e1, w1, r1, run1⟩ => fun Da hD => ?_
  have nF := w1.fnone hD
  have nb : Da ∉ wd1.bor := fun z => by
    obtain ⟨o, ho⟩ := w1.bor _ z
    rw [nF] at ho; cases ho
  obtain ⟨wh, hh⟩ := hide_ok (xs := []) w1 hD
  have rs1 := rs.ext e1
  refine ⟨fun i m H => m = ds.length - i ∧ i ≤ ds.length ∧ ∃ wd2 acc accD L2, (∀ n a, wd1.ι n = some a → wd2.ι n = some a) ∧ (∀ a o, wd1.F a = some o → wd2.F a = some o) ∧ (∀ n a, wd2.ι n = some a → wd1.ι n = some a ∨ wd1.F a = none) ∧ Kp G wd1 wd2 ∧
      Hid G wd1 wd2 H Da acc ∧ WOk (G := G) wd2 H L2 ∧ RelDs G wd2 acc accD ∧ Run (G := G) (RelD G) W σ wd1 ((compL wt gt (wipeE E (own.map (·.2))) tc me (ds.drop i) accD L2).bind fun ds L2 => opt (some (newL lv ds L2))) Q,
    ⟨ds.length, by simp, Nat.zero_le _, wd1.hide Da [], [], [], L1, fun _ _ h => h, fun a o h => upd_keeps nF a o h, fun _ _ h => .inl h, ⟨fun _ _ => hide_rel nF, fun a od ys h => upd_keeps nF a _ h⟩, hh, wh, RelDs.nil, run1⟩, ?_⟩
  rintro i m H2 ⟨rfl, hi', wd2, acc, accD, L2, k1, k2, k3, k4, hid, w2, ra, run2⟩
  by_cases hlt : i < ds.length
  · right
    rw [List.drop_eq_getElem_cons hlt] at run2
    simp only [compL] at run2
    split at run2
    case isFalse => exact False.elim run2
    rename_i hstill
    cases qs : storeG gt ds[i] (wipeE E (own.map (·.2))) with
    | none => rw [qs] at run2; exact False.elim run2
    | some E' =>
      rw [qs] at run2
      dsimp only at run2
      refine ⟨r1.go k4 w2 hstill hlt, fun H' => ∃ m', m' < ds.length - i ∧ (m' = ds.length - (i + 1) ∧ i + 1 ≤ ds.length ∧ ∃ wd2 acc accD L2, (∀ n a, wd1.ι n = some a → wd2.ι n = some a) ∧ (∀ a o, wd1.F a = some o → wd2.F a = some o) ∧ (∀ n a, wd2.ι n = some a → wd1.ι n = some a ∨ wd1.F a = none) ∧ Kp G wd1 wd2 ∧
        Hid G wd1 wd2 H' Da acc ∧ WOk (G := G) wd2 H' L2 ∧ RelDs G wd2 acc accD ∧ Run (G := G) (RelD G) W σ wd1 ((compL wt gt (wipeE E (own.map (·.2))) tc me (ds.drop (i + 1)) accD L2).bind fun ds L2 => opt (some (newL lv ds L2))) Q), fun H' h => h, fun x H' y => ?_⟩
      obtain ⟨wd3, e3, w3, r3⟩ := r1.yld hlt k4 w2 hstill y
      have step : ∀ {wd4 : Wd} {H4 : Hp}, Ext wd3 wd4 → (∀ n a, wd1.ι n = some a → wd4.ι n = some a) ∧ (∀ a o, wd1.F a = some o → wd4.F a = some o) ∧ (∀ n a, wd4.ι n = some a → wd1.ι n = some a ∨ wd1.F a = none) ∧ Kp G wd1 wd4 ∧ Hid G wd1 wd4 H4 Da acc ∧ RelDs G wd4 acc accD := fun {wd4 H4} e4 => by
        have e24 := e3.trans e4
        refine ⟨fun n a h => e24.ι _ _ (k1 n a h), fun a o h => e24.F _ _ (k2 a o h), fun n a h => ?_, k4.trans (Kp.of e24), hid.ext e24, ra.ext G e24⟩
        rcases e24.new n a h with g | g
        · exact k3 n a g
        · refine .inr ?_
          cases q : wd1.F a with
          | none => rfl
          | some o => rw [k2 a o q] at g; cases g
      refine ⟨wd3, ds[i], wipeE E (own.map (·.2)), E', L2, relSt_wipe (((k4.st rs1)).ext e3) _, w3, r3, qs, fun σ' rs' so => ⟨?_, wd3, E', L2, rs', w3, ?_⟩⟩
      · rw [so.wipe hsl, wipe_wipe]
      · cases qt : tc E' L2 with
        | stuck => rw [qt] at run2; exact False.elim run2
        | exc C fs L' => rw [qt] at run2; exact False.elim run2
        | ok b L3 =>
          rw [qt] at run2
          simp only at run2
          intro wd4 H4 b' e4 w4 rb
          have rb : b' = b := rb
          subst rb
          cases b' with
          | false =>
            simp only [Bool.false_eq_true, if_false] at run2
            rw [if_neg Bool.false_ne_true]
            obtain ⟨s1, s2, s3, s4, s5, s6⟩ := step (H4 := H4) e4
            exact ⟨_, by omega, rfl, hlt, wd4, acc, accD, L3, s1, s2, s3, s4, s5, w4, s6, run2⟩
          | true =>
            simp only [if_true] at run2
            rw [if_pos rfl]
            refine ⟨wd4, E', L3, rs'.ext e4, w4, ?_⟩
            cases qm : me E' L3 with
            | stuck => rw [qm] at run2; exact False.elim run2
            | exc C fs L' => rw [qm] at run2; exact False.elim run2
            | ok xd L4 =>
              rw [qm] at run2
              simp only at run2
              intro wd5 H5 y5 e5 w5 ry
              split at run2
              case isFalse => exact False.elim run2
              rename_i hz
              obtain ⟨s1, s2, s3, s4, s5, s6⟩ := step (H4 := H5) (e4.trans e5)
              obtain ⟨w6, h6⟩ := s5.app w5 (acc ++ [y5])
              have len := RelDs.length s6
              have up : Kp G wd5 { wd5 with F := upd wd5.F Da (.lst (acc ++ [y5])) } := ⟨fun d v => hid_rel (wd' := { wd5 with F := upd wd5.F Da (.lst (acc ++ [y5])) }) s5 rfl (fun a n => upd_ne n) fun a z => z, fun a od zs h => by
                have h2 := s5.F
                by_cases q : a = Da
                · rw [q, h2] at h; cases h
                · exact (upd_ne q).trans h⟩
              refine ⟨acc, hid_at s5 w5, by omega, _, by omega, rfl, hlt, { wd5 with F := upd wd5.F Da (.lst (acc ++ [y5])) }, acc ++ [y5], accD ++ [xd], L4, s1, fun a o h => ?_, s3, s4.trans up, h6, w6, up.list (RelDs.append s6 (RelDs.cons ry RelDs.nil)), run2⟩
              show upd wd5.F Da (.lst (acc ++ [y5])) a = some o
              rw [upd_ne (fun z => by rw [z, nF] at h; cases h)]
              exact s2 a o h
  · left
    have ei : i = ds.length := by omega
    subst ei
    rw [List.drop_length] at run2
    simp only [compL] at run2
    split at run2
    case isFalse => exact False.elim run2
    rename_i hstill
    refine ⟨r1.stop k4 w2 hstill (Nat.le_refl _), ?_⟩
    exact hid.end_ lv w2 ra k1 k2 k3 nF nb run2

theorem me_comp (g : Gd G X) (lv : Bool) {elt iter : Expr} {ifs : List Expr} {scope : Scope} {own : List (Str × Nat)} {mi : Ev → Live → Res (List D × List (Nat × List D))} {gt : Tg} {tc : Ev → Live → Res Bool} {me : Ev → Live → Res D}
    (hi : PI X tg iter (tI G W mi)) (ok : BlkOk X.N X.env.scope scope own)
    (hg : ∀ (s : Shared) (H : Hp) (C : Addr) (cl : List (Str × Addr)) (fp : List Addr), PG (X.blk s H scope (compEnvC scope cl C X.env) fp) tg (tG G gt)) (ht : ∀ (s : Shared) (H : Hp) (C : Addr) (cl : List (Str × Addr)) (fp : List Addr), PTs (X.blk s H scope (compEnvC scope cl C X.env) fp) ifs (tT G W0 tc))
    (he : ∀ (s : Shared) (H : Hp) (C : Addr) (cl : List (Str × Addr)) (fp : List Addr), PE (X.blk s H scope (compEnvC scope cl C X.env) fp) elt (tE G W0 me)) (hsl : ∀ i ∈ slotsG gt, i ∈ own.map (·.2)) {σ : L2.St} {H : Hp} {Q : VK}
    (hw : tE G W (fun E L => (mi E L).bind fun p L1 => (compL p.2 gt (wipeE E (own.map (·.2))) tc me p.1 [] L1).bind fun ds L2 => opt (some (newL lv ds L2))) σ H Q) :
    tLc (tI G W mi) (tG G gt) (tT G W0 tc) (tE G W0 me) (own.map (·.2)) σ H Q := by
  obtain ⟨wd, E, L, rs, w, run⟩ := hw
  exact me_comp_gen lv hsl rs fun R hR => ⟨wd, E, L, rs, w, run.bind.imp fun J H1 ⟨wd1, p, L1, e1, w1, r1, run1⟩ => hR J H1 ⟨wd1, p.1, p.2, L1, e1, w1, r1, run1⟩⟩

def inn (mi1 : Ev → Live → Res (List D × List (Nat × List D))) (gt1 : Tg) (own1 : List Nat) (tc1 : Ev → Live → Res Bool) (me : Ev → Live → Res D) (E' : Ev) (acc : List D) (L' : Live) : Res (List D) :=
  (mi1 E' L').bind fun q L2 => compL q.2 gt1 (wipeE E' own1) tc1 me q.1 acc L2
theorem me_comp2 (lv : Bool) {own : List (Str × Nat)} {own1 : List Nat} {mi mi1 : Ev → Live → Res (List D × List (Nat × List D))} {gt gt1 : Tg} {tc tc1 : Ev → Live → Res Bool} {me : Ev → Live → Res D}
    (hsl : ∀ i ∈ slotsG gt, i ∈ own.map (·.2)) (hsl1 : ∀ i ∈ slotsG gt1, i ∈ own1) {σ : L2.St} {H : Hp} {Q : VK}
    (hw : tE G W (fun E L => (mi E L).bind fun p L1 => (compF p.2 gt (wipeE E (own.map (·.2))) tc (inn mi1 gt1 own1 tc1 me) p.1 [] L1).bind fun ds L2 => opt (some (newL lv ds L2))) σ H Q) :
    L2.tLc2 (tI G W mi) (tG G gt) (tT G W0 tc) (tI G W0 mi1) (tG G gt1) (tT G W0 tc1) (tE G W0 me) (own.map (·.2)) own1 σ H Q := by
  obtain ⟨wd, E, L, rs, w, run⟩ := hw
  refine ⟨wd, E, L, rs, w, run.bind.imp fun J H1 ⟨wd1, p, L1, e1, w1, r1, run1⟩ => fun Da hD => ?_⟩
  obtain ⟨ds, wt⟩ := p
  have nF := w1.fnone hD
  have nb : Da ∉ wd1.bor := fun z => by
    obtain ⟨o, ho⟩ := w1.bor _ z
    rw [nF] at ho; cases ho
  obtain ⟨wh, hh⟩ := hide_ok (xs := []) w1 hD
  have rs1 := rs.ext e1
  refine ⟨fun i m H => m = ds.length - i ∧ i ≤ ds.length ∧ ∃ wd2 acc accD L2, (∀ n a, wd1.ι n = some a → wd2.ι n = some a) ∧ (∀ a o, wd1.F a = some o → wd2.F a = some o) ∧ (∀ n a, wd2.ι n = some a → wd1.ι n = some a ∨ wd1.F a = none) ∧ Kp G wd1 wd2 ∧
      Hid G wd1 wd2 H Da acc ∧ WOk (G := G) wd2 H L2 ∧ RelDs G wd2 acc accD ∧ Run (G := G) (RelD G) W σ wd1 ((compF wt gt (wipeE E (own.map (·.2))) tc (inn mi1 gt1 own1 tc1 me) (ds.drop i) accD L2).bind fun ds L2 => opt (some (newL lv ds L2))) Q,
    ⟨ds.length, by simp, Nat.zero_le _, wd1.hide Da [], [], [], L1, fun _ _ h => h, fun a o h => upd_keeps nF a o h, fun _ _ h => .inl h, ⟨fun _ _ => hide_rel nF, fun a od ys h => upd_keeps nF a _ h⟩, hh, wh, RelDs.nil, run1⟩, ?_⟩
  rintro i m H2 ⟨rfl, hi', wd2, acc, accD, L2, k1, k2, k3, k4, hid, w2, ra, run2⟩
  by_cases hlt : i < ds.length
  · right
    rw [List.drop_eq_getElem_cons hlt] at run2
    simp only [compF] at run2
    split at run2
    case isFalse => exact False.elim run2
    rename_i hstill
    cases qs : storeG gt ds[i] (wipeE E (own.map (·.2))) with
    | none => rw [qs] at run2; exact False.elim run2
    | some E' =>
      rw [qs] at run2
      dsimp only at run2
      refine ⟨r1.go k4 w2 hstill hlt, fun H' => ∃ m', m' < ds.length - i ∧ (m' = ds.length - (i + 1) ∧ i + 1 ≤ ds.length ∧ ∃ wd2 acc accD L2, (∀ n a, wd1.ι n = some a → wd2.ι n = some a) ∧ (∀ a o, wd1.F a = some o → wd2.F a = some o) ∧ (∀ n a, wd2.ι n = some a → wd1.ι n = some a ∨ wd1.F a = none) ∧ Kp G wd1 wd2 ∧
        Hid G wd1 wd2 H' Da acc ∧ WOk (G := G) wd2 H' L2 ∧ RelDs G wd2 acc accD ∧ Run (G := G) (RelD G) W σ wd1 ((compF wt gt (wipeE E (own.map (·.2))) tc (inn mi1 gt1 own1 tc1 me) (ds.drop (i + 1)) accD L2).bind fun ds L2 => opt (some (newL lv ds L2))) Q), fun H' h => h, fun x H' y => ?_⟩
      obtain ⟨wd3, e3, w3, r3⟩ := r1.yld hlt k4 w2 hstill y
      have step : ∀ {wd4 : Wd} {H4 : Hp}, Ext wd3 wd4 → (∀ n a, wd1.ι n = some a → wd4.ι n = some a) ∧ (∀ a o, wd1.F a = some o → wd4.F a = some o) ∧ (∀ n a, wd4.ι n = some a → wd1.ι n = some a ∨ wd1.F a = none) ∧ Kp G wd1 wd4 ∧ Hid G wd1 wd4 H4 Da acc ∧ RelDs G wd4 acc accD := fun {wd4 H4} e4 => by
        have e24 := e3.trans e4
        refine ⟨fun n a h => e24.ι _ _ (k1 n a h), fun a o h => e24.F _ _ (k2 a o h), fun n a h => ?_, k4.trans (Kp.of e24), hid.ext e24, ra.ext G e24⟩
        rcases e24.new n a h with g | g
        · exact k3 n a g
        · refine .inr ?_
          cases q : wd1.F a with
          | none => rfl
          | some o => rw [k2 a o q] at g; cases g
      refine ⟨wd3, ds[i], wipeE E (own.map (·.2)), E', L2, relSt_wipe (((k4.st rs1)).ext e3) _, w3, r3, qs, fun σ' rs' so => ⟨?_, wd3, E', L2, rs', w3, ?_⟩⟩
      · rw [so.wipe hsl, wipe_wipe]
      · cases qt : tc E' L2 with
        | stuck => rw [qt] at run2; exact False.elim run2
        | exc C fs L' => rw [qt] at run2; exact False.elim run2
        | ok b L3 =>
          rw [qt] at run2
          simp only at run2
          intro wd4 H4 b' e4 w4 rb
          have rb : b' = b := rb
          subst rb
          cases b' with
          | false =>
            simp only [Bool.false_eq_true, if_false] at run2
            rw [if_neg Bool.false_ne_true]
            obtain ⟨s1, s2, s3, s4, s5, s6⟩ := step (H4 := H4) e4
            exact ⟨_, by omega, rfl, hlt, wd4, acc, accD, L3, s1, s2, s3, s4, s5, w4, s6, run2⟩
          | true =>
            simp only [if_true] at run2
            rw [if_pos rfl]
            cases qi : mi1 E' L3 with
            | stuck => simp only [inn, qi, Res.bind_stuck] at run2; exact False.elim run2
            | exc C fs L' => simp only [inn, qi] at run2; exact False.elim run2
            | ok q L4 =>
              simp only [inn, qi, Res.bind_ok] at run2
              cases qc : compL q.2 gt1 (wipeE E' own1) tc1 me q.1 accD L4 with
              | stuck => rw [qc] at run2; exact False.elim run2
              | exc C fs L' => rw [qc] at run2; exact False.elim run2
              | ok acc2 L5 =>
                rw [qc] at run2
                simp only at run2
                refine ⟨wd4, E', L3, rs'.ext e4, w4, ?_⟩
                rw [qi]
                intro wd5 H5 J1 e5 w5 r5
                obtain ⟨ds1, wt1⟩ := q
                obtain ⟨s1, s2, s3, s4, s5, s6⟩ := step (H4 := H5) (e4.trans e5)
                refine ⟨fun k n H => n = ds1.length - k ∧ k ≤ ds1.length ∧ ∃ wd6 acc6 accD6 L6, (∀ n a, wd1.ι n = some a → wd6.ι n = some a) ∧ (∀ a o, wd1.F a = some o → wd6.F a = some o) ∧ (∀ n a, wd6.ι n = some a → wd1.ι n = some a ∨ wd1.F a = none) ∧ Kp G wd1 wd6 ∧ Kp G wd5 wd6 ∧ Hid G wd1 wd6 H Da acc6 ∧ WOk (G := G) wd6 H L6 ∧ RelDs G wd6 acc6 accD6 ∧ compL wt1 gt1 (wipeE E' own1) tc1 me (ds1.drop k) accD6 L6 = .ok acc2 L5,
                  ⟨ds1.length, by simp, Nat.zero_le _, wd5, acc, accD, L4, s1, s2, s3, s4, ⟨fun _ _ r => r, fun _ _ _ h => h⟩, s5, w5, s6, qc⟩, ?_⟩
                rintro k n H6 ⟨rfl, hk', wd6, acc6, accD6, L6, t1, t2, t3, t4, t45, hid6, w6, ra6, qc6⟩
                by_cases hlk : k < ds1.length
                · right
                  rw [List.drop_eq_getElem_cons hlk] at qc6
                  simp only [compL] at qc6
                  split at qc6
                  case isFalse => cases qc6
                  rename_i hst1
                  cases qs1 : storeG gt1 ds1[k] (wipeE E' own1) with
                  | none => rw [qs1] at qc6; cases qc6
                  | some E2 =>
                    rw [qs1] at qc6
                    dsimp only at qc6
                    refine ⟨r5.go t45 w6 hst1 hlk, fun H' => ∃ m', m' < ds1.length - k ∧ (m' = ds1.length - (k + 1) ∧ k + 1 ≤ ds1.length ∧ ∃ wd6 acc6 accD6 L6, (∀ n a, wd1.ι n = some a → wd6.ι n = some a) ∧ (∀ a o, wd1.F a = some o → wd6.F a = some o) ∧ (∀ n a, wd6.ι n = some a → wd1.ι n = some a ∨ wd1.F a = none) ∧ Kp G wd1 wd6 ∧ Kp G wd5 wd6 ∧ Hid G wd1 wd6 H' Da acc6 ∧ WOk (G := G) wd6 H' L6 ∧ RelDs G wd6 acc6 accD6 ∧ compL wt1 gt1 (wipeE E' own1) tc1 me (ds1.drop (k + 1)) accD6 L6 = .ok acc2 L5), fun H' h => h, fun x H' y => ?_⟩
                    obtain ⟨wd7, e7, w7, r7⟩ := r5.yld hlk t45 w6 hst1 y
                    have step1 : ∀ {wd8 : Wd} {H8 : Hp}, Ext wd7 wd8 → (∀ n a, wd1.ι n = some a → wd8.ι n = some a) ∧ (∀ a o, wd1.F a = some o → wd8.F a = some o) ∧ (∀ n a, wd8.ι n = some a → wd1.ι n = some a ∨ wd1.F a = none) ∧ Kp G wd1 wd8 ∧ Kp G wd5 wd8 ∧ Hid G wd1 wd8 H8 Da acc6 ∧ RelDs G wd8 acc6 accD6 := fun {wd8 H8} e8 => by
                      have e68 := e7.trans e8
                      refine ⟨fun n a h => e68.ι _ _ (t1 n a h), fun a o h => e68.F _ _ (t2 a o h), fun n a h => ?_, t4.trans (Kp.of e68), t45.trans (Kp.of e68), hid6.ext e68, ra6.ext G e68⟩
                      rcases e68.new n a h with g | g
                      · exact t3 n a g
                      · refine .inr ?_
                        cases q : wd1.F a with
                        | none => rfl
                        | some o => rw [t2 a o q] at g; cases g
                    refine ⟨wd7, ds1[k], wipeE E' own1, E2, L6, relSt_wipe (((t45.st ((rs'.ext e4).ext e5))).ext e7) _, w7, r7, qs1, fun σ3 rs3 so3 => ⟨?_, wd7, E2, L6, rs3, w7, ?_⟩⟩
                    · rw [so3.wipe hsl1, wipe_wipe]
                    · cases qt1 : tc1 E2 L6 with
                      | stuck => rw [qt1] at qc6; cases qc6
                      | exc C fs L' => rw [qt1] at qc6; cases qc6
                      | ok b1 L7 =>
                        rw [qt1] at qc6
                        simp only at qc6
                        intro wd8 H8 b2 e8 w8 rb1
                        have rb1 : b2 = b1 := rb1
                        subst rb1
                        cases b2 with
                        | false =>
                          simp only [Bool.false_eq_true, if_false] at qc6
                          rw [if_neg Bool.false_ne_true]
                          obtain ⟨u1, u2, u3, u4, u5, u6, u7⟩ := step1 (H8 := H8) e8
                          exact ⟨_, by omega, rfl, hlk, wd8, acc6, accD6, L7, u1, u2, u3, u4, u5, u6, w8, u7, qc6⟩
                        | true =>
                          simp only [if_true] at qc6
                          rw [if_pos rfl]
                          refine ⟨wd8, E2, L7, rs3.ext e8, w8, ?_⟩
                          cases qm : me E2 L7 with
                          | stuck => rw [qm] at qc6; cases qc6
                          | exc C fs L' => rw [qm] at qc6; cases qc6
                          | ok xd L8 =>
                            rw [qm] at qc6
                            simp only at qc6
                            intro wd9 H9 y9 e9 w9 ry
                            split at qc6
                            case isFalse => cases qc6
                            rename_i hz
                            obtain ⟨u1, u2, u3, u4, u5, u6, u7⟩ := step1 (H8 := H9) (e8.trans e9)
                            obtain ⟨wA, hA⟩ := u6.app w9 (acc6 ++ [y9])
                            have len := RelDs.length u7
                            have up : Kp G wd9 { wd9 with F := upd wd9.F Da (.lst (acc6 ++ [y9])) } := ⟨fun d v => hid_rel (wd' := { wd9 with F := upd wd9.F Da (.lst (acc6 ++ [y9])) }) u6 rfl (fun a n => upd_ne n) fun a z => z, fun a od zs h => by
                have h2 := u6.F
                by_cases q : a = Da
                · rw [q, h2] at h; cases h
                · exact (upd_ne q).trans h⟩
                            refine ⟨acc6, hid_at u6 w9, by omega, _, by omega, rfl, hlk, { wd9 with F := upd wd9.F Da (.lst (acc6 ++ [y9])) }, acc6 ++ [y9], accD6 ++ [xd], L8, u1, fun a o h => ?_, u3, u4.trans up, u5.trans up, hA, wA, up.list (RelDs.append u7 (RelDs.cons ry RelDs.nil)), qc6⟩
                            show upd wd9.F Da (.lst (acc6 ++ [y9])) a = some o
                            rw [upd_ne (fun z => by rw [z, nF] at h; cases h)]
                            exact u2 a o h
                · left
                  have ek : k = ds1.length := by omega
                  subst ek
                  rw [List.drop_length] at qc6
                  simp only [compL] at qc6
                  split at qc6
                  case isFalse => cases qc6
                  rename_i hst1
                  cases qc6
                  exact ⟨r5.stop t45 w6 hst1 (Nat.le_refl _), _, by omega, rfl, hlt, wd6, acc6, acc2, L5, t1, t2, t3, t4, hid6, w6, ra6, run2⟩
  · left
    have ei : i = ds.length := by omega
    subst ei
    rw [List.drop_length] at run2
    simp only [compF] at run2
    split at run2
    case isFalse => exact False.elim run2
    rename_i hstill
    refine ⟨r1.stop k4 w2 hstill (Nat.le_refl _), ?_⟩
    exact hid.end_ lv w2 ra k1 k2 k3 nF nb run2

end
end MP
set_option maxHeartbeats 4000000
/-! MP: rules for statements -/
namespace MP
open PySem PySem.Spec PyProof.Rows L2
section
variable {G : Gv} {X : Cx} {W : WX} {a b c e o i tg : Expr} {es : List Expr} {ma mb mc mo mi me : Ev → Live → Res D} {ms : Ev → Live → Res (List D)} {pos p2 p apos cpos tpos : Pos} {st : Stmt} {rest body orelse : List Stmt}

variable (G) in
def RunS (W : WX) (wd : Wd) : SRes → Ends → Prop
  | .fl .nx E L, D => ∀ wd' σ' H', Ext wd wd' → WOk (G := G) wd' H' L → RelSt (G := G) wd' σ' E → D.nx σ' H'
  | .fl .bk E L, D => ∀ wd' σ' H', Ext wd wd' → WOk (G := G) wd' H' L → RelSt (G := G) wd' σ' E → D.bk σ' H'
  | .fl .ct E L, D => ∀ wd' σ' H', Ext wd wd' → WOk (G := G) wd' H' L → RelSt (G := G) wd' σ' E → D.ct σ' H'
  | .fl (.rt d) E L, D => ∀ wd' H' v, Ext wd wd' → WOk (G := G) wd' H' L → RelD G wd' v d → D.rt v H'
  | .exc C fs E L, D => ∀ wd' σ' H' cls dx, Ext wd wd' → WOk (G := G) wd' H' L → RelSt (G := G) wd' σ' E → RelX (G := G) wd' H' C fs cls dx → W cls dx σ' H'
  | .stuck, _ => False
variable (G) in
def tS (W : WX) (m : Ev → Live → SRes) : TS := fun D σ H => ∃ wd E L, RelSt (G := G) wd σ E ∧ WOk (G := G) wd H L ∧ RunS G W wd (m E L) D
theorem RunS.ext {wd wd1 : Wd} (e : Ext wd wd1) : ∀ {r : SRes} {D : Ends}, RunS G W wd r D → RunS G W wd1 r D
  | .fl .nx E L, D, h => fun wd' σ' H' e' => h wd' σ' H' (e.trans e')
  | .fl .bk E L, D, h => fun wd' σ' H' e' => h wd' σ' H' (e.trans e')
  | .fl .ct E L, D, h => fun wd' σ' H' e' => h wd' σ' H' (e.trans e')
  | .fl (.rt d) E L, D, h => fun wd' H' v e' => h wd' H' v (e.trans e')
  | .exc C fs E L, D, h => fun wd' σ' H' cls dx e' => h wd' σ' H' cls dx (e.trans e')
  | .stuck, D, h => h
theorem RunS.of {α β : Type} {rel : Wd → β → α → Prop} {wd : Wd} {σ : L2.St} {r : Res α} {E : Ev} {k : α → Live → SRes} {D : Ends} (rs : RelSt (G := G) wd σ E) (h : RunS G W wd (SRes.of r E k) D) :
    Run (G := G) rel W σ wd r fun v H1 => ∃ wd1 d L1, Ext wd wd1 ∧ WOk (G := G) wd1 H1 L1 ∧ rel wd1 v d ∧ RunS G W wd1 (k d L1) D := by
  cases r with
  | ok d L => exact fun wd' H' v e' w r => ⟨wd', d, L, e', w, r, RunS.ext e' h⟩
  | exc C fs L => exact fun wd' H' cls dx e' w x => h wd' σ H' cls dx e' w (rs.ext e') x
  | stuck => exact h
theorem RunS.seq {wd : Wd} {r : SRes} {k : Ev → Live → SRes} {D : Ends} (h : RunS G W wd (r.seq k) D) : RunS G W wd r { D with nx := fun σ' H' => tS G W k D σ' H' } := by
  cases r with
  | fl f E L =>
    cases f with
    | nx => exact fun wd' σ' H' e w rs => ⟨wd', E, L, rs, w, RunS.ext e h⟩
    | bk => exact h
    | ct => exact h
    | rt d => exact h
  | exc C fs E L => exact h
  | stuck => exact h
theorem psImp {st : Stmt} {t t' : TS} (h : PS X st t) (i : ∀ D σ H, t' D σ H → t D σ H) : PS X st t' := ⟨fun pins s σ H D I q => h.run pins s σ H D I (i D σ H q)⟩
theorem pssImp {st : List Stmt} {t t' : TS} (h : PSs X st t) (i : ∀ D σ H, t' D σ H → t D σ H) : PSs X st t' := ⟨fun pins s σ H D I q => h.run pins s σ H D I (i D σ H q)⟩

/-! ### blocks, small statements -/
theorem mss_nil : PSs X [] (tS G W fun E L => .fl .nx E L) := pssImp pss_nil fun D σ H ⟨wd, E, L, rs, w, run⟩ => run wd σ H (Ext.refl _) w rs
theorem mss_cons {m k : Ev → Live → SRes} (h1 : PS X st (tS G W m)) (h2 : PSs X rest (tS G W k)) : PSs X (st :: rest) (tS G W fun E L => (m E L).seq k) :=
  pssImp (pss_cons h1 h2) fun D σ H ⟨wd, E, L, rs, w, run⟩ => ⟨wd, E, L, rs, w, run.seq⟩
theorem ms_pass : PS X (.Pass pos) (tS G W fun E L => .fl .nx E L) := psImp ps_pass fun D σ H ⟨wd, E, L, rs, w, run⟩ => run wd σ H (Ext.refl _) w rs
theorem ms_break : PS X (.Break pos) (tS G W fun E L => .fl .bk E L) := psImp ps_break fun D σ H ⟨wd, E, L, rs, w, run⟩ => run wd σ H (Ext.refl _) w rs
theorem ms_continue : PS X (.Continue pos) (tS G W fun E L => .fl .ct E L) := psImp ps_continue fun D σ H ⟨wd, E, L, rs, w, run⟩ => run wd σ H (Ext.refl _) w rs
theorem ms_doc {x j pos'} : PS X (.Expr (.Constant (.str x) j pos) pos') (tS G W fun E L => .fl .nx E L) := psImp ps_doc fun D σ H ⟨wd, E, L, rs, w, run⟩ => run wd σ H (Ext.refl _) w rs
theorem ms_never : PS X st (tS G W fun _ _ => .stuck) := ⟨fun _ _ _ _ _ _ ⟨_, _, _, _, _, run⟩ => False.elim run⟩
theorem ms_expr (he : PE X e (tE G W me)) (hs : swapsWith e none pos.line X.env = pure false) : PS X (.Expr e pos) (tS G W fun E L => SRes.of (me E L) E fun _ L1 => .fl .nx E L1) :=
  psImp (ps_expr he hs) fun D σ H ⟨wd, E, L, rs, w, run⟩ => ⟨wd, E, L, rs, w, (RunS.of rs run).imp fun v H1 ⟨wd1, d, L1, e1, w1, r1, run1⟩ => run1 wd1 σ H1 (Ext.refl _) w1 (rs.ext e1)⟩
theorem ms_ret (he : PE X e (tE G W me)) : PS X (.Return (some e) pos) (tS G W fun E L => SRes.of (me E L) E fun d L1 => .fl (.rt d) E L1) :=
  psImp (ps_ret he) fun D σ H ⟨wd, E, L, rs, w, run⟩ => ⟨wd, E, L, rs, w, (RunS.of rs run).imp fun v H1 ⟨wd1, d, L1, e1, w1, r1, run1⟩ => run1 wd1 H1 v (Ext.refl _) w1 r1⟩
theorem ms_retN : PS X (.Return none pos) (tS G W fun E L => .fl (.rt .non) E L) :=
  psImp ps_retN fun D σ H ⟨wd, E, L, rs, w, run⟩ => run wd H .non (Ext.refl _) w (by simp [RelD])
theorem ms_if {tc : Ev → Live → Res Bool} {m k : Ev → Live → SRes} (hc : PT X c (tT G W tc)) (ha : PSs X body (tS G W m)) (hb : PSs X orelse (tS G W k)) :
    PS X (.If c body orelse pos) (tS G W fun E L => SRes.of (tc E L) E fun d L1 => if d then m E L1 else k E L1) :=
  psImp (ps_if hc ha hb) fun D σ H ⟨wd, E, L, rs, w, run⟩ => ⟨wd, E, L, rs, w, (RunS.of (rel := RB) rs run).imp fun v H1 ⟨wd1, d, L1, e1, w1, r1, run1⟩ => by
    have r1 : v = d := r1
    subst r1
    cases v with
    | true => exact ⟨wd1, E, L1, rs.ext e1, w1, run1⟩
    | false => exact ⟨wd1, E, L1, rs.ext e1, w1, run1⟩⟩

/-! ### assignments -/
variable (G) in
def tTG (W : WX) (m : D → Ev → Live → SRes) : TG := fun v σ H Q => ∃ wd d E L, RelSt (G := G) wd σ E ∧ WOk (G := G) wd H L ∧ RelD G wd v d ∧ RunS G W wd (m d E L) { nx := Q, rt := fun _ _ => False }
theorem mg_names {g : Tg} (h : PG X tg (tG G g)) : PG X tg (tTG G W fun d E L => match storeG g d E with | some E' => .fl .nx E' L | none => .stuck) :=
  pgImp h fun v σ H Q ⟨wd, d, E, L, rs, w, r, run⟩ => by
    dsimp only at run
    cases q : storeG g d E with
    | none => rw [q] at run; exact False.elim run
    | some E' =>
      rw [q] at run
      exact ⟨wd, d, E, E', L, rs, w, r, q, fun σ' rs' _ => run wd σ' H (Ext.refl _) w rs'⟩
theorem mg_sub (g : Gd G X) (ho : PE X o (tE G W mo)) (hi : PE X i (tE G W mi)) (ha : ∀ v, assign (.Subscript o i pos) X.env v = (do
      let ov ← holding [v] (eval o X.env)
      let iv ← holding [v, ov] (eval i X.env)
      standAt pos
      holding [v, ov, iv] (setItem ov iv v)
      release [v, ov, iv] [])) :
    PG X (.Subscript o i pos) (tTG G W fun d E L => SRes.of (mo E L) E fun x L1 => SRes.of (mi E L1) E fun y L2 => match setD x y d L2 with | some L3 => .fl .nx E L3 | none => .stuck) :=
  pgImp (pg_sub ho hi (set_ok g) ha) fun v σ H Q ⟨wd, d, E, L, rs, w, r, run⟩ => ⟨wd, E, L, rs, w, (RunS.of rs run).imp fun x H1 ⟨wd1, d1, L1, e1, w1, r1, run1⟩ =>
    ⟨wd1, E, L1, rs.ext e1, w1, (RunS.of (rs.ext e1) run1).imp fun y H2 ⟨wd2, d2, L2, e2, w2, r2, run2⟩ => by
      cases q : setD d1 d2 d L2 with
      | none => rw [q] at run2; exact False.elim run2
      | some L3 =>
        rw [q] at run2
        exact ⟨wd2, d1, d2, d, L2, L3, w2, r1.ext G e2, r2, (r.ext G e1).ext G e2, q, fun wd' H' e' w' => run2 wd' σ H' e' w' (((rs.ext e1).ext e2).ext e')⟩⟩⟩
theorem ms_asg {mt : D → Ev → Live → SRes} (he : PE X e (tE G W me)) (hg : PG X tg (tTG G W mt)) (hn : ∀ d E L, ∀ r, mt d E L = r → (∃ E' L', r = .fl .nx E' L') ∨ (∃ C fs E' L', r = .exc C fs E' L') ∨ r = .stuck)
    (hs : swapsWithSole [tg] e pos.line X.env = pure false) (hw : swappedStores [tg] e X.env = pure none) (h1 : (assignEach [tg] X.env).map (·.2) = [assign tg X.env]) :
    PS X (.Assign [tg] e pos) (tS G W fun E L => SRes.of (me E L) E fun d L1 => mt d E L1) :=
  psImp (ps_asg he hg hs hw h1) fun D σ H ⟨wd, E, L, rs, w, run⟩ => ⟨wd, E, L, rs, w, (RunS.of rs run).imp fun v H1 ⟨wd1, d, L1, e1, w1, r1, run1⟩ => by
    refine ⟨wd1, d, E, L1, rs.ext e1, w1, r1, ?_⟩
    rcases hn d E L1 _ rfl with ⟨E', L', q⟩ | ⟨C, fs, E', L', q⟩ | q
    · rw [q] at run1 ⊢; exact run1
    · rw [q] at run1 ⊢; exact run1
    · rw [q] at run1 ⊢; exact run1⟩
/-- two names at once -/
theorem ms_par2 (g : Gd G X) {i j : Nat} {x y : Str} {px py pt : Pos} {kt k2 pt2} (hi : X.N[i]? = some x) (hj : X.N[j]? = some y) (hij : i ≠ j) (hx : X.env.scope.names.lookup x = some .local) (hy : X.env.scope.names.lookup y = some .local) (ha : PA X [a, b] (tA G W ms))
    (hw : swappedStores [.Tuple [.Name x px, .Name y py] kt pt] (.Tuple [a, b] k2 pt2) X.env = pure (some [x, y])) :
    PS X (.Assign [.Tuple [.Name x px, .Name y py] kt pt] (.Tuple [a, b] k2 pt2) pos) (tS G W fun E L => SRes.of (ms E L) E fun ds L1 => if [i, j].length = ds.length then .fl .nx (setAll [i, j] ds E) L1 else .stuck) :=
  psImp (ps_par (pos := pos) g.calm g.nd hi hj hij hx hy ha hw rfl) fun D σ H ⟨wd, E, L, rs, w, run⟩ => ⟨wd, E, L, rs, w, (RunS.of rs run).imp fun vs H1 ⟨wd1, ds, L1, e1, w1, r1, run1⟩ => by
    split at run1
    case isFalse => exact False.elim run1
    rename_i hl
    match ds, hl with
    | [d1, d2], _ =>
      obtain ⟨v1, v2, rfl, r2, r3⟩ := two_of r1
      exact ⟨v1, v2, rfl, run1 wd1 _ H1 (Ext.refl _) w1 (((rs.ext e1).set i r2).set j r3)⟩⟩
/-- three -/
theorem ms_par3 (g : Gd G X) {i j k : Nat} {x y z : Str} {px py pz pt : Pos} {kt k2 pt2} {d : Expr} (hi : X.N[i]? = some x) (hj : X.N[j]? = some y) (hk : X.N[k]? = some z) (hij : i ≠ j) (hik : i ≠ k) (hjk : j ≠ k)
    (hx : X.env.scope.names.lookup x = some .local) (hy : X.env.scope.names.lookup y = some .local) (hz : X.env.scope.names.lookup z = some .local) (ha : PA X [a, b, d] (tA G W ms))
    (hw : swappedStores [.Tuple [.Name x px, .Name y py, .Name z pz] kt pt] (.Tuple [a, b, d] k2 pt2) X.env = pure (some [x, y, z])) :
    PS X (.Assign [.Tuple [.Name x px, .Name y py, .Name z pz] kt pt] (.Tuple [a, b, d] k2 pt2) pos) (tS G W fun E L => SRes.of (ms E L) E fun ds L1 => if [i, j, k].length = ds.length then .fl .nx (setAll [i, j, k] ds E) L1 else .stuck) := by
  refine ⟨fun pins s σ H D I ⟨wd, E, L, rs, w, run⟩ => ?_⟩
  rw [exec_Assign_arm]
  refine wpAny_bind (wpAny_standAt ?_)
  rw [show swapsWithSole [.Tuple [.Name x px, .Name y py, .Name z pz] kt pt] (.Tuple [a, b, d] k2 pt2) pos.line X.env = pure false from rfl]
  refine wpAny_bind (wpAny_pure ?_)
  rw [if_neg (by decide)]
  refine wpAny_bind (Tuple_ (thn (ha.run _ pins s σ H _ I ⟨wd, E, L, rs, w, RunS.of rs run⟩) fun us s1 ⟨vs, H1, I1, r1, wd1, ds, L1, e1, w1, rd1, run1⟩ => ?_))
  split at run1
  case isFalse => exact False.elim run1
  rename_i hl
  match ds, hl with
  | [d1, d2, d3], _ =>
    simp only [RelDs] at rd1
    obtain ⟨v1, _, rfl, q1, v2, _, rfl, q2, v3, _, rfl, q3, rfl⟩ := rd1
    cases r1 with
    | @cons _ u1 _ _ p1 t1 =>
      cases t1 with
      | @cons _ u2 _ _ p2 t2 =>
        cases t2 with
        | @cons _ u3 _ _ p3 t3 =>
          cases t3
          refine wpAny_newObj_type ?_ (by show 3 ≤ sizeLine; decide)
          have I2 : Inv X pins σ H1 { s1 with heap := s1.heap.push { cls := .type "tuple", data := .seq [u1, u2, u3].toArray } } := I1.kept (t' := s1.toks) fun b o e => Heap.get?_push_of_some _ e
          rw [hw]
          refine wpAny_bind (wpAny_pure ?_)
          show wpAny (model X.prog X.w) X.A (do rule "assign.swapped-stores"; let items ← unpackItems (.ref s1.heap.objs.size) 3 none; assignInOrder [fun v => bindName X.env z v, fun v => bindName X.env y v, fun v => bindName X.env x v] items.reverse; pure Flow.next) _ _ _
          refine wpAny_bind (wpAny_rule (wpAny_bind (unpackItems_tuple (items := #[u1, u2, u3]) (I.ok.hd g.calm) (IsTup.new s1.heap _) fun h' hx' => ?_)))
          have I3 := I2.kept (h' := h') (t' := s1.toks) fun b o e => hx' b o (Nat.ne_of_lt (Heap.lt_size e)) e
          show wpAny _ _ (assignInOrder [fun v => bindName X.env z v, fun v => bindName X.env y v, fun v => bindName X.env x v] [u3, u2, u1] >>= fun _ => pure Flow.next) _ _ _
          refine wpAny_bind (assignInOrder_cons (wpAny_bindName (store_ok I3 g.nd hk (.inl hz) p3 (fun s2 I4 => ?_) (.inr hz))))
          refine assignInOrder_cons (wpAny_bindName (store_ok I4 g.nd hj (.inl hy) p2 (fun s3 I5 => ?_) (.inr hy)))
          refine assignInOrder_cons (wpAny_bindName (store_ok I5 g.nd hi (.inl hx) p1 (fun s4 I6 => assignInOrder_nil (wpAny_pure ?_)) (.inr hx)))
          rw [List.set_comm _ _ (Ne.symm hjk), List.set_comm _ _ (Ne.symm hik), List.set_comm _ _ (Ne.symm hij)] at I6
          refine ⟨_, H1, I6, ?_⟩
          have := run1 wd1 _ H1 (Ext.refl _) w1 ((((rs.ext e1).set i q1).set j q2).set k q3)
          first | exact this | (rw [List.set_comm _ _ (Ne.symm hjk)]; exact this) | (rw [List.set_comm _ _ hjk]; exact this)
/-- name op= e, ints -/
theorem ms_aug (g : Gd G X) {i : Nat} {x : Str} {op : Bop} (hop : op = .add ∨ op = .sub) (hi : X.N[i]? = some x) (hx : Loc X.env.scope x) (he : PE X e (tE G W me)) (hf : X.fn x = true ∨ X.env.scope.names.lookup x = some .local) :
    PS X (.AugAssign (.Name x p) (bopM op) e pos) (tS G W fun E L => match E[i]? with
      | some (some x) => SRes.of (me E L) E fun y L1 => match x with
        | .int a => match y with
          | .int b => match op with
            | .add => .fl .nx (E.set i (some (.int (a + b)))) L1
            | .sub => .fl .nx (E.set i (some (.int (a - b)))) L1
            | _ => .stuck
          | _ => .stuck
        | _ => .stuck
      | _ => .stuck) := by
  have ho : PIp X (bopM op) (ipI fun a b => if op = .add then a + b else a - b) := by
    rcases hop with rfl | rfl
    · exact ip_add
    · exact ip_sub
  refine psImp (ps_aug g.nd hi hx he ho hf) fun D σ H ⟨wd, E, L, rs, w, run⟩ => ?_
  dsimp only at run
  cases q : E[i]? with
  | none => rw [q] at run; exact False.elim run
  | some z =>
    rw [q] at run
    cases z with
    | none => exact False.elim run
    | some d =>
      obtain ⟨v, h1, h2⟩ := rs.2 i d q
      refine ⟨v, h1, wd, E, L, rs, w, (RunS.of rs run).imp fun u H1 ⟨wd1, d2, L1, e1, w1, r1, run1⟩ => ?_⟩
      cases d with
      | int m =>
        cases d2 with
        | int n =>
          simp only [RelD] at h2 r1
          subst h2 r1
          refine ⟨m, n, rfl, rfl, ?_⟩
          rcases hop with rfl | rfl
          · exact run1 wd1 _ H1 (Ext.refl _) w1 ((rs.ext e1).set i (by simp [RelD]))
          · exact run1 wd1 _ H1 (Ext.refl _) w1 ((rs.ext e1).set i (by simp [RelD]))
        | _ => exact False.elim run1
      | _ => exact False.elim run1
theorem ms_del (ho : PE X o (tE G W mo)) (hi : PE X i (tE G W mi)) : PS X (.Delete [.Subscript o i tpos] pos) (tS G W fun E L => SRes.of (mo E L) E fun x L1 => SRes.of (mi E L1) E fun y L2 => match delD x y L2 with | some L3 => .fl .nx E L3 | none => .stuck) := by
  refine ⟨fun pins s σ H D I ⟨wd, E, L, rs, w, run⟩ => ?_⟩
  refine wpAny_Delete (wpAny_deleteEach_cons (wpAny_delete_Subscript (thn (ho.run pins s σ H _ I ⟨wd, E, L, rs, w, RunS.of rs run⟩) fun u s1 ⟨x, H1, I1, rx, wd1, d1, L1, e1, w1, r1, run1⟩ =>
    thn (hi.run pins s1 σ H1 _ I1 ⟨wd1, E, L1, rs.ext e1, w1, RunS.of (rs.ext e1) run1⟩) fun iv s2 ⟨y, H2, I2, ry, wd2, d2, L2, e2, w2, r2, run2⟩ => ?_)))
  cases q : delD d1 d2 L2 with
  | none => rw [q] at run2; exact False.elim run2
  | some L3 =>
    rw [q] at run2
    exact del_ok I2 rx ry w2 (r1.ext G e2) r2 q fun H' s' I' w' => wpAny_deleteEach_nil ⟨σ, H', I', run2 wd2 σ H' (Ext.refl _) w' ((rs.ext e1).ext e2)⟩

/-! ### loops -/
theorem ms_for (g : Gd G X) (hp : PassesOwn (model X.prog X.w) X.A X.env X.xe) {iter : Expr} {gt : Tg} {mi : Ev → Live → Res (List D × List (Nat × List D))} {m : Ev → Live → SRes} (hi : PI X tg iter (tI G W mi)) (hg : PG X tg (tG G gt)) (hb : PSs X body (tS G W m)) (hs : ∀ x, foldedSetIterable iter X.env x = pure x) :
    PS X (.For tg iter body [] pos) (tS G W fun E L => SRes.of (mi E L) E fun p L1 => forL p.2 gt m p.1 E L1) :=
  psImp (ps_for hp g.calm hi hg hb hs) fun D σ H ⟨wd, E, L, rs, w, run⟩ => ⟨wd, E, L, rs, w, (RunS.of rs run).imp fun J H1 ⟨wd1, p, L1, e1, w1, r1, run1⟩ => by
    obtain ⟨ds, wt⟩ := p
    refine ⟨fun i mm σ H => mm = ds.length - i ∧ i ≤ ds.length ∧ ∃ wd2 E2 L2, Ext wd1 wd2 ∧ RelSt (G := G) wd2 σ E2 ∧ WOk (G := G) wd2 H L2 ∧ RunS G W wd2 (forL wt gt m (ds.drop i) E2 L2) D, ⟨ds.length, by simp, Nat.zero_le _, wd1, E, L1, Ext.refl _, rs.ext e1, w1, run1⟩, ?_⟩
    rintro i mm σ2 H2 ⟨rfl, hi', wd2, E2, L2, e2, rs2, w2, run2⟩
    by_cases hlt : i < ds.length
    · right
      rw [List.drop_eq_getElem_cons hlt] at run2
      simp only [forL] at run2
      split at run2
      case isFalse => exact False.elim run2
      rename_i hstill
      cases qs : storeG gt ds[i] E2 with
      | none => rw [qs] at run2; exact False.elim run2
      | some E' =>
        rw [qs] at run2
        dsimp only at run2
        refine ⟨r1.go (Kp.of e2) w2 hstill hlt, fun σ' H' => ∃ m', m' < ds.length - i ∧ (m' = ds.length - (i + 1) ∧ i + 1 ≤ ds.length ∧ ∃ wd2 E2 L2, Ext wd1 wd2 ∧ RelSt (G := G) wd2 σ' E2 ∧ WOk (G := G) wd2 H' L2 ∧ RunS G W wd2 (forL wt gt m (ds.drop (i + 1)) E2 L2) D), fun σ' H' h => h, fun x H' y => ?_⟩
        obtain ⟨wd3, e3, w3, r3⟩ := r1.yld hlt (Kp.of e2) w2 hstill y
        refine ⟨wd3, ds[i], E2, E', L2, rs2.ext e3, w3, r3, qs, fun σ' rs' so => ⟨wd3, E', L2, rs', w3, ?_⟩⟩
        cases qb : m E' L2 with
        | stuck => rw [qb] at run2; exact False.elim run2
        | exc C fs E3 L3 => rw [qb] at run2; exact RunS.ext e3 run2
        | fl f E3 L3 =>
          rw [qb] at run2
          cases f with
          | nx => exact fun wd4 σ4 H4 e4 w4 rs4 => ⟨_, by omega, rfl, hlt, wd4, E3, L3, (e2.trans e3).trans e4, rs4, w4, RunS.ext (e3.trans e4) run2⟩
          | ct => exact fun wd4 σ4 H4 e4 w4 rs4 => ⟨_, by omega, rfl, hlt, wd4, E3, L3, (e2.trans e3).trans e4, rs4, w4, RunS.ext (e3.trans e4) run2⟩
          | bk => exact fun wd4 σ4 H4 e4 w4 rs4 => run2 wd4 σ4 H4 (e3.trans e4) w4 rs4
          | rt d => exact RunS.ext (D := D) e3 run2
    · left
      have ei : i = ds.length := by omega
      subst ei
      rw [List.drop_length] at run2
      simp only [forL] at run2
      split at run2
      case isFalse => exact False.elim run2
      rename_i hstill
      exact ⟨r1.stop (Kp.of e2) w2 hstill (Nat.le_refl _), run2 wd2 σ2 H2 (Ext.refl _) w2 rs2⟩⟩
theorem ms_while (hp : PassesOwn (model X.prog X.w) X.A X.env X.xe) (fuel : Nat) {tc : Ev → Live → Res Bool} {m : Ev → Live → SRes} (hc : PT X c (tT G W tc)) (hb : PSs X body (tS G W m)) : PS X (.While c body [] pos) (tS G W fun E L => whlL tc m fuel E L) :=
  psImp (ps_while hp hc hb) fun D σ H ⟨wd, E, L, rs, w, run⟩ => by
    refine ⟨fun n σ H => ∃ wd E L, RelSt (G := G) wd σ E ∧ WOk (G := G) wd H L ∧ RunS G W wd (whlL tc m n E L) D, ⟨fuel, wd, E, L, rs, w, run⟩, ?_⟩
    rintro n σ2 H2 ⟨wd2, E2, L2, rs2, w2, run2⟩
    cases n with
    | zero => exact False.elim run2
    | succ n =>
      simp only [whlL] at run2
      refine ⟨wd2, E2, L2, rs2, w2, (RunS.of (rel := RB) rs2 run2).imp fun k H3 ⟨wd3, d, L3, e3, w3, r3, run3⟩ => ?_⟩
      have r3 : k = d := r3
      subst r3
      cases k with
      | false => exact run3 wd3 σ2 H3 (Ext.refl _) w3 (rs2.ext e3)
      | true =>
        rw [if_pos rfl] at run3 ⊢
        refine ⟨fun σ' H' => ∃ m', m' < n + 1 ∧ ∃ wd E L, RelSt (G := G) wd σ' E ∧ WOk (G := G) wd H' L ∧ RunS G W wd (whlL tc m m' E L) D, fun _ _ h => h, wd3, E2, L3, rs2.ext e3, w3, ?_⟩
        cases qb : m E2 L3 with
        | stuck => rw [qb] at run3; exact False.elim run3
        | exc C fs E4 L4 => rw [qb] at run3; exact run3
        | fl f E4 L4 =>
          rw [qb] at run3
          cases f with
          | nx => exact fun wd4 σ4 H4 e4 w4 rs4 => ⟨n, by omega, wd4, E4, L4, rs4, w4, RunS.ext e4 run3⟩
          | ct => exact fun wd4 σ4 H4 e4 w4 rs4 => ⟨n, by omega, wd4, E4, L4, rs4, w4, RunS.ext e4 run3⟩
          | bk => exact run3
          | rt d => exact run3
end
end MP
set_option maxHeartbeats 4000000
/-! MP: defs and their calls -/
namespace MP
open PySem PySem.Spec PyProof.Rows L2

/-- a promise by positional values; no walk over a value is under way -/
def FnG (gb : Bool) (P : Program) (w : World) (K : PySem.W.Frag) (mg : Str → Option Value) (base : Heap) (k : Nat) (f : Addr) (sp : Sp) : Prop :=
  ∀ (A : Around) (outer : List Env) (s : Shared) (H : Hp) (us : List Value) (vs : List V) (Q : VK) (E : XK), Room k A → (gb = true → A.guards = some []) → Env0 P w K mg base A outer s H → Vals vs us → sp vs H Q E →
    codeAny (model P w) A (.call (.ref f) ⟨us, []⟩) (CR (CX P w) outer P w H s Q E) s
section
variable {gb : Bool} {P : Program} {w : World} {K : PySem.W.Frag} {mg : Str → Option Value} {base : Heap} {j k : Nat} {f : Addr} {sp sp' : Sp}
theorem FnG.mono (F : FnG gb P w K mg base j f sp) (h : j ≤ k) : FnG gb P w K mg base k f sp := fun A outer s H us vs Q E hr => F A outer s H us vs Q E (hr.mono h)
theorem FnG.imp (F : FnG gb P w K mg base k f sp) (h : ∀ vs H Q E, sp' vs H Q E → sp vs H Q E) : FnG gb P w K mg base k f sp' := fun A outer s H us vs Q E hr hg e0 r hs => F A outer s H us vs Q E hr hg e0 r (h _ _ _ _ hs)
/-- a def by its body -/
theorem fnG_of {x qual : Str} {params : Arguments} {body : List Stmt} {scope : Scope} {fd : FuncData} {N ps : List Str} (F : FunD K x qual params body scope [] [] f fd) (S : FnScope N ps scope)
    (hb : ∀ (kV doc pm : Value) (an : Option Addr) (cdv ct : Value) (us : List Value), us.length = ps.length → bindArgs (PySem.W.fnOf x qual params body scope .none kV doc pm an cdv ct) ⟨us, []⟩ = pure (ps.zip us))
    (len : ∀ vs H Q E, sp vs H Q E → vs.length = ps.length)
    (hbody : ∀ (cdv : Value) (A : Around) (outer : List Env) (s : Shared) (H : Hp) (vs : List V) (Q : VK) (E : XK), Room k (A.deeper (envOfC qual scope s.heap.objs.size f cdv)) → (gb = true → A.guards = some []) → sp vs H Q E →
      ∃ t, PSs (cxOf (CX P w) P w K mg base N qual scope f cdv A outer s H E) body t ∧ t { nx := fun _ H' => Q .non H', rt := Q } (start N vs) H) : FnG gb P w K mg base (k + 1) f sp := by
  intro A outer s H us vs Q E hr hgu e0 r hsp
  have hl := len _ _ _ _ hsp
  have hlu : us.length = ps.length := by rw [← r.length]; exact hl
  obtain ⟨oc, od, dV, kV, doc, pm, an, cdv, ct, osl, rfl, lk, hcd, hD, _⟩ := F.ex
  have edV : dV = .none := by
    rcases hD with ⟨_, h⟩ | ⟨h, _⟩
    · exact h
    · exact absurd rfl h
  subst edV
  have KX : K.In s.heap := e0.mod.kin.keeps fun b o e => (e0.bs b o e).1
  have lim : s.heap.NoLimit := e0.mod.nolimit.keeps fun b o e => (e0.bs b o e).1
  refine codeAny_call_function hr.depth (KX _ _ lk) rfl S.co S.gen rfl (PySem.W.codeRec_of KX hcd) (BindsTo.of_eq (hb kV doc pm an cdv ct us hlu) _ _ _ _ ?_)
  refine wpAny_newFunctionEnv_cells S.kind (fun ⟨n, v⟩ hy => ?_) fun env he s1 x => ?_
  · rcases S.par n (List.of_mem_zip hy).1 with q | q
    · exact .inl q
    · exact .inr ⟨q, PySem.W.cellsFrom_some _ _ _ (.inl q)⟩
  · subst he
    refine ⟨lim.keeps x.toInCall.keep, codeAny_func ?_⟩
    obtain ⟨t, ht, hq⟩ := hbody cdv A outer s H vs Q E (hr.deeper _) hgu hsp
    refine wpAny_mono (ht.run [] s1 (start N vs) H _ (inv_start S hr.hd e0 hl r x) hq) (fun fl s' hs => ?_) fun e s' hs => hs
    cases fl with
    | ret u => obtain ⟨v, σ', H', J, rv, q⟩ := hs; exact ⟨v, H', J.os, J.bare, J.base, J.hok, rv, q⟩
    | next => obtain ⟨σ', H', J, q⟩ := hs; exact ⟨V.non, H', J.os, J.bare, J.base, J.hok, rfl, q⟩
    | brk => obtain ⟨_, _, _, q⟩ := hs; exact False.elim q
    | cont => obtain ⟨_, _, _, q⟩ := hs; exact False.elim q
end

/-! ### the promise of an evaluator -/
section
variable {G : Gv} {wd : Wd} {H : Hp} {L L' : Live} {m : List D → Live → Res D}
def RunX (G : Gv) (E : XK) (wd : Wd) (r : Res D) (Q : VK) : Prop := match r with
  | .ok d L => ∀ wd' H' v, Ext wd wd' → WOk (G := G) wd' H' L → RelD G wd' v d → Q v H'
  | .exc C fs L => ∀ wd' H' cls dx, Ext wd wd' → WOk (G := G) wd' H' L → RelX (G := G) wd' H' C fs cls dx → E cls dx H'
  | .stuck => False
theorem RunX.of {W : WX} {σ : L2.St} {r : Res D} {Q : VK} (h : Run (G := G) (RelD G) W σ wd r Q) : RunX G (fun cls dx H' => W cls dx σ H') wd r Q := by
  cases r <;> exact h
theorem RunX.to {E : XK} {σ : L2.St} {r : Res D} {Q : VK} (h : RunX G E wd r Q) : Run (G := G) (RelD G) (fun cls dx _ H' => E cls dx H') σ wd r Q := by
  cases r <;> exact h
def spM (G : Gv) (m : List D → Live → Res D) : Sp := fun vs H Q E => ∃ wd ds L, WOk (G := G) wd H L ∧ RelDs G wd vs ds ∧ RunX G E wd (m ds L) Q
theorem spM_clean (vs : List V) (H : Hp) (Q : VK) (E : XK) (h : spM G (fun ds L => cleanR L (m ds L)) vs H Q E) : spM G m vs H Q E := by
  obtain ⟨wd, ds, L, w, r, run⟩ := h
  refine ⟨wd, ds, L, w, r, ?_⟩
  dsimp only at run
  cases q : m ds L with
  | stuck => rw [q] at run; exact False.elim run
  | ok d L' =>
    rw [q] at run
    simp only [cleanR] at run
    cases q1 : fzF L.length L' 12 d with
    | none => rw [q1] at run; exact False.elim run
    | some e =>
      rw [q1] at run
      simp only at run
      cases q2 : cutL L.length L' L L' with
      | none => rw [q2] at run; exact False.elim run
      | some R =>
        rw [q2] at run
        exact fun wd' H' v e' w' r' => run _ H' v (clean_ext w w' e') (clean_ok w w' e' q2) (fzF_rel w' q1 r')
  | exc C fs L' =>
    rw [q] at run
    simp only [cleanR] at run
    cases q1 : mapO (fzP L.length L') fs with
    | none => rw [q1] at run; exact False.elim run
    | some gs =>
      rw [q1] at run
      simp only at run
      cases q2 : cutL L.length L' L L' with
      | none => rw [q2] at run; exact False.elim run
      | some R =>
        rw [q2] at run
        intro wd' H' cls dx e' w' r'
        obtain ⟨ca, h1, h2, h3⟩ := r'
        refine run _ H' cls dx (clean_ext w w' e') (clean_ok w w' e' q2) ⟨ca, h1, h2, fun ne => ?_⟩
        have nf : fs ≠ [] := fun z => by
          subst z
          simp only [mapO, Option.some.injEq] at q1
          exact ne q1.symm
        obtain ⟨d, hs, h4, h5, h6⟩ := h3 nf
        exact ⟨d, hs, h4, h5, paired_fz w' q1 h6⟩
/-- a call that lends -/
theorem spM_callW {c : Cxt} {f : Nat} {W : WX} {σ : L2.St} {vs : List V} {ds : List D} {Q : VK} (w : WOk (G := G) wd H L) (r : RelDs G wd vs ds) (run : Run (G := G) (RelD G) W σ wd (callW c f ds L) Q) :
    spM G (c.φ f) vs H Q fun cls dx H' => W cls dx σ H' := by
  unfold callW at run
  cases q : idsAs L (c.liv f) ds with
  | nil =>
    rw [q] at run
    exact ⟨wd, ds, L, w, r, RunX.of run⟩
  | cons i ids =>
    rw [q] at run
    simp only at run
    have hl : ∀ k ∈ i :: ids, ∃ ds, L[k]? = some (.lst ds) := fun k hk => idsAs_lst (by rw [q]; exact hk)
    cases q1 : lendAs L (c.liv f) ds with
    | none => rw [q1] at run; exact False.elim run
    | some es =>
      rw [q1] at run
      simp only at run
      refine ⟨wd.lend H (i :: ids), es, maskL (i :: ids) L, lend_ok w hl, lendAs_rel w hl q1 (fun k hk => by rw [← q]; exact hk) r, ?_⟩
      cases q2 : c.φ f es (maskL (i :: ids) L) with
      | stuck => rw [q2] at run; exact False.elim run
      | ok d L' =>
        rw [q2] at run
        exact fun wd' H' v e' w' r' => run _ H' v (unlend_ext w hl e') (unlend_ok w hl e' w') (th_rel w hl e' w' r')
      | exc C fs L' =>
        rw [q2] at run
        intro wd' H' cls dx e' w' r'
        obtain ⟨ca, h1, h2, h3⟩ := r'
        refine run _ H' cls dx (unlend_ext w hl e') (unlend_ok w hl e' w') ⟨ca, h1, h2, fun ne => ?_⟩
        obtain ⟨d, hs, h4, h5, h6⟩ := h3 (fun z => ne (by rw [z]; rfl))
        exact ⟨d, hs, h4, h5, paired_map_r h6 fun p q hp => ⟨hp.1, th_rel w hl e' w' hp.2⟩⟩
end

/-! ### calls -/
section
variable {G : Gv} {X : Cx} {W : WX} {e : Expr} {es : List Expr} {ms : Ev → Live → Res (List D)} {pos p : Pos} {x : Str} {k : Nat} {fa : Addr} {c : Cxt} {f : Nat}
theorem run_g {gb : Bool} {pins : List (Addr × Obj)} {σ : L2.St} {H : Hp} {s : Shared} {Q : VK} {us : List Value} {vs : List V} {sp : Sp} (F : FnG gb X.prog X.w X.K X.mg X.base k fa sp) (hr : Room k X.A) (hg : gb = true → X.A.guards = some []) (tk : Takes X W)
    (I : Inv X pins σ H s) (r : Vals vs us) (h : sp vs H Q fun cls dx H' => W cls dx σ H') : wpAny (model X.prog X.w) X.A (call (.ref fa) us) (EP X pins σ Q) X.xe s := by
  refine wpAny_call (codeAny_mono (F X.A X.stack s H us vs Q _ hr hg I.env0 r h) fun r s' hq => ?_)
  cases r with
  | error e => exact tk e s' (XE.of_call I (fun cls d H' h => h) hq)
  | ok fl =>
    cases fl with
    | ret u => exact I.after hq
    | next => exact False.elim hq
    | brk => exact False.elim hq
    | cont => exact False.elim hq
theorem me_call (g : Gd G X) (F : FnG G.gu X.prog X.w X.K X.mg X.base k fa (spM G (c.φ f))) (hr : Room k X.A) (tk : Takes X W) (hg : Gl X x) (hm : X.mg x = some (.ref fa)) (hk : PySem.W.keepIn X.K (.ref fa) = true) (ha : PA X (e :: es) (tA G W ms))
    (hdb : (x == ("__debug__" : Str)) = false) (he : starEach (e :: es) X.env = (false, eval e X.env) :: starEach es X.env) (hpl : (backTo pos (starEach es X.env)).any (·.1) = false) :
    PE X (.Call (.Name x p) (e :: es) [] pos) (tE G W fun E L => (ms E L).bind fun ds L1 => callW c f ds L1) := by
  refine ⟨fun pins s σ H Q I ⟨wd, E, L, rs, w, run⟩ => ?_⟩
  refine wpAny_Call_Name_kw (ld_glob I hg hm ?_ hdb)
  refine PySem.W.callWith_K (h₀ := X.base) I.ok.mod.kin hk (thn (ha.run pos pins s σ H _ I ⟨wd, E, L, rs, w, run.bind⟩) fun us s1 ⟨vs, H1, I1, r, wd1, ds, L1, e1, w1, r1, run1⟩ => ⟨I1.kIn, ?_⟩) he hpl
  exact run_g F hr g.gu tk I1 r (spM_callW w1 r1 run1)
theorem me_call0 (g : Gd G X) (F : FnG G.gu X.prog X.w X.K X.mg X.base k fa (spM G (c.φ f))) (hr : Room k X.A) (tk : Takes X W) (hg : Gl X x) (hm : X.mg x = some (.ref fa)) (hk : PySem.W.keepIn X.K (.ref fa) = true)
    (hdb : (x == ("__debug__" : Str)) = false) : PE X (.Call (.Name x p) [] [] pos) (tE G W fun E L => (Res.ok [] L).bind fun ds L1 => callW c f ds L1) := by
  refine ⟨fun pins s σ H Q I ⟨wd, E, L, rs, w, run⟩ => ?_⟩
  refine wpAny_Call_Name_kw (ld_glob I hg hm ?_ hdb)
  exact PySem.W.callWith_K0 I.kIn hk (run_g (us := []) F hr g.gu tk I .nil (spM_callW w RelDs.nil run))
end
end MP
set_option maxHeartbeats 4000000
/-! MP: max(.., default=..) of a list of ints -/
namespace MP
open PySem PySem.Spec PyProof.Rows L2
def notSet : PySem.Expr → Bool | .Set _ _ _ => false | _ => true
theorem set_folded {e : PySem.Expr} {env : Env} (h : notSet e = true) : ∀ x, foldedSetIterable e env x = pure x := by
  intro x
  cases e <;> first | rfl | (simp [notSet] at h)
def rMaxDf (K : PySem.W.Frag) : List V → List V → Hp → VK → Prop := fun vs zs H Q => ∃ (a : Addr) (ns : List Int) (z : V), vs = [V.ref a] ∧ zs = [z] ∧ SqL K H a (ns.map V.int) ∧ (ns = [] → Q z H) ∧ ∀ m, m ∈ ns → (∀ y, y ∈ ns → y ≤ m) → Q (.int m) H
theorem maxOf_spec : ∀ (r : List Int) (x : Int), (PySem.W.maxOf x r ∈ x :: r) ∧ ∀ y ∈ x :: r, y ≤ PySem.W.maxOf x r := by
  intro r x
  have e : PySem.W.maxOf x r = r.foldl (fun m y => if m < y then y else m) x := by
    unfold PySem.W.maxOf
    congr 1
    funext m y
    show (if decide (m < y) = true then y else m) = _
    simp
  rw [e]
  exact maxF_spec r x
theorem cr_maxDf {X : Cx} (hc : X.calm = true) (hu : X.A.units + 65 < cLine) : CallRK X (.builtin "max") [Str.ofString "default"] (rMaxDf X.K) := by
  intro pins s σ H vs zs us ws Q I r rz h
  obtain ⟨a, ns, z, rfl, rfl, hs, q0, q⟩ := h
  obtain ⟨its, rv, hl, _⟩ := I.list hs
  obtain rfl := Vals.ref1 r
  obtain ⟨w1, rfl, e1⟩ := vals1 rz
  refine PySem.W.max_list_datum_default (α := Int) (xs := ns) (I.ok.hd hc) hl.isList (PySem.W.HoldAll.of_ints rv.ints) (by show X.A.units + 1 + 0 < cLine; omega) (fun e h' tk hk => ⟨z, H, I.kept hk, e1, q0 e⟩) fun y ys i v h' tk e hi ho hk => ?_
  subst e
  obtain ⟨m1, m2⟩ := maxOf_spec ys y
  obtain ⟨as, hr⟩ := ho
  have hr : Reads _ v (.int (PySem.W.maxOf y ys)) as := hr
  cases hr
  exact ⟨.int _, H, I.kept hk, ⟨_, rfl⟩, q _ m1 m2⟩
section
variable {G : Gv} {X : Cx} {W : WX} {a d : PySem.Expr} {ma md : Ev → Live → Res D} {pn pos kp : Pos}
theorem me_mxd (g : Gd G X) (hx : Gl X "max") (hm : X.mg "max" = none) (ha : PE X a (tE G W ma)) (hd : PE X d (tE G W md)) (na : starEach [a] X.env = (false, eval a X.env) :: starEach [] X.env) :
    PE X (.Call (.Name "max" pn) [a] [⟨some "default", d, kp⟩] pos) (tE G W fun E L => (ma E L).bind fun x L1 => (md E L1).bind fun y L2 => optV (mxdD x y L2) L2) := by
  have key : PE X (.Call (.Name "max" pn) [a] [⟨some "default", d, kp⟩] pos) (tCKw (rMaxDf X.K) (tCons (tE G W ma) tNil) (tCons (tE G W md) tNil)) :=
    pe_callBK (cr_maxDf g.calm g.un) hx hm (by rfl) (pa_cons ha pa_nil na) (pk_cons hd pk_nil) (he := by rw [na]; rfl) (hpl := by rw [na]; rfl)
  exact peImp key fun σ H Q ⟨wd, E, L, rs, w, run⟩ => ⟨wd, E, L, rs, w, run.bind.imp fun v H1 ⟨wd1, d1, L1, e1, w1, r1, run1⟩ => ⟨wd1, E, L1, rs.ext e1, w1, run1.bind.imp fun u H2 ⟨wd2, d2, L2, e2, w2, r2, run2⟩ => by
    obtain ⟨d', q1, q2⟩ := optV_run' run2
    have r1' := r1.ext G e2
    unfold mxdD at q1
    cases q : lstOf L2 d1 with
    | none => rw [q] at q1; cases q1
    | some ds =>
      rw [q] at q1
      simp only at q1
      cases qi : intsOf ds with
      | none => rw [qi] at q1; cases q1
      | some ns =>
        rw [qi] at q1
        simp only at q1
        obtain ⟨l, ys, rfl, hx, rx'⟩ := rd_list w2 r1' q
        obtain ⟨e3, _⟩ := ints_of rx' qi
        subst e3
        refine ⟨l, ns, u, rfl, rfl, .inl hx, fun e => ?_, fun m p1 p2 => ?_⟩
        · subst e
          simp only [maxI, Option.some.injEq] at q1
          subst q1
          exact q2.now w2 r2
        · cases ns with
          | nil => cases p1
          | cons n r =>
            simp only [maxI, Option.some.injEq] at q1
            obtain ⟨m1, m2⟩ := maxF_spec r n
            have e2 : m = r.foldl (fun m y => if m < y then y else m) n := Int.le_antisymm (m2 _ p1) (p2 _ m1)
            subst e2
            subst q1
            exact q2.now w2 (by simp [RelD])⟩⟩
end
end MP
set_option maxHeartbeats 4000000
/-! MP: [k for k, v in d.items() if v] -/
namespace MP
open PySem PySem.Spec PyProof.Rows L2
section
variable {G : Gv} {X : Cx} {W : WX}
def accK (ys : List (Key × V)) : List V := ys.filterMap fun p => match p.2 with | .bl true => some (kV p.1) | _ => none
theorem tks_rel {wd : Wd} : ∀ {ys : List (Key × V)} {kvs : List (Key × D)} {ks : List D}, Paired (fun (p : Key × V) (q : Key × D) => p.1 = q.1 ∧ RelD G wd p.2 q.2) ys kvs → tksL kvs = some ks → (∀ q ∈ ys, ∃ b, q.2 = .bl b) ∧ ∀ wd', RelDs G wd' (accK ys) ks
  | _, _, ks, .nil, h => by
    simp only [tksL, Option.some.injEq] at h
    subst h
    exact ⟨by simp, fun _ => RelDs.nil⟩
  | p :: ps, q :: qs, ks, .cons h t, hk => by
    obtain ⟨k, d⟩ := q
    obtain ⟨k', v⟩ := p
    obtain ⟨h1, h2⟩ := h
    have h1 : k' = k := h1
    subst h1
    cases d with
    | bl b =>
      simp only [tksL, Option.map_eq_some_iff] at hk
      obtain ⟨r, hr, rfl⟩ := hk
      obtain ⟨g1, g2⟩ := tks_rel t hr
      have h2 : v = .bl b := by simpa [RelD] using h2
      subst h2
      refine ⟨fun q hq => ?_, fun wd' => ?_⟩
      · rcases List.mem_cons.mp hq with rfl | hq
        · exact ⟨b, rfl⟩
        · exact g1 q hq
      · have rk : RelD G wd' (kV k') (keyD k') := by cases k' <;> simp [kV, keyD, RelD]
        cases b with
        | true => exact RelDs.cons rk (g2 wd')
        | false => exact g2 wd'
    | _ => simp [tksL] at hk
theorem accK_snoc (ys : List (Key × V)) (j : Nat) (h : j < ys.length) : accK (ys.take (j + 1)) = accK (ys.take j) ++ accK [ys[j]] := by
  unfold accK
  rw [List.take_succ_eq_append_getElem h, List.filterMap_append]
theorem me_tks (g : Gd G X) (lv : Bool) {scope : Scope} {own : List (Str × Nat)} {pos cpos apos pd pk pv pk2 pv2 tpos : Pos} {kk : Nat} {xd xk xv yk yv : Str} {i ik iv : Nat}
    (pe : PE X (.Name xd pd) (tVar i)) (ok : BlkOk X.N X.env.scope scope own) (ne : ik ≠ iv) (ki : ik ∈ own.map (·.2)) (vi : iv ∈ own.map (·.2))
    (pg : ∀ (s : Shared) (H : Hp) (C : Addr) (cl : List (Str × Addr)) (fp : List Addr), PG (X.blk s H scope (compEnvC scope cl C X.env) fp) (.Tuple [.Name xk pk, .Name xv pv] kk tpos) (gTup X.K 2 (gCons (gName ik) (gCons (gName iv) gNil))))
    (pek : ∀ (s : Shared) (H : Hp) (C : Addr) (cl : List (Str × Addr)) (fp : List Addr), PE (X.blk s H scope (compEnvC scope cl C X.env) fp) (.Name yk pk2) (tVar ik))
    (pev : ∀ (s : Shared) (H : Hp) (C : Addr) (cl : List (Str × Addr)) (fp : List Addr), PE (X.blk s H scope (compEnvC scope cl C X.env) fp) (.Name yv pv2) (tVar iv))
    (hbase : attributeBase (.Name xd pd) "items" X.env (eval (.Name xd pd) X.env) = eval (.Name xd pd) X.env) (hline : (apos.endLine == cpos.line) = true) :
    PE X (.ListComp (.Name yk pk2) [⟨.Tuple [.Name xk pk, .Name xv pv] kk tpos, .Call (.Attribute (.Name xd pd) "items" apos) [] [] cpos, [.Name yv pv2], 0⟩] scope pos)
      (tE G W fun E L => (match E[i]? with | some (some d) => Res.ok d L | _ => .stuck).bind fun x L1 => if decide (ik < E.length) && decide (iv < E.length) then opt (tksD lv x L1) else .stuck) := by
  refine peImp (pe_lock (pe_lc g.calm g.nd (pi_items pe hbase hline) ok pg (tt := fun σ H Q => tVar iv σ H fun x H' => ∃ k, TruV X.K x H' k ∧ Q k H') (fun s H C cl fp => pts_one (pt_truth (pev s H C cl fp) (fun _ => rfl))) pek (set_folded rfl))) fun σ H Q ⟨wd, E, L, rs, w, run⟩ => ?_
  dsimp only at run
  cases q : E[i]? with
  | none => rw [q] at run; exact False.elim run
  | some o =>
    rw [q] at run
    cases o with
    | none => exact False.elim run
    | some d =>
      simp only [Res.bind_ok] at run
      split at run
      case isFalse => exact False.elim run
      rename_i hil
      simp only [Bool.and_eq_true, decide_eq_true_eq] at hil
      obtain ⟨v, hσ, rv⟩ := rs.2 i d q
      obtain ⟨d', L', q1, q2⟩ := opt_run run
      cases d with
      | ref n =>
        simp only [tksD] at q1
        cases ql : L[n]? with
        | none => rw [ql] at q1; cases q1
        | some o =>
          rw [ql] at q1
          cases o with
          | dic kvs =>
            simp only at q1
            split at q1
            case isFalse => cases q1
            rename_i hz
            have hz := of_decide_eq_true hz
            simp only [Option.map_eq_some_iff] at q1
            obtain ⟨ks, hks, q1⟩ := q1
            obtain ⟨a, hι, hrel, hF⟩ := w.live n _ ql
            obtain ⟨ys, hH, hp⟩ := hrel
            simp only [RelD] at rv
            obtain ⟨a', hι', rfl⟩ := rv
            rw [hι] at hι'
            cases hι'
            obtain ⟨hb, hr⟩ := tks_rel hp hks
            have hlen : ys.length = kvs.length := Paired.length hp
            refine ⟨a, .dK ys, hH, trivial, fun od => ?_⟩
            refine ⟨.ref a, hσ, a, od, ys, rfl, upd_same, fun Da hD => ?_⟩
            have nda : Da ≠ a := fun z => by rw [z, upd_same] at hD; cases hD
            have hD0 : H Da = none := by rw [upd_ne nda] at hD; exact hD
            refine ⟨fun j m Hc => m = ys.length - j ∧ j ≤ ys.length ∧ (∀ b o, upd H a (.frz od (.dK ys)) b = some o → Hc b = some o) ∧ Hc Da = some (.lst (accK (ys.take j))) ∧ (accK (ys.take j)).length ≤ j,
              ⟨ys.length, by simp, Nat.zero_le _, upd_keeps hD, upd_same, Nat.zero_le _⟩, ?_⟩
            rintro j m Hc ⟨rfl, hj, hk, hacc, hal⟩
            by_cases hlt : j < ys.length
            · right
              refine ⟨⟨hk _ _ upd_same, hlt⟩, fun H' => ∃ m', m' < ys.length - j ∧ (m' = ys.length - (j + 1) ∧ j + 1 ≤ ys.length ∧ (∀ b o, upd H a (.frz od (.dK ys)) b = some o → H' b = some o) ∧ H' Da = some (.lst (accK (ys.take (j + 1)))) ∧ (accK (ys.take (j + 1))).length ≤ j + 1), fun H' h => h, fun x H' y => ?_⟩
              obtain ⟨T, k, u, hy, rfl, hT, rfl⟩ := y
              have hg : ys[j] = (k, u) := by rw [List.getElem?_eq_getElem hlt] at hy; exact Option.some.inj hy
              obtain ⟨b, hub⟩ := hb _ (List.getElem_mem hlt)
              rw [hg] at hub
              have hub : u = .bl b := hub
              subst hub
              have nT : T ≠ Da := fun z => by rw [z, hacc] at hT; cases hT
              have hk' : ∀ b' o, upd H a (.frz od (.dK ys)) b' = some o → upd Hc T (.tup [kV k, .bl b]) b' = some o := fun b' o h => upd_keeps hT _ _ (hk b' o h)
              have hacc' : upd Hc T (.tup [kV k, .bl b]) Da = some (.lst (accK (ys.take j))) := upd_keeps hT _ _ hacc
              have sl : (L2.wipe σ (own.map (·.2))).length = E.length := by rw [wipe_length]; exact rs.1
              refine ⟨T, [kV k, .bl b], rfl, .inl (.inl upd_same), rfl, kV k, [.bl b], rfl, .bl b, [], rfl, rfl, ?_⟩
              refine ⟨?_, .bl b, by rw [List.getElem?_set_self (by simp [sl]; omega)], b, rfl, ?_⟩
              · have so : SameOff [ik, iv] (L2.wipe σ (own.map (·.2))) (((L2.wipe σ (own.map (·.2))).set ik (some (kV k))).set iv (some (.bl b))) := by
                  have := (SameOff.set (s := [ik]) (σ := L2.wipe σ (own.map (·.2))) (v := some (kV k)) (i := ik) (by simp)).trans (SameOff.set (s := [iv]) (v := some (.bl b)) (i := iv) (by simp))
                  exact this
                rw [so.wipe (by simp only [List.mem_cons, List.not_mem_nil, or_false]; rintro z (rfl | rfl); exact ki; exact vi), wipe_wipe]
              · cases b with
                | false =>
                  rw [if_neg Bool.false_ne_true]
                  have e : accK (ys.take (j + 1)) = accK (ys.take j) := by rw [accK_snoc ys j hlt, hg]; simp [accK]
                  exact ⟨_, by omega, rfl, hlt, hk', by rw [e]; exact hacc', by rw [e]; omega⟩
                | true =>
                  rw [if_pos rfl]
                  have e : accK (ys.take (j + 1)) = accK (ys.take j) ++ [kV k] := by rw [accK_snoc ys j hlt, hg]; simp [accK]
                  refine ⟨kV k, by rw [List.getElem?_set_ne (fun z => ne z.symm), List.getElem?_set_self (by simp [sl]; omega)], accK (ys.take j), hacc', by omega, _, by omega, rfl, hlt, fun b' o h => ?_, by rw [e]; exact upd_same, by rw [e]; simp; omega⟩
                  rw [upd_ne (fun z => by rw [z, hD] at h; cases h)]
                  exact hk' b' o h
            · left
              have ej : j = ys.length := by omega
              subst ej
              rw [List.take_length] at hacc
              refine ⟨⟨hk _ _ upd_same, Nat.le_refl _⟩, hk _ _ upd_same, ?_⟩
              obtain ⟨w1, hh⟩ := hide_ok (xs := accK ys) w hD0
              have w2 : WOk (G := G) (wd.hide Da (accK ys)) (upd Hc a (.dK ys)) L := w1.heap fun b' o h => by
                by_cases c : b' = a
                · subst c
                  rw [upd_ne (fun z => nda z.symm), hH] at h
                  rw [upd_same]; exact h
                · rw [upd_ne c]
                  by_cases c2 : b' = Da
                  · subst c2
                    rw [upd_same] at h
                    rw [← h]; exact hacc
                  · rw [upd_ne c2] at h
                    exact hk b' o (by rw [upd_ne c]; exact h)
              have nF := w.fnone hD0
              have nb : Da ∉ wd.bor := fun z => by
                obtain ⟨o, ho⟩ := w.bor _ z
                rw [nF] at ho; cases ho
              refine Hid.end_ (wd0 := wd) (H := upd Hc a (.dK ys)) (ds := ks) lv ⟨hh.F, hh.bor, hh.ι⟩ w2 (hr _) (fun _ _ h => h) (fun b' o h => upd_keeps nF b' o h) (fun _ _ h => .inl h) nF nb ?_
              rw [q1]
              exact q2
          | _ => cases q1
      | _ => cases q1
end
end MP
set_option maxHeartbeats 4000000
/-! MP: rules for instances, match, dicts' values -/
namespace MP
open PySem PySem.Spec PyProof.Rows L2
section
variable {G : Gv} {X : Cx} {W : WX} {a b e o : Expr} {es : List Expr} {ma mo mv md : Ev → Live → Res D} {ms : Ev → Live → Res (List D)} {pos p apos cpos : Pos}
/-! ### fields -/
theorem lookup_rel {wd : Wd} {f : Str} : ∀ {gs : List (Str × V)} {fs : List (Str × D)}, Paired (fun (p : Str × V) (q : Str × D) => p.1 = q.1 ∧ RelD G wd p.2 q.2) gs fs →
    (∀ d, fs.lookup f = some d → ∃ v, gs.lookup f = some v ∧ RelD G wd v d) ∧ (fs.lookup f = none → gs.lookup f = none) := by
  intro gs fs h
  induction h with
  | nil => exact ⟨fun d h => by simp at h, fun _ => rfl⟩
  | @cons p q ps qs h t ih =>
    obtain ⟨g, v⟩ := p
    obtain ⟨g', d⟩ := q
    obtain ⟨h1, h2⟩ := h
    have h1 : g = g' := h1
    subst h1
    rw [List.lookup_cons, List.lookup_cons]
    cases c : f == g with
    | true => exact ⟨fun d' e => by cases e; exact ⟨v, rfl, h2⟩, fun e => by cases e⟩
    | false => exact ih
theorem putF_rel {wd : Wd} {f : Str} {v : V} {d : D} (r : RelD G wd v d) : ∀ {gs : List (Str × V)} {fs : List (Str × D)}, Paired (fun (p : Str × V) (q : Str × D) => p.1 = q.1 ∧ RelD G wd p.2 q.2) gs fs →
    Paired (fun (p : Str × V) (q : Str × D) => p.1 = q.1 ∧ RelD G wd p.2 q.2) (putF f v gs) (putFld f d fs) := by
  intro gs fs h
  induction h with
  | nil => exact .cons ⟨rfl, r⟩ .nil
  | @cons p q ps qs h t ih =>
    obtain ⟨g, u⟩ := p
    obtain ⟨g', d'⟩ := q
    obtain ⟨h1, h2⟩ := h
    have h1 : g = g' := h1
    subst h1
    simp only [putF, putFld]
    by_cases c : g = f
    · rw [if_pos c, if_pos c]; exact .cons ⟨rfl, r⟩ t
    · rw [if_neg c, if_neg c]; exact .cons ⟨rfl, h2⟩ ih
theorem me_fld (g : Gd G X) {f : Str} (he : PE X e (tE G W ma)) (hb : attributeBase e f X.env (eval e X.env) = eval e X.env) (hc : ∀ C ca, G.cls C = some ca → Cls G.K ca ∧ NoAttr G.K ca f) :
    PE X (.Attribute e f pos) (tE G W fun E L => (ma E L).bind fun x L1 => match x with
      | .ref n => match L1[n]? with
        | some (.ins _ fs) => optV (fs.lookup f) L1
        | _ => .stuck
      | _ => .stuck) :=
  peImp (pe_fld he hb) fun σ H Q ⟨wd, E, L, rs, w, run⟩ => ⟨wd, E, L, rs, w, run.bind.imp fun v H1 ⟨wd1, d1, L1, e1, w1, r1, run1⟩ => by
    cases d1 with
    | ref n =>
      simp only at run1
      cases q : L1[n]? with
      | none => rw [q] at run1; exact False.elim run1
      | some lo =>
        rw [q] at run1
        cases lo with
        | ins C fs =>
          simp only at run1
          obtain ⟨l, rfl, hl, ⟨ca, dx, gs, h0, h1, h2, h3⟩, _⟩ := rd_ref w1 r1 q
          obtain ⟨d, hd, run2⟩ := optV_run' run1
          obtain ⟨v, hv, rv⟩ := (lookup_rel (f := f) h3).1 d hd
          obtain ⟨c1, c2⟩ := hc C ca h0
          exact ⟨l, ca, dx, gs, v, rfl, h1, by rw [g.K]; exact c1, by rw [g.K]; exact c2, hv, run2.now w1 rv⟩
        | _ => exact False.elim run1
    | _ => exact False.elim run1⟩
theorem mg_fld (g : Gd G X) {f : Str} (ho : PE X o (tE G W mo)) (hc : ∀ C ca, G.cls C = some ca → Cls G.K ca ∧ NoAttr G.K ca f) {value : Expr} {mv : Ev → Live → Res D} (hv : PE X value (tE G W mv)) (hs : swapsWith value (some (.Attribute o f p)) pos.line X.env = pure false) :
    PS X (.Assign [.Attribute o f p] value pos) (tS G W fun E L => SRes.of (mv E L) E fun d L1 => SRes.of (mo E L1) E fun x L2 => match x with
      | .ref n => match L2[n]? with
        | some (.ins C fs) => if decide (fs.length < 1000) then .fl .nx E (L2.set n (.ins C (putFld f d fs))) else .stuck
        | _ => .stuck
      | _ => .stuck) :=
  psImp (ps_fld ho hv hs) fun D σ H ⟨wd, E, L, rs, w, run⟩ => ⟨wd, E, L, rs, w, (RunS.of rs run).imp fun v H1 ⟨wd1, d1, L1, e1, w1, r1, run1⟩ =>
    ⟨wd1, E, L1, rs.ext e1, w1, (RunS.of (rs.ext e1) run1).imp fun x H2 ⟨wd2, d2, L2, e2, w2, r2, run2⟩ => by
      cases d2 with
      | ref n =>
        simp only at run2
        cases q : L2[n]? with
        | none => rw [q] at run2; exact False.elim run2
        | some lo =>
          rw [q] at run2
          cases lo with
          | ins C fs =>
            simp only at run2
            split at run2
            case isFalse => exact False.elim run2
            rename_i hz
            have hz := of_decide_eq_true hz
            obtain ⟨l, rfl, hl, ⟨ca, dx, gs, h0, h1, h2, h3⟩, _⟩ := rd_ref w2 r2 q
            obtain ⟨c1, c2⟩ := hc C ca h0
            have len : gs.length = fs.length := Paired.length h3
            have nld : dx ≠ l := fun z => by rw [z, h1] at h2; cases h2
            refine ⟨l, ca, dx, gs, rfl, h1, by rw [g.K]; exact c1, by rw [g.K]; exact c2, by omega, ?_⟩
            exact run2 wd2 σ _ (Ext.refl _) (w2.write q (by simp) hl (fun y z => by rw [h1] at z; cases z) ⟨ca, dx, putF f v gs, h0, upd_same, by rw [upd_ne nld]; exact h2, putF_rel (r1.ext G e2) h3⟩) ((rs.ext e1).ext e2)
          | _ => exact False.elim run2
      | _ => exact False.elim run2⟩⟩
/-! ### methods -/
theorem me_own {k : Nat} {m : Str} {pl : Sem Bool} (g : Gd G X) {c : Cxt} (hr : Room k X.A) (tk : Takes X W) (ho : PE X o (tE G W mo)) (ha : PA X (e :: es) (tA G W ms))
    (hc : ∀ C ca, G.cls C = some ca → Cls G.K ca) (hm : ∀ C ca f, G.cls C = some ca → c.meth C m = some f → ∃ fa, Meth G.K ca m fa ∧ FnG G.gu X.prog X.w X.K X.mg X.base k fa (spM G (c.φ f)))
    (st1 : starEach (e :: es) X.env = (false, eval e X.env) :: starEach es X.env) (st2 : (backTo pos (starEach es X.env)).any (·.1) = false)
    (ht : eval (.Call (.Attribute o m apos) (e :: es) [] pos) X.env = (do
      let ov ← eval o X.env
      standAt apos.atName
      let (f, first) ← holding [ov] (getMethod ov m pl)
      callWith pos f first (backTo pos (starEach (e :: es) X.env)) (backToKw pos (keywordEach [] X.env)))) :
    PE X (.Call (.Attribute o m apos) (e :: es) [] pos) (tE G W fun E L => (mo E L).bind fun x L1 => match x with
      | .ref n => match L1[n]? with
        | some (.ins C fs) => match c.meth C m with
          | some f => if (fs.lookup m).isNone then (ms E L1).bind fun ds L2 => callW c f (x :: ds) L2 else .stuck
          | none => .stuck
        | _ => .stuck
      | _ => .stuck) := by
  refine ⟨fun pins s σ H Q I ⟨wd, E, L, rs, w, run⟩ => ?_⟩
  refine PySem.W.methodCall_KW (pl := pl) (thn (ho.run pins s σ H _ I ⟨wd, E, L, rs, w, run.bind⟩) fun u s1 ⟨x, H1, I1, rx, wd1, d1, L1, e1, w1, r1, run1⟩ => ?_) ht
  cases d1 with
  | ref n =>
    simp only at run1
    cases q : L1[n]? with
    | none => rw [q] at run1; exact False.elim run1
    | some lo =>
      rw [q] at run1
      cases lo with
      | ins C fs =>
        simp only at run1
        cases qm : c.meth C m with
        | none => rw [qm] at run1; exact False.elim run1
        | some f =>
          rw [qm] at run1
          simp only at run1
          split at run1
          case isFalse => exact False.elim run1
          rename_i hn
          obtain ⟨l, rfl, hl, ⟨ca, dx, gs, h0, h1, h2, h3⟩, _⟩ := rd_ref w1 r1 q
          cases rx
          obtain ⟨fa, M, F⟩ := hm C ca f h0 qm
          have hk : Meth X.K ca m fa := by rw [g.K]; exact M
          have hl0 : gs.lookup m = none := (lookup_rel (f := m) h3).2 (by simpa using hn)
          refine getmeth_ok I1 h1 (by rw [g.K]; exact hc C ca h0) hk hl0 ?_
          refine PySem.W.callWith_K (first := [.ref l]) (h₀ := X.base) I1.ok.mod.kin hk.kp (thn (ha.run pos pins s1 σ H1 _ I1 ⟨wd1, E, L1, rs.ext e1, w1, Run.bind run1⟩) fun us s2 ⟨vs, H2, I2, r2, wd2, ds, L2, e2, w2, rd2, run2⟩ => ⟨I2.kIn, ?_⟩) st1 st2
          exact run_g (us := .ref l :: us) (vs := .ref l :: vs) F hr g.gu tk I2 (.cons rfl r2) (spM_callW w2 (RelDs.cons (r1.ext G e2) rd2) run2)
      | _ => exact False.elim run1
  | _ => exact False.elim run1
theorem me_own0 {k : Nat} {m : Str} {pl : Sem Bool} (g : Gd G X) {c : Cxt} (hr : Room k X.A) (tk : Takes X W) (ho : PE X o (tE G W mo))
    (hc : ∀ C ca, G.cls C = some ca → Cls G.K ca) (hm : ∀ C ca f, G.cls C = some ca → c.meth C m = some f → ∃ fa, Meth G.K ca m fa ∧ FnG G.gu X.prog X.w X.K X.mg X.base k fa (spM G (c.φ f)))
    (ht : eval (.Call (.Attribute o m apos) [] [] pos) X.env = (do
      let ov ← eval o X.env
      standAt apos.atName
      let (f, first) ← holding [ov] (getMethod ov m pl)
      callWith pos f first (backTo pos (starEach [] X.env)) (backToKw pos (keywordEach [] X.env)))) :
    PE X (.Call (.Attribute o m apos) [] [] pos) (tE G W fun E L => (mo E L).bind fun x L1 => match x with
      | .ref n => match L1[n]? with
        | some (.ins C fs) => match c.meth C m with
          | some f => if (fs.lookup m).isNone then (Res.ok [] L1).bind fun ds L2 => callW c f (x :: ds) L2 else .stuck
          | none => .stuck
        | _ => .stuck
      | _ => .stuck) := by
  refine ⟨fun pins s σ H Q I ⟨wd, E, L, rs, w, run⟩ => ?_⟩
  refine PySem.W.methodCall_KW (pl := pl) (thn (ho.run pins s σ H _ I ⟨wd, E, L, rs, w, run.bind⟩) fun u s1 ⟨x, H1, I1, rx, wd1, d1, L1, e1, w1, r1, run1⟩ => ?_) ht
  cases d1 with
  | ref n =>
    simp only at run1
    cases q : L1[n]? with
    | none => rw [q] at run1; exact False.elim run1
    | some lo =>
      rw [q] at run1
      cases lo with
      | ins C fs =>
        simp only at run1
        cases qm : c.meth C m with
        | none => rw [qm] at run1; exact False.elim run1
        | some f =>
          rw [qm] at run1
          simp only at run1
          split at run1
          case isFalse => exact False.elim run1
          rename_i hn
          obtain ⟨l, rfl, hl, ⟨ca, dx, gs, h0, h1, h2, h3⟩, _⟩ := rd_ref w1 r1 q
          cases rx
          obtain ⟨fa, M, F⟩ := hm C ca f h0 qm
          have hk : Meth X.K ca m fa := by rw [g.K]; exact M
          have hl0 : gs.lookup m = none := (lookup_rel (f := m) h3).2 (by simpa using hn)
          refine getmeth_ok I1 h1 (by rw [g.K]; exact hc C ca h0) hk hl0 ?_
          refine PySem.W.callWith_K0 (first := [.ref l]) I1.kIn hk.kp ?_
          exact run_g (us := [.ref l]) (vs := [.ref l]) F hr g.gu tk I1 (.cons rfl .nil) (spM_callW w1 (RelDs.cons r1 RelDs.nil) run1)
      | _ => exact False.elim run1
  | _ => exact False.elim run1
/-! ### a new instance -/
theorem run_mk {pins : List (Addr × Obj)} {σ : L2.St} {H : Hp} {s : Shared} {Q : VK} {us : List Value} {vs : List V} {k : Nat} {ca fa : Addr} {sp : Sp} (M : Mk X.K ca fa) (F : FnG G.gu X.prog X.w X.K X.mg X.base k fa sp) (hr : Room (k + 1) X.A) (hg : G.gu = true → X.A.guards = some []) (tk : Takes X W)
    (I : Inv X pins σ H s) (r : Vals vs us)
    (h : ∀ x dx, H x = none → H dx = none → dx ≠ x → sp (.ref x :: vs) (upd (upd H dx (.own x)) x (.ins ca dx [])) (fun v H2 => v = .non ∧ Q (.ref x) H2) fun cls d H' => W cls d σ H') :
    wpAny (model X.prog X.w) X.A (call (.ref ca) us) (EP X pins σ Q) X.xe s := by
  have hq := h (s.heap.objs.size + 1) s.heap.objs.size (I.hok.fresh (Nat.le_succ _)) (I.hok.fresh (Nat.le_refl _)) (Nat.ne_of_lt (Nat.lt_succ_self _))
  have I2 := Inv.made (C := ca) I
  have r2 : Vals (V.ref (s.heap.objs.size + 1) :: vs) (Value.ref (s.heap.objs.size + 1) :: us) := .cons rfl r
  refine wpAny_call (make_map (f := fa) I.kIn M.makes M.init (beq_iff_eq.mp M.fn) (codeAny_mono (F _ X.stack _ _ (Value.ref (s.heap.objs.size + 1) :: us) _ _ _ (hr.make ca us []) (by first | exact hg | (show (X.A.under _).guards = _; exact hg)) (I2.env0.make ca us []) r2 hq) fun r s' hq' => ?_))
  cases r with
  | error e => exact tk e s' (XE.of_call I2 (fun cls d H' h => h) hq')
  | ok fl =>
    cases fl with
    | ret u =>
      obtain ⟨v, H', I3, rv, ev, q3⟩ := I2.after hq'
      subst ev
      exact ⟨rv, ⟨V.ref (s.heap.objs.size + 1), H', I3, rfl, q3⟩⟩
    | next => exact False.elim hq'
    | brk => exact False.elim hq'
    | cont => exact False.elim hq'
theorem make_sp {wd : Wd} {H : Hp} {L : Live} {C : Str} {ca : Addr} {c : Cxt} {f : Nat} {σ : L2.St} {ds : List D} {vs : List V} {Q : VK} (hC : G.cls C = some ca) (w : WOk (G := G) wd H L) (r : RelDs G wd vs ds)
    (run : Run (G := G) (RelD G) W σ wd ((callW c f (.ref L.length :: ds) (L ++ [.ins C []])).bind fun r L2 => match r with
        | .non => .ok (.ref L.length) L2
        | _ => .stuck) Q) (x dx : Addr) (hx : H x = none) (hd : H dx = none) (ne : dx ≠ x) :
    spM G (c.φ f) (.ref x :: vs) (upd (upd H dx (.own x)) x (.ins ca dx [])) (fun v H2 => v = .non ∧ Q (.ref x) H2) fun cls d H' => W cls d σ H' := by
  have w1 : WOk (G := G) wd (upd H dx (.own x)) L := w.heap (upd_keeps hd)
  have hx1 : upd H dx (.own x) x = none := by rw [upd_ne (fun z => ne z.symm)]; exact hx
  obtain ⟨e2, w2⟩ := w1.add (o := .ins ca dx []) (x := .ins C []) hx1 fun wd' e' H' k hp => ⟨ca, dx, [], hC, hp, k _ _ upd_same, .nil⟩
  have rx : RelD G (wd.add L.length x) (.ref x) (.ref L.length) := by simp only [RelD]; exact ⟨x, Wd.add_at, rfl⟩
  refine spM_callW w2 (RelDs.cons rx (r.ext G e2)) ?_
  refine (Run.bind (Run.ext e2 run)).imp fun v H2 ⟨wd3, d3, L3, e3, w3, r3, run3⟩ => ?_
  cases d3 with
  | non =>
    simp only [RelD] at r3
    exact ⟨r3, run3.now w3 (rx.ext G e3)⟩
  | _ => exact False.elim run3
theorem me_make {k : Nat} {x C : Str} {ca fa : Addr} {f : Nat} {c : Cxt} (g : Gd G X) (hr : Room (k + 1) X.A) (tk : Takes X W) (hC : G.cls C = some ca) (M : Mk X.K ca fa) (hi : c.init C = some f) (F : FnG G.gu X.prog X.w X.K X.mg X.base k fa (spM G (c.φ f)))
    (hg : Gl X x) (hm : X.mg x = some (.ref ca)) (ha : PA X (e :: es) (tA G W ms)) (hdb : (x == ("__debug__" : Str)) = false) (he : starEach (e :: es) X.env = (false, eval e X.env) :: starEach es X.env) (hpl : (backTo pos (starEach es X.env)).any (·.1) = false) :
    PE X (.Call (.Name x p) (e :: es) [] pos) (tE G W fun E L => (ms E L).bind fun ds L1 => match c.init C with
      | some f => (callW c f (.ref L1.length :: ds) (L1 ++ [.ins C []])).bind fun r L2 => match r with
        | .non => .ok (.ref L1.length) L2
        | _ => .stuck
      | none => .stuck) := by
  refine ⟨fun pins s σ H Q I ⟨wd, E, L, rs, w, run⟩ => ?_⟩
  refine wpAny_Call_Name_kw (ld_glob I hg hm ?_ hdb)
  refine PySem.W.callWith_K (h₀ := X.base) I.ok.mod.kin M.kp (thn (ha.run pos pins s σ H _ I ⟨wd, E, L, rs, w, run.bind⟩) fun us s1 ⟨vs, H1, I1, r, wd1, ds, L1, e1, w1, rd1, run1⟩ => ⟨I1.kIn, ?_⟩) he hpl
  rw [hi] at run1
  exact run_mk M F hr g.gu tk I1 r fun x dx hx hd ne => make_sp hC w1 rd1 run1 x dx hx hd ne
end
end MP
set_option maxHeartbeats 4000000
/-! MP: dicts that are walked by their values, list(d.values()), match -/
namespace MP
open PySem PySem.Spec PyProof.Rows L2
section
variable {G : Gv}
/-! ### a dict is locked, and let go -/
theorem paired_ext {wd wd' : Wd} (e : ∀ d v, RelD G wd v d → RelD G wd' v d) {ys : List (Key × V)} {kvs : List (Key × D)} (h : Paired (fun (p : Key × V) (q : Key × D) => p.1 = q.1 ∧ RelD G wd p.2 q.2) ys kvs) : Paired (fun (p : Key × V) (q : Key × D) => p.1 = q.1 ∧ RelD G wd' p.2 q.2) ys kvs :=
  Paired.mapP h fun _ _ z => ⟨z.1, e _ _ z.2⟩
theorem paired_at {α β : Type} {F : α → β → Prop} : ∀ {xs : List α} {ys : List β} {j : Nat} {x : α} {y : β}, Paired F xs ys → xs[j]? = some x → ys[j]? = some y → F x y
  | _, _, j, x, y, .nil, h, _ => by simp at h
  | _, _, 0, x, y, .cons h t, h1, h2 => by simp at h1 h2; subst h1 h2; exact h
  | _, _, j + 1, x, y, .cons h t, h1, h2 => paired_at t (by simpa using h1) (by simpa using h2)
theorem paired_snd {wd : Wd} : ∀ {ys : List (Key × V)} {kvs : List (Key × D)}, Paired (fun (p : Key × V) (q : Key × D) => p.1 = q.1 ∧ RelD G wd p.2 q.2) ys kvs → RelDs G wd (ys.map Prod.snd) (kvs.map Prod.snd)
  | _, _, .nil => RelDs.nil
  | _, _, .cons h t => RelDs.cons h.2 (paired_snd t)
theorem lock_ok {wd : Wd} {H : Hp} {L : Live} {n : Nat} {a : Addr} {ys : List (Key × V)} {kvs : List (Key × D)} (w : WOk (G := G) wd H L) (hn : L[n]? = some (.dic kvs)) (hι : wd.ι n = some a) (hH : H a = some (.dK ys)) (od : Obj) :
    Ext wd { wd with F := upd wd.F a (.frz od (.dK ys)) } ∧ WOk (G := G) { wd with F := upd wd.F a (.frz od (.dK ys)) } (upd H a (.frz od (.dK ys))) (L.set n .gone) := by
  obtain ⟨a', h1, h2, h3⟩ := w.live n _ hn
  rw [hι] at h1; cases h1
  have hF := h3 (by simp)
  have e : Ext wd { wd with F := upd wd.F a (.frz od (.dK ys)) } := ⟨fun _ _ h => h, fun b o h => upd_keeps hF b o h, rfl, fun _ _ h => .inl h⟩
  refine ⟨e, ⟨fun b o h => ?_, fun m o h => ?_, fun m b h => by simpa using w.dom m b h, w.inj, fun b hb => ?_, fun b o h => ?_, fun m b h => ?_⟩⟩
  · have h' : upd wd.F a (.frz od (.dK ys)) b = some o := h
    by_cases c : b = a
    · subst c; rw [upd_same] at h' ⊢; exact h'
    · rw [upd_ne c] at h' ⊢; exact w.sub _ _ h'
  · by_cases c : n = m
    · subst c
      rw [List.getElem?_set_self (List.getElem?_eq_some_iff.mp hn).1] at h
      cases h
      exact ⟨a, hι, True.intro, fun z => absurd rfl z⟩
    · rw [List.getElem?_set_ne c] at h
      obtain ⟨b, g1, g2, g3⟩ := w.live m o h
      have nb : b ≠ a := fun z => c (w.inj n m a hι (z ▸ g1))
      refine ⟨b, g1, ?_, fun z => by show upd wd.F a _ b = none; rw [upd_ne nb]; exact g3 z⟩
      have g4 := g2.ext e
      cases o with
      | lst ds => obtain ⟨xs, k1, k2⟩ := g4; exact ⟨xs, by rw [upd_ne nb]; exact k1, k2⟩
      | dic ks => obtain ⟨xs, k1, k2⟩ := g4; exact ⟨xs, by rw [upd_ne nb]; exact k1, k2⟩
      | ins C fs =>
        obtain ⟨ca, dx, gs, k0, k1, k2, k3⟩ := g4
        exact ⟨ca, dx, gs, k0, by rw [upd_ne nb]; exact k1, by rw [upd_ne (fun z => by rw [z, hH] at k2; cases k2)]; exact k2, k3⟩
      | gone => exact True.intro
  · obtain ⟨o, ho⟩ := w.bor b hb
    exact ⟨o, e.F _ _ ho⟩
  · have h' : upd wd.F a (.frz od (.dK ys)) b = some o := h
    by_cases c : b = a
    · subst c; rw [upd_same] at h'; cases h'; exact .inr (.inr (.inr (.inr ⟨_, _, rfl⟩)))
    · rw [upd_ne c] at h'; exact w.seq _ _ h'
  · by_cases c : b = a
    · subst c; exact ⟨_, upd_same⟩
    · rw [upd_ne c]; exact w.there m b h
/-- the world without what stands at a -/
def Wd.rid (wd : Wd) (a : Addr) : Wd := { wd with F := fun b => if b = a then none else wd.F b }
theorem rid_F {wd : Wd} {a b : Addr} (h : b ≠ a) : (wd.rid a).F b = wd.F b := if_neg h
mutual
theorem rid_rel {wd : Wd} {a : Addr} {od : Obj} {ys : List (Key × V)} (h : wd.F a = some (.frz od (.dK ys))) : ∀ {d : D} {v : V}, RelD G wd v d → RelD G (wd.rid a) v d
  | .non, v, r => by simpa [RelD] using r
  | .bl b, v, r => by simpa [RelD] using r
  | .int i, v, r => by simpa [RelD] using r
  | .str s, v, r => by simpa [RelD] using r
  | .tup ds, v, r => by
    simp only [RelD] at r ⊢
    obtain ⟨b, xs, h1, h2, h3⟩ := r
    refine ⟨b, xs, h1, ?_, rid_rels h h3⟩
    rcases h2 with (h2 | ⟨u, h2⟩) | h2
    · exact .inl (.inl (by rw [rid_F (fun z => by rw [z, h] at h2; cases h2)]; exact h2))
    · exact .inl (.inr ⟨u, by rw [rid_F (fun z => by rw [z, h] at h2; cases h2)]; exact h2⟩)
    · exact .inr h2
  | .lst t ds, v, r => by
    simp only [RelD] at r ⊢
    obtain ⟨b, xs, h1, h2, h3, h4, h5⟩ := r
    refine ⟨b, xs, h1, ?_, rid_rels h h3, h4, h5⟩
    rcases h2 with h2 | ⟨u, h2⟩
    · exact .inl (by rw [rid_F (fun z => by rw [z, h] at h2; cases h2)]; exact h2)
    · exact .inr ⟨u, by rw [rid_F (fun z => by rw [z, h] at h2; cases h2)]; exact h2⟩
  | .ref n, v, r => by simpa [RelD, Wd.rid] using r
  | .dct ks ds, v, r => by
    simp only [RelD] at r ⊢
    obtain ⟨b, zs, h1, h2, h3, h4⟩ := r
    exact ⟨b, zs, h1, by rw [rid_F (fun z => by rw [z, h] at h2; cases h2)]; exact h2, h3, rid_rels h h4⟩
theorem rid_rels {wd : Wd} {a : Addr} {od : Obj} {ys : List (Key × V)} (h : wd.F a = some (.frz od (.dK ys))) : ∀ {ds : List D} {xs : List V}, RelDs G wd xs ds → RelDs G (wd.rid a) xs ds
  | [], xs, r => by simpa [RelDs] using r
  | d :: ds, xs, r => by
    simp only [RelDs] at r ⊢
    obtain ⟨v, vs, h1, h2, h3⟩ := r
    exact ⟨v, vs, h1, rid_rel h h2, rid_rels h h3⟩
end
theorem unlock_ok {wd : Wd} {H : Hp} {M : Live} {n : Nat} {a : Addr} {od : Obj} {ys : List (Key × V)} {kvs : List (Key × D)} (w : WOk (G := G) wd H M) (hn : M[n]? = some .gone) (hι : wd.ι n = some a) (hF : wd.F a = some (.frz od (.dK ys))) (nb : a ∉ wd.bor)
    (hp : Paired (fun (p : Key × V) (q : Key × D) => p.1 = q.1 ∧ RelD G wd p.2 q.2) ys kvs) : WOk (G := G) (wd.rid a) (upd H a (.dK ys)) (M.set n (.dic kvs)) := by
  have hH := w.sub _ _ hF
  refine ⟨fun b o h => ?_, fun m o h => ?_, fun m b h => by simpa using w.dom m b h, w.inj, fun b hb => ?_, fun b o h => ?_, fun m b h => ?_⟩
  · have h' : (if b = a then none else wd.F b) = some o := h
    split at h'
    · cases h'
    · rename_i c; rw [upd_ne c]; exact w.sub _ _ h'
  · by_cases c : n = m
    · subst c
      rw [List.getElem?_set_self (List.getElem?_eq_some_iff.mp hn).1] at h
      cases h
      exact ⟨a, hι, ⟨ys, upd_same, paired_ext (fun d v => rid_rel hF) hp⟩, fun _ => if_pos rfl⟩
    · rw [List.getElem?_set_ne c] at h
      obtain ⟨b, g1, g2, g3⟩ := w.live m o h
      have nb : b ≠ a := fun z => c (w.inj n m a hι (z ▸ g1))
      refine ⟨b, g1, ?_, fun z => by rw [rid_F nb]; exact g3 z⟩
      cases o with
      | lst ds => obtain ⟨xs, k1, k2⟩ := g2; exact ⟨xs, by rw [upd_ne nb]; exact k1, rid_rels hF k2⟩
      | dic ks => obtain ⟨xs, k1, k2⟩ := g2; exact ⟨xs, by rw [upd_ne nb]; exact k1, paired_ext (fun d v => rid_rel hF) k2⟩
      | ins C fs =>
        obtain ⟨ca, dx, gs, k0, k1, k2, k3⟩ := g2
        exact ⟨ca, dx, gs, k0, by rw [upd_ne nb]; exact k1, by rw [upd_ne (fun z => by rw [z, hH] at k2; cases k2)]; exact k2, Paired.mapP k3 fun _ _ z => ⟨z.1, rid_rel hF z.2⟩⟩
      | gone => exact True.intro
  · obtain ⟨o, ho⟩ := w.bor b hb
    exact ⟨o, by rw [rid_F (fun z => nb (by rw [← z]; exact hb))]; exact ho⟩
  · have h' : (if b = a then none else wd.F b) = some o := h
    split at h'
    · cases h'
    · exact w.seq _ _ h'
  · by_cases c : b = a
    · subst c; exact ⟨_, upd_same⟩
    · rw [upd_ne c]; exact w.there m b h
theorem walk_vals {wd0 : Wd} {a : Addr} {od : Obj} {ys : List (Key × V)} {ds : List D} (hF : wd0.F a = some (.frz od (.dK ys))) (r : RelDs G wd0 (ys.map Prod.snd) ds) : WalkD G wd0 (Itd a od ys) ds [] where
  go := fun {wd H L i} e w hs hi => ⟨w.sub _ _ (e.frz _ _ _ hF), by have := RelDs.length r; rw [List.length_map] at this; omega⟩
  yld := fun {wd H L i x H'} hi e w hs y => by
    obtain ⟨rfl, k, hk⟩ := y
    obtain ⟨v, h1, h2⟩ := RelDs.get r (List.getElem?_eq_getElem hi)
    rw [List.getElem?_map, hk] at h1
    cases h1
    exact ⟨wd, Ext.refl _, w, e.rel _ _ h2⟩
  stop := fun {wd H L i} e w hs hi => ⟨w.sub _ _ (e.frz _ _ _ hF), by have := RelDs.length r; rw [List.length_map] at this; omega⟩
theorem compL_ne {w : List (Nat × List D)} {g : Tg} {E : Ev} {c : Ev → Live → Res Bool} {e : Ev → Live → Res D} : ∀ (ds acc : List D) (L : Live) (C : Str) (fs : List (Str × D)) (L' : Live), compL w g E c e ds acc L ≠ .exc C fs L'
  | [], acc, L, C, fs, L' => by simp only [compL]; split <;> simp
  | d :: ds, acc, L, C, fs, L' => by
    simp only [compL]
    split
    · split
      · split
        · split
          · split
            · split
              · exact compL_ne ds _ _ _ _ _
              · simp
            · simp
          · exact compL_ne ds _ _ _ _ _
        · simp
      · simp
    · simp
end
section
variable {G : Gv} {X : Cx} {W : WX} {md : Ev → Live → Res D}
/-- what is walked is named so that looking it up changes nothing, and does not ask the dict -/
structure Quiet (md : Ev → Live → Res D) : Prop where
  ok : ∀ E L, (∃ x, md E L = .ok x L) ∨ md E L = .stuck
  keep : ∀ E L n kvs, md E L = .ok (.ref n) L → L[n]? = some (.dic kvs) → md E (L.set n .gone) = .ok (.ref n) (L.set n .gone)
theorem me_compV (g : Gd G X) (lv : Bool) (q : Quiet md) {elt de tg : Expr} {ifs : List Expr} {scope : Scope} {own : List (Str × Nat)} {gt : Tg} {tc : Ev → Live → Res Bool} {me : Ev → Live → Res D} {pos apos cpos : Pos}
    (hd : PE X de (tE G W md)) (hbase : attributeBase de "values" X.env (eval de X.env) = eval de X.env) (hline : (apos.endLine == cpos.line) = true) (ok : BlkOk X.N X.env.scope scope own)
    (hg : ∀ (s : Shared) (H : Hp) (C : Addr) (cl : List (Str × Addr)) (fp : List Addr), PG (X.blk s H scope (compEnvC scope cl C X.env) fp) tg (tG G gt)) (ht : ∀ (s : Shared) (H : Hp) (C : Addr) (cl : List (Str × Addr)) (fp : List Addr), PTs (X.blk s H scope (compEnvC scope cl C X.env) fp) ifs (tT G W0 tc))
    (he : ∀ (s : Shared) (H : Hp) (C : Addr) (cl : List (Str × Addr)) (fp : List Addr), PE (X.blk s H scope (compEnvC scope cl C X.env) fp) elt (tE G W0 me)) (hsl : ∀ i ∈ slotsG gt, i ∈ own.map (·.2)) :
    PE X (.ListComp elt [⟨tg, .Call (.Attribute de "values" apos) [] [] cpos, ifs, 0⟩] scope pos) (tE G W fun E L => (md E L).bind fun x L1 => (optV (dicAt x L1) L1).bind fun q L2 =>
      (compL [] gt (wipeE E (own.map (·.2))) tc me (q.2.map Prod.snd) [] (L2.set q.1 .gone)).bind fun ds L3 => if L3[q.1]? = some .gone then .ok (newL lv ds L3).1 ((newL lv ds L3).2.set q.1 (.dic q.2)) else .stuck) := by
  refine peImp (pe_lock (pe_lc g.calm g.nd (pi_values hd hbase hline) ok hg ht he (set_folded rfl))) fun σ H Q ⟨wd, E, L, rs, w, run⟩ => ?_
  dsimp only at run
  rcases q.ok E L with ⟨x, hx⟩ | hx
  case inr => rw [hx] at run; exact False.elim run
  rw [hx, Res.bind_ok] at run
  cases x with
  | ref n =>
    simp only [dicAt] at run
    cases ql : L[n]? with
    | none => rw [ql] at run; exact False.elim run
    | some lo =>
      rw [ql] at run
      cases lo with
      | dic kvs =>
        simp only [optV, Res.bind_ok] at run
        obtain ⟨a, hι, ⟨ys, hH, hp⟩, hF'⟩ := w.live n _ ql
        have hF := hF' (by simp)
        have nb : a ∉ wd.bor := fun z => by
          obtain ⟨o, ho⟩ := w.bor _ z
          rw [hF] at ho; cases ho
        refine ⟨a, .dK ys, hH, trivial, fun od => ?_⟩
        obtain ⟨e1, w1⟩ := lock_ok w ql hι hH od
        refine me_comp_gen (W := W) lv hsl (rs.ext e1) fun R hR => ⟨_, E, L.set n .gone, rs.ext e1, w1, ?_⟩
        rw [q.keep E L n kvs hx ql]
        intro wd2 H2 v e2 w2 r2
        simp only [RelD] at r2
        obtain ⟨a', hι', rfl⟩ := r2
        have ha : a' = a := by
          have := e2.ι n a hι
          rw [hι'] at this; cases this; rfl
        subst ha
        have hF2 := e2.F a' _ upd_same
        refine ⟨a', od, ys, rfl, w2.sub _ _ hF2, hR _ _ ⟨wd2, kvs.map Prod.snd, [], L.set n .gone, e2, w2, walk_vals hF2 ((paired_snd hp).ext G (e1.trans e2)), ?_⟩⟩
        cases qc : compL [] gt (wipeE E (own.map (·.2))) tc me (kvs.map Prod.snd) [] (L.set n .gone) with
        | stuck => rw [qc] at run; exact False.elim run
        | exc C fs L' => exact absurd qc (compL_ne _ _ _ _ _ _)
        | ok ds L3 =>
          rw [qc, Res.bind_ok] at run
          split at run
          case isFalse => exact False.elim run
          rename_i hg3
          intro wd3 H3 v3 e3 w3 r3
          have hF3 := e3.F a' _ hF2
          have e03 := (e1.trans e2).trans e3
          have hM : (newL lv ds L3).2[n]? = some .gone := by
            unfold newL
            split
            · rw [List.getElem?_append_left (List.getElem?_eq_some_iff.mp hg3).1]; exact hg3
            · exact hg3
          refine ⟨w3.sub _ _ hF3, run (wd3.rid a') _ v3 ⟨fun m b h => e03.ι m b h, fun b o h => ?_, e03.bor, fun m b h => ?_⟩ (unlock_ok w3 hM (e03.ι n a' hι) hF3 (by rw [e03.bor]; exact nb) (paired_ext (fun d v r => r.ext G e03) hp)) (rid_rel hF3 r3)⟩
          · rw [rid_F (fun z => by rw [z, hF] at h; cases h)]; exact e03.F _ _ h
          · exact e03.new m b h
      | _ => exact False.elim run
  | _ => exact False.elim run
/-! ### list(d.values()) -/
theorem me_lvl (g : Gd G X) (lv : Bool) {de : Expr} {p pos apos cpos : Pos} (hl : Gl X "list") (hlm : X.mg "list" = none) (hd : PE X de (tE G W md)) (hbase : attributeBase de "values" X.env (eval de X.env) = eval de X.env) (hline : (apos.endLine == cpos.line) = true)
    (na : starEach [.Call (.Attribute de "values" apos) [] [] cpos] X.env = (false, eval (.Call (.Attribute de "values" apos) [] [] cpos) X.env) :: starEach [] X.env) :
    PE X (.Call (.Name "list" p) [.Call (.Attribute de "values" apos) [] [] cpos] [] pos) (tE G W fun E L => (md E L).bind fun x L1 => opt (lvlD lv x L1)) := by
  refine ⟨fun pins s σ H Q I ⟨wd, E, L, rs, w, run⟩ => ?_⟩
  refine Call_ (ld_blt I hl hlm boot_list (PyProof.Rows.callWith_type1 (args_cons (wpAny_Call_method (T := "dict") (id := "dict.values") hbase rfl hline PySem.F.plainAttrs_dict PySem.F.slot_dict_values PySem.F.type_dict_values
    (thn (hd.run pins s σ H _ I ⟨wd, E, L, rs, w, run.bind⟩) fun u s1 ⟨x, H1, I1, rx, wd1, d1, L1, e1, w1, r1, run1⟩ => ?_)) na) na rfl))
  obtain ⟨d', L', q1, q2⟩ := opt_run run1
  cases d1 with
  | ref n =>
    simp only [lvlD] at q1
    cases ql : L1[n]? with
    | none => rw [ql] at q1; cases q1
    | some lo =>
      rw [ql] at q1
      cases lo with
      | dic kvs =>
        simp only at q1
        split at q1
        case isFalse => cases q1
        rename_i hz
        have hz := of_decide_eq_true hz
        have q1 := Option.some.inj q1
        obtain ⟨a, rfl, ha, ⟨ys, hy, ry⟩, _⟩ := rd_ref w1 r1 ql
        cases rx
        obtain ⟨z, hs, vs, rel, dd⟩ := dk_of I1.hok hy
        have len : ys.length = kvs.length := Paired.length ry
        have lv2 : ys.length = vs.length := Paired.length rel
        refine ⟨dd.typeIs, dd.mapOf.noDict, ?_⟩
        have I2 : Inv X pins σ H1 { s1 with heap := s1.heap.push { cls := .type "dict_values", data := .fields #[.ref a] } } := I1.kept (t' := s1.toks) fun b ob q => Heap.get?_push_of_some _ q
        show wpAny _ _ (callWith cpos (.builtin "dict.values") [.ref a] [] []) _ X.xe s1
        refine method_meetsIn PySem.F.slot_dict_values PySem.F.entry_dict_values rfl (PySem.evalArgs_none ⟨rfl, dd.typeIs, PySem.F.args_dict_values_1 _, _, meets_dict_values (mixKind X.prog X.w) a hs, ⟨vs, dd⟩, args_nil ?_⟩)
        obtain ⟨ep, hat⟩ := dd.dictAt
        refine PySem.W.kdl_call (PySem.W.kdl_values (knd := mixKind X.prog X.w) (kvs := vs) (ep := ep)) (I.ok.hd g.calm) ⟨⟨_, Heap.get?_push_size _ rfl, rfl, rfl⟩, hat.push _⟩ (by omega) fun h' tk acc' c' hkeep hS hacc => ?_
        refine ⟨.ref _, upd H1 _ (.lst (ys.map Prod.snd)), I2.laid hkeep (Nat.le_refl _) (show ObjOk X.prog X.w _ _ _ (.lst (ys.map Prod.snd)) from ⟨?_, acc'.toList, c', ?_, ?_⟩), rfl, ?_⟩
        · rw [List.length_map]; omega
        · have el : acc'.toList.length = acc'.size := by simp
          refine vals_of_at (by rw [List.length_map, el, hacc.1, lv2]) fun j x u h1 h2 => ?_
          obtain ⟨k, hk⟩ := hacc.2 j u (by rw [← Array.getElem?_toList]; exact h2)
          rw [List.getElem?_map] at h1
          cases qy : ys[j]? with
          | none => rw [qy] at h1; cases h1
          | some y =>
            rw [qy] at h1
            cases h1
            exact (paired_at rel qy hk).2
        · rw [Array.toArray_toList]; exact hS
        · have e1 : (newL lv (kvs.map Prod.snd) L1).1 = d' := by rw [q1]
          have e2 : (newL lv (kvs.map Prod.snd) L1).2 = L' := by rw [q1]
          exact new_list (lv := lv) w1 (paired_snd ry) (I2.hok.fresh (Nat.le_refl _)) (by rw [e1, e2]; exact q2)
      | _ => cases q1
  | _ => cases q1
end
end MP
set_option maxHeartbeats 4000000
/-! MP: zip of three lists -/
namespace MP
open PySem PySem.Spec PyProof.Rows L2
abbrev IsTrip (h : Heap) (T : Addr) (a b c : Value) : Prop := h.get? T = some { cls := .type "tuple", data := .seq #[a, b, c] }
structure Apart3 (z TI TO i1 i2 i3 l1 l2 l3 : Addr) : Prop where
  own : [z, TI, TO, i1, i2, i3].Nodup
  l1 : l1 ∉ [z, TI, TO, i1, i2, i3]
  l2 : l2 ∉ [z, TI, TO, i1, i2, i3]
  l3 : l3 ∉ [z, TI, TO, i1, i2, i3]
theorem Apart3.all {z TI TO i1 i2 i3 l1 l2 l3 : Addr} (D : Apart3 z TI TO i1 i2 i3 l1 l2 l3) :
    (TI ≠ z ∧ TO ≠ z ∧ i1 ≠ z ∧ i2 ≠ z ∧ i3 ≠ z) ∧ (TI ≠ TO ∧ TI ≠ i1 ∧ TI ≠ i2 ∧ TI ≠ i3) ∧ (TO ≠ i1 ∧ TO ≠ i2 ∧ TO ≠ i3) ∧ (i1 ≠ i2 ∧ i1 ≠ i3 ∧ i2 ≠ i3) ∧
    (l1 ≠ z ∧ l1 ≠ TO ∧ l1 ≠ i1 ∧ l1 ≠ i2 ∧ l1 ≠ i3) ∧ (l2 ≠ z ∧ l2 ≠ TO ∧ l2 ≠ i1 ∧ l2 ≠ i2 ∧ l2 ≠ i3) ∧ (l3 ≠ z ∧ l3 ≠ TO ∧ l3 ≠ i1 ∧ l3 ≠ i2 ∧ l3 ≠ i3) := by
  obtain ⟨h, h1, h2, h3⟩ := D
  simp only [List.nodup_cons, List.mem_cons, List.not_mem_nil, or_false, not_or, List.nodup_nil, not_false_eq_true, and_true] at h h1 h2 h3
  obtain ⟨⟨a1, a2, a3, a4, a5⟩, ⟨b1, b2, b3, b4⟩, ⟨c1, c2, c3⟩, ⟨d1, d2⟩, e1⟩ := h
  obtain ⟨f1, f2, f3, f4, f5, f6⟩ := h1
  obtain ⟨g1, g2, g3, g4, g5, g6⟩ := h2
  obtain ⟨k1, k2, k3, k4, k5, k6⟩ := h3
  exact ⟨⟨Ne.symm a1, Ne.symm a2, Ne.symm a3, Ne.symm a4, Ne.symm a5⟩, ⟨b1, b2, b3, b4⟩, ⟨c1, c2, c3⟩, ⟨d1, d2, e1⟩, ⟨f1, f3, f4, f5, f6⟩, ⟨g1, g3, g4, g5, g6⟩, ⟨k1, k3, k4, k5, k6⟩⟩
section
variable {prog : Program} {w : World} {A : Around} {E : Value → Shared → Prop} {s : Shared}
theorem upd_trip {T : Addr} {a b c x : Value} {k : Nat} {Q : Unit → Shared → Prop} (hT : IsTrip s.heap T a b c)
    (h : ∀ h', h'.get? T = some { cls := .type "tuple", data := .seq ((#[a, b, c] : Array Value).setIfInBounds k x) } → Heap.SameBut T s.heap h' → Q () { s with heap := h' }) :
    wpAny (model prog w) A (updateSeq T (·.setIfInBounds k x)) Q E s :=
  wpAny_updateSeq hT rfl (h _ (by rw [Heap.get?_update_self _ hT rfl]; simp [Obj.mapSeq]) (Heap.SameBut.update ..))
theorem zip3_item {z TI TO i1 i2 i3 l1 l2 l3 : Addr} {k : Nat} {xs ys zs : Array Value} {x y v a b c : Value} {Q : Value → Shared → Prop} (D : Apart3 z TI TO i1 i2 i3 l1 l2 l3)
    (hz : IsZip s.heap z TI TO .none) (hTI : IsTrip s.heap TI (.ref i1) (.ref i2) (.ref i3)) (hTO : IsTrip s.heap TO a b c)
    (h1 : s.heap.IsListIter i1 l1 k) (h2 : s.heap.IsListIter i2 l2 k) (h3 : s.heap.IsListIter i3 l3 k) (g1 : s.heap.IsList l1 xs) (g2 : s.heap.IsList l2 ys) (g3 : s.heap.IsList l3 zs) (hx : xs[k]? = some x) (hy : ys[k]? = some y) (hv : zs[k]? = some v)
    (hQ : ∀ h', IsZip h' z TI TO (rawInt s.heap.objs.size) → IsTrip h' TO x y v → h'.IsListIter i1 l1 (k + 1) → h'.IsListIter i2 l2 (k + 1) → h'.IsListIter i3 l3 (k + 1) → IsTrip h' s.heap.objs.size x y v → h'.objs.size = s.heap.objs.size + 1 →
      (∀ q o, q ≠ z → q ≠ TO → q ≠ i1 → q ≠ i2 → q ≠ i3 → s.heap.get? q = some o → h'.get? q = some o) → Q (.ref s.heap.objs.size) { s with heap := h' }) :
    wpAny (model prog w) A (Builtin.«zip.__next__» ⟨[.ref z], []⟩) (fun fin s' => ∃ v, fin = .done (.ret v) ∧ Q v s') E s := by
  obtain ⟨⟨TIz, TOz, i1z, i2z, i3z⟩, ⟨TITO, TIi1, TIi2, TIi3⟩, ⟨TOi1, TOi2, TOi3⟩, ⟨i12, i13, i23⟩, ⟨l1z, l1TO, l1i1, l1i2, l1i3⟩, ⟨l2z, l2TO, l2i1, l2i2, l2i3⟩, ⟨l3z, l3TO, l3i1, l3i2, l3i3⟩⟩ := D.all
  show wpAny _ _ (field (.ref z) 2 >>= _) _ _ _; refine wpAny_bind (wpAny_field hz rfl (x := .bool false) rfl ?_)
  show wpAny _ _ (field (.ref z) 3 >>= _) _ _ _; refine wpAny_bind (wpAny_field hz rfl (x := .ref TI) rfl (wpAny_bind (wpAny_seqItems hTI rfl ?_)))
  show wpAny _ _ (Builtin.SmallTypes.ownedTupleIsFree (.ref z) >>= _) _ _ _; refine wpAny_bind ?_; unfold Builtin.SmallTypes.ownedTupleIsFree
  refine wpAny_bind (wpAny_field hz rfl (x := .none) rfl (wpAny_pure ?_)); simp only [if_true]
  refine wpAny_bind (wpAny_rule (wpAny_bind (wpAny_field hz rfl (x := .ref TO) rfl (wpAny_bind (wpAny_setField_rec hz (by simp) fun n1 hz1 s1 => ?_)))))
  replace hz1 : IsZip n1 z TI TO .ellipsis := hz1
  refine wpAny_bind ?_; simp only [List.zipIdx_cons, List.zipIdx_nil, List.forIn_cons, List.forIn_nil]
  -- the first
  refine wpAny_bind (wpAny_bind (wpAny_onRaise ?_)); show wpAny _ _ (Builtin.SmallTypes.nextOf (.ref i1) >>= _) _ _ _
  refine wpAny_bind (wpAny_nextOf_list_item (h1.extBut s1.extBut i1z) (g1.extBut s1.extBut l1z) hx fun n2 a2 s2 => wpAny_pure ?_)
  have t2 : IsTrip n2 TO a b c := s2.extBut _ _ TOi1 (s1.extBut _ _ TOz hTO)
  refine wpAny_bind (wpAny_seqItems t2 rfl (wpAny_bind (upd_trip t2 fun n3 t3 s3 => wpAny_bind (wpAny_letGo (wpAny_pure ?_)))))
  replace t3 : IsTrip n3 TO x b c := t3
  -- the second
  refine wpAny_bind (wpAny_bind (wpAny_onRaise ?_)); show wpAny _ _ (Builtin.SmallTypes.nextOf (.ref i2) >>= _) _ _ _
  refine wpAny_bind (wpAny_nextOf_list_item (((h2.extBut s1.extBut i2z).extBut s2.extBut i12.symm).extBut s3.extBut TOi2.symm) (((g2.extBut s1.extBut l2z).extBut s2.extBut l2i1).extBut s3.extBut l2TO) hy fun n4 a4 s4 => wpAny_pure ?_)
  have t4 : IsTrip n4 TO x b c := s4.extBut _ _ TOi2 t3
  refine wpAny_bind (wpAny_seqItems t4 rfl (wpAny_bind (upd_trip t4 fun n5 t5 s5 => wpAny_bind (wpAny_letGo (wpAny_pure ?_)))))
  replace t5 : IsTrip n5 TO x y c := t5
  -- the third
  refine wpAny_bind (wpAny_bind (wpAny_onRaise ?_)); show wpAny _ _ (Builtin.SmallTypes.nextOf (.ref i3) >>= _) _ _ _
  refine wpAny_bind (wpAny_nextOf_list_item (((((h3.extBut s1.extBut i3z).extBut s2.extBut i13.symm).extBut s3.extBut TOi3.symm).extBut s4.extBut i23.symm).extBut s5.extBut TOi3.symm)
    (((((g3.extBut s1.extBut l3z).extBut s2.extBut l3i1).extBut s3.extBut l3TO).extBut s4.extBut l3i2).extBut s5.extBut l3TO) hv fun n6 a6 s6 => wpAny_pure ?_)
  have t6 : IsTrip n6 TO x y c := s6.extBut _ _ TOi3 t5
  refine wpAny_bind (wpAny_seqItems t6 rfl (wpAny_bind (upd_trip t6 fun n7 t7 s7 => wpAny_bind (wpAny_letGo (wpAny_pure (wpAny_pure ?_))))))
  replace t7 : IsTrip n7 TO x y v := t7
  refine wpAny_bind (wpAny_seqItems t7 rfl (wpAny_bind (wpAny_newTuple ?_)))
  have hsz : n7.objs.size = s.heap.objs.size := by rw [s7.1, s6.1, s5.1, s4.1, s3.1, s2.1, s1.1]
  have kz : IsZip n7 z TI TO .ellipsis := s7.extBut _ _ TOz.symm (s6.extBut _ _ i3z.symm (s5.extBut _ _ TOz.symm (s4.extBut _ _ i2z.symm (s3.extBut _ _ TOz.symm (s2.extBut _ _ i1z.symm hz1)))))
  have kk : ∀ q o, q ≠ z → q ≠ TO → q ≠ i1 → q ≠ i2 → q ≠ i3 → s.heap.get? q = some o → n7.get? q = some o := fun q o c1 c2 c3 c4 c5 e =>
    s7.extBut _ _ c2 (s6.extBut _ _ c5 (s5.extBut _ _ c2 (s4.extBut _ _ c4 (s3.extBut _ _ c2 (s2.extBut _ _ c3 (s1.extBut _ _ c1 e))))))
  have k1 : n7.IsListIter i1 l1 (k + 1) := ((((a2.extBut s3.extBut TOi1.symm).extBut s4.extBut i12).extBut s5.extBut TOi1.symm).extBut s6.extBut i13).extBut s7.extBut TOi1.symm
  have k2 : n7.IsListIter i2 l2 (k + 1) := ((a4.extBut s5.extBut TOi2.symm).extBut s6.extBut i23).extBut s7.extBut TOi2.symm
  have k3 : n7.IsListIter i3 l3 (k + 1) := a6.extBut s7.extBut TOi3.symm
  have zlt : z < n7.objs.size := Heap.lt_size kz
  show wpAny _ _ (Builtin.SmallTypes.ownedTupleHandOut (.ref z) (.ref n7.objs.size) >>= _) _ _ _; refine wpAny_bind ?_; unfold Builtin.SmallTypes.ownedTupleHandOut
  have z6 : IsZip (n7.push { cls := .type "tuple", data := .seq #[x, y, v] }) z TI TO .ellipsis := Heap.get?_push_of_some _ kz
  refine wpAny_bind (wpAny_setField_rec z6 (by simp) fun n8 z8 s8 => ?_)
  replace z8 : IsZip n8 z TI TO (rawInt n7.objs.size) := z8
  refine wpAny_setField_rec z8 (by simp) fun n9 z9 s9 => ?_
  replace z9 : IsZip n9 z TI TO (rawInt n7.objs.size) := z9
  have up : ∀ q o, q ≠ z → n7.get? q = some o → n9.get? q = some o := fun q o c1 e => s9.extBut _ _ c1 (s8.extBut _ _ c1 (Heap.get?_push_of_some _ e))
  have t9 : IsTrip n9 n7.objs.size x y v := s9.extBut _ _ (Nat.ne_of_gt zlt) (s8.extBut _ _ (Nat.ne_of_gt zlt) (Heap.get?_push_size _ rfl))
  have w9 : n9.objs.size = n7.objs.size + 1 := by rw [s9.1, s8.1, Heap.size_push]
  rw [hsz] at z9 t9 w9
  refine wpAny_pure ⟨_, rfl, ?_⟩
  show Q (.ref n7.objs.size) _; rw [hsz]
  exact hQ n9 z9 (up _ _ TOz t7) (k1.at fun o e => up _ o i1z e) (k2.at fun o e => up _ o i2z e) (k3.at fun o e => up _ o i3z e) t9 w9 fun q o c1 c2 c3 c4 c5 e => up q o c1 (kk q o c1 c2 c3 c4 c5 e)
theorem zip3_end {z TI TO i1 i2 i3 l1 l2 l3 : Addr} {k : Nat} {xs ys zs : Array Value} {a b c : Value} {Q : Fin → Shared → Prop} (hh : A.handled = none) (D : Apart3 z TI TO i1 i2 i3 l1 l2 l3)
    (hz : IsZip s.heap z TI TO .none) (hTI : IsTrip s.heap TI (.ref i1) (.ref i2) (.ref i3)) (hTO : IsTrip s.heap TO a b c)
    (h1 : s.heap.IsListIter i1 l1 k) (h2 : s.heap.IsListIter i2 l2 k) (h3 : s.heap.IsListIter i3 l3 k) (g1 : s.heap.IsList l1 xs) (g2 : s.heap.IsList l2 ys) (g3 : s.heap.IsList l3 zs) (hend : xs[k]? = none ∨ ys[k]? = none ∨ zs[k]? = none)
    (hE : ∀ h' e, (∀ q o, q ≠ z → q ≠ TO → q ≠ i1 → q ≠ i2 → q ≠ i3 → s.heap.get? q = some o → h'.get? q = some o) → (∃ o, h'.get? e = some o ∧ o.cls = .type "StopIteration") → E (.ref e) { s with heap := h' }) :
    wpAny (model prog w) A (Builtin.«zip.__next__» ⟨[.ref z], []⟩) Q E s := by
  obtain ⟨⟨TIz, TOz, i1z, i2z, i3z⟩, ⟨TITO, TIi1, TIi2, TIi3⟩, ⟨TOi1, TOi2, TOi3⟩, ⟨i12, i13, i23⟩, ⟨l1z, l1TO, l1i1, l1i2, l1i3⟩, ⟨l2z, l2TO, l2i1, l2i2, l2i3⟩, ⟨l3z, l3TO, l3i1, l3i2, l3i3⟩⟩ := D.all
  show wpAny _ _ (field (.ref z) 2 >>= _) _ _ _; refine wpAny_bind (wpAny_field hz rfl (x := .bool false) rfl ?_)
  show wpAny _ _ (field (.ref z) 3 >>= _) _ _ _; refine wpAny_bind (wpAny_field hz rfl (x := .ref TI) rfl (wpAny_bind (wpAny_seqItems hTI rfl ?_)))
  show wpAny _ _ (Builtin.SmallTypes.ownedTupleIsFree (.ref z) >>= _) _ _ _; refine wpAny_bind ?_; unfold Builtin.SmallTypes.ownedTupleIsFree
  refine wpAny_bind (wpAny_field hz rfl (x := .none) rfl (wpAny_pure ?_)); simp only [if_true]
  refine wpAny_bind (wpAny_rule (wpAny_bind (wpAny_field hz rfl (x := .ref TO) rfl (wpAny_bind (wpAny_setField_rec hz (by simp) fun n1 hz1 s1 => ?_)))))
  replace hz1 : IsZip n1 z TI TO .ellipsis := hz1
  refine wpAny_bind ?_; simp only [List.zipIdx_cons, List.zipIdx_nil, List.forIn_cons, List.forIn_nil]
  refine wpAny_bind (wpAny_bind (wpAny_onRaise ?_)); show wpAny _ _ (Builtin.SmallTypes.nextOf (.ref i1) >>= _) _ _ _
  cases hx : xs[k]? with
  | none =>
    refine wpAny_bind (wpAny_nextOf_list_end hh (h1.extBut s1.extBut i1z) (g1.extBut s1.extBut l1z) hx fun n2 e s2 he => ?_)
    obtain ⟨oe, hoe, hce⟩ := he
    have q2 : IsZip n2 z TI TO .ellipsis := s2 _ _ i1z.symm hz1
    have ez : e ≠ z := fun q => by subst q; rw [q2] at hoe; cases hoe; simp at hce
    refine wpAny_setField_rec q2 (by simp) fun n3 _ s3 => hE n3 e (fun q o c1 _ c3 _ _ u => s3.extBut _ _ c1 (s2 _ _ c3 (s1.extBut _ _ c1 u))) ⟨oe, s3.extBut _ _ ez hoe, hce⟩
  | some x =>
    refine wpAny_bind (wpAny_nextOf_list_item (h1.extBut s1.extBut i1z) (g1.extBut s1.extBut l1z) hx fun n2 a2 s2 => wpAny_pure ?_)
    have t2 : IsTrip n2 TO a b c := s2.extBut _ _ TOi1 (s1.extBut _ _ TOz hTO)
    refine wpAny_bind (wpAny_seqItems t2 rfl (wpAny_bind (upd_trip t2 fun n3 t3 s3 => wpAny_bind (wpAny_letGo (wpAny_pure ?_)))))
    replace t3 : IsTrip n3 TO x b c := t3
    have z3 : IsZip n3 z TI TO .ellipsis := s3.extBut _ _ TOz.symm (s2.extBut _ _ i1z.symm hz1)
    refine wpAny_bind (wpAny_bind (wpAny_onRaise ?_)); show wpAny _ _ (Builtin.SmallTypes.nextOf (.ref i2) >>= _) _ _ _
    have p2 := ((h2.extBut s1.extBut i2z).extBut s2.extBut i12.symm).extBut s3.extBut TOi2.symm
    have r2 := ((g2.extBut s1.extBut l2z).extBut s2.extBut l2i1).extBut s3.extBut l2TO
    cases hy : ys[k]? with
    | none =>
      refine wpAny_bind (wpAny_nextOf_list_end hh p2 r2 hy fun n4 e s4 he => ?_)
      obtain ⟨oe, hoe, hce⟩ := he
      have q4 : IsZip n4 z TI TO .ellipsis := s4 _ _ i2z.symm z3
      have ez : e ≠ z := fun q => by subst q; rw [q4] at hoe; cases hoe; simp at hce
      refine wpAny_setField_rec q4 (by simp) fun n5 _ s5 => hE n5 e (fun q o c1 c2 c3 c4 _ u => s5.extBut _ _ c1 (s4 _ _ c4 (s3.extBut _ _ c2 (s2.extBut _ _ c3 (s1.extBut _ _ c1 u))))) ⟨oe, s5.extBut _ _ ez hoe, hce⟩
    | some y =>
      have hv : zs[k]? = none := by rcases hend with h | h | h; rw [hx] at h; cases h; rw [hy] at h; cases h; exact h
      refine wpAny_bind (wpAny_nextOf_list_item p2 r2 hy fun n4 a4 s4 => wpAny_pure ?_)
      have t4 : IsTrip n4 TO x b c := s4.extBut _ _ TOi2 t3
      refine wpAny_bind (wpAny_seqItems t4 rfl (wpAny_bind (upd_trip t4 fun n5 t5 s5 => wpAny_bind (wpAny_letGo (wpAny_pure ?_)))))
      refine wpAny_bind (wpAny_bind (wpAny_onRaise ?_)); show wpAny _ _ (Builtin.SmallTypes.nextOf (.ref i3) >>= _) _ _ _
      refine wpAny_bind (wpAny_nextOf_list_end hh (((((h3.extBut s1.extBut i3z).extBut s2.extBut i13.symm).extBut s3.extBut TOi3.symm).extBut s4.extBut i23.symm).extBut s5.extBut TOi3.symm)
        (((((g3.extBut s1.extBut l3z).extBut s2.extBut l3i1).extBut s3.extBut l3TO).extBut s4.extBut l3i2).extBut s5.extBut l3TO) hv fun n6 e s6 he => ?_)
      obtain ⟨oe, hoe, hce⟩ := he
      have q6 : IsZip n6 z TI TO .ellipsis := s6 _ _ i3z.symm (s5.extBut _ _ TOz.symm (s4.extBut _ _ i2z.symm z3))
      have ez : e ≠ z := fun q => by subst q; rw [q6] at hoe; cases hoe; simp at hce
      refine wpAny_setField_rec q6 (by simp) fun n7 _ s7 => hE n7 e (fun q o c1 c2 c3 c4 c5 u => s7.extBut _ _ c1 (s6 _ _ c5 (s5.extBut _ _ c2 (s4.extBut _ _ c4 (s3.extBut _ _ c2 (s2.extBut _ _ c3 (s1.extBut _ _ c1 u))))))) ⟨oe, s7.extBut _ _ ez hoe, hce⟩
theorem typeCall_zip_3 (a b c : Value) : checkTypeCall "zip" ⟨[a, b, c], []⟩ = pure () := by kernel_rfl
theorem newCall_zip_3 (a b c : Value) : checkBuiltinCall "zip.__new__" ⟨[.type "zip", a, b, c], []⟩ = pure () := by kernel_rfl
theorem args_object_init_4 (a b c d : Value) : argsOk "object.__init__" ⟨[a, b, c, d], []⟩ := by
  unfold argsOk; rw [signature?_of (id := "object.__init__") (n := ['_', '_', 't', 'i', 'n', 'i', '_', '_']) (o := ['t', 'c', 'e', 'j', 'b', 'o']) (by kernel_rfl) PySem.F.owner_object] <;> kernel_rfl
abbrev it0 (l : Addr) : Obj := { cls := .type "list_iterator", data := .fields #[.ref l, .int 0 0] }
abbrev zH1 (h : Heap) (l1 : Addr) : Heap := h.push (it0 l1)
abbrev zH2 (h : Heap) (l1 l2 : Addr) : Heap := (zH1 h l1).push (it0 l2)
abbrev zH3 (h : Heap) (l1 l2 l3 : Addr) : Heap := (zH2 h l1 l2).push (it0 l3)
abbrev zH4 (h : Heap) (l1 l2 l3 : Addr) : Heap := (zH3 h l1 l2 l3).push { cls := .type "tuple", data := .seq #[.ref h.objs.size, .ref (zH1 h l1).objs.size, .ref (zH2 h l1 l2).objs.size] }
abbrev zH5 (h : Heap) (l1 l2 l3 : Addr) : Heap := (zH4 h l1 l2 l3).push { cls := .type "tuple", data := .seq #[.none, .none, .none] }
abbrev zH6 (h : Heap) (l1 l2 l3 : Addr) : Heap := (zH5 h l1 l2 l3).push { cls := .type "zip", data := .fields #[.none, .bool false, .bool false, .ref (zH3 h l1 l2 l3).objs.size, .ref (zH4 h l1 l2 l3).objs.size] }
theorem meets_zip3 (l1 l2 l3 : Addr) (xs ys zs : Array Value) :
    Meets (Builtin.«zip.__new__» ⟨[.type "zip", .ref l1, .ref l2, .ref l3], []⟩) (fun _ R s => (s.heap.IsList l1 xs ∧ s.heap.IsList l2 ys ∧ s.heap.IsList l3 zs) ∧
      R (.ok (.ret (.ref (zH5 s.heap l1 l2 l3).objs.size))) { s with heap := zH6 s.heap l1 l2 l3 }) :=
  .of_wp fun prog w A R s h => by
    obtain ⟨hp, g, d, tk, os⟩ := s; obtain ⟨⟨q1, q2, q3⟩, h⟩ := h
    have hsub := sub_zip
    have w1 : Heap.IsList (Shared.heap ⟨hp, g, d, tk, os⟩) l1 xs := q1
    have w2 : Heap.IsList (Shared.heap ⟨hp.push (it0 l1), g, d, tk, os⟩) l2 ys := Heap.IsList.push q2 _
    have w3 : Heap.IsList (Shared.heap ⟨(hp.push (it0 l1)).push (it0 l2), g, d, tk, os⟩) l3 zs := Heap.IsList.push (Heap.IsList.push q3 _) _
    wp_walk using wpAny_pyIter_list w1, wpAny_pyIter_list w2, wpAny_pyIter_list w3
    exact ⟨_, rfl, h⟩
theorem call_zip3 {l1 l2 l3 : Addr} {xs ys zs : Array Value} {Q : Value → Shared → Prop} (q1 : s.heap.IsList l1 xs) (q2 : s.heap.IsList l2 ys) (q3 : s.heap.IsList l3 zs)
    (h : ∀ h', IsZip h' (s.heap.objs.size + 5) (s.heap.objs.size + 3) (s.heap.objs.size + 4) .none → IsTrip h' (s.heap.objs.size + 3) (.ref s.heap.objs.size) (.ref (s.heap.objs.size + 1)) (.ref (s.heap.objs.size + 2)) →
      IsTrip h' (s.heap.objs.size + 4) .none .none .none → h'.IsListIter s.heap.objs.size l1 0 → h'.IsListIter (s.heap.objs.size + 1) l2 0 → h'.IsListIter (s.heap.objs.size + 2) l3 0 →
      (∀ c o, s.heap.get? c = some o → h'.get? c = some o) → Q (.ref (s.heap.objs.size + 5)) { s with heap := h' }) :
    wpAny (model prog w) A (call (.type "zip") [.ref l1, .ref l2, .ref l3]) Q E s := by
  refine callType_new F.called_zip (by decide) (typeCall_zip_3 _ _ _) (newCall_zip_3 _ _ _) (fun obj => args_object_init_4 obj _ _ _) F.entry_zip_new (meets_zip3 l1 l2 l3 xs ys zs) ⟨⟨q1, q2, q3⟩, ?_⟩
  have z1 : (zH1 s.heap l1).objs.size = s.heap.objs.size + 1 := Heap.size_push ..
  have z2 : (zH2 s.heap l1 l2).objs.size = s.heap.objs.size + 2 := by rw [Heap.size_push, z1]
  have z3 : (zH3 s.heap l1 l2 l3).objs.size = s.heap.objs.size + 3 := by rw [Heap.size_push, z2]
  have z4 : (zH4 s.heap l1 l2 l3).objs.size = s.heap.objs.size + 4 := by rw [Heap.size_push, z3]
  have z5 : (zH5 s.heap l1 l2 l3).objs.size = s.heap.objs.size + 5 := by rw [Heap.size_push, z4]
  have p6 : (zH6 s.heap l1 l2 l3).get? (zH5 s.heap l1 l2 l3).objs.size = some _ := Heap.get?_push_size _ rfl
  have p5 : (zH6 s.heap l1 l2 l3).get? (zH4 s.heap l1 l2 l3).objs.size = some _ := Heap.get?_push_of_some _ (Heap.get?_push_size _ rfl)
  have p4 : (zH6 s.heap l1 l2 l3).get? (zH3 s.heap l1 l2 l3).objs.size = some _ := Heap.get?_push_of_some _ (Heap.get?_push_of_some _ (Heap.get?_push_size _ rfl))
  have p3 : (zH6 s.heap l1 l2 l3).get? (zH2 s.heap l1 l2).objs.size = some _ := Heap.get?_push_of_some _ (Heap.get?_push_of_some _ (Heap.get?_push_of_some _ (Heap.get?_push_size _ rfl)))
  have p2 : (zH6 s.heap l1 l2 l3).get? (zH1 s.heap l1).objs.size = some _ := Heap.get?_push_of_some _ (Heap.get?_push_of_some _ (Heap.get?_push_of_some _ (Heap.get?_push_of_some _ (Heap.get?_push_size _ rfl))))
  have p1 : (zH6 s.heap l1 l2 l3).get? s.heap.objs.size = some _ := Heap.get?_push_of_some _ (Heap.get?_push_of_some _ (Heap.get?_push_of_some _ (Heap.get?_push_of_some _ (Heap.get?_push_of_some _ (Heap.get?_push_size _ rfl)))))
  show _ ∧ _
  rw [z3, z4, z5] at p6
  rw [z4] at p5
  rw [z1, z2, z3] at p4
  rw [z2] at p3
  rw [z1] at p2
  rw [z5]
  exact ⟨⟨_, p6, rfl⟩, h _ p6 p4 p5 ⟨_, p1, rfl, rfl⟩ ⟨_, p2, rfl, rfl⟩ ⟨_, p3, rfl, rfl⟩ fun c o x =>
    Heap.get?_push_of_some _ (Heap.get?_push_of_some _ (Heap.get?_push_of_some _ (Heap.get?_push_of_some _ (Heap.get?_push_of_some _ (Heap.get?_push_of_some _ x)))))⟩
end
end MP
set_option maxHeartbeats 4000000
/-! MP: zip of three lists, walked; star displays; match -/
namespace MP
open PySem PySem.Spec PyProof.Rows L2
/-- the lists at a, b, c as they stand at each turn, the items in new triples -/
def Itz3 (K : PySem.W.Frag) (a b c : Addr) : L2.It :=
  ⟨fun i H => ∃ (xs ys zs : List V) (x y z : V), (SqL K H a xs ∧ SqL K H b ys ∧ SqL K H c zs) ∧ xs[i]? = some x ∧ ys[i]? = some y ∧ zs[i]? = some z,
    fun i H v H' => ∃ T x y z, v = .ref T ∧ H T = none ∧ H' = upd H T (.tup [x, y, z]) ∧ (∀ xs, SqL K H a xs → xs[i]? = some x) ∧ (∀ ys, SqL K H b ys → ys[i]? = some y) ∧ ∀ zs, SqL K H c zs → zs[i]? = some z,
    fun i H => ∃ xs ys zs : List V, (SqL K H a xs ∧ SqL K H b ys ∧ SqL K H c zs) ∧ (xs.length ≤ i ∨ ys.length ≤ i ∨ zs.length ≤ i)⟩
theorem six_of {c z TI TO i1 i2 i3 : Addr} (h : c ∈ [z, TI, TO, i1, i2, i3]) : c = z ∨ c = TI ∨ c = TO ∨ c = i1 ∨ c = i2 ∨ c = i3 := by simpa using h
theorem not_six {c z TI TO i1 i2 i3 : Addr} (h : c ∉ [z, TI, TO, i1, i2, i3]) : c ≠ z ∧ c ≠ TI ∧ c ≠ TO ∧ c ≠ i1 ∧ c ≠ i2 ∧ c ≠ i3 := by simpa using h
theorem turn_zip3 {P : Program} {w : World} {K : PySem.W.Frag} {elts : List Expr} {kk : Nat} {tpos : Pos} {a b c z TI TO i1 i2 i3 : Addr} (D : Apart3 z TI TO i1 i2 i3 a b c) :
    Turn P w K (.Tuple elts kk tpos) (Itz3 K a b c) [z, TI, TO, i1, i2, i3] z (fun i h => IsZip h z TI TO .none ∧ IsTrip h TI (.ref i1) (.ref i2) (.ref i3) ∧ (∃ x y v, IsTrip h TO x y v) ∧ h.IsListIter i1 a i ∧ h.IsListIter i2 b i ∧ h.IsListIter i3 c i) where
  mem := by simp
  obj := fun i h st q hq => by
    obtain ⟨hz, hTI, ⟨x, y, v, hTO⟩, ⟨o1, e1, _, d1⟩, ⟨o2, e2, _, d2⟩, ⟨o3, e3, _, d3⟩⟩ := st
    rcases six_of hq with r | r | r | r | r | r <;> rw [r]
    · exact ⟨_, hz, fun v q => nomatch q⟩
    · exact ⟨_, hTI, fun v q => nomatch q⟩
    · exact ⟨_, hTO, fun v q => nomatch q⟩
    · exact ⟨o1, e1, fun v q => by rw [d1] at q; cases q⟩
    · exact ⟨o2, e2, fun v q => by rw [d2] at q; cases q⟩
    · exact ⟨o3, e3, fun v q => by rw [d3] at q; cases q⟩
  keep := fun i h h' st k => by
    obtain ⟨hz, hTI, ⟨x, y, v, hTO⟩, h1, h2, h3⟩ := st
    exact ⟨k z (by simp) _ hz, k TI (by simp) _ hTI, ⟨x, y, v, k TO (by simp) _ hTO⟩, h1.at fun o q => k i1 (by simp) o q, h2.at fun o q => k i2 (by simp) o q, h3.at fun o q => k i3 (by simp) o q⟩
  item := by
    intro X hP hw hK hc i pins s σ H E I hf st hg
    subst hP hw hK
    obtain ⟨⟨TIz, TOz, i1z, i2z, i3z⟩, ⟨TITO, TIi1, TIi2, TIi3⟩, _⟩ := D.all
    obtain ⟨hz, hTI, ⟨x0, y0, v0, hTO⟩, h1, h2, h3⟩ := st
    obtain ⟨xs, ys, zs, x, y, v, ⟨hqx, hqy, hqz⟩, hx, hy, hv⟩ := hg
    obtain ⟨its, rv, p1, _⟩ := I.list hqx
    obtain ⟨its2, rv2, p2, _⟩ := I.list hqy
    obtain ⟨its3, rv3, p3, _⟩ := I.list hqz
    obtain ⟨u, hu, ru⟩ := rv.get hx
    obtain ⟨u2, hu2, ru2⟩ := rv2.get hy
    obtain ⟨u3, hu3, ru3⟩ := rv3.get hv
    have hzl : z < s.heap.objs.size := Heap.lt_size hz
    have hT : s.TypeIs (.ref z) "zip" := ⟨_, hz, rfl⟩
    unfold pyNext
    refine wpAny_bind (wpAny_attempt (wpAny_callSpecial?_slot (name := Str.ofString "__next__") hT PySem.F.slot_zip_next (wpAny_call_entry PySem.F.slot_zip_next hT PySem.F.entry_zip_next
      (zip3_item D hz hTI hTO h1 h2 h3 p1.isList p2.isList p3.isList (x := u) (y := u2) (v := u3) (by simpa using hu) (by simpa using hu2) (by simpa using hu3) fun h' a1 a2 a3 a4 a5 a6 a7 hk => wpAny_pure ?_) (PySem.F.args_zip_next_1 _))))
    refine ⟨_, rfl, wpAny_letOwnedTupleGo_zip (s := { s with heap := h' }) a1 fun h'' z'' sb => ?_⟩
    have hT2 : h''.get? s.heap.objs.size = some { cls := .type "tuple", data := .seq #[u, u2, u3] } := (sb.2 _ (Nat.ne_of_gt hzl)).trans a6
    have new : ObjOk X.prog X.w (upd H s.heap.objs.size (.tup [x, y, v])) h'' s.heap.objs.size (.tup [x, y, v]) :=
      ⟨by show 3 ≤ sizeLine; decide, [u, u2, u3], .cons ru (.cons ru2 (.cons ru3 .nil)), ⟨_, hT2, rfl, _, rfl⟩⟩
    have I1 : Inv X pins σ (upd H s.heap.objs.size (.tup [x, y, v])) { s with heap := h'' } :=
      I.turnedNew (t' := s.toks) (ch := [z, TI, TO, i1, i2, i3]) (fun c o hb q => by
        obtain ⟨n1, n2, n3, n4, n5, n6⟩ := not_six hb
        exact (sb.2 c n1).trans (hk c o n1 n3 n4 n5 n6 q)) hf (Nat.le_refl _) new
    refine ⟨.ref s.heap.objs.size, _, I1, rfl, ⟨_, x, y, v, rfl, I.hok.fresh (Nat.le_refl _), rfl, fun l hl => by rw [I.list_inj hl hqx]; exact hx, fun l hl => by rw [I.list_inj hl hqy]; exact hy, fun l hl => by rw [I.list_inj hl hqz]; exact hv⟩, ⟨z'', ?_, ⟨u, u2, u3, ?_⟩, ?_, ?_, ?_⟩, fun c hcm => ?_⟩
    · exact (sb.2 _ TIz).trans (hk _ _ TIz TITO TIi1 TIi2 TIi3 hTI)
    · exact (sb.2 _ TOz).trans a2
    · exact a3.at fun o q => (sb.2 _ i1z).trans q
    · exact a4.at fun o q => (sb.2 _ i2z).trans q
    · exact a5.at fun o q => (sb.2 _ i3z).trans q
    · have hlt : c < s.heap.objs.size := by
        rcases six_of hcm with q | q | q | q | q | q <;> rw [q]
        · exact hzl
        · exact Heap.lt_size hTI
        · exact Heap.lt_size hTO
        · obtain ⟨_, e1, _⟩ := h1; exact Heap.lt_size e1
        · obtain ⟨_, e2, _⟩ := h2; exact Heap.lt_size e2
        · obtain ⟨_, e3, _⟩ := h3; exact Heap.lt_size e3
      rw [upd_ne (Nat.ne_of_lt hlt)]
      exact (hf c hcm).1
  done := by
    intro X hP hw hK hc i pins s σ H E I hf st hg
    subst hP hw hK
    obtain ⟨hz, hTI, ⟨x0, y0, v0, hTO⟩, h1, h2, h3⟩ := st
    obtain ⟨xs, ys, zs, ⟨hqx, hqy, hqz⟩, hend⟩ := hg
    obtain ⟨its, rv, p1, _⟩ := I.list hqx
    obtain ⟨its2, rv2, p2, _⟩ := I.list hqy
    obtain ⟨its3, rv3, p3, _⟩ := I.list hqz
    have l1 := rv.length
    have l2 := rv2.length
    have l3 := rv3.length
    have he : its.toArray[i]? = none ∨ its2.toArray[i]? = none ∨ its3.toArray[i]? = none := by
      rcases hend with q | q | q
      · exact .inl (by simp; omega)
      · exact .inr (.inl (by simp; omega))
      · exact .inr (.inr (by simp; omega))
    have hT : s.TypeIs (.ref z) "zip" := ⟨_, hz, rfl⟩
    unfold pyNext
    refine wpAny_bind (wpAny_attempt (wpAny_callSpecial?_slot (name := Str.ofString "__next__") hT PySem.F.slot_zip_next (wpAny_call_entry PySem.F.slot_zip_next hT PySem.F.entry_zip_next
      (zip3_end (I.ok.hd hc) D hz hTI hTO h1 h2 h3 p1.isList p2.isList p3.isList he fun h' e hk he => ?_) (PySem.F.args_zip_next_1 _))))
    obtain ⟨o, ho, hco⟩ := he
    refine wpAny_bind (wpAny_isInstance (T := "StopIteration") (b := true) ⟨o, ho, hco⟩ isSubtype_stop (wpAny_pure ⟨rfl, ?_⟩))
    exact I.turnedL (t' := s.toks) (ch := [z, TI, TO, i1, i2, i3]) (fun c o hb q => by
      obtain ⟨n1, n2, n3, n4, n5, n6⟩ := not_six hb
      exact hk c o n1 n3 n4 n5 n6 q) hf
  self := fun A i s Q E st h => wpAny_pyIter_zip st.1 h
theorem lt_six {I l : Nat} (h : l < I) : (l : Addr) ∉ ([(I + 5 : Nat), (I + 3 : Nat), (I + 4 : Nat), (I : Nat), (I + 1 : Nat), (I + 2 : Nat)] : List Addr) := by
  intro hm
  have hm' : l ∈ ([I + 5, I + 3, I + 4, I, I + 1, I + 2] : List Nat) := hm
  simp only [List.mem_cons, List.not_mem_nil, or_false] at hm'
  omega
theorem apart3_new (I l1 l2 l3 : Nat) (h1 : l1 < I) (h2 : l2 < I) (h3 : l3 < I) : Apart3 (I + 5) (I + 3) (I + 4) I (I + 1) (I + 2) l1 l2 l3 where
  own := by
    show List.Nodup ([I + 5, I + 3, I + 4, I, I + 1, I + 2] : List Nat)
    simp
  l1 := lt_six h1
  l2 := lt_six h2
  l3 := lt_six h3
section
variable {G : Gv} {X : Cx} {W : WX} {a b c e : Expr} {es : List Expr} {ma mb mc : Ev → Live → Res D} {ms : Ev → Live → Res (List D)} {pos p : Pos}
theorem zip3D_len {ds es fs : List D} : (zip3D ds es fs).length = min (min ds.length es.length) fs.length := by simp [zip3D]
theorem zip3D_get {ds es fs : List D} {i : Nat} (h : i < (zip3D ds es fs).length) : (zip3D ds es fs)[i] = .tup [ds[i]'(by rw [zip3D_len] at h; omega), es[i]'(by rw [zip3D_len] at h; omega), fs[i]'(by rw [zip3D_len] at h; omega)] := by simp [zip3D]
theorem new_trip {wd : Wd} {H : Hp} {L : Live} {T : Addr} {x y z : V} {d1 d2 d3 : D} (w : WOk (G := G) wd H L) (hT : H T = none) (r1 : RelD G wd x d1) (r2 : RelD G wd y d2) (r3 : RelD G wd z d3) :
    ∃ wd', Ext wd wd' ∧ WOk (G := G) wd' (upd H T (.tup [x, y, z])) L ∧ RelD G wd' (.ref T) (.tup [d1, d2, d3]) := by
  obtain ⟨e, w'⟩ := w.frz (o := .tup [x, y, z]) hT (.inr (.inl ⟨_, rfl⟩))
  refine ⟨_, e, w', ?_⟩
  simp only [RelD]
  exact ⟨T, [x, y, z], rfl, .inl (.inl upd_same), RelDs.cons (r1.ext G e) (RelDs.cons (r2.ext G e) (RelDs.cons (r3.ext G e) RelDs.nil))⟩
theorem walk_zip3 (hK : X.K = G.K) {wd0 : Wd} {a b c : Addr} {d1 d2 d3 : D} {L0 : Live} {ds es fs : List D} (r1 : RelD G wd0 (.ref a) d1) (r2 : RelD G wd0 (.ref b) d2) (r3 : RelD G wd0 (.ref c) d3) (h1 : lstOf L0 d1 = some ds) (h2 : lstOf L0 d2 = some es) (h3 : lstOf L0 d3 = some fs) :
    WalkD G wd0 (Itz3 X.K a b c) (zip3D ds es fs) (watch L0 d1 ++ (watch L0 d2 ++ watch L0 d3)) where
  go := fun {wd H L i} e w hs hi => by
    rw [zip3D_len] at hi
    obtain ⟨s1, s23⟩ := still_app hs
    obtain ⟨s2, s3⟩ := still_app s23
    obtain ⟨xs, k1, k2⟩ := lst_at r1 h1 e w s1
    obtain ⟨ys, k3, k4⟩ := lst_at r2 h2 e w s2
    obtain ⟨zs, k5, k6⟩ := lst_at r3 h3 e w s3
    have l1 := RelDs.length k2
    have l2 := RelDs.length k4
    have l3 := RelDs.length k6
    exact ⟨xs, ys, zs, xs[i]'(by omega), ys[i]'(by omega), zs[i]'(by omega), ⟨.inl k1, .inl k3, .inl k5⟩, List.getElem?_eq_getElem _, List.getElem?_eq_getElem _, List.getElem?_eq_getElem _⟩
  yld := fun {wd H L i v H'} hi e w hs y => by
    obtain ⟨s1, s23⟩ := still_app hs
    obtain ⟨s2, s3⟩ := still_app s23
    obtain ⟨xs, k1, k2⟩ := lst_at r1 h1 e w s1
    obtain ⟨ys, k3, k4⟩ := lst_at r2 h2 e w s2
    obtain ⟨zs, k5, k6⟩ := lst_at r3 h3 e w s3
    obtain ⟨T, x, y, z, rfl, hT, rfl, y1, y2, y3⟩ := y
    rw [zip3D_get hi]
    rw [zip3D_len] at hi
    obtain ⟨v, g3, g4⟩ := RelDs.get k2 (List.getElem?_eq_getElem (i := i) (by omega))
    rw [y1 xs (.inl k1)] at g3
    cases g3
    obtain ⟨v, g5, g6⟩ := RelDs.get k4 (List.getElem?_eq_getElem (i := i) (by omega))
    rw [y2 ys (.inl k3)] at g5
    cases g5
    obtain ⟨v, g7, g8⟩ := RelDs.get k6 (List.getElem?_eq_getElem (i := i) (by omega))
    rw [y3 zs (.inl k5)] at g7
    cases g7
    exact new_trip w hT g4 g6 g8
  stop := fun {wd H L i} e w hs hi => by
    rw [zip3D_len] at hi
    obtain ⟨s1, s23⟩ := still_app hs
    obtain ⟨s2, s3⟩ := still_app s23
    obtain ⟨xs, k1, k2⟩ := lst_at r1 h1 e w s1
    obtain ⟨ys, k3, k4⟩ := lst_at r2 h2 e w s2
    obtain ⟨zs, k5, k6⟩ := lst_at r3 h3 e w s3
    have l1 := RelDs.length k2
    have l2 := RelDs.length k4
    have l3 := RelDs.length k6
    exact ⟨xs, ys, zs, ⟨.inl k1, .inl k3, .inl k5⟩, by omega⟩
theorem mi_zip3 (g : Gd G X) {elts : List Expr} {kk : Nat} {tpos : Pos} (hg : Gl X "zip") (hm : X.mg "zip" = none) (ha : PE X a (tE G W ma)) (hb : PE X b (tE G W mb)) (hc : PE X c (tE G W mc))
    (hs : starEach [a, b, c] X.env = (false, eval a X.env) :: starEach [b, c] X.env) (hs2 : starEach [b, c] X.env = (false, eval b X.env) :: starEach [c] X.env) (hs3 : starEach [c] X.env = [(false, eval c X.env)]) :
    PI X (.Tuple elts kk tpos) (.Call (.Name "zip" p) [a, b, c] [] pos) (tI G W fun E L => (ma E L).bind fun x L1 => (mb E L1).bind fun y L2 => (mc E L2).bind fun z L3 => optV (zip3W L3 x y z) L3) := by
  have hA := ma_cons ha (ma_cons hb (ma_cons hc ma_nil hs3) hs2) hs
  refine ⟨fun pins s σ H R I ⟨wd, E, L, rs, w, run⟩ => ?_⟩
  have run' : Run (G := G) (relI G) W σ wd (((ma E L).bind fun x L1 => ((mb E L1).bind fun y L2 => ((mc E L2).bind fun z L3 => (Res.ok [] L3).bind fun xs L4 => Res.ok (z :: xs) L4).bind fun xs L4 => .ok (y :: xs) L4).bind fun xs L4 => .ok (x :: xs) L4).bind fun ds L4 => match ds with
      | [x, y, z] => optV (zip3W L4 x y z) L4
      | _ => .stuck) R := by
    simpa only [Res.bind_assoc, Res.bind_ok] using run
  refine Call_ (ld_blt I hg hm PyProof.Rows.boot_zip (PyProof.Rows.callWith_type1 (thn (hA.run pos pins s σ H _ I ⟨wd, E, L, rs, w, Run.bind run'⟩) fun us s1 ⟨vs, H1, I1, rv1, wd1, ds, L1, e1, w1, rd1, run1⟩ => ?_) hs (by rw [hs2, hs3]; rfl)))
  match ds, run1 with
  | [d1, d2, d3], run1 =>
    simp only at run1
    obtain ⟨zz, hzz, run2⟩ := optV_run' run1
    simp only [zip3W] at hzz
    split at hzz
    case h_2 => cases hzz
    rename_i xs1 q1
    split at hzz
    case h_2 => cases hzz
    rename_i ys1 q2
    split at hzz
    case h_2 => cases hzz
    rename_i zs1 q3
    have hzz := Option.some.inj hzz
    subst hzz
    simp only [RelDs] at rd1
    obtain ⟨v1, _, rfl, r1, v2, _, rfl, r2, v3, _, rfl, r3, rfl⟩ := rd1
    obtain ⟨la, xs, rfl, hx, _⟩ := rd_list w1 r1 q1
    obtain ⟨lb, ys, rfl, hy, _⟩ := rd_list w1 r2 q2
    obtain ⟨lc, zs, rfl, hz, _⟩ := rd_list w1 r3 q3
    cases rv1 with
    | cons t1 rv1 =>
      cases rv1 with
      | cons t2 rv1 =>
        cases rv1 with
        | cons t3 rv1 =>
          cases rv1
          cases t1
          cases t2
          cases t3
          obtain ⟨its, rv, p1, _⟩ := I1.list (.inl hx)
          obtain ⟨its2, rv2, p2, _⟩ := I1.list (.inl hy)
          obtain ⟨its3, rv3, p3, _⟩ := I1.list (.inl hz)
          refine call_zip3 p1.isList p2.isList p3.isList fun h' kz kTI kTO k1 k2 k3 hk => wpAny_pyIter_zip kz ?_
          have I2 : Inv X pins σ H1 { s1 with heap := h' } := I1.kept (t' := s1.toks) hk
          refine ⟨s1.heap.objs.size + 5, [s1.heap.objs.size + 5, s1.heap.objs.size + 3, s1.heap.objs.size + 4, s1.heap.objs.size, s1.heap.objs.size + 1, s1.heap.objs.size + 2], _, _, H1, rfl, I2, turn_zip3 (apart3_new s1.heap.objs.size la lb lc p1.lt p2.lt p3.lt),
            ⟨kz, kTI, ⟨_, _, _, kTO⟩, k1, k2, k3⟩, fun q hq => ?_, run2.now w1 (walk_zip3 g.K r1 r2 r3 q1 q2 q3)⟩
          have hle : s1.heap.objs.size ≤ q := by rcases six_of hq with z | z | z | z | z | z <;> rw [z] <;> first | exact Nat.le_refl _ | exact Nat.le_add_right _ _
          exact I1.fpOk hle (I1.hok.fresh hle)
  | [], run1 => exact False.elim run1
  | [_], run1 => exact False.elim run1
  | [_, _], run1 => exact False.elim run1
  | _ :: _ :: _ :: _ :: _, run1 => exact False.elim run1
/-! ### *e in a display -/
theorem ma_star (hK : X.K = G.K) (ha : PE X a (tE G W ma)) (hr : PA X es (tA G W ms)) (hs : starEach (.Starred a p :: es) X.env = (true, eval a X.env) :: starEach es X.env) :
    PA X (.Starred a p :: es) (tA G W fun E L => (ma E L).bind fun x L1 => (optV (seqOf L1 x) L1).bind fun xs L2 => (ms E L2).bind fun ys L3 => .ok (xs ++ ys) L3) := by
  have h := StX.pa_star ha hr hs
  refine ⟨fun pos pins s σ H Q I ⟨wd, E, L, rs, w, run⟩ => h.run pos pins s σ H Q I ⟨wd, E, L, rs, w, run.bind.imp fun v H1 ⟨wd1, d1, L1, e1, w1, r1, run1⟩ => ?_⟩⟩
  obtain ⟨xs, q, run2⟩ := optV_run run1
  obtain ⟨l, ws, rfl, hx, rx⟩ := rd_seq w1 r1 q
  refine ⟨l, ws, rfl, by rw [hK]; exact hx.symm, wd1, E, L1, rs.ext e1, w1, run2.bind.imp fun u H2 ⟨wd2, d2, L2, e2, w2, r2, run3⟩ => ?_⟩
  exact run3.now w2 (RelDs.append (rx.ext G e2) r2)
/-! ### match on a name -/
def PMc (G : Gv) (X : Cx) (W : WX) (i : Nat) (cs : List MatchCase) (m : Ev → Live → SRes) : Prop :=
  ∀ (pins : List (Addr × Obj)) (s : Shared) (σ : L2.St) (H : Hp) (D : Ends) (v : V) (u : Value) (first : Bool) (wd : Wd) (E : Ev) (L : Live) (d : MP.D), Inv X pins σ H s → RelV v u → RelSt (G := G) wd σ E → WOk (G := G) wd H L → E[i]? = some (some d) → RelD G wd v d →
    RunS G W wd (m E L) D → wpAny (model X.prog X.w) X.A (matchCases cs X.env u first) (SP X pins D) X.xe s
theorem pm_nil {i : Nat} : PMc G X W i [] (fun E L => .fl .nx E L) := fun pins s σ H D v u first wd E L d I rv rs w hi r run => wpAny_matchCases_nil ⟨σ, H, I, run wd σ H (Ext.refl _) w rs⟩
theorem pm_wild {i : Nat} {body : List Stmt} {rest : List MatchCase} {m : Ev → Live → SRes} {p2 : Pos} (hb : PSs X body (tS G W m)) : PMc G X W i (⟨.MatchAs none none p2, none, body⟩ :: rest) m := fun pins s σ H D v u first wd E L d I rv rs w hi r run =>
  wpAny_matchCases_cons (wpAny_matchPattern_Capture (wpAny_assignInOrder_none (hb.run pins s σ H D I ⟨wd, E, L, rs, w, run⟩)))
theorem pm_val (g : Gd G X) {i : Nat} {z : Str} {ce : Expr} {body : List Stmt} {rest : List MatchCase} {m k : Ev → Live → SRes} {p2 : Pos} (hc : PE X ce (tE G W fun _ L => .ok (.str z) L)) (hb : PSs X body (tS G W m)) (hr : PMc G X W i rest k) :
    PMc G X W i (⟨.MatchValue ce p2, none, body⟩ :: rest) (fun E L => match E[i]? with
      | some (some x) => (match cmpD .eq x (.str z) L with | some q => if q then m E L else k E L | none => .stuck)
      | _ => .stuck) := fun pins s σ H D v u first wd E L d I rv rs w hi r run => by
  simp only [hi] at run
  cases q : cmpD .eq d (.str z) L with
  | none => rw [q] at run; exact False.elim run
  | some b =>
    rw [q] at run
    simp only at run
    refine wpAny_matchCases_cons (wpAny_matchPattern_Value (thn (hc.run pins s σ H (fun v1 H1 => ∃ wd1, Ext wd wd1 ∧ WOk (G := G) wd1 H1 L ∧ RelD G wd1 v1 (.str z)) I ⟨wd, E, L, rs, w, fun wd1 H1 v1 e1 w1 r1 => ⟨wd1, e1, w1, r1⟩⟩) fun u1 s1 ⟨v1, H1, I1, ru1, wd1, e1, w1, r1⟩ => ?_))
    refine thn (cmp_ok g.K g.un .eq pins s1 σ H1 v v1 u u1 (fun y H2 => y = .bl b ∧ ∃ wd2, Ext wd wd2 ∧ WOk (G := G) wd2 H2 L) I1 rv ru1 ⟨wd1, d, .str z, L, b, w1, r.ext G e1, r1, q, rfl, wd1, e1, w1⟩) fun cV s2 ⟨y, H2, I2, ry, ey, wd2, e2, w2⟩ => ?_
    subst ey
    cases ry
    refine wpAny_truthy_bool ?_
    cases b with
    | true =>
      simp only [if_true] at run ⊢
      exact wpAny_assignInOrder_none (hb.run pins s2 σ H2 D I2 ⟨wd2, E, L, rs.ext e2, w2, run.ext e2⟩)
    | false =>
      simp only [Bool.false_eq_true, if_false] at run ⊢
      exact hr pins s2 σ H2 D v u false wd2 E L d I2 rv (rs.ext e2) w2 hi (r.ext G e2) (run.ext e2)
theorem ms_match {i : Nat} {x : Str} {px : Pos} {cs : List MatchCase} {m : Ev → Live → SRes} (hv : PE X (.Name x px) (tE G W fun E L => match E[i]? with | some (some d) => .ok d L | _ => .stuck)) (hm : PMc G X W i cs m)
    (hs : ∀ E L, (∀ d, E[i]? ≠ some (some d)) → m E L = .stuck) : PS X (.Match (.Name x px) cs pos) (tS G W m) := by
  refine ⟨fun pins s σ H D I ⟨wd, E, L, rs, w, run⟩ => wpAny_Match ?_⟩
  cases q : E[i]? with
  | none => rw [hs E L (fun d z => by rw [q] at z; cases z)] at run; exact False.elim run
  | some o =>
    cases o with
    | none => rw [hs E L (fun d z => by rw [q] at z; cases z)] at run; exact False.elim run
    | some d =>
      refine thn (hv.run pins s σ H (fun v H1 => ∃ wd1, Ext wd wd1 ∧ WOk (G := G) wd1 H1 L ∧ RelD G wd1 v d) I ⟨wd, E, L, rs, w, by simp only [q]; exact fun wd1 H1 v1 e1 w1 r1 => ⟨wd1, e1, w1, r1⟩⟩) fun u s1 ⟨v, H1, I1, ru, wd1, e1, w1, r1⟩ => ?_
      exact hm pins s1 σ H1 D v u true wd1 E L d I1 ru (rs.ext e1) w1 q r1 (run.ext e1)
/-! ### the tree of a method's call -/
theorem own_ht {o : Expr} {m : Str} {apos pos : Pos} {args : List Expr} {env : Env} (hbase : attributeBase o m env (eval o env) = eval o env) (hfew : methodCallForm (args.length + ([] : List Keyword).length) (backTo pos (starEach args env)) (backToKw pos (keywordEach [] env)) = true) (hl : (apos.endLine == pos.line) = true) :
    eval (.Call (.Attribute o m apos) args [] pos) env = (do
      let ov ← eval o env
      standAt apos.atName
      let (f, first) ← holding [ov] (getMethod ov m (do return (← importBound o env).getD true))
      callWith pos f first (backTo pos (starEach args env)) (backToKw pos (keywordEach [] env))) := by
  rw [arm_eval_Call, hbase]
  unfold methodCall methodCallPos calleeOf
  rw [hfew, hl]
  simp only [Bool.not_true, Bool.false_or, if_true, pure_bind]
end
end MP
set_option maxHeartbeats 4000000
/-! MPG: list(g(..)) of a generator def -/
namespace MP
open PySem PySem.Spec PyProof.Rows L2
/-- a generator def's promise from an evaluator -/
def spGen (G : Gv) (m : List D → Live → Res (List D)) : SpG := fun vs H cont E => ∃ wd ds L, WOk (G := G) wd H L ∧ RelDs G wd vs ds ∧ (match m ds L with
  | .ok xs L' => ∀ wd' H' ys, Ext wd wd' → WOk (G := G) wd' H' L' → RelDs G wd' ys xs → cont ys H'
  | _ => False)
section
variable {G : Gv} {X : Cx} {W : WX} {e : Expr} {es : List Expr} {ms : Ev → Live → Res (List D)} {pos gpos p yp : Pos} {y : Str} {k : Nat} {fa : Addr} {fd : FuncData} {ps : List Str} {c : Cxt} {f : Nat}
theorem me_lgen (lv : Bool) (F : GFn X.prog X.w X.K X.mg X.base k fa fd ps (spGen G (c.γ f))) (hr : Room (k + 3) X.A) (hl : Gl X "list") (hlm : X.mg "list" = none) (hy : Gl X y) (hm : X.mg y = some (.ref fa)) (hk : PySem.W.keepIn X.K (.ref fa) = true) (hb : Binds X.K fd ps []) (ha : PA X (e :: es) (tA G W ms))
    (hdb : (y == ("__debug__" : Str)) = false) (he : starEach (e :: es) X.env = (false, eval e X.env) :: starEach es X.env) (hpl : (backTo gpos (starEach es X.env)).any (·.1) = false) :
    PE X (.Call (.Name "list" p) [.Call (.Name y yp) (e :: es) [] gpos] [] pos) (tE G W fun E L => (ms E L).bind fun ds L1 => (callG c f ds L1).bind fun xs L2 => opt (some (newL lv xs L2))) := by
  have pg := pgen_call (x := y) (p := yp) (pos' := gpos) (E := fun _ _ _ => False) F (hr.mono (by omega)) hy hm hk hb .nil ha hdb he hpl
  have key := pe_listG (pos := pos) (p := p) (nm := "list") pg (fun pins σ H s e s' I hc => by
    obtain ⟨a, B, H', cls, d, _, _, _, _, _, _, _, z⟩ := hc
    exact False.elim z) (fun cls d H h => False.elim h) hr hl hlm rfl
  refine peImp key fun σ H Q ⟨wd, E, L, rs, w, run⟩ => ⟨wd, E, L, rs, w, run.bind.imp fun vs H1 ⟨wd1, ds, L1, e1, w1, r1, run1⟩ => ?_⟩
  rw [List.append_nil]
  unfold callG at run1
  split at run1
  · refine ⟨wd1, ds, L1, w1, r1, ?_⟩
    cases q : c.γ f ds L1 with
    | ok xs L2 =>
      rw [q] at run1
      exact fun wd' H' ys e' w' r' p hp => new_list (lv := lv) w' r' hp fun wd'' H'' v e'' w'' r'' => run1 wd'' H'' v (e'.trans e'') w'' r''
    | exc C fs L2 => rw [q] at run1; exact run1
    | stuck => rw [q] at run1; exact run1
  · exact False.elim run1
end
end MP
set_option maxHeartbeats 4000000
/-! MP: from the model's syntax to the evaluator's: expressions -/
namespace MP
open PySem PySem.Spec PyProof.Rows L2

/-- a def's (a comprehension's) names -/
structure Stc where
  N : List Str
  sc : Scope
  fn : Option Scope
def Stc.fnf (S : Stc) : Str → Bool := match S.fn with | none => fun _ => true | some scope => fun x => scope.names.lookup x == some .cell
structure Par where
  lv : Pos → Bool
  fnOf : Str → Pos → Option Nat
  con : Str → Option D
  free : Str → Bool
  fld : Str → Bool
  meth : Str → Bool
  cls : Str → Bool
  rp : Bool
  gen : Str → Option Nat
def ixOf (x : Str) : List Str → Option Nat
  | [] => none
  | y :: r => if y = x then some 0 else (ixOf x r).map (· + 1)
theorem ixOf_get {x : Str} : ∀ {N : List Str} {i : Nat}, ixOf x N = some i → N[i]? = some x
  | [], i, h => by simp [ixOf] at h
  | y :: r, i, h => by
    simp only [ixOf] at h
    split at h
    · rename_i e
      cases h
      simp [e]
    · simp only [Option.map_eq_some_iff] at h
      obtain ⟨j, hj, rfl⟩ := h
      simpa using ixOf_get hj
theorem ixOf_none {x : Str} : ∀ {N : List Str}, ixOf x N = none → x ∉ N
  | [], _ => by simp
  | y :: r, h => by
    simp only [ixOf] at h
    split at h
    · cases h
    · rename_i e
      simp only [Option.map_eq_none_iff] at h
      simp only [List.mem_cons, not_or]
      exact ⟨fun z => e z.symm, ixOf_none h⟩
def visK : Option NameKind → Bool | some .local => true | some .cell => true | some .free => true | _ => false
def locK : Option NameKind → Bool | some .local => true | some .cell => true | _ => false
def dunder (x : Str) : Bool := x == "__debug__" || x == "__classdict__"
def varOf (S : Stc) (x : Str) : Option Nat := if visK (S.sc.names.lookup x) && !dunder x then ixOf x S.N else none
def glB (S : Stc) (x : Str) : Bool := decide (S.sc.names.lookup x = some .globalImplicit) && !(x == "__debug__")
def slotOf (S : Stc) (x : Str) : Option Nat := if locK (S.sc.names.lookup x) && (S.fnf x || decide (S.sc.names.lookup x = some .local)) then ixOf x S.N else none
def conOf : Const → Option D | .none => some .non | .bool b => some (.bl b) | .int i => some (.int i) | .str s => some (.str s) | _ => none
def bopOf : Operator → Option Bop | .Add => some .add | .Sub => some .sub | .Mult => some .mul | .FloorDiv => some .fdiv | .Mod => some .mod | .Pow => some .pow | _ => none
def copOf : CmpOp → Cop | .Eq => .eq | .NotEq => .ne | .Lt => .lt | .LtE => .le | .Gt => .gt | .GtE => .ge | .Is => .is_ | .IsNot => .isn | .In => .in_ | .NotIn => .nin
theorem bopOf_ok {op : Operator} {o : Bop} (h : bopOf op = some o) : op = bopM o := by cases op <;> simp [bopOf] at h <;> subst h <;> rfl
theorem copOf_ok (op : CmpOp) : copM (copOf op) = op := by cases op <;> rfl
def notStar : PySem.Expr → Bool | .Starred _ _ => false | _ => true
def notSlice : PySem.Expr → Bool | .Slice _ _ none _ => false | _ => true
def baseOk : PySem.Expr → Bool | .Call _ [] [] _ => false | _ => true
theorem star_cons {e : PySem.Expr} {es : List PySem.Expr} {env : Env} (h : notStar e = true) : starEach (e :: es) env = (false, eval e env) :: starEach es env := by
  cases e <;> first | rfl | (simp [notStar] at h)
theorem star_plain {env : Env} {pos : Pos} : ∀ {es : List PySem.Expr}, es.all notStar = true → (backTo pos (starEach es env)).any (·.1) = false
  | [], _ => rfl
  | e :: es, h => by
    simp only [List.all_cons, Bool.and_eq_true] at h
    rw [star_cons h.1]
    show (false || (backTo pos (starEach es env)).any (·.1)) = false
    rw [star_plain h.2]; rfl
theorem star_not {env : Env} {pos : Pos} : ∀ {es : List PySem.Expr}, es.all notStar = true → (backTo pos (starEach es env)).all (fun x => !x.1) = true
  | [], _ => rfl
  | e :: es, h => by
    simp only [List.all_cons, Bool.and_eq_true] at h
    rw [star_cons h.1]
    show (true && (backTo pos (starEach es env)).all (fun x => !x.1)) = true
    rw [star_not h.2]; rfl
theorem base_ok {o : PySem.Expr} {m : Str} {env : Env} (h : baseOk o = true) : attributeBase o m env (eval o env) = eval o env := by
  unfold attributeBase
  split
  · simp [baseOk] at h
  · rfl
theorem slice_ok {b : PySem.Expr} (h : notSlice b = true) : PlainIx b := by
  intro o i
  cases b <;> first | rfl | skip
  rename_i l u s p
  cases s with
  | none => simp [notSlice] at h
  | some s => rfl
theorem set_marks {op : CmpOp} {b : PySem.Expr} (h : notSet b = true) : behindInMarks op b = false := by
  cases b <;> first | rfl | (simp [notSet] at h)

def exsOf : List Ex → Exs
  | [] => .nil
  | e :: es => .cons e (exsOf es)
def boolOf (op : PySem.BoolOp) : List Ex → Option Ex
  | [] => none
  | [a] => some a
  | a :: b :: r => (boolOf op (b :: r)).map fun x => match op with | .And => .and a x | .Or => .or a x
/-- the names of a comprehension's block, with their places -/
def ownOf (N : List Str) (scope : Scope) : List (Str × Nat) := scope.names.filterMap fun y => if y.2 = .local ∨ y.2 = .cell then (ixOf y.1 N).map fun i => (y.1, i) else none
def blkB (sc scope : Scope) : Bool := decide (scope.kind = .function) && (scope.names.all fun y => decide (scope.names.lookup y.1 = some y.2)) && (scope.names.all fun y => !decide (y.2 = .free) || (decide (sc.names.lookup y.1 = some .cell) || decide (sc.names.lookup y.1 = some .free)))
theorem blk_ok {N : List Str} {sc scope : Scope} (h : blkB sc scope = true) : BlkOk N sc scope (ownOf N scope) := by
  simp only [blkB, Bool.and_eq_true, decide_eq_true_eq, List.all_eq_true, Bool.or_eq_true, Bool.not_eq_true', decide_eq_false_iff_not] at h
  obtain ⟨⟨h1, h2⟩, h3⟩ := h
  refine ⟨h1, h2, fun p hp => ?_, fun y hy e => ?_, fun y hy e => ?_⟩
  · obtain ⟨y, _, q⟩ := List.mem_filterMap.mp hp
    split at q
    · simp only [Option.map_eq_some_iff] at q
      obtain ⟨i, hi, rfl⟩ := q
      exact ixOf_get hi
    · cases q
  · rcases h3 y hy with q | q
    · exact absurd e q
    · exact q
  · cases q : ixOf y.1 N with
    | none => exact .inr (ixOf_none q)
    | some i => exact .inl (List.mem_map.mpr ⟨(y.1, i), List.mem_filterMap.mpr ⟨y, hy, by rw [if_pos e, q]; rfl⟩, rfl⟩)

def trG : Nat → Stc → PySem.Expr → Option Tg
  | 0, _, _ => none
  | n + 1, S, e => match e with
    | .Name x _ => (slotOf S x).map .slot
    | .Tuple es _ _ => if es.all notStar then (mapO (trG n S) es).map .tup else none
    | _ => none
def isTup : PySem.Expr → Bool | .Tuple _ _ _ => true | _ => false
def bltTab : List (Str × Blt) := [("len", .len), ("abs", .abs), ("max", .max), ("min", .min), ("sum", .sum), ("any", .any), ("all", .all), ("sorted", .sorted), ("list", .list), ("tuple", .tuple), ("int", .int), ("str", .str), ("repr", .repr)]
def tyTab : List (Str × Ty) := [("int", .int), ("bool", .bool), ("str", .str), ("list", .list), ("tuple", .tuple), ("dict", .dict)]
def mthTab : List (Str × Mth) := [("append", .append), ("extend", .extend), ("pop", .pop), ("insert", .insert), ("reverse", .reverse), ("clear", .clear), ("remove", .remove), ("join", .join), ("index", .index)]
def opt2 {α β γ : Type} (a : Option α) (b : Option β) (f : α → β → γ) : Option γ := match a with | some x => (match b with | some y => some (f x y) | none => none) | none => none
theorem opt2_some {α β γ : Type} {a : Option α} {b : Option β} {f : α → β → γ} {z : γ} (h : opt2 a b f = some z) : ∃ x y, a = some x ∧ b = some y ∧ z = f x y := by
  cases a with
  | none => cases h
  | some x =>
    cases b with
    | none => cases h
    | some y => exact ⟨x, y, rfl, rfl, (Option.some.inj h).symm⟩
section
variable (p : Par) (t : Stc → PySem.Expr → Option Ex)
def stI (S : Stc) (tup : Bool) : PySem.Expr → Option It
  | .Call (.Name x pn) args [] pos =>
    if decide (x = "range") && glB S x && p.free x then match args with
      | [a] => if notStar a then (t S a).map .rng1 else none
      | [a, b] => if notStar a && notStar b then opt2 (t S a) (t S b) .rng2 else none
      | _ => none
    else if decide (x = "enumerate") && glB S x && p.free x then match args with
      | [a] => if notStar a && tup then (t S a).map .enum else none
      | _ => none
    else if decide (x = "zip") && glB S x && p.free x then match args with
      | [a, b] => if notStar a && notStar b && tup then opt2 (t S a) (t S b) .zip else none
      | [a, b, d] => if notStar a && notStar b && notStar d && tup then (match t S a with | some a' => opt2 (t S b) (t S d) (.zip3 a') | none => none) else none
      | _ => none
    else (t S (.Call (.Name x pn) args [] pos)).map .val
  | e => if notSet e then (t S e).map .val else none
def stC (S : Stc) (x : Str) (args : List PySem.Expr) (pos : Pos) : Option Ex :=
  if glB S x then
    if decide (x = "isinstance") then match args with
      | [a, .Name y _] => match tyTab.lookup y with
        | some ty => if p.free x && glB S y && p.free y && notStar a then (t S a).map fun a' => .isi a' ty else none
        | none => none
      | _ => none
    else match bltTab.lookup x with
      | some b => match args with
        | [] => none
        | a :: r => if (p.free x && (a :: r).all notStar) && (!decide (b = .repr) || p.rp) then (mapO (t S) (a :: r)).map fun l => .blt b (p.lv pos) (exsOf l) else none
      | none => match p.fnOf x pos with
        | some f => if args.all notStar then (mapO (t S) args).map fun l => .call f (exsOf l) else none
        | none => none
  else none
def stM (S : Stc) (o : PySem.Expr) (m : Str) (apos : Pos) (args : List PySem.Expr) (pos : Pos) : Option Ex :=
  match mthTab.lookup m with
  | some mm => if baseOk o && (apos.endLine == pos.line) && args.all notStar && decide (args.length < 29) then opt2 (t S o) (mapO (t S) args) fun o' l => .mth mm o' (exsOf l) else none
  | none => none
def stL (S : Stc) (elt tg iter : PySem.Expr) (ifs : List PySem.Expr) (scope : Scope) (pos : Pos) : Option Ex :=
  if blkB S.sc scope && notSet iter then
    match trG 5 ⟨S.N, relS scope S.sc, some scope⟩ tg with
    | some g => if (slotsG g).all fun i => decide (i ∈ (ownOf S.N scope).map (·.2)) then
        match stI p t S (isTup tg) iter with
        | some it => match ifs with
          | [] => (t ⟨S.N, relS scope S.sc, some scope⟩ elt).map fun e => .comp (p.lv pos) ((ownOf S.N scope).map (·.2)) g it .nil e
          | [c] => opt2 (t ⟨S.N, relS scope S.sc, some scope⟩ c) (t ⟨S.N, relS scope S.sc, some scope⟩ elt) fun c' e => .comp (p.lv pos) ((ownOf S.N scope).map (·.2)) g it (.cons c' .nil) e
          | _ => none
        | none => none
      else none
    | none => none
  else none
/-- a comprehension of two clauses; tests stand in the second one at most -/
def stL2 (S : Stc) (elt tg iter tg1 iter1 : PySem.Expr) (ifs1 : List PySem.Expr) (scope : Scope) (pos : Pos) : Option Ex :=
  if blkB S.sc scope && (notSet iter && notSet iter1) then
    match trG 5 ⟨S.N, relS scope S.sc, some scope⟩ tg with
    | some g => match trG 5 ⟨S.N, relS scope S.sc, some scope⟩ tg1 with
      | some g1 => if ((slotsG g).all fun i => decide (i ∈ (ownOf S.N scope).map (·.2))) && ((slotsG g1).all fun i => decide (i ∈ (ownOf S.N scope).map (·.2))) then
          match stI p t S (isTup tg) iter with
          | some it => match stI p t ⟨S.N, relS scope S.sc, some scope⟩ (isTup tg1) iter1 with
            | some it1 => match ifs1 with
              | [] => (t ⟨S.N, relS scope S.sc, some scope⟩ elt).map fun e => .comp2 (p.lv pos) ((ownOf S.N scope).map (·.2)) (slotsG g1) g it .nil g1 it1 .nil e
              | [c] => opt2 (t ⟨S.N, relS scope S.sc, some scope⟩ c) (t ⟨S.N, relS scope S.sc, some scope⟩ elt) fun c' e => .comp2 (p.lv pos) ((ownOf S.N scope).map (·.2)) (slotsG g1) g it .nil g1 it1 (.cons c' .nil) e
              | _ => none
            | none => none
          | none => none
        else none
      | none => none
    | none => none
  else none
/-- list(range(..)) -/
def stR1 (S : Stc) (as : List PySem.Expr) (pos : Pos) : Option Ex := match as with
  | [] => none
  | [a] => if notStar a then (t S a).map (.lrg1 (p.lv pos)) else none
  | [a, b] => if notStar a && notStar b then opt2 (t S a) (t S b) (.lrg2 (p.lv pos)) else none
  | _ :: _ :: _ :: _ => none
def stR (S : Stc) (x : Str) (args : List PySem.Expr) (pos : Pos) : Option Ex := match args with
  | [.Call (.Name y _) as [] _] => if decide (x = "list") && decide (y = "range") && glB S x && glB S y && p.free x && p.free y then stR1 p t S as pos else none
  | _ => none
/-- list(d.values()) -/
def stV (S : Stc) (x : Str) (args : List PySem.Expr) (pos : Pos) : Option Ex := match args with
  | [.Call (.Attribute d m apos) [] [] cpos] => if decide (x = "list") && decide (m = "values") && glB S x && p.free x && baseOk d && (apos.endLine == cpos.line) then (t S d).map (.lvl (p.lv pos)) else none
  | _ => none
/-- list(g(..)) of a generator def -/
def stQ (S : Stc) (x : Str) (args : List PySem.Expr) (pos : Pos) : Option Ex := match args with
  | [.Call (.Name y _) (a :: r) [] _] => if decide (x = "list") && glB S x && p.free x && glB S y && (a :: r).all notStar then (match p.gen y with
    | some f => (mapO (t S) (a :: r)).map fun l => .lgen (p.lv pos) f (exsOf l)
    | none => none) else none
  | _ => none
/-- a new instance -/
def stN (S : Stc) (x : Str) (args : List PySem.Expr) : Option Ex := match args with
  | [] => none
  | a :: r => if p.cls x && glB S x && (a :: r).all notStar then (mapO (t S) (a :: r)).map fun l => .make x (exsOf l) else none
/-- a method of one's own -/
def stO (S : Stc) (o : PySem.Expr) (m : Str) (apos : Pos) (args : List PySem.Expr) (pos : Pos) : Option Ex :=
  if p.meth m && baseOk o && (apos.endLine == pos.line) && args.all notStar && decide (args.length < 29) then opt2 (t S o) (mapO (t S) args) fun o' l => .own m o' (exsOf l) else none
/-- displays with stars -/
def stSt (S : Stc) : List PySem.Expr → Option Exs
  | [] => some .nil
  | .Starred a _ :: r => opt2 (t S a) (stSt S r) .star
  | a :: r => if notStar a then opt2 (t S a) (stSt S r) .cons else none
/-- what is named so that looking it up changes nothing -/
def quietE : Ex → Bool | .var _ => true | .fld (.var _) _ => true | _ => false
/-- a comprehension over d.values() -/
def stLV (S : Stc) (elt tg iter : PySem.Expr) (ifs : List PySem.Expr) (scope : Scope) (pos : Pos) : Option Ex := match iter with
  | .Call (.Attribute d m apos) [] [] cpos =>
    if blkB S.sc scope && decide (m = "values") && baseOk d && (apos.endLine == cpos.line) then
      match trG 5 ⟨S.N, relS scope S.sc, some scope⟩ tg with
      | some g => if (slotsG g).all fun i => decide (i ∈ (ownOf S.N scope).map (·.2)) then
          match t S d with
          | some d' => if quietE d' then (match ifs with
            | [] => (t ⟨S.N, relS scope S.sc, some scope⟩ elt).map fun e => .compv (p.lv pos) ((ownOf S.N scope).map (·.2)) g d' .nil e
            | [c] => opt2 (t ⟨S.N, relS scope S.sc, some scope⟩ c) (t ⟨S.N, relS scope S.sc, some scope⟩ elt) fun c' e => .compv (p.lv pos) ((ownOf S.N scope).map (·.2)) g d' (.cons c' .nil) e
            | _ => none) else none
          | none => none
        else none
      | none => none
    else none
  | _ => none
/-- max(.., default=..) -/
def stX (S : Stc) (x : Str) (args : List PySem.Expr) (kn : Str) (d : PySem.Expr) : Option Ex := match args with
  | [a] => if decide (x = "max") && decide (kn = "default") && glB S x && p.free x && notStar a then opt2 (t S a) (t S d) .mxd else none
  | _ => none
/-- [k for k, v in d.items() if v] -/
def stK (S : Stc) (elt tg iter : PySem.Expr) (ifs : List PySem.Expr) (scope : Scope) (pos : Pos) : Option Ex := match elt, tg, iter, ifs with
  | .Name yk _, .Tuple [.Name xk _, .Name xv _] _ _, .Call (.Attribute (.Name xd _) m apos) [] [] cpos, [.Name yv _] =>
    if blkB S.sc scope && decide (m = "items") && (apos.endLine == cpos.line) then
      match varOf S xd, slotOf ⟨S.N, relS scope S.sc, some scope⟩ xk, slotOf ⟨S.N, relS scope S.sc, some scope⟩ xv with
      | some i, some ik, some iv =>
        if decide (varOf ⟨S.N, relS scope S.sc, some scope⟩ yk = some ik) && decide (varOf ⟨S.N, relS scope S.sc, some scope⟩ yv = some iv) && decide (ik ≠ iv) && decide (ik ∈ (ownOf S.N scope).map (·.2)) && decide (iv ∈ (ownOf S.N scope).map (·.2)) then some (.tks (p.lv pos) i ik iv) else none
      | _, _, _ => none
    else none
  | _, _, _, _ => none
def stP (S : Stc) : Option PySem.Expr → Option Ex
  | none => some (.con .non)
  | some e => match t S e with | some x => if isAbs x then none else some x | none => none
def stE (S : Stc) : PySem.Expr → Option Ex
  | .Name x _ => match varOf S x with | some i => some (.var i) | none => if glB S x then (p.con x).map (.glob x) else none
  | .Constant c _ _ => (conOf c).map .con
  | .BinOp a op b pos => match bopOf op with | some o => opt2 (t S a) (t S b) (.bin o (p.lv pos)) | none => none
  | .UnaryOp op a _ => match op with | .USub => (t S a).map .neg | .Not => (t S a).map .not | _ => none
  | .Compare a ops bs _ => match ops, bs with
    | [op], [b] => if notSet b then opt2 (t S a) (t S b) (.cmp (copOf op)) else none
    | [op, op'], [b, c] => if notSet c then match t S a with | some a' => opt2 (t S b) (t S c) (.chn (copOf op) (copOf op') a') | none => none else none
    | _, _ => none
  | .BoolOp op es _ => match mapO (t S) es with | some l => boolOf op l | none => none
  | .IfExp c a b _ => match t S c with | some c' => opt2 (t S a) (t S b) (.ite c') | none => none
  | .Tuple es _ _ => if es.all notStar then (mapO (t S) es).map fun l => .tup (exsOf l) else (stSt t S es).map .tup
  | .List es pos => if es.all notStar then (mapO (t S) es).map fun l => .lst (p.lv pos) (exsOf l) else (stSt t S es).map (.lst (p.lv pos))
  | .Attribute a f _ => if p.fld f && baseOk a then (t S a).map fun a' => .fld a' f else none
  | .Dict ks vs pos => match ks, vs with
    | [], [] => if p.lv pos then some .dic0 else some (.dct [] .nil)
    | [some (.Constant (.int k) _ _)], [.Name x _] => if p.lv pos then none else (varOf S x).map fun i => .dct [.inl k] (.cons (.var i) .nil)
    | _, _ => none
  | .Subscript a b pos => match b with
    | .Slice none none (some (.UnaryOp .USub (.Constant (.int 1) _ _) _)) _ => (t S a).map (.rev (p.lv pos))
    | .Slice lo hi none _ => match t S a with | some a' => opt2 (stP t S lo) (stP t S hi) (.slc (p.lv pos) a') | none => none
    | b => if notSlice b then opt2 (t S a) (t S b) .idx else none
  | .Call f args kws pos => match kws with
    | [] => match f with
      | .Name x _ => match stR p t S x args pos with
        | some e => some e
        | none => match stV p t S x args pos with
          | some e => some e
          | none => match stN p t S x args with
            | some e => some e
            | none => match stQ p t S x args pos with
              | some e => some e
              | none => stC p t S x args pos
      | .Attribute o m apos => match stO p t S o m apos args pos with | some e => some e | none => stM t S o m apos args pos
      | _ => none
    | [⟨some kn, d, _⟩] => match f with
      | .Name x _ => stX p t S x args kn d
      | _ => none
    | _ => none
  | .ListComp elt gens scope pos => match gens with
    | [⟨tg, iter, ifs, a⟩] => if a = 0 then (match stL p t S elt tg iter ifs scope pos with | some e => some e | none => match stK p S elt tg iter ifs scope pos with | some e => some e | none => stLV p t S elt tg iter ifs scope pos) else none
    | [⟨tg, iter, ifs, a⟩, ⟨tg1, iter1, ifs1, a1⟩] => if a = 0 ∧ a1 = 0 ∧ ifs = [] then stL2 p t S elt tg iter tg1 iter1 ifs1 scope pos else none
    | _ => none
  | _ => none
end
def trE (p : Par) : Nat → Stc → PySem.Expr → Option Ex
  | 0, _, _ => none
  | n + 1, S, e => stE p (trE p n) S e
end MP
set_option maxHeartbeats 4000000
/-! MP: the translation of expressions is right -/
namespace MP
open PySem PySem.Spec PyProof.Rows L2
/-- what stands around a def's body -/
structure Ok (P : Program) (w : World) (G : Gv) (mg : Str → Option Value) (base : Heap) (n : Nat) (X : Cx) (S : Stc) : Prop where
  prog : X.prog = P
  w : X.w = w
  mg : X.mg = mg
  base : X.base = base
  gd : Gd G X
  N : X.N = S.N
  sc : X.env.scope = S.sc
  fn : X.fn = S.fnf
  room : Room (n + 1) X.A
  kind : X.env.scope.kind = .function
structure Fct (P : Program) (w : World) (G : Gv) (mg : Str → Option Value) (base : Heap) (n : Nat) (p : Par) (c : Cxt) : Prop where
  free : ∀ x, p.free x = true → mg x = none
  con : ∀ x d, p.con x = some d → ∃ v u, mg x = some u ∧ RelV v u ∧ ∀ wd, RelD G wd v d
  fn : ∀ x pos f, p.fnOf x pos = some f → ∃ fa, mg x = some (.ref fa) ∧ PySem.W.keepIn G.K (.ref fa) = true ∧ FnG G.gu P w G.K mg base n fa (spM G (c.φ f))
  cls : ∀ C ca, G.cls C = some ca → Cls G.K ca
  rp : p.rp = true → G.gu = true
  gen : ∀ x f, p.gen x = some f → ∃ fa fd ps k, mg x = some (.ref fa) ∧ PySem.W.keepIn G.K (.ref fa) = true ∧ Binds G.K fd ps [] ∧ k + 2 ≤ n ∧ GFn P w G.K mg base k fa fd ps (spGen G (c.γ f))
  fld : ∀ f, p.fld f = true → ∀ C ca, G.cls C = some ca → NoAttr G.K ca f
  meth : ∀ m, p.meth m = true → ∀ C ca f, G.cls C = some ca → c.meth C m = some f → ∃ fa, Meth G.K ca m fa ∧ FnG G.gu P w G.K mg base n fa (spM G (c.φ f))
  make : ∀ x, p.cls x = true → ∃ ca fa f, G.cls x = some ca ∧ mg x = some (.ref ca) ∧ Mk G.K ca fa ∧ c.init x = some f ∧ FnG G.gu P w G.K mg base n fa (spM G (c.φ f))
section
variable {P : Program} {w : World} {G : Gv} {mg : Str → Option Value} {base : Heap} {n : Nat} {p : Par} {c : Cxt} {t : Stc → PySem.Expr → Option Ex} {X : Cx} {S : Stc} {W : WX}
theorem lookup_mem {α β : Type} [BEq α] [LawfulBEq α] {x : α} {y : β} : ∀ {l : List (α × β)}, l.lookup x = some y → (x, y) ∈ l
  | [], h => by simp at h
  | (a, b) :: r, h => by
    rw [List.lookup_cons] at h
    split at h
    · rename_i e
      cases h
      rw [eq_of_beq e]
      simp
    · exact List.mem_cons_of_mem _ (lookup_mem h)
theorem blt_facts : ∀ q ∈ bltTab, bootBuiltins q.1 = some (bltV q.2) ∧ q.1 ≠ ("__name__" : Str) := by decide +kernel
theorem ty_facts : ∀ q ∈ tyTab, q.1 = Str.ofString (tyN q.2) := by decide +kernel
theorem mth_facts2 : ∀ q ∈ mthTab, q.1 = Str.ofString (mthN q.2) := by decide +kernel
theorem Ok.gl (o : Ok P w G mg base n X S) {x : Str} (h : glB S x = true) : Gl X x ∧ (x == ("__debug__" : Str)) = false := by
  simp only [glB, Bool.and_eq_true, decide_eq_true_eq, Bool.not_eq_true'] at h
  refine ⟨?_, h.2⟩
  show X.env.scope.names.lookup x = _
  rw [o.sc]; exact h.1
theorem Ok.blk (o : Ok P w G mg base n X S) {scope : Scope} (hb : blkB S.sc scope = true) (s : Shared) (H : Hp) (C : Addr) (cl : List (Str × Addr)) (fp : List Addr) :
    Ok P w G mg base n (X.blk s H scope (compEnvC scope cl C X.env) fp) ⟨S.N, relS scope S.sc, some scope⟩ := by
  refine ⟨o.prog, o.w, o.mg, o.base, ⟨o.gd.K, o.gd.calm, o.gd.gu, o.gd.un, o.gd.nd, o.gd.sm⟩, o.N, ?_, rfl, o.room, ?_⟩
  · show relabel scope X.env = relS scope S.sc
    rw [← o.sc]; rfl
  · show scope.kind = .function
    simp only [blkB, Bool.and_eq_true, decide_eq_true_eq] at hb
    exact hb.1.1
theorem takes0 (s : Shared) (H : Hp) (scope : Scope) (e : Env) (fp : List Addr) : Takes (X.blk s H scope e fp) W0 := by
  rintro u s' ⟨a, B, sI, pins, σ, H, cls, d, e, I, nb, up, sky, na, os, ag, w⟩
  exact False.elim w
def IHE (P : Program) (w : World) (G : Gv) (mg : Str → Option Value) (base : Heap) (n : Nat) (c : Cxt) (t : Stc → PySem.Expr → Option Ex) : Prop :=
  ∀ S e me, t S e = some me → ∀ X W, Ok P w G mg base n X S → Takes X W → PE X e (tE G W (evE c me)) ∧ PT X e (tT G W (tst (evE c me)))
theorem args_ok (ih : IHE P w G mg base n c t) (o : Ok P w G mg base n X S) (tk : Takes X W) : ∀ {es : List PySem.Expr} {l : List Ex}, mapO (t S) es = some l → es.all notStar = true → PA X es (tA G W (evA c (exsOf l)))
  | [], l, h, _ => by simp only [mapO, Option.some.injEq] at h; subst h; exact ma_nil
  | e :: es, l, h, hs => by
    simp only [List.all_cons, Bool.and_eq_true] at hs
    simp only [mapO] at h
    cases q : t S e with
    | none => rw [q] at h; cases h
    | some a =>
      rw [q] at h
      cases q2 : mapO (t S) es with
      | none => rw [q2] at h; cases h
      | some r =>
        rw [q2] at h
        simp only [Option.some.injEq] at h
        subst h
        exact ma_cons (ih S e a q X W o tk).1 (args_ok ih o tk q2 hs.2) (star_cons hs.1)
theorem tst_and (ma mb : Ev → Live → Res D) : tst (fun E L => (ma E L).bind fun x L1 => (optV (truD L1 x) L1).bind fun k L2 => if k then mb E L2 else .ok x L2) = fun E L => (tst ma E L).bind fun k L1 => if k then tst mb E L1 else .ok false L1 := by
  funext E L
  simp only [tst]
  cases ma E L with
  | ok x L1 =>
    simp only [Res.bind_ok]
    cases q : truD L1 x with
    | none => rfl
    | some k => cases k <;> simp [optV, q]
  | exc C fs L1 => rfl
  | stuck => rfl
theorem tst_or (ma mb : Ev → Live → Res D) : tst (fun E L => (ma E L).bind fun x L1 => (optV (truD L1 x) L1).bind fun k L2 => if k then .ok x L2 else mb E L2) = fun E L => (tst ma E L).bind fun k L1 => if k then .ok true L1 else tst mb E L1 := by
  funext E L
  simp only [tst]
  cases ma E L with
  | ok x L1 =>
    simp only [Res.bind_ok]
    cases q : truD L1 x with
    | none => rfl
    | some k => cases k <;> simp [optV, q]
  | exc C fs L1 => rfl
  | stuck => rfl
theorem tst_not (ma : Ev → Live → Res D) : tst (fun E L => (ma E L).bind fun x L1 => (optV (truD L1 x) L1).bind fun k L2 => .ok (.bl (!k)) L2) = fun E L => (tst ma E L).bind fun k L1 => .ok (!k) L1 := by
  funext E L
  simp only [tst]
  cases ma E L with
  | ok x L1 =>
    simp only [Res.bind_ok]
    cases q : truD L1 x with
    | none => rfl
    | some k => simp [optV, truD]
  | exc C fs L1 => rfl
  | stuck => rfl
theorem tst_ite (ma mb mc : Ev → Live → Res D) : tst (fun E L => (tst mc E L).bind fun k L1 => if k then ma E L1 else mb E L1) = fun E L => (tst mc E L).bind fun k L1 => if k then tst ma E L1 else tst mb E L1 := by
  funext E L
  show ((tst mc E L).bind _).bind _ = _
  rw [Res.bind_assoc]
  congr 1
  funext k L1
  cases k <;> rfl
theorem tst_cmp (f : D → D → Live → Option Bool) (ma mb : Ev → Live → Res D) : tst (fun E L => (ma E L).bind fun x L1 => (mb E L1).bind fun y L2 => (optV (f x y L2) L2).bind fun k L3 => .ok (.bl k) L3) = fun E L => (ma E L).bind fun x L1 => (mb E L1).bind fun y L2 => optV (f x y L2) L2 := by
  funext E L
  unfold tst
  rw [Res.bind_assoc]
  congr 1
  funext x L1
  rw [Res.bind_assoc]
  congr 1
  funext y L2
  cases f x y L2 <;> rfl
theorem tst_chn (o o' : Cop) (ma mb mc : Ev → Live → Res D) : tst (fun E L => (ma E L).bind fun x L1 => (mb E L1).bind fun y L2 => (optV (cmpD o x y L2) L2).bind fun k L3 =>
      if k then (mc E L3).bind fun z L4 => (optV (cmpD o' y z L4) L4).bind fun b L5 => .ok (.bl b) L5 else .ok (.bl false) L3) = fun E L => (ma E L).bind fun x L1 => (mb E L1).bind fun y L2 => (optV (cmpD o x y L2) L2).bind fun k L3 =>
      if k then (mc E L3).bind fun z L4 => optV (cmpD o' y z L4) L4 else .ok false L3 := by
  funext E L
  unfold tst
  rw [Res.bind_assoc]
  congr 1
  funext x L1
  rw [Res.bind_assoc]
  congr 1
  funext y L2
  rw [Res.bind_assoc]
  congr 1
  funext k L3
  cases k with
  | false => rfl
  | true =>
    simp only [if_true]
    rw [Res.bind_assoc]
    congr 1
    funext z L4
    cases cmpD o' y z L4 <;> rfl
theorem bool_ok (ih : IHE P w G mg base n c t) (o : Ok P w G mg base n X S) (tk : Takes X W) {op : PySem.BoolOp} {pos : Pos} : ∀ {es : List PySem.Expr} {l : List Ex} {b : Ex}, mapO (t S) es = some l → boolOf op l = some b →
    PE X (.BoolOp op es pos) (tE G W (evE c b)) ∧ PW X (.BoolOp op es pos) (tT G W (tst (evE c b)))
  | [], l, b, h, hb => by simp only [mapO, Option.some.injEq] at h; subst h; cases hb
  | [e], l, b, h, hb => by
    simp only [mapO] at h
    cases q : t S e with
    | none => rw [q] at h; cases h
    | some a =>
      rw [q] at h
      simp only [Option.some.injEq] at h
      subst h
      cases hb
      obtain ⟨h1, h2⟩ := ih S e _ q X W o tk
      exact ⟨pe_one h1, by cases op; exact pw_and1 h2; exact pw_or1 h2⟩
  | e :: f :: es, l, b, h, hb => by
    rw [mapO] at h
    cases q : t S e with
    | none => rw [q] at h; cases h
    | some a =>
      rw [q] at h
      simp only at h
      cases q2 : mapO (t S) (f :: es) with
      | none => rw [q2] at h; cases h
      | some r =>
        rw [q2] at h
        simp only [Option.some.injEq] at h
        subst h
        cases r with
        | nil =>
          exfalso
          simp only [mapO] at q2
          split at q2
          · split at q2 <;> cases q2
          · cases q2
        | cons b1 r =>
          simp only [boolOf, Option.map_eq_some_iff] at hb
          obtain ⟨x, hx, rfl⟩ := hb
          obtain ⟨h1, h2⟩ := ih S e a q X W o tk
          obtain ⟨h3, h4⟩ := bool_ok ih o tk (pos := pos) q2 hx
          cases op with
          | And =>
            refine ⟨me_and o.gd h1 h3, ?_⟩
            have e1 : tst (evE c (.and a x)) = fun E L => (tst (evE c a) E L).bind fun k L1 => if k then tst (evE c x) E L1 else .ok false L1 := by
              rw [← tst_and]
              congr 1
            rw [e1]
            exact mt_and h2 h4
          | Or =>
            refine ⟨me_or o.gd h1 h3, ?_⟩
            have e1 : tst (evE c (.or a x)) = fun E L => (tst (evE c a) E L).bind fun k L1 => if k then .ok true L1 else tst (evE c x) E L1 := by
              rw [← tst_or]
              congr 1
            rw [e1]
            exact mt_or h2 h4
theorem Ok.slot (o : Ok P w G mg base n X S) {x : Str} {i : Nat} (h : slotOf S x = some i) : X.N[i]? = some x ∧ Loc X.env.scope x ∧ (X.fn x = true ∨ X.env.scope.names.lookup x = some .local) := by
  simp only [slotOf] at h
  split at h
  · rename_i hc
    simp only [Bool.and_eq_true, Bool.or_eq_true, decide_eq_true_eq] at hc
    refine ⟨by rw [o.N]; exact ixOf_get h, ?_, ?_⟩
    · show X.env.scope.names.lookup x = _ ∨ X.env.scope.names.lookup x = _
      rw [o.sc]
      cases q : S.sc.names.lookup x with
      | none => rw [q] at hc; simp [locK] at hc
      | some k => rw [q] at hc; cases k <;> simp [locK] at hc ⊢
    · rw [o.fn, o.sc]; exact hc.2
  · cases h
theorem star_assign {e : PySem.Expr} {es : List PySem.Expr} {env : Env} (h : notStar e = true) : assignEach (e :: es) env = (false, assign e env) :: assignEach es env := by
  cases e <;> first | rfl | (simp [notStar] at h)
theorem star_assigns {env : Env} : ∀ {es : List PySem.Expr}, es.all notStar = true → (assignEach es env).length = es.length ∧ (assignEach es env).findIdx? (·.1) = none
  | [], _ => ⟨rfl, rfl⟩
  | e :: es, h => by
    simp only [List.all_cons, Bool.and_eq_true] at h
    obtain ⟨h1, h2⟩ := star_assigns (env := env) h.2
    rw [star_assign h.1]
    exact ⟨by simp [h1], by simp [List.findIdx?_cons, h2]⟩
theorem mapO_len {α β : Type} {f : α → Option β} {l : List α} {r : List β} (h : mapO f l = some r) : l.length = r.length := (mapO_spec h).length
theorem tgt_ok : ∀ {m : Nat} {X : Cx} {S : Stc} (o : Ok P w G mg base n X S) {e : PySem.Expr} {g : Tg}, trG m S e = some g → PG X e (tG G g)
  | 0, X, S, o, e, g, h => by simp [trG] at h
  | m + 1, X, S, o, e, g, h => by
    simp only [trG] at h
    split at h
    · simp only [Option.map_eq_some_iff] at h
      obtain ⟨i, hi, rfl⟩ := h
      obtain ⟨h1, h2, h3⟩ := o.slot hi
      exact mg_slot o.gd h1 h2 h3
    · rename_i es k pos
      split at h
      · rename_i hs
        simp only [Option.map_eq_some_iff] at h
        obtain ⟨gs, hg, rfl⟩ := h
        obtain ⟨h1, h2⟩ := star_assigns (env := X.env) hs
        refine mg_tup o.gd ?_ (by rw [h1]; exact mapO_len hg) h2
        clear h1 h2
        induction es generalizing gs with
        | nil => simp only [mapO, Option.some.injEq] at hg; subst hg; exact mgs_nil
        | cons a es ih =>
          simp only [List.all_cons, Bool.and_eq_true] at hs
          simp only [mapO] at hg
          cases q : trG m S a with
          | none => rw [q] at hg; cases hg
          | some b =>
            rw [q] at hg
            cases q2 : mapO (trG m S) es with
            | none => rw [q2] at hg; cases hg
            | some r =>
              rw [q2] at hg
              simp only [Option.some.injEq] at hg
              subst hg
              exact mgs_cons (tgt_ok o q) (ih hs.2 r q2) (by rw [star_assign hs.1]; rfl)
      · cases h
    · cases h
theorem ite_some {α : Type} {b : Bool} {x : Option α} {y : α} (h : (if b = true then x else none) = some y) : b = true ∧ x = some y := by
  cases b with
  | true => exact ⟨rfl, by simpa using h⟩
  | false => simp at h
theorem isTup_ok {tg : PySem.Expr} (h : isTup tg = true) : ∃ elts k pos, tg = .Tuple elts k pos := by
  cases tg <;> first | (simp [isTup] at h; done) | exact ⟨_, _, _, rfl⟩
theorem iter_ok (hf : Fct P w G mg base n p c) (ih : IHE P w G mg base n c t) (o : Ok P w G mg base n X S) (tk : Takes X W) {tg iter : PySem.Expr} {it : It} (h : stI p t S (isTup tg) iter = some it) : PI X tg iter (tI G W (evI c it)) := by
  have val : ∀ {e : PySem.Expr} {it : It}, (t S e).map It.val = some it → PI X tg e (tI G W (evI c it)) := fun {e it} h => by
    simp only [Option.map_eq_some_iff] at h
    obtain ⟨a, ha, rfl⟩ := h
    exact mi_val o.gd (ih S e a ha X W o tk).1
  unfold stI at h
  split at h
  · rename_i x pn args pos
    by_cases c1 : (decide (x = "range") && glB S x && p.free x) = true
    · rw [if_pos c1] at h
      simp only [Bool.and_eq_true, decide_eq_true_eq] at c1
      obtain ⟨⟨hx, hg⟩, hfr⟩ := c1
      have hm : X.mg x = none := by rw [o.mg]; exact hf.free _ hfr
      have hg' := (o.gl hg).1
      clear hg hfr
      split at h
      · rename_i a
        obtain ⟨hs, h⟩ := ite_some h
        simp only [Option.map_eq_some_iff] at h
        obtain ⟨a', ha, rfl⟩ := h
        subst hx
        exact mi_rng1 hg' hm (ih S a a' ha X W o tk).1 (star_cons hs)
      · rename_i a b
        obtain ⟨hs, h⟩ := ite_some h
        simp only [Bool.and_eq_true] at hs
        obtain ⟨a', b', ha, hb, rfl⟩ := opt2_some h
        subst hx
        exact mi_rng2 hg' hm (ih S a a' ha X W o tk).1 (ih S b b' hb X W o tk).1 (by rw [star_cons hs.1, star_cons hs.2]; rfl) (star_cons hs.2)
      · cases h
    · rw [if_neg c1] at h
      by_cases c2 : (decide (x = "enumerate") && glB S x && p.free x) = true
      · rw [if_pos c2] at h
        simp only [Bool.and_eq_true, decide_eq_true_eq] at c2
        obtain ⟨⟨hx, hg⟩, hfr⟩ := c2
        have hm : X.mg x = none := by rw [o.mg]; exact hf.free _ hfr
        have hg' := (o.gl hg).1
        clear hg hfr c1
        split at h
        · rename_i a
          obtain ⟨hs, h⟩ := ite_some h
          simp only [Bool.and_eq_true] at hs
          simp only [Option.map_eq_some_iff] at h
          obtain ⟨a', ha, rfl⟩ := h
          obtain ⟨elts, k, tpos, rfl⟩ := isTup_ok hs.2
          subst hx
          exact mi_enum o.gd hg' hm (ih S a a' ha X W o tk).1 (star_cons hs.1)
        · cases h
      · rw [if_neg c2] at h
        by_cases c3 : (decide (x = "zip") && glB S x && p.free x) = true
        · rw [if_pos c3] at h
          simp only [Bool.and_eq_true, decide_eq_true_eq] at c3
          obtain ⟨⟨hx, hg⟩, hfr⟩ := c3
          have hm : X.mg x = none := by rw [o.mg]; exact hf.free _ hfr
          have hg' := (o.gl hg).1
          clear hg hfr c1 c2
          split at h
          · rename_i a b
            obtain ⟨hs, h⟩ := ite_some h
            simp only [Bool.and_eq_true] at hs
            obtain ⟨a', b', ha, hb, rfl⟩ := opt2_some h
            obtain ⟨elts, k, tpos, rfl⟩ := isTup_ok hs.2
            subst hx
            exact mi_zip o.gd hg' hm (ih S a a' ha X W o tk).1 (ih S b b' hb X W o tk).1 (star_cons hs.1.1) (star_cons hs.1.2)
          · rename_i a b d
            obtain ⟨hs, h⟩ := ite_some h
            simp only [Bool.and_eq_true] at hs
            cases qa : t S a with
            | none => rw [qa] at h; cases h
            | some a' =>
              rw [qa] at h
              simp only at h
              obtain ⟨b', d', hb, hd, rfl⟩ := opt2_some h
              obtain ⟨elts, k, tpos, rfl⟩ := isTup_ok hs.2
              subst hx
              exact mi_zip3 o.gd hg' hm (ih S a a' qa X W o tk).1 (ih S b b' hb X W o tk).1 (ih S d d' hd X W o tk).1 (star_cons hs.1.1.1) (star_cons hs.1.1.2) (star_cons hs.1.2)
          · cases h
        · rw [if_neg c3] at h
          exact val h
  · obtain ⟨_, h⟩ := ite_some h
    exact val h
end
end MP
set_option maxHeartbeats 4000000
/-! MP: the translation of expressions is right (the step) -/
namespace MP
open PySem PySem.Spec PyProof.Rows L2
section
variable {P : Program} {w : World} {G : Gv} {mg : Str → Option Value} {base : Heap} {n : Nat} {p : Par} {c : Cxt} {t : Stc → PySem.Expr → Option Ex} {X : Cx} {S : Stc} {W : WX}
/-- both, of an expression whose test is its value's truth -/
theorem both (o : Ok P w G mg base n X S) {e : PySem.Expr} {m : Ev → Live → Res D} (h : PE X e (tE G W m)) (he : ∀ whole, isTrue e X.env whole = (do let v ← whole; standAt e.pos; holding [v] (truthy v))) : PE X e (tE G W m) ∧ PT X e (tT G W (tst m)) := ⟨h, mt_truth o.gd h he⟩
theorem stC_ok (hf : Fct P w G mg base n p c) (ih : IHE P w G mg base n c t) (o : Ok P w G mg base n X S) (tk : Takes X W) {x : Str} {pn pos : Pos} {args : List PySem.Expr} {me : Ex} (h : stC p t S x args pos = some me) :
    PE X (.Call (.Name x pn) args [] pos) (tE G W (evE c me)) := by
  unfold stC at h
  obtain ⟨hg, h⟩ := ite_some h
  have gl := o.gl hg
  by_cases c1 : decide (x = "isinstance") = true
  · rw [if_pos c1] at h
    have hx := of_decide_eq_true c1
    clear c1
    split at h
    · rename_i a y p3 _
      cases q : tyTab.lookup y with
      | none => rw [q] at h; cases h
      | some ty =>
        rw [q] at h
        obtain ⟨hc, h⟩ := ite_some h
        simp only [Bool.and_eq_true] at hc
        obtain ⟨⟨⟨f1, g2⟩, f2⟩, hs⟩ := hc
        simp only [Option.map_eq_some_iff] at h
        obtain ⟨a', ha, rfl⟩ := h
        have ey := ty_facts _ (lookup_mem q)
        have ey : y = Str.ofString (tyN ty) := ey
        have m1 : X.mg x = none := by rw [o.mg]; exact hf.free _ f1
        have m2 : X.mg y = none := by rw [o.mg]; exact hf.free _ f2
        have gl2 := (o.gl g2).1
        clear q f1 f2 g2 hg
        subst ey
        subst hx
        exact me_isi o.gd ty gl.1 m1 gl2 m2 (ih S a a' ha X W o tk).1 (star_cons hs)
    · cases h
  · rw [if_neg c1] at h
    clear c1
    cases q : bltTab.lookup x with
    | some b =>
      rw [q] at h
      simp only at h
      cases args with
      | nil => cases h
      | cons a r =>
        simp only at h
        obtain ⟨hc, h⟩ := ite_some h
        rw [Bool.and_eq_true, Bool.and_eq_true] at hc
        obtain ⟨hc, hrp⟩ := hc
        simp only [Option.map_eq_some_iff] at h
        obtain ⟨l, hl, rfl⟩ := h
        obtain ⟨b1, b2⟩ := blt_facts _ (lookup_mem q)
        have hs := hc.2
        have hs' := hs
        simp only [List.all_cons, Bool.and_eq_true] at hs'
        exact me_blt o.gd b (fun e => hf.rp (by subst e; simpa using hrp)) (p.lv pos) gl.1 (by rw [o.mg]; exact hf.free _ hc.1) b1 (args_ok ih o tk hl hs) b2 gl.2 (star_cons hs'.1) (star_plain hs'.2)
    | none =>
      rw [q] at h
      simp only at h
      cases q2 : p.fnOf x pos with
      | none => rw [q2] at h; cases h
      | some f =>
        rw [q2] at h
        simp only at h
        obtain ⟨hs, h⟩ := ite_some h
        simp only [Option.map_eq_some_iff] at h
        obtain ⟨l, hl, rfl⟩ := h
        obtain ⟨fa, h1, h2, h3⟩ := hf.fn x pos f q2
        have F : FnG G.gu X.prog X.w X.K X.mg X.base n fa (spM G (c.φ f)) := by rw [o.prog, o.w, o.gd.K, o.mg, o.base]; exact h3
        have hm : X.mg x = some (.ref fa) := by rw [o.mg]; exact h1
        have hk : PySem.W.keepIn X.K (.ref fa) = true := by rw [o.gd.K]; exact h2
        cases args with
        | nil =>
          simp only [mapO, Option.some.injEq] at hl
          subst hl
          exact me_call0 o.gd F (o.room.mono (Nat.le_succ _)) tk gl.1 hm hk gl.2
        | cons a r =>
          have hs' := hs
          simp only [List.all_cons, Bool.and_eq_true] at hs'
          exact me_call o.gd F (o.room.mono (Nat.le_succ _)) tk gl.1 hm hk (args_ok ih o tk hl hs) gl.2 (star_cons hs'.1) (star_plain hs'.2)
theorem stM_ok (hf : Fct P w G mg base n p c) (ih : IHE P w G mg base n c t) (o : Ok P w G mg base n X S) (tk : Takes X W) {oe : PySem.Expr} {m : Str} {apos pos : Pos} {args : List PySem.Expr} {me : Ex} (h : stM t S oe m apos args pos = some me) :
    PE X (.Call (.Attribute oe m apos) args [] pos) (tE G W (evE c me)) := by
  unfold stM at h
  cases q : mthTab.lookup m with
  | none => rw [q] at h; cases h
  | some mm =>
    rw [q] at h
    simp only at h
    obtain ⟨hc, h⟩ := ite_some h
    simp only [Bool.and_eq_true, decide_eq_true_eq] at hc
    obtain ⟨⟨⟨h1, h2⟩, hs⟩, h4⟩ := hc
    obtain ⟨o', l, ho, hl, rfl⟩ := opt2_some h
    have em : m = Str.ofString (mthN mm) := mth_facts2 _ (lookup_mem q)
    clear q
    subst em
    have pe := (ih S oe o' ho X W o tk).1
    cases args with
    | nil =>
      simp only [mapO, Option.some.injEq] at hl
      subst hl
      exact me_mth0 o.gd mm pe (base_ok h1) h2
    | cons a r =>
      have hs' := hs
      simp only [List.all_cons, Bool.and_eq_true] at hs'
      refine me_mth o.gd mm pe (args_ok ih o tk hl (by simpa using hs)) (base_ok h1) ?_ h2 (star_cons (by simpa using hs'.1)) (star_plain (by simpa using hs'.2))
      rw [star_not (by simpa using hs)]
      simp only [List.length_cons] at h4 ⊢
      show (true && true && decide (r.length + 1 + 0 + 0 < 30)) = true
      simp; omega
theorem tst_end (m : Ev → Live → Res D) : (fun E L => (m E L).bind fun x L1 => (optV (truD L1 x) L1).bind fun k L2 => if k then Res.ok true L2 else .ok false L2) = tst m := by
  funext E L
  unfold tst
  congr 1
  funext x L1
  cases q : truD L1 x with
  | none => rfl
  | some k => cases k <;> rfl
theorem stL_ok (hf : Fct P w G mg base n p c) (ih : IHE P w G mg base n c t) (o : Ok P w G mg base n X S) (tk : Takes X W) {elt tg iter : PySem.Expr} {ifs : List PySem.Expr} {scope : Scope} {pos : Pos} {me : Ex} (h : stL p t S elt tg iter ifs scope pos = some me) :
    ∃ lv g it tc e', me = .comp lv ((ownOf S.N scope).map (·.2)) g it tc e' ∧ blkB S.sc scope = true ∧ notSet iter = true ∧ PI X tg iter (tI G W (evI c it)) ∧
      (∀ (s : Shared) (H : Hp) (C : Addr) (cl : List (Str × Addr)) (fp : List Addr), PG (X.blk s H scope (compEnvC scope cl C X.env) fp) tg (tG G g)) ∧ (∀ (s : Shared) (H : Hp) (C : Addr) (cl : List (Str × Addr)) (fp : List Addr), PTs (X.blk s H scope (compEnvC scope cl C X.env) fp) ifs (tT G W0 (evC c tc))) ∧
      (∀ (s : Shared) (H : Hp) (C : Addr) (cl : List (Str × Addr)) (fp : List Addr), PE (X.blk s H scope (compEnvC scope cl C X.env) fp) elt (tE G W0 (evE c e'))) ∧ ∀ i ∈ slotsG g, i ∈ (ownOf S.N scope).map (·.2) := by
  unfold stL at h
  obtain ⟨hc, h⟩ := ite_some h
  rw [Bool.and_eq_true] at hc
  obtain ⟨hb, hs⟩ := hc
  cases qg : trG 5 ⟨S.N, relS scope S.sc, some scope⟩ tg with
  | none => rw [qg] at h; cases h
  | some g =>
    rw [qg] at h
    simp only at h
    obtain ⟨hsl, h⟩ := ite_some h
    have hsl' : ∀ i ∈ slotsG g, i ∈ (ownOf S.N scope).map (·.2) := fun i hi => of_decide_eq_true (List.all_eq_true.mp hsl i hi)
    cases qi : stI p t S (isTup tg) iter with
    | none => rw [qi] at h; cases h
    | some it =>
      rw [qi] at h
      simp only at h
      have pi := iter_ok hf ih o tk qi
      have blk := fun s H C cl fp => o.blk hb s H C cl fp
      have pg := fun (s : Shared) (H : Hp) (C : Addr) (cl : List (Str × Addr)) (fp : List Addr) => tgt_ok (blk s H C cl fp) qg
      cases ifs with
      | nil =>
        simp only [Option.map_eq_some_iff] at h
        obtain ⟨e', he, rfl⟩ := h
        exact ⟨_, g, it, .nil, e', rfl, hb, hs, pi, pg, fun s H C cl fp => mc_nil, fun s H C cl fp => (ih _ elt e' he _ W0 (blk s H C cl fp) (takes0 _ _ _ _ _)).1, hsl'⟩
      | cons cc r =>
        cases r with
        | nil =>
          obtain ⟨c', e', hcc, he, rfl⟩ := opt2_some h
          refine ⟨_, g, it, .cons c' .nil, e', rfl, hb, hs, pi, pg, fun s H C cl fp => ?_, fun s H C cl fp => (ih _ elt e' he _ W0 (blk s H C cl fp) (takes0 _ _ _ _ _)).1, hsl'⟩
          have := mc_one (ih _ cc c' hcc _ W0 (blk s H C cl fp) (takes0 _ _ _ _ _)).2
          rw [← tst_end] at this
          exact this
        | cons _ _ => cases h
theorem stL2_ok (hf : Fct P w G mg base n p c) (ih : IHE P w G mg base n c t) (o : Ok P w G mg base n X S) (tk : Takes X W) {elt tg iter tg1 iter1 : PySem.Expr} {ifs1 : List PySem.Expr} {scope : Scope} {pos : Pos} {me : Ex} (h : stL2 p t S elt tg iter tg1 iter1 ifs1 scope pos = some me) :
    ∃ lv g it g1 it1 tc1 e', me = .comp2 lv ((ownOf S.N scope).map (·.2)) (slotsG g1) g it .nil g1 it1 tc1 e' ∧ blkB S.sc scope = true ∧ notSet iter = true ∧ notSet iter1 = true ∧ PI X tg iter (tI G W (evI c it)) ∧
      (∀ (s : Shared) (H : Hp) (C : Addr) (cl : List (Str × Addr)) (fp : List Addr), PG (X.blk s H scope (compEnvC scope cl C X.env) fp) tg (tG G g)) ∧
      (∀ (s : Shared) (H : Hp) (C : Addr) (cl : List (Str × Addr)) (fp : List Addr), PI (X.blk s H scope (compEnvC scope cl C X.env) fp) tg1 iter1 (tI G W0 (evI c it1))) ∧
      (∀ (s : Shared) (H : Hp) (C : Addr) (cl : List (Str × Addr)) (fp : List Addr), PG (X.blk s H scope (compEnvC scope cl C X.env) fp) tg1 (tG G g1)) ∧ (∀ (s : Shared) (H : Hp) (C : Addr) (cl : List (Str × Addr)) (fp : List Addr), PTs (X.blk s H scope (compEnvC scope cl C X.env) fp) ifs1 (tT G W0 (evC c tc1))) ∧
      (∀ (s : Shared) (H : Hp) (C : Addr) (cl : List (Str × Addr)) (fp : List Addr), PE (X.blk s H scope (compEnvC scope cl C X.env) fp) elt (tE G W0 (evE c e'))) ∧ (∀ i ∈ slotsG g, i ∈ (ownOf S.N scope).map (·.2)) ∧ ∀ i ∈ slotsG g1, i ∈ (ownOf S.N scope).map (·.2) := by
  unfold stL2 at h
  obtain ⟨hc, h⟩ := ite_some h
  rw [Bool.and_eq_true, Bool.and_eq_true] at hc
  obtain ⟨hb, hs, hs1⟩ := hc
  cases qg : trG 5 ⟨S.N, relS scope S.sc, some scope⟩ tg with
  | none => rw [qg] at h; cases h
  | some g =>
    rw [qg] at h
    simp only at h
    cases qg1 : trG 5 ⟨S.N, relS scope S.sc, some scope⟩ tg1 with
    | none => rw [qg1] at h; cases h
    | some g1 =>
      rw [qg1] at h
      simp only at h
      obtain ⟨hsl, h⟩ := ite_some h
      rw [Bool.and_eq_true] at hsl
      have hsl' : ∀ i ∈ slotsG g, i ∈ (ownOf S.N scope).map (·.2) := fun i hi => of_decide_eq_true (List.all_eq_true.mp hsl.1 i hi)
      have hsl1' : ∀ i ∈ slotsG g1, i ∈ (ownOf S.N scope).map (·.2) := fun i hi => of_decide_eq_true (List.all_eq_true.mp hsl.2 i hi)
      cases qi : stI p t S (isTup tg) iter with
      | none => rw [qi] at h; cases h
      | some it =>
        rw [qi] at h
        simp only at h
        cases qi1 : stI p t ⟨S.N, relS scope S.sc, some scope⟩ (isTup tg1) iter1 with
        | none => rw [qi1] at h; cases h
        | some it1 =>
          rw [qi1] at h
          simp only at h
          have pi := iter_ok hf ih o tk qi
          have blk := fun s H C cl fp => o.blk hb s H C cl fp
          have pg := fun (s : Shared) (H : Hp) (C : Addr) (cl : List (Str × Addr)) (fp : List Addr) => tgt_ok (blk s H C cl fp) qg
          have pg1 := fun (s : Shared) (H : Hp) (C : Addr) (cl : List (Str × Addr)) (fp : List Addr) => tgt_ok (blk s H C cl fp) qg1
          have pi1 := fun (s : Shared) (H : Hp) (C : Addr) (cl : List (Str × Addr)) (fp : List Addr) => iter_ok hf ih (blk s H C cl fp) (takes0 _ _ _ _ _) qi1
          cases ifs1 with
          | nil =>
            simp only [Option.map_eq_some_iff] at h
            obtain ⟨e', he, rfl⟩ := h
            exact ⟨_, g, it, g1, it1, .nil, e', rfl, hb, hs, hs1, pi, pg, pi1, pg1, fun s H C cl fp => mc_nil, fun s H C cl fp => (ih _ elt e' he _ W0 (blk s H C cl fp) (takes0 _ _ _ _ _)).1, hsl', hsl1'⟩
          | cons cc r =>
            cases r with
            | nil =>
              obtain ⟨c', e', hcc, he, rfl⟩ := opt2_some h
              refine ⟨_, g, it, g1, it1, .cons c' .nil, e', rfl, hb, hs, hs1, pi, pg, pi1, pg1, fun s H C cl fp => ?_, fun s H C cl fp => (ih _ elt e' he _ W0 (blk s H C cl fp) (takes0 _ _ _ _ _)).1, hsl', hsl1'⟩
              have := mc_one (ih _ cc c' hcc _ W0 (blk s H C cl fp) (takes0 _ _ _ _ _)).2
              rw [← tst_end] at this
              exact this
            | cons _ _ => cases h
theorem part_ok (ih : IHE P w G mg base n c t) (o : Ok P w G mg base n X S) (tk : Takes X W) {lo : Option PySem.Expr} {l : Ex} (h : stP t S lo = some l) :
    ∃ m, PO X lo (tO G W (mPart m)) ∧ ∀ E L, (if isAbs l then Res.ok none L else (evE c l E L).bind fun l L2 => optV (part l) L2) = mPart m E L := by
  cases lo with
  | none =>
    simp only [stP, Option.some.injEq] at h
    subst h
    exact ⟨none, mo_none, fun E L => rfl⟩
  | some e =>
    simp only [stP] at h
    cases q : t S e with
    | none => rw [q] at h; cases h
    | some x =>
      rw [q] at h
      simp only at h
      split at h
      · cases h
      · rename_i hn
        simp only [Option.some.injEq] at h
        subst h
        exact ⟨some (evE c x), mo_some (ih S e x q X W o tk).1, fun E L => by rw [if_neg hn]; rfl⟩
theorem me_dic0 {pos : Pos} : PE X (.Dict [] [] pos) (tE G W fun _ L => .ok (.ref L.length) (L ++ [.dic []])) :=
  peImp pe_dnewK fun σ H Q ⟨wd, E, L, rs, w, run⟩ p hp => by
    obtain ⟨e, w'⟩ := w.add (o := .dK []) (x := .dic []) hp (fun wd' e' H' k h => ⟨[], h, .nil⟩)
    refine run _ _ _ e w' ?_
    simp only [RelD]
    exact ⟨p, Wd.add_at, rfl⟩
theorem me_dct0 {pos : Pos} : PE X (.Dict [] [] pos) (tE G W (evE c (.dct [] .nil))) :=
  peImp pe_dnewK fun σ H Q ⟨wd, E, L, rs, w, run⟩ p hp => by
    obtain ⟨e, w'⟩ := w.frz (o := .dK []) hp (.inr (.inr (.inr (.inl ⟨_, rfl⟩))))
    refine run _ _ _ e w' ?_
    simp only [RelD]
    exact ⟨p, [], rfl, upd_same, rfl, RelDs.nil⟩
theorem rgV_rel {wd : Wd} {a b : Int} : RelDs G wd (rgV a b) (rgD a b) := by
  unfold rgV rgD
  generalize List.range (b - a).toNat = l
  induction l with
  | nil => exact RelDs.nil
  | cons x r ih => exact RelDs.cons (by simp [RelD]) ih
theorem rgOkB_ok {a b : Int} (h : rgOkB a b = true) : RgOk a b := by
  simp only [rgOkB, Bool.and_eq_true, decide_eq_true_eq] at h
  exact ⟨h.1.1.1.1, h.1.1.1.2, h.1.1.2, h.1.2, h.2⟩
theorem lrg_end {wd : Wd} {H : Hp} {L L' : Live} {lv : Bool} {i j : Int} {d : D} {Q : VK} (w : WOk (G := G) wd H L) (h : lrgD lv i j L = some (d, L')) (e : End G wd d L' Q) : RgOk i j ∧ ∀ q, H q = none → Q (.ref q) (upd H q (.lst (rgV i j))) := by
  unfold lrgD at h
  obtain ⟨h1, h2⟩ := ite_some h
  simp only [Option.some.injEq] at h2
  refine ⟨rgOkB_ok h1, fun q hq => new_list (lv := lv) w rgV_rel hq ?_⟩
  rw [h2]
  exact e
theorem me_lrg1 (g : Gd G X) (lv : Bool) {a : PySem.Expr} {ma : Ev → Live → Res D} {pn pn2 pos pos2 : Pos} (hl : Gl X "list") (hlm : X.mg "list" = none) (hg : Gl X "range") (hm : X.mg "range" = none) (ha : PE X a (tE G W ma)) (na : starEach [a] X.env = (false, eval a X.env) :: starEach [] X.env) :
    PE X (.Call (.Name "list" pn) [.Call (.Name "range" pn2) [a] [] pos2] [] pos) (tE G W fun E L => (ma E L).bind fun x L1 => opt (lrg1D lv x L1)) :=
  peImp (pe_listRg g.calm hl hlm (prg_1 hg hm ha na)) fun σ H Q ⟨wd, E, L, rs, w, run⟩ => ⟨wd, E, L, rs, w, run.bind.imp fun v H1 ⟨wd1, d1, L1, e1, w1, r1, run1⟩ => by
    obtain ⟨d, L', q1, q2⟩ := opt_run run1
    cases d1 with
    | int n =>
      simp only [RelD] at r1
      exact ⟨n, r1, lrg_end w1 q1 q2⟩
    | _ => simp [lrg1D] at q1⟩
theorem me_lrg2 (g : Gd G X) (lv : Bool) {a b : PySem.Expr} {ma mb : Ev → Live → Res D} {pn pn2 pos pos2 : Pos} (hl : Gl X "list") (hlm : X.mg "list" = none) (hg : Gl X "range") (hm : X.mg "range" = none) (ha : PE X a (tE G W ma)) (hb : PE X b (tE G W mb)) (na : starEach [a, b] X.env = (false, eval a X.env) :: starEach [b] X.env) (nb : starEach [b] X.env = (false, eval b X.env) :: starEach [] X.env) (hp : (backTo pos2 (starEach [b] X.env)).any (·.1) = false) :
    PE X (.Call (.Name "list" pn) [.Call (.Name "range" pn2) [a, b] [] pos2] [] pos) (tE G W fun E L => (ma E L).bind fun x L1 => (mb E L1).bind fun y L2 => opt (lrg2D lv x y L2)) :=
  peImp (pe_listRg g.calm hl hlm (prg_2 hg hm ha hb na nb hp)) fun σ H Q ⟨wd, E, L, rs, w, run⟩ => ⟨wd, E, L, rs, w, run.bind.imp fun v H1 ⟨wd1, d1, L1, e1, w1, r1, run1⟩ => ⟨wd1, E, L1, rs.ext e1, w1, run1.bind.imp fun u H2 ⟨wd2, d2, L2, e2, w2, r2, run2⟩ => by
    obtain ⟨d, L', q1, q2⟩ := opt_run run2
    have r1' := r1.ext G e2
    cases d1 with
    | int i =>
      cases d2 with
      | int j =>
        simp only [RelD] at r1' r2
        exact ⟨i, j, r1', r2, lrg_end w2 q1 q2⟩
      | _ => simp [lrg2D] at q1
    | _ => simp [lrg2D] at q1⟩⟩
theorem me_rev (g : Gd G X) (lv : Bool) {a : PySem.Expr} {ma : Ev → Live → Res D} {k : Nat} {p1 p2 p3 pos : Pos} (ha : PE X a (tE G W ma)) :
    PE X (.Subscript a (.Slice none none (some (.UnaryOp .USub (.Constant (.int 1) k p1) p2)) p3) pos) (tE G W fun E L => (ma E L).bind fun x L1 => opt (revD lv x L1)) :=
  peImp (pe_revL ha) fun σ H Q ⟨wd, E, L, rs, w, run⟩ => ⟨wd, E, L, rs, w, run.bind.imp fun v H1 ⟨wd1, d1, L1, e1, w1, r1, run1⟩ => by
    obtain ⟨d, L', q1, q2⟩ := opt_run run1
    unfold revD at q1
    cases q : lstOf L1 d1 with
    | none => rw [q] at q1; cases q1
    | some ds =>
      rw [q] at q1
      simp only [Option.some.injEq] at q1
      obtain ⟨a', xs, rfl, hx, rx⟩ := rd_list w1 r1 q
      exact ⟨a', xs, rfl, .inl hx, fun p hp => new_list (lv := lv) w1 (RelDs.reverse rx) hp (by rw [q1]; exact q2)⟩⟩
theorem stR_ok (hf : Fct P w G mg base n p c) (ih : IHE P w G mg base n c t) (o : Ok P w G mg base n X S) (tk : Takes X W) {x : Str} {pn pos : Pos} {args : List PySem.Expr} {me : Ex} (h : stR p t S x args pos = some me) :
    PE X (.Call (.Name x pn) args [] pos) (tE G W (evE c me)) := by
  unfold stR at h
  split at h
  · rename_i y pn2 as pos2
    obtain ⟨hc, h1⟩ := ite_some h
    clear h
    have h := h1
    clear h1
    simp only [Bool.and_eq_true, decide_eq_true_eq] at hc
    obtain ⟨⟨⟨⟨⟨hx, hy⟩, gx⟩, gy⟩, fx⟩, fy⟩ := hc
    have m1 : X.mg x = none := by rw [o.mg]; exact hf.free _ fx
    have m2 : X.mg y = none := by rw [o.mg]; exact hf.free _ fy
    have g1 := (o.gl gx).1
    have g2 := (o.gl gy).1
    clear fx fy gx gy
    subst hx
    subst hy
    cases as with
    | nil => cases h
    | cons a r =>
      cases r with
      | nil =>
        simp only [stR1] at h
        obtain ⟨hs, h⟩ := ite_some h
        simp only [Option.map_eq_some_iff] at h
        obtain ⟨a', ha, rfl⟩ := h
        exact me_lrg1 o.gd (p.lv pos) g1 m1 g2 m2 (ih S a a' ha X W o tk).1 (star_cons hs)
      | cons b r =>
        cases r with
        | nil =>
          have h2 : (if (notStar a && notStar b) = true then opt2 (t S a) (t S b) (Ex.lrg2 (p.lv pos)) else none) = some me := h
          clear h
          obtain ⟨hs, h⟩ := ite_some h2
          simp only [Bool.and_eq_true] at hs
          obtain ⟨a', b', ha, hb, rfl⟩ := opt2_some h
          exact me_lrg2 o.gd (p.lv pos) g1 m1 g2 m2 (ih S a a' ha X W o tk).1 (ih S b b' hb X W o tk).1 (star_cons hs.1) (star_cons hs.2) (star_plain (by simp [hs.2]))
        | cons _ _ => cases h
  · cases h
theorem stX_ok (hf : Fct P w G mg base n p c) (ih : IHE P w G mg base n c t) (o : Ok P w G mg base n X S) (tk : Takes X W) {x kn : Str} {pn kp pos : Pos} {args : List PySem.Expr} {d : PySem.Expr} {me : Ex} (h : stX p t S x args kn d = some me) :
    PE X (.Call (.Name x pn) args [⟨some kn, d, kp⟩] pos) (tE G W (evE c me)) := by
  unfold stX at h
  split at h
  · rename_i a
    obtain ⟨hc, h2⟩ := ite_some h
    clear h
    simp only [Bool.and_eq_true, decide_eq_true_eq] at hc
    obtain ⟨⟨⟨⟨hx, hk⟩, gx⟩, fx⟩, hs⟩ := hc
    have m1 : X.mg x = none := by rw [o.mg]; exact hf.free _ fx
    have g1 := (o.gl gx).1
    clear fx gx
    subst hx
    subst hk
    obtain ⟨a', d', ha, hd, rfl⟩ := opt2_some h2
    exact me_mxd o.gd g1 m1 (ih S a a' ha X W o tk).1 (ih S d d' hd X W o tk).1 (star_cons hs)
  · cases h
theorem var_ok (o : Ok P w G mg base n X S) {x : Str} {i : Nat} {pos : Pos} (q : varOf S x = some i) : PE X (.Name x pos) (tVar i) := by
  unfold varOf at q
  obtain ⟨hc, q⟩ := ite_some q
  simp only [Bool.and_eq_true, dunder, Bool.not_eq_true', Bool.or_eq_false_iff] at hc
  refine pe_var (by rw [o.N]; exact ixOf_get q) ?_ hc.2.1 hc.2.2
  show X.env.scope.names.lookup x = _ ∨ X.env.scope.names.lookup x = _ ∨ X.env.scope.names.lookup x = _
  rw [o.sc]
  have hv := hc.1
  cases q : S.sc.names.lookup x with
  | none => rw [q] at hv; simp [visK] at hv
  | some k => rw [q] at hv; cases k <;> simp [visK] at hv ⊢
theorem me_dct1 {x : Str} {i j : Nat} {k : Int} {p1 p2 pos : Pos} (pe : PE X (.Name x p2) (tVar i)) : PE X (.Dict [some (.Constant (.int k) j p1)] [.Name x p2] pos) (tE G W (evE c (.dct [.inl k] (.cons (.var i) .nil)))) :=
  peImp (pe_disp (pps_cons pe_int pe pps_nil) rfl rfl (by simp) (by simp)) fun σ H Q ⟨wd, E, L, rs, w, run⟩ p hp => by
    simp only [evE, evA] at run
    cases q : E[i]? with
    | none => rw [q] at run; exact False.elim run
    | some o =>
      rw [q] at run
      cases o with
      | none => exact False.elim run
      | some d =>
        simp only [Res.bind_ok, List.length_singleton, if_true] at run
        obtain ⟨v, h1, h2⟩ := rs.2 i d q
        refine ⟨v, h1, upd_same, [(.inl k, v)], rfl, by simp, ?_⟩
        have e1 : upd (upd H p (.dK [])) p (.dK (mergeK [] [(Sum.inl k, v)])) = upd H p (.dK [(Sum.inl k, v)]) := by
          funext a
          by_cases c : a = p
          · subst c; rw [upd_same, upd_same]; rfl
          · rw [upd_ne c, upd_ne c, upd_ne c]
        rw [e1]
        obtain ⟨e, w'⟩ := w.frz (o := .dK [(Sum.inl k, v)]) hp (.inr (.inr (.inr (.inl ⟨_, rfl⟩))))
        refine run _ _ _ e w' ?_
        simp only [RelD]
        exact ⟨p, _, rfl, upd_same, rfl, RelDs.cons (h2.ext G e) RelDs.nil⟩
theorem stK_ok (hf : Fct P w G mg base n p c) (o : Ok P w G mg base n X S) {elt tg iter : PySem.Expr} {ifs : List PySem.Expr} {scope : Scope} {pos : Pos} {me : Ex} (h : stK p S elt tg iter ifs scope pos = some me) :
    PE X (.ListComp elt [⟨tg, iter, ifs, 0⟩] scope pos) (tE G W (evE c me)) := by
  unfold stK at h
  split at h
  · rename_i yk pk2 xk pk xv pv kk tpos xd pd m apos cpos yv pv2
    obtain ⟨hc, h1⟩ := ite_some h
    clear h
    simp only [Bool.and_eq_true, decide_eq_true_eq] at hc
    obtain ⟨⟨hb, hm⟩, hl⟩ := hc
    subst hm
    cases q1 : varOf S xd with
    | none => rw [q1] at h1; cases h1
    | some i =>
      cases q2 : slotOf ⟨S.N, relS scope S.sc, some scope⟩ xk with
      | none => rw [q1, q2] at h1; cases h1
      | some ik =>
        cases q3 : slotOf ⟨S.N, relS scope S.sc, some scope⟩ xv with
        | none => rw [q1, q2, q3] at h1; cases h1
        | some iv =>
          rw [q1, q2, q3] at h1
          obtain ⟨hc, h2⟩ := ite_some h1
          simp only [Bool.and_eq_true, decide_eq_true_eq] at hc
          obtain ⟨⟨⟨⟨c1, c2⟩, c3⟩, c4⟩, c5⟩ := hc
          simp only [Option.some.injEq] at h2
          subst h2
          have blk := fun s H C cl fp => o.blk hb s H C cl fp
          have bo : BlkOk X.N X.env.scope scope (ownOf S.N scope) := by rw [o.N, o.sc]; exact blk_ok hb
          refine me_tks (i := i) (ik := ik) (iv := iv) o.gd (p.lv pos) (var_ok o q1) bo c3 c4 c5 (fun s H C cl fp => ?_) (fun s H C cl fp => var_ok (blk s H C cl fp) c1) (fun s H C cl fp => var_ok (blk s H C cl fp) c2) (base_ok rfl) hl
          obtain ⟨h1, h2, h3⟩ := (blk s H C cl fp).slot q2
          obtain ⟨h4, h5, h6⟩ := (blk s H C cl fp).slot q3
          exact pg_tup (blk s H C cl fp).gd.calm (pgs_cons (pg_name (blk s H C cl fp).gd.nd h1 h2 h3) (pgs_cons (pg_name (blk s H C cl fp).gd.nd h4 h5 h6) pgs_nil)) rfl rfl
  · cases h
theorem quiet_ok {d' : Ex} (h : quietE d' = true) : Quiet (evE c d') := by
  have var : ∀ i, Quiet (evE c (.var i)) := fun i => by
    refine ⟨fun E L => ?_, fun E L n kvs hx hL => ?_⟩
    · simp only [evE]
      split
      · exact .inl ⟨_, rfl⟩
      · exact .inr rfl
    · simp only [evE] at hx ⊢
      split at hx
      · rename_i d q; cases hx; rfl
      · cases hx
  cases d' with
  | var i => exact var i
  | fld a f =>
    cases a with
    | var i =>
      refine ⟨fun E L => ?_, fun E L n kvs hx hL => ?_⟩
      · simp only [evE]
        split
        · simp only [Res.bind_ok]
          split
          · split
            · rename_i C fs q
              cases fs.lookup f with
              | none => exact .inr rfl
              | some d => exact .inl ⟨d, rfl⟩
            · exact .inr rfl
          · exact .inr rfl
        · exact .inr rfl
      · simp only [evE] at hx ⊢
        split at hx
        case h_2 => cases hx
        rename_i d q
        simp only [Res.bind_ok] at hx ⊢
        split at hx
        case h_2 => cases hx
        rename_i m
        split at hx
        case h_2 => cases hx
        rename_i C fs q2
        have ne : n ≠ m := fun z => by subst z; rw [hL] at q2; cases q2
        rw [List.getElem?_set_ne ne, q2]
        cases ql : fs.lookup f with
        | none => rw [ql] at hx; cases hx
        | some d => rw [ql] at hx; cases hx; simp [optV, ql]
    | _ => cases h
  | _ => cases h
theorem stSt_ok (ih : IHE P w G mg base n c t) (o : Ok P w G mg base n X S) (tk : Takes X W) : ∀ {es : List PySem.Expr} {l : Exs}, stSt t S es = some l → PA X es (tA G W (evA c l))
  | [], l, h => by simp only [stSt, Option.some.injEq] at h; subst h; exact ma_nil
  | e :: r, l, h => by
    have plain : (if notStar e then opt2 (t S e) (stSt t S r) .cons else none) = some l → PA X (e :: r) (tA G W (evA c l)) := fun h => by
      obtain ⟨hs, h⟩ := ite_some h
      obtain ⟨a', l', ha, hl, rfl⟩ := opt2_some h
      exact ma_cons (ih S e a' ha X W o tk).1 (stSt_ok ih o tk hl) (star_cons hs)
    cases e with
    | Starred a p =>
      simp only [stSt] at h
      obtain ⟨a', l', ha, hl, rfl⟩ := opt2_some h
      exact ma_star o.gd.K (ih S a a' ha X W o tk).1 (stSt_ok ih o tk hl) rfl
    | _ => exact plain h
theorem stV_ok (hf : Fct P w G mg base n p c) (ih : IHE P w G mg base n c t) (o : Ok P w G mg base n X S) (tk : Takes X W) {x : Str} {pn pos : Pos} {args : List PySem.Expr} {me : Ex} (h : stV p t S x args pos = some me) :
    PE X (.Call (.Name x pn) args [] pos) (tE G W (evE c me)) := by
  unfold stV at h
  split at h
  · rename_i d m apos cpos
    obtain ⟨hc, h⟩ := ite_some h
    simp only [Bool.and_eq_true, decide_eq_true_eq] at hc
    obtain ⟨⟨⟨⟨⟨hx, hm⟩, g1⟩, f1⟩, hb⟩, hl⟩ := hc
    simp only [Option.map_eq_some_iff] at h
    obtain ⟨d', hd, rfl⟩ := h
    have m1 : X.mg x = none := by rw [o.mg]; exact hf.free _ f1
    have gl := (o.gl g1).1
    clear f1 g1
    subst hx hm
    exact me_lvl o.gd (p.lv pos) gl m1 (ih S d d' hd X W o tk).1 (base_ok hb) hl rfl
  · cases h
theorem stQ_ok (hf : Fct P w G mg base n p c) (ih : IHE P w G mg base n c t) (o : Ok P w G mg base n X S) (tk : Takes X W) {x : Str} {pn pos : Pos} {args : List PySem.Expr} {me : Ex} (h : stQ p t S x args pos = some me) :
    PE X (.Call (.Name x pn) args [] pos) (tE G W (evE c me)) := by
  unfold stQ at h
  split at h
  · rename_i y yp a r gpos
    obtain ⟨hc, h⟩ := ite_some h
    rw [Bool.and_eq_true, Bool.and_eq_true, Bool.and_eq_true, Bool.and_eq_true] at hc
    obtain ⟨⟨⟨⟨hx, g1⟩, f1⟩, g2⟩, hs⟩ := hc
    have hx := of_decide_eq_true hx
    cases q : p.gen y with
    | none => rw [q] at h; cases h
    | some f =>
      rw [q] at h
      simp only [Option.map_eq_some_iff] at h
      obtain ⟨l, hl, rfl⟩ := h
      obtain ⟨fa, fd, ps, k, h1, h2, h3, h4, h5⟩ := hf.gen y f q
      have m1 : X.mg x = none := by rw [o.mg]; exact hf.free _ f1
      have gl := (o.gl g1).1
      have gl2 := o.gl g2
      have hs' := hs
      simp only [List.all_cons, Bool.and_eq_true] at hs'
      have F : GFn X.prog X.w X.K X.mg X.base k fa fd ps (spGen G (c.γ f)) := by rw [o.prog, o.w, o.gd.K, o.mg, o.base]; exact h5
      subst hx
      exact me_lgen (p.lv pos) F (o.room.mono (by omega)) gl m1 gl2.1 (by rw [o.mg]; exact h1) (by rw [o.gd.K]; exact h2) (by rw [o.gd.K]; exact h3) (args_ok ih o tk hl hs) gl2.2 (star_cons hs'.1) (star_plain hs'.2)
  · cases h
theorem stN_ok (hf : Fct P w G mg base n p c) (ih : IHE P w G mg base n c t) (o : Ok P w G mg base n X S) (tk : Takes X W) {x : Str} {pn pos : Pos} {args : List PySem.Expr} {me : Ex} (h : stN p t S x args = some me) :
    PE X (.Call (.Name x pn) args [] pos) (tE G W (evE c me)) := by
  cases args with
  | nil => cases h
  | cons a r =>
    simp only [stN] at h
    obtain ⟨hc, h⟩ := ite_some h
    simp only [Bool.and_eq_true] at hc
    obtain ⟨⟨hx, hg⟩, hs⟩ := hc
    simp only [Option.map_eq_some_iff] at h
    obtain ⟨l, hl, rfl⟩ := h
    obtain ⟨ca, fa, f, h1, h2, h3, h4, h5⟩ := hf.make x hx
    have hs' := hs
    simp only [List.all_cons, Bool.and_eq_true] at hs'
    exact me_make o.gd o.room tk h1 (by rw [o.gd.K]; exact h3) h4 (by rw [o.prog, o.w, o.gd.K, o.mg, o.base]; exact h5) (o.gl hg).1 (by rw [o.mg]; exact h2) (args_ok ih o tk hl (by simpa using hs)) (o.gl hg).2 (star_cons (by simpa using hs'.1)) (star_plain (by simpa using hs'.2))
theorem stO_ok (hf : Fct P w G mg base n p c) (ih : IHE P w G mg base n c t) (o : Ok P w G mg base n X S) (tk : Takes X W) {oe : PySem.Expr} {m : Str} {apos pos : Pos} {args : List PySem.Expr} {me : Ex} (h : stO p t S oe m apos args pos = some me) :
    PE X (.Call (.Attribute oe m apos) args [] pos) (tE G W (evE c me)) := by
  unfold stO at h
  obtain ⟨hc, h⟩ := ite_some h
  simp only [Bool.and_eq_true, decide_eq_true_eq] at hc
  obtain ⟨⟨⟨⟨h1, h2⟩, h3⟩, hs⟩, h4⟩ := hc
  obtain ⟨o', l, ho, hl, rfl⟩ := opt2_some h
  have pe := (ih S oe o' ho X W o tk).1
  have hm : ∀ C ca f, G.cls C = some ca → c.meth C m = some f → ∃ fa, Meth G.K ca m fa ∧ FnG G.gu X.prog X.w X.K X.mg X.base n fa (spM G (c.φ f)) := fun C ca f q1 q2 => by
    rw [o.prog, o.w, o.gd.K, o.mg, o.base]; exact hf.meth m h1 C ca f q1 q2
  have few : methodCallForm (args.length + ([] : List Keyword).length) (backTo pos (starEach args X.env)) (backToKw pos (keywordEach [] X.env)) = true := by
    unfold methodCallForm
    rw [star_not hs]
    show (true && true && decide (args.length + 0 + 0 < 30)) = true
    simp; omega
  cases args with
  | nil =>
    simp only [mapO, Option.some.injEq] at hl
    subst hl
    exact me_own0 o.gd (o.room.mono (Nat.le_succ _)) tk pe hf.cls hm (own_ht (base_ok h2) few h3)
  | cons a r =>
    have hs' := hs
    simp only [List.all_cons, Bool.and_eq_true] at hs'
    exact me_own o.gd (o.room.mono (Nat.le_succ _)) tk pe (args_ok ih o tk hl (by simpa using hs)) hf.cls hm (star_cons (by simpa using hs'.1)) (star_plain (by simpa using hs'.2)) (own_ht (base_ok h2) few h3)
theorem stLV_ok (hf : Fct P w G mg base n p c) (ih : IHE P w G mg base n c t) (o : Ok P w G mg base n X S) (tk : Takes X W) {elt tg iter : PySem.Expr} {ifs : List PySem.Expr} {scope : Scope} {pos : Pos} {me : Ex} (h : stLV p t S elt tg iter ifs scope pos = some me) :
    PE X (.ListComp elt [⟨tg, iter, ifs, 0⟩] scope pos) (tE G W (evE c me)) ∧ ∃ lv own g d cs e, me = .compv lv own g d cs e := by
  unfold stLV at h
  split at h
  · rename_i d m apos cpos
    obtain ⟨hc, h⟩ := ite_some h
    simp only [Bool.and_eq_true, decide_eq_true_eq] at hc
    obtain ⟨⟨⟨hb, hm⟩, hbs⟩, hl⟩ := hc
    cases qg : trG 5 ⟨S.N, relS scope S.sc, some scope⟩ tg with
    | none => rw [qg] at h; cases h
    | some g =>
      rw [qg] at h
      simp only at h
      obtain ⟨hsl, h⟩ := ite_some h
      have hsl' : ∀ i ∈ slotsG g, i ∈ (ownOf S.N scope).map (·.2) := fun i hi => of_decide_eq_true (List.all_eq_true.mp hsl i hi)
      cases qd : t S d with
      | none => rw [qd] at h; cases h
      | some d' =>
        rw [qd] at h
        simp only at h
        obtain ⟨hq, hfin⟩ := ite_some h
        have blk := fun s H C cl fp => o.blk hb s H C cl fp
        have pg := fun (s : Shared) (H : Hp) (C : Addr) (cl : List (Str × Addr)) (fp : List Addr) => tgt_ok (blk s H C cl fp) qg
        have bo : BlkOk X.N X.env.scope scope (ownOf S.N scope) := by rw [o.N, o.sc]; exact blk_ok hb
        subst hm
        have key := fun (e' : Ex) (tc : Exs) pt pe => me_compV (W := W) (tc := evC c tc) (me := evE c e') (elt := elt) (ifs := ifs) (pos := pos) o.gd (p.lv pos) (quiet_ok (c := c) hq) (ih S d d' qd X W o tk).1 (base_ok hbs) hl bo pg pt pe hsl'
        cases ifs with
        | nil =>
          simp only [Option.map_eq_some_iff] at hfin
          obtain ⟨e', he, rfl⟩ := hfin
          exact ⟨key e' .nil (fun s H C cl fp => mc_nil) (fun s H C cl fp => (ih _ elt e' he _ W0 (blk s H C cl fp) (takes0 _ _ _ _ _)).1), _, _, _, _, _, _, rfl⟩
        | cons cc r =>
          cases r with
          | nil =>
            obtain ⟨c', e', hcc, he, rfl⟩ := opt2_some hfin
            refine ⟨key e' (.cons c' .nil) (fun s H C cl fp => ?_) (fun s H C cl fp => (ih _ elt e' he _ W0 (blk s H C cl fp) (takes0 _ _ _ _ _)).1), _, _, _, _, _, _, rfl⟩
            have := mc_one (ih _ cc c' hcc _ W0 (blk s H C cl fp) (takes0 _ _ _ _ _)).2
            rw [← tst_end] at this
            exact this
          | cons _ _ => cases hfin
  · cases h
theorem stE_ok (hf : Fct P w G mg base n p c) (ih : IHE P w G mg base n c t) : IHE P w G mg base n c (stE p t) := by
  intro S e me h X W o tk
  cases e with
  | Name x pos =>
    simp only [stE] at h
    cases q : varOf S x with
    | some i =>
      rw [q] at h
      simp only [Option.some.injEq] at h
      subst h
      unfold varOf at q
      obtain ⟨hc, q⟩ := ite_some q
      simp only [Bool.and_eq_true, dunder, Bool.not_eq_true', Bool.or_eq_false_iff] at hc
      refine both o (me_var (by rw [o.N]; exact ixOf_get q) ?_ hc.2.1 hc.2.2) (fun _ => rfl)
      show X.env.scope.names.lookup x = _ ∨ X.env.scope.names.lookup x = _ ∨ X.env.scope.names.lookup x = _
      rw [o.sc]
      have hv := hc.1
      cases q : S.sc.names.lookup x with
      | none => rw [q] at hv; simp [visK] at hv
      | some k => rw [q] at hv; cases k <;> simp [visK] at hv ⊢
    | none =>
      rw [q] at h
      simp only at h
      obtain ⟨hg, h⟩ := ite_some h
      simp only [Option.map_eq_some_iff] at h
      obtain ⟨d, hd, rfl⟩ := h
      obtain ⟨v, u, h1, h2, h3⟩ := hf.con x d hd
      exact both o (me_con (pe_glob (o.gl hg).1 (by rw [o.mg]; exact h1) h2 (o.gl hg).2) h3) (fun _ => rfl)
  | Constant k j pos =>
    simp only [stE, Option.map_eq_some_iff] at h
    obtain ⟨d, hd, rfl⟩ := h
    cases k <;> simp only [conOf, Option.some.injEq] at hd <;> first
      | cases hd
      | skip
    · exact both o (me_con pe_non fun wd => by simp [RelD]) (fun _ => rfl)
    · exact both o (me_con pe_bl fun wd => by simp [RelD]) (fun _ => rfl)
    · exact both o (me_con pe_int fun wd => by simp [RelD]) (fun _ => rfl)
    · exact both o (me_con pe_str fun wd => by simp [RelD]) (fun _ => rfl)
  | BinOp a op b pos =>
    simp only [stE] at h
    cases q : bopOf op with
    | none => rw [q] at h; cases h
    | some bo =>
      rw [q] at h
      simp only at h
      obtain ⟨a', b', ha, hb, rfl⟩ := opt2_some h
      have eo := bopOf_ok q
      subst eo
      exact both o (me_op o.gd bo (p.lv pos) (ih S a a' ha X W o tk).1 (ih S b b' hb X W o tk).1) (fun _ => rfl)
  | UnaryOp op a pos =>
    simp only [stE] at h
    cases op with
    | Not =>
      simp only [Option.map_eq_some_iff] at h
      obtain ⟨a', ha, rfl⟩ := h
      obtain ⟨h1, h2⟩ := ih S a a' ha X W o tk
      refine ⟨me_not o.gd h1, ?_⟩
      have e1 : tst (evE c (.not a')) = fun E L => (tst (evE c a') E L).bind fun k L1 => .ok (!k) L1 := by
        rw [← tst_not]
        congr 1
      rw [e1]
      exact mt_not h2
    | USub =>
      simp only [Option.map_eq_some_iff] at h
      obtain ⟨a', ha, rfl⟩ := h
      exact both o (me_neg (ih S a a' ha X W o tk).1) (fun _ => rfl)
    | _ => cases h
  | Compare a ops bs pos =>
    simp only [stE] at h
    split at h
    · rename_i op b
      obtain ⟨hs, h⟩ := ite_some h
      obtain ⟨a', b', ha, hb, rfl⟩ := opt2_some h
      have pa := (ih S a a' ha X W o tk).1
      have pb := (ih S b b' hb X W o tk).1
      have k1 := me_cmp (pos := pos) o.gd (copOf op) pa pb (set_marks hs)
      have k2 := mt_cmp (pos := pos) o.gd (copOf op) pa pb (set_marks hs)
      rw [copOf_ok] at k1 k2
      refine ⟨k1, ?_⟩
      rw [← tst_cmp (cmpD (copOf op))] at k2
      exact k2
    · rename_i op op' b cc
      obtain ⟨hs, h⟩ := ite_some h
      cases qa : t S a with
      | none => rw [qa] at h; cases h
      | some a' =>
        rw [qa] at h
        simp only at h
        obtain ⟨b', c', hb, hc, rfl⟩ := opt2_some h
        have pa := (ih S a a' qa X W o tk).1
        have pb := (ih S b b' hb X W o tk).1
        have pc := (ih S cc c' hc X W o tk).1
        have lm : lastMarks [copM (copOf op), copM (copOf op')] [b, cc] = false := set_marks hs
        have k1 := me_chn (pos := pos) o.gd (copOf op) (copOf op') pa pb pc lm
        have k2 := mt_chn (pos := pos) o.gd (copOf op) (copOf op') pa pb pc lm
        rw [copOf_ok, copOf_ok] at k1 k2
        refine ⟨k1, ?_⟩
        rw [← tst_chn] at k2
        exact k2
    · cases h
  | BoolOp op es pos =>
    simp only [stE] at h
    cases q : mapO (t S) es with
    | none => rw [q] at h; cases h
    | some l =>
      rw [q] at h
      obtain ⟨h1, h2⟩ := bool_ok ih o tk (pos := pos) q h
      exact ⟨h1, h2.pt⟩
  | IfExp cc a b pos =>
    simp only [stE] at h
    cases q : t S cc with
    | none => rw [q] at h; cases h
    | some c' =>
      rw [q] at h
      simp only at h
      obtain ⟨a', b', ha, hb, rfl⟩ := opt2_some h
      obtain ⟨_, hc⟩ := ih S cc c' q X W o tk
      obtain ⟨ha1, ha2⟩ := ih S a a' ha X W o tk
      obtain ⟨hb1, hb2⟩ := ih S b b' hb X W o tk
      have e0 : evE c (.ite c' a' b') = fun E L => (tst (evE c c') E L).bind fun k L1 => if k then evE c a' E L1 else evE c b' E L1 := by
        funext E L
        show _ = ((evE c c' E L).bind _).bind _
        rw [Res.bind_assoc]
        rfl
      rw [e0]
      refine ⟨me_ite hc ha1 hb1, ?_⟩
      rw [tst_ite]
      exact mt_ite hc ha2 hb2
  | Tuple es k pos =>
    simp only [stE] at h
    split at h
    · rename_i hs
      simp only [Option.map_eq_some_iff] at h
      obtain ⟨l, hl, rfl⟩ := h
      exact both o (me_tup (args_ok ih o tk hl hs)) (fun _ => rfl)
    · simp only [Option.map_eq_some_iff] at h
      obtain ⟨l, hl, rfl⟩ := h
      exact both o (me_tup (stSt_ok ih o tk hl)) (fun _ => rfl)
  | List es pos =>
    simp only [stE] at h
    split at h
    · rename_i hs
      simp only [Option.map_eq_some_iff] at h
      obtain ⟨l, hl, rfl⟩ := h
      exact both o (me_lst (p.lv pos) (args_ok ih o tk hl hs)) (fun _ => rfl)
    · simp only [Option.map_eq_some_iff] at h
      obtain ⟨l, hl, rfl⟩ := h
      exact both o (me_lst (p.lv pos) (stSt_ok ih o tk hl)) (fun _ => rfl)
  | Attribute a f pos =>
    simp only [stE] at h
    obtain ⟨hc, h⟩ := ite_some h
    rw [Bool.and_eq_true] at hc
    simp only [Option.map_eq_some_iff] at h
    obtain ⟨a', ha, rfl⟩ := h
    exact both o (me_fld o.gd (ih S a a' ha X W o tk).1 (base_ok hc.2) fun C ca q => ⟨hf.cls C ca q, hf.fld f hc.1 C ca q⟩) (fun _ => rfl)
  | Dict ks vs pos =>
    simp only [stE] at h
    split at h
    · split at h
      · simp only [Option.some.injEq] at h
        subst h
        exact both o me_dic0 (fun _ => rfl)
      · simp only [Option.some.injEq] at h
        subst h
        exact both o me_dct0 (fun _ => rfl)
    · split at h
      · cases h
      · simp only [Option.map_eq_some_iff] at h
        obtain ⟨i, hi, rfl⟩ := h
        exact both o (me_dct1 (var_ok o hi)) (fun _ => rfl)
    · cases h
  | Subscript a b pos =>
    simp only [stE] at h
    split at h
    · simp only [Option.map_eq_some_iff] at h
      obtain ⟨a', ha, rfl⟩ := h
      exact both o (me_rev o.gd (p.lv pos) (ih S a a' ha X W o tk).1) (fun _ => rfl)
    · rename_i lo hi p2
      cases qa : t S a with
      | none => rw [qa] at h; cases h
      | some a' =>
        rw [qa] at h
        simp only at h
        obtain ⟨l, u, hl, hu, rfl⟩ := opt2_some h
        obtain ⟨m1, p1, e1⟩ := part_ok ih o tk hl
        obtain ⟨m2, p2', e2⟩ := part_ok ih o tk hu
        have key := me_slc (pos := pos) (p2 := p2) o.gd (p.lv pos) (ih S a a' qa X W o tk).1 p1 p2'
        refine both o ?_ (fun _ => rfl)
        have e0 : evE c (.slc (p.lv pos) a' l u) = fun E L => (evE c a' E L).bind fun x L1 => (mPart m1 E L1).bind fun l L2 => (mPart m2 E L2).bind fun h L3 => opt (slcP (p.lv pos) x l h L3) := by
          funext E L
          simp only [evE]
          congr 1
          funext x L1
          rw [e1]
          congr 1
          funext l L2
          rw [e2]
        rw [e0]
        exact key
    · obtain ⟨hs, h⟩ := ite_some h
      obtain ⟨a', b', ha, hb, rfl⟩ := opt2_some h
      exact both o (me_ix o.gd (ih S a a' ha X W o tk).1 (ih S b b' hb X W o tk).1 (slice_ok hs)) (fun _ => rfl)
  | Call f args kws pos =>
    simp only [stE] at h
    cases kws with
    | cons kw kr =>
      cases kr with
      | cons _ _ => cases kw with | mk kn d kp => cases kn <;> cases h
      | nil =>
        cases kw with
        | mk kn d kp =>
          cases kn with
          | none => cases h
          | some kn =>
            simp only at h
            cases f with
            | Name x pn => exact both o (stX_ok hf ih o tk h) (fun _ => rfl)
            | _ => cases h
    | nil =>
      simp only at h
      cases f with
      | Name x pn =>
        cases q : stR p t S x args pos with
        | some e =>
          simp only [q, Option.some.injEq] at h
          subst h
          exact both o (stR_ok hf ih o tk q) (fun _ => rfl)
        | none =>
          simp only [q] at h
          cases q2 : stV p t S x args pos with
          | some e =>
            simp only [q2, Option.some.injEq] at h
            subst h
            exact both o (stV_ok hf ih o tk q2) (fun _ => rfl)
          | none =>
            simp only [q2] at h
            cases q3 : stN p t S x args with
            | some e =>
              simp only [q3, Option.some.injEq] at h
              subst h
              exact both o (stN_ok hf ih o tk q3) (fun _ => rfl)
            | none =>
              simp only [q3] at h
              cases q4 : stQ p t S x args pos with
              | some e =>
                simp only [q4, Option.some.injEq] at h
                subst h
                exact both o (stQ_ok hf ih o tk q4) (fun _ => rfl)
              | none =>
                simp only [q4] at h
                exact both o (stC_ok hf ih o tk h) (fun _ => rfl)
      | Attribute oe m apos =>
        cases q : stO p t S oe m apos args pos with
        | some e =>
          simp only [q, Option.some.injEq] at h
          subst h
          exact both o (stO_ok hf ih o tk q) (fun _ => rfl)
        | none =>
          simp only [q] at h
          exact both o (stM_ok hf ih o tk h) (fun _ => rfl)
      | _ => cases h
  | ListComp elt gens scope pos =>
    simp only [stE] at h
    split at h
    · rename_i tg iter ifs a
      split at h
      · rename_i ea
        subst ea
        refine both o ?_ (fun _ => rfl)
        cases qL : stL p t S elt tg iter ifs scope pos with
        | none =>
          simp only [qL] at h
          cases qK : stK p S elt tg iter ifs scope pos with
          | some e =>
            simp only [qK, Option.some.injEq] at h
            subst h
            exact stK_ok hf o qK
          | none =>
            simp only [qK] at h
            exact (stLV_ok hf ih o tk h).1
        | some e0 =>
        simp only [qL, Option.some.injEq] at h
        subst h
        obtain ⟨lv, g, it, tc, e', rfl, hb, hs, pi, pg, pt, pe, sl⟩ := stL_ok hf ih o tk qL
        have bo : BlkOk X.N X.env.scope scope (ownOf S.N scope) := by rw [o.N, o.sc]; exact blk_ok hb
        exact peImp (pe_lc o.gd.calm o.gd.nd pi bo pg pt pe (set_folded hs)) fun σ H Q hw => me_comp o.gd lv pi bo pg pt pe sl hw
      · cases h
    · rename_i tg iter ifs a tg1 iter1 ifs1 a1
      split at h
      · rename_i ea
        obtain ⟨ea, ea1, ei⟩ := ea
        subst ea
        subst ea1
        subst ei
        obtain ⟨lv, g, it, g1, it1, tc1, e', rfl, hb, hs, hs1, pi, pg, pi1, pg1, pt1, pe, sl, sl1⟩ := stL2_ok hf ih o tk h
        refine both o ?_ (fun _ => rfl)
        have bo : BlkOk X.N X.env.scope scope (ownOf S.N scope) := by rw [o.N, o.sc]; exact blk_ok hb
        exact peImp (pe_lc2 (vs1 := slotsG g1) o.gd.calm o.gd.nd pi bo sl1 pg (fun _ _ _ _ _ => mc_nil) pi1 pg1 pt1 pe (set_folded hs) (fun _ => set_folded hs1)) fun σ H Q hw => me_comp2 lv sl (fun i hi => hi) hw
      · cases h
    · cases h
  | _ => cases h
theorem trE_ok (hf : Fct P w G mg base n p c) : ∀ m : Nat, IHE P w G mg base n c (trE p m)
  | 0 => fun S e me h => by cases h
  | m + 1 => fun S e me h => stE_ok hf (trE_ok hf m) S e me h
end
end MP
set_option maxHeartbeats 4000000
/-! MP: statements, translated -/
namespace MP
open PySem PySem.Spec PyProof.Rows L2
def notComp : PySem.Expr → Bool | .ListComp _ _ _ _ => false | .SetComp _ _ _ _ => false | .DictComp _ _ _ _ _ => false | _ => true
def isTupE : PySem.Expr → Bool | .Tuple _ _ _ => true | _ => false
def sssOf : List St → Ss
  | [] => .nil
  | s :: ss => .cons s (sssOf ss)
def sw2 (S : Stc) (x : Str) (px : Pos) (y : Str) (py : Pos) (a b : PySem.Expr) : Bool :=
  decide (S.sc.names.lookup x = some .local) && decide (S.sc.names.lookup y = some .local) && (py.line == px.line) && !(decide (x = y)) && notStar a && notStar b && !([a, b].all (foldedForSure 8)) && !([a, b].all (constantsAlone 8))
def sw3 (S : Stc) (x : Str) (px : Pos) (y : Str) (py : Pos) (z : Str) (pz : Pos) (a b d : PySem.Expr) : Bool :=
  decide (S.sc.names.lookup x = some .local) && decide (S.sc.names.lookup y = some .local) && decide (S.sc.names.lookup z = some .local) && (py.line == px.line) && (pz.line == px.line) && !(decide (x = y)) && !(decide (x = z)) && !(decide (y = z)) && notStar a && notStar b && notStar d && !([a, b, d].all (foldedForSure 8)) && !([a, b, d].all (constantsAlone 8))
theorem notStar_any {vs : List PySem.Expr} (h : vs.all notStar = true) : (vs.any fun | .Starred .. => true | _ => false) = false := by
  induction vs with
  | nil => rfl
  | cons a r ih =>
    simp only [List.all_cons, Bool.and_eq_true] at h
    rw [List.any_cons, ih h.2]
    cases a <;> first | rfl | (simp [notStar] at h)
theorem sw2_ok {S : Stc} {x y : Str} {px py pt pt2 : Pos} {kt k2 : Nat} {a b : PySem.Expr} {env : Env} (h : sw2 S x px y py a b = true) (hs : env.scope = S.sc) (hk : env.scope.kind = .function) :
    swappedStores [.Tuple [.Name x px, .Name y py] kt pt] (.Tuple [a, b] k2 pt2) env = pure (some [x, y]) := by
  simp only [sw2, Bool.and_eq_true, decide_eq_true_eq, Bool.not_eq_true', decide_eq_false_iff_not] at h
  obtain ⟨⟨⟨⟨⟨⟨⟨h1, h2⟩, h3⟩, h4⟩, h5⟩, h6⟩, h7⟩, h8⟩ := h
  have bk : env.blockKind = .function := by unfold Env.blockKind; rw [hk]; rfl
  have kx : env.kindOf x = some .local := by show env.scope.names.lookup x = _; rw [hs]; exact h1
  have ky : env.kindOf y = some .local := by show env.scope.names.lookup y = _; rw [hs]; exact h2
  have ha := notStar_any (vs := [a, b]) (by simp [h5, h6])
  have h3' : py.line = px.line := by simpa using h3
  have hyx : ¬ y = x := fun z => h4 z.symm
  have ed : [x, y].eraseDups = [x, y] := by simp [List.eraseDups_cons, hyx]
  unfold swappedStores
  simp only [List.length_cons, List.length_nil, bk, List.head?_cons, Option.map_some, Expr.pos, Option.getD_some, List.filterMap_cons, List.filterMap_nil, kx, ky, h3', h7, h8, beq_self_eq_true, Bool.and_self, if_true, ed]
  rw [if_neg (by decide)]
  refine (if_neg fun hh => ?_).trans rfl
  have hh' := ha.symm.trans hh
  cases hh'
theorem sw3_ok {S : Stc} {x y z : Str} {px py pz pt pt2 : Pos} {kt k2 : Nat} {a b d : PySem.Expr} {env : Env} (h : sw3 S x px y py z pz a b d = true) (hs : env.scope = S.sc) (hk : env.scope.kind = .function) :
    swappedStores [.Tuple [.Name x px, .Name y py, .Name z pz] kt pt] (.Tuple [a, b, d] k2 pt2) env = pure (some [x, y, z]) := by
  simp only [sw3, Bool.and_eq_true, decide_eq_true_eq, Bool.not_eq_true', decide_eq_false_iff_not] at h
  obtain ⟨⟨⟨⟨⟨⟨⟨⟨⟨⟨⟨⟨h1, h2⟩, h3⟩, h4⟩, h5⟩, h6⟩, h7⟩, h8⟩, h9⟩, h10⟩, h11⟩, h12⟩, h13⟩ := h
  have bk : env.blockKind = .function := by unfold Env.blockKind; rw [hk]; rfl
  have kx : env.kindOf x = some .local := by show env.scope.names.lookup x = _; rw [hs]; exact h1
  have ky : env.kindOf y = some .local := by show env.scope.names.lookup y = _; rw [hs]; exact h2
  have kz : env.kindOf z = some .local := by show env.scope.names.lookup z = _; rw [hs]; exact h3
  have ha := notStar_any (vs := [a, b, d]) (by simp [h9, h10, h11])
  have h4' : py.line = px.line := by simpa using h4
  have h5' : pz.line = px.line := by simpa using h5
  have hyx : ¬ y = x := fun q => h6 q.symm
  have hzx : ¬ z = x := fun q => h7 q.symm
  have hzy : ¬ z = y := fun q => h8 q.symm
  have ed : [x, y, z].eraseDups = [x, y, z] := by simp [List.eraseDups_cons, hyx, hzx, hzy]
  unfold swappedStores
  simp only [List.length_cons, List.length_nil, bk, List.head?_cons, Option.map_some, Expr.pos, Option.getD_some, List.filterMap_cons, List.filterMap_nil, kx, ky, kz, h4', h5', h12, h13, beq_self_eq_true, Bool.and_self, if_true, ed]
  rw [if_neg (by decide)]
  refine (if_neg fun hh => ?_).trans rfl
  have hh' := ha.symm.trans hh
  cases hh'
/-- the plain names among targets, as the model counts them -/
def swNames (sc : Scope) (ts : List PySem.Expr) : List Str := ts.filterMap fun
    | .Name id pos => if sc.names.lookup id == some .local && pos.line == (ts.head?.map (·.pos.line)).getD 0 then some id else none
    | _ => none
/-- no pair of tuples whose stores are swapped -/
def swNo (S : Stc) (tg e : PySem.Expr) : Bool := match tg, e with
  | .Tuple ts _ _, .Tuple vs _ _ => !(ts.length == 2 || ts.length == 3) || (vs.all notStar && ((swNames S.sc ts).length != ts.length || vs.all (foldedForSure 8)))
  | .List _ _, .Tuple _ _ _ => false
  | _, _ => true
theorem swNo_tup {S : Stc} {ts vs : List PySem.Expr} {k1 k2 : Nat} {p1 p2 : Pos} {env : Env} (hs : env.scope = S.sc) (h : (!(ts.length == 2 || ts.length == 3) || (vs.all notStar && ((swNames S.sc ts).length != ts.length || vs.all (foldedForSure 8)))) = true) : swappedStores [.Tuple ts k1 p1] (.Tuple vs k2 p2) env = pure none := by
  have en : (ts.filterMap fun
    | .Name id pos => if env.kindOf id == some .local && pos.line == (ts.head?.map (·.pos.line)).getD 0 then some id else none
    | _ => none) = swNames S.sc ts := by
    unfold swNames Env.kindOf
    rw [hs]
  unfold swappedStores
  simp only [Bool.or_eq_true, Bool.and_eq_true] at h
  by_cases c1 : (!(ts.length == 2 || ts.length == 3)) = true
  · simp only [c1, Bool.true_or, if_true]
  · obtain ⟨h1, h2⟩ := h.resolve_left c1
    have ha := notStar_any h1
    dsimp only
    split
    · rfl
    · refine (if_neg fun hh => ?_).trans ?_
      · have hh' := ha.symm.trans hh
        cases hh'
      · rcases h2 with h2 | h2
        · split
          · rfl
          · rename_i hc
            exfalso
            refine hc ?_
            have e2 := congrArg List.length en
            refine (Bool.or_eq_true _ _).mpr (.inl ?_)
            exact (congrArg (fun z : Nat => z != ts.length) e2).trans h2
        · split
          · rfl
          · first | rfl | rw [if_pos h2]
theorem swNo_ok {S : Stc} {tg e : PySem.Expr} {env : Env} (hs : env.scope = S.sc) (h : swNo S tg e = true) : swappedStores [tg] e env = pure none := by
  cases tg with
  | Tuple ts k p1 =>
    cases e with
    | Tuple vs k2 p2 => exact swNo_tup hs h
    | _ => rfl
  | List ts p1 =>
    cases e with
    | Tuple vs k2 p2 => simp [swNo] at h
    | _ => rfl
  | _ => cases e <;> rfl
/-- a comprehension whose value is kept by a name that the block may not take -/
def swComp (S : Stc) (x : Str) (px pos : Pos) (scope : Scope) : Bool := (px.line == pos.line) && decide (S.sc.names.lookup x = some .local) && !(scope.names.any fun (n, k) => n == x && (k == .local || k == .cell))
theorem swComp_no {S : Stc} {x : Str} {px pos : Pos} {scope : Scope} {elt : PySem.Expr} {gens : List Comprehension} {l : Nat} {env : Env} (hs : env.scope = S.sc) (hk : env.scope.kind = .function) (h : swComp S x px pos scope = false) : swapsWithSole [.Name x px] (.ListComp elt gens scope pos) l env = pure false := by
  have bk : env.blockKind = .function := by unfold Env.blockKind; rw [hk]; rfl
  have kx : env.kindOf x = S.sc.names.lookup x := by show env.scope.names.lookup x = _; rw [hs]
  unfold swapsWithSole swapsWith
  dsimp only
  rw [bk, kx]
  refine congrArg pure ?_
  rw [← h]
  unfold swComp
  have e1 : (S.sc.names.lookup x == some NameKind.local) = decide (S.sc.names.lookup x = some .local) := by rw [Bool.eq_iff_iff]; simp
  rw [e1]
  rw [show (PySem.Expr.ListComp elt gens scope pos).pos = pos from rfl]
  cases decide (S.sc.names.lookup x = some .local) <;> cases (px.line == pos.line) <;> rfl
theorem swapsNo {e : PySem.Expr} {tgt : Option PySem.Expr} {l : Nat} {env : Env} (h : notComp e = true) : swapsWith e tgt l env = pure false := by
  cases e <;> first | rfl | (simp [notComp] at h)
end MP
set_option maxHeartbeats 4000000
/-! MP: the translation of statements -/
namespace MP
open PySem PySem.Spec PyProof.Rows L2
def notSl : PySem.Expr → Bool | .Slice _ _ _ _ => false | _ => true
def noTks : Option Ex → Option Ex | some (.tks _ _ _ _) => none | some (.compv _ _ _ _ _ _) => none | x => x
theorem noTks_some {o : Option Ex} {e : Ex} (h : noTks o = some e) : o = some e ∧ (∀ lv i ik iv, e ≠ .tks lv i ik iv) ∧ ∀ lv own g d cs x, e ≠ .compv lv own g d cs x := by
  cases o with
  | none => cases h
  | some x =>
    cases x <;> first
      | (simp [noTks] at h; done)
      | (simp only [noTks, Option.some.injEq] at h; subst h; exact ⟨rfl, by intros; simp, by intros; simp⟩)
theorem stK_shape {p : Par} {S : Stc} {elt tg iter : PySem.Expr} {ifs : List PySem.Expr} {scope : Scope} {pos : Pos} {e : Ex} (h : stK p S elt tg iter ifs scope pos = some e) : ∃ lv i ik iv, e = .tks lv i ik iv := by
  unfold stK at h
  split at h
  · split at h
    · split at h
      · split at h
        · simp only [Option.some.injEq] at h
          exact ⟨_, _, _, _, h.symm⟩
        · cases h
      · cases h
    · cases h
  · cases h
section
variable (p : Par) (te : Stc → PySem.Expr → Option Ex) (ts : Stc → PySem.Stmt → Option St)
def stA (S : Stc) (tg e : PySem.Expr) : Option St :=
  match tg with
  | .Name x px =>
    if notComp e then opt2 (slotOf S x) (te S e) fun i e' => .asg (.nm (.slot i)) e'
    else match e with
      | .ListComp elt gens scope pos => opt2 (slotOf S x) (noTks (te S (.ListComp elt gens scope pos))) fun i e' => .asg (.nm (.slot i)) e'
      | _ => none
  | .Tuple tgs k pt =>
    if notComp e && swNo S (.Tuple tgs k pt) e then opt2 (trG 5 S (.Tuple tgs k pt)) (te S e) fun g e' => .asg (.nm g) e'
    else match tgs, e with
      | [.Name x px, .Name y py], .Tuple [a, b] _ _ => if sw2 S x px y py a b then
          match ixOf x S.N, ixOf y S.N with
          | some i, some j => (mapO (te S) [a, b]).map fun l => .par [i, j] (exsOf l)
          | _, _ => none
        else none
      | [.Name x px, .Name y py, .Name z pz], .Tuple [a, b, d] _ _ => if sw3 S x px y py z pz a b d then
          match ixOf x S.N, ixOf y S.N, ixOf z S.N with
          | some i, some j, some k => (mapO (te S) [a, b, d]).map fun l => .par [i, j, k] (exsOf l)
          | _, _, _ => none
        else none
      | _, _ => none
  | .Subscript o i _ => if notComp e && notSl i then match te S o with | some o' => opt2 (te S i) (te S e) fun i' e' => .asg (.sub o' i') e' | none => none else none
  | .Attribute o f _ => if p.fld f && notComp e then opt2 (te S o) (te S e) fun o' e' => .asg (.fld o' f) e' else none
  | _ => none
/-- the cases of a match on a name -/
def stMc (S : Stc) (i : Nat) : List MatchCase → Option Ss
  | [] => some .nil
  | ⟨.MatchAs none none _, none, body⟩ :: _ => (mapO (ts S) body).map sssOf
  | ⟨.MatchValue ce _, none, body⟩ :: rest => match te S ce with
    | some (.con (.str z)) => opt2 (mapO (ts S) body) (stMc S i rest) fun b r => .cons (.ite (.cmp .eq (.var i) (.con (.str z))) (sssOf b) r) .nil
    | _ => none
  | _ => none
def stMt (S : Stc) (x : Str) (cs : List MatchCase) : St := match varOf S x with
  | some i => match stMc te ts S i cs with
    | some ss => .ite (.con (.bl true)) (.cons (.ex (.var i)) ss) .nil
    | none => .nev
  | none => .nev
def stS (S : Stc) : PySem.Stmt → Option St
  | .Expr e _ => match e with
    | .Constant (.str _) _ _ => some .pas
    | e => if notComp e then (te S e).map .ex else none
  | .Return e _ => match e with | none => some .retN | some e => (te S e).map .ret
  | .If k a b _ => match te S k with | some k' => opt2 (mapO (ts S) a) (mapO (ts S) b) fun a' b' => .ite k' (sssOf a') (sssOf b') | none => none
  | .For tg iter body orelse _ => match orelse with
    | [] => if notSet iter then match trG 5 S tg with
        | some g => opt2 (stI p te S (isTup tg) iter) (mapO (ts S) body) fun it b => .for_ g it (sssOf b)
        | none => none
      else none
    | _ => none
  | .While k body orelse _ => match orelse with
    | [] => opt2 (te S k) (mapO (ts S) body) fun k' b => .whl k' (sssOf b)
    | _ => none
  | .Break _ => some .brk
  | .Continue _ => some .cnt
  | .Pass _ => some .pas
  | .Assign tgs e _ => match tgs with | [tg] => stA p te S tg e | _ => none
  | .AugAssign tg op e _ => match tg with
    | .Name x _ => match op with
      | .Add => opt2 (slotOf S x) (te S e) fun i e' => .aug i .add e'
      | .Sub => opt2 (slotOf S x) (te S e) fun i e' => .aug i .sub e'
      | _ => none
    | _ => none
  | .Delete tgs _ => match tgs with
    | [.Subscript o i _] => opt2 (te S o) (te S i) .del
    | _ => none
  | .Raise _ _ _ => some .nev
  | .Try _ _ _ _ _ => some .nev
  | .Match e cs _ => match e with | .Name x _ => some (stMt te ts S x cs) | _ => some .nev
  | _ => none
end
def trS (p : Par) : Nat → Stc → PySem.Stmt → Option St
  | 0, _, _ => none
  | n + 1, S, s => stS p (trE p 60) (trS p n) S s
def trSs (p : Par) (S : Stc) (b : List PySem.Stmt) : Option Ss := (mapO (trS p 30 S) b).map sssOf

section
variable {P : Program} {w : World} {G : Gv} {mg : Str → Option Value} {base : Heap} {n : Nat} {p : Par} {c : Cxt} {te : Stc → PySem.Expr → Option Ex} {ts : Stc → PySem.Stmt → Option St} {X : Cx} {S : Stc} {W : WX}
def IHS (P : Program) (w : World) (G : Gv) (mg : Str → Option Value) (base : Heap) (n : Nat) (c : Cxt) (ts : Stc → PySem.Stmt → Option St) : Prop :=
  ∀ S e me, ts S e = some me → ∀ X W, Ok P w G mg base n X S → Takes X W → PassesOwn (model X.prog X.w) X.A X.env X.xe → PS X e (tS G W (evS c me))
theorem block_ok (ih : IHS P w G mg base n c ts) (o : Ok P w G mg base n X S) (tk : Takes X W) (hp : PassesOwn (model X.prog X.w) X.A X.env X.xe) : ∀ {b : List PySem.Stmt} {l : List St}, mapO (ts S) b = some l → PSs X b (tS G W (evSs c (sssOf l)))
  | [], l, h => by simp only [mapO, Option.some.injEq] at h; subst h; exact mss_nil
  | s :: b, l, h => by
    simp only [mapO] at h
    cases q : ts S s with
    | none => rw [q] at h; cases h
    | some a =>
      rw [q] at h
      cases q2 : mapO (ts S) b with
      | none => rw [q2] at h; cases h
      | some r =>
        rw [q2] at h
        simp only [Option.some.injEq] at h
        subst h
        exact mss_cons (ih S s a q X W o tk hp) (block_ok ih o tk hp q2)
theorem storeT_ends (g : Tgt) (d : D) (E : Ev) (L : Live) (r : SRes) (h : storeT c g d E L = r) : (∃ E' L', r = .fl .nx E' L') ∨ (∃ C fs E' L', r = .exc C fs E' L') ∨ r = .stuck := by
  have of_ : ∀ {α : Type} (m : Res α) (k : α → Live → SRes), (∀ a L, (∃ E' L', k a L = .fl .nx E' L') ∨ (∃ C fs E' L', k a L = .exc C fs E' L') ∨ k a L = .stuck) → (∃ E' L', SRes.of m E k = .fl .nx E' L') ∨ (∃ C fs E' L', SRes.of m E k = .exc C fs E' L') ∨ SRes.of m E k = .stuck := fun {α} m k hk => by
    cases m with
    | ok a L => exact hk a L
    | exc C fs L => exact .inr (.inl ⟨_, _, _, _, rfl⟩)
    | stuck => exact .inr (.inr rfl)
  subst h
  cases g with
  | nm g =>
    simp only [storeT]
    cases storeG g d E with
    | none => exact .inr (.inr rfl)
    | some E' => exact .inl ⟨_, _, rfl⟩
  | sub o i =>
    simp only [storeT]
    refine of_ _ _ fun x L1 => of_ _ _ fun y L2 => ?_
    cases setD x y d L2 with
    | none => exact .inr (.inr rfl)
    | some L3 => exact .inl ⟨_, _, rfl⟩
  | fld o f =>
    simp only [storeT]
    refine of_ _ _ fun x L1 => ?_
    split
    · split
      · split
        · exact .inl ⟨_, _, rfl⟩
        · exact .inr (.inr rfl)
      · exact .inr (.inr rfl)
    · exact .inr (.inr rfl)
theorem swapsSole {tg e : PySem.Expr} {l : Nat} {env : Env} (h : notComp e = true) : swapsWithSole [tg] e l env = pure false := by
  unfold swapsWithSole
  exact swapsNo h
theorem stA_ok (hf : Fct P w G mg base n p c) {m : Nat} (o : Ok P w G mg base n X S) (tk : Takes X W) {tg e : PySem.Expr} {pos : Pos} {ms : St} (h : stA p (trE p m) S tg e = some ms) : PS X (.Assign [tg] e pos) (tS G W (evS c ms)) := by
  have ih := trE_ok hf m
  have pe := fun (e : PySem.Expr) (me : Ex) (h : trE p m S e = some me) => (ih S e me h X W o tk).1
  cases tg with
  | Name x px =>
    simp only [stA] at h
    split at h
    · rename_i hc
      obtain ⟨i, e', hi, he, rfl⟩ := opt2_some h
      obtain ⟨h1, h2, h3⟩ := o.slot hi
      exact ms_asg (pe e e' he) (mg_names (mg_slot o.gd h1 h2 h3)) (fun d E L r hr => storeT_ends (.nm (.slot i)) d E L r hr) (swapsSole hc) (swNo_ok o.sc (by cases e <;> rfl)) rfl
    · rename_i hc
      split at h
      · rename_i elt gens scope p2
        obtain ⟨i, e', hi, he, rfl⟩ := opt2_some h
        have hn := noTks_some he
        clear he
        obtain ⟨he, hnt, hnv⟩ := hn
        obtain ⟨h1, h2, h3⟩ := o.slot hi
        by_cases hcs : swComp S x px p2 scope = true
        case neg =>
          exact ms_asg (pe _ e' he) (mg_names (mg_slot o.gd h1 h2 h3)) (fun d E L r hr => storeT_ends (.nm (.slot i)) d E L r hr) (swComp_no o.sc o.kind (by simpa using hcs)) rfl rfl
        simp only [swComp, Bool.and_eq_true, decide_eq_true_eq, Bool.not_eq_true'] at hcs
        obtain ⟨⟨c1, c2⟩, c3⟩ := hcs
        cases m with
        | zero => cases he
        | succ m =>
          simp only [trE, stE] at he
          split at he
          · rename_i tg iter ifs a
            split at he
            · rename_i ea
              subst ea
              cases qL : stL p (trE p m) S elt tg iter ifs scope p2 with
              | none =>
                simp only [qL] at he
                cases qK : stK p S elt tg iter ifs scope p2 with
                | some e0 =>
                  simp only [qK, Option.some.injEq] at he
                  obtain ⟨_, _, _, _, z⟩ := stK_shape qK
                  exact absurd (he ▸ z) (hnt _ _ _ _)
                | none =>
                  simp only [qK] at he
                  obtain ⟨_, _, _, _, _, _, _, z⟩ := stLV_ok hf (trE_ok hf m) o tk he
                  exact absurd z (hnv _ _ _ _ _ _)
              | some e0 =>
              simp only [qL, Option.some.injEq] at he
              subst he
              obtain ⟨lv, g, it, tc, e2, rfl, hb, hs, pi, pg, pt, pe, sl⟩ := stL_ok hf (trE_ok hf m) o tk qL
              have bo : BlkOk X.N X.env.scope scope (ownOf S.N scope) := by rw [o.N, o.sc]; exact blk_ok hb
              have hyl : X.env.scope.names.lookup x = some .local := by rw [o.sc]; exact c2
              have key := ps_setLc (i := i) (spos := pos) o.gd.calm o.gd.nd h1 hyl (sw_true o.kind hyl c1 c3) pi bo pg pt pe (set_folded hs)
              refine psImp key fun D σ H ⟨wd, E, L, rs, w, run⟩ => ?_
              refine me_comp o.gd lv pi bo pg pt pe sl (Q := fun v H1 => D.nx (σ.set i (some v)) H1) ⟨wd, E, L, rs, w, (RunS.of rs run).imp fun v H1 ⟨wd1, d, L1, e1, w1, r1, run1⟩ => ?_⟩
              simp only [storeT, storeG] at run1
              split at run1
              · rename_i E' hE
                split at hE
                · cases hE
                  exact run1 wd1 _ H1 (Ext.refl _) w1 ((rs.ext e1).set i r1)
                · cases hE
              · exact False.elim run1
            · cases he
          · rename_i tg iter ifs a tg1 iter1 ifs1 a1
            split at he
            · rename_i ea
              obtain ⟨ea, ea1, ei⟩ := ea
              subst ea
              subst ea1
              subst ei
              obtain ⟨lv, g, it, g1, it1, tc1, e2, rfl, hb, hs, hs1, pi, pg, pi1, pg1, pt1, pe, sl, sl1⟩ := stL2_ok hf (trE_ok hf m) o tk he
              have bo : BlkOk X.N X.env.scope scope (ownOf S.N scope) := by rw [o.N, o.sc]; exact blk_ok hb
              have hyl : X.env.scope.names.lookup x = some .local := by rw [o.sc]; exact c2
              have key := ps_setLc2 (i := i) (spos := pos) (vs1 := slotsG g1) (tt := tT G W0 (evC c .nil)) o.gd.calm o.gd.nd h1 hyl (sw_true o.kind hyl c1 c3) pi bo sl1 pg (fun _ _ _ _ _ => mc_nil) pi1 pg1 pt1 pe (set_folded hs) (fun _ => set_folded hs1)
              refine psImp key fun D σ H ⟨wd, E, L, rs, w, run⟩ => ?_
              refine me_comp2 lv sl (fun i hi => hi) (Q := fun v H1 => D.nx (σ.set i (some v)) H1) ⟨wd, E, L, rs, w, (RunS.of rs run).imp fun v H1 ⟨wd1, d, L1, e1, w1, r1, run1⟩ => ?_⟩
              simp only [storeT, storeG] at run1
              split at run1
              · rename_i E' hE
                split at hE
                · cases hE
                  exact run1 wd1 _ H1 (Ext.refl _) w1 ((rs.ext e1).set i r1)
                · cases hE
              · exact False.elim run1
            · cases he
          · cases he
      · cases h
  | Tuple tgs k pt =>
    simp only [stA] at h
    split at h
    · rename_i hc
      rw [Bool.and_eq_true] at hc
      obtain ⟨g, e', hg, he, rfl⟩ := opt2_some h
      exact ms_asg (pe e e' he) (mg_names (tgt_ok o hg)) (fun d E L r hr => storeT_ends (.nm g) d E L r hr) (swapsSole hc.1) (swNo_ok o.sc hc.2) rfl
    · rename_i hc
      split at h
      · rename_i x px y py a b k2 p2
        obtain ⟨hs, h⟩ := ite_some h
        split at h
        · rename_i i j hi hj
          simp only [Option.map_eq_some_iff] at h
          obtain ⟨l, hl, rfl⟩ := h
          have hs' := hs
          simp only [sw2, Bool.and_eq_true, decide_eq_true_eq, Bool.not_eq_true', decide_eq_false_iff_not] at hs'
          obtain ⟨⟨⟨⟨⟨⟨⟨q1, q2⟩, q3⟩, q4⟩, q5⟩, q6⟩, q7⟩, q8⟩ := hs'
          have gi := ixOf_get hi
          have gj := ixOf_get hj
          have hx : X.env.scope.names.lookup x = some .local := by rw [o.sc]; exact q1
          have hy : X.env.scope.names.lookup y = some .local := by rw [o.sc]; exact q2
          exact ms_par2 o.gd (by rw [o.N]; exact gi) (by rw [o.N]; exact gj) (fun z => q4 (by rw [z, gj] at gi; exact (Option.some.inj gi).symm)) hx hy (args_ok ih o tk hl (by simp [q5, q6])) (sw2_ok hs o.sc o.kind)
        · cases h
      · rename_i x px y py z pz a b d k2 p2
        obtain ⟨hs, h⟩ := ite_some h
        split at h
        · rename_i i j kk hi hj hk
          simp only [Option.map_eq_some_iff] at h
          obtain ⟨l, hl, rfl⟩ := h
          have hs' := hs
          simp only [sw3, Bool.and_eq_true, decide_eq_true_eq, Bool.not_eq_true', decide_eq_false_iff_not] at hs'
          obtain ⟨⟨⟨⟨⟨⟨⟨⟨⟨⟨⟨⟨q1, q2⟩, q3⟩, q4⟩, q5⟩, q6⟩, q7⟩, q8⟩, q9⟩, q10⟩, q11⟩, q12⟩, q13⟩ := hs'
          have gi := ixOf_get hi
          have gj := ixOf_get hj
          have gk := ixOf_get hk
          have hx : X.env.scope.names.lookup x = some .local := by rw [o.sc]; exact q1
          have hy : X.env.scope.names.lookup y = some .local := by rw [o.sc]; exact q2
          have hz : X.env.scope.names.lookup z = some .local := by rw [o.sc]; exact q3
          exact ms_par3 o.gd (by rw [o.N]; exact gi) (by rw [o.N]; exact gj) (by rw [o.N]; exact gk) (fun z => q6 (by rw [z, gj] at gi; exact (Option.some.inj gi).symm)) (fun z => q7 (by rw [z, gk] at gi; exact (Option.some.inj gi).symm)) (fun z => q8 (by rw [z, gk] at gj; exact (Option.some.inj gj).symm)) hx hy hz
            (args_ok ih o tk hl (by simp [q9, q10, q11])) (sw3_ok hs o.sc o.kind)
        · cases h
      · cases h
  | Subscript oe i p2 =>
    simp only [stA] at h
    obtain ⟨hc, h⟩ := ite_some h
    rw [Bool.and_eq_true] at hc
    cases q : trE p m S oe with
    | none => rw [q] at h; cases h
    | some o' =>
      rw [q] at h
      simp only at h
      obtain ⟨i', e', hi, he, rfl⟩ := opt2_some h
      exact ms_asg (pe e e' he) (mg_sub o.gd (pe oe o' q) (pe i i' hi) (fun v => by have h2 := hc.2; cases i <;> first | rfl | (simp [notSl] at h2))) (fun d E L r hr => storeT_ends (.sub o' i') d E L r hr) (swapsSole hc.1) (swNo_ok o.sc (by cases e <;> rfl)) rfl
  | Attribute oe f p2 =>
    simp only [stA] at h
    obtain ⟨hc, h⟩ := ite_some h
    rw [Bool.and_eq_true] at hc
    obtain ⟨o', e', ho, he, rfl⟩ := opt2_some h
    exact mg_fld o.gd (pe oe o' ho) (fun C ca q => ⟨hf.cls C ca q, hf.fld f hc.1 C ca q⟩) (pe e e' he) (swapsNo hc.2)
  | _ => simp [stA] at h
theorem seq_nil (r : SRes) : (r.seq fun E L => .fl .nx E L) = r := by
  cases r with
  | fl f E L => cases f <;> rfl
  | _ => rfl
theorem stMc_ok (hf : Fct P w G mg base n p c) {m : Nat} (ih : IHS P w G mg base n c ts) (o : Ok P w G mg base n X S) (tk : Takes X W) (hp : PassesOwn (model X.prog X.w) X.A X.env X.xe) {i : Nat} : ∀ {cs : List MatchCase} {ss : Ss}, stMc (trE p m) ts S i cs = some ss → PMc G X W i cs (evSs c ss)
  | [], ss, h => by
    simp only [stMc, Option.some.injEq] at h
    subst h
    exact pm_nil
  | k :: cs, ss, h => by
    unfold stMc at h
    split at h
    · rename_i q; cases q
    · rename_i p2 body rest q
      cases q
      simp only [Option.map_eq_some_iff] at h
      obtain ⟨b, hb, rfl⟩ := h
      exact pm_wild (block_ok ih o tk hp hb)
    · rename_i ce p2 body rest q
      cases q
      cases qc : trE p m S ce with
      | none => rw [qc] at h; cases h
      | some e0 =>
        rw [qc] at h
        split at h
        · rename_i z qz
          have qz := Option.some.inj qz
          subst qz
          obtain ⟨b, r, hb, hr, rfl⟩ := opt2_some h
          have key := pm_val (p2 := p2) o.gd (trE_ok hf m S ce _ qc X W o tk).1 (block_ok ih o tk hp hb) (stMc_ok hf ih o tk hp hr)
          intro pins s σ H D v u first wd E L d I rv rs w hi rd run
          refine key pins s σ H D v u first wd E L d I rv rs w hi rd ?_
          have e1 : evSs c (.cons (.ite (.cmp .eq (.var i) (.con (.str z))) (sssOf b) r) .nil) E L = match E[i]? with
              | some (some x) => (match cmpD .eq x (.str z) L with | some q => if q then evSs c (sssOf b) E L else evSs c r E L | none => .stuck)
              | _ => .stuck := by
            simp only [evSs, seq_nil, evS, evT, evE, hi, Res.bind_ok]
            cases cmpD .eq d (.str z) L with
            | none => rfl
            | some q => simp [optV, truD]
          rw [e1] at run
          exact run
        · cases h
    · cases h
theorem stMt_ok (hf : Fct P w G mg base n p c) {m : Nat} (ih : IHS P w G mg base n c ts) (o : Ok P w G mg base n X S) (tk : Takes X W) (hp : PassesOwn (model X.prog X.w) X.A X.env X.xe) {x : Str} {px pos : Pos} {cs : List MatchCase} : PS X (.Match (.Name x px) cs pos) (tS G W (evS c (stMt (trE p m) ts S x cs))) := by
  unfold stMt
  cases q : varOf S x with
  | none => exact ms_never
  | some i =>
    simp only
    cases q2 : stMc (trE p m) ts S i cs with
    | none => exact ms_never
    | some ss =>
      simp only
      have hv := (trE_ok hf 1 S (.Name x px) (.var i) (by simp only [trE, stE, q]) X W o tk).1
      have key := stMc_ok hf ih o tk hp q2
      have e1 : ∀ E L d, E[i]? = some (some d) → evS c (.ite (.con (.bl true)) (.cons (.ex (.var i)) ss) .nil) E L = evSs c ss E L := fun E L d hi => by
        simp [evS, evT, evE, evSs, hi, optV, truD]
      refine ms_match hv (fun pins s σ H D v u first wd E L d I rv rs w hi rd run => key pins s σ H D v u first wd E L d I rv rs w hi rd (by rw [← e1 E L d hi]; exact run)) fun E L hn => ?_
      simp only [evS, evT, evE, evSs, Res.bind_ok, optV, truD]
      cases hi : E[i]? with
      | none => rfl
      | some z =>
        cases z with
        | none => rfl
        | some d => exact absurd hi (hn d)
theorem stS_ok (hf : Fct P w G mg base n p c) {m : Nat} (ih : IHS P w G mg base n c ts) : IHS P w G mg base n c (stS p (trE p m) ts) := by
  intro S st ms h X W o tk hp
  have ihe := trE_ok hf m
  have pe := fun (e : PySem.Expr) (me : Ex) (h : trE p m S e = some me) => ihe S e me h X W o tk
  cases st with
  | Expr e pos =>
    simp only [stS] at h
    split at h
    · simp only [Option.some.injEq] at h
      subst h
      exact ms_doc
    · obtain ⟨hc, h⟩ := ite_some h
      simp only [Option.map_eq_some_iff] at h
      obtain ⟨e', he, rfl⟩ := h
      exact ms_expr (pe e e' he).1 (swapsNo hc)
  | Return e pos =>
    simp only [stS] at h
    split at h
    · simp only [Option.some.injEq] at h
      subst h
      exact ms_retN
    · rename_i e
      simp only [Option.map_eq_some_iff] at h
      obtain ⟨e', he, rfl⟩ := h
      exact ms_ret (pe e e' he).1
  | If k a b pos =>
    simp only [stS] at h
    cases q : trE p m S k with
    | none => rw [q] at h; cases h
    | some k' =>
      rw [q] at h
      simp only at h
      obtain ⟨a', b', ha, hb, rfl⟩ := opt2_some h
      exact ms_if (pe k k' q).2 (block_ok ih o tk hp ha) (block_ok ih o tk hp hb)
  | For tg iter body orelse pos =>
    simp only [stS] at h
    split at h
    · obtain ⟨hs, h⟩ := ite_some h
      cases q : trG 5 S tg with
      | none => rw [q] at h; cases h
      | some g =>
        rw [q] at h
        simp only at h
        obtain ⟨it, b, hi, hb, rfl⟩ := opt2_some h
        exact ms_for o.gd hp (iter_ok hf ihe o tk hi) (tgt_ok o q) (block_ok ih o tk hp hb) (set_folded hs)
    · cases h
  | While k body orelse pos =>
    simp only [stS] at h
    split at h
    · obtain ⟨k', b, hk, hb, rfl⟩ := opt2_some h
      exact ms_while hp c.fuel (pe k k' hk).2 (block_ok ih o tk hp hb)
    · cases h
  | Break pos => simp only [stS, Option.some.injEq] at h; subst h; exact ms_break
  | Continue pos => simp only [stS, Option.some.injEq] at h; subst h; exact ms_continue
  | Pass pos => simp only [stS, Option.some.injEq] at h; subst h; exact ms_pass
  | Assign tgs e pos =>
    simp only [stS] at h
    split at h
    · exact stA_ok hf o tk h
    · cases h
  | AugAssign tg op e pos =>
    simp only [stS] at h
    split at h
    · rename_i x px
      split at h
      · obtain ⟨i, e', hi, he, rfl⟩ := opt2_some h
        obtain ⟨h1, h2, h3⟩ := o.slot hi
        exact ms_aug o.gd (op := .add) (.inl rfl) h1 h2 (pe e e' he).1 h3
      · obtain ⟨i, e', hi, he, rfl⟩ := opt2_some h
        obtain ⟨h1, h2, h3⟩ := o.slot hi
        exact ms_aug o.gd (op := .sub) (.inr rfl) h1 h2 (pe e e' he).1 h3
      · cases h
    · cases h
  | Delete tgs pos =>
    simp only [stS] at h
    split at h
    · obtain ⟨a, b, ha, hb, rfl⟩ := opt2_some h
      exact ms_del (pe _ a ha).1 (pe _ b hb).1
    · cases h
  | Raise a b pos => simp only [stS, Option.some.injEq] at h; subst h; exact ms_never
  | Try a b d e pos => simp only [stS, Option.some.injEq] at h; subst h; exact ms_never
  | Match a b pos =>
    simp only [stS] at h
    split at h
    · simp only [Option.some.injEq] at h
      subst h
      exact stMt_ok hf ih o tk hp
    · simp only [Option.some.injEq] at h
      subst h
      exact ms_never
  | _ => simp [stS] at h
theorem trS_ok (hf : Fct P w G mg base n p c) : ∀ m : Nat, IHS P w G mg base n c (trS p m)
  | 0 => fun S e me h => by cases h
  | m + 1 => fun S e me h => stS_ok hf (trS_ok hf m) S e me h
end
end MP
set_option maxHeartbeats 2000000
/-! MG1: for in a generator's body -/
namespace MP
open PySem PySem.Spec PyProof.Rows L2 GenW
section
variable {prog : Program} {w : World} {A : Around} {R : GenEnd} {Y : Protocol} {n : Nat} {s₀ : Shared} {fs : List Frame} {s : Shared} {env : Env} {c : Code}
/-- an exception leaves a loop's code -/
abbrev offT (env : Env) (x : Value) : Sem PySem.Fin := (do noteFrame x env; theTreesLotGoes x : Sem Unit).wrap (fun _ => .raise x) .raise id id
theorem seg_blockNil (h : Seg (model prog w) A R Y n s₀ (.block [] env) (.pure (.done .next)) fs s) : Seg (model prog w) A R Y n s₀ (.block [] env) ((model prog w).den (.block [] env)) fs s := h
theorem seg_forLoop {target : Expr} {it : Value} {body orelse : List Stmt}
    (h : wpAny (model prog w) (A.over (.forLoop target it body orelse env) fs) (pyNext it) (fun r s1 => match r with
      | none => Seg (model prog w) A R Y n s₀ (.forLoop target it body orelse env) (.pure (.again (.block orelse env))) fs s1
      | some v => wpAny (model prog w) (A.over (.forLoop target it body orelse env) fs) (letOwnedTupleGo target it v) (fun _ s2 =>
          wpAny (model prog w) (A.over (.forLoop target it body orelse env) fs) (assign target env v) (fun _ s3 =>
            Seg (model prog w) A R Y n s₀ (.forLoop target it body orelse env) ((execs body env).wrap (fun f => match f with
              | .next | .cont => .pure (.again (.forLoop target it body orelse env))
              | .brk => .pure (.done .next)
              | .ret v => .pure (.done (.ret v))) (offT env) id id) fs s3)
            (fun x s' => Seg (model prog w) A R Y n s₀ (.forLoop target it body orelse env) (offT env x) fs s') s2)
          (fun x s' => Seg (model prog w) A R Y n s₀ (.forLoop target it body orelse env) (offT env x) fs s') s1)
      (fun x s' => Seg (model prog w) A R Y n s₀ (.forLoop target it body orelse env) (offT env x) fs s') s) :
    Seg (model prog w) A R Y n s₀ (.forLoop target it body orelse env) ((model prog w).den (.forLoop target it body orelse env)) fs s := by
  show Seg _ A R Y n s₀ _ ((forTurn target it body orelse env).onRaise (fun x => do noteFrame x env; theTreesLotGoes x)) fs s
  have eo : ∀ (m : Sem PySem.Fin), m.onRaise (fun x => do noteFrame x env; theTreesLotGoes x) = m.wrap .pure (offT env) id id := fun m => by
    rw [Sem.onRaise_eq_wrap]
    refine Sem.wrap_congr _ _ _ (fun _ => rfl) (fun e => ?_)
    first | exact Sem.bind_eq_wrap _ _ | (show (do noteFrame e env; theTreesLotGoes e : Sem Unit).bind (fun _ => .raise e) = _; rw [Sem.bind_eq_wrap])
  rw [eo]
  unfold forTurn
  refine seg_bind_wrap (wpAny_standAt ?_)
  refine seg_bind_wrap (wpAny_onRaise (wpAny_mono h (fun r s1 h1 => ?_) fun x s' h' => wpAny_standAt h'))
  cases r with
  | none => exact h1
  | some v =>
    refine seg_bind_wrap (wpAny_mono h1 (fun _ s2 h2 => ?_) fun x s' h' => h')
    refine seg_bind_wrap (wpAny_mono h2 (fun _ s3 h3 => ?_) fun x s' h' => h')
    rw [Sem.bind_eq_wrap', Sem.wrap_wrap]
    rw [Sem.wrap_congr (execs body env) _ _ (K' := fun f => match f with
            | .next | .cont => .pure (.again (.forLoop target it body orelse env))
            | .brk => .pure (.done .next)
            | .ret v => .pure (.done (.ret v))) (H' := offT env)
        (fun f => by cases f <;> rfl)
        (fun e => by rfl)]
    exact h3
theorem seg_For {target iter : Expr} {body orelse : List Stmt} {pos : Pos} {K : Flow → Sem PySem.Fin} {J : Value → Sem PySem.Fin} {gd : Bool → Bool} {lv : List Value → List Value} (hs : ∀ x, foldedSetIterable iter env x = pure x)
    (h : wpAny (model prog w) (A.over c fs) (eval iter env) (fun x s1 => wpAny (model prog w) (A.over c fs) (pyIter x) (fun it s2 =>
      ∀ p, Seg (model prog w) A R Y n s₀ (.forLoop target it body orelse env) ((model prog w).den (.forLoop target it body orelse env))
        (.ret (fun r => ((match r with | .ok f => (.pure f : Sem Flow) | .error e => .raise e).onRaise (cameBack env)).wrap K J gd lv) none (gd false) (lv []) c p [] :: fs) s2)
      (fun x s' => Seg (model prog w) A R Y n s₀ c (J x) fs s') s1) (fun x s' => Seg (model prog w) A R Y n s₀ c (J x) fs s') s) :
    Seg (model prog w) A R Y n s₀ c ((exec (.For target iter body orelse pos) env).wrap K J gd lv) fs s := by
  rw [exec_For]
  refine seg_bind_wrap (wpAny_standAt ?_)
  refine seg_bind_wrap (wpAny_mono h (fun x s1 h1 => ?_) fun _ _ h' => h')
  rw [hs x]
  refine seg_bind_wrap (wpAny_pure ?_)
  refine seg_bind_wrap (wpAny_standAt ?_)
  refine seg_bind_wrap (wpAny_holding (wpAny_mono h1 (fun it s2 h2 => ?_) fun _ _ h' => h'))
  exact seg_call fun p => h2 p
end
end MP
set_option maxHeartbeats 2000000
/-! MG2: for in a generator's body -/
namespace MP
open PySem PySem.Spec PyProof.Rows L2 GenW
/-- W: the invariant by the turn, a measure and what is out; N: what the body is to reach -/
def tGFor (wi : TI) (g : TG) (tb : TGn) : TGn := fun D ys σ H => wi σ H fun J H1 => ∃ W : Nat → Nat → List V → L2.St → Hp → Prop, (∃ m, W 0 m ys σ H1) ∧ ∀ i m ys σ H, W i m ys σ H →
  (J.stop i H ∧ D.nx ys σ H) ∨ (J.go i H ∧ ∃ N : List V → L2.St → Hp → Prop, (∀ ys' σ' H', N ys' σ' H' → ∃ m', m' < m ∧ W (i + 1) m' ys' σ' H') ∧ ∀ x H', J.yld i H x H' → g x σ H' fun σ2 H2 => tb { D with nx := N, ct := N, bk := D.nx } ys σ2 H2)
section
variable {X : Cx}
theorem gs_for {tg iter : PySem.Expr} {body : List PySem.Stmt} {pos : Pos} {wi : TI} {gt : TG} {tb : TGn} (hp : PassesOwn (model X.prog X.w) X.A X.env X.xe) (hc : X.calm = true) (hi : PI X tg iter wi) (hg : PG X tg gt) (hb : GSs X body tb)
    (hs : ∀ x, foldedSetIterable iter X.env x = pure x := by intro _; rfl) : GS X (.For tg iter body [] pos) (tGFor wi gt tb) := by
  refine ⟨fun A S ip R n ys s₀ c fs K J gd lv s σ H D g hn k hI ht => ?_⟩
  obtain ⟨acc, cc, r, I⟩ := hI
  refine seg_For hs ?_
  rw [g.over]
  refine wpAny_mono (hi.run _ s σ H _ I ht) (fun v s1 h1 => wpAny_mono h1 (fun itv s2 h2 => ?_) fun x s' hx => k.exc n s₀ x s' hx) fun x s' hx => k.exc n s₀ x s' hx
  obtain ⟨it, fp, tn, Jt, H2, e, I2, T, st2, f2, W, ⟨m0, w0⟩, turn⟩ := h2
  subst e
  intro p
  have fS : ∀ b ∈ fp, b ≠ S := fun b hb z => (f2 b hb).2.2.2.2.2 (S, lstObj acc cc) (List.mem_append_right _ List.mem_cons_self) z.symm
  have stat : ∀ {H' : Hp} {a' : Array Value} {c' : Nat}, (∀ b ∈ fp, H' b = none) → ∀ b ∈ fp, FpOk X ((S, lstObj a' c') :: ip) H' b := fun hn b hb => by
    obtain ⟨_, q1, q2, q3, q4, q5⟩ := f2 b hb
    refine ⟨hn b hb, q1, q2, q3, q4, fun y hy => ?_⟩
    rcases List.mem_append.mp hy with hy | hy
    · exact q5 y (List.mem_append_left _ hy)
    · rcases List.mem_cons.mp hy with rfl | hy
      · exact (fS b hb).symm
      · exact q5 y (List.mem_append_right _ (List.mem_cons_of_mem _ hy))
  have gl := fun (kk : Result → Sem PySem.Fin) => gc_loop (k := kk) (c' := .forLoop tg (.ref it) body [] X.env) (l := lv []) (kp := []) (p := p) g rfl rfl
  have ee : ∀ (n : Nat) (s₀ : Shared) (x : Value) (s' : Shared), X.xe x s' → Seg (model X.prog X.w) A R (GY X S) n s₀ (.forLoop tg (.ref it) body [] X.env) (offT X.env x)
      (.ret (fun r => ((match r with | .ok f => (.pure f : Sem Flow) | .error e => .raise e).onRaise (cameBack X.env)).wrap K J gd lv) none (gd false) (lv []) c p [] :: fs) s' := fun n s₀ x s' hx => by
    refine seg_wrap ?_
    rw [(gl _).over]
    refine wpAny_bind (wpAny_mono (hp x s' hx) (fun _ s'' hcb => wpAny_theTreesLotGoes ?_) fun y s'' hcb => ?_)
    · exact seg_leaf (.error x) (seg_cameBack g k hcb)
    · exact seg_leaf (.error y) (seg_cameBack g k hcb)
  have loop : ∀ (m i n : Nat) (ys : List V) (s₀ s : Shared) (σ : L2.St) (H : Hp), n + ys.length = sizeLine → W i m ys σ H → tn i s.heap → (∀ b ∈ fp, H b = none) → GI X S ip ys σ H s →
      Seg (model X.prog X.w) A R (GY X S) n s₀ (.forLoop tg (.ref it) body [] X.env) ((model X.prog X.w).den (.forLoop tg (.ref it) body [] X.env))
        (.ret (fun r => ((match r with | .ok f => (.pure f : Sem Flow) | .error e => .raise e).onRaise (cameBack X.env)).wrap K J gd lv) none (gd false) (lv []) c p [] :: fs) s := by
    intro m
    induction m using Nat.strongRecOn with
    | ind m ih =>
      intro i n ys s₀ s σ H hn w st fr hI
      obtain ⟨acc, cc, r, I⟩ := hI
      refine seg_forLoop ?_
      rw [(gl _).over]
      rcases turn i m ys σ H w with ⟨stop, qn⟩ | ⟨go, N, hN, step⟩
      · refine wpAny_mono (T.done X rfl rfl rfl hc i _ s σ H X.xe I (stat fr) st stop) (fun r4 s4 ⟨hr, I4⟩ => ?_) fun x s' hx => ee n s₀ x s' hx
        subst hr
        exact seg_again rfl (seg_blockNil (seg_leaf (.ok .next) (k.ok n ys s₀ s4 .next hn ⟨σ, H, ⟨acc, cc, r, I4⟩, qn⟩)))
      · refine wpAny_mono (T.item X rfl rfl rfl hc i _ s σ H X.xe I (stat fr) st go) (fun r4 s4 ⟨u, hr, h4⟩ => ?_) fun x s' hx => ee n s₀ x s' hx
        subst hr
        refine wpAny_mono h4 (fun _ s5 ⟨x, H5, I5, r5, y5, st5, fr5⟩ => ?_) fun x s' hx => ee n s₀ x s' hx
        have I5' := I5.pinned (stat fr5) (T.obj _ _ st5)
        refine wpAny_mono (hg.run _ s5 σ H5 x u _ I5' r5 (step x H5 y5)) (fun _ s6 ⟨σ6, H6, I6, q6⟩ => ?_) fun x s' hx => ee n s₀ x s' hx
        have gb : ∀ kk, GC X S (ip ++ pinsAt fp s5.heap) A (.forLoop tg (.ref it) body [] X.env) (.ret kk none (gd false) (lv []) c p [] :: fs) id := fun kk => ⟨(gl kk).pn, fun y hy => by
          rcases List.mem_append.mp hy with hy | hy
          · exact (gl kk).ip y hy
          · exact fS _ (of_pinsAt hy).1, (gl kk).apart, (gl kk).over, (gl kk).split, (gl kk).guard, rfl⟩
        have again : ∀ {n' : Nat} {s₀' : Shared} {ys' : List V} {s7 : Shared} {σ7 : L2.St} {H7 : Hp}, n' + ys'.length = sizeLine → GI X S (ip ++ pinsAt fp s5.heap) ys' σ7 H7 s7 → N ys' σ7 H7 →
            Seg (model X.prog X.w) A R (GY X S) n' s₀' (.forLoop tg (.ref it) body [] X.env) (.pure (.again (.forLoop tg (.ref it) body [] X.env))) (.ret (fun r => ((match r with | .ok f => (.pure f : Sem Flow) | .error e => .raise e).onRaise (cameBack X.env)).wrap K J gd lv) none (gd false) (lv []) c p [] :: fs) s7 := fun {n' s₀' ys' s7 σ7 H7} hn' hG n7 => by
          obtain ⟨m', hm, w7⟩ := hN ys' σ7 H7 n7
          obtain ⟨acc7, c7, r7, I7⟩ := hG
          have I7' : Inv X (((S, lstObj acc7 c7) :: ip) ++ pinsAt fp s5.heap) σ7 H7 s7 := I7
          refine seg_again rfl (ih m' hm (i + 1) n' ys' s₀' s7 σ7 H7 hn' w7 (T.keep _ _ _ st5 fun b hb o e => (I7'.pin (b, o) (List.mem_append_right _ (List.mem_append_right _ (mem_pinsAt hb e)))).1) (fun b hb => ?_) ⟨acc7, c7, r7, I7'.unpinned⟩)
          obtain ⟨o, e, d⟩ := T.obj _ _ st5 b hb
          exact (I7'.pin (b, o) (List.mem_append_right _ (List.mem_append_right _ (mem_pinsAt hb e)))).2.1
        refine hb.run A S (ip ++ pinsAt fp s5.heap) R n ys s₀ _ _ _ _ id id s6 σ6 H6 { D with nx := N, ct := N, bk := D.nx } (gb _) hn ⟨fun n' ys' s₀' s7 f hn' hs => ?_, fun n' s₀' x s7 hx => ee n' s₀' x s7 hx⟩ ⟨acc, cc, r, I6⟩ q6
        have drop : ∀ {ys' : List V} {σ7 : L2.St} {H7 : Hp}, GI X S (ip ++ pinsAt fp s5.heap) ys' σ7 H7 s7 → GI X S ip ys' σ7 H7 s7 := fun {ys' σ7 H7} ⟨acc7, c7, r7, I7⟩ => by
          have I7' : Inv X (((S, lstObj acc7 c7) :: ip) ++ pinsAt fp s5.heap) σ7 H7 s7 := I7
          exact ⟨acc7, c7, r7, I7'.unpinned⟩
        cases f with
        | next => obtain ⟨σ7, H7, I7, n7⟩ := hs; exact again hn' I7 n7
        | cont => obtain ⟨σ7, H7, I7, n7⟩ := hs; exact again hn' I7 n7
        | brk => obtain ⟨σ7, H7, I7, q7⟩ := hs; exact seg_leaf (.ok .next) (k.ok n' ys' s₀' s7 .next hn' ⟨σ7, H7, drop I7, q7⟩)
        | ret v => obtain ⟨x7, σ7, H7, I7, r7, q7⟩ := hs; exact seg_leaf (.ok (.ret v)) (k.ok n' ys' s₀' s7 (.ret v) hn' ⟨x7, σ7, H7, drop I7, r7, q7⟩)
  exact loop m0 0 n ys s₀ s2 σ H2 hn w0 st2 (fun b hb => (f2 b hb).1) ⟨acc, cc, r, I2⟩
end
end MP
set_option maxHeartbeats 4000000
/-! MPH: the body of a generator def -/
namespace MP
open PySem PySem.Spec PyProof.Rows L2
mutual
inductive Gst where
  | pl (s : St) | yld (e : Ex) | for_ (g : Tg) (it : It) (b : Gss)
inductive Gss where
  | nil | cons (s : Gst) (ss : Gss)
end
inductive GRes where
  | fl (f : Flw) (E : Ev) (ys : List D) (L : Live) | stuck
def GRes.ofS (r : SRes) (ys : List D) : GRes := match r with
  | .fl f E L => .fl f E ys L
  | _ => .stuck
def GRes.of {α : Type} (r : Res α) (k : α → Live → GRes) : GRes := match r with
  | .ok a L => k a L
  | _ => .stuck
def GRes.seq (r : GRes) (k : Ev → List D → Live → GRes) : GRes := match r with
  | .fl .nx E ys L => k E ys L
  | r => r
def forG (w : List (Nat × List D)) (g : Tg) (b : Ev → List D → Live → GRes) : List D → Ev → List D → Live → GRes
  | [], E, ys, L => if still L w then .fl .nx E ys L else .stuck
  | d :: ds, E, ys, L => if still L w then match storeG g d E with
      | some E' => match b E' ys L with
        | .fl .nx E2 y2 L2 => forG w g b ds E2 y2 L2
        | .fl .ct E2 y2 L2 => forG w g b ds E2 y2 L2
        | .fl .bk E2 y2 L2 => .fl .nx E2 y2 L2
        | r => r
      | none => .stuck
    else .stuck
mutual
def evG (c : Cxt) : Gst → Ev → List D → Live → GRes
  | .pl s, E, ys, L => GRes.ofS (evS c s E L) ys
  | .yld e, E, ys, L => if ys.length < sizeLine then GRes.of (evE c e E L) fun d L1 => .fl .nx E (ys ++ [d]) L1 else .stuck
  | .for_ g it b, E, ys, L => GRes.of (evI c it E L) fun p L1 => forG p.2 g (fun E' y' L' => evGs c b E' y' L') p.1 E ys L1
def evGs (c : Cxt) : Gss → Ev → List D → Live → GRes
  | .nil, E, ys, L => .fl .nx E ys L
  | .cons s ss, E, ys, L => (evG c s E ys L).seq fun E' y' L' => evGs c ss E' y' L'
end
section
variable {G : Gv} {W : WX}
variable (G) in
def RunGS (wd : Wd) : GRes → GEnds → Prop
  | .fl .nx E yd L, D => ∀ wd' σ' H' ys', Ext wd wd' → WOk (G := G) wd' H' L → RelSt (G := G) wd' σ' E → RelDs G wd' ys' yd → D.nx ys' σ' H'
  | .fl .bk E yd L, D => ∀ wd' σ' H' ys', Ext wd wd' → WOk (G := G) wd' H' L → RelSt (G := G) wd' σ' E → RelDs G wd' ys' yd → D.bk ys' σ' H'
  | .fl .ct E yd L, D => ∀ wd' σ' H' ys', Ext wd wd' → WOk (G := G) wd' H' L → RelSt (G := G) wd' σ' E → RelDs G wd' ys' yd → D.ct ys' σ' H'
  | .fl (.rt d) E yd L, D => ∀ wd' H' ys' v, Ext wd wd' → WOk (G := G) wd' H' L → RelDs G wd' ys' yd → RelD G wd' v d → D.rt ys' v H'
  | .stuck, _ => False
variable (G)
def tGS (m : Ev → List D → Live → GRes) : TGn := fun D ys σ H => ∃ wd E yd L, RelSt (G := G) wd σ E ∧ WOk (G := G) wd H L ∧ RelDs G wd ys yd ∧ RunGS G wd (m E yd L) D
variable {G}
theorem RunGS.ext {wd wd1 : Wd} (e : Ext wd wd1) : ∀ {r : GRes} {D : GEnds}, RunGS G wd r D → RunGS G wd1 r D
  | .fl .nx _ _ _, _, h => fun wd' σ' H' ys' e' => h wd' σ' H' ys' (e.trans e')
  | .fl .bk _ _ _, _, h => fun wd' σ' H' ys' e' => h wd' σ' H' ys' (e.trans e')
  | .fl .ct _ _ _, _, h => fun wd' σ' H' ys' e' => h wd' σ' H' ys' (e.trans e')
  | .fl (.rt _) _ _ _, _, h => fun wd' H' ys' v e' => h wd' H' ys' v (e.trans e')
  | .stuck, _, h => h
theorem RunGS.of {α β : Type} {rel : Wd → β → α → Prop} {wd : Wd} {σ : L2.St} {r : Res α} {k : α → Live → GRes} {D : GEnds} (h : RunGS G wd (GRes.of r k) D) :
    Run (G := G) rel W σ wd r fun v H1 => ∃ wd1 d L1, Ext wd wd1 ∧ WOk (G := G) wd1 H1 L1 ∧ rel wd1 v d ∧ RunGS G wd1 (k d L1) D := by
  cases r with
  | ok d L => exact fun wd' H' v e' w r => ⟨wd', d, L, e', w, r, RunGS.ext e' h⟩
  | exc C fs L => exact False.elim h
  | stuck => exact h
variable {X : Cx} {st : PySem.Stmt} {rest : List PySem.Stmt} {pos : Pos}
theorem gsImp {t t' : TGn} (h : GS X st t) (i : ∀ D ys σ H, t' D ys σ H → t D ys σ H) : GS X st t' := ⟨fun A S ip R n ys s₀ c fs K J gd lv s σ H D g hn k hI ht => h.run A S ip R n ys s₀ c fs K J gd lv s σ H D g hn k hI (i D ys σ H ht)⟩
theorem gssImp {st : List PySem.Stmt} {t t' : TGn} (h : GSs X st t) (i : ∀ D ys σ H, t' D ys σ H → t D ys σ H) : GSs X st t' := ⟨fun A S ip R n ys s₀ c fs K J gd lv s σ H D g hn k hI ht => h.run A S ip R n ys s₀ c fs K J gd lv s σ H D g hn k hI (i D ys σ H ht)⟩
theorem gGplain {m : Ev → Live → SRes} (h : PS X st (tS G W m)) : GS X st (tGS G fun E ys L => GRes.ofS (m E L) ys) :=
  gsImp (gs_ps h) fun D ys σ H ⟨wd, E, yd, L, rs, w, ry, run⟩ => by
    refine ⟨wd, E, L, rs, w, ?_⟩
    dsimp only at run
    cases q : m E L with
    | stuck => rw [q] at run; exact False.elim run
    | exc C fs E' L' => rw [q] at run; exact False.elim run
    | fl f E' L' =>
      rw [q] at run
      cases f with
      | nx => exact fun wd' σ' H' e w' rs' => run wd' σ' H' ys e w' rs' (ry.ext G e)
      | bk => exact fun wd' σ' H' e w' rs' => run wd' σ' H' ys e w' rs' (ry.ext G e)
      | ct => exact fun wd' σ' H' e w' rs' => run wd' σ' H' ys e w' rs' (ry.ext G e)
      | rt d => exact fun wd' H' v e w' rv => run wd' H' ys v e w' (ry.ext G e) rv
theorem gGnil : GSs X [] (tGS G fun E ys L => .fl .nx E ys L) := gssImp gss_nil fun D ys σ H ⟨wd, E, yd, L, rs, w, ry, run⟩ => run wd σ H ys (Ext.refl _) w rs ry
theorem gGcons {m k : Ev → List D → Live → GRes} (h1 : GS X st (tGS G m)) (h2 : GSs X rest (tGS G k)) : GSs X (st :: rest) (tGS G fun E ys L => (m E ys L).seq k) :=
  gssImp (gss_cons h1 h2) fun D ys σ H ⟨wd, E, yd, L, rs, w, ry, run⟩ => by
    refine ⟨wd, E, yd, L, rs, w, ry, ?_⟩
    dsimp only at run
    cases q : m E yd L with
    | stuck => rw [q] at run; exact False.elim run
    | fl f E' y' L' =>
      rw [q] at run
      cases f with
      | nx => exact fun wd' σ' H' ys' e w' rs' ry' => ⟨wd', E', y', L', rs', w', ry', RunGS.ext e run⟩
      | bk => exact run
      | ct => exact run
      | rt d => exact run
theorem gGyield {e : PySem.Expr} {yp : Pos} {me : Ev → Live → Res D} (he : PE X e (tE G W me)) (hco : X.env.scope.isCoroutine = false) (hi : interactive X.env = false) :
    GS X (.Expr (.Yield (some e) yp) pos) (tGS G fun E ys L => if ys.length < sizeLine then GRes.of (me E L) fun d L1 => .fl .nx E (ys ++ [d]) L1 else .stuck) :=
  gsImp (gs_yield he hco hi) fun D ys σ H ⟨wd, E, yd, L, rs, w, ry, run⟩ => by
    dsimp only at run
    split at run
    · rename_i hl
      refine ⟨by rw [RelDs.length ry]; exact hl, wd, E, L, rs, w, (RunGS.of run).imp fun v H1 ⟨wd1, d, L1, e1, w1, r1, run1⟩ => ?_⟩
      exact run1 wd1 σ H1 (ys ++ [v]) (Ext.refl _) w1 (rs.ext e1) (RelDs.append (ry.ext G e1) (RelDs.cons r1 RelDs.nil))
    · exact False.elim run
theorem gGfor {tg iter : PySem.Expr} {body : List PySem.Stmt} (g : Gd G X) (hp : PassesOwn (model X.prog X.w) X.A X.env X.xe) {gt : Tg} {mi : Ev → Live → Res (List D × List (Nat × List D))} {m : Ev → List D → Live → GRes} (hi : PI X tg iter (tI G W mi)) (hg : PG X tg (tG G gt)) (hb : GSs X body (tGS G m)) (hs : ∀ x, foldedSetIterable iter X.env x = pure x) :
    GS X (.For tg iter body [] pos) (tGS G fun E ys L => GRes.of (mi E L) fun p L1 => forG p.2 gt m p.1 E ys L1) :=
  gsImp (gs_for hp g.calm hi hg hb hs) fun D ys σ H ⟨wd, E, yd, L, rs, w, ry, run⟩ => ⟨wd, E, L, rs, w, (RunGS.of run).imp fun J H1 ⟨wd1, p, L1, e1, w1, r1, run1⟩ => by
    obtain ⟨ds, wt⟩ := p
    refine ⟨fun i mm ys σ H => mm = ds.length - i ∧ i ≤ ds.length ∧ ∃ wd2 E2 y2 L2, Ext wd1 wd2 ∧ RelSt (G := G) wd2 σ E2 ∧ WOk (G := G) wd2 H L2 ∧ RelDs G wd2 ys y2 ∧ RunGS G wd2 (forG wt gt m (ds.drop i) E2 y2 L2) D, ⟨ds.length, by simp, Nat.zero_le _, wd1, E, yd, L1, Ext.refl _, rs.ext e1, w1, ry.ext G e1, run1⟩, ?_⟩
    rintro i mm ys2 σ2 H2 ⟨rfl, hi', wd2, E2, y2, L2, e2, rs2, w2, ry2, run2⟩
    by_cases hlt : i < ds.length
    · right
      rw [List.drop_eq_getElem_cons hlt] at run2
      simp only [forG] at run2
      split at run2
      case isFalse => exact False.elim run2
      rename_i hstill
      cases qs : storeG gt ds[i] E2 with
      | none => rw [qs] at run2; exact False.elim run2
      | some E' =>
        rw [qs] at run2
        dsimp only at run2
        refine ⟨r1.go (Kp.of e2) w2 hstill hlt, fun ys' σ' H' => ∃ m', m' < ds.length - i ∧ (m' = ds.length - (i + 1) ∧ i + 1 ≤ ds.length ∧ ∃ wd2 E2 y2 L2, Ext wd1 wd2 ∧ RelSt (G := G) wd2 σ' E2 ∧ WOk (G := G) wd2 H' L2 ∧ RelDs G wd2 ys' y2 ∧ RunGS G wd2 (forG wt gt m (ds.drop (i + 1)) E2 y2 L2) D), fun ys' σ' H' h => h, fun x H' y => ?_⟩
        obtain ⟨wd3, e3, w3, r3⟩ := r1.yld hlt (Kp.of e2) w2 hstill y
        refine ⟨wd3, ds[i], E2, E', L2, rs2.ext e3, w3, r3, qs, fun σ' rs' so => ⟨wd3, E', y2, L2, rs', w3, ry2.ext G e3, ?_⟩⟩
        cases qb : m E' y2 L2 with
        | stuck => rw [qb] at run2; exact False.elim run2
        | fl f E3 y3 L3 =>
          rw [qb] at run2
          cases f with
          | nx => exact fun wd4 σ4 H4 ys4 e4 w4 rs4 ry4 => ⟨_, by omega, rfl, hlt, wd4, E3, y3, L3, (e2.trans e3).trans e4, rs4, w4, ry4, RunGS.ext (e3.trans e4) run2⟩
          | ct => exact fun wd4 σ4 H4 ys4 e4 w4 rs4 ry4 => ⟨_, by omega, rfl, hlt, wd4, E3, y3, L3, (e2.trans e3).trans e4, rs4, w4, ry4, RunGS.ext (e3.trans e4) run2⟩
          | bk => exact fun wd4 σ4 H4 ys4 e4 w4 rs4 ry4 => run2 wd4 σ4 H4 ys4 (e3.trans e4) w4 rs4 ry4
          | rt d => exact RunGS.ext (D := D) e3 run2
    · left
      have ei : i = ds.length := by omega
      subst ei
      rw [List.drop_length] at run2
      simp only [forG] at run2
      split at run2
      case isFalse => exact False.elim run2
      rename_i hstill
      exact ⟨r1.stop (Kp.of e2) w2 hstill (Nat.le_refl _), run2 wd2 σ2 H2 ys2 (Ext.refl _) w2 rs2 ry2⟩⟩
end
/-! ### translation -/
def gssOf : List Gst → Gss
  | [] => .nil
  | s :: ss => .cons s (gssOf ss)
def trGst (p : Par) : Nat → Stc → PySem.Stmt → Option Gst
  | 0, _, _ => none
  | n + 1, S, s => match s with
    | .Expr (.Yield (some e) _) _ => (trE p 60 S e).map .yld
    | .For tg iter body [] _ => if notSet iter then match trG 5 S tg with
        | some g => opt2 (stI p (trE p 60) S (isTup tg) iter) (mapO (trGst p n S) body) fun it b => .for_ g it (gssOf b)
        | none => none
      else none
    | s => (trS p 30 S s).map .pl
def trGss (p : Par) (S : Stc) (b : List PySem.Stmt) : Option Gss := (mapO (trGst p 30 S) b).map gssOf
section
variable {P : Program} {w : World} {G : Gv} {mg : Str → Option Value} {base : Heap} {n : Nat} {p : Par} {c : Cxt} {X : Cx} {S : Stc} {W : WX}
theorem gblock_ok {tg : Stc → PySem.Stmt → Option Gst} (ih : ∀ s a, tg S s = some a → GS X s (tGS G (evG c a))) : ∀ {b : List PySem.Stmt} {l : List Gst}, mapO (tg S) b = some l → GSs X b (tGS G (evGs c (gssOf l)))
  | [], l, h => by simp only [mapO, Option.some.injEq] at h; subst h; exact gGnil
  | s :: b, l, h => by
    simp only [mapO] at h
    cases q : tg S s with
    | none => rw [q] at h; cases h
    | some a =>
      rw [q] at h
      cases q2 : mapO (tg S) b with
      | none => rw [q2] at h; cases h
      | some r =>
        rw [q2] at h
        simp only [Option.some.injEq] at h
        subst h
        exact gGcons (ih s a q) (gblock_ok ih q2)
theorem trGst_ok (hf : Fct P w G mg base n p c) (o : Ok P w G mg base n X S) (tk : Takes X W) (hp : PassesOwn (model X.prog X.w) X.A X.env X.xe) (hco : X.env.scope.isCoroutine = false) (hi : interactive X.env = false) : ∀ (m : Nat) (s : PySem.Stmt) (a : Gst), trGst p m S s = some a → GS X s (tGS G (evG c a))
  | 0, s, a, h => by cases h
  | m + 1, s, a, h => by
    simp only [trGst] at h
    split at h
    · rename_i e yp pos
      simp only [Option.map_eq_some_iff] at h
      obtain ⟨e', he, rfl⟩ := h
      exact gGyield (trE_ok hf 60 S e e' he X W o tk).1 hco hi
    · rename_i tg iter body pos
      obtain ⟨hs, h⟩ := ite_some h
      cases q : trG 5 S tg with
      | none => rw [q] at h; cases h
      | some g =>
        rw [q] at h
        simp only at h
        obtain ⟨it, b, hit, hb, rfl⟩ := opt2_some h
        exact gGfor o.gd hp (iter_ok hf (trE_ok hf 60) o tk hit) (tgt_ok o q) (gblock_ok (fun s a => trGst_ok hf o tk hp hco hi m s a) hb) (set_folded hs)
    · simp only [Option.map_eq_some_iff] at h
      obtain ⟨s', hs, rfl⟩ := h
      exact gGplain (trS_ok hf 30 S s s' hs X W o tk hp)
end
end MP
set_option maxHeartbeats 4000000
/-! MP: a table of defs -/
namespace MP
open PySem PySem.Spec PyProof.Rows L2
structure Fn where
  np : Nat
  nN : Nat
  liv : List Bool
  clean : Bool
  body : Ss
def startE (nN : Nat) (ds : List D) : Ev := ds.map some ++ List.replicate (nN - ds.length) none
def resOf : SRes → Res D
  | .fl .nx _ L => .ok .non L
  | .fl (.rt d) _ L => .ok d L
  | .exc C fs _ L => .exc C fs L
  | _ => .stuck
def runB (c : Cxt) (d : Fn) (ds : List D) (L : Live) : Res D := if ds.length = d.np then resOf (evSs c d.body (startE d.nN ds) L) else .stuck
def runF (c : Cxt) (d : Fn) (ds : List D) (L : Live) : Res D := if d.clean then cleanR L (runB c d ds L) else runB c d ds L
/-- a generator def -/
structure Gn where
  np : Nat
  nN : Nat
  body : Gss
def runGn (c : Cxt) (g : Gn) (ds : List D) (L : Live) : Res (List D) := if ds.length = g.np then (match evGs c g.body (startE g.nN ds) [] L with | .fl .nx _ ys L' => .ok ys L' | .fl (.rt .non) _ ys L' => .ok ys L' | _ => .stuck) else .stuck
structure Tab where
  fn : Nat → Option Fn
  meth : Str → Str → Option Nat
  init : Str → Option Nat
  exf : Str → Option (List Str)
  fuel : Nat
  gen : Nat → Option Gn
  gcx : Nat → Cxt
def Tab.cx (T : Tab) : Nat → Cxt
  | 0 => ⟨fun _ _ _ => .stuck, fun _ _ _ => .stuck, fun f => match T.fn f with | some d => d.liv | none => [], T.meth, T.init, T.exf, T.fuel⟩
  | n + 1 => ⟨fun f ds L => match T.fn f with | some d => runF (T.cx n) d ds L | none => .stuck, fun f ds L => match n with | 0 => .stuck | k + 1 => (match T.gen f with | some g => runGn (T.gcx k) g ds L | none => .stuck), fun f => match T.fn f with | some d => d.liv | none => [], T.meth, T.init, T.exf, T.fuel⟩
/-- what is known of a def of the table -/
structure DefOk (K : PySem.W.Frag) (mg : Str → Option Value) (p : Par) (d : Fn) (x : Str) (fa : Addr) : Prop where
  ex : ∃ (qual : Str) (params : Arguments) (body : List Stmt) (scope : Scope) (N ps : List Str) (fd : FuncData), FunD K x qual params body scope [] [] fa fd ∧ FnScope N ps scope ∧ d.np = ps.length ∧ d.nN = N.length ∧ trSs p ⟨N, scope, none⟩ body = some d.body ∧
    ∀ (kV doc pm : Value) (an : Option Addr) (cdv ct : Value) (us : List Value), us.length = ps.length → bindArgs (PySem.W.fnOf x qual params body scope .none kV doc pm an cdv ct) ⟨us, []⟩ = pure (ps.zip us)
structure TabOk (K : PySem.W.Frag) (kl : Str → Option Addr) (mg : Str → Option Value) (p : Par) (T : Tab) (nm : Nat → Str) (ad : Nat → Addr) : Prop where
  sm : SmK K
  free : ∀ x, p.free x = true → mg x = none
  con : ∀ (cls : Str → Option Addr) (gu : Bool) x d, p.con x = some d → ∃ v u, mg x = some u ∧ RelV v u ∧ ∀ wd, RelD ⟨K, cls, gu⟩ wd v d
  ix : ∀ x pos f, p.fnOf x pos = some f → mg x = some (.ref (ad f)) ∧ ∃ d, T.fn f = some d
  cls : ∀ C ca, kl C = some ca → Cls K ca
  fld : ∀ f, p.fld f = true → ∀ C ca, kl C = some ca → NoAttr K ca f
  meth : ∀ m, p.meth m = true → ∀ C ca f, kl C = some ca → T.meth C m = some f → Meth K ca m (ad f) ∧ ∃ d, T.fn f = some d
  make : ∀ x, p.cls x = true → ∃ ca f, kl x = some ca ∧ mg x = some (.ref ca) ∧ Mk K ca (ad f) ∧ T.init x = some f ∧ ∃ d, T.fn f = some d
  def_ : ∀ f d, T.fn f = some d → DefOk K mg p d (nm f) (ad f)
  gen : ∀ x f, p.gen x = some f → ∃ fa fd ps, mg x = some (.ref fa) ∧ PySem.W.keepIn K (.ref fa) = true ∧ Binds K fd ps [] ∧ ∀ (P : Program) (w : World) (base : Heap) (gu : Bool) (m : Nat), GFn P w K mg base (2 * m) fa fd ps (spGen ⟨K, kl, gu⟩ ((T.cx m).γ f))
theorem relSt_start {G : Gv} {wd : Wd} {N : List Str} {vs : List V} {ds : List D} (r : RelDs G wd vs ds) (hl : ds.length ≤ N.length) : RelSt (G := G) wd (start N vs) (startE N.length ds) := by
  have len := RelDs.length r
  refine ⟨by simp [L2.start, startE, len], fun i d h => ?_⟩
  unfold startE at h
  unfold L2.start
  by_cases hi : i < ds.length
  · rw [List.getElem?_append_left (by simpa using hi), List.getElem?_map] at h
    cases q : ds[i]? with
    | none => rw [q] at h; cases h
    | some e =>
      rw [q] at h
      cases h
      obtain ⟨v, h1, h2⟩ := RelDs.get r q
      exact ⟨v, by rw [List.getElem?_append_left (by simp; omega), List.getElem?_map, h1]; rfl, h2⟩
  · rw [List.getElem?_append_right (by simpa using hi), List.getElem?_replicate] at h
    split at h <;> cases h
section
variable {P : Program} {w : World} {G : Gv} {mg : Str → Option Value} {base : Heap} {p : Par} {T : Tab} {nm : Nat → Str} {ad : Nat → Addr}
theorem cx_meth (m : Nat) : (T.cx m).meth = T.meth ∧ (T.cx m).init = T.init := by cases m <;> exact ⟨rfl, rfl⟩
theorem tab_fct (ok : TabOk G.K G.cls mg p T nm ad) (hrp : p.rp = true → G.gu = true) {n m : Nat} (hn : 2 * m + 2 ≤ n) (ih : ∀ f d, T.fn f = some d → FnG G.gu P w G.K mg base n (ad f) (spM G ((T.cx m).φ f))) : Fct P w G mg base n p (T.cx m) := by
  refine ⟨ok.free, fun x d h => ?_, fun x pos f h => ?_, ok.cls, hrp, fun x f h => ?_, ok.fld, fun x hx C ca f h1 h2 => ?_, fun x hx => ?_⟩
  · obtain ⟨v, u, h1, h2, h3⟩ := ok.con G.cls G.gu x d h
    exact ⟨v, u, h1, h2, h3⟩
  · obtain ⟨hg, d, hd⟩ := ok.ix x pos f h
    obtain ⟨qual, params, body, scope, N, ps, fd, F, _⟩ := (ok.def_ f d hd).ex
    exact ⟨ad f, hg, F.kp, ih f d hd⟩
  · obtain ⟨fa, fd, ps, h1, h2, h3, h4⟩ := ok.gen x f h
    exact ⟨fa, fd, ps, 2 * m, h1, h2, h3, hn, h4 P w base G.gu m⟩
  · rw [(cx_meth m).1] at h2
    obtain ⟨M, d, hd⟩ := ok.meth x hx C ca f h1 h2
    exact ⟨ad f, M, ih f d hd⟩
  · obtain ⟨ca, f, h1, h2, h3, h4, d, hd⟩ := ok.make x hx
    exact ⟨ca, ad f, f, h1, h2, h3, by rw [(cx_meth m).2]; exact h4, ih f d hd⟩
theorem fnG_run (ok : TabOk G.K G.cls mg p T nm ad) {n m f : Nat} {d : Fn} (hd : T.fn f = some d) (hf : Fct P w G mg base n p (T.cx m)) : FnG G.gu P w G.K mg base (n + 2) (ad f) (spM G (runB (T.cx m) d)) := by
  obtain ⟨qual, params, body, scope, N, ps, fd, F, S, e1, e2, e3, hb⟩ := (ok.def_ f d hd).ex
  have len : ∀ vs H Q E, spM G (runB (T.cx m) d) vs H Q E → vs.length = ps.length := fun vs H Q E ⟨wd, ds, L, _, r, run⟩ => by
    rw [RelDs.length r]
    unfold runB at run
    split at run
    · rename_i h; rw [h, e1]
    · exact False.elim run
  refine fnG_of F S hb len fun cdv A outer s H vs Q E hr hg hsp => ?_
  have hl := len vs H Q E hsp
  obtain ⟨wd, ds, L, w1, r, run⟩ := hsp
  have hds : ds.length = d.np := by rw [← RelDs.length r, hl, e1]
  unfold runB at run
  rw [if_pos hds] at run
  simp only [trSs, Option.map_eq_some_iff] at e3
  obtain ⟨l, hl2, eb⟩ := e3
  have hpl : ps.length ≤ N.length := by have := congrArg List.length S.pre; rw [List.length_take] at this; omega
  refine ⟨tS G (fun cls dx _ H' => E cls dx H') (evSs (T.cx m) d.body), ?_, wd, startE N.length ds, L, relSt_start r (by omega), w1, ?_⟩
  · rw [← eb]
    refine block_ok (P := P) (w := w) (mg := mg) (base := base) (n := n) (trS_ok hf 30) ?_ (takes_of rfl rfl rfl rfl) (passes_of rfl) hl2
    exact ⟨rfl, rfl, rfl, rfl, ⟨rfl, rfl, hg, by have := hr.un; show (A.deeper _).units + 65 < _; omega, S.nd, ok.sm⟩, rfl, rfl, rfl, hr, S.kind⟩
  · rw [← e2]
    cases q : evSs (T.cx m) d.body (startE d.nN ds) L with
    | stuck => rw [q] at run; exact False.elim run
    | exc C fs E' L' =>
      rw [q] at run
      exact fun wd' σ' H' cls dx e w r x => run wd' H' cls dx e w x
    | fl fl E' L' =>
      rw [q] at run
      cases fl with
      | nx => exact fun wd' σ' H' e w r => run wd' H' .non e w (by simp [RelD])
      | bk => exact False.elim run
      | ct => exact False.elim run
      | rt v => exact run
theorem tab_ok (ok : TabOk G.K G.cls mg p T nm ad) (hrp : p.rp = true → G.gu = true) : ∀ n f d, T.fn f = some d → FnG G.gu P w G.K mg base (2 * n + 2) (ad f) (spM G ((T.cx n).φ f))
  | 0, f, d, hd => fun A outer s H us vs Q E hr hg e0 r ⟨wd, ds, L, _, _, run⟩ => False.elim run
  | n + 1, f, d, hd => by
    have h := fnG_run ok hd (tab_fct ok hrp (Nat.le_refl _) (tab_ok ok hrp n))
    refine h.imp fun vs H Q E hs => ?_
    have e : (T.cx (n + 1)).φ f = fun ds L => runF (T.cx n) d ds L := by
      funext ds L
      simp only [Tab.cx, hd]
    rw [e] at hs
    by_cases hc : d.clean = true
    · have e2 : (fun ds L => runF (T.cx n) d ds L) = fun ds L => cleanR L (runB (T.cx n) d ds L) := by
        funext ds L
        simp only [runF, hc, if_true]
      rw [e2] at hs
      exact spM_clean vs H Q E hs
    · have e2 : (fun ds L => runF (T.cx n) d ds L) = runB (T.cx n) d := by
        funext ds L
        simp only [runF]
        rw [if_neg hc]
      rw [e2] at hs
      exact hs
end
end MP
set_option maxHeartbeats 4000000
/-! MPJ: a generator def's promise -/
namespace MP
open PySem PySem.Spec PyProof.Rows L2
/-! ### whether the guards are known changes no relation -/
section
variable {K : PySem.W.Frag} {cl : Str → Option Addr} {b b' : Bool} {wd : Wd}
mutual
theorem relD_gu : ∀ {d : D} {v : V}, RelD ⟨K, cl, b⟩ wd v d → RelD ⟨K, cl, b'⟩ wd v d
  | .non, v, h => by simpa [RelD] using h
  | .bl _, v, h => by simpa [RelD] using h
  | .int _, v, h => by simpa [RelD] using h
  | .str _, v, h => by simpa [RelD] using h
  | .tup ds, v, h => by
    simp only [RelD] at h ⊢
    obtain ⟨a, xs, h1, h2, h3⟩ := h
    exact ⟨a, xs, h1, h2, relDs_gu h3⟩
  | .lst t ds, v, h => by
    simp only [RelD] at h ⊢
    obtain ⟨a, xs, h1, h2, h3, h4, h5⟩ := h
    exact ⟨a, xs, h1, h2, relDs_gu h3, h4, h5⟩
  | .ref n, v, h => by simpa [RelD] using h
  | .dct ks ds, v, h => by
    simp only [RelD] at h ⊢
    obtain ⟨a, ys, h1, h2, h3, h4⟩ := h
    exact ⟨a, ys, h1, h2, h3, relDs_gu h4⟩
theorem relDs_gu : ∀ {ds : List D} {xs : List V}, RelDs ⟨K, cl, b⟩ wd xs ds → RelDs ⟨K, cl, b'⟩ wd xs ds
  | [], xs, h => by simpa [RelDs] using h
  | d :: ds, xs, h => by
    simp only [RelDs] at h ⊢
    obtain ⟨v, vs, h1, h2, h3⟩ := h
    exact ⟨v, vs, h1, relD_gu h2, relDs_gu h3⟩
end
theorem relO_gu {H : Hp} {a : Addr} : ∀ {o : LO}, RelO (G := ⟨K, cl, b⟩) wd H a o → RelO (G := ⟨K, cl, b'⟩) wd H a o
  | .lst ds, ⟨xs, h1, h2⟩ => ⟨xs, h1, relDs_gu h2⟩
  | .dic kvs, ⟨ys, h1, h2⟩ => ⟨ys, h1, Paired.mapP h2 fun _ _ h => ⟨h.1, relD_gu h.2⟩⟩
  | .ins C fs, ⟨ca, dx, gs, h0, h1, h2, h3⟩ => ⟨ca, dx, gs, h0, h1, h2, Paired.mapP h3 fun _ _ h => ⟨h.1, relD_gu h.2⟩⟩
  | .gone, _ => True.intro
theorem wok_gu {H : Hp} {L : Live} (w : WOk (G := ⟨K, cl, b⟩) wd H L) : WOk (G := ⟨K, cl, b'⟩) wd H L where
  sub := w.sub
  live := fun n o h => let ⟨a, h1, h2, h3⟩ := w.live n o h; ⟨a, h1, relO_gu h2, h3⟩
  dom := w.dom
  inj := w.inj
  bor := w.bor
  seq := w.seq
  there := w.there
theorem spGen_gu {m : List D → Live → Res (List D)} {vs : List V} {H : Hp} {cont : List V → Hp → Prop} {E : XK} (h : spGen ⟨K, cl, b⟩ m vs H cont E) : spGen ⟨K, cl, b'⟩ m vs H cont E := by
  obtain ⟨wd, ds, L, w, r, run⟩ := h
  refine ⟨wd, ds, L, wok_gu w, relDs_gu r, ?_⟩
  cases q : m ds L with
  | ok xs L' =>
    rw [q] at run
    exact fun wd' H' ys e w' r' => run wd' H' ys e (wok_gu w') (relDs_gu r')
  | exc C fs L' => rw [q] at run; exact run
  | stuck => rw [q] at run; exact run
end
section
variable {P : Program} {w : World} {K : PySem.W.Frag} {cl : Str → Option Addr} {mg : Str → Option Value} {base : Heap} {p : Par} {T : Tab} {nm : Nat → Str} {ad : Nat → Addr}
/-- what a generator def of the text needs -/
structure GenOk (K : PySem.W.Frag) (p : Par) (g : Gn) (x : Str) (fa : Addr) : Prop where
  ex : ∃ (qual : Str) (params : Arguments) (body : List PySem.Stmt) (scope : Scope) (N ps : List Str) (fd : FuncData), FunD K x qual params body scope [] [] fa fd ∧ GScope N ps scope ∧ g.np = ps.length ∧ g.nN = N.length ∧ trGss p ⟨N, scope, none⟩ body = some g.body ∧
    ∀ (kV doc pm : Value) (an : Option Addr) (cdv ct : Value) (us : List Value), us.length = ps.length → bindArgs (PySem.W.fnOf x qual params body scope .none kV doc pm an cdv ct) ⟨us, []⟩ = pure (ps.zip us)
theorem gen_run (ok : TabOk K cl mg p T nm ad) (hrp : p.rp = false) {g : Gn} {x : Str} {fa : Addr} (hg : GenOk K p g x fa) : ∃ fd ps, PySem.W.keepIn K (.ref fa) = true ∧ Binds K fd ps [] ∧ ∀ (P : Program) (w : World) (base : Heap) (m : Nat), GFn P w K mg base (2 * m + 4) fa fd ps (spGen ⟨K, cl, false⟩ (runGn (T.cx m) g)) := by
  obtain ⟨qual, params, body, scope, N, ps, fd, F, S, e1, e2, e3, hb⟩ := hg.ex
  obtain ⟨oc, od, dV, kV, doc, pm, an, cdv, ct, osl, rfl, lk, hcd, hD, _⟩ := F.ex
  have edV : dV = .none := by
    rcases hD with ⟨_, h⟩ | ⟨h, _⟩
    · exact h
    · exact absurd rfl h
  subst edV
  refine ⟨_, ps, F.kp, Binds.all fun us hl => hb kV doc pm an cdv ct us hl, fun P w base m => ?_⟩
  have hf : Fct P w ⟨K, cl, false⟩ mg base (2 * m + 2) p (T.cx m) := tab_fct (G := ⟨K, cl, false⟩) ok (fun h => by rw [hrp] at h; cases h) (Nat.le_refl _) (tab_ok (G := ⟨K, cl, false⟩) ok (fun h => by rw [hrp] at h; cases h) m)
  have len : ∀ vs H Q E, spGen ⟨K, cl, false⟩ (runGn (T.cx m) g) vs H Q E → vs.length = ps.length := fun vs H Q E ⟨wd, ds, L, _, r, run⟩ => by
    rw [RelDs.length r]
    unfold runGn at run
    split at run
    · rename_i h
      split at h
      · rename_i h2; rw [h2, e1]
      · cases h
    · exact False.elim run
  refine gfn_of (k := 2 * m + 3) (N := N) lk hcd S len fun A outer s H vs Q E pn hr hsp => ?_
  have hl := len vs H Q E hsp
  obtain ⟨wd, ds, L, w1, r, run⟩ := hsp
  have hds : ds.length = g.np := by rw [← RelDs.length r, hl, e1]
  unfold runGn at run
  rw [if_pos hds] at run
  simp only [trGss, Option.map_eq_some_iff] at e3
  obtain ⟨l, hl2, eb⟩ := e3
  have hpl : ps.length ≤ N.length := by have := congrArg List.length S.pre; rw [List.length_take] at this; omega
  refine ⟨tGS ⟨K, cl, false⟩ (evGs (T.cx m) g.body), ?_, wd, startE N.length ds, [], L, relSt_start r (by omega), w1, RelDs.nil, ?_⟩
  · rw [← eb]
    refine gblock_ok (fun s a h => trGst_ok (P := P) (w := w) (mg := mg) (base := base) (n := 2 * m + 2) hf ?_ takes_gcx owns_gcx S.co (by show (scope.kind == .module && _) = false; rw [S.kind]; rfl) 30 s a h) hl2
    exact ⟨rfl, rfl, rfl, rfl, ⟨rfl, rfl, (fun h => Bool.noConfusion h), by have := hr.un; show (A.deeper _).units + 65 < _; omega, S.nd, ok.sm⟩, rfl, rfl, rfl, hr, S.kind⟩
  · rw [← e2]
    cases q : evGs (T.cx m) g.body (startE g.nN ds) [] L with
    | stuck => rw [q] at run; exact False.elim run
    | fl fl E' ys L' =>
      rw [q] at run
      cases fl with
      | nx => exact fun wd' σ' H' ys' e w rs ry => run wd' H' ys' e w ry
      | bk => exact False.elim run
      | ct => exact False.elim run
      | rt v =>
        cases v with
        | non => exact fun wd' H' ys' v e w ry rv => ⟨by simpa [RelD] using rv, run wd' H' ys' e w ry⟩
        | _ => exact False.elim run
end
end MP
set_option maxHeartbeats 4000000
/-! MP: the law's call, the head -/
namespace MP
open PySem PySem.Spec PyProof.Rows L2
/-- the script is the one thing that is tracked -/
theorem law_g {P : Program} {w : World} {K : PySem.W.Frag} {mg mb : Str → Option Value} {k : Nat} {fa a : Addr} {sp : Sp} {s1 : Shared} {vs : List Value} {ns : List Int}
    (KX : K.In s1.heap) (hns : s1.heap.Ns mainGlobals mg) (hb : s1.heap.Ns builtinsNs mb) (hbb : ∀ x : Str, x ≠ "__name__" → mb x = bootBuiltins x) (hlim : s1.heap.NoLimit) (hg : s1.gens = #[])
    (ha : s1.heap.get? a = some { cls := .type "list", data := .seq vs.toArray }) (hi : IntsAre vs ns) (hl : ns.length ≤ sizeLine) (hr : Room k callerA) (hK : K.lookup a = none)
    (F : ∀ base : Heap, K.In base → base.Ns mainGlobals mg → FnG true P w K mg base k fa sp)
    (hsp : ∀ H : Hp, (∃ o, H a = some (.frz o (.lst (ns.map V.int)))) → sp [.ref a] H (fun v _ => v = .bl true) fun _ _ _ => False) :
    codeAny (model P w) callerA (.call (.ref fa) ⟨[.ref a], []⟩) (fun r s' => r = .ok (.ret (.bool true)) ∧ OldK s1.heap s'.heap ∧ s'.os = s1.os ∧ AllBare s'.gens) s1 := by
  obtain ⟨H, hH⟩ : ∃ H : Hp, H = fun b => if b = a then some (.frz { cls := .type "list", data := .seq vs.toArray } (.lst (ns.map V.int))) else none := ⟨_, rfl⟩
  have Ha : H a = some (.frz { cls := .type "list", data := .seq vs.toArray } (.lst (ns.map V.int))) := by rw [hH]; exact if_pos rfl
  have Hn : ∀ b, b ≠ a → H b = none := fun b n => by rw [hH]; exact if_neg n
  have hok : HOk P w H s1.heap := fun b u z => by
    by_cases q : b = a
    · subst q
      rw [Ha] at z; cases z
      exact ⟨ha, by rw [List.length_map]; exact hl, vs, _, vals_ints hi, ha⟩
    · rw [Hn b q] at z; cases z
  have keep : ∀ {b : Addr} {o : Obj}, s1.heap.get? b = some o → b ≠ a → (hidT s1.heap H).get? b = some o := fun e n => hidT_get e (Hn _ n)
  have ns_ : ∀ {b : Addr} {m : Str → Option Value}, s1.heap.Ns b m → (hidT s1.heap H).Ns b m := fun {b m} ⟨o, es, ep, e, d, r⟩ => ⟨o, es, ep, keep e (fun z => by subst z; rw [ha] at e; cases e; cases d), d, r⟩
  have hKb : K.In (hidT s1.heap H) := fun b o e => keep (KX b o e) (fun z => by subst z; rw [hK] at e; cases e)
  have e0 : Env0 P w K mg (hidT s1.heap H) callerA [] s1 H :=
    ⟨rfl, ⟨hKb, ns_ hns, ⟨mb, ns_ hb, hbb⟩, let ⟨mc, h1, h2⟩ := hlim; ⟨mc, ns_ h1, h2⟩⟩, fun b o e => of_hidT e, Nat.le_of_eq (hidT_size _ _), trivial, fun b hb => absurd (show b ∈ ([] : List Addr) from hb) (by simp), hok, .of_eq hg⟩
  refine codeAny_mono (F _ hKb (ns_ hns) callerA [] s1 H [.ref a] [.ref a] _ _ hr (fun _ => rfl) e0 (.cons rfl .nil) (hsp H ⟨_, Ha⟩)) fun r s' h => ?_
  match r, h with
  | .error e, ⟨_, _, _, _, _, _, _, _, _, _, _, _, z⟩ => exact False.elim z
  | .ok (.ret u), ⟨v, H', os, bare, un, hok', r', q⟩ =>
    have q' : v = .bl true := q
    subst q'
    obtain rfl : u = Value.bool true := r'
    refine ⟨rfl, OldK.of_keep fun b o e => ?_, os, bare⟩
    by_cases n : b = a
    · subst n
      obtain ⟨e1, _⟩ := hok' b _ (un.frzs b _ _ Ha)
      rw [ha] at e; cases e
      exact e1
    · exact un.keep b o e (Hn b n) (by intro z; exact absurd (show b ∈ ([] : List Addr) from z) (by simp)) (by simp)
/-- no list stands in the written part -/
def noLst (K : PySem.W.Frag) : Bool := K.all fun q => match q.2.cls with | .type c => !(decide (c = "list")) | _ => true
theorem noLst_ok {K : PySem.W.Frag} (h : noLst K = true) {a : Addr} {o : Obj} (e : K.lookup a = some o) (hc : o.cls = .type "list") : False := by
  have h1 := List.all_eq_true.mp h (a, o) (lookup_mem e)
  simp [hc] at h1
/-- the law's head wants this of its def -/
theorem walk_g {l : PySem.W.OpenLaw} {n k : Nat} {q : Program} {loose : List Str} {XP : (Str → Option Value) → Heap → Prop} {YP : World → Heap → Prop} {d : DefRec}
    (hn : l.most = some n) (hn2 : n ≤ sizeLine) (hdf : d.params.defaults = []) (hr : Room k callerA)
    (F : ∀ (w : World) (mg : Str → Option Value) (fa : Addr) (h : Heap), YP w h → h.Ns mainGlobals mg → mg d.name = some (.ref fa) →
      ∃ (K : PySem.W.Frag) (sp : Sp), K.In h ∧ noLst K = true ∧ (∀ (H : Hp) (a : Addr) (ns : List Int), ns.length ≤ n → (∀ i ∈ ns, Builtin.Int.intBits i ≤ 1048576) → (∃ o, H a = some (.frz o (.lst (ns.map V.int)))) → sp [.ref a] H (fun v _ => v = .bl true) fun _ _ _ => False) ∧
        ∀ base : Heap, K.In base → base.Ns mainGlobals mg → FnG true l.prog w K mg base k fa sp) :
    PySem.W.WalkO q loose XP YP l.row.toRowW d [] (fun f vs => PySem.call f vs) := by
  refine Att.attach_callB hn hdf fun w s0 s1 mg mb fa o pm cd doc a vs ns G Y ho hd hcd hmg hobj hints hlen hbits hg => ?_
  obtain ⟨K, sp, KX, nl, hsp, hF⟩ := F w mg fa _ Y G.T.g hmg
  have hK : K.lookup a = none := by
    cases e : K.lookup a with
    | none => rfl
    | some o =>
      have := KX a o e
      rw [hobj] at this; cases this
      exact (noLst_ok nl e rfl).elim
  exact law_g KX G.T.g G.T.b G.T.builtins G.T.nolimit hg hobj hints (Nat.le_trans hlen hn2) hr hK hF fun H hH => hsp H a ns hlen hbits hH
/-- the hook: facts, defs, and no list -/
def hookN (n : Nat) (fa : List He.Fa) (fn : List He.DefD) : PySem.W.Hook where
  α := Bool × He.AlD
  obs := fun s => (noLst (He.frG s.heap.get? (He.asD s.heap.get? n)), He.obsDG n fa fn s.heap.get?)
  val := fun _ => (true, He.valD fn)
  says := fun _ h => ∃ K : PySem.W.Frag, K.In h ∧ He.SaysD fa fn K ∧ noLst K = true
  of := fun _ _ e => ⟨_, He.frG_in, congrArg Prod.snd e, congrArg Prod.fst e⟩
  keeps := fun _ _ _ ⟨K, hK, c, n⟩ k => ⟨K, PySem.W.Frag.In.keeps hK k, c, n⟩
def obN (n : Nat) (fa : List He.Fa) (fn : List He.DefD) (s : PySem.W.SharedT) : Bool × He.AlD := (noLst (He.frG (HandSHeadRun.getT s) (He.asD (HandSHeadRun.getT s) n)), He.obsDG n fa fn (HandSHeadRun.getT s))
theorem obN_eq (n : Nat) (fa : List He.Fa) (fn : List He.DefD) (s : PySem.W.SharedT) : obN n fa fn s = (hookN n fa fn).obs s.abs := by
  have e : HandSHeadRun.getT s = s.abs.heap.get? := funext (HandSHeadRun.getT_eq s)
  unfold obN
  rw [e]
  rfl
/-- the law's promise from its evaluation -/
theorem law_sp {G : Gv} {m : List D → Live → Res D} {H : Hp} {a : Addr} {ns : List Int} (hH : ∃ o, H a = some (.frz o (.lst (ns.map V.int)))) (h : ∃ L, m [.lst 0 (ns.map D.int)] [] = .ok (.bl true) L) :
    spM G m [.ref a] H (fun v _ => v = .bl true) fun _ _ _ => False := by
  obtain ⟨o, hH⟩ := hH
  obtain ⟨L, h⟩ := h
  have w : WOk (G := G) { ι := fun _ => none, F := fun b => if b = a then H a else none, bor := [] } H [] := by
    refine ⟨fun b u z => ?_, fun n o z => ?_, fun n b z => ?_, fun n m b z => ?_, fun b z => ?_, fun b u z => ?_, fun n b z => ?_⟩
    rotate_left
    · simp at z
    · exact absurd (show (none : Option Addr) = some b from z) (by simp)
    · exact fun _ => absurd (show (none : Option Addr) = some b from z) (by simp)
    · exact absurd (show b ∈ ([] : List Addr) from z) (by simp)
    rotate_left
    · exact absurd (show (none : Option Addr) = some b from z) (by simp)
    · have z' : (if b = a then H a else none) = some u := z
      split at z'
      · rename_i e; rw [e]; exact z'
      · cases z'
    · have z' : (if b = a then H a else none) = some u := z
      split at z'
      · rw [hH] at z'; cases z'
        exact .inr (.inr (.inl ⟨_, _, rfl⟩))
      · cases z'
  refine ⟨_, [.lst 0 (ns.map D.int)], [], w, ?_, ?_⟩
  · refine RelDs.cons ?_ RelDs.nil
    simp only [RelD]
    exact ⟨a, ns.map V.int, rfl, .inr ⟨o, by show (if a = a then H a else none) = _; rw [if_pos rfl]; exact hH⟩, relInts ns, fun _ => by simp, fun k hk => by cases hk⟩
  · rw [h]
    intro wd' H' v e w r
    simpa [RelD] using r
end MP
set_option maxHeartbeats 4000000
/-! MP: a law's defs, told by data -/
namespace MP
open PySem PySem.Spec PyProof.Rows L2
/-! ### constants of the module -/
def relVD (K : PySem.W.Frag) : Nat → Value → D → Bool
  | 0, _, _ => false
  | n + 1, u, d => match d with
    | .non => (match u with | .none => true | _ => false)
    | .bl b => (match u with | .bool c => decide (b = c) | _ => false)
    | .int i => (match u with | .int j _ => decide (i = j) | _ => false)
    | .str x => (match u with | .str y _ => decide (x = y) | _ => false)
    | .tup ds => (match u with
      | .ref a => (match K.lookup a with
        | some o => (match o.data with
          | .seq its _ => decide (o.cls = .type "tuple") && decide (its.size ≤ sizeLine) && decide (its.toList.length = ds.length) && (its.toList.zip ds).all fun q => relVD K n q.1 q.2
          | _ => false)
        | none => false)
      | _ => false)
    | _ => false
theorem relVDs_ok {K : PySem.W.Frag} {n : Nat} (ih : ∀ {u : Value} {d : D}, relVD K n u d = true → ∃ v, RelV v u ∧ ∀ cls gu wd, RelD ⟨K, cls, gu⟩ wd v d) : ∀ {us : List Value} {ds : List D}, us.length = ds.length → ((us.zip ds).all fun q => relVD K n q.1 q.2) = true →
    ∃ vs, Vals vs us ∧ ∀ cls gu wd, RelDs ⟨K, cls, gu⟩ wd vs ds
  | [], [], _, _ => ⟨[], .nil, fun _ _ _ => RelDs.nil⟩
  | [], _ :: _, h, _ => by simp at h
  | _ :: _, [], h, _ => by simp at h
  | u :: us, d :: ds, hl, h => by
    simp only [List.zip_cons_cons, List.all_cons, Bool.and_eq_true] at h
    obtain ⟨v, h1, h2⟩ := ih h.1
    obtain ⟨vs, h3, h4⟩ := relVDs_ok ih (by simpa using hl) h.2
    exact ⟨v :: vs, .cons h1 h3, fun cls gu wd => RelDs.cons (h2 cls gu wd) (h4 cls gu wd)⟩
theorem relVD_ok {K : PySem.W.Frag} : ∀ {n : Nat} {u : Value} {d : D}, relVD K n u d = true → ∃ v, RelV v u ∧ ∀ cls gu wd, RelD ⟨K, cls, gu⟩ wd v d
  | 0, u, d, h => by simp [relVD] at h
  | n + 1, u, d, h => by
    cases d with
    | non => cases u <;> first | (simp [relVD] at h; done) | exact ⟨.non, rfl, fun _ _ _ => by simp [RelD]⟩
    | bl b => cases u <;> first | (simp [relVD] at h; done) | (simp only [relVD, decide_eq_true_eq] at h; subst h; exact ⟨.bl _, rfl, fun _ _ _ => by simp [RelD]⟩)
    | int i => cases u <;> first | (simp [relVD] at h; done) | (simp only [relVD, decide_eq_true_eq] at h; subst h; exact ⟨.int _, ⟨_, rfl⟩, fun _ _ _ => by simp [RelD]⟩)
    | str i => cases u <;> first | (simp [relVD] at h; done) | (simp only [relVD, decide_eq_true_eq] at h; subst h; exact ⟨.str _, ⟨_, rfl⟩, fun _ _ _ => by simp [RelD]⟩)
    | tup ds =>
      cases u with
      | ref a =>
        simp only [relVD] at h
        cases q : K.lookup a with
        | none => rw [q] at h; cases h
        | some o =>
          rw [q] at h
          simp only at h
          cases qd : o.data with
          | seq its k =>
            rw [qd] at h
            simp only [Bool.and_eq_true, decide_eq_true_eq] at h
            obtain ⟨⟨⟨h1, h2⟩, h3⟩, h4⟩ := h
            obtain ⟨vs, h5, h6⟩ := relVDs_ok (fun {u d} h => relVD_ok h) h3 h4
            refine ⟨.ref a, rfl, fun cls gu wd => ?_⟩
            simp only [RelD]
            exact ⟨a, vs, rfl, .inr ⟨o, its, k, q, h1, qd, h2, h5⟩, h6 cls gu wd⟩
          | _ => rw [qd] at h; cases h
      | _ => simp [relVD] at h
    | _ => cases u <;> simp [relVD] at h
def conB (K : PySem.W.Frag) (q : Str × D) : Bool := match PySem.W.nsIn K mainGlobals q.1 with
  | some (some u) => relVD K 4 u q.2
  | _ => false
/-! ### a law's data -/
structure Dn where
  id : Nat
  name : Str
  cls : Option Str
  st : PySem.Stmt
  N : List Str
  fn : Fn
abbrev stArgs : PySem.Stmt → Arguments | .FunctionDef _ a _ _ _ _ _ _ _ _ => a | _ => ⟨[], [], none, [], [], none, []⟩
abbrev stBody : PySem.Stmt → List PySem.Stmt | .FunctionDef _ _ b _ _ _ _ _ _ _ => b | _ => []
abbrev stScope : PySem.Stmt → Scope | .FunctionDef _ _ _ _ _ _ s _ _ _ => s | _ => ⟨.function, [], false, false, []⟩
def Dn.ps (d : Dn) : List Str := (stArgs d.st).args.map (·.arg)
def Dn.at_ (d : Dn) : Str × Option Str := match d.cls with | none => (d.name, none) | some C => (C, some d.name)
def Dn.qual (d : Dn) : Str := match d.cls with | none => d.name | some C => C ++ Str.ofString "." ++ d.name
def Dn.dd (d : Dn) : He.DefD := ⟨d.at_, d.name, d.qual, stArgs d.st, stBody d.st, stScope d.st, [], []⟩
structure Dn.Ok (p : Par) (d : Dn) : Prop where
  sc : FnScope d.N d.ps (stScope d.st)
  np : d.fn.np = d.ps.length
  nN : d.fn.nN = d.N.length
  tr : trSs p ⟨d.N, stScope d.st, none⟩ (stBody d.st) = some d.fn.body
  bd : ∀ (kV doc pm : Value) (an : Option Addr) (cdv ct : Value) (us : List Value), us.length = d.ps.length → bindArgs (PySem.W.fnOf d.name d.qual (stArgs d.st) (stBody d.st) (stScope d.st) .none kV doc pm an cdv ct) ⟨us, []⟩ = pure (d.ps.zip us)
/-- a class: its fields, its methods, its __init__ -/
structure Cn where
  name : Str
  flds : List Str
  mths : List (Str × Nat)
  ini : Nat
/-- what the translation is told: live lists at these places, the names of the defs, constants, the built-ins' names -/
structure LD where
  lv : List (Nat × Nat)
  con : List (Str × D)
  free : List Str
  nms : List (Str × Nat)
  cl : List Cn := []
  rp : Bool := true
  gens : List (Str × Nat) := []
def LD.par (l : LD) : Par := ⟨fun p => l.lv.any fun q => q.1 == p.line && q.2 == p.col, fun x _ => l.nms.lookup x, fun x => l.con.lookup x, fun x => l.free.any fun y => decide (y = x), fun f => l.cl.any fun c => c.flds.any fun y => decide (y = f), fun m => l.cl.any fun c => c.mths.any fun y => decide (y.1 = m), fun x => l.cl.any fun c => decide (c.name = x), l.rp, fun x => l.gens.lookup x⟩
def LD.fas (l : LD) : List He.Fa := l.cl.flatMap fun c => [.glo c.name, .cls c.name, .mkr c.name] ++ (l.cl.flatMap fun k => k.flds.map fun f => .noat c.name f) ++ c.mths.map fun q => .meth c.name q.1
def LD.fa (l : LD) : List He.Fa := l.free.map .free ++ l.nms.map (fun q => .glo q.1) ++ l.fas
def LD.fag (l : LD) : List He.Fa := l.gens.map fun q => .glo q.1
def fnd : List Dn → Nat → Option Dn
  | [], _ => none
  | d :: ds, f => if d.id = f then some d else fnd ds f
theorem fnd_mem {f : Nat} {d : Dn} : ∀ {ds : List Dn}, fnd ds f = some d → d ∈ ds ∧ d.id = f
  | [], h => by cases h
  | e :: ds, h => by
    simp only [fnd] at h
    split at h
    · rename_i z; cases h; exact ⟨List.mem_cons_self, z⟩
    · obtain ⟨a, b⟩ := fnd_mem h; exact ⟨List.mem_cons_of_mem _ a, b⟩
theorem fnd_of {d : Dn} : ∀ {ds : List Dn}, d ∈ ds → (ds.map (·.id)).Nodup → fnd ds d.id = some d
  | [], h, _ => by cases h
  | e :: ds, h, u => by
    rw [List.map_cons, List.nodup_cons] at u
    simp only [fnd]
    rcases List.mem_cons.mp h with rfl | h
    · rw [if_pos rfl]
    · rw [if_neg fun z => u.1 (by rw [z]; exact List.mem_map.mpr ⟨d, h, rfl⟩)]
      exact fnd_of h u.2
def fndC : List Cn → Str → Option Cn
  | [], _ => none
  | c :: cs, x => if c.name = x then some c else fndC cs x
theorem fndC_mem {x : Str} {c : Cn} : ∀ {cs : List Cn}, fndC cs x = some c → c ∈ cs ∧ c.name = x
  | [], h => by cases h
  | k :: cs, h => by
    simp only [fndC] at h
    split at h
    · rename_i z; cases h; exact ⟨List.mem_cons_self, z⟩
    · obtain ⟨a, b⟩ := fndC_mem h; exact ⟨List.mem_cons_of_mem _ a, b⟩
def tabX (ds : List Dn) (cl : List Cn) (fuel : Nat) (gen : Nat → Option Gn) (gcx : Nat → Cxt) : Tab := ⟨fun f => (fnd ds f).map (·.fn), fun C m => (fndC cl C).bind fun c => c.mths.lookup m, fun C => (fndC cl C).map (·.ini), fun _ => none, fuel, gen, gcx⟩
def stuckCx : Cxt := ⟨fun _ _ _ => .stuck, fun _ _ _ => .stuck, fun _ => [], fun _ _ => none, fun _ => none, fun _ => none, 0⟩
def tabC (ds : List Dn) (cl : List Cn) (fuel : Nat) : Tab := tabX ds cl fuel (fun _ => none) fun _ => stuckCx
abbrev tabOf (ds : List Dn) (fuel : Nat) : Tab := tabC ds [] fuel
/-- the classes' table names the defs' table -/
def isM (ds : List Dn) (f : Nat) (C m : Str) : Bool := match fnd ds f with | some d => decide (d.cls = some C) && decide (d.name = m) | none => false
def clB (ds : List Dn) (cl : List Cn) : Bool := cl.all fun c => (c.mths.all fun q => isM ds q.2 c.name q.1) && isM ds c.ini c.name (Str.ofString "__init__")
theorem isM_ok {ds : List Dn} {f : Nat} {C m : Str} (h : isM ds f C m = true) : ∃ d, fnd ds f = some d ∧ d.cls = some C ∧ d.name = m := by
  unfold isM at h
  cases q : fnd ds f with
  | none => rw [q] at h; cases h
  | some d =>
    rw [q] at h
    simp only [Bool.and_eq_true, decide_eq_true_eq] at h
    exact ⟨d, rfl, h.1, h.2⟩
def nmsOf (ds : List Dn) : List (Str × Nat) := ds.filterMap fun d => match d.cls with | none => some (d.name, d.id) | some _ => none
def adOf (K : PySem.W.Frag) (ds : List Dn) (f : Nat) : Addr := match fnd ds f with | some d => He.fAd K d.at_ | none => 0
def clOf (K : PySem.W.Frag) (cl : List Cn) (C : Str) : Option Addr := (fndC cl C).map fun _ => He.ga K C
def nmOf (ds : List Dn) (f : Nat) : Str := ((fnd ds f).map (·.name)).getD Str.empty
def frS (g : Addr → Option Obj) (n : Nat) : PySem.W.Frag := He.frG g (sysModules :: He.asD g n)
def smB (K : PySem.W.Frag) : Bool := match K.lookup sysModules with | some o => (match o.cls with | .type c => decide (c = "dict") | _ => false) | none => false
theorem smB_ok {K : PySem.W.Frag} (h : smB K = true) : SmK K := by
  unfold smB at h
  cases q : K.lookup sysModules with
  | none => rw [q] at h; cases h
  | some o =>
    rw [q] at h
    simp only at h
    cases qc : o.cls <;> rw [qc] at h <;> simp at h
    subst h
    exact ⟨o, q, qc⟩
def hookL (n : Nat) (l : LD) (dds : List He.DefD) : PySem.W.Hook where
  α := Bool × He.AlD
  obs := fun s => ((noLst (frS s.heap.get? n) && smB (frS s.heap.get? n)) && l.con.all (conB (frS s.heap.get? n)), He.obsD (l.fa ++ l.fag) dds (frS s.heap.get? n))
  val := fun _ => (true, He.valD dds)
  says := fun _ h => ∃ K : PySem.W.Frag, K.In h ∧ He.SaysD (l.fa ++ l.fag) dds K ∧ (noLst K = true ∧ SmK K) ∧ l.con.all (conB K) = true
  of := fun _ _ e => ⟨_, He.frG_in, congrArg Prod.snd e, ⟨(Bool.and_eq_true_iff.mp (Bool.and_eq_true_iff.mp (congrArg Prod.fst e)).1).1, smB_ok (Bool.and_eq_true_iff.mp (Bool.and_eq_true_iff.mp (congrArg Prod.fst e)).1).2⟩, (Bool.and_eq_true_iff.mp (congrArg Prod.fst e)).2⟩
  keeps := fun _ _ _ ⟨K, hK, c⟩ k => ⟨K, PySem.W.Frag.In.keeps hK k, c⟩
def obL (n : Nat) (l : LD) (dds : List He.DefD) (s : PySem.W.SharedT) : Bool × He.AlD := ((noLst (frS (HandSHeadRun.getT s) n) && smB (frS (HandSHeadRun.getT s) n)) && l.con.all (conB (frS (HandSHeadRun.getT s) n)), He.obsD (l.fa ++ l.fag) dds (frS (HandSHeadRun.getT s) n))
theorem obL_eq (n : Nat) (l : LD) (dds : List He.DefD) (s : PySem.W.SharedT) : obL n l dds s = (hookL n l dds).obs s.abs := by
  have e : HandSHeadRun.getT s = s.abs.heap.get? := funext (HandSHeadRun.getT_eq s)
  unfold obL
  rw [e]
  rfl
theorem says_all {fa : List He.Fa} {fn : List He.DefD} {K : PySem.W.Frag} (c : He.SaysD fa fn K) {f : He.Fa} (h : f ∈ fa) : f.ok K = true := by
  obtain ⟨i, hi⟩ := List.mem_iff_getElem?.mp h
  exact c.fact i hi
theorem tabL_ok {l : LD} {ds : List Dn} {K : PySem.W.Frag} {h : Heap} {mg : Str → Option Value} {fuel : Nat} {gen : Nat → Option Gn} {gcx : Nat → Cxt} (hsm : SmK K) (X : K.In h) (Gl : h.Ns mainGlobals mg) (c : ∀ f ∈ l.fa, f.ok K = true) (cd : ∀ d ∈ ds, ∃ fd, FunD K d.name d.qual (stArgs d.st) (stBody d.st) (stScope d.st) [] [] (He.fAd K d.at_) fd) (cc : l.con.all (conB K) = true) (hn : l.nms = nmsOf ds) (hc : clB ds l.cl = true) (hu : (ds.map (·.id)).Nodup) (hd : ∀ d ∈ ds, d.Ok l.par)
    (hgen : ∀ x f, l.par.gen x = some f → ∃ fa fd ps, mg x = some (.ref fa) ∧ PySem.W.keepIn K (.ref fa) = true ∧ Binds K fd ps [] ∧ ∀ (P : Program) (w : World) (base : Heap) (gu : Bool) (m : Nat), GFn P w K mg base (2 * m) fa fd ps (spGen ⟨K, clOf K l.cl, gu⟩ (((tabX ds l.cl fuel gen gcx).cx m).γ f))) :
    TabOk K (clOf K l.cl) mg l.par (tabX ds l.cl fuel gen gcx) (nmOf ds) (adOf K ds) where
  gen := hgen
  sm := hsm
  free := fun x hx => by
    obtain ⟨y, hy, e⟩ := List.any_eq_true.mp (show (l.free.any fun y => decide (y = x)) = true from hx)
    have e := of_decide_eq_true e
    subst e
    exact He.free_ok X Gl (c _ (List.mem_append_left _ (List.mem_append_left _ (List.mem_map.mpr ⟨y, hy, rfl⟩))))
  con := fun cls gu x d hx => by
    have hm := lookup_mem (show l.con.lookup x = some d from hx)
    have h1 := List.all_eq_true.mp cc _ hm
    unfold conB at h1
    cases q : PySem.W.nsIn K mainGlobals x with
    | none => rw [q] at h1; cases h1
    | some o =>
      rw [q] at h1
      cases o with
      | none => cases h1
      | some u =>
        obtain ⟨v, h2, h3⟩ := relVD_ok h1
        exact ⟨v, u, PySem.W.mg_of X Gl q, h2, h3 cls gu⟩
  ix := fun x pos f hx => by
    have h1 := lookup_mem (show l.nms.lookup x = some f from hx)
    have h1' := h1
    rw [hn] at h1
    obtain ⟨d, hd', e⟩ := List.mem_filterMap.mp h1
    cases qc : d.cls with
    | some C => rw [qc] at e; cases e
    | none =>
      rw [qc] at e
      cases e
      have h2 := fnd_of hd' hu
      refine ⟨?_, d.fn, by simp [tabX, h2]⟩
      have e1 : adOf K ds d.id = He.ga K d.name := by simp only [adOf, h2, Dn.at_, qc]; rfl
      rw [e1]
      exact He.glo_ok X Gl (c _ (List.mem_append_left _ (List.mem_append_right _ (List.mem_map.mpr ⟨(d.name, d.id), h1', rfl⟩))))
  cls := fun C ca h => by
    simp only [clOf, Option.map_eq_some_iff] at h
    obtain ⟨k, hk, rfl⟩ := h
    obtain ⟨k1, rfl⟩ := fndC_mem hk
    exact He.cls_ok (c _ (List.mem_append_right _ (List.mem_flatMap.mpr ⟨k, k1, by simp⟩)))
  fld := fun f hf C ca h => by
    simp only [clOf, Option.map_eq_some_iff] at h
    obtain ⟨k, hk, rfl⟩ := h
    obtain ⟨k1, rfl⟩ := fndC_mem hk
    obtain ⟨j, hj, e⟩ := List.any_eq_true.mp (show (l.cl.any fun c => c.flds.any fun y => decide (y = f)) = true from hf)
    obtain ⟨y, hy, e⟩ := List.any_eq_true.mp e
    have e := of_decide_eq_true e
    subst e
    exact He.noat_ok (c _ (List.mem_append_right _ (List.mem_flatMap.mpr ⟨k, k1, List.mem_append_left _ (List.mem_append_right _ (List.mem_flatMap.mpr ⟨j, hj, List.mem_map.mpr ⟨y, hy, rfl⟩⟩))⟩)))
  meth := fun m hm C ca f h1 h2 => by
    simp only [clOf, Option.map_eq_some_iff] at h1
    obtain ⟨k, hk, rfl⟩ := h1
    have h2' : ((fndC l.cl C).bind fun c => c.mths.lookup m) = some f := h2
    rw [hk, Option.bind_some] at h2'
    obtain ⟨k1, rfl⟩ := fndC_mem hk
    have hq := lookup_mem h2'
    have hb := List.all_eq_true.mp hc k k1
    rw [Bool.and_eq_true] at hb
    obtain ⟨d, g1, g2, g3⟩ := isM_ok (List.all_eq_true.mp hb.1 _ hq)
    refine ⟨?_, d.fn, by simp [tabX, g1]⟩
    have e1 : adOf K ds f = He.ma K (He.ga K k.name) m := by
      have g1' : fnd ds f = some d := g1
      have g3' : d.name = m := g3
      simp only [adOf, g1', Dn.at_, g2, g3']; rfl
    rw [e1]
    exact He.meth_ok (c _ (List.mem_append_right _ (List.mem_flatMap.mpr ⟨k, k1, List.mem_append_right _ (List.mem_map.mpr ⟨(m, f), hq, rfl⟩)⟩)))
  make := fun x hx => by
    obtain ⟨k0, hk0, e⟩ := List.any_eq_true.mp (show (l.cl.any fun c => decide (c.name = x)) = true from hx)
    have e := of_decide_eq_true e
    obtain ⟨k, hk⟩ : ∃ k, fndC l.cl x = some k := by
      have : ∀ cs : List Cn, k0 ∈ cs → ∃ k, fndC cs x = some k := fun cs => by
        induction cs with
        | nil => intro h; cases h
        | cons a r ih =>
          intro h
          simp only [fndC]
          by_cases q : a.name = x
          · exact ⟨a, if_pos q⟩
          · rw [if_neg q]
            rcases List.mem_cons.mp h with rfl | h
            · exact absurd e q
            · exact ih h
      exact this _ hk0
    clear e hk0
    obtain ⟨k1, rfl⟩ := fndC_mem hk
    have hb := List.all_eq_true.mp hc k k1
    rw [Bool.and_eq_true] at hb
    obtain ⟨d, g1, g2, g3⟩ := isM_ok hb.2
    refine ⟨He.ga K k.name, k.ini, by simp [clOf, hk], He.glo_ok X Gl (c _ (List.mem_append_right _ (List.mem_flatMap.mpr ⟨k, k1, by simp⟩))), ?_, by simp [tabX, hk], d.fn, by simp [tabX, g1]⟩
    have e1 : adOf K ds k.ini = He.ma K (He.ga K k.name) (Str.ofString "__init__") := by simp only [adOf, g1, Dn.at_, g2, g3]; rfl
    rw [e1]
    exact He.mkr_ok (c _ (List.mem_append_right _ (List.mem_flatMap.mpr ⟨k, k1, by simp⟩)))
  def_ := fun f d hfd => by
    simp only [tabX, Option.map_eq_some_iff] at hfd
    obtain ⟨e, he, rfl⟩ := hfd
    have en : nmOf ds f = e.name := by simp [nmOf, he]
    obtain ⟨sc, np, nN, tr, bd⟩ := hd e (fnd_mem he).1
    obtain ⟨fd, F⟩ := cd e (fnd_mem he).1
    have ea : adOf K ds f = He.fAd K e.at_ := by simp only [adOf, he]
    rw [en, ea]
    exact ⟨e.qual, stArgs e.st, stBody e.st, stScope e.st, e.N, e.ps, fd, F, sc, np, nN, tr, bd⟩
theorem says_defs {fa : List He.Fa} {dds : List He.DefD} {K : PySem.W.Frag} (c : He.SaysD fa dds K) {ds : List Dn} (h : ∀ d ∈ ds, d.dd ∈ dds) : ∀ d ∈ ds, ∃ fd, FunD K d.name d.qual (stArgs d.st) (stBody d.st) (stScope d.st) [] [] (He.fAd K d.at_) fd := fun d hd => by
  obtain ⟨i, hi⟩ := List.mem_iff_getElem?.mp (h d hd)
  obtain ⟨fd, F⟩ := c.def_ i hi
  exact ⟨fd, F⟩
/-- the law's promise for the head, from its table -/
theorem law_T {l : LD} {dds : List He.DefD} {n m f : Nat} {ds : List Dn} {T : Tab} {P : Program} {w : World} {mg : Str → Option Value} {fa : Addr} {h : Heap} {d : Dn} (Y : (hookL n l dds).says w h) (hmg : mg d.name = some (.ref fa)) (hg : l.nms.lookup d.name = some f) (hT : T.fn f = some d.fn)
    (ok : ∀ K : PySem.W.Frag, K.In h → He.SaysD (l.fa ++ l.fag) dds K → SmK K → l.con.all (conB K) = true → TabOk K (clOf K l.cl) mg l.par T (nmOf ds) (adOf K ds))
    (ev : ∀ ns : List Int, ns.length ≤ 63 → (∀ i ∈ ns, Builtin.Int.intBits i ≤ 1048576) → ∃ L, (T.cx m).φ f [.lst 0 (ns.map D.int)] [] = .ok (.bl true) L) :
    ∃ (K : PySem.W.Frag) (sp : Sp), K.In h ∧ noLst K = true ∧ (∀ (H : Hp) (a : Addr) (ns : List Int), ns.length ≤ 63 → (∀ i ∈ ns, Builtin.Int.intBits i ≤ 1048576) → (∃ o, H a = some (.frz o (.lst (ns.map V.int)))) → sp [.ref a] H (fun v _ => v = .bl true) fun _ _ _ => False) ∧
        ∀ base : Heap, K.In base → base.Ns mainGlobals mg → FnG true P w K mg base (2 * m + 2) fa sp := by
  obtain ⟨K, KX, c, ⟨nl, hsm⟩, cc⟩ := Y
  have ok := ok K KX c hsm cc
  refine ⟨K, spM ⟨K, clOf K l.cl, true⟩ ((T.cx m).φ f), KX, nl, fun H a ns hl hb hH => law_sp hH (ev ns hl hb), fun base hb hB => ?_⟩
  have key := tab_ok (P := P) (w := w) (base := base) (G := ⟨K, clOf K l.cl, true⟩) ok (fun _ => rfl) m f d.fn hT
  have hg2 := (ok.ix d.name ⟨0, 0, 0, 0⟩ f hg).1
  rw [hg2] at hmg
  cases hmg
  exact key
/-- without generators -/
theorem law_F {l : LD} {ds : List Dn} {n m fuel f : Nat} {P : Program} {w : World} {mg : Str → Option Value} {fa : Addr} {h : Heap} {d : Dn} (Y : (hookL n l (ds.map Dn.dd)).says w h) (Gl : h.Ns mainGlobals mg) (hmg : mg d.name = some (.ref fa)) (hn : l.nms = nmsOf ds) (hge : l.gens = []) (hc : clB ds l.cl = true) (hu : (ds.map (·.id)).Nodup) (hd : ∀ d ∈ ds, d.Ok l.par)
    (hf : fnd ds f = some d) (hg : l.nms.lookup d.name = some f) (ev : ∀ ns : List Int, ns.length ≤ 63 → (∀ i ∈ ns, Builtin.Int.intBits i ≤ 1048576) → ∃ L, ((tabC ds l.cl fuel).cx m).φ f [.lst 0 (ns.map D.int)] [] = .ok (.bl true) L) :
    ∃ (K : PySem.W.Frag) (sp : Sp), K.In h ∧ noLst K = true ∧ (∀ (H : Hp) (a : Addr) (ns : List Int), ns.length ≤ 63 → (∀ i ∈ ns, Builtin.Int.intBits i ≤ 1048576) → (∃ o, H a = some (.frz o (.lst (ns.map V.int)))) → sp [.ref a] H (fun v _ => v = .bl true) fun _ _ _ => False) ∧
        ∀ base : Heap, K.In base → base.Ns mainGlobals mg → FnG true P w K mg base (2 * m + 2) fa sp :=
  law_T (ds := ds) (T := tabC ds l.cl fuel) Y hmg hg (by simp [tabC, tabX, hf]) (fun K KX c hsm cc => tabL_ok hsm KX Gl (fun f hf => says_all c (List.mem_append_left _ hf)) (says_defs c fun d hd => List.mem_map.mpr ⟨d, hd, rfl⟩) cc hn hc hu hd fun x f h => by
    have h : l.gens.lookup x = some f := h
    rw [hge] at h; cases h) ev
/-- a generator def of a law -/
structure Gdn where
  id : Nat
  name : Str
  st : PySem.Stmt
  N : List Str
  gn : Gn
def Gdn.ps (d : Gdn) : List Str := (stArgs d.st).args.map (·.arg)
def Gdn.dd (d : Gdn) : He.DefD := ⟨(d.name, none), d.name, d.name, stArgs d.st, stBody d.st, stScope d.st, [], []⟩
structure Gdn.Ok (p : Par) (d : Gdn) : Prop where
  sc : GScope d.N d.ps (stScope d.st)
  np : d.gn.np = d.ps.length
  nN : d.gn.nN = d.N.length
  tr : trGss p ⟨d.N, stScope d.st, none⟩ (stBody d.st) = some d.gn.body
  bd : ∀ (kV doc pm : Value) (an : Option Addr) (cdv ct : Value) (us : List Value), us.length = d.ps.length → bindArgs (PySem.W.fnOf d.name d.name (stArgs d.st) (stBody d.st) (stScope d.st) .none kV doc pm an cdv ct) ⟨us, []⟩ = pure (d.ps.zip us)
def gfnd : List Gdn → Nat → Option Gdn
  | [], _ => none
  | d :: ds, f => if d.id = f then some d else gfnd ds f
theorem gfnd_of {d : Gdn} : ∀ {ds : List Gdn}, d ∈ ds → (ds.map (·.id)).Nodup → gfnd ds d.id = some d
  | [], h, _ => by cases h
  | e :: ds, h, u => by
    rw [List.map_cons, List.nodup_cons] at u
    simp only [gfnd]
    rcases List.mem_cons.mp h with rfl | h
    · rw [if_pos rfl]
    · rw [if_neg fun z => u.1 (by rw [z]; exact List.mem_map.mpr ⟨d, h, rfl⟩)]
      exact gfnd_of h u.2
/-- the table of a law with generators: their bodies are run over the defs of another table -/
def tabG (ds : List Dn) (cl : List Cn) (fuel : Nat) (gs : List Gdn) (ds' : List Dn) : Tab := tabX ds cl fuel (fun f => (gfnd gs f).map (·.gn)) (tabC ds' cl fuel).cx
/-- with generators; the defs of ds' are those that their bodies reach -/
theorem law_FG {l l' : LD} {ds ds' : List Dn} {gs : List Gdn} {n m fuel f : Nat} {P : Program} {w : World} {mg : Str → Option Value} {fa : Addr} {h : Heap} {d : Dn} (Y : (hookL n l (ds.map Dn.dd ++ gs.map Gdn.dd)).says w h) (Gl : h.Ns mainGlobals mg) (hmg : mg d.name = some (.ref fa)) (hn : l.nms = nmsOf ds) (hge : l.gens = gs.map fun g => (g.name, g.id)) (hc : clB ds l.cl = true) (hu : (ds.map (·.id)).Nodup) (hd : ∀ d ∈ ds, d.Ok l.par)
    (hn' : l'.nms = nmsOf ds') (hge' : l'.gens = []) (hrp' : l'.rp = false) (hcl' : l'.cl = l.cl) (hcon' : l'.con = l.con) (hc' : clB ds' l'.cl = true) (hu' : (ds'.map (·.id)).Nodup) (hd' : ∀ d ∈ ds', d.Ok l'.par) (hsub : ∀ d ∈ ds', d ∈ ds) (hfa : ∀ f ∈ l'.fa, f ∈ l.fa) (hgu : (gs.map (·.id)).Nodup) (hgd : ∀ g ∈ gs, g.Ok l'.par)
    (hf : fnd ds f = some d) (hg : l.nms.lookup d.name = some f) (ev : ∀ ns : List Int, ns.length ≤ 63 → (∀ i ∈ ns, Builtin.Int.intBits i ≤ 1048576) → ∃ L, ((tabG ds l.cl fuel gs ds').cx m).φ f [.lst 0 (ns.map D.int)] [] = .ok (.bl true) L) :
    ∃ (K : PySem.W.Frag) (sp : Sp), K.In h ∧ noLst K = true ∧ (∀ (H : Hp) (a : Addr) (ns : List Int), ns.length ≤ 63 → (∀ i ∈ ns, Builtin.Int.intBits i ≤ 1048576) → (∃ o, H a = some (.frz o (.lst (ns.map V.int)))) → sp [.ref a] H (fun v _ => v = .bl true) fun _ _ _ => False) ∧
        ∀ base : Heap, K.In base → base.Ns mainGlobals mg → FnG true P w K mg base (2 * m + 2) fa sp :=
  law_T (ds := ds) (T := tabG ds l.cl fuel gs ds') Y hmg hg (by simp [tabG, tabX, hf]) (fun K KX c hsm cc => by
    have cf : ∀ f ∈ l.fa, f.ok K = true := fun f hf => says_all c (List.mem_append_left _ hf)
    have ok' : TabOk K (clOf K l'.cl) mg l'.par (tabC ds' l'.cl fuel) (nmOf ds') (adOf K ds') := tabL_ok hsm KX Gl (fun f hf => cf f (hfa f hf)) (says_defs c fun d hd => List.mem_append_left _ (List.mem_map.mpr ⟨d, hsub d hd, rfl⟩)) (by rw [hcon']; exact cc) hn' hc' hu' hd' fun x f h => by
      have h : l'.gens.lookup x = some f := h
      rw [hge'] at h; cases h
    rw [hcl'] at ok'
    refine tabL_ok hsm KX Gl cf (says_defs c fun d hd => List.mem_append_left _ (List.mem_map.mpr ⟨d, hd, rfl⟩)) cc hn hc hu hd fun x f h => ?_
    have hx := lookup_mem (show l.gens.lookup x = some f from h)
    have hx2 := hx
    rw [hge] at hx
    obtain ⟨g, hg, e⟩ := List.mem_map.mp hx
    cases e
    obtain ⟨i, hi⟩ := List.mem_iff_getElem?.mp (show g.dd ∈ ds.map Dn.dd ++ gs.map Gdn.dd from List.mem_append_right _ (List.mem_map.mpr ⟨g, hg, rfl⟩))
    obtain ⟨fd0, F⟩ := c.def_ i hi
    obtain ⟨sc, np, nN, tr, bd⟩ := hgd g hg
    have F' : FunD K g.name g.name (stArgs g.st) (stBody g.st) (stScope g.st) [] [] (He.fAd K (g.name, none)) fd0 := F
    obtain ⟨fd, ps, k1, k2, k3⟩ := gen_run (T := tabC ds' l.cl fuel) ok' hrp' (g := g.gn) (x := g.name) (fa := He.fAd K (g.name, none)) ⟨g.name, stArgs g.st, stBody g.st, stScope g.st, g.N, g.ps, fd0, F', sc, np, nN, tr, bd⟩
    refine ⟨He.fAd K (g.name, none), fd, ps, ?_, k1, k2, fun P w base gu m => ?_⟩
    · exact He.glo_ok KX Gl (says_all c (List.mem_append_right _ (List.mem_map.mpr ⟨(g.name, g.id), hx2, rfl⟩)))
    · have stk : ∀ (m : Nat), (∀ (es : List D) (L : Live), ((tabG ds l.cl fuel gs ds').cx m).γ g.id es L = .stuck) → GFn P w K mg base (2 * m) (He.fAd K (g.name, none)) fd ps (spGen ⟨K, clOf K l.cl, gu⟩ (((tabG ds l.cl fuel gs ds').cx m).γ g.id)) := fun m hs =>
        ⟨fun vs H Q E ⟨wd, es, L, _, _, run⟩ => by rw [hs] at run; exact False.elim run, fun A outer s H args us vs Q E _ _ _ _ ⟨wd, es, L, _, _, run⟩ => by rw [hs] at run; exact False.elim run⟩
      match m with
      | 0 => exact stk 0 fun _ _ => rfl
      | 1 => exact stk 1 fun _ _ => rfl
      | m + 2 =>
        have e : ((tabG ds l.cl fuel gs ds').cx (m + 2)).γ g.id = runGn ((tabC ds' l.cl fuel).cx m) g.gn := by
          funext es L
          simp only [tabG, tabX, Tab.cx, gfnd_of hg hgu, Option.map_some]
        show GFn P w K mg base (2 * (m + 2)) _ fd ps (spGen ⟨K, clOf K l.cl, gu⟩ (((tabG ds l.cl fuel gs ds').cx (m + 2)).γ g.id))
        rw [e]
        have F := k3 P w base m
        exact ⟨fun vs H Q E h => F.len vs H Q E (spGen_gu h), fun A outer s H args us vs Q E hr e0 hb r h => F.run A outer s H args us vs Q E hr e0 hb r (spGen_gu h)⟩) ev
end MP
set_option maxHeartbeats 4000000
/-! MP: laws of the evaluator -/
namespace MP
open PySem PySem.Spec PyProof.Rows L2
theorem phi_of {T : Tab} {f : Nat} {d : Fn} (h : T.fn f = some d) (k : Nat) (ds : List D) (L : Live) : (T.cx (k + 1)).φ f ds L = runF (T.cx k) d ds L := by
  simp only [Tab.cx, h]
theorem liv_of {T : Tab} {f : Nat} {d : Fn} (h : T.fn f = some d) (k : Nat) : (T.cx k).liv f = d.liv := by
  cases k <;> simp only [Tab.cx, h]
theorem fuel_of {T : Tab} (k : Nat) : (T.cx k).fuel = T.fuel := by cases k <;> rfl
@[simp] theorem still_nil (L : Live) : still L [] = true := rfl
theorem compL_run {w : List (Nat × List D)} {g : Tg} {E : Ev} {c : Ev → Live → Res Bool} {e : Ev → Live → Res D} (P : Nat → List D → Live → Prop) {ds : List D}
    (hw : ∀ i acc L, P i acc L → still L w = true)
    (hs : ∀ i acc L (h : i < ds.length), P i acc L → ∃ E', storeG g ds[i] E = some E' ∧ ((∃ L1, c E' L = .ok false L1 ∧ P (i + 1) acc L1) ∨ (∃ L1 x L2, c E' L = .ok true L1 ∧ e E' L1 = .ok x L2 ∧ acc.length < sizeLine ∧ P (i + 1) (acc ++ [x]) L2))) :
    ∀ {acc : List D} {L : Live}, P 0 acc L → ∃ acc' L', compL w g E c e ds acc L = .ok acc' L' ∧ P ds.length acc' L' := by
  have key : ∀ n i acc L, n = ds.length - i → i ≤ ds.length → P i acc L → ∃ acc' L', compL w g E c e (ds.drop i) acc L = .ok acc' L' ∧ P ds.length acc' L' := by
    intro n
    induction n with
    | zero =>
      intro i acc L hn hi hp
      have e : i = ds.length := by omega
      subst e
      rw [List.drop_length]
      simp only [compL, hw _ _ _ hp, if_true]
      exact ⟨acc, L, rfl, hp⟩
    | succ n ih =>
      intro i acc L hn hi hp
      have hlt : i < ds.length := by omega
      rw [List.drop_eq_getElem_cons hlt]
      obtain ⟨E', h1, h2⟩ := hs i acc L hlt hp
      simp only [compL, hw _ _ _ hp, if_true, h1]
      rcases h2 with ⟨L1, h3, h4⟩ | ⟨L1, x, L2, h3, h4, h5, h6⟩
      · simp only [h3, Bool.false_eq_true, if_false]
        exact ih (i + 1) acc L1 (by omega) hlt h4
      · simp only [h3, if_true, h4, h5]
        exact ih (i + 1) (acc ++ [x]) L2 (by omega) hlt h6
  intro acc L hp
  have := key ds.length 0 acc L (by simp) (Nat.zero_le _) hp
  simpa using this
/-- a comprehension whose turns change no live object -/
theorem compL_map {w : List (Nat × List D)} {g : Tg} {E : Ev} {c : Ev → Live → Res Bool} {e : Ev → Live → Res D} {f : D → D} {ds : List D} {L : Live} (hw : still L w = true) (hz : ds.length ≤ sizeLine)
    (hs : ∀ d ∈ ds, ∃ E', storeG g d E = some E' ∧ c E' L = .ok true L ∧ e E' L = .ok (f d) L) : compL w g E c e ds [] L = .ok (ds.map f) L := by
  obtain ⟨acc', L', h1, h2, h3⟩ := compL_run (w := w) (g := g) (E := E) (c := c) (e := e) (ds := ds) (fun i acc L' => L' = L ∧ acc = (ds.take i).map f) (fun i acc L' h => by rw [h.1]; exact hw)
    (fun i acc L' hi h => by
      obtain ⟨rfl, rfl⟩ := h
      obtain ⟨E', h1, h2, h3⟩ := hs ds[i] (List.getElem_mem hi)
      refine ⟨E', h1, .inr ⟨_, _, _, h2, h3, by simp; omega, rfl, ?_⟩⟩
      rw [List.take_succ_eq_append_getElem hi, List.map_append]; rfl) (acc := []) (L := L) ⟨rfl, by simp⟩
  rw [h1, h2, h3, List.take_length]
theorem compL_filter {w : List (Nat × List D)} {g : Tg} {E : Ev} {c : Ev → Live → Res Bool} {e : Ev → Live → Res D} {q : D → Bool} {f : D → D} {ds : List D} {L : Live} (hw : still L w = true) (hz : ds.length ≤ sizeLine)
    (hs : ∀ d ∈ ds, ∃ E', storeG g d E = some E' ∧ c E' L = .ok (q d) L ∧ (q d = true → e E' L = .ok (f d) L)) : compL w g E c e ds [] L = .ok ((ds.filter q).map f) L := by
  obtain ⟨acc', L', h1, h2, h3⟩ := compL_run (w := w) (g := g) (E := E) (c := c) (e := e) (ds := ds) (fun i acc L' => L' = L ∧ acc = ((ds.take i).filter q).map f) (fun i acc L' h => by rw [h.1]; exact hw)
    (fun i acc L' hi h => by
      obtain ⟨rfl, rfl⟩ := h
      obtain ⟨E', h1, h2, h3⟩ := hs ds[i] (List.getElem_mem hi)
      refine ⟨E', h1, ?_⟩
      rw [List.take_succ_eq_append_getElem hi, List.filter_append, List.map_append]
      cases hq : q ds[i] with
      | false => exact .inl ⟨_, by rw [h2, hq], rfl, by simp [hq]⟩
      | true =>
        refine .inr ⟨_, _, _, by rw [h2, hq], h3 hq, ?_, rfl, by simp [hq]⟩
        have h4 := List.length_filter_le q (ds.take i)
        have h5 := List.length_take_le i ds
        simp only [List.length_map]
        have : (ds.take i).length = i := by simp; omega
        omega) (acc := []) (L := L) ⟨rfl, by simp⟩
  rw [h1, h2, h3, List.take_length]
theorem forL_run {w : List (Nat × List D)} {g : Tg} {b : Ev → Live → SRes} (P : Nat → Ev → Live → Prop) {ds : List D} (hw : ∀ i E L, P i E L → still L w = true)
    (hs : ∀ i E L (h : i < ds.length), P i E L → ∃ E1 E2 L2, storeG g ds[i] E = some E1 ∧ (b E1 L = .fl .nx E2 L2 ∨ b E1 L = .fl .ct E2 L2) ∧ P (i + 1) E2 L2) :
    ∀ {E : Ev} {L : Live}, P 0 E L → ∃ E' L', forL w g b ds E L = .fl .nx E' L' ∧ P ds.length E' L' := by
  have key : ∀ n i E L, n = ds.length - i → i ≤ ds.length → P i E L → ∃ E' L', forL w g b (ds.drop i) E L = .fl .nx E' L' ∧ P ds.length E' L' := by
    intro n
    induction n with
    | zero =>
      intro i E L hn hi hp
      have e : i = ds.length := by omega
      subst e
      rw [List.drop_length]
      simp only [forL, hw _ _ _ hp, if_true]
      exact ⟨E, L, rfl, hp⟩
    | succ n ih =>
      intro i E L hn hi hp
      have hlt : i < ds.length := by omega
      rw [List.drop_eq_getElem_cons hlt]
      obtain ⟨E1, E2, L2, h1, h2, h3⟩ := hs i E L hlt hp
      simp only [forL, hw _ _ _ hp, if_true, h1]
      rcases h2 with h2 | h2
      · simp only [h2]; exact ih (i + 1) E2 L2 (by omega) hlt h3
      · simp only [h2]; exact ih (i + 1) E2 L2 (by omega) hlt h3
  intro E L hp
  have := key ds.length 0 E L (by simp) (Nat.zero_le _) hp
  simpa using this
/-- a loop that may hand back -/
theorem forL_ret {w : List (Nat × List D)} {g : Tg} {b : Ev → Live → SRes} (P : Nat → Ev → Live → Prop) (R : D → Live → Prop) {ds : List D} (hw : ∀ i E L, P i E L → still L w = true)
    (hs : ∀ i E L (h : i < ds.length), P i E L → ∃ E1, storeG g ds[i] E = some E1 ∧ ((∃ E2 L2, (b E1 L = .fl .nx E2 L2 ∨ b E1 L = .fl .ct E2 L2) ∧ P (i + 1) E2 L2) ∨ (∃ d E2 L2, b E1 L = .fl (.rt d) E2 L2 ∧ R d L2))) :
    ∀ {E : Ev} {L : Live}, P 0 E L → (∃ E' L', forL w g b ds E L = .fl .nx E' L' ∧ P ds.length E' L') ∨ ∃ d E' L', forL w g b ds E L = .fl (.rt d) E' L' ∧ R d L' := by
  have key : ∀ n i E L, n = ds.length - i → i ≤ ds.length → P i E L → (∃ E' L', forL w g b (ds.drop i) E L = .fl .nx E' L' ∧ P ds.length E' L') ∨ ∃ d E' L', forL w g b (ds.drop i) E L = .fl (.rt d) E' L' ∧ R d L' := by
    intro n
    induction n with
    | zero =>
      intro i E L hn hi hp
      have e : i = ds.length := by omega
      subst e
      rw [List.drop_length]
      simp only [forL, hw _ _ _ hp, if_true]
      exact .inl ⟨E, L, rfl, hp⟩
    | succ n ih =>
      intro i E L hn hi hp
      have hlt : i < ds.length := by omega
      rw [List.drop_eq_getElem_cons hlt]
      obtain ⟨E1, h1, h2⟩ := hs i E L hlt hp
      simp only [forL, hw _ _ _ hp, if_true, h1]
      rcases h2 with ⟨E2, L2, h2 | h2, h3⟩ | ⟨d, E2, L2, h2, h3⟩
      · simp only [h2]; exact ih (i + 1) E2 L2 (by omega) hlt h3
      · simp only [h2]; exact ih (i + 1) E2 L2 (by omega) hlt h3
      · simp only [h2]; exact .inr ⟨d, E2, L2, rfl, h3⟩
  intro E L hp
  have := key ds.length 0 E L (by simp) (Nat.zero_le _) hp
  simpa using this

/-! ### trees without live objects -/
mutual
def noTag : D → Bool
  | .tup ds => noTags ds
  | .lst t ds => decide (t = 0) && noTags ds
  | .dct _ ds => noTags ds
  | _ => true
def noTags : List D → Bool
  | [] => true
  | d :: ds => noTag d && noTags ds
end
mutual
theorem okB_noRef (n : Nat) : ∀ d : D, noRef d = true → noTag d = true → okB n d = true
  | .non, _, _ => rfl
  | .bl _, _, _ => rfl
  | .int _, _, _ => rfl
  | .str _, _, _ => rfl
  | .ref _, h, _ => by simp [noRef] at h
  | .dct ks ds, h, t => by simp only [noRef, noTag, okB] at *; exact okBs_noRef n ds h t
  | .tup ds, h, t => by simp only [noRef, noTag, okB] at *; exact okBs_noRef n ds h t
  | .lst t ds, h, u => by
    simp only [noRef, noTag, okB, Bool.and_eq_true, decide_eq_true_eq] at *
    exact ⟨by omega, okBs_noRef n ds h u.2⟩
theorem okBs_noRef (n : Nat) : ∀ ds : List D, noRefs ds = true → noTags ds = true → okBs n ds = true
  | [], _, _ => rfl
  | d :: ds, h, t => by
    simp only [noRefs, noTags, okBs, Bool.and_eq_true] at *
    exact ⟨okB_noRef n d h.1 t.1, okBs_noRef n ds h.2 t.2⟩
end
end MP
set_option maxHeartbeats 4000000
/-! MP: what repr is long -/
namespace MP
open PySem PySem.Spec PyProof.Rows L2
theorem sLen_append (a b : Str) : (a ++ b).length = a.length + b.length := by
  show (a.cps ++ b.cps).size = _
  rw [Array.size_append]; rfl
mutual
/-- a bound of a repr's length -/
def psz : PyData → Nat
  | .none => 4
  | .bool _ => 5
  | .int i => (toString i : Str).length
  | .str x => (reprText x).length
  | .list xs => 2 + pszs xs
  | .tuple xs => 3 + pszs xs
  | .dict kvs => (PyData.shown (.dict kvs)).length
def pszs : List PyData → Nat
  | [] => 0
  | x :: xs => psz x + 2 + pszs xs
end
def sumL : List Str → Nat
  | [] => 0
  | t :: ts => t.length + 2 + sumL ts
theorem textFrom_le : ∀ (ts : List Str) (k : Nat) (acc : Str), (textFrom k acc ts).length ≤ acc.length + sumL ts
  | [], k, acc => by show acc.length ≤ acc.length + 0; omega
  | t :: r, k, acc => by
    have ih := textFrom_le r (k + 1) (acc ++ (if k > 0 then ", " else "" : String) ++ t)
    have e : (acc ++ (if k > 0 then ", " else "" : String) ++ t).length ≤ acc.length + 2 + t.length := by
      rw [sLen_append, sLen_append]
      have : (Str.ofString (if k > 0 then ", " else "")).length ≤ 2 := by split <;> decide
      omega
    show (textFrom (k + 1) _ r).length ≤ _
    simp only [sumL]
    omega
theorem join_le : ∀ ts : List Str, (Str.join (Str.ofString ", ") ts).length ≤ sumL ts
  | [] => by show 0 ≤ _; omega
  | [x] => by show x.length ≤ x.length + 2 + 0; omega
  | x :: y :: r => by
    have ih := join_le (y :: r)
    show (x ++ (Str.ofString ", ") ++ Str.join (Str.ofString ", ") (y :: r)).length ≤ x.length + 2 + sumL (y :: r)
    rw [sLen_append, sLen_append]
    have : (Str.ofString ", ").length = 2 := by decide
    omega
mutual
theorem shown_le : ∀ d : PyData, d.shown.length ≤ psz d
  | .none => by simp only [PyData.shown, psz]; decide
  | .bool b => by cases b <;> simp only [PyData.shown, psz] <;> decide
  | .int i => by simp only [PyData.shown, psz]; exact Nat.le_refl _
  | .str x => by simp only [PyData.shown, psz]; exact Nat.le_refl _
  | .list xs => by
    have h := shownAll_le xs
    have h2 := textFrom_le (PyData.shownAll xs) 0 "["
    have e1 : (Str.ofString "[").length = 1 := by decide
    have e2 : (Str.ofString "]").length = 1 := by decide
    simp only [PyData.shown, psz, listText]
    rw [sLen_append]
    omega
  | .tuple xs => by
    have h := shownAll_le xs
    have h2 := join_le (PyData.shownAll xs)
    simp only [PyData.shown, psz, tupleText]
    rw [sLen_append, sLen_append]
    have e1 : (Str.ofString "(").length = 1 := by decide
    have e2 : (Str.ofString (if (PyData.shownAll xs).length == 1 then ",)" else ")")).length ≤ 2 := by split <;> decide
    omega
  | .dict kvs => by simp only [psz]; exact Nat.le_refl _
theorem shownAll_le : ∀ xs : List PyData, sumL (PyData.shownAll xs) ≤ pszs xs
  | [] => by simp [PyData.shownAll, sumL, pszs]
  | x :: xs => by
    have h1 := shown_le x
    have h2 := shownAll_le xs
    simp only [PyData.shownAll, sumL, pszs]
    omega
end
theorem pszs_le {xs : List PyData} {m : Nat} (h : ∀ x ∈ xs, psz x ≤ m) : pszs xs ≤ xs.length * (m + 2) := by
  induction xs with
  | nil => simp [pszs]
  | cons x xs ih =>
    have h1 := h x List.mem_cons_self
    have h2 := ih fun y hy => h y (List.mem_cons_of_mem _ hy)
    simp only [pszs, List.length_cons]
    rw [Nat.add_mul]
    omega
theorem showableAll_of {xs : List PyData} (h : ∀ x ∈ xs, x.showable = true) : PyData.showableAll xs = true := by
  induction xs with
  | nil => rfl
  | cons x xs ih => simp [PyData.showableAll, h x List.mem_cons_self, ih fun y hy => h y (List.mem_cons_of_mem _ hy)]
theorem depthAll_le {xs : List PyData} {m : Nat} (h : ∀ x ∈ xs, x.depth ≤ m) : PyData.depthAll xs ≤ m := by
  induction xs with
  | nil => simp [PyData.depthAll]
  | cons x xs ih =>
    have h1 := h x List.mem_cons_self
    have h2 := ih fun y hy => h y (List.mem_cons_of_mem _ hy)
    simp only [PyData.depthAll]
    omega
theorem int_len {i : Int} {k : Nat} (hk : 0 < k) (h : i.natAbs < 10 ^ k) : (toString i : Str).length ≤ k + 1 := by
  have e := int_text_length_le10 hk h
  show (Str.ofString (toString i)).length ≤ k + 1
  rw [PySem.ofString_length]; exact e
/-- signs that repr writes as they are -/
def plainC (c : Nat) : Bool := !(c == 39) && !(c == 92) && !(c == 10) && !(c == 13) && !(c == 9) && Unicode.isPrintable c
theorem repr_plain {x : Str} (h : ∀ c ∈ x.cps.toList, plainC c = true) : (reprText x).length = x.length + 2 := by
  have hq : reprQuote x = 39 := by
    unfold reprQuote
    have : x.cps.contains 39 = false := by
      rw [Array.contains_eq_any_beq, Array.any_eq_false]
      intro i hi
      have := h x.cps[i] (by simp)
      simp only [plainC, Bool.and_eq_true, Bool.not_eq_true'] at this
      have h1 := this.1.1.1.1.1
      simpa using fun e => by rw [← e] at h1; simp at h1
    rw [this]; rfl
  have hf : ∀ (l : List Nat) (out : Array Nat), (∀ c ∈ l, plainC c = true) → (l.foldl (fun out c => out ++ (Builtin.Str.reprChar 39 c).toArray) out).size = out.size + l.length := by
    intro l
    induction l with
    | nil => intro out _; simp
    | cons c l ih =>
      intro out hc
      have h1 := hc c List.mem_cons_self
      have e : Builtin.Str.reprChar 39 c = [c] := by
        simp only [plainC, Bool.and_eq_true, Bool.not_eq_true'] at h1
        obtain ⟨⟨⟨⟨⟨h1, h2⟩, h3⟩, h4⟩, h5⟩, h6⟩ := h1
        unfold Builtin.Str.reprChar
        simp [h1, h2, h3, h4, h5, h6]
      rw [List.foldl_cons, ih _ fun d hd => hc d (List.mem_cons_of_mem _ hd), e]
      simp
      omega
  unfold reprText
  rw [hq]
  show (Array.push _ _).size = _
  rw [Array.size_push, ← Array.foldl_toList, hf _ _ h]
  show 1 + x.cps.toList.length + 1 = x.cps.size + 2
  simp
  omega
end MP
set_option maxHeartbeats 4000000
/-! MP: steps of the evaluator, and draws -/
namespace MP
open PySem PySem.Spec PyProof.Rows L2
theorem go {T : Tab} {f : Nat} {d : Fn} (h : T.fn f = some d) {k : Nat} {ds : List D} {L : Live} (hc : d.clean = false) (hl : ds.length = d.np) : (T.cx (k + 1)).φ f ds L = resOf (evSs (T.cx k) d.body (startE d.nN ds) L) := by
  rw [phi_of h]; simp [runF, runB, hc, hl]
theorem goC {T : Tab} {f : Nat} {d : Fn} (h : T.fn f = some d) {k : Nat} {ds : List D} {L : Live} (hc : d.clean = true) (hl : ds.length = d.np) : (T.cx (k + 1)).φ f ds L = cleanR L (resOf (evSs (T.cx k) d.body (startE d.nN ds) L)) := by
  rw [phi_of h]; simp [runF, runB, hc, hl]
section
variable {c : Cxt} {E E' : Ev} {L L1 L2 L3 L4 : Live} {ss a b : Ss} {d x y : D} {e o i t : Ex}
theorem ss_asg {g : Tg} (h : evE c e E L = .ok d L1) (hs : storeG g d E = some E') : evSs c (.cons (.asg (.nm g) e) ss) E L = evSs c ss E' L1 := by
  simp [evSs, evS, h, storeT, hs]
theorem ss_set (h : evE c e E L = .ok d L1) (ho : evE c o E L1 = .ok x L2) (hi : evE c i E L2 = .ok y L3) (hs : setD x y d L3 = some L4) : evSs c (.cons (.asg (.sub o i) e) ss) E L = evSs c ss E L4 := by
  simp [evSs, evS, h, storeT, ho, hi, hs]
theorem ss_ex (h : evE c e E L = .ok d L1) : evSs c (.cons (.ex e) ss) E L = evSs c ss E L1 := by
  simp [evSs, evS, h]
theorem ss_ret (h : evE c e E L = .ok d L1) : evSs c (.cons (.ret e) ss) E L = .fl (.rt d) E L1 := by
  simp [evSs, evS, h]
theorem ss_if_t (h : evT c t E L = .ok true L1) : evSs c (.cons (.ite t a b) ss) E L = (evSs c a E L1).seq fun E' L' => evSs c ss E' L' := by
  simp [evSs, evS, h]
theorem ss_if_f (h : evT c t E L = .ok false L1) : evSs c (.cons (.ite t a b) ss) E L = (evSs c b E L1).seq fun E' L' => evSs c ss E' L' := by
  simp [evSs, evS, h]
theorem ss_if_n (h : evT c t E L = .ok false L1) : evSs c (.cons (.ite t a .nil) ss) E L = evSs c ss E L1 := by
  simp [evSs, evS, h]
theorem ss_par {is : List Nat} {es : Exs} {ds : List D} (h : evA c es E L = .ok ds L1) (hl : is.length = ds.length) : evSs c (.cons (.par is es) ss) E L = evSs c ss (setAll is ds E) L1 := by
  simp [evSs, evS, h, hl]
theorem ss_for {g : Tg} {it : It} {w : List (Nat × List D)} {ds : List D} (h : evI c it E L = .ok (ds, w) L1) (hf : forL w g (fun E' L' => evSs c b E' L') ds E L1 = .fl .nx E' L2) : evSs c (.cons (.for_ g it b) ss) E L = evSs c ss E' L2 := by
  simp [evSs, evS, h, hf]
theorem ss_for_rt {g : Tg} {it : It} {w : List (Nat × List D)} {ds : List D} (h : evI c it E L = .ok (ds, w) L1) (hf : forL w g (fun E' L' => evSs c b E' L') ds E L1 = .fl (.rt d) E' L2) : evSs c (.cons (.for_ g it b) ss) E L = .fl (.rt d) E' L2 := by
  simp [evSs, evS, h, hf]
theorem ss_nil : evSs c .nil E L = .fl .nx E L := rfl
end
/-! ### operators -/
theorem bAdd (lv : Bool) (i j : Int) (L : Live) : binD .add lv (.int i) (.int j) L = some (.int (i + j), L) := rfl
theorem bSub (lv : Bool) (i j : Int) (L : Live) : binD .sub lv (.int i) (.int j) L = some (.int (i - j), L) := rfl
theorem bMul (lv : Bool) (i j : Int) (L : Live) (h : mulOk i j = true) : binD .mul lv (.int i) (.int j) L = some (.int (i * j), L) := by simp [binD, h]
theorem bDiv (lv : Bool) (i j : Int) (L : Live) (h : divOk j = true) : binD .fdiv lv (.int i) (.int j) L = some (.int (i / j), L) := by simp [binD, h]
theorem bMod (lv : Bool) (i j : Int) (L : Live) (h : 0 < j) : binD .mod lv (.int i) (.int j) L = some (.int (i % j), L) := by simp [binD, h]
theorem bPow (lv : Bool) (i j : Int) (L : Live) (h : powOk i j = true) : binD .pow lv (.int i) (.int j) L = some (.int (i ^ j.toNat), L) := by simp [binD, h]
theorem log_lt {i : Int} {m : Nat} (hm : 0 < m) (h0 : 0 ≤ i) (h : i < 2 ^ m) : i.natAbs.log2 < m := by
  by_cases e : i.natAbs = 0
  · rw [e]; exact hm
  · refine (Nat.log2_lt e).2 ?_
    have : (i.natAbs : Int) < ((2 ^ m : Nat) : Int) := by rw [Int.natAbs_of_nonneg h0]; simpa using h
    exact Int.ofNat_lt.mp this
theorem pow_ok {i : Int} {j : Int} (h0 : 0 ≤ i) (h : i < 2 ^ 250) (hj : 0 ≤ j) (hj2 : j ≤ 100) : powOk i j = true := by
  have := log_lt (by decide) h0 h
  simp only [powOk, Bool.and_eq_true, decide_eq_true_eq]
  refine ⟨hj, ?_⟩
  have h1 : (((i.natAbs.log2 + 1 : Nat) : Int)) * j ≤ 250 * 100 := Int.mul_le_mul (by omega) hj2 hj (by omega)
  exact Int.le_trans h1 (by decide)
theorem div_ok {j : Int} (h0 : 0 < j) (h : j < 2 ^ 250) : divOk j = true := by
  have := log_lt (by decide) (by omega) h
  simp only [divOk, Bool.and_eq_true, decide_eq_true_eq]
  exact ⟨h0, by omega⟩
theorem mul_okl {i j : Int} (h0 : 0 ≤ i) (h : i < 2 ^ 64) : mulOk i j = true := by
  simp only [mulOk, Bool.or_eq_true, Bool.and_eq_true, decide_eq_true_eq]
  exact .inl (.inl ⟨by omega, h⟩)
theorem mul_okr {i j : Int} (h0 : 0 ≤ j) (h : j < 2 ^ 64) : mulOk i j = true := by
  simp only [mulOk, Bool.or_eq_true, Bool.and_eq_true, decide_eq_true_eq]
  exact .inl (.inr ⟨by omega, h⟩)
theorem e_modulus (b e a : Int) (h : powOk b e = true) : ∃ M : Int, (∀ c E L, evE c (.bin .add false (.bin .pow false (.con (.int b)) (.con (.int e))) (.con (.int a))) E L = .ok (.int M) L) ∧ M = b ^ e.toNat + a :=
  ⟨_, fun c E L => by simp [evE, binD, h, opt, Res.bind], rfl⟩
theorem e_power (b e : Int) (h : powOk b e = true) : ∃ M : Int, (∀ c E L, evE c (.bin .pow false (.con (.int b)) (.con (.int e))) E L = .ok (.int M) L) ∧ M = b ^ e.toNat :=
  ⟨_, fun c E L => by simp [evE, binD, h, opt, Res.bind], rfl⟩
end MP
set_option maxHeartbeats 4000000
/-! MPW: the evaluator by frames: what is to come stands as data, so that simp walks from the front -/
namespace MP
open PySem PySem.Spec PyProof.Rows L2
section
variable {c : Cxt} {E E' : Ev} {L L1 : Live} {a b d e o i t : Ex} {es : Exs} {x y z : D} {ds xs : List D} {lv : Bool} {op op' : Cop} {bo : Bop}
def kBin (c : Cxt) (o : Bop) (lv : Bool) (b : Ex) (E : Ev) (r : Res D) : Res D := r.bind fun x L1 => (evE c b E L1).bind fun y L2 => opt (binD o lv x y L2)
def kBin2 (o : Bop) (lv : Bool) (x : D) (r : Res D) : Res D := r.bind fun y L2 => opt (binD o lv x y L2)
def kNeg (r : Res D) : Res D := r.bind fun x L1 => match x with | .int i => .ok (.int (-i)) L1 | _ => .stuck
def kNot (r : Res D) : Res D := r.bind fun x L1 => (optV (truD L1 x) L1).bind fun b L2 => .ok (.bl (!b)) L2
def kNotB (r : Res Bool) : Res D := r.bind fun b L2 => .ok (.bl (!b)) L2
def kCmp (c : Cxt) (o : Cop) (b : Ex) (E : Ev) (r : Res D) : Res D := r.bind fun x L1 => (evE c b E L1).bind fun y L2 => (optV (cmpD o x y L2) L2).bind fun b L3 => .ok (.bl b) L3
def kCmp2 (o : Cop) (x : D) (r : Res D) : Res D := r.bind fun y L2 => (optV (cmpD o x y L2) L2).bind fun b L3 => .ok (.bl b) L3
def kBl (r : Res Bool) : Res D := r.bind fun b L3 => .ok (.bl b) L3
def kChn (c : Cxt) (o o' : Cop) (b d : Ex) (E : Ev) (r : Res D) : Res D := r.bind fun x L1 => (evE c b E L1).bind fun y L2 => (optV (cmpD o x y L2) L2).bind fun k L3 =>
      if k then (evE c d E L3).bind fun z L4 => (optV (cmpD o' y z L4) L4).bind fun b L5 => .ok (.bl b) L5 else .ok (.bl false) L3
def kChn2 (c : Cxt) (o o' : Cop) (d : Ex) (E : Ev) (x : D) (r : Res D) : Res D := r.bind fun y L2 => (optV (cmpD o x y L2) L2).bind fun k L3 =>
      if k then (evE c d E L3).bind fun z L4 => (optV (cmpD o' y z L4) L4).bind fun b L5 => .ok (.bl b) L5 else .ok (.bl false) L3
def kChn3 (c : Cxt) (o' : Cop) (d : Ex) (E : Ev) (y : D) (r : Res Bool) : Res D := r.bind fun k L3 => if k then (evE c d E L3).bind fun z L4 => (optV (cmpD o' y z L4) L4).bind fun b L5 => .ok (.bl b) L5 else .ok (.bl false) L3
def kAnd (c : Cxt) (b : Ex) (E : Ev) (r : Res D) : Res D := r.bind fun x L1 => (optV (truD L1 x) L1).bind fun k L2 => if k then evE c b E L2 else .ok x L2
def kAnd2 (c : Cxt) (b : Ex) (E : Ev) (x : D) (r : Res Bool) : Res D := r.bind fun k L2 => if k then evE c b E L2 else .ok x L2
def kOr (c : Cxt) (b : Ex) (E : Ev) (r : Res D) : Res D := r.bind fun x L1 => (optV (truD L1 x) L1).bind fun k L2 => if k then .ok x L2 else evE c b E L2
def kOr2 (c : Cxt) (b : Ex) (E : Ev) (x : D) (r : Res Bool) : Res D := r.bind fun k L2 => if k then .ok x L2 else evE c b E L2
def kIte (c : Cxt) (a b : Ex) (E : Ev) (r : Res D) : Res D := r.bind fun x L1 => (optV (truD L1 x) L1).bind fun k L2 => if k then evE c a E L2 else evE c b E L2
def kIte2 (c : Cxt) (a b : Ex) (E : Ev) (r : Res Bool) : Res D := r.bind fun k L2 => if k then evE c a E L2 else evE c b E L2
def kTup (r : Res (List D)) : Res D := r.bind fun ds L1 => if sizeOk ds.length then .ok (.tup ds) L1 else .stuck
def kLst (lv : Bool) (r : Res (List D)) : Res D := r.bind fun ds L1 => if sizeOk ds.length then opt (some (newL lv ds L1)) else .stuck
def kIdx (c : Cxt) (i : Ex) (E : Ev) (r : Res D) : Res D := r.bind fun x L1 => (evE c i E L1).bind fun y L2 => optV (idxD x y L2) L2
def kIdx2 (x : D) (r : Res D) : Res D := r.bind fun y L2 => optV (idxD x y L2) L2
def kCall (c : Cxt) (f : Nat) (r : Res (List D)) : Res D := r.bind fun ds L1 => callW c f ds L1
def kBlt (b : Blt) (lv : Bool) (r : Res (List D)) : Res D := r.bind fun ds L1 => opt (bltD b lv ds L1)
def kMth (c : Cxt) (m : Mth) (es : Exs) (E : Ev) (r : Res D) : Res D := r.bind fun x L1 => match mthTy m L1 x with
      | some T => (evA c es E L1).bind fun ds L2 => if mthTy m L2 x = some T then opt (mthD m x ds L2) else .stuck
      | none => .stuck
def kMth2 (c : Cxt) (m : Mth) (es : Exs) (E : Ev) (x : D) (L1 : Live) (o : Option MT) : Res D := match o with
      | some T => (evA c es E L1).bind fun ds L2 => if mthTy m L2 x = some T then opt (mthD m x ds L2) else .stuck
      | none => .stuck
def kMth3 (m : Mth) (x : D) (T : MT) (r : Res (List D)) : Res D := r.bind fun ds L2 => if mthTy m L2 x = some T then opt (mthD m x ds L2) else .stuck
def kMth4 (m : Mth) (x : D) (T : MT) (ds : List D) (L : Live) (o : Option MT) : Res D := if o = some T then opt (mthD m x ds L) else .stuck
def kIsi (t : Ty) (r : Res D) : Res D := r.bind fun x L1 => (optV (isiD L1 x t) L1).bind fun b L2 => .ok (.bl b) L2
def kCons (c : Cxt) (es : Exs) (E : Ev) (r : Res D) : Res (List D) := r.bind fun x L1 => (evA c es E L1).bind fun xs L2 => .ok (x :: xs) L2
def kCons2 (x : D) (r : Res (List D)) : Res (List D) := r.bind fun xs L2 => .ok (x :: xs) L2
def kStar (c : Cxt) (es : Exs) (E : Ev) (r : Res D) : Res (List D) := r.bind fun x L1 => (optV (seqOf L1 x) L1).bind fun xs L2 => (evA c es E L2).bind fun ys L3 => .ok (xs ++ ys) L3
def kStar2 (c : Cxt) (es : Exs) (E : Ev) (r : Res (List D)) : Res (List D) := r.bind fun xs L2 => (evA c es E L2).bind fun ys L3 => .ok (xs ++ ys) L3
def kStar3 (xs : List D) (r : Res (List D)) : Res (List D) := r.bind fun ys L3 => .ok (xs ++ ys) L3
def kTru (r : Res D) : Res Bool := r.bind fun x L1 => optV (truD L1 x) L1
-- fields, methods of one's own, new instances
def kFld (f : Str) (r : Res D) : Res D := r.bind fun x L1 => match x with
      | .ref n => match L1[n]? with
        | some (.ins _ fs) => optV (fs.lookup f) L1
        | _ => .stuck
      | _ => .stuck
def kFld2 (f : Str) (L : Live) (o : Option LO) : Res D := match o with
        | some (.ins _ fs) => optV (fs.lookup f) L
        | _ => .stuck
def kOwn (c : Cxt) (m : Str) (es : Exs) (E : Ev) (r : Res D) : Res D := r.bind fun x L1 => match x with
      | .ref n => match L1[n]? with
        | some (.ins C fs) => match c.meth C m with
          | some f => if (fs.lookup m).isNone then (evA c es E L1).bind fun ds L2 => callW c f (x :: ds) L2 else .stuck
          | none => .stuck
        | _ => .stuck
      | _ => .stuck
def kOwn2 (c : Cxt) (m : Str) (es : Exs) (E : Ev) (n : Nat) (L1 : Live) (o : Option LO) : Res D := match o with
        | some (.ins C fs) => match c.meth C m with
          | some f => if (fs.lookup m).isNone then (evA c es E L1).bind fun ds L2 => callW c f (.ref n :: ds) L2 else .stuck
          | none => .stuck
        | _ => .stuck
def kOwn3 (c : Cxt) (f : Nat) (n : Nat) (r : Res (List D)) : Res D := r.bind fun ds L2 => callW c f (.ref n :: ds) L2
def kMake (c : Cxt) (C : Str) (r : Res (List D)) : Res D := r.bind fun ds L1 => match c.init C with
      | some f => (callW c f (.ref L1.length :: ds) (L1 ++ [.ins C []])).bind fun r L2 => match r with
        | .non => .ok (.ref L1.length) L2
        | _ => .stuck
      | none => .stuck
def kMake2 (n : Nat) (r : Res D) : Res D := r.bind fun r L2 => match r with
        | .non => .ok (.ref n) L2
        | _ => .stuck
def kSlc (c : Cxt) (lv : Bool) (lo hi : Ex) (E : Ev) (r : Res D) : Res D := r.bind fun x L1 =>
      (if isAbs lo then .ok none L1 else (evE c lo E L1).bind fun l L2 => optV (part l) L2).bind fun l L2 =>
      (if isAbs hi then .ok none L2 else (evE c hi E L2).bind fun h L3 => optV (part h) L3).bind fun h L3 => opt (slcP lv x l h L3)
def kSlcP (r : Res D) : Res (Option Int) := r.bind fun l L2 => optV (part l) L2
def kSlc2 (c : Cxt) (lv : Bool) (hi : Ex) (E : Ev) (x : D) (r : Res (Option Int)) : Res D := r.bind fun l L2 =>
      (if isAbs hi then .ok none L2 else (evE c hi E L2).bind fun h L3 => optV (part h) L3).bind fun h L3 => opt (slcP lv x l h L3)
def kSlc3 (lv : Bool) (x : D) (l : Option Int) (r : Res (Option Int)) : Res D := r.bind fun h L3 => opt (slcP lv x l h L3)
def kLvl (lv : Bool) (r : Res D) : Res D := r.bind fun x L1 => opt (lvlD lv x L1)
-- comprehensions
def cmpS (c : Cxt) (w : List (Nat × List D)) (g : Tg) (E : Ev) (cs : Exs) (e : Ex) (ds acc : List D) (L : Live) : Res (List D) := compL w g E (fun E' L' => evC c cs E' L') (fun E' L' => evE c e E' L') ds acc L
def kComp (c : Cxt) (lv : Bool) (own : List Nat) (g : Tg) (cs : Exs) (e : Ex) (E : Ev) (r : Res (List D × List (Nat × List D))) : Res D := r.bind fun p L1 =>
      (compL p.2 g (wipeE E own) (fun E' L' => evC c cs E' L') (fun E' L' => evE c e E' L') p.1 [] L1).bind fun ds L2 => opt (some (newL lv ds L2))
def kNew (lv : Bool) (r : Res (List D)) : Res D := r.bind fun ds L2 => opt (some (newL lv ds L2))
def kGen (c : Cxt) (lv : Bool) (f : Nat) (r : Res (List D)) : Res D := r.bind fun ds L1 => (callG c f ds L1).bind fun xs L2 => opt (some (newL lv xs L2))
def kCompv (c : Cxt) (lv : Bool) (own : List Nat) (g : Tg) (cs : Exs) (e : Ex) (E : Ev) (r : Res D) : Res D := r.bind fun x L1 => (optV (dicAt x L1) L1).bind fun q L2 =>
      (compL [] g (wipeE E own) (fun E' L' => evC c cs E' L') (fun E' L' => evE c e E' L') (q.2.map Prod.snd) [] (L2.set q.1 .gone)).bind fun ds L3 =>
        if L3[q.1]? = some .gone then .ok (newL lv ds L3).1 ((newL lv ds L3).2.set q.1 (.dic q.2)) else .stuck
def kCompv2 (c : Cxt) (lv : Bool) (own : List Nat) (g : Tg) (cs : Exs) (e : Ex) (E : Ev) (r : Res (Nat × List (Key × D))) : Res D := r.bind fun q L2 =>
      (compL [] g (wipeE E own) (fun E' L' => evC c cs E' L') (fun E' L' => evE c e E' L') (q.2.map Prod.snd) [] (L2.set q.1 .gone)).bind fun ds L3 =>
        if L3[q.1]? = some .gone then .ok (newL lv ds L3).1 ((newL lv ds L3).2.set q.1 (.dic q.2)) else .stuck
-- what is walked
def kIt1 (r : Res D) : Res (List D × List (Nat × List D)) := r.bind fun x L1 => (optV (itemsOf L1 x) L1).bind fun ds L2 => .ok (ds, watch L2 x) L2
def kIt1b (x : D) (r : Res (List D)) : Res (List D × List (Nat × List D)) := r.bind fun ds L2 => .ok (ds, watch L2 x) L2
def kRng1 (r : Res D) : Res (List D × List (Nat × List D)) := r.bind fun x L1 => (optV (rng1D x) L1).bind fun ds L2 => .ok (ds, []) L2
def kRngb (r : Res (List D)) : Res (List D × List (Nat × List D)) := r.bind fun ds L2 => .ok (ds, []) L2
def kRng2 (c : Cxt) (b : Ex) (E : Ev) (r : Res D) : Res (List D × List (Nat × List D)) := r.bind fun x L1 => (evE c b E L1).bind fun y L2 => (optV (rng2D x y) L2).bind fun ds L3 => .ok (ds, []) L3
def kRng2b (x : D) (r : Res D) : Res (List D × List (Nat × List D)) := r.bind fun y L2 => (optV (rng2D x y) L2).bind fun ds L3 => .ok (ds, []) L3
def kEnum (r : Res D) : Res (List D × List (Nat × List D)) := r.bind fun x L1 => (optV (lstOf L1 x) L1).bind fun ds L2 => .ok (enumD ds, watch L2 x) L2
def kEnumb (x : D) (r : Res (List D)) : Res (List D × List (Nat × List D)) := r.bind fun ds L2 => .ok (enumD ds, watch L2 x) L2
def kZip (c : Cxt) (b : Ex) (E : Ev) (r : Res D) : Res (List D × List (Nat × List D)) := r.bind fun x L1 => (evE c b E L1).bind fun y L2 => optV (zipW L2 x y) L2
def kZip2 (x : D) (r : Res D) : Res (List D × List (Nat × List D)) := r.bind fun y L2 => optV (zipW L2 x y) L2
def kZ3 (c : Cxt) (b d : Ex) (E : Ev) (r : Res D) : Res (List D × List (Nat × List D)) := r.bind fun x L1 => (evE c b E L1).bind fun y L2 => (evE c d E L2).bind fun z L3 => optV (zip3W L3 x y z) L3
def kZ32 (c : Cxt) (d : Ex) (E : Ev) (x : D) (r : Res D) : Res (List D × List (Nat × List D)) := r.bind fun y L2 => (evE c d E L2).bind fun z L3 => optV (zip3W L3 x y z) L3
def kZ33 (x y : D) (r : Res D) : Res (List D × List (Nat × List D)) := r.bind fun z L3 => optV (zip3W L3 x y z) L3
-- statements
def kEx (E : Ev) (r : Res D) : SRes := SRes.of r E fun _ L1 => .fl .nx E L1
def kSeq (c : Cxt) (ss : Ss) (r : SRes) : SRes := r.seq fun E' L' => evSs c ss E' L'
def kAsg (g : Tg) (E : Ev) (r : Res D) : SRes := SRes.of r E fun d L1 => match storeG g d E with | some E' => .fl .nx E' L1 | none => .stuck
def kSto (L : Live) (o : Option Ev) : SRes := match o with | some E' => .fl .nx E' L | none => .stuck
def kSub (c : Cxt) (o i : Ex) (E : Ev) (r : Res D) : SRes := SRes.of r E fun d L1 => SRes.of (evE c o E L1) E fun x L1 => SRes.of (evE c i E L1) E fun y L2 => match setD x y d L2 with | some L3 => .fl .nx E L3 | none => .stuck
def kSub2 (c : Cxt) (i : Ex) (E : Ev) (d : D) (r : Res D) : SRes := SRes.of r E fun x L1 => SRes.of (evE c i E L1) E fun y L2 => match setD x y d L2 with | some L3 => .fl .nx E L3 | none => .stuck
def kSub3 (E : Ev) (d x : D) (r : Res D) : SRes := SRes.of r E fun y L2 => match setD x y d L2 with | some L3 => .fl .nx E L3 | none => .stuck
def kLiv (E : Ev) (o : Option Live) : SRes := match o with | some L3 => .fl .nx E L3 | none => .stuck
def kSfl (c : Cxt) (o : Ex) (f : Str) (E : Ev) (r : Res D) : SRes := SRes.of r E fun d L1 => SRes.of (evE c o E L1) E fun x L1 => match x with
      | .ref n => match L1[n]? with
        | some (.ins C fs) => if decide (fs.length < 1000) then .fl .nx E (L1.set n (.ins C (putFld f d fs))) else .stuck
        | _ => .stuck
      | _ => .stuck
def kSfl2 (f : Str) (E : Ev) (d : D) (r : Res D) : SRes := SRes.of r E fun x L1 => match x with
      | .ref n => match L1[n]? with
        | some (.ins C fs) => if decide (fs.length < 1000) then .fl .nx E (L1.set n (.ins C (putFld f d fs))) else .stuck
        | _ => .stuck
      | _ => .stuck
def kSfl3 (f : Str) (E : Ev) (d : D) (n : Nat) (L : Live) (o : Option LO) : SRes := match o with
        | some (.ins C fs) => if decide (fs.length < 1000) then .fl .nx E (L.set n (.ins C (putFld f d fs))) else .stuck
        | _ => .stuck
def kPar (is : List Nat) (E : Ev) (r : Res (List D)) : SRes := SRes.of r E fun ds L1 => if is.length = ds.length then .fl .nx (setAll is ds E) L1 else .stuck
def kRet (E : Ev) (r : Res D) : SRes := SRes.of r E fun d L1 => .fl (.rt d) E L1
def kIf (c : Cxt) (a b : Ss) (E : Ev) (r : Res Bool) : SRes := SRes.of r E fun k L1 => if k then evSs c a E L1 else evSs c b E L1
def forS (c : Cxt) (w : List (Nat × List D)) (g : Tg) (b : Ss) (ds : List D) (E : Ev) (L : Live) : SRes := forL w g (fun E' L' => evSs c b E' L') ds E L
def kFor (c : Cxt) (g : Tg) (b : Ss) (E : Ev) (r : Res (List D × List (Nat × List D))) : SRes := SRes.of r E fun p L1 => forL p.2 g (fun E' L' => evSs c b E' L') p.1 E L1
def whlS (c : Cxt) (t : Ex) (b : Ss) (n : Nat) (E : Ev) (L : Live) : SRes := whlL (evT c t) (fun E' L' => evSs c b E' L') n E L
def kDel (c : Cxt) (i : Ex) (E : Ev) (r : Res D) : SRes := SRes.of r E fun x L1 => SRes.of (evE c i E L1) E fun y L2 => match delD x y L2 with | some L3 => .fl .nx E L3 | none => .stuck
def kDel2 (E : Ev) (x : D) (r : Res D) : SRes := SRes.of r E fun y L2 => match delD x y L2 with | some L3 => .fl .nx E L3 | none => .stuck
/-! ### expressions, step by step -/
theorem Qaa : evE c (.con x) E L = .ok x L := (rfl)
theorem Qab {s : Str} : evE c (.glob s x) E L = .ok x L := (rfl)
theorem Qac : evE c (.bin bo lv a b) E L = kBin c bo lv b E (evE c a E L) := (rfl)
theorem Qad : kBin c bo lv b E (.ok x L) = kBin2 bo lv x (evE c b E L) := (rfl)
theorem Qae : kBin2 bo lv x (.ok y L) = opt (binD bo lv x y L) := (rfl)
theorem Qaf : evE c (.neg a) E L = kNeg (evE c a E L) := (rfl)
theorem Qag {j : Int} : kNeg (.ok (.int j) L) = .ok (.int (-j)) L := (rfl)
theorem Qah : evE c (.not a) E L = kNot (evE c a E L) := (rfl)
theorem Qai : kNot (.ok x L) = kNotB (optV (truD L x) L) := (rfl)
theorem Qaj {k : Bool} : kNotB (.ok k L) = .ok (.bl (!k)) L := (rfl)
theorem Qak : evE c (.cmp op a b) E L = kCmp c op b E (evE c a E L) := (rfl)
theorem Qal : kCmp c op b E (.ok x L) = kCmp2 op x (evE c b E L) := (rfl)
theorem Qam : kCmp2 op x (.ok y L) = kBl (optV (cmpD op x y L) L) := (rfl)
theorem Qan {k : Bool} : kBl (.ok k L) = .ok (.bl k) L := (rfl)
theorem Qao : evE c (.chn op op' a b d) E L = kChn c op op' b d E (evE c a E L) := (rfl)
theorem Qap : kChn c op op' b d E (.ok x L) = kChn2 c op op' d E x (evE c b E L) := (rfl)
theorem Qaq : kChn2 c op op' d E x (.ok y L) = kChn3 c op' d E y (optV (cmpD op x y L) L) := (rfl)
theorem Qar : kChn3 c op' d E y (.ok true L) = kCmp2 op' y (evE c d E L) := (rfl)
theorem Qas : kChn3 c op' d E y (.ok false L) = .ok (.bl false) L := (rfl)
theorem Qat : evE c (.and a b) E L = kAnd c b E (evE c a E L) := (rfl)
theorem Qau : kAnd c b E (.ok x L) = kAnd2 c b E x (optV (truD L x) L) := (rfl)
theorem Qav : kAnd2 c b E x (.ok true L) = evE c b E L := (rfl)
theorem Qaw : kAnd2 c b E x (.ok false L) = .ok x L := (rfl)
theorem Qax : evE c (.or a b) E L = kOr c b E (evE c a E L) := (rfl)
theorem Qay : kOr c b E (.ok x L) = kOr2 c b E x (optV (truD L x) L) := (rfl)
theorem Qaz : kOr2 c b E x (.ok true L) = .ok x L := (rfl)
theorem QaA : kOr2 c b E x (.ok false L) = evE c b E L := (rfl)
theorem QaB : evE c (.ite t a b) E L = kIte c a b E (evE c t E L) := (rfl)
theorem QaC : kIte c a b E (.ok x L) = kIte2 c a b E (optV (truD L x) L) := (rfl)
theorem QaD : kIte2 c a b E (.ok true L) = evE c a E L := (rfl)
theorem QaE : kIte2 c a b E (.ok false L) = evE c b E L := (rfl)
theorem QaF : evE c (.tup es) E L = kTup (evA c es E L) := (rfl)
theorem QaG : kTup (.ok ds L) = if sizeOk ds.length then .ok (.tup ds) L else .stuck := (rfl)
theorem QaH : evE c (.lst lv es) E L = kLst lv (evA c es E L) := (rfl)
theorem QaI : kLst lv (.ok ds L) = if sizeOk ds.length then opt (some (newL lv ds L)) else .stuck := (rfl)
theorem QaJ : evE c (.idx a i) E L = kIdx c i E (evE c a E L) := (rfl)
theorem QaK : kIdx c i E (.ok x L) = kIdx2 x (evE c i E L) := (rfl)
theorem QaL : kIdx2 x (.ok y L) = optV (idxD x y L) L := (rfl)
theorem QaM {f : Nat} : evE c (.call f es) E L = kCall c f (evA c es E L) := (rfl)
theorem QaN {f : Nat} : kCall c f (.ok ds L) = callW c f ds L := (rfl)
theorem QaO {k : Blt} : evE c (.blt k lv es) E L = kBlt k lv (evA c es E L) := (rfl)
theorem QaP {k : Blt} : kBlt k lv (.ok ds L) = opt (bltD k lv ds L) := (rfl)
theorem QaQ {m : Mth} : evE c (.mth m o es) E L = kMth c m es E (evE c o E L) := (rfl)
theorem QaR {m : Mth} : kMth c m es E (.ok x L) = kMth2 c m es E x L (mthTy m L x) := (rfl)
theorem QaS {m : Mth} {T : MT} : kMth2 c m es E x L (some T) = kMth3 m x T (evA c es E L) := (rfl)
theorem QaT {m : Mth} {T : MT} : kMth3 m x T (.ok ds L) = kMth4 m x T ds L (mthTy m L x) := (rfl)
theorem QaU {m : Mth} {T : MT} : kMth4 m x T ds L (some T) = opt (mthD m x ds L) := if_pos rfl
theorem QaV {t : Ty} : evE c (.isi a t) E L = kIsi t (evE c a E L) := (rfl)
theorem QaW {t : Ty} : kIsi t (.ok x L) = kBl (optV (isiD L x t) L) := (rfl)
theorem QaX {f : Str} : evE c (.fld o f) E L = kFld f (evE c o E L) := (rfl)
theorem QaY {f : Str} {n : Nat} : kFld f (.ok (.ref n) L) = kFld2 f L L[n]? := (rfl)
theorem QaZ {f C : Str} {fs : List (Str × D)} : kFld2 f L (some (.ins C fs)) = optV (fs.lookup f) L := (rfl)
theorem Qa0 {m : Str} : evE c (.own m o es) E L = kOwn c m es E (evE c o E L) := (rfl)
theorem Qa1 {m : Str} {n : Nat} : kOwn c m es E (.ok (.ref n) L) = kOwn2 c m es E n L L[n]? := (rfl)
theorem Qa2 {m C : Str} {n f : Nat} {fs : List (Str × D)} (h : c.meth C m = some f) (h2 : fs.lookup m = none) : kOwn2 c m es E n L (some (.ins C fs)) = kOwn3 c f n (evA c es E L) := by simp [kOwn2, kOwn3, h, h2]
theorem Qa3 {n f : Nat} : kOwn3 c f n (.ok ds L) = callW c f (.ref n :: ds) L := (rfl)
theorem Qa4 {C : Str} : evE c (.make C es) E L = kMake c C (evA c es E L) := (rfl)
theorem Qa5 {C : Str} {f : Nat} (h : c.init C = some f) : kMake c C (.ok ds L) = kMake2 L.length (callW c f (.ref L.length :: ds) (L ++ [.ins C []])) := by simp [kMake, kMake2, h]
theorem Qa6 {n : Nat} : kMake2 n (.ok .non L) = .ok (.ref n) L := (rfl)
theorem Qa7 : evE c .dic0 E L = .ok (.ref L.length) (L ++ [.dic []]) := (rfl)
theorem Qa8 {lo hi : Ex} : evE c (.slc lv a lo hi) E L = kSlc c lv lo hi E (evE c a E L) := (rfl)
theorem Qa9 {lo hi : Ex} : kSlc c lv lo hi E (.ok x L) = kSlc2 c lv hi E x (if isAbs lo then .ok none L else kSlcP (evE c lo E L)) := (rfl)
theorem Qba : kSlcP (.ok x L) = optV (part x) L := (rfl)
theorem Qbb {hi : Ex} {l : Option Int} : kSlc2 c lv hi E x (.ok l L) = kSlc3 lv x l (if isAbs hi then .ok none L else kSlcP (evE c hi E L)) := (rfl)
theorem Qbc {l h : Option Int} : kSlc3 lv x l (.ok h L) = opt (slcP lv x l h L) := (rfl)
theorem Qbd : evE c (.lvl lv a) E L = kLvl lv (evE c a E L) := (rfl)
theorem Qbe : kLvl lv (.ok x L) = opt (lvlD lv x L) := (rfl)
theorem Qbf {own : List Nat} {g : Tg} {it : It} {cs : Exs} : evE c (.comp lv own g it cs e) E L = kComp c lv own g cs e E (evI c it E L) := (rfl)
theorem Qbg {own : List Nat} {g : Tg} {cs : Exs} {w : List (Nat × List D)} : kComp c lv own g cs e E (.ok (ds, w) L) = kNew lv (cmpS c w g (wipeE E own) cs e ds [] L) := (rfl)
theorem Qbh : kNew lv (.ok ds L) = opt (some (newL lv ds L)) := (rfl)
theorem Qbi {f : Nat} : evE c (.lgen lv f es) E L = kGen c lv f (evA c es E L) := (rfl)
theorem Qbj {f : Nat} : kGen c lv f (.ok ds L) = kNew lv (callG c f ds L) := (rfl)
theorem Qbk {own : List Nat} {g : Tg} {cs : Exs} : evE c (.compv lv own g d cs e) E L = kCompv c lv own g cs e E (evE c d E L) := (rfl)
theorem Qbl {own : List Nat} {g : Tg} {cs : Exs} : kCompv c lv own g cs e E (.ok x L) = kCompv2 c lv own g cs e E (optV (dicAt x L) L) := (rfl)
theorem Qbm : evA c .nil E L = .ok [] L := (rfl)
theorem Qbn : evA c (.cons e es) E L = kCons c es E (evE c e E L) := (rfl)
theorem Qbo : kCons c es E (.ok x L) = kCons2 x (evA c es E L) := (rfl)
theorem Qbp : kCons2 x (.ok xs L) = .ok (x :: xs) L := (rfl)
theorem Qbq : evA c (.star e es) E L = kStar c es E (evE c e E L) := (rfl)
theorem Qbr : kStar c es E (.ok x L) = kStar2 c es E (optV (seqOf L x) L) := (rfl)
theorem Qbs : kStar2 c es E (.ok xs L) = kStar3 xs (evA c es E L) := (rfl)
theorem Qbt : kStar3 xs (.ok ds L) = .ok (xs ++ ds) L := (rfl)
theorem Qbu : evT c e E L = kTru (evE c e E L) := (rfl)
theorem Qbv : kTru (.ok x L) = optV (truD L x) L := (rfl)
theorem Qbw : opt (some (x, L)) = .ok x L := (rfl)
theorem Qbx {α : Type} {v : α} : optV (some v) L = .ok v L := (rfl)
theorem Qby : evI c (.val e) E L = kIt1 (evE c e E L) := (rfl)
theorem Qbz : kIt1 (.ok x L) = kIt1b x (optV (itemsOf L x) L) := (rfl)
theorem QbA : kIt1b x (.ok ds L) = .ok (ds, watch L x) L := (rfl)
theorem QbB : evI c (.rng1 e) E L = kRng1 (evE c e E L) := (rfl)
theorem QbC : kRng1 (.ok x L) = kRngb (optV (rng1D x) L) := (rfl)
theorem QbD : kRngb (.ok ds L) = .ok (ds, []) L := (rfl)
theorem QbE : evI c (.rng2 a b) E L = kRng2 c b E (evE c a E L) := (rfl)
theorem QbF : kRng2 c b E (.ok x L) = kRng2b x (evE c b E L) := (rfl)
theorem QbG : kRng2b x (.ok y L) = kRngb (optV (rng2D x y) L) := (rfl)
theorem QbH : evI c (.enum e) E L = kEnum (evE c e E L) := (rfl)
theorem QbI : kEnum (.ok x L) = kEnumb x (optV (lstOf L x) L) := (rfl)
theorem QbJ : kEnumb x (.ok ds L) = .ok (enumD ds, watch L x) L := (rfl)
theorem QbK : evI c (.zip a b) E L = kZip c b E (evE c a E L) := (rfl)
theorem QbL : kZip c b E (.ok x L) = kZip2 x (evE c b E L) := (rfl)
theorem QbM : kZip2 x (.ok y L) = optV (zipW L x y) L := (rfl)
theorem QbN : evI c (.zip3 a b d) E L = kZ3 c b d E (evE c a E L) := (rfl)
theorem QbO : kZ3 c b d E (.ok x L) = kZ32 c d E x (evE c b E L) := (rfl)
theorem QbP : kZ32 c d E x (.ok y L) = kZ33 x y (evE c d E L) := (rfl)
theorem QbQ : kZ33 x y (.ok z L) = optV (zip3W L x y z) L := (rfl)
/-! ### statements -/
variable {ss ss2 : Ss} {g : Tg} {st : St} {is : List Nat} {n : Nat} {f : Str}
theorem QbR : evSs c .nil E L = .fl .nx E L := (rfl)
theorem QbS : evSs c (.cons st ss) E L = kSeq c ss (evS c st E L) := (rfl)
theorem QbT : kSeq c ss (.fl .nx E L) = evSs c ss E L := (rfl)
theorem QbU : kSeq c ss (.fl (.rt x) E L) = .fl (.rt x) E L := (rfl)
theorem QbV : kSeq c ss (.fl .bk E L) = .fl .bk E L := (rfl)
theorem QbW : kSeq c ss (.fl .ct E L) = .fl .ct E L := (rfl)
theorem QbX : evS c (.ex e) E L = kEx E (evE c e E L) := (rfl)
theorem QbY : kEx E (.ok x L) = .fl .nx E L := (rfl)
theorem QbZ : evS c (.asg (.nm g) e) E L = kAsg g E (evE c e E L) := (rfl)
theorem Qb0 : kAsg g E (.ok x L) = kSto L (storeG g x E) := (rfl)
theorem Qb1 : kSto L (some E) = .fl .nx E L := (rfl)
theorem Qb2 : evS c (.asg (.sub o i) e) E L = kSub c o i E (evE c e E L) := (rfl)
theorem Qb3 : kSub c o i E (.ok x L) = kSub2 c i E x (evE c o E L) := (rfl)
theorem Qb4 : kSub2 c i E x (.ok y L) = kSub3 E x y (evE c i E L) := (rfl)
theorem Qb5 : kSub3 E x y (.ok z L) = kLiv E (setD y z x L) := (rfl)
theorem Qb6 : kLiv E (some L) = .fl .nx E L := (rfl)
theorem Qb7 : evS c (.asg (.fld o f) e) E L = kSfl c o f E (evE c e E L) := (rfl)
theorem Qb8 : kSfl c o f E (.ok x L) = kSfl2 f E x (evE c o E L) := (rfl)
theorem Qb9 : kSfl2 f E x (.ok (.ref n) L) = kSfl3 f E x n L L[n]? := (rfl)
theorem Qca {C : Str} {fs : List (Str × D)} (h : fs.length < 1000) : kSfl3 f E x n L (some (.ins C fs)) = .fl .nx E (L.set n (.ins C (putFld f x fs))) := if_pos (decide_eq_true h)
theorem Qcb {is : List Nat} : evS c (.par is es) E L = kPar is E (evA c es E L) := (rfl)
theorem Qcc {is : List Nat} (h : is.length = ds.length) : kPar is E (.ok ds L) = .fl .nx (setAll is ds E) L := if_pos h
theorem Qcd : evS c (.ret e) E L = kRet E (evE c e E L) := (rfl)
theorem Qce : kRet E (.ok x L) = .fl (.rt x) E L := (rfl)
theorem Qcf : evS c .retN E L = .fl (.rt .non) E L := (rfl)
theorem Qcg : evS c (.ite t ss ss2) E L = kIf c ss ss2 E (evT c t E L) := (rfl)
theorem Qch : kIf c ss ss2 E (.ok true L) = evSs c ss E L := (rfl)
theorem Qci : kIf c ss ss2 E (.ok false L) = evSs c ss2 E L := (rfl)
theorem Qcj {it : It} : evS c (.for_ g it ss) E L = kFor c g ss E (evI c it E L) := (rfl)
theorem Qck {w : List (Nat × List D)} : kFor c g ss E (.ok (ds, w) L) = forS c w g ss ds E L := (rfl)
theorem Qcl : evS c (.whl t ss) E L = whlS c t ss c.fuel E L := (rfl)
theorem Qcm : evS c .brk E L = .fl .bk E L := (rfl)
theorem Qcn : evS c .cnt E L = .fl .ct E L := (rfl)
theorem Qco : evS c .pas E L = .fl .nx E L := (rfl)
theorem Qcp : evS c (.del o i) E L = kDel c i E (evE c o E L) := (rfl)
theorem Qcq : kDel c i E (.ok x L) = kDel2 E x (evE c i E L) := (rfl)
theorem Qcr : kDel2 E x (.ok y L) = kLiv E (delD x y L) := (rfl)
/-! ### the names -/
def kVar (L : Live) (o : Option (Option D)) : Res D := match o with | some (some d) => .ok d L | _ => .stuck
theorem Qcs {i : Nat} : evE c (.var i) E L = kVar L E[i]? := by
  (simp only [evE, kVar]) <;> rfl
theorem Qct : kVar L (some (some x)) = .ok x L := (rfl)
theorem Qcu {j : Nat} (h : j < E.length) : storeG (.slot j) x E = some (E.set j (some x)) := if_pos h
def kGs (gs : List Tg) (ds : List D) (o : Option Ev) : Option Ev := match o with | some E' => storeGs gs ds E' | none => none
theorem Qcv {gs : List Tg} : storeG (.tup gs) (.tup ds) E = storeGs gs ds E := (rfl)
theorem Qcw : storeGs [] [] E = some E := (rfl)
theorem Qcx {g : Tg} {gs : List Tg} : storeGs (g :: gs) (x :: ds) E = kGs gs ds (storeG g x E) := (rfl)
theorem Qcy {gs : List Tg} : kGs gs ds (some E) = storeGs gs ds E := (rfl)
theorem Qcz : wipeE E [] = E := (rfl)
theorem QcA {v : Nat} {vs : List Nat} : wipeE E (v :: vs) = (wipeE E vs).set v none := (rfl)
theorem QcB {ds : List D} : setAll [] ds E = E := by cases ds <;> rfl
theorem QcC {i : Nat} {is : List Nat} : setAll (i :: is) (x :: ds) E = setAll is ds (E.set i (some x)) := (rfl)
theorem QcD : newL true ds L = (.ref L.length, L ++ [.lst ds]) := (rfl)
theorem QcE : newL false ds L = (.lst 0 ds, L) := (rfl)
theorem QcF : resOf (.fl (.rt x) E L) = .ok x L := (rfl)
theorem QcG : resOf (.fl .nx E L) = .ok .non L := (rfl)
end
end MP
set_option maxHeartbeats 4000000
/-! MPO: what operations give, for the walk -/
namespace MP
open PySem PySem.Spec PyProof.Rows L2
section
variable {L : Live} {i j : Int} {s t : Str} {ds es : List D} {x y : D} {lv b b2 : Bool} {n : Nat} {kvs : List (Key × D)}
theorem QcH : truD L (.bl b) = some b := (rfl)
theorem QcI : truD L .non = some false := (rfl)
theorem QcJ : truD L (.tup ds) = some (!ds.isEmpty) := (rfl)
theorem QcK : truD L (.lst n ds) = some (!ds.isEmpty) := (rfl)
theorem QcL : binD .add lv (.int i) (.int j) L = some (.int (i + j), L) := (rfl)
theorem QcM : binD .sub lv (.int i) (.int j) L = some (.int (i - j), L) := (rfl)
theorem QcN : cmpD .eq (.int i) (.int j) L = some (decide (i = j)) := (rfl)
theorem QcO : cmpD .eq (.str s) (.str t) L = some (decide (s = t)) := (rfl)
theorem QcP : cmpD .ne (.str s) (.str t) L = some (!decide (s = t)) := (rfl)
theorem QcQ : cmpD .ne (.int i) (.int j) L = some (!decide (i = j)) := (rfl)
theorem QcR : cmpD .eq (.int i) .non L = some false := (rfl)
theorem QcS : cmpD .eq (.str s) .non L = some false := (rfl)
theorem QcT : cmpD .eq .non (.str s) L = some false := (rfl)
theorem QcU : cmpD .lt (.int i) (.int j) L = some (decide (i < j)) := (rfl)
theorem QcV : cmpD .le (.int i) (.int j) L = some (decide (i ≤ j)) := (rfl)
theorem QcW : cmpD .gt (.int i) (.int j) L = some (decide (j < i)) := (rfl)
theorem QcX : cmpD .ge (.int i) (.int j) L = some (decide (j ≤ i)) := (rfl)
theorem QcY : cmpD .is_ x .non L = some (isNonD x) := (rfl)
theorem QcZ : cmpD .isn x .non L = some (!isNonD x) := (rfl)
theorem Qc0 : cmpD .is_ (.bl b) (.bl b2) L = some (decide (b = b2)) := (rfl)
theorem Qc1 : cmpD .isn (.bl b) (.bl b2) L = some (!decide (b = b2)) := (rfl)
theorem Qc2 : isNonD .non = true := (rfl)
theorem Qc3 : isNonD (.int i) = false := (rfl)
theorem Qc4 : isNonD (.str s) = false := (rfl)
theorem Qc5 : isNonD (.tup ds) = false := (rfl)
theorem Qc6 : isNonD (.lst n ds) = false := (rfl)
theorem Qc7 : idxD (.tup ds) (.int i) L = atI ds i := (rfl)
theorem Qc8 : idxD (.lst n ds) (.int i) L = atI ds i := (rfl)
theorem atI_of {k : Nat} (h : ds[k]? = some x) : atI ds (k : Int) = some x := by
  obtain ⟨h1, h2⟩ := List.getElem?_eq_some_iff.mp h
  have e : ixN ds.length (k : Int) = some k := by
    unfold ixN
    rw [if_pos (by omega), if_pos (by omega)]
    rfl
  simp [atI, e, h]
theorem Qc9 : atI (x :: ds) 0 = some x := atI_of (k := 0) rfl
theorem Qda {x0 : D} : atI (x0 :: x :: ds) 1 = some x := atI_of (k := 1) rfl
theorem Qdb {x0 x1 : D} : atI (x0 :: x1 :: x :: ds) 2 = some x := atI_of (k := 2) rfl
theorem Qdc {x0 x1 x2 : D} : atI (x0 :: x1 :: x2 :: x :: ds) 3 = some x := atI_of (k := 3) rfl
theorem Qdd {x0 x1 x2 x3 : D} : atI (x0 :: x1 :: x2 :: x3 :: x :: ds) 4 = some x := atI_of (k := 4) rfl
theorem Qde : isiD L (.tup ds) .tuple = some true := (rfl)
theorem Qdf : isiD L (.str s) .tuple = some false := (rfl)
theorem Qdg : bltD .len lv [.tup ds] L = some (.int ds.length, L) := (rfl)
theorem Qdh : bltD .len lv [.lst n ds] L = some (.int ds.length, L) := (rfl)
theorem Qdi : bltD .int lv [.bl b] L = some (.int (if b then 1 else 0), L) := (rfl)
theorem szO {n : Nat} (h : n ≤ 1000000) : sizeOk n = true := decide_eq_true (by rw [sizeLine_eq]; omega)
theorem szD (h : ds.length ≤ 1000) : sizeOk ds.length = true := szO (by omega)
theorem Qdj : sizeOk 0 = true := szO (by omega)
theorem Qdk : sizeOk 1 = true := szO (by omega)
theorem Qdl : sizeOk 2 = true := szO (by omega)
theorem Qdm : sizeOk 3 = true := szO (by omega)
theorem Qdn : sizeOk 4 = true := szO (by omega)
theorem Qdo : sizeOk 5 = true := szO (by omega)
theorem Qdp : sizeOk 8 = true := szO (by omega)
theorem Qdq : seqOf L (.tup ds) = some ds := (rfl)
theorem Qdr : seqOf L (.lst n ds) = some ds := (rfl)
theorem Qds : lstOf L (.lst n ds) = some ds := (rfl)
theorem Qdt : itemsOf L (.lst n ds) = some ds := (rfl)
theorem Qdu : itemsOf L (.tup ds) = some ds := (rfl)
theorem Qdv : watch L (.lst n ds) = [] := (rfl)
theorem Qdw : watch L (.tup ds) = [] := (rfl)
theorem Qdx : part (.int i) = some (some i) := (rfl)
theorem Qdy : isAbs (.con .non) = true := (rfl)
end
end MP
set_option maxHeartbeats 4000000
/-! MPX: walking the body of a generator def -/
namespace MP
open PySem PySem.Spec PyProof.Rows L2
section
variable {c : Cxt} {E E' : Ev} {L L' : Live} {ys ys' : List D} {s : St} {ss : Gss} {st : Gst} {e : Ex} {d : D} {g : Tg} {it : It} {b : Gss} {ds : List D} {w : List (Nat × List D)}
theorem g_pl (h : evS c s E L = .fl .nx E' L') : evGs c (.cons (.pl s) ss) E ys L = evGs c ss E' ys L' := by
  simp only [evGs, evG, h, GRes.ofS, GRes.seq]
theorem g_yld (hl : ys.length < sizeLine) (h : evE c e E L = .ok d L') : evGs c (.cons (.yld e) ss) E ys L = evGs c ss E (ys ++ [d]) L' := by
  simp only [evGs, evG, h, hl, if_true, GRes.of, GRes.seq]
theorem g_for (hi : evI c it E L = .ok (ds, w) L') {E2 : Ev} {y2 : List D} {L2 : Live} (hf : forG w g (fun E y L => evGs c b E y L) ds E ys L' = .fl .nx E2 y2 L2) : evGs c (.cons (.for_ g it b) ss) E ys L = evGs c ss E2 y2 L2 := by
  simp only [evGs, evG, hi, GRes.of, hf, GRes.seq]
theorem g_nil : evGs c .nil E ys L = .fl .nx E ys L := by simp only [evGs]
theorem forG_run {m : Ev → List D → Live → GRes} (P : Nat → Ev → List D → Live → Prop) {ds : List D} (hw : ∀ i E ys L, P i E ys L → still L w = true)
    (hs : ∀ i E ys L (h : i < ds.length), P i E ys L → ∃ E1 E2 y2 L2, storeG g ds[i] E = some E1 ∧ m E1 ys L = .fl .nx E2 y2 L2 ∧ P (i + 1) E2 y2 L2) :
    ∀ {E : Ev} {ys : List D} {L : Live}, P 0 E ys L → ∃ E' ys' L', forG w g m ds E ys L = .fl .nx E' ys' L' ∧ P ds.length E' ys' L' := by
  have key : ∀ n i E ys L, n = ds.length - i → i ≤ ds.length → P i E ys L → ∃ E' ys' L', forG w g m (ds.drop i) E ys L = .fl .nx E' ys' L' ∧ P ds.length E' ys' L' := by
    intro n
    induction n with
    | zero =>
      intro i E ys L hn hi hp
      have e : i = ds.length := by omega
      subst e
      rw [List.drop_length]
      simp only [forG, hw _ _ _ _ hp, if_true]
      exact ⟨E, ys, L, rfl, hp⟩
    | succ n ih =>
      intro i E ys L hn hi hp
      have hlt : i < ds.length := by omega
      rw [List.drop_eq_getElem_cons hlt]
      obtain ⟨E1, E2, y2, L2, h1, h2, h3⟩ := hs i E ys L hlt hp
      simp only [forG, hw _ _ _ _ hp, if_true, h1, h2]
      exact ih (i + 1) E2 y2 L2 (by omega) hlt h3
  intro E ys L hp
  have := key ds.length 0 E ys L (by simp) (Nat.zero_le _) hp
  simpa using this
/-- a loop that yields what it walks -/
theorem forG_yields {i : Nat} (h : i < E.length) (hw : still L w = true) (hz : ys.length + ds.length ≤ sizeLine) :
    ∃ x, forG w (.slot i) (fun E y L => evGs c (.cons (.yld (.var i)) .nil) E y L) ds E ys L = .fl .nx (match x with | some d => E.set i (some d) | none => E) (ys ++ ds) L := by
  obtain ⟨E', ys', L', h1, x, h2, h3, h4⟩ := forG_run (w := w) (g := .slot i) (m := fun E y L => evGs c (.cons (.yld (.var i)) .nil) E y L) (ds := ds)
    (fun j E2 y2 L2 => ∃ x : Option D, E2 = (match x with | some d => E.set i (some d) | none => E) ∧ y2 = ys ++ ds.take j ∧ L2 = L) (fun _ _ _ _ ⟨_, _, _, hl⟩ => by rw [hl]; exact hw)
    (fun j E2 y2 L2 hj ⟨x, h2, h3, h4⟩ => by
      subst h4
      have hE : i < E2.length := by rw [h2]; cases x <;> simp [h]
      refine ⟨E2.set i (some ds[j]), E2.set i (some ds[j]), y2 ++ [ds[j]], L2, Qcu hE, ?_, some ds[j], ?_, ?_, rfl⟩
      · rw [g_yld (d := ds[j]) (L' := L2) ?_ ?_, g_nil]
        · rw [h3, List.length_append, List.length_take]; omega
        · rw [Qcs,List.getElem?_set_self hE]; rfl
      · rw [h2]; cases x with
        | none => rfl
        | some y => exact List.set_set ..
      · rw [h3, List.append_assoc, List.take_append_getElem hj])
    (E := E) (ys := ys) (L := L) ⟨none, rfl, by simp, rfl⟩
  rw [List.take_length] at h3
  subst h2 h3 h4
  exact ⟨x, h1⟩
end
class HasGen (T : Tab) (f : Nat) (g : outParam Gn) (T' : outParam Tab) : Prop where
  h1 : T.gen f = some g
  h2 : T.gcx = T'.cx
theorem callG_of {T T' : Tab} {f : Nat} {g : Gn} [q : HasGen T f g T'] {k : Nat} {ds xs : List D} {L L' : Live} (hn : noRefs ds = true) (h : runGn (T'.cx k) g ds L = .ok xs L') : callG (T.cx (k + 2)) f ds L = .ok xs L' := by
  have e : (T.cx (k + 2)).γ f ds L = runGn (T'.cx k) g ds L := by
    simp only [Tab.cx, q.h1, q.h2]
  simp only [callG, hn, if_true, e, h]
theorem runGn_of {c : Cxt} {g : Gn} {ds ys : List D} {L L' : Live} {E' : Ev} (hl : ds.length = g.np) (h : evGs c g.body (startE g.nN ds) [] L = .fl .nx E' ys L') : runGn c g ds L = .ok ys L' := by
  simp only [runGn, hl, if_true, h]
theorem fa_sub {l l' : LD} (h1 : l'.free = l.free) (h2 : ∀ q ∈ l'.nms, q ∈ l.nms) (h3 : l'.cl = l.cl) : ∀ f ∈ l'.fa, f ∈ l.fa := by
  intro f hf
  have e : l'.fas = l.fas := by simp only [LD.fas, h3]
  simp only [LD.fa, List.mem_append, List.mem_map, h1, e] at hf ⊢
  rcases hf with (hf | ⟨q, hq, rfl⟩) | hf
  · exact .inl (.inl hf)
  · exact .inl (.inr ⟨q, h2 q hq, rfl⟩)
  · exact .inr hf
end MP
set_option maxHeartbeats 1000000
namespace PB
open PySem PySem.Spec PyProof.Rows L2 MP
class HasFn (T : Tab) (f : Nat) (d : outParam Fn) : Prop where
  h : T.fn f = some d
theorem phiH {T : Tab} {d : Fn} (f : Nat) [h : HasFn T f d] (k : Nat) (ds : List D) (L : Live) : (T.cx (k + 1)).φ f ds L = runF (T.cx k) d ds L := phi_of h.h k ds L
theorem goH {T : Tab} {d : Fn} (f : Nat) [h : HasFn T f d] {k : Nat} {ds : List D} {L : Live} (hc : d.clean = false) (hl : ds.length = d.np) : (T.cx (k + 1)).φ f ds L = resOf (evSs (T.cx k) d.body (startE d.nN ds) L) := go h.h hc hl
theorem goCH {T : Tab} {d : Fn} (f : Nat) [h : HasFn T f d] {k : Nat} {ds : List D} {L : Live} (hc : d.clean = true) (hl : ds.length = d.np) : (T.cx (k + 1)).φ f ds L = cleanR L (resOf (evSs (T.cx k) d.body (startE d.nN ds) L)) := goC h.h hc hl
/-! is_integer: 0=value 1=first 2=last -/
def b_is_integer_t1 : Ss := (.cons (.ret (.and (.or (.cmp .is_ (.var 1) (.con .non)) (.cmp .ge (.var 0) (.var 1))) (.or (.cmp .is_ (.var 2) (.con .non)) (.cmp .le (.var 0) (.var 2))))) .nil)
def b_is_integer : Ss := (.cons (.ite (.or (.not (.isi (.var 0) .int)) (.isi (.var 0) .bool)) (.cons (.ret (.con (.bl false))) .nil) .nil) b_is_integer_t1)
def f_is_integer : Fn := ⟨3, 3, [], false, b_is_integer⟩

/-! is_code: 0=value 1=.0 2=sign -/
def b_is_code_0 : Ex := (.cmp .in_ (.var 2) (.glob (Str.ofString "SIGNS") (.str (Str.ofString "abcdefghijklmnopqrstuvwxyz0123456789"))))
def b_is_code : Ss := (.cons (.ret (.and (.isi (.var 0) .str) (.and (.chn .le .le (.con (.int 1)) (.blt .len false (.cons (.var 0) .nil)) (.con (.int 8))) (.blt .all false (.cons (.comp false [1, 2] (.slot 2) (.val (.var 0)) .nil b_is_code_0) .nil))))) .nil)
def f_is_code : Fn := ⟨1, 3, [], false, b_is_code⟩

/-! is_hold: 0=value 1=layers -/
def b_is_hold_t2 : Ss := (.cons (.ret (.and (.cmp .eq (.idx (.var 0) (.con (.int 0))) (.con (.str (Str.ofString "layer")))) (.call 0 (.cons (.idx (.var 0) (.con (.int 1))) (.cons (.con (.int 1)) (.cons (.bin .sub false (.var 1) (.con (.int 1))) .nil)))))) .nil)
def b_is_hold_t1 : Ss := (.cons (.ite (.cmp .eq (.idx (.var 0) (.con (.int 0))) (.con (.str (Str.ofString "code")))) (.cons (.ret (.call 1 (.cons (.idx (.var 0) (.con (.int 1))) .nil))) .nil) .nil) b_is_hold_t2)
def b_is_hold : Ss := (.cons (.ite (.or (.not (.isi (.var 0) .tuple)) (.cmp .ne (.blt .len false (.cons (.var 0) .nil)) (.con (.int 2)))) (.cons (.ret (.con (.bl false))) .nil) .nil) b_is_hold_t1)
def f_is_hold : Fn := ⟨2, 2, [], false, b_is_hold⟩

/-! is_action: 0=value 1=layer 2=layers 3=word 4=code 5=hold 6=time 7=rule -/
def b_is_action_t5 : Ss := (.cons (.ret (.and (.call 0 (.cons (.var 6) (.cons (.con (.int 1)) (.cons (.glob (Str.ofString "MOST_TIME") (.int 1000000000)) .nil)))) (.cmp .in_ (.var 7) (.glob (Str.ofString "RULES") (.tup [(.str (Str.ofString "time")), (.str (Str.ofString "other")), (.str (Str.ofString "within"))]))))) .nil)
def b_is_action_t4 : Ss := (.cons (.ite (.or (.cmp .ne (.var 3) (.con (.str (Str.ofString "dual")))) (.or (.not (.call 1 (.cons (.var 4) .nil))) (.not (.call 2 (.cons (.var 5) (.cons (.var 2) .nil)))))) (.cons (.ret (.con (.bl false))) .nil) .nil) b_is_action_t5)
def b_is_action_t3 : Ss := (.cons (.asg (.nm (.tup [(.slot 3), (.slot 4), (.slot 5), (.slot 6), (.slot 7)])) (.var 0)) b_is_action_t4)
def b_is_action_t2 : Ss := (.cons (.ite (.cmp .eq (.blt .len false (.cons (.var 0) .nil)) (.con (.int 2))) (.cons (.ret (.or (.call 2 (.cons (.var 0) (.cons (.var 2) .nil))) (.and (.cmp .in_ (.idx (.var 0) (.con (.int 0))) (.tup (.cons (.con (.str (Str.ofString "lock"))) (.cons (.con (.str (Str.ofString "once"))) .nil)))) (.call 0 (.cons (.idx (.var 0) (.con (.int 1))) (.cons (.con (.int 1)) (.cons (.bin .sub false (.var 2) (.con (.int 1))) .nil))))))) .nil) .nil) b_is_action_t3)
def b_is_action_t1 : Ss := (.cons (.ite (.or (.not (.isi (.var 0) .tuple)) (.cmp .nin (.blt .len false (.cons (.var 0) .nil)) (.tup (.cons (.con (.int 2)) (.cons (.con (.int 5)) .nil))))) (.cons (.ret (.con (.bl false))) .nil) .nil) b_is_action_t2)
def b_is_action : Ss := (.cons (.ite (.isi (.var 0) .str) (.cons (.ret (.or (.cmp .eq (.var 0) (.con (.str (Str.ofString "none")))) (.and (.cmp .eq (.var 0) (.con (.str (Str.ofString "through")))) (.cmp .gt (.var 1) (.con (.int 0)))))) .nil) .nil) b_is_action_t1)
def f_is_action : Fn := ⟨3, 8, [], false, b_is_action⟩

/-! is_table: 0=value 1=.0 2=row -/
def b_is_table_0 : Ex := (.isi (.var 2) .list)
def b_is_table_1 : Ex := (.cmp .eq (.blt .len false (.cons (.var 2) .nil)) (.blt .len false (.cons (.idx (.var 0) (.con (.int 0))) .nil)))
def b_is_table_t1 : Ss := (.cons (.ret (.and (.chn .le .le (.con (.int 1)) (.blt .len false (.cons (.idx (.var 0) (.con (.int 0))) .nil)) (.con (.int 16))) (.blt .all false (.cons (.comp false [1, 2] (.slot 2) (.val (.var 0)) .nil b_is_table_1) .nil)))) .nil)
def b_is_table : Ss := (.cons (.ite (.or (.not (.isi (.var 0) .list)) (.or (.not (.chn .le .le (.con (.int 1)) (.blt .len false (.cons (.var 0) .nil)) (.con (.int 6)))) (.not (.blt .all false (.cons (.comp false [1, 2] (.slot 2) (.val (.var 0)) .nil b_is_table_0) .nil))))) (.cons (.ret (.con (.bl false))) .nil) .nil) b_is_table_t1)
def f_is_table : Fn := ⟨1, 3, [], false, b_is_table⟩

/-! wrong_places: 0=table 1=found 2=layer 3=row 4=.0 5=key 6=action -/
def b_wrong_places_1 : Ex := (.not (.call 3 (.cons (.var 6) (.cons (.var 2) (.cons (.blt .len false (.cons (.var 0) .nil)) .nil)))))
def b_wrong_places_2 : Ex := (.tup (.cons (.var 2) (.cons (.var 5) .nil)))
def b_wrong_places_0 : Ss := (.cons (.ex (.mth .extend (.var 1) (.cons (.comp false [4, 5, 6] (.tup [(.slot 5), (.slot 6)]) (.enum (.var 3)) (.cons b_wrong_places_1 .nil) b_wrong_places_2) .nil))) .nil)
def b_wrong_places_t2 : Ss := (.cons (.ret (.var 1)) .nil)
def b_wrong_places_t1 : Ss := (.cons (.for_ (.tup [(.slot 2), (.slot 3)]) (.enum (.var 0)) b_wrong_places_0) b_wrong_places_t2)
def b_wrong_places : Ss := (.cons (.asg (.nm (.slot 1)) (.lst true .nil)) b_wrong_places_t1)
def f_wrong_places : Fn := ⟨1, 7, [], true, b_wrong_places⟩

/-! require_layout: 0=layout 1=wrong -/
def b_require_layout_t2 : Ss := (.cons (.ite (.cmp .ne (.var 1) (.lst false .nil)) (.cons .nev .nil) .nil) .nil)
def b_require_layout_t1 : Ss := (.cons (.asg (.nm (.slot 1)) (.call 5 (.cons (.var 0) .nil))) b_require_layout_t2)
def b_require_layout : Ss := (.cons (.ite (.not (.call 4 (.cons (.var 0) .nil))) (.cons .nev .nil) .nil) b_require_layout_t1)
def f_require_layout : Fn := ⟨1, 2, [], false, b_require_layout⟩
section
def SIGNS : Str := Str.ofString "abcdefghijklmnopqrstuvwxyz0123456789"
def isCode (s : Str) : Prop := 1 ≤ s.length ∧ s.length ≤ 8 ∧ ∀ c ∈ s.cps.toList, c ∈ SIGNS.cps.toList
theorem small_line {n : Nat} (h : n ≤ 1000000) : n ≤ sizeLine := by rw [sizeLine_eq]; omega
theorem sizeOk_small {n : Nat} (h : n ≤ 1000000) : MP.sizeOk n = true := decide_eq_true (small_line h)
def optD : Option Int → D | none => .non | some i => .int i
variable {T : Tab} [HasFn T 0 f_is_integer]
theorem s_is_integer (k : Nat) (hk : 1 ≤ k) (i : Int) (lo hi : Option Int) (h1 : ∀ a, lo = some a → a ≤ i) (h2 : ∀ a, hi = some a → i ≤ a) (L : Live) : (T.cx k).φ 0 [.int i, optD lo, optD hi] L = .ok (.bl true) L := by
  obtain ⟨k, rfl⟩ : ∃ m, k = m + 1 := ⟨k - 1, by omega⟩
  rw [phiH 0]
  cases lo <;> cases hi <;> simp_all [runF, runB, startE, evSs, evS, evE, evA, evC, evI, evT, resOf, optV, opt, truD, storeT, storeG, storeGs, f_is_integer, b_is_integer, b_is_integer_t1, isiD, cmpD, optD, isNonD, ordI]
theorem s_int2 (k : Nat) (hk : 1 ≤ k) (i lo hi : Int) (h1 : lo ≤ i) (h2 : i ≤ hi) (L : Live) : (T.cx k).φ 0 [.int i, .int lo, .int hi] L = .ok (.bl true) L :=
  s_is_integer k hk i (some lo) (some hi) (fun a e => by cases e; exact h1) (fun a e => by cases e; exact h2) L
theorem bools_true {α : Type} (l : List α) : boolsOf (l.map fun _ => D.bl true) = some (l.map fun _ => true) := by
  induction l with
  | nil => rfl
  | cons d r ih => simp [boolsOf, ih]
variable [HasFn T 1 f_is_code]
theorem s_is_code (k : Nat) (hk : 1 ≤ k) (s : Str) (h : isCode s) (L : Live) : (T.cx k).φ 1 [.str s] L = .ok (.bl true) L := by
  obtain ⟨k, rfl⟩ : ∃ m, k = m + 1 := ⟨k - 1, by omega⟩
  obtain ⟨h1, h2, h3⟩ := h
  have h1' : (1 : Int) ≤ s.length := by omega
  have h2' : (s.length : Int) ≤ 8 := by omega
  have hz : MP.sizeOk s.length = true := sizeOk_small (by omega)
  have hc : compL [] (.slot 2) [some (.str s), none, none] (fun _ L' => .ok true L') (fun E' L' => evE (T.cx k) b_is_code_0 E' L') (charsD s) [] L = .ok ((charsD s).map fun _ => .bl true) L := by
    refine compL_map rfl (by simp [charsD]; exact small_line (by have : s.cps.size = s.length := rfl; omega)) fun d hd => ?_
    simp only [charsD, List.mem_map] at hd
    obtain ⟨c, hc, rfl⟩ := hd
    refine ⟨_, rfl, rfl, ?_⟩
    have := h3 c hc
    unfold SIGNS at this
    simp [b_is_code_0, evE, cmpD, inD, inStr, optV, Str.length]
    simpa using this
  rw [phiH 1]
  simp [runF, runB, startE, evSs, evS, evE, evA, evC, evI, evT, resOf, optV, opt, truD, storeT, storeG, storeGs, f_is_code, b_is_code, isiD, cmpD, ordI, bltD, lenD, lenK, hz, wipeE, itemsOf, watch, h1', h2', newL, lstOf, hc, bools_true]
/-! ### actions -/
inductive Hold where | code (s : Str) | layer (n : Int)
inductive Act where | none | through | code (s : Str) | layer (n : Int) | lock (n : Int) | once (n : Int) | dual (c : Str) (h : Hold) (t : Int) (r : Str)
abbrev S (s : String) : D := .str (Str.ofString s)
def Hold.enc : Hold → D
  | .code s => .tup [S "code", .str s]
  | .layer n => .tup [S "layer", .int n]
def Act.enc : Act → D
  | .none => S "none"
  | .through => S "through"
  | .code s => .tup [S "code", .str s]
  | .layer n => .tup [S "layer", .int n]
  | .lock n => .tup [S "lock", .int n]
  | .once n => .tup [S "once", .int n]
  | .dual c h t r => .tup [S "dual", .str c, h.enc, .int t, .str r]
def Hold.ok (layers : Int) : Hold → Prop
  | .code s => isCode s
  | .layer n => 1 ≤ n ∧ n ≤ layers - 1
def isRule (r : Str) : Prop := r = Str.ofString "time" ∨ r = Str.ofString "other" ∨ r = Str.ofString "within"
def Act.ok (layer layers : Int) : Act → Prop
  | .none => True
  | .through => 0 < layer
  | .code s => isCode s
  | .layer n => 1 ≤ n ∧ n ≤ layers - 1
  | .lock n => 1 ≤ n ∧ n ≤ layers - 1
  | .once n => 1 ≤ n ∧ n ≤ layers - 1
  | .dual c h t r => isCode c ∧ h.ok layers ∧ 1 ≤ t ∧ t ≤ 1000000000 ∧ isRule r
theorem seq2 {a b : Str} : eqS (.str a) (.str b) = decide (a = b) := rfl
theorem callW_nil {c : Cxt} {f : Nat} {ds : List D} {L : Live} (h : idsAs L (c.liv f) ds = []) : callW c f ds L = c.φ f ds L := by
  unfold callW; rw [h]
theorem idsF_noRef (L : Live) (n : Nat) {d : D} (h : noRef d = true) : idsF L n d = [] := by
  cases n <;> simp [idsF, h]
theorem idsAs_noRef (L : Live) : ∀ (lv : List Bool) (ds : List D), noRefs ds = true → idsAs L lv ds = []
  | _, [], _ => by simp [idsAs]
  | lv, d :: ds, h => by
    simp only [noRefs, Bool.and_eq_true] at h
    simp [idsAs, idsF_noRef L 12 h.1, idsAs_noRef L lv.tail ds h.2]
theorem callW_pure {c : Cxt} {f : Nat} {ds : List D} {L : Live} (h : noRefs ds = true) : callW c f ds L = c.φ f ds L := callW_nil (idsAs_noRef L _ ds h)
variable [HasFn T 2 f_is_hold]
theorem s_is_hold (k : Nat) (hk : 2 ≤ k) (h : Hold) (layers : Int) (ho : h.ok layers) (L : Live) : (T.cx k).φ 2 [h.enc, .int layers] L = .ok (.bl true) L := by
  obtain ⟨k, rfl⟩ : ∃ m, k = m + 1 := ⟨k - 1, by omega⟩
  have q1 : MP.sizeOk 2 = true := sizeOk_small (by omega)
  rw [phiH 2]
  cases h with
  | code s =>
    simp [runF, runB, startE, evSs, evS, evE, evA, evC, evI, evT, resOf, optV, opt, truD, storeT, storeG, storeGs, f_is_hold, b_is_hold, b_is_hold_t1, b_is_hold_t2, Hold.enc, S, isiD, cmpD, bltD, lenD, seqOf, eqD, scal2, eqS, idxD, idxSeq, atI, ixN]
    rw [callW_pure rfl, s_is_code k (by omega) s ho]
    rfl
  | layer n =>
    have e : ¬ (Str.ofString "layer" = Str.ofString "code") := by decide
    simp [runF, runB, startE, evSs, evS, evE, evA, evC, evI, evT, resOf, optV, opt, truD, storeT, storeG, storeGs, f_is_hold, b_is_hold, b_is_hold_t1, b_is_hold_t2, Hold.enc, S, isiD, cmpD, bltD, lenD, seqOf, eqD, scal2, eqS, idxD, idxSeq, atI, ixN, e, binD]
    rw [callW_pure rfl, s_int2 k (by omega) n 1 (layers - 1) ho.1 ho.2]
    rfl
theorem s_no_hold (k : Nat) (hk : 1 ≤ k) (w : Str) (h1 : w ≠ Str.ofString "code") (h2 : w ≠ Str.ofString "layer") (n layers : Int) (L : Live) : (T.cx k).φ 2 [.tup [.str w, .int n], .int layers] L = .ok (.bl false) L := by
  obtain ⟨k, rfl⟩ : ∃ m, k = m + 1 := ⟨k - 1, by omega⟩
  rw [phiH 2]
  simp [runF, runB, startE, evSs, evS, evE, evA, evC, evI, evT, resOf, optV, opt, truD, storeT, storeG, storeGs, f_is_hold, b_is_hold, b_is_hold_t1, b_is_hold_t2, isiD, cmpD, bltD, lenD, seqOf, eqD, scal2, eqS, idxD, idxSeq, atI, ixN, h1, h2]
theorem hold_noRef (h : Hold) : noRef h.enc = true := by cases h <;> rfl
theorem act_noRef (a : Act) : noRef a.enc = true := by cases a <;> simp [Act.enc, noRef, noRefs, S, hold_noRef]
theorem act_noTag (a : Act) : noTag a.enc = true := by
  cases a <;> simp [Act.enc, noTag, noTags, S]
  rename_i h _ _
  cases h <;> rfl
variable [HasFn T 3 f_is_action]
theorem s_is_action (k : Nat) (hk : 3 ≤ k) (a : Act) (layer layers : Int) (ho : a.ok layer layers) (L : Live) : (T.cx k).φ 3 [a.enc, .int layer, .int layers] L = .ok (.bl true) L := by
  obtain ⟨k, rfl⟩ : ∃ m, k = m + 1 := ⟨k - 1, by omega⟩
  have q1 : MP.sizeOk 2 = true := sizeOk_small (by omega)
  rw [phiH 3]
  cases a with
  | none => simp [runF, runB, startE, evSs, evS, evE, evA, evC, evI, evT, resOf, optV, opt, truD, storeT, storeG, storeGs, f_is_action, b_is_action, b_is_action_t1, b_is_action_t2, b_is_action_t3, b_is_action_t4, b_is_action_t5, Act.enc, S, isiD, cmpD, eqD, scal2, eqS]
  | through =>
    have e : ¬ (Str.ofString "through" = Str.ofString "none") := by decide
    have h0 : (0 : Int) < layer := ho
    simp [runF, runB, startE, evSs, evS, evE, evA, evC, evI, evT, resOf, optV, opt, truD, storeT, storeG, storeGs, f_is_action, b_is_action, b_is_action_t1, b_is_action_t2, b_is_action_t3, b_is_action_t4, b_is_action_t5, Act.enc, S, isiD, cmpD, eqD, scal2, eqS, e, ordI, h0]
  | code s =>
    simp [runF, runB, startE, evSs, evS, evE, evA, evC, evI, evT, resOf, optV, opt, truD, storeT, storeG, storeGs, f_is_action, b_is_action, b_is_action_t1, b_is_action_t2, b_is_action_t3, b_is_action_t4, b_is_action_t5, Act.enc, S, isiD, cmpD, bltD, lenD, seqOf, eqD, scal2, eqS, idxD, idxSeq, atI, ixN, inD, inSeq, flat, eqF, q1]
    rw [callW_pure rfl, show (D.tup [D.str (Str.ofString "code"), D.str s]) = (Hold.code s).enc from rfl, s_is_hold k (by omega) (.code s) layers ho]
    rfl
  | layer n =>
    simp [runF, runB, startE, evSs, evS, evE, evA, evC, evI, evT, resOf, optV, opt, truD, storeT, storeG, storeGs, f_is_action, b_is_action, b_is_action_t1, b_is_action_t2, b_is_action_t3, b_is_action_t4, b_is_action_t5, Act.enc, S, isiD, cmpD, bltD, lenD, seqOf, eqD, scal2, eqS, idxD, idxSeq, atI, ixN, inD, inSeq, flat, eqF, q1]
    rw [callW_pure rfl, show (D.tup [D.str (Str.ofString "layer"), D.int n]) = (Hold.layer n).enc from rfl, s_is_hold k (by omega) (.layer n) layers ho]
    rfl
  | lock n =>
    have e1 : ¬ (Str.ofString "lock" = Str.ofString "code") := by decide
    have e2 : ¬ (Str.ofString "lock" = Str.ofString "layer") := by decide
    simp [runF, runB, startE, evSs, evS, evE, evA, evC, evI, evT, resOf, optV, opt, truD, storeT, storeG, storeGs, f_is_action, b_is_action, b_is_action_t1, b_is_action_t2, b_is_action_t3, b_is_action_t4, b_is_action_t5, Act.enc, S, isiD, cmpD, bltD, lenD, seqOf, eqD, scal2, eqS, idxD, idxSeq, atI, ixN, inD, inSeq, flat, eqF, q1, callW_pure, noRefs, noRef, s_no_hold k (by omega) (Str.ofString "lock") (by decide) (by decide), binD, s_int2 k (by omega) n 1 (layers - 1) ho.1 ho.2]
  | once n =>
    simp [runF, runB, startE, evSs, evS, evE, evA, evC, evI, evT, resOf, optV, opt, truD, storeT, storeG, storeGs, f_is_action, b_is_action, b_is_action_t1, b_is_action_t2, b_is_action_t3, b_is_action_t4, b_is_action_t5, Act.enc, S, isiD, cmpD, bltD, lenD, seqOf, eqD, scal2, eqS, idxD, idxSeq, atI, ixN, inD, inSeq, flat, eqF, q1, callW_pure, noRefs, noRef, s_no_hold k (by omega) (Str.ofString "once") (by decide) (by decide), binD, s_int2 k (by omega) n 1 (layers - 1) ho.1 ho.2]
  | dual c h t r =>
    obtain ⟨h1, h2, h3, h4, h5⟩ := ho
    have q5 : MP.sizeOk 2 = true := sizeOk_small (by omega)
    simp [runF, runB, startE, evSs, evS, evE, evA, evC, evI, evT, resOf, optV, opt, truD, storeT, storeG, storeGs, f_is_action, b_is_action, b_is_action_t1, b_is_action_t2, b_is_action_t3, b_is_action_t4, b_is_action_t5, Act.enc, S, isiD, cmpD, bltD, lenD, seqOf, eqD, scal2, eqS, idxD, idxSeq, atI, ixN, inD, inSeq, flat, eqF, q1, callW_pure, noRefs, noRef, hold_noRef, s_is_code k (by omega) c h1, s_is_hold k (by omega) h layers h2, s_int2 k (by omega) t 1 1000000000 h3 h4]
    rcases h5 with rfl | rfl | rfl <;> decide
/-! ### cleaning -/
theorem cutL_pre (n : Nat) (M : Live) : ∀ {L L' : Live}, (∀ i : Nat, i < L.length → L'[i]? = L[i]?) → cutL n M L L' = some L
  | [], L', h => by simp [cutL]
  | o :: L, [], h => by have := h 0 (by simp); simp at this
  | o :: L, o' :: L', h => by
    have h0 := h 0 (by simp)
    simp at h0
    subst h0
    have ih := cutL_pre n M (L := L) (L' := L') fun i hi => by
      have := h (i + 1) (by simp; omega)
      simpa using this
    simp [cutL, ih]
theorem cutL_app (n : Nat) (M L X : Live) : cutL n M L (L ++ X) = some L := cutL_pre n M fun i hi => List.getElem?_append_left hi
theorem mapO_id {α : Type} {f : α → Option α} : ∀ {l : List α}, (∀ x ∈ l, f x = some x) → mapO f l = some l
  | [], _ => rfl
  | x :: l, h => by simp [mapO, h x List.mem_cons_self, mapO_id fun y hy => h y (List.mem_cons_of_mem _ hy)]
theorem okBs_mem {n : Nat} : ∀ {ds : List D}, okBs n ds = true → ∀ d ∈ ds, okB n d = true
  | [], _, d, h => by cases h
  | e :: ds, hb, d, h => by
    simp only [okBs, Bool.and_eq_true] at hb
    rcases List.mem_cons.mp h with rfl | h
    · exact hb.1
    · exact okBs_mem hb.2 d h
theorem fz_ok {n m : Nat} {L : Live} {d : D} (h : okB n d = true) : fzF n L (m + 1) d = some d := by simp [fzF, h]
theorem fz_list {n k m : Nat} {L : Live} {ds : List D} (h : L[k]? = some (.lst ds)) (hk : ¬ k < n) (hd : okBs n ds = true) : fzF n L (m + 2) (.ref k) = some (.lst 0 ds) := by
  have e : mapO (fzF n L (m + 1)) ds = some ds := mapO_id fun d hm => fz_ok (okBs_mem hd d hm)
  rw [fzF]
  simp [okB, hk, h, e]
/-! ### layouts -/
abbrev Lay := List (List Act)
/-- the tags of a list and of its rows -/
abbrev Tags := Nat × (Nat → Nat)
abbrev τ0 : Tags := (0, fun _ => 0)
def encR (t : Nat) (row : List Act) : D := .lst t (row.map Act.enc)
def rowsD (τ : Tags) (lay : Lay) : List D := lay.mapIdx fun i r => encR (τ.2 i) r
def encL (τ : Tags) (lay : Lay) : D := .lst τ.1 (rowsD τ lay)
@[simp] theorem rowsD_len (τ : Tags) (lay : Lay) : (rowsD τ lay).length = lay.length := by simp [rowsD]
@[simp] theorem rowsD_get (τ : Tags) (lay : Lay) (i : Nat) (h : i < (rowsD τ lay).length) : (rowsD τ lay)[i] = encR (τ.2 i) (lay[i]'(by simpa using h)) := by simp [rowsD]
theorem rowsD_get? (τ : Tags) (lay : Lay) (i : Nat) : (rowsD τ lay)[i]? = lay[i]?.map (encR (τ.2 i)) := by simp [rowsD]
theorem rowsD_mem {τ : Tags} {lay : Lay} {d : D} (h : d ∈ rowsD τ lay) : ∃ t r, r ∈ lay ∧ d = encR t r := by
  obtain ⟨i, hi, rfl⟩ := List.mem_iff_getElem.mp h
  rw [rowsD_get]
  exact ⟨_, _, List.getElem_mem _, rfl⟩
theorem rowsD_zero (lay : Lay) : rowsD τ0 lay = lay.map (encR 0) := by
  apply List.ext_getElem
  · simp
  · intro i h1 h2
    simp
structure LayOk (lay : Lay) (K : Nat) : Prop where
  n1 : 1 ≤ lay.length
  n2 : lay.length ≤ 6
  k1 : 1 ≤ K
  k2 : K ≤ 16
  row : ∀ r ∈ lay, r.length = K
  act : ∀ (i : Nat) (r : List Act), lay[i]? = some r → ∀ a ∈ r, a.ok i lay.length
theorem acts_noRef (r : List Act) : noRefs (r.map Act.enc) = true := by
  induction r with
  | nil => rfl
  | cons a r ih => simp [noRefs, act_noRef, ih]
theorem acts_noTag (r : List Act) : noTags (r.map Act.enc) = true := by
  induction r with
  | nil => rfl
  | cons a r ih => simp [noTags, act_noTag, ih]
theorem noRefs_of {ds : List D} (h : ∀ d ∈ ds, noRef d = true) : noRefs ds = true := by
  induction ds with
  | nil => rfl
  | cons d ds ih => simp [noRefs, h d List.mem_cons_self, ih fun x hx => h x (List.mem_cons_of_mem _ hx)]
theorem noTags_of {ds : List D} (h : ∀ d ∈ ds, noTag d = true) : noTags ds = true := by
  induction ds with
  | nil => rfl
  | cons d ds ih => simp [noTags, h d List.mem_cons_self, ih fun x hx => h x (List.mem_cons_of_mem _ hx)]
@[simp] theorem row_noRef (t : Nat) (r : List Act) : noRef (encR t r) = true := by simp [encR, noRef, acts_noRef]
@[simp] theorem lay_noRef (τ : Tags) (lay : Lay) : noRef (encL τ lay) = true := by
  simp only [encL, noRef]
  refine noRefs_of fun d hd => ?_
  obtain ⟨t, r, _, rfl⟩ := rowsD_mem hd
  simp
theorem lay_noTag (lay : Lay) : noTag (encL τ0 lay) = true := by
  simp only [encL, noTag, decide_true, Bool.true_and]
  refine noTags_of fun d hd => ?_
  rw [rowsD_zero] at hd
  obtain ⟨r, _, rfl⟩ := List.mem_map.mp hd
  simp [encR, noTag, acts_noTag]
variable [HasFn T 4 f_is_table]
theorem s_is_table (k : Nat) (hk : 1 ≤ k) (τ : Tags) (lay : Lay) (K : Nat) (h : LayOk lay K) (L : Live) : (T.cx k).φ 4 [encL τ lay] L = .ok (.bl true) L := by
  obtain ⟨k, rfl⟩ : ∃ m, k = m + 1 := ⟨k - 1, by omega⟩
  obtain ⟨h1, h2, h3, h4, h5, h6⟩ := h
  have h1' : (1 : Int) ≤ (lay.length : Int) := by omega
  have h2' : (lay.length : Int) ≤ 6 := by omega
  obtain ⟨r0, rest, e0⟩ : ∃ r0 rest, lay = r0 :: rest := by
    cases lay with
    | nil => simp at h1
    | cons a r => exact ⟨a, r, rfl⟩
  have l0 : r0.length = K := h5 r0 (by rw [e0]; simp)
  have i0 : idxD (encL τ lay) (.int 0) L = some (encR (τ.2 0) r0) := by
    rw [e0]
    simp [idxD, encL, seqOf, lstOf, idxSeq, atI, ixN, rowsD]
  have c1 : compL [] (.slot 2) [some (encL τ lay), none, none] (fun _ L' => .ok true L') (fun E' L' => evE (T.cx k) b_is_table_0 E' L') (rowsD τ lay) [] L = .ok ((rowsD τ lay).map fun _ => .bl true) L := by
    refine compL_map rfl (by simp; exact small_line (by omega)) fun d hd => ?_
    obtain ⟨t, r, hr, rfl⟩ := rowsD_mem hd
    exact ⟨_, rfl, rfl, by simp [b_is_table_0, evE, encR, isiD, optV]⟩
  have c2 : compL [] (.slot 2) [some (encL τ lay), none, none] (fun _ L' => .ok true L') (fun E' L' => evE (T.cx k) b_is_table_1 E' L') (rowsD τ lay) [] L = .ok ((rowsD τ lay).map fun _ => .bl true) L := by
    refine compL_map rfl (by simp; exact small_line (by omega)) fun d hd => ?_
    obtain ⟨t, r, hr, rfl⟩ := rowsD_mem hd
    refine ⟨_, rfl, rfl, ?_⟩
    have lr := h5 r hr
    simp [b_is_table_1, evE, evA, encR, bltD, lenD, seqOf, lstOf, opt, i0, optV, cmpD, eqD, scal2, eqS, lr, l0]
  have hK1 : (1 : Int) ≤ (r0.length : Int) := by omega
  have hK2 : (r0.length : Int) ≤ 16 := by omega
  have eL : lstOf L (encL τ lay) = some (rowsD τ lay) := rfl
  have eS : seqOf L (encL τ lay) = some (rowsD τ lay) := rfl
  have eI : itemsOf L (encL τ lay) = some (rowsD τ lay) := rfl
  have eW : watch L (encL τ lay) = [] := rfl
  have eT : isiD L (encL τ lay) .list = some true := rfl
  have eN : lenD L (encL τ lay) = some (lay.length : Int) := by simp [encL, lenD, seqOf, lstOf]
  have eR : lenD L (encR (τ.2 0) r0) = some (r0.length : Int) := by simp [encR, lenD, seqOf, lstOf]
  rw [phiH 4]
  simp [runF, runB, startE, evSs, evS, evE, evA, evC, evI, evT, resOf, optV, opt, truD, storeT, storeG, storeGs, f_is_table, b_is_table, b_is_table_t1, eT, eN, eR, cmpD, ordI, bltD, h1', h2', wipeE, eI, eW, c1, c2, newL, lstOf, bools_true, i0, hK1, hK2, -List.map_map]
/-! ### the places that are wrong: none -/
variable [HasFn T 5 f_wrong_places]
theorem s_wrong (k : Nat) (hk : 4 ≤ k) (τ : Tags) (lay : Lay) (K : Nat) (h : LayOk lay K) (L : Live) : (T.cx k).φ 5 [encL τ lay] L = .ok (.lst 0 []) L := by
  obtain ⟨k, rfl⟩ : ∃ m, k = m + 1 := ⟨k - 1, by omega⟩
  obtain ⟨h1, h2, h3, h4, h5, h6⟩ := h
  have eN : ∀ L, lenD L (encL τ lay) = some (lay.length : Int) := fun L => by simp [encL, lenD, seqOf, lstOf]
  -- one row
  have row : ∀ (i : Nat) (r : List Act) (x y z : Option D) (L' : Live), lay[i]? = some r → compL [] (.tup [.slot 5, .slot 6]) [some (encL τ lay), x, some (.int i), some (encR (τ.2 i) r), none, none, none] (fun E' L' => evC (T.cx k) (.cons b_wrong_places_1 .nil) E' L') (fun E' L' => evE (T.cx k) b_wrong_places_2 E' L') (enumD (r.map Act.enc)) [] L' = .ok [] L' := by
    intro i r x y z L' hi
    have key := compL_filter (w := []) (g := .tup [.slot 5, .slot 6]) (E := [some (encL τ lay), x, some (.int i), some (encR (τ.2 i) r), none, none, none]) (c := fun E' L' => evC (T.cx k) (.cons b_wrong_places_1 .nil) E' L') (e := fun E' L' => evE (T.cx k) b_wrong_places_2 E' L') (q := fun _ => false) (f := fun d => d) (ds := enumD (r.map Act.enc)) (L := L') rfl
      (by rw [enumD_len]; simp; exact small_line (by have := h5 r (List.mem_of_getElem? hi); omega)) (fun d hd => ?_)
    · rw [key]; simp
    · obtain ⟨j, hj, rfl⟩ := List.mem_iff_getElem.mp hd
      rw [enumD_get hj]
      have hj' : j < r.length := by simpa [enumD] using hj
      refine ⟨_, rfl, ?_, fun z => by cases z⟩
      simp [evC, b_wrong_places_1, evE, evA, bltD, eN, opt, optV, truD, callW_pure, noRefs, noRef, act_noRef, s_is_action k (by omega) r[j] i lay.length (h6 i r hi r[j] (List.getElem_mem hj'))]
  have loop : ∃ E' L', forL [] (.tup [.slot 2, .slot 3]) (fun E' L' => evSs (T.cx k) b_wrong_places_0 E' L') (enumD (rowsD τ lay)) [some (encL τ lay), some (.ref L.length), none, none, none, none, none] (L ++ [.lst []]) = .fl .nx E' L' ∧ (L' = L ++ [.lst []] ∧ ∃ x y, E' = [some (encL τ lay), some (.ref L.length), x, y, none, none, none]) := by
    refine forL_run (w := []) (fun _ E' L' => L' = L ++ [.lst []] ∧ ∃ x y, E' = [some (encL τ lay), some (.ref L.length), x, y, none, none, none]) (fun _ _ _ _ => rfl) (fun i E' L' hi hp => ?_) ⟨rfl, none, none, rfl⟩
    obtain ⟨rfl, x, y, rfl⟩ := hp
    have hi' : i < lay.length := by simpa [enumD] using hi
    rw [enumD_get hi]
    refine ⟨_, _, _, rfl, .inl ?_, ⟨rfl, some (.int i), some (encR (τ.2 i) lay[i]), rfl⟩⟩
    have hn : (L ++ [LO.lst []])[L.length]? = some (.lst []) := by simp
    have hm : mthTy .extend (L ++ [LO.lst []]) (.ref L.length) = some .list := by simp [mthTy]
    have eE : lstOf (L ++ [LO.lst []]) (.lst 0 []) = some [] := rfl
    have hr := row i lay[i] (some (.ref L.length)) none none (L ++ [.lst []]) (List.getElem?_eq_getElem hi')
    have eI : lstOf (L ++ [LO.lst []]) (encR (τ.2 i) lay[i]) = some (lay[i].map Act.enc) := rfl
    have eW : watch (L ++ [LO.lst []]) (encR (τ.2 i) lay[i]) = [] := rfl
    have hs : (L ++ [LO.lst []]).set L.length (.lst []) = L ++ [LO.lst []] := by simp
    have z0 : MP.sizeOk 0 = true := sizeOk_small (by omega)
    simp [evSs, evS, evE, evA, evI, b_wrong_places_0, wipeE, eI, eW, hr, newL, opt, optV, hm, mthD, eE, z0]
  obtain ⟨E', L', e1, rfl, x, y, rfl⟩ := loop
  have eI : lstOf (L ++ [LO.lst []]) (encL τ lay) = some (rowsD τ lay) := rfl
  have eW : watch (L ++ [LO.lst []]) (encL τ lay) = [] := rfl
  have z0 : MP.sizeOk 0 = true := sizeOk_small (by omega)
  rw [phiH 5]
  unfold f_wrong_places
  have run : runB (T.cx k) ⟨1, 7, [], true, b_wrong_places⟩ [encL τ lay] L = .ok (.ref L.length) (L ++ [.lst []]) := by
    simp [runF, runB, startE, evSs, evS, evE, evA, evC, evI, evT, resOf, optV, opt, truD, storeT, storeG, storeGs, f_wrong_places, b_wrong_places, b_wrong_places_t1, b_wrong_places_t2, newL, eI, eW, e1, z0]
  simp only [runF, if_true, run, cleanR]
  rw [fz_list (k := L.length) (ds := []) (by simp) (by omega) rfl]
  simp only [cutL_app]
variable [HasFn T 6 f_require_layout]
theorem s_require (k : Nat) (hk : 5 ≤ k) (τ : Tags) (lay : Lay) (K : Nat) (h : LayOk lay K) (L : Live) : (T.cx k).φ 6 [encL τ lay] L = .ok .non L := by
  obtain ⟨k, rfl⟩ : ∃ m, k = m + 1 := ⟨k - 1, by omega⟩
  have z0 : MP.sizeOk 0 = true := sizeOk_small (by omega)
  have hn : noRefs [encL τ lay] = true := by simp [noRefs, lay_noRef]
  have e0 : SeqAt.shaped (.list []) = true := by decide
  rw [phiH 6]
  simp [runF, runB, startE, evSs, evS, evE, evA, evC, evI, evT, resOf, optV, opt, truD, storeT, storeG, storeGs, f_require_layout, b_require_layout, b_require_layout_t1, b_require_layout_t2, callW_pure hn, s_is_table k (by omega) τ lay K h, s_wrong k (by omega) τ lay K h, newL, z0, cmpD, eqD, scal2, pyOf, toPy, toPys, e0, PyData.eqv, PyData.eqvAll]
end
end PB
set_option maxHeartbeats 1000000
namespace PB
open PySem PySem.Spec PyProof.Rows L2 MP
/-! with_action: 0=layout 1=layer 2=key 3=action 4=rows 5=.0 6=row -/
def b_with_action_0 : Ex := (.blt .list true (.cons (.var 6) .nil))
def b_with_action_t5 : Ss := (.cons (.ret (.var 4)) .nil)
def b_with_action_t4 : Ss := (.cons (.asg (.sub (.idx (.var 4) (.var 1)) (.var 2)) (.var 3)) b_with_action_t5)
def b_with_action_t3 : Ss := (.cons (.asg (.nm (.slot 4)) (.comp true [5, 6] (.slot 6) (.val (.var 0)) .nil b_with_action_0)) b_with_action_t4)
def b_with_action_t2 : Ss := (.cons (.ite (.not (.call 3 (.cons (.var 3) (.cons (.var 1) (.cons (.blt .len false (.cons (.var 0) .nil)) .nil))))) (.cons .nev .nil) .nil) b_with_action_t3)
def b_with_action_t1 : Ss := (.cons (.ite (.or (.not (.call 0 (.cons (.var 1) (.cons (.con (.int 0)) (.cons (.bin .sub false (.blt .len false (.cons (.var 0) .nil)) (.con (.int 1))) .nil))))) (.not (.call 0 (.cons (.var 2) (.cons (.con (.int 0)) (.cons (.bin .sub false (.blt .len false (.cons (.idx (.var 0) (.con (.int 0))) .nil)) (.con (.int 1))) .nil)))))) (.cons .nev .nil) .nil) b_with_action_t2)
def b_with_action : Ss := (.cons (.ex (.call 6 (.cons (.var 0) .nil))) b_with_action_t1)
def f_with_action : Fn := ⟨4, 7, [], false, b_with_action⟩
section
variable {T : Tab}
def liveRows (lay : Lay) : Live := lay.map fun r => LO.lst (r.map Act.enc)
def refsN (n m : Nat) : List D := (List.range m).map fun q => D.ref (n + q)
def setLay (lay : Lay) (l j : Nat) (a : Act) : Lay := lay.set l ((lay[l]?.getD []).set j a)
theorem setLay_len (lay : Lay) (l j : Nat) (a : Act) : (setLay lay l j a).length = lay.length := by simp [setLay]
theorem atI_get' {α : Type} {xs : List α} {j : Nat} (h : j < xs.length) : atI xs (j : Int) = some xs[j] := atI_nat (List.getElem?_eq_getElem h)
theorem ixN_nat {n j : Nat} (h : j < n) : ixN n (j : Int) = some j := by
  unfold ixN
  rw [if_pos (by omega), if_pos (by omega)]
  rfl
theorem liveRows_get (L X : Live) (lay : Lay) (i : Nat) (h : i < lay.length) : (L ++ liveRows lay ++ X)[L.length + i]? = some (.lst (lay[i].map Act.enc)) := by
  rw [List.append_assoc, List.getElem?_append_right (by omega), Nat.add_sub_cancel_left, List.getElem?_append_left (by simpa [liveRows] using h)]
  simp [liveRows, h]
theorem liveRows_set (L X : Live) (lay : Lay) (l j : Nat) (a : Act) (h : l < lay.length) : (L ++ liveRows lay ++ X).set (L.length + l) (.lst ((lay[l].map Act.enc).set j a.enc)) = L ++ liveRows (setLay lay l j a) ++ X := by
  rw [List.append_assoc, List.set_append_right _ _ (by omega), Nat.add_sub_cancel_left, List.set_append_left _ _ (by simpa [liveRows] using h), List.append_assoc]
  congr 2
  simp [liveRows, setLay, h, List.map_set]
theorem refs_at (n m i : Nat) (h : i < m) : atI (refsN n m) (i : Int) = some (.ref (n + i)) := by
  rw [atI_get' (by simpa [refsN] using h)]
  simp [refsN]
/-- [list(row) for row in layout], the rows live -/
theorem copy_rows (k : Nat) (own : Nat) (E0 : Ev) (ex : Ex) (τ : Tags) (lay : Lay) (hz : lay.length ≤ 6) (L : Live) (hE : own < E0.length) (he : ∀ t r L', evE (T.cx k) ex (E0.set own (some (encR t r))) L' = .ok (.ref L'.length) (L' ++ [.lst (r.map Act.enc)])) :
    compL [] (.slot own) E0 (fun _ L' => .ok true L') (fun E' L' => evE (T.cx k) ex E' L') (rowsD τ lay) [] L = .ok (refsN L.length lay.length) (L ++ liveRows lay) := by
  obtain ⟨acc', L', h1, h2, h3⟩ := compL_run (w := []) (g := .slot own) (E := E0) (c := fun _ L' => .ok true L') (e := fun E' L' => evE (T.cx k) ex E' L') (ds := rowsD τ lay)
    (fun i acc L' => L' = L ++ liveRows (lay.take i) ∧ acc = refsN L.length i) (fun i acc L' h => rfl) (fun i acc L' hi h => by
      obtain ⟨rfl, rfl⟩ := h
      have hi' : i < lay.length := by simpa using hi
      have ln : (L ++ liveRows (lay.take i)).length = L.length + i := by simp [liveRows]; omega
      refine ⟨E0.set own (some (encR (τ.2 i) lay[i])), by simp [storeG, hE], .inr ⟨_, _, _, rfl, he (τ.2 i) lay[i] _, by simp [refsN]; exact Nat.lt_of_lt_of_le (by omega : i < 100) (small_line (by omega)), ?_, ?_⟩⟩
      · unfold liveRows
        rw [List.take_succ_eq_append_getElem hi', List.map_append, List.append_assoc]
        rfl
      · rw [ln]
        simp [refsN, List.range_succ]) (acc := []) (L := L) ⟨by simp [liveRows], rfl⟩
  rw [h1, h2, h3]
  simp
theorem list_row (k : Nat) (i : Nat) (E : Ev) (t : Nat) (r : List Act) (L' : Live) (h : E[i]? = some (some (encR t r))) : evE (T.cx k) (.blt .list true (.cons (.var i) .nil)) E L' = .ok (.ref L'.length) (L' ++ [.lst (r.map Act.enc)]) := by
  simp [evE, evA, h, bltD, encR, seqOf, lstOf, newL, opt]
variable [HasFn T 0 f_is_integer] [HasFn T 1 f_is_code] [HasFn T 2 f_is_hold] [HasFn T 3 f_is_action] [HasFn T 4 f_is_table] [HasFn T 5 f_wrong_places] [HasFn T 6 f_require_layout] [HasFn T 7 f_with_action]
theorem s_with_action (k : Nat) (hk : 6 ≤ k) (τ : Tags) (lay : Lay) (K l j : Nat) (a : Act) (h : LayOk lay K) (hl : l < lay.length) (hj : j < K) (ha : a.ok l lay.length) (L : Live) :
    (T.cx k).φ 7 [encL τ lay, .int l, .int j, a.enc] L = .ok (.ref (L.length + lay.length)) (L ++ liveRows (setLay lay l j a) ++ [.lst (refsN L.length lay.length)]) := by
  obtain ⟨k, rfl⟩ : ∃ m, k = m + 1 := ⟨k - 1, by omega⟩
  have h' := h
  obtain ⟨h1, h2, h3, h4, h5, h6⟩ := h
  obtain ⟨r0, rest, e0⟩ : ∃ r0 rest, lay = r0 :: rest := by
    cases lay with
    | nil => simp at h1
    | cons a r => exact ⟨a, r, rfl⟩
  have l0 : r0.length = K := h5 r0 (by rw [e0]; simp)
  have i0 : ∀ L, idxD (encL τ lay) (.int 0) L = some (encR (τ.2 0) r0) := fun L => by
    rw [e0]
    simp [idxD, encL, seqOf, lstOf, idxSeq, atI, ixN, rowsD]
  have eN : ∀ L, lenD L (encL τ lay) = some (lay.length : Int) := fun L => by simp [encL, lenD, seqOf, lstOf]
  have eR : ∀ L, lenD L (encR (τ.2 0) r0) = some (K : Int) := fun L => by simp [encR, lenD, seqOf, lstOf, l0]
  have eI : ∀ L, itemsOf L (encL τ lay) = some (rowsD τ lay) := fun L => rfl
  have eW : ∀ L, watch L (encL τ lay) = [] := fun L => rfl
  have c := copy_rows (T := T) k 6 [some (encL τ lay), some (.int l), some (.int j), some a.enc, none, none, none] b_with_action_0 τ lay h2 L (by simp) (fun t r L' => list_row (T := T) k 6 _ t r L' rfl)
  have lenM : (L ++ liveRows lay).length = L.length + lay.length := by simp [liveRows]
  have n1 : noRefs [encL τ lay] = true := by simp [noRefs, lay_noRef]
  have n3 : noRefs [a.enc, .int l, .int lay.length] = true := by simp [noRefs, act_noRef, noRef]
  have x1 : idxD (.ref (L ++ liveRows lay).length) (.int l) (L ++ liveRows lay ++ [.lst (refsN L.length lay.length)]) = some (.ref (L.length + l)) := by
    have e1 : (L ++ liveRows lay ++ [LO.lst (refsN L.length lay.length)])[(L ++ liveRows lay).length]? = some (.lst (refsN L.length lay.length)) := by simp
    simp only [idxD, seqOf, lstOf, e1, idxSeq]
    exact refs_at _ _ _ hl
  have x2 : setD (.ref (L.length + l)) (.int j) a.enc (L ++ liveRows lay ++ [.lst (refsN L.length lay.length)]) = some (L ++ liveRows (setLay lay l j a) ++ [.lst (refsN L.length lay.length)]) := by
    have lr := h5 lay[l] (List.getElem_mem hl)
    simp only [setD, liveRows_get _ _ _ _ hl, List.length_map, lr, ixN_nat hj, Option.map_some]
    rw [liveRows_set _ _ _ _ _ _ hl]
  rw [lenM, List.append_assoc] at x1
  rw [List.append_assoc, List.append_assoc] at x2
  have lenR : (liveRows lay).length = lay.length := by simp [liveRows]
  rw [phiH 7]
  simp [runF, runB, startE, evSs, evS, evE, evA, evC, evI, evT, resOf, optV, opt, truD, storeT, storeG, storeGs, f_with_action, b_with_action, b_with_action_t1, b_with_action_t2, b_with_action_t3, b_with_action_t4, b_with_action_t5, x1, x2, lenR, callW_pure n1, callW_pure n3, callW_pure (show noRefs [D.int (l : Int), .int 0, .int ((lay.length : Int) - 1)] = true from rfl), callW_pure (show noRefs [D.int (j : Int), .int 0, .int ((K : Int) - 1)] = true from rfl),
    s_require (T := T) k (by omega) τ lay K h', bltD, eN, eR, i0, binD, s_int2 (T := T) k (by omega) l 0 ((lay.length : Int) - 1) (by omega) (by omega), s_int2 (T := T) k (by omega) j 0 ((K : Int) - 1) (by omega) (by omega), s_is_action (T := T) k (by omega) a l lay.length ha, wipeE, eI, eW, c, newL]
end
/-! ### what repr is of a layout -/
def Hold.py : Hold → PyData
  | .code s => .tuple [.str (Str.ofString "code"), .str s]
  | .layer n => .tuple [.str (Str.ofString "layer"), .int n]
def Act.py : Act → PyData
  | .none => .str (Str.ofString "none")
  | .through => .str (Str.ofString "through")
  | .code s => .tuple [.str (Str.ofString "code"), .str s]
  | .layer n => .tuple [.str (Str.ofString "layer"), .int n]
  | .lock n => .tuple [.str (Str.ofString "lock"), .int n]
  | .once n => .tuple [.str (Str.ofString "once"), .int n]
  | .dual c h t r => .tuple [.str (Str.ofString "dual"), .str c, h.py, .int t, .str r]
theorem hold_py (h : Hold) : toPy h.enc = some h.py := by cases h <;> simp [Hold.enc, toPy, toPys, S, Hold.py]
theorem act_py (a : Act) : toPy a.enc = some a.py := by cases a <;> simp [Act.enc, toPy, toPys, S, Act.py, hold_py]
theorem toPys_map {α : Type} {f : α → D} {g : α → PyData} (h : ∀ x, toPy (f x) = some (g x)) (l : List α) : toPys (l.map f) = some (l.map g) := by
  induction l with
  | nil => rfl
  | cons a r ih => simp [toPys, h, ih]
def pyR (r : List Act) : PyData := .list (r.map Act.py)
def pyL (lay : Lay) : PyData := .list (lay.map pyR)
theorem row_py (t : Nat) (r : List Act) : toPy (encR t r) = some (pyR r) := by simp [encR, toPy, toPys_map act_py, pyR]
theorem toPys_rows : ∀ (ts : Nat → Nat) (lay : Lay), toPys (lay.mapIdx fun i r => encR (ts i) r) = some (lay.map pyR)
  | _, [] => rfl
  | ts, r :: lay => by
    rw [List.mapIdx_cons, toPys, row_py]
    have := toPys_rows (fun i => ts (i + 1)) lay
    simp only [this, List.map_cons]
theorem lay_py (τ : Tags) (lay : Lay) : toPy (encL τ lay) = some (pyL lay) := by
  simp only [encL, toPy, rowsD, toPys_rows, pyL]
theorem signs_plain : ∀ c ∈ SIGNS.cps.toList, plainC c = true := by decide +kernel
theorem code_sz {s : Str} (h : isCode s) : psz (.str s) ≤ 10 := by
  simp only [psz]
  rw [repr_plain fun c hc => signs_plain c (h.2.2 c hc)]
  have := h.2.1
  omega
theorem int_sz {i : Int} (h : i.natAbs < 10 ^ 10) : psz (.int i) ≤ 11 := by
  simp only [psz]
  exact int_len (by decide) h
theorem log_small {n : Nat} (h : n < 10 ^ 10) : n.log2 < 1920 := by
  by_cases h0 : n = 0
  · subst h0; decide
  · exact Nat.lt_of_lt_of_le ((Nat.log2_lt h0).2 (Nat.lt_of_lt_of_le h (show 10 ^ 10 ≤ 2 ^ 40 by decide))) (by decide)
theorem wd (s : String) (h : isCode (Str.ofString s) := by exact ⟨by decide, by decide, by decide⟩) : psz (.str (Str.ofString s)) ≤ 10 := code_sz h
theorem hold_sz {h : Hold} {layers : Int} (hl : layers ≤ 6) (ho : h.ok layers) : psz h.py ≤ 28 ∧ h.py.showable = true ∧ h.py.depth ≤ 1 := by
  cases h with
  | code s =>
    have h1 := code_sz (s := s) ho
    have h2 := wd "code"
    refine ⟨by simp only [Hold.py, psz, pszs] at *; omega, by simp [Hold.py, PyData.showable, PyData.showableAll], by simp [Hold.py, PyData.depth, PyData.depthAll]⟩
  | layer n =>
    have hn : n.natAbs < 10 ^ 10 := by have h1 : 1 ≤ n := ho.1; have h2 : n ≤ layers - 1 := ho.2; omega
    have h1 := int_sz hn
    have h2 := wd "layer"
    have h3 := log_small hn
    refine ⟨by simp only [Hold.py, psz, pszs] at *; omega, by simp [Hold.py, PyData.showable, PyData.showableAll, h3], by simp [Hold.py, PyData.depth, PyData.depthAll]⟩
theorem act_sz {a : Act} {layer layers : Int} (hl : layers ≤ 6) (ho : a.ok layer layers) : psz a.py ≤ 90 ∧ a.py.showable = true ∧ a.py.depth ≤ 2 := by
  have lay : ∀ n : Int, 1 ≤ n → n ≤ layers - 1 → n.natAbs < 10 ^ 10 := fun n h1 h2 => by omega
  cases a with
  | none => exact ⟨by have := wd "none"; simp only [Act.py]; omega, rfl, by decide⟩
  | through => exact ⟨by have := wd "through"; simp only [Act.py]; omega, rfl, by decide⟩
  | code s =>
    have h1 := code_sz (s := s) ho
    have h2 := wd "code"
    refine ⟨by simp only [Act.py, psz, pszs] at *; omega, by simp [Act.py, PyData.showable, PyData.showableAll], by simp [Act.py, PyData.depth, PyData.depthAll]⟩
  | layer n =>
    have hn := lay n ho.1 ho.2
    have h1 := int_sz hn
    have h2 := wd "layer"
    have h3 := log_small hn
    refine ⟨by simp only [Act.py, psz, pszs] at *; omega, by simp [Act.py, PyData.showable, PyData.showableAll, h3], by simp [Act.py, PyData.depth, PyData.depthAll]⟩
  | lock n =>
    have hn := lay n ho.1 ho.2
    have h1 := int_sz hn
    have h2 := wd "lock"
    have h3 := log_small hn
    refine ⟨by simp only [Act.py, psz, pszs] at *; omega, by simp [Act.py, PyData.showable, PyData.showableAll, h3], by simp [Act.py, PyData.depth, PyData.depthAll]⟩
  | once n =>
    have hn := lay n ho.1 ho.2
    have h1 := int_sz hn
    have h2 := wd "once"
    have h3 := log_small hn
    refine ⟨by simp only [Act.py, psz, pszs] at *; omega, by simp [Act.py, PyData.showable, PyData.showableAll, h3], by simp [Act.py, PyData.depth, PyData.depthAll]⟩
  | dual c h t r =>
    obtain ⟨h1, h2, h3, h4, h5⟩ := ho
    have s1 := code_sz h1
    obtain ⟨s2, s3, s4⟩ := hold_sz hl h2
    have hn : t.natAbs < 10 ^ 10 := by omega
    have s5 := int_sz hn
    have s6 := log_small hn
    have s7 := wd "dual"
    have s8 : psz (.str r) ≤ 10 := by
      rcases h5 with rfl | rfl | rfl
      · exact wd "time"
      · exact wd "other"
      · exact wd "within"
    refine ⟨by simp only [Act.py, psz, pszs] at *; omega, by simp [Act.py, PyData.showable, PyData.showableAll, s6, s3], by simp [Act.py, PyData.depth, PyData.depthAll]; omega⟩
theorem repr_ok {L : Live} {d : D} {p : PyData} (h : pyOf L d = some p) (h1 : p.showable = true) (h2 : psz p ≤ 1000000) (h3 : p.depth < 60) : reprD L d = some p.shown := by
  have := shown_le p
  simp [reprD, pyX, h, h1, sizeOk_small (Nat.le_trans this h2), h3]
theorem repr_okX {L : Live} {d : D} {p : PyData} (h : pyX L d = some p) (h1 : p.showable = true) (h2 : psz p ≤ 1000000) (h3 : p.depth < 60) : reprD L d = some p.shown := by
  have := shown_le p
  simp [reprD, h, h1, sizeOk_small (Nat.le_trans this h2), h3]
theorem lay_sz {lay : Lay} {K : Nat} (h : LayOk lay K) : psz (pyL lay) ≤ 10000 ∧ (pyL lay).showable = true ∧ (pyL lay).depth ≤ 4 := by
  have hl : (lay.length : Int) ≤ 6 := by have := h.n2; omega
  have row : ∀ p ∈ lay.map pyR, psz p ≤ 1500 ∧ p.showable = true ∧ p.depth ≤ 3 := by
    intro p hp
    obtain ⟨r, hr, rfl⟩ := List.mem_map.mp hp
    obtain ⟨i, hi, e⟩ := List.mem_iff_getElem.mp hr
    have ha : ∀ x ∈ r.map Act.py, psz x ≤ 90 ∧ x.showable = true ∧ x.depth ≤ 2 := by
      intro x hx
      obtain ⟨a, ha, rfl⟩ := List.mem_map.mp hx
      exact act_sz hl (h.act i r (by rw [List.getElem?_eq_getElem hi, e]) a ha)
    have b_is_code := pszs_le fun x hx => (ha x hx).1
    have b_is_hold := MP.showableAll_of fun x hx => (ha x hx).2.1
    have b_is_action := depthAll_le fun x hx => (ha x hx).2.2
    have b_is_table := h.row r hr
    have b_wrong_places := h.k2
    rw [List.length_map] at b_is_code
    refine ⟨?_, ?_, ?_⟩
    · simp only [pyR, psz]; omega
    · simpa only [pyR, PyData.showable] using b_is_hold
    · simp only [pyR, PyData.depth]; omega
  have b_is_code := pszs_le fun x hx => (row x hx).1
  have b_is_hold := MP.showableAll_of fun x hx => (row x hx).2.1
  have b_is_action := depthAll_le fun x hx => (row x hx).2.2
  have b_is_table := h.n2
  rw [List.length_map] at b_is_code
  refine ⟨?_, ?_, ?_⟩
  · simp only [pyL, psz]; omega
  · simpa only [pyL, PyData.showable] using b_is_hold
  · simp only [pyL, PyData.depth]; omega
theorem setLay_ok {lay : Lay} {K l j : Nat} {a : Act} (h : LayOk lay K) (hl : l < lay.length) (ha : a.ok l lay.length) : LayOk (setLay lay l j a) K := by
  have len : (setLay lay l j a).length = lay.length := setLay_len _ _ _ _
  refine ⟨by rw [len]; exact h.n1, by rw [len]; exact h.n2, h.k1, h.k2, ?_, ?_⟩
  · intro r hr
    rcases List.mem_or_eq_of_mem_set hr with hr | rfl
    · exact h.row r hr
    · rw [List.getElem?_eq_getElem hl]; simp; exact h.row _ (List.getElem_mem hl)
  · intro i r hr x hx
    rw [len]
    unfold setLay at hr
    by_cases e : l = i
    · subst e
      rw [List.getElem?_set_self hl, List.getElem?_eq_getElem hl] at hr
      simp at hr
      subst hr
      rcases List.mem_or_eq_of_mem_set hx with hx | rfl
      · exact h.act l lay[l] (List.getElem?_eq_getElem hl) x hx
      · exact ha
    · rw [List.getElem?_set_ne e] at hr
      exact h.act i r hr x hx
/-! ### what repr is of the copy's live rows -/
theorem view_hold (L : Live) (n : Nat) (h : Hold) : view L (n + 2) h.enc = some h.py := by cases h <;> simp [Hold.enc, Hold.py, view, mapO, S, toPy]
theorem view_act (L : Live) (n : Nat) (a : Act) : view L (n + 3) a.enc = some a.py := by
  cases a with
  | dual c h t r =>
    have e := view_hold L n h
    have e1 : ∀ s : Str, view L (n + 2) (.str s) = some (.str s) := fun s => rfl
    have e2 : ∀ i : Int, view L (n + 2) (.int i) = some (.int i) := fun s => rfl
    show (mapO (view L (n + 2)) [S "dual", .str c, h.enc, .int t, .str r]).map PyData.tuple = _
    simp only [mapO, e, e1, e2, Option.map_some, Act.py, S]
  | _ => simp [Act.enc, Act.py, view, mapO, S, toPy]
theorem mapO_map {α β γ : Type} {f : β → Option γ} {g : α → β} {e : α → γ} : ∀ {l : List α}, (∀ x ∈ l, f (g x) = some (e x)) → mapO f (l.map g) = some (l.map e)
  | [], _ => rfl
  | x :: l, h => by simp only [List.map_cons, mapO, h x List.mem_cons_self, mapO_map (l := l) fun y hy => h y (List.mem_cons_of_mem _ hy)]
theorem view_told (L X : Live) (lay : Lay) (m : Nat) (hm : m = lay.length) (hX : (L ++ liveRows lay ++ X)[L.length + lay.length]? = some (.lst (refsN L.length m))) : pyOf (L ++ liveRows lay ++ X) (.ref (L.length + lay.length)) = some (pyL lay) := by
  have key : mapO (view (L ++ liveRows lay ++ X) 11) (refsN L.length m) = some (lay.map pyR) := by
    have e : lay.map pyR = (List.range m).map fun q => pyR (lay[q]?.getD []) := by
      apply List.ext_getElem
      · simp [hm]
      · intro i h1 h2
        simp at h1
        simp [h1]
    rw [e]
    refine mapO_map fun q hq => ?_
    have hq' : q < lay.length := by have := List.mem_range.mp hq; omega
    have g := liveRows_get L X lay q hq'
    rw [view, g]
    simp only [mapO_map fun (a : Act) _ => view_act _ 7 a, Option.map_some, List.getElem?_eq_getElem hq', Option.getD_some]
    rfl
  simp only [pyOf, toPy]
  rw [view, hX]
  simp only [key, Option.map_some]
  rfl
end PB
set_option maxHeartbeats 1000000
/-! live lists lent to a callee -/
namespace PB
open PySem hiding Act
open PySem.Spec PyProof.Rows L2 MP
theorem mapIx_len {α β : Type} (f : Nat → α → β) : ∀ (k : Nat) (l : List α), (mapIx f k l).length = l.length
  | _, [] => rfl
  | k, x :: r => by simp [mapIx, mapIx_len f (k + 1) r]
theorem mapIx_get {α β : Type} (f : Nat → α → β) : ∀ (k : Nat) (l : List α) (i : Nat), (mapIx f k l)[i]? = l[i]?.map (f (k + i))
  | _, [], i => by simp [mapIx]
  | k, x :: r, 0 => by simp [mapIx]
  | k, x :: r, i + 1 => by
    have := mapIx_get f (k + 1) r i
    simp only [mapIx, List.getElem?_cons_succ, this]
    congr 2
    omega
mutual
theorem th_noTag (ids : List Nat) : ∀ d : D, noTag d = true → th ids d = d
  | .non, _ => rfl
  | .bl _, _ => rfl
  | .int _, _ => rfl
  | .str _, _ => rfl
  | .ref _, _ => rfl
  | .tup ds, h => by simp only [noTag] at h; simp only [th, ths_noTag ids ds h]
  | .dct ks ds, h => by simp only [noTag] at h; simp only [th, ths_noTag ids ds h]
  | .lst t ds, h => by
    simp only [noTag, Bool.and_eq_true, decide_eq_true_eq] at h
    obtain ⟨rfl, h⟩ := h
    simp only [th, ths_noTag ids ds h]
theorem ths_noTag (ids : List Nat) : ∀ ds : List D, noTags ds = true → ths ids ds = ds
  | [], _ => rfl
  | d :: ds, h => by
    simp only [noTags, Bool.and_eq_true] at h
    simp only [ths, th_noTag ids d h.1, ths_noTag ids ds h.2]
end
def noTagO : LO → Bool
  | .lst xs => noTags xs
  | _ => false
theorem thO_noTag (ids : List Nat) {o : LO} (h : noTagO o = true) : thO ids o = o := by
  cases o with
  | lst xs => simp only [noTagO] at h; simp only [thO, ths_noTag ids xs h]
  | _ => simp [noTagO] at h
theorem maskL_len (ids : List Nat) (L : Live) : (maskL ids L).length = L.length := mapIx_len _ _ _
theorem backL_app {ids : List Nat} {L X : Live} (hi : ∀ i ∈ ids, i < L.length) (hX : ∀ o ∈ X, noTagO o = true) : backL ids L (maskL ids L ++ X) = L ++ X := by
  apply List.ext_getElem?
  intro i
  unfold backL
  rw [mapIx_get]
  simp only [Nat.zero_add]
  by_cases h : i < L.length
  · rw [List.getElem?_append_left (by rw [maskL_len]; exact h), List.getElem?_append_left h]
    unfold maskL
    rw [mapIx_get]
    simp only [Nat.zero_add]
    rw [List.getElem?_eq_getElem h]
    by_cases hm : i ∈ ids
    · simp [hm]
    · simp [hm]
  · have hn : i ∉ ids := fun z => h (hi i z)
    rw [List.getElem?_append_right (by rw [maskL_len]; omega), List.getElem?_append_right (by omega), maskL_len]
    cases q : X[i - L.length]? with
    | none => rfl
    | some o =>
      have hl : L[i]? = none := List.getElem?_eq_none (by omega)
      simp only [Option.map_some, hn, if_false, hl, reduceCtorEq]
      rw [thO_noTag ids (hX o (List.mem_of_getElem? q))]
/-- a call that lends, and makes new objects at most -/
theorem callW_lend {c : Cxt} {f : Nat} {ds es : List D} {L X : Live} {i : Nat} {ids : List Nat} {d : D} (h1 : idsAs L (c.liv f) ds = i :: ids) (h2 : lendAs L (c.liv f) ds = some es) (hi : ∀ j ∈ i :: ids, j < L.length) (hX : ∀ o ∈ X, noTagO o = true) (hd : noTag d = true)
    (h3 : c.φ f es (maskL (i :: ids) L) = .ok d (maskL (i :: ids) L ++ X)) : callW c f ds L = .ok d (L ++ X) := by
  unfold callW
  simp only [h1, h2, h3, th_noTag _ d hd, backL_app hi hX]
/-! ### live layouts -/
structure LiveL (L : Live) (a : Nat) (rs : List Nat) (lay : Lay) : Prop where
  top : L[a]? = some (.lst (rs.map D.ref))
  len : rs.length = lay.length
  row : ∀ (i : Nat) (h : i < lay.length) (h2 : i < rs.length), L[rs[i]]? = some (.lst (lay[i].map Act.enc))
  nd : (a :: rs).Nodup
abbrev tagsOf (a : Nat) (rs : List Nat) : Tags := (a + 1, fun i => rs.getD i 0 + 1)
theorem lendF_noRef (L : Live) (n : Nat) {d : D} (h : noRef d = true) : lendF L (n + 1) d = some d := by simp [lendF, h]
theorem LiveL.lt {L : Live} {a : Nat} {rs : List Nat} {lay : Lay} (h : LiveL L a rs lay) : ∀ j ∈ a :: rs, j < L.length := by
  intro j hj
  rcases List.mem_cons.mp hj with rfl | hj
  · exact (List.getElem?_eq_some_iff.mp h.top).1
  · obtain ⟨i, hi, rfl⟩ := List.mem_iff_getElem.mp hj
    exact (List.getElem?_eq_some_iff.mp (h.row i (by rw [← h.len]; exact hi) hi)).1
theorem mapO_get {α β : Type} {f : α → Option β} {l : List α} {r : List β} (hl : l.length = r.length) (h : ∀ (i : Nat) (h1 : i < l.length) (h2 : i < r.length), f l[i] = some r[i]) : mapO f l = some r := by
  induction l generalizing r with
  | nil => cases r with
    | nil => rfl
    | cons _ _ => simp at hl
  | cons x l ih => cases r with
    | nil => simp at hl
    | cons y r =>
      have h0 := h 0 (by simp) (by simp)
      simp at h0
      simp only [mapO, h0]
      rw [ih (by simpa using hl) fun i h1 h2 => by
        have := h (i + 1) (by simp; omega) (by simp; omega)
        simpa using this]
theorem LiveL.lendRow {L : Live} {a : Nat} {rs : List Nat} {lay : Lay} (h : LiveL L a rs lay) (n : Nat) (i : Nat) (hi : i < rs.length) : lendF L (n + 2) (.ref rs[i]) = some (encR (rs[i] + 1) (lay[i]'(by rw [← h.len]; exact hi))) := by
  have hr := h.row i (by rw [← h.len]; exact hi) hi
  rw [lendF]
  simp only [noRef, Bool.false_eq_true, if_false, hr]
  have e : mapO (lendF L (n + 1)) ((lay[i]'(by rw [← h.len]; exact hi)).map Act.enc) = some ((lay[i]'(by rw [← h.len]; exact hi)).map Act.enc) := mapO_id fun x hx => by
    obtain ⟨b, _, rfl⟩ := List.mem_map.mp hx
    exact lendF_noRef L n (act_noRef b)
  rw [e]
  rfl
theorem LiveL.lend {L : Live} {a : Nat} {rs : List Nat} {lay : Lay} (h : LiveL L a rs lay) (n : Nat) : lendF L (n + 3) (.ref a) = some (encL (tagsOf a rs) lay) := by
  rw [lendF]
  simp only [noRef, Bool.false_eq_true, if_false, h.top]
  have e : mapO (lendF L (n + 2)) (rs.map D.ref) = some (rowsD (tagsOf a rs) lay) := by
    refine mapO_get (by simp [h.len]) fun i h1 h2 => ?_
    have hi : i < rs.length := by simpa using h1
    simp only [List.getElem_map, rowsD_get]
    rw [h.lendRow n i hi]
    simp [hi]
  rw [e]
  rfl
theorem idsF_row {L : Live} {q : Nat} {r : List Act} (n : Nat) (h : L[q]? = some (.lst (r.map Act.enc))) : idsF L (n + 1) (.ref q) = [q] := by
  rw [idsF]
  simp only [noRef, Bool.false_eq_true, if_false, h]
  congr 1
  rw [List.flatMap_eq_nil_iff]
  intro x hx
  obtain ⟨b, _, rfl⟩ := List.mem_map.mp hx
  exact idsF_noRef L n (act_noRef b)
theorem LiveL.ids {L : Live} {a : Nat} {rs : List Nat} {lay : Lay} (h : LiveL L a rs lay) (n : Nat) : idsF L (n + 2) (.ref a) = a :: rs := by
  rw [idsF]
  simp only [noRef, Bool.false_eq_true, if_false, h.top]
  congr 1
  have key : ∀ l : List Nat, (∀ q ∈ l, idsF L (n + 1) (.ref q) = [q]) → (l.map D.ref).flatMap (idsF L (n + 1)) = l := by
    intro l
    induction l with
    | nil => intro _; rfl
    | cons q l ih =>
      intro hq
      rw [List.map_cons, List.flatMap_cons, hq q List.mem_cons_self, ih fun x hx => hq x (List.mem_cons_of_mem _ hx)]
      rfl
  refine key rs fun q hq => ?_
  obtain ⟨i, hi, rfl⟩ := List.mem_iff_getElem.mp hq
  exact idsF_row n (h.row i (by rw [← h.len]; exact hi) hi)
theorem lendAs_noRef (L : Live) : ∀ (lv : List Bool) (ds : List D), noRefs ds = true → lendAs L lv ds = some ds
  | _, [], _ => by simp [lendAs]
  | lv, d :: ds, h => by
    simp only [noRefs, Bool.and_eq_true] at h
    cases hb : lv.headD false <;> simp [lendAs, hb, lendF_noRef L 11 h.1, lendAs_noRef L lv.tail ds h.2]
/-- a layout lent as the first argument -/
theorem callW_lay {c : Cxt} {f : Nat} {L X : Live} {a : Nat} {rs : List Nat} {lay : Lay} {args : List D} {d : D} (h : LiveL L a rs lay) (hl : (c.liv f).headD false = false) (hn : noRefs args = true) (hX : ∀ o ∈ X, noTagO o = true) (hd : noTag d = true)
    (h3 : ∀ M : Live, M.length = L.length → c.φ f (encL (tagsOf a rs) lay :: args) M = .ok d (M ++ X)) : callW c f (.ref a :: args) L = .ok d (L ++ X) := by
  refine callW_lend (i := a) (ids := rs) (es := encL (tagsOf a rs) lay :: args) ?_ ?_ h.lt hX hd (h3 _ (maskL_len _ _))
  · simp only [idsAs, hl, Bool.false_eq_true, if_false, h.ids 10, idsAs_noRef L _ args hn, List.append_nil]
  · simp only [lendAs, hl, Bool.false_eq_true, if_false, h.lend 9, lendAs_noRef L _ args hn]
theorem callW_lay0 {c : Cxt} {f : Nat} {L : Live} {a : Nat} {rs : List Nat} {lay : Lay} {args : List D} {d : D} (h : LiveL L a rs lay) (hl : (c.liv f).headD false = false) (hn : noRefs args = true) (hd : noTag d = true)
    (h3 : ∀ M : Live, c.φ f (encL (tagsOf a rs) lay :: args) M = .ok d M) : callW c f (.ref a :: args) L = .ok d L := by
  have := callW_lay (X := []) h hl hn (by simp) hd fun M _ => by rw [h3 M, List.append_nil]
  simpa using this
theorem LiveL.mono {L L' : Live} {a : Nat} {rs : List Nat} {lay : Lay} (h : LiveL L a rs lay) (hL : ∀ j ∈ a :: rs, L'[j]? = L[j]?) : LiveL L' a rs lay where
  top := by rw [hL a List.mem_cons_self]; exact h.top
  len := h.len
  row := fun i h1 h2 => by rw [hL _ (List.mem_cons_of_mem _ (List.getElem_mem h2))]; exact h.row i h1 h2
  nd := h.nd
theorem LiveL.app {L : Live} {a : Nat} {rs : List Nat} {lay : Lay} (h : LiveL L a rs lay) (X : Live) : LiveL (L ++ X) a rs lay :=
  h.mono fun j hj => List.getElem?_append_left (h.lt j hj)
/-- what repr sees of a live layout -/
theorem LiveL.view {L : Live} {a : Nat} {rs : List Nat} {lay : Lay} (h : LiveL L a rs lay) (n : Nat) : MP.view L (n + 5) (.ref a) = some (pyL lay) := by
  rw [MP.view, h.top]
  have e : mapO (MP.view L (n + 4)) (rs.map D.ref) = some (lay.map pyR) := by
    refine mapO_get (by simp [h.len]) fun i h1 h2 => ?_
    have hi : i < rs.length := by simpa using h1
    simp only [List.getElem_map]
    rw [MP.view, h.row i (by simpa using h2) hi]
    simp only [mapO_map fun (b : Act) _ => view_act L n b, Option.map_some]
    rfl
  simp only [e, Option.map_some]
  rfl
theorem LiveL.py {L : Live} {a : Nat} {rs : List Nat} {lay : Lay} (h : LiveL L a rs lay) : pyOf L (.ref a) = some (pyL lay) := by
  simp only [pyOf, toPy]
  exact h.view 7
end PB
set_option maxHeartbeats 2000000
/-! D1: bounds on differences of numbers: sweeps, and when they end -/
namespace PB
structure Bd where
  i : Nat
  j : Nat
  d : Int
deriving DecidableEq
abbrev Nums := List (Option Int)
def atO (x : Nums) (k : Nat) : Option Int := (x[k]?).getD none
def chgB (x : Nums) (b : Bd) : Bool := match atO x b.i, atO x b.j with
  | none, _ => false
  | some _, none => true
  | some u, some v => decide (v < u + b.d)
def stpB (x : Nums) (b : Bd) : Nums := if chgB x b then x.set b.j ((atO x b.i).map (· + b.d)) else x
def swpB (bs : List Bd) (x : Nums) : Nums := bs.foldl stpB x
def itrB (bs : List Bd) : Nat → Nums → Nums
  | 0, x => x
  | n + 1, x => itrB bs n (swpB bs x)
def leO : Option Int → Option Int → Prop
  | none, _ => True
  | some _, none => False
  | some u, some v => u ≤ v
theorem leO.refl : ∀ a, leO a a | none => trivial | some u => Int.le_refl u
theorem leO.trans : ∀ {a b c}, leO a b → leO b c → leO a c
  | none, _, _, _, _ => trivial
  | some _, none, _, h, _ => h.elim
  | some _, some _, none, _, h => h.elim
  | some _, some _, some _, h, g => Int.le_trans h g
theorem leO.anti : ∀ {a b}, leO a b → leO b a → a = b
  | none, none, _, _ => rfl
  | none, some _, _, h => h.elim
  | some _, none, h, _ => h.elim
  | some u, some v, h, g => congrArg some (Int.le_antisymm h g)
/-- a state that fulfils bounds -/
def Sol (bs : List Bd) (z : Nat → Option Int) : Prop := ∀ b ∈ bs, ∀ u, z b.i = some u → ∃ v, z b.j = some v ∧ u + b.d ≤ v
def Fit (bs : List Bd) (s : Nat → Int) : Prop := ∀ b ∈ bs, s b.i + b.d ≤ s b.j
theorem Fit.sol {bs : List Bd} {s : Nat → Int} (h : Fit bs s) (c : Int) : Sol bs fun k => some (s k + c) := fun b hb u hu => by
  cases hu
  exact ⟨_, rfl, by have := h b hb; omega⟩
theorem at_set (x : Nums) (j k : Nat) (v : Option Int) (hj : j < x.length) : atO (x.set j v) k = if k = j then v else atO x k := by
  unfold atO
  by_cases q : k = j
  · subst q; simp [hj]
  · rw [if_neg q, List.getElem?_set_ne (fun e => q e.symm)]
theorem at_ext {x y : Nums} (hl : x.length = y.length) (h : ∀ k, atO x k = atO y k) : x = y := by
  apply List.ext_getElem hl
  intro i h1 h2
  have := h i
  simp only [atO, List.getElem?_eq_getElem h1, List.getElem?_eq_getElem h2, Option.getD_some] at this
  exact this
theorem stp_len (x : Nums) (b : Bd) : (stpB x b).length = x.length := by unfold stpB; split <;> simp
theorem stp_at {x : Nums} {b : Bd} (hj : b.j < x.length) (k : Nat) : atO (stpB x b) k = if k = b.j ∧ chgB x b = true then (atO x b.i).map (· + b.d) else atO x k := by
  unfold stpB
  by_cases c : chgB x b = true
  · rw [if_pos c, at_set _ _ _ _ hj]
    by_cases q : k = b.j
    · rw [if_pos q, if_pos ⟨q, c⟩]
    · rw [if_neg q, if_neg (fun h => q h.1)]
  · rw [if_neg c, if_neg (fun h => c h.2)]
theorem chg_true {x : Nums} {b : Bd} (h : chgB x b = true) : ∃ u, atO x b.i = some u ∧ leO (atO x b.j) (some (u + b.d)) ∧ atO x b.j ≠ some (u + b.d) := by
  unfold chgB at h
  split at h
  · cases h
  · rename_i u e1 e2; exact ⟨u, e1, by rw [e2]; trivial, by rw [e2]; simp⟩
  · rename_i u v e1 e2
    have h := of_decide_eq_true h
    refine ⟨u, e1, by rw [e2]; exact Int.le_of_lt h, by rw [e2]; simp; omega⟩
theorem chg_false {x : Nums} {b : Bd} (h : chgB x b = false) {u : Int} (e : atO x b.i = some u) : ∃ v, atO x b.j = some v ∧ u + b.d ≤ v := by
  unfold chgB at h
  rw [e] at h
  cases e2 : atO x b.j with
  | none => rw [e2] at h; cases h
  | some v =>
    rw [e2] at h
    have h := of_decide_eq_false h
    exact ⟨v, rfl, by omega⟩
theorem stp_ge {x : Nums} {b : Bd} (hj : b.j < x.length) (k : Nat) : leO (atO x k) (atO (stpB x b) k) := by
  rw [stp_at hj]
  split
  · rename_i h
    obtain ⟨u, e, l, _⟩ := chg_true h.2
    rw [h.1, e]; exact l
  · exact leO.refl _
theorem stp_le {bs : List Bd} {z : Nat → Option Int} (hz : Sol bs z) {x : Nums} {b : Bd} (hb : b ∈ bs) (hj : b.j < x.length) (h : ∀ k, leO (atO x k) (z k)) (k : Nat) : leO (atO (stpB x b) k) (z k) := by
  rw [stp_at hj]
  split
  · rename_i c
    obtain ⟨u, e, _, _⟩ := chg_true c.2
    have hi := h b.i
    rw [e] at hi ⊢
    cases q : z b.i with
    | none => rw [q] at hi; exact hi.elim
    | some w =>
      rw [q] at hi
      obtain ⟨v, e2, l⟩ := hz b hb w q
      rw [c.1, e2]
      have hi : u ≤ w := hi
      show u + b.d ≤ v
      omega
  · exact h k
theorem stp_tight {x : Nums} {b : Bd} (hj : b.j < x.length) {u : Int} (e : atO x b.i = some u) : ∃ v, atO (stpB x b) b.j = some v ∧ u + b.d ≤ v := by
  rw [stp_at hj]
  cases c : chgB x b with
  | true => rw [if_pos ⟨rfl, rfl⟩, e]; exact ⟨_, rfl, Int.le_refl _⟩
  | false => rw [if_neg (by simp)]; exact chg_false c e
def InB (bs : List Bd) (n : Nat) : Prop := ∀ b ∈ bs, b.i < n ∧ b.j < n
theorem InB.tl {b : Bd} {bs : List Bd} {n : Nat} (h : InB (b :: bs) n) : InB bs n := fun c hc => h c (List.mem_cons_of_mem _ hc)
theorem swp_len : ∀ (bs : List Bd) (x : Nums), (swpB bs x).length = x.length
  | [], x => rfl
  | b :: bs, x => by rw [swpB, List.foldl_cons]; exact (swp_len bs _).trans (stp_len x b)
theorem swp_ge : ∀ {bs : List Bd} {x : Nums}, InB bs x.length → ∀ k, leO (atO x k) (atO (swpB bs x) k)
  | [], x, _, k => leO.refl _
  | b :: bs, x, h, k => by
    rw [swpB, List.foldl_cons]
    exact (stp_ge (h b List.mem_cons_self).2 k).trans (swp_ge (bs := bs) (by rw [stp_len]; exact h.tl) k)
theorem swp_le {all : List Bd} {z : Nat → Option Int} (hz : Sol all z) : ∀ {bs : List Bd} {x : Nums}, (∀ b ∈ bs, b ∈ all) → InB bs x.length → (∀ k, leO (atO x k) (z k)) → ∀ k, leO (atO (swpB bs x) k) (z k)
  | [], x, _, _, h, k => h k
  | b :: bs, x, ha, hi, h, k => by
    rw [swpB, List.foldl_cons]
    exact swp_le hz (bs := bs) (fun c hc => ha c (List.mem_cons_of_mem _ hc)) (by rw [stp_len]; exact hi.tl) (stp_le hz (ha b List.mem_cons_self) (hi b List.mem_cons_self).2 h) k
theorem swp_tight : ∀ {bs : List Bd} {x : Nums}, InB bs x.length → ∀ b ∈ bs, ∀ u, atO x b.i = some u → ∃ v, atO (swpB bs x) b.j = some v ∧ u + b.d ≤ v
  | [], x, _, b, hb, _, _ => by cases hb
  | c :: bs, x, hi, b, hb, u, e => by
    have hc := hi c List.mem_cons_self
    have hi2 : InB bs (stpB x c).length := by rw [stp_len]; exact hi.tl
    rw [swpB, List.foldl_cons]
    rcases List.mem_cons.mp hb with rfl | hb
    · obtain ⟨v, e1, l1⟩ := stp_tight hc.2 e
      have g := swp_ge (bs := bs) hi2 b.j
      rw [e1] at g
      show ∃ v, atO (swpB bs (stpB x b)) b.j = some v ∧ _
      cases q : atO (swpB bs (stpB x b)) b.j with
      | none => rw [q] at g; exact g.elim
      | some w =>
        rw [q] at g
        have g : v ≤ w := g
        exact ⟨w, rfl, by omega⟩
    · have g := stp_ge (x := x) (b := c) hc.2 b.i
      rw [e] at g
      cases q : atO (stpB x c) b.i with
      | none => rw [q] at g; exact g.elim
      | some w =>
        rw [q] at g
        have g : u ≤ w := g
        obtain ⟨v, e1, l1⟩ := swp_tight (bs := bs) hi2 b hb w q
        exact ⟨v, e1, by omega⟩
theorem swp_fix {bs : List Bd} {x : Nums} (hi : InB bs x.length) (h : swpB bs x = x) : Sol bs (atO x) := fun b hb u e => by
  have := swp_tight hi b hb u e
  rwa [h] at this
theorem sol_stp {bs : List Bd} {x : Nums} (h : Sol bs (atO x)) {b : Bd} (hb : b ∈ bs) : chgB x b = false := by
  cases c : chgB x b with
  | false => rfl
  | true =>
    obtain ⟨u, e, l, n⟩ := chg_true c
    obtain ⟨v, e2, l2⟩ := h b hb u e
    rw [e2] at l n
    have l : v ≤ u + b.d := l
    exact absurd (congrArg some (show v = u + b.d by omega)) n
theorem sol_swp {all : List Bd} {x : Nums} (h : Sol all (atO x)) : ∀ {bs : List Bd}, (∀ b ∈ bs, b ∈ all) → swpB bs x = x
  | [], _ => rfl
  | b :: bs, ha => by
    have : stpB x b = x := by unfold stpB; rw [sol_stp h (ha b List.mem_cons_self)]; rfl
    rw [swpB, List.foldl_cons, this]
    exact sol_swp h fun c hc => ha c (List.mem_cons_of_mem _ hc)
theorem itr_len (bs : List Bd) : ∀ (n : Nat) (x : Nums), (itrB bs n x).length = x.length
  | 0, x => rfl
  | n + 1, x => (itr_len bs n _).trans (swp_len bs x)
theorem itr_ge {bs : List Bd} : ∀ (n : Nat) {x : Nums}, InB bs x.length → ∀ k, leO (atO x k) (atO (itrB bs n x) k)
  | 0, x, _, k => leO.refl _
  | n + 1, x, h, k => (swp_ge h k).trans (itr_ge n (by rw [swp_len]; exact h) k)
theorem itr_le {bs : List Bd} {z : Nat → Option Int} (hz : Sol bs z) : ∀ (n : Nat) {x : Nums}, InB bs x.length → (∀ k, leO (atO x k) (z k)) → ∀ k, leO (atO (itrB bs n x) k) (z k)
  | 0, x, _, h, k => h k
  | n + 1, x, hi, h, k => itr_le hz n (by rw [swp_len]; exact hi) (swp_le hz (fun _ h => h) hi h) k
theorem itr_fix {bs : List Bd} {x : Nums} (h : swpB bs x = x) : ∀ n, itrB bs n x = x
  | 0 => rfl
  | n + 1 => by rw [itrB, h]; exact itr_fix h n
theorem itr_succ {bs : List Bd} : ∀ (n : Nat) (x : Nums), itrB bs (n + 1) x = swpB bs (itrB bs n x)
  | 0, x => rfl
  | n + 1, x => by rw [itrB, itr_succ n]; rfl
/-! ### the sweeps come to rest -/
def slk (s : Nat → Int) : Nat → Nums → Nat × Nat
  | _, [] => (0, 0)
  | k, none :: r => ((slk s (k + 1) r).1 + 1, (slk s (k + 1) r).2)
  | k, some v :: r => ((slk s (k + 1) r).1, (slk s (k + 1) r).2 + (s k - v).toNat)
theorem slk_set (s : Nat → Int) : ∀ (x : Nums) (k j : Nat) (w : Int), j < x.length → leO (atO x j) (some w) → atO x j ≠ some w → w ≤ s (k + j) →
    Prod.Lex (· < ·) (· < ·) (slk s k (x.set j (some w))) (slk s k x)
  | [], k, j, w, h, _, _, _ => by simp at h
  | none :: r, k, 0, w, h, l, n, g => by
    simp only [List.set_cons_zero, slk]
    exact Prod.Lex.left _ _ (by omega)
  | some v :: r, k, 0, w, h, l, n, g => by
    simp only [List.set_cons_zero, slk]
    refine Prod.Lex.right _ ?_
    have l : v ≤ w := l
    have n : ¬ v = w := fun e => n (by simp [atO, e])
    simp only [Nat.add_zero] at g
    omega
  | none :: r, k, j + 1, w, h, l, n, g => by
    have ih := slk_set s r (k + 1) j w (by simpa using h) l n (by rwa [show k + 1 + j = k + (j + 1) by omega])
    simp only [List.set_cons_succ, slk]
    generalize slk s (k + 1) (r.set j (some w)) = a at ih
    generalize slk s (k + 1) r = b at ih
    cases ih with
    | left _ _ h => exact Prod.Lex.left _ _ (by simp only; omega)
    | right _ h => exact Prod.Lex.right _ h
  | some v :: r, k, j + 1, w, h, l, n, g => by
    have ih := slk_set s r (k + 1) j w (by simpa using h) l n (by rwa [show k + 1 + j = k + (j + 1) by omega])
    simp only [List.set_cons_succ, slk]
    generalize slk s (k + 1) (r.set j (some w)) = a at ih
    generalize slk s (k + 1) r = b at ih
    cases ih with
    | left _ _ h => exact Prod.Lex.left _ _ h
    | right _ h => exact Prod.Lex.right _ (by simp only; omega)
abbrev LexN : Nat × Nat → Nat × Nat → Prop := Prod.Lex (· < ·) (· < ·)
theorem lex_trans {a b c : Nat × Nat} (h : LexN a b) (g : LexN b c) : LexN a c := by
  cases h with
  | left _ _ h => cases g with
    | left _ _ g => exact .left _ _ (Nat.lt_trans h g)
    | right _ g => exact .left _ _ h
  | right _ h => cases g with
    | left _ _ g => exact .left _ _ g
    | right _ g => exact .right _ (Nat.lt_trans h g)
theorem swp_slk {all : List Bd} {s : Nat → Int} (hs : Fit all s) : ∀ {bs : List Bd} {x : Nums}, (∀ b ∈ bs, b ∈ all) → InB bs x.length → (∀ k, leO (atO x k) (some (s k))) →
    swpB bs x = x ∨ LexN (slk s 0 (swpB bs x)) (slk s 0 x)
  | [], x, _, _, _ => .inl rfl
  | b :: bs, x, ha, hi, h => by
    have hz : Sol all fun k => some (s k) := by have := hs.sol 0; simpa using this
    have hb := hi b List.mem_cons_self
    have ih := swp_slk hs (bs := bs) (x := stpB x b) (fun c hc => ha c (List.mem_cons_of_mem _ hc)) (by rw [stp_len]; exact hi.tl) (stp_le hz (ha b List.mem_cons_self) hb.2 h)
    rw [swpB, List.foldl_cons]
    show swpB bs (stpB x b) = x ∨ LexN (slk s 0 (swpB bs (stpB x b))) (slk s 0 x)
    cases c : chgB x b with
    | false =>
      have e : stpB x b = x := by unfold stpB; rw [c]; rfl
      rw [e] at ih ⊢
      exact ih
    | true =>
      obtain ⟨u, e, l, n⟩ := chg_true c
      have st : stpB x b = x.set b.j (some (u + b.d)) := by unfold stpB; rw [if_pos c, e]; rfl
      have g : u + b.d ≤ s (0 + b.j) := by
        have h1 := h b.i
        rw [e] at h1
        have h1 : u ≤ s b.i := h1
        have h2 := hs b (ha b List.mem_cons_self)
        rw [Nat.zero_add]; omega
      have lt := slk_set s x 0 b.j (u + b.d) hb.2 l n g
      rw [st] at ih ⊢
      rcases ih with ih | ih
      · rw [ih]; exact .inr lt
      · exact .inr (lex_trans ih lt)
theorem rests {bs : List Bd} {s : Nat → Int} (hs : Fit bs s) : ∀ (p : Nat × Nat) (x : Nums), slk s 0 x = p → InB bs x.length → (∀ k, leO (atO x k) (some (s k))) → ∃ K, swpB bs (itrB bs K x) = itrB bs K x := by
  intro p
  induction p using (Prod.lex ⟨(· < ·), Nat.lt_wfRel.wf⟩ ⟨(· < ·), Nat.lt_wfRel.wf⟩).wf.induction with
  | _ p ih =>
    intro x hp hi h
    rcases swp_slk hs (fun _ h => h) hi h with e | l
    · exact ⟨0, e⟩
    · have hz : Sol bs fun k => some (s k) := by have := hs.sol 0; simpa using this
      obtain ⟨K, hK⟩ := ih (slk s 0 (swpB bs x)) (hp ▸ l) (swpB bs x) rfl (by rw [swp_len]; exact hi) (swp_le hz (fun _ h => h) hi h)
      exact ⟨K + 1, hK⟩
/-! ### after as many sweeps as there are numbers -/
theorem count_lt {p q : Nat → Bool} : ∀ (l : List Nat), (∀ x ∈ l, p x = true → q x = true) → (∃ x ∈ l, p x = false ∧ q x = true) → l.countP p + 1 ≤ l.countP q
  | [], _, h => by obtain ⟨x, hx, _⟩ := h; cases hx
  | y :: l, hs, h => by
    have le : l.countP p ≤ l.countP q := List.countP_mono_left fun x hx => hs x (List.mem_cons_of_mem _ hx)
    rw [List.countP_cons, List.countP_cons]
    have hy := hs y List.mem_cons_self
    obtain ⟨x, hx, h1, h2⟩ := h
    rcases List.mem_cons.mp hx with rfl | hx
    · rw [h1, h2]; simp; exact le
    · have ih := count_lt l (fun x hx => hs x (List.mem_cons_of_mem _ hx)) ⟨x, hx, h1, h2⟩
      cases c : p y with
      | false => simp only [Bool.false_eq_true, if_false]; omega
      | true => rw [hy c]; simp only [if_true]; omega
section
variable {bs : List Bd} {s : Nat → Int} {x0 : Nums}
def sameB (y x : Nums) (k : Nat) : Bool := decide (atO x k = atO y k)
theorem grows (hs : Fit bs s) (hi : InB bs x0.length) {y : Nums} (hy : ∃ K, y = itrB bs K x0 ∧ swpB bs y = y) {k : Nat} (hk : ∃ j, j < x0.length ∧ sameB y (itrB bs k x0) j = false) :
    (List.range x0.length).countP (sameB y (itrB bs k x0)) + 1 ≤ (List.range x0.length).countP (sameB y (itrB bs (k + 1) x0)) := by
  obtain ⟨K, hK, fx⟩ := hy
  have hyl : y.length = x0.length := by rw [hK, itr_len]
  have sy : Sol bs (atO y) := swp_fix (by rw [hyl]; exact hi) fx
  have x0y : ∀ k, leO (atO x0 k) (atO y k) := fun k => by rw [hK]; exact itr_ge K hi k
  have least : ∀ z : Nat → Option Int, Sol bs z → (∀ k, leO (atO x0 k) (z k)) → ∀ k, leO (atO y k) (z k) := fun z h1 h2 k => by rw [hK]; exact itr_le h1 K hi h2 k
  have le : ∀ m k, leO (atO (itrB bs m x0) k) (atO y k) := fun m k => itr_le sy m hi x0y k
  have up : ∀ j, leO (atO (itrB bs k x0) j) (atO (itrB bs (k + 1) x0) j) := fun j => by rw [itr_succ]; exact swp_ge (by rw [itr_len]; exact hi) j
  refine count_lt _ (fun j _ h => ?_) ?_
  · have h := of_decide_eq_true h
    refine decide_eq_true (leO.anti (le _ j) ?_)
    rw [← h]; exact up j
  -- a tight bound leads out
  by_cases ex : ∃ b ∈ bs, ∃ u, atO y b.i = some u ∧ sameB y (itrB bs k x0) b.i = true ∧ sameB y (itrB bs k x0) b.j = false ∧ atO y b.j = some (u + b.d)
  · obtain ⟨b, hb, u, e1, e2, e3, e4⟩ := ex
    refine ⟨b.j, List.mem_range.mpr (hi b hb).2, e3, decide_eq_true ?_⟩
    have e2 := of_decide_eq_true e2
    obtain ⟨v, t1, t2⟩ := swp_tight (bs := bs) (x := itrB bs k x0) (by rw [itr_len]; exact hi) b hb u (by rw [e2]; exact e1)
    have l := le (k + 1) b.j
    rw [itr_succ] at l ⊢
    rw [t1, e4] at l ⊢
    have l : v ≤ u + b.d := l
    exact congrArg some (by omega)
  · exfalso
    obtain ⟨j, hj, hn⟩ := hk
    have z1 : Sol bs fun i => if sameB y (itrB bs k x0) i then atO y i else (atO y i).map (· - 1) := fun b hb u hu => by
      simp only at hu ⊢
      cases ci : sameB y (itrB bs k x0) b.i with
      | true =>
        rw [ci, if_pos rfl] at hu
        obtain ⟨v, e, l⟩ := sy b hb u hu
        cases cj : sameB y (itrB bs k x0) b.j with
        | true => exact ⟨v, by rw [if_pos rfl]; exact e, l⟩
        | false =>
          refine ⟨v - 1, by rw [e]; rfl, ?_⟩
          have : v ≠ u + b.d := fun h => ex ⟨b, hb, u, hu, ci, cj, by rw [e, h]⟩
          omega
      | false =>
        rw [ci] at hu
        simp only [Bool.false_eq_true, if_false] at hu
        cases q : atO y b.i with
        | none => rw [q] at hu; cases hu
        | some w =>
          rw [q] at hu
          cases hu
          obtain ⟨v, e, l⟩ := sy b hb w q
          rw [e]
          cases cj : sameB y (itrB bs k x0) b.j with
          | true => exact ⟨v, rfl, by show w - 1 + b.d ≤ v; omega⟩
          | false => exact ⟨v - 1, rfl, by show w - 1 + b.d ≤ v - 1; omega⟩
    have z2 : ∀ i, leO (atO x0 i) ((fun i => if sameB y (itrB bs k x0) i then atO y i else (atO y i).map (· - 1)) i) := fun i => by
      simp only
      cases c : sameB y (itrB bs k x0) i with
      | true => exact x0y i
      | false =>
        have c := of_decide_eq_false c
        have l1 := le k i
        have l2 := itr_ge (bs := bs) k hi i
        refine l2.trans ?_
        simp only [Bool.false_eq_true, if_false]
        generalize atO (itrB bs k x0) i = a at c l1
        generalize atO y i = b at c l1
        cases a with
        | none => trivial
        | some a =>
          cases b with
          | none => exact l1.elim
          | some b =>
            have l1 : a ≤ b := l1
            have : a ≠ b := fun h => c (congrArg some h)
            show a ≤ b - 1
            omega
    have l := least _ z1 z2 j
    simp only [hn, Bool.false_eq_true, if_false] at l
    have hn := of_decide_eq_false hn
    have l1 := le k j
    cases q : atO y j with
    | none =>
      rw [q] at l1 hn
      cases q2 : atO (itrB bs k x0) j with
      | none => exact hn q2
      | some _ => rw [q2] at l1; exact l1.elim
    | some v =>
      rw [q] at l
      have l : v ≤ v - 1 := l
      omega
theorem fixed (hs : Fit bs s) (hi : InB bs x0.length) (h0 : ∀ k, leO (atO x0 k) (some (s k))) : swpB bs (itrB bs x0.length x0) = itrB bs x0.length x0 := by
  obtain ⟨K, hK⟩ := rests hs _ x0 rfl hi h0
  obtain ⟨y, hy⟩ : ∃ y, y = itrB bs K x0 := ⟨_, rfl⟩
  rw [← hy] at hK
  have ge : ∀ k, (∀ j, j < x0.length → sameB y (itrB bs k x0) j = true) ∨ k ≤ (List.range x0.length).countP (sameB y (itrB bs k x0)) := by
    intro k
    induction k with
    | zero => exact .inr (Nat.zero_le _)
    | succ k ih =>
      have hyl : y.length = x0.length := by rw [hy, itr_len]
      by_cases ex : ∃ j, j < x0.length ∧ sameB y (itrB bs k x0) j = false
      · have g := grows hs hi ⟨K, hy, hK⟩ ex
        rcases ih with ih | ih
        · obtain ⟨j, hj, hn⟩ := ex
          rw [ih j hj] at hn; cases hn
        · exact .inr (by omega)
      · refine .inl fun j hj => ?_
        have e : itrB bs k x0 = y := at_ext (by rw [itr_len, hyl]) fun i => by
          by_cases hi' : i < x0.length
          · cases q : sameB y (itrB bs k x0) i with
            | true => exact of_decide_eq_true q
            | false => exact absurd ⟨i, hi', q⟩ ex
          · have e1 : (itrB bs k x0)[i]? = none := List.getElem?_eq_none (by rw [itr_len]; omega)
            have e2 : y[i]? = none := List.getElem?_eq_none (by omega)
            simp only [atO, e1, e2]
        rw [itr_succ, e, hK]
        exact decide_eq_true rfl
  have all : ∀ j, j < x0.length → sameB y (itrB bs x0.length x0) j = true := by
    rcases ge x0.length with h | h
    · exact h
    · intro j hj
      have le := List.countP_le_length (p := sameB y (itrB bs x0.length x0)) (l := List.range x0.length)
      rw [List.length_range] at le
      have eq : (List.range x0.length).countP (sameB y (itrB bs x0.length x0)) = (List.range x0.length).length := by rw [List.length_range]; omega
      exact List.countP_eq_length.mp eq j (List.mem_range.mpr hj)
  have hyl : y.length = x0.length := by rw [hy, itr_len]
  have e : itrB bs x0.length x0 = y := at_ext (by rw [itr_len, hyl]) fun i => by
    by_cases hi' : i < x0.length
    · exact of_decide_eq_true (all i hi')
    · have e1 : (itrB bs x0.length x0)[i]? = none := List.getElem?_eq_none (by rw [itr_len]; omega)
      have e2 : y[i]? = none := List.getElem?_eq_none (by omega)
      simp only [atO, e1, e2]
  rw [e]; exact hK
end
end PB
set_option maxHeartbeats 2000000
/-! D2: least numbers and forced differences -/
namespace PB
/-- the program's turns: the numbers of the first turn that changes nothing -/
def lftB (bs : List Bd) : Nat → Nums → Option Nums
  | 0, _ => none
  | n + 1, x => if swpB bs x = x then some x else lftB bs n (swpB bs x)
/-- the law's turns: the same, the last numbers if there is no such turn -/
def frcB (bs : List Bd) : Nat → Nums → Nums
  | 0, x => x
  | n + 1, x => if swpB bs x = x then x else frcB bs n (swpB bs x)
theorem lft_itr {bs : List Bd} : ∀ (n : Nat) {x : Nums}, swpB bs (itrB bs n x) = itrB bs n x → lftB bs (n + 1) x = some (itrB bs n x)
  | 0, x, h => by
    have h : swpB bs x = x := h
    rw [lftB, if_pos h]; rfl
  | n + 1, x, h => by
    rw [lftB]
    by_cases q : swpB bs x = x
    · rw [if_pos q, itr_fix q]
    · rw [if_neg q]; exact lft_itr n h
theorem frc_itr {bs : List Bd} : ∀ (n : Nat) (x : Nums), frcB bs n x = itrB bs n x
  | 0, x => rfl
  | n + 1, x => by
    rw [frcB]
    by_cases q : swpB bs x = x
    · rw [if_pos q, itr_fix q]
    · rw [if_neg q]; exact frc_itr n _
theorem lft_some {bs : List Bd} : ∀ (n : Nat) {x y : Nums}, lftB bs n x = some y → swpB bs y = y ∧ ∃ K, y = itrB bs K x
  | 0, x, y, h => by cases h
  | n + 1, x, y, h => by
    rw [lftB] at h
    by_cases q : swpB bs x = x
    · rw [if_pos q] at h; cases h; exact ⟨q, 0, rfl⟩
    · rw [if_neg q] at h
      obtain ⟨h1, K, h2⟩ := lft_some n h
      exact ⟨h1, K + 1, h2⟩
def zerosO (n : Nat) : Nums := List.replicate n (some 0)
def oneO (n i : Nat) : Nums := (List.range n).map fun k => if k = i then some 0 else none
theorem at_zeros (n k : Nat) : atO (zerosO n) k = if k < n then some 0 else none := by
  unfold atO zerosO
  rw [List.getElem?_replicate]
  split <;> rfl
theorem at_one {n i : Nat} (hi : i < n) (k : Nat) : atO (oneO n i) k = if k = i then some 0 else none := by
  unfold atO oneO
  rw [List.getElem?_map]
  by_cases q : k < n
  · rw [List.getElem?_range q]; rfl
  · rw [List.getElem?_eq_none (by simpa using q)]
    rw [if_neg (by omega)]; rfl
theorem len_zeros (n : Nat) : (zerosO n).length = n := by simp [zerosO]
theorem len_one (n i : Nat) : (oneO n i).length = n := by simp [oneO]
/-- the least of some numbers -/
theorem below (s : Nat → Int) : ∀ n : Nat, ∃ c : Int, ∀ k, k < n → 0 ≤ s k + c
  | 0 => ⟨0, fun k h => by omega⟩
  | n + 1 => by
    obtain ⟨c, h⟩ := below s n
    refine ⟨if c < -(s n) then -(s n) else c, fun k hk => ?_⟩
    rcases Nat.lt_succ_iff_lt_or_eq.mp hk with q | rfl
    · have := h k q; split <;> omega
    · split <;> omega
section
variable {bs : List Bd} {n : Nat} {s : Nat → Int}
theorem Fit.add (h : Fit bs s) (c : Int) : Fit bs fun k => s k + c := fun b hb => by have := h b hb; simp only; omega
/-- bounds that can be fulfilled have least numbers -/
theorem least_some (hi : InB bs n) (h : Fit bs s) : lftB bs (n + 1) (zerosO n) = some (itrB bs n (zerosO n)) := by
  obtain ⟨c, hc⟩ := below s n
  -- beyond n nothing matters
  have h2 : Fit bs fun k => if k < n then s k + c else 0 := fun b hb => by
    have := h b hb
    obtain ⟨a1, a2⟩ := hi b hb
    simp only [if_pos a1, if_pos a2]; omega
  have f := fixed (x0 := zerosO n) h2 (by rw [len_zeros]; exact hi) fun k => by
    rw [at_zeros]
    by_cases q : k < n
    · rw [if_pos q]; simp only [if_pos q]; exact hc k q
    · rw [if_neg q]; trivial
  rw [len_zeros] at f
  exact lft_itr n f
theorem least_none (hi : InB bs n) (h : ∀ s, ¬ Fit bs s) (m : Nat) : lftB bs m (zerosO n) = none := by
  cases q : lftB bs m (zerosO n) with
  | none => rfl
  | some y =>
    obtain ⟨h1, K, h2⟩ := lft_some m q
    have yl : y.length = n := by rw [h2, itr_len, len_zeros]
    have sy := swp_fix (by rw [yl]; exact hi) h1
    have al : ∀ k, k < n → ∃ v, atO y k = some v := fun k hk => by
      have g := itr_ge (bs := bs) K (x := zerosO n) (by rw [len_zeros]; exact hi) k
      rw [← h2, at_zeros, if_pos hk] at g
      cases e : atO y k with
      | none => rw [e] at g; exact g.elim
      | some v => exact ⟨v, rfl⟩
    refine absurd (fun b hb => ?_) (h fun k => (atO y k).getD 0)
    obtain ⟨u, hu⟩ := al b.i (hi b hb).1
    obtain ⟨v, hv, l⟩ := sy b hb u hu
    simp only [hu, hv, Option.getD_some]
    exact l
variable {i j : Nat}
theorem one_le (hi' : i < n) (c : Int) (hc : 0 ≤ s i + c) (k : Nat) : leO (atO (oneO n i) k) (some (s k + c)) := by
  rw [at_one hi']
  by_cases q : k = i
  · subst q; rw [if_pos rfl]; exact hc
  · rw [if_neg q]; trivial
/-- the greatest sums of bounds from a number -/
def farB (bs : List Bd) (n i : Nat) : Nums := itrB bs n (oneO n i)
theorem far_fix (hi : InB bs n) (h : Fit bs s) (hi' : i < n) : swpB bs (farB bs n i) = farB bs n i := by
  have h2 := h.add (-(s i))
  have f := fixed (x0 := oneO n i) h2 (by rw [len_one]; exact hi) (fun k => one_le hi' _ (by omega) k)
  rwa [len_one] at f
theorem far_lft (hi : InB bs n) (h : Fit bs s) (hi' : i < n) : lftB bs (n + 1) (oneO n i) = some (farB bs n i) := lft_itr n (far_fix hi h hi')
theorem far_frc : frcB bs n (oneO n i) = farB bs n i := frc_itr n _
theorem far_sol (hi : InB bs n) (h : Fit bs s) (hi' : i < n) : Sol bs (atO (farB bs n i)) := swp_fix (by rw [farB, itr_len, len_one]; exact hi) (far_fix hi h hi')
theorem far_le (hi : InB bs n) (h : Fit bs s) (hi' : i < n) (k : Nat) : leO (atO (farB bs n i) k) (some (s k - s i)) := by
  have := itr_le (h.sol (-(s i))) n (x := oneO n i) (by rw [len_one]; exact hi) (fun k => one_le hi' _ (by omega) k) k
  rwa [show s k + -(s i) = s k - s i by omega] at this
theorem far_self (hi : InB bs n) (h : Fit bs s) (hi' : i < n) : atO (farB bs n i) i = some 0 := by
  have g := itr_ge (bs := bs) n (x := oneO n i) (by rw [len_one]; exact hi) i
  rw [at_one hi', if_pos rfl] at g
  have l := far_le hi h hi' i
  unfold farB at l ⊢
  cases q : atO (itrB bs n (oneO n i)) i with
  | none => rw [q] at g; exact g.elim
  | some v =>
    rw [q] at g l
    have g : 0 ≤ v := g
    have l : v ≤ s i - s i := l
    exact congrArg some (by omega)
/-- numbers that are so much apart -/
theorem far_fit (hi : InB bs n) (h : Fit bs s) (hi' : i < n) (hj : j < n) {d : Int} (hd : ∀ v, atO (farB bs n i) j = some v → v ≤ d) : ∃ s', Fit (bs ++ [⟨j, i, -d⟩]) s' := by
  have sy := far_sol hi h hi'
  obtain ⟨B, hB⟩ : ∃ B : Int, (∀ b ∈ bs, ∀ v, atO (farB bs n i) b.j = some v → s b.i + b.d - v ≤ B) ∧ s j - d ≤ B := by
    have : ∀ l : List Bd, ∃ B : Int, (∀ b ∈ l, ∀ v, atO (farB bs n i) b.j = some v → s b.i + b.d - v ≤ B) ∧ s j - d ≤ B := by
      intro l
      induction l with
      | nil => exact ⟨s j - d, (fun b hb => absurd hb (by simp)), Int.le_refl _⟩
      | cons b l ih =>
        obtain ⟨B, h1, h2⟩ := ih
        cases q : atO (farB bs n i) b.j with
        | none =>
          refine ⟨B, fun c hc v hv => ?_, h2⟩
          rcases List.mem_cons.mp hc with rfl | hc
          · rw [q] at hv; cases hv
          · exact h1 c hc v hv
        | some w =>
          refine ⟨if B < s b.i + b.d - w then s b.i + b.d - w else B, fun c hc v hv => ?_, by split <;> omega⟩
          rcases List.mem_cons.mp hc with rfl | hc
          · rw [q] at hv; cases hv; split <;> omega
          · have := h1 c hc v hv; split <;> omega
    exact this bs
  obtain ⟨hB1, hB2⟩ := hB
  refine ⟨fun k => match atO (farB bs n i) k with | some v => v | none => s k - B, fun b hb => ?_⟩
  simp only
  rcases List.mem_append.mp hb with hb | hb
  · cases qi : atO (farB bs n i) b.i with
    | some u =>
      obtain ⟨v, hv, l⟩ := sy b hb u qi
      rw [hv]; exact l
    | none =>
      cases qj : atO (farB bs n i) b.j with
      | some v => have := hB1 b hb v qj; simp only; omega
      | none => have := h b hb; simp only; omega
  · rw [List.mem_singleton.mp hb]
    simp only [far_self hi h hi']
    cases qj : atO (farB bs n i) j with
    | some v => have := hd v qj; simp only; omega
    | none => simp only; omega
theorem far_unfit (hi : InB bs n) (hi' : i < n) {v : Int} (hv : atO (farB bs n i) j = some v) {d : Int} (hd : d < v) : ∀ s', ¬ Fit (bs ++ [⟨j, i, -d⟩]) s' := fun s' h' => by
  have h : Fit bs s' := fun b hb => h' b (List.mem_append_left _ hb)
  have l := far_le hi h hi' j
  rw [hv] at l
  have l : v ≤ s' j - s' i := l
  have := h' ⟨j, i, -d⟩ (by simp)
  simp only at this
  omega
/-- three numbers in a row -/
theorem far_row (hi : InB bs n) (h : Fit bs s) (hi' : i < n) {t : Nat} (ht : t < n) {a b : Int} (ha : atO (farB bs n i) t = some a) (hb : atO (farB bs n t) j = some b) : ∃ v, atO (farB bs n i) j = some v ∧ a + b ≤ v := by
  have sy := far_sol hi h hi'
  have sz : Sol bs fun k => (atO (farB bs n i) k).map (· - a) := fun c hc u hu => by
    simp only at hu ⊢
    cases q : atO (farB bs n i) c.i with
    | none => rw [q] at hu; cases hu
    | some w =>
      rw [q] at hu
      cases hu
      obtain ⟨v, e, l⟩ := sy c hc w q
      exact ⟨v - a, by rw [e]; rfl, by show w - a + c.d ≤ v - a; omega⟩
  have l := itr_le sz n (x := oneO n t) (by rw [len_one]; exact hi) (fun k => by
    rw [at_one ht]
    by_cases q : k = t
    · subst q; rw [if_pos rfl, ha]; show (0 : Int) ≤ a - a; omega
    · rw [if_neg q]; trivial) j
  have hb : atO (itrB bs n (oneO n t)) j = some b := hb
  rw [hb] at l
  cases q : atO (farB bs n i) j with
  | none => rw [q] at l; exact l.elim
  | some v =>
    rw [q] at l
    have l : b ≤ v - a := l
    exact ⟨v, rfl, by omega⟩
end
/-! ### the row of fifty numbers -/
def chainB : List Bd := ((List.range 49).map fun k => ⟨k, k + 1, 2 - (k : Int)⟩).reverse
theorem chain_zero : (lftB chainB 51 (zerosO 50)).isSome = true := by decide +kernel
theorem chain_a : (lftB chainB 51 (oneO 50 0)).map (fun y => atO y 49) = some (some (98 - 1176)) := by decide +kernel
theorem chain_b : (lftB chainB 51 (oneO 50 3)).map (fun y => atO y 5) = some (some (-3)) := by decide +kernel
theorem chain_c : (lftB chainB 51 (oneO 50 5)).map (fun y => atO y 3) = some none := by decide +kernel
theorem chain_d : (lftB [⟨0, 0, -5⟩] 2 (oneO 1 0)).map (fun y => atO y 0) = some (some 0) ∧ (lftB [⟨0, 0, -5⟩] 2 (zerosO 1)).isSome = true := by decide +kernel
end PB
set_option maxHeartbeats 2000000
/-! QC: draws of the third family -/
namespace PBc
open PySem hiding Act
open PySem.Spec PyProof.Rows L2 MP PB
/-! _law_pool: 0=_law_script 1=_law_at 2=_law_cell -/
def b__law_pool : Ss := (.cons (.asg (.nm (.slot 2)) (.ite (.cmp .lt (.var 1) (.blt .len false (.cons (.var 0) .nil))) (.idx (.var 0) (.var 1)) (.con (.int 0)))) (.cons (.ret (.lst true (.cons (.blt .max false (.cons (.con (.int 0)) (.cons (.bin .sub false (.blt .abs false (.cons (.var 2) .nil)) (.bin .pow false (.con (.int 10)) (.con (.int 18)))) .nil))) (.cons (.bin .add false (.bin .mod false (.var 2) (.con (.int 2305843009213693951))) (.bin .mul false (.con (.int 7919)) (.bin .add false (.var 1) (.con (.int 1))))) (.cons (.con (.int 0)) .nil))))) .nil))
def f__law_pool : Fn := ⟨2, 3, [], false, b__law_pool⟩

/-! _law_draw: 0=_law_pool_here 1=_law_many 2=_law_drawn 3=_law_mixed -/
def b__law_draw : Ss := (.cons (.ite (.cmp .gt (.idx (.var 0) (.con (.int 0))) (.con (.int 0))) (.cons (.asg (.nm (.slot 2)) (.bin .mod false (.idx (.var 0) (.con (.int 0))) (.var 1))) (.cons (.asg (.sub (.var 0) (.con (.int 0))) (.bin .fdiv false (.idx (.var 0) (.con (.int 0))) (.var 1))) (.cons (.ret (.var 2)) .nil))) .nil) (.cons (.asg (.sub (.var 0) (.con (.int 2))) (.bin .add false (.idx (.var 0) (.con (.int 2))) (.con (.int 1)))) (.cons (.asg (.nm (.slot 3)) (.bin .mod false (.bin .pow false (.bin .add false (.idx (.var 0) (.con (.int 1))) (.bin .mul false (.con (.int 104729)) (.idx (.var 0) (.con (.int 2))))) (.con (.int 3))) (.con (.int 618970019642690137449562111)))) (.cons (.asg (.nm (.slot 3)) (.bin .mod false (.bin .pow false (.bin .add false (.var 3) (.bin .mul false (.con (.int 1299709)) (.idx (.var 0) (.con (.int 2))))) (.con (.int 3))) (.con (.int 162259276829213363391578010288127)))) (.cons (.ret (.bin .mod false (.bin .fdiv false (.var 3) (.con (.int 4096))) (.var 1))) .nil)))))
def f__law_draw : Fn := ⟨2, 4, [true], false, b__law_draw⟩

def RS (n : Nat) (o : LO) : Prop := ∃ a b c : Int, o = .lst [.int a, .int b, .int c] ∧ 0 ≤ a ∧ 0 ≤ b ∧ b < 2 ^ 200 ∧ 0 ≤ c ∧ c ≤ n
theorem RS_mono {n m : Nat} {o : LO} (h : RS n o) (hm : n ≤ m) : RS m o := by
  obtain ⟨a, b, c, h1, h2, h3, h4, h5, h6⟩ := h
  exact ⟨a, b, c, h1, h2, h3, h4, h5, by omega⟩
theorem callW_draw {T : Tab} {f : Nat} {d : Fn} (h : T.fn f = some d) (hd : d.liv = [true]) {k p : Nat} {args : List D} {L : Live} (hn : noRefs args = true) : callW (T.cx k) f (.ref p :: args) L = (T.cx k).φ f (.ref p :: args) L := by
  refine callW_nil ?_
  rw [liv_of h, hd]
  simp only [idsAs, List.headD_cons, if_true, List.nil_append, List.tail_cons]
  exact idsAs_noRef L _ _ hn
theorem mixed {c : Cxt} {E : Ev} {L : Live} {A B M : Ex} {a b m n : Int} (hA : evE c A E L = .ok (.int a) L) (hB : evE c B E L = .ok (.int b) L) (hM : evE c M E L = .ok (.int m) L) (hp : powOk (a + b) n = true) (hm : 0 < m) :
    evE c (.bin .mod false (.bin .pow false (.bin .add false A B) (.con (.int n))) M) E L = .ok (.int ((a + b) ^ n.toNat % m)) L := by
  simp only [evE, hA, hB, hM, Res.bind_ok, bAdd, bPow _ _ _ _ hp, bMod _ _ _ _ hm, opt]
theorem divmod {c : Cxt} {E : Ev} {L : Live} {A B M : Ex} {a b m : Int} (hA : evE c A E L = .ok (.int a) L) (hB : evE c B E L = .ok (.int b) L) (hM : evE c M E L = .ok (.int m) L) (hp : divOk b = true) (hm : 0 < m) :
    evE c (.bin .mod false (.bin .fdiv false A B) M) E L = .ok (.int (a / b % m)) L := by
  simp only [evE, hA, hB, hM, Res.bind_ok, bDiv _ _ _ _ hp, bMod _ _ _ _ hm, opt]
theorem e_con (x : Int) : ∃ M : Int, (∀ c E L, evE c (.con (.int x)) E L = .ok (.int M) L) ∧ M = x := ⟨x, fun _ _ _ => rfl, rfl⟩
def Same (p : Nat) (L L' : Live) : Prop := L.length ≤ L'.length ∧ ∀ j, j < L.length → j ≠ p → L'[j]? = L[j]?
theorem Same.refl (p : Nat) (L : Live) : Same p L L := ⟨Nat.le_refl _, fun _ _ _ => rfl⟩
theorem Same.trans {p : Nat} {A B C : Live} (h : Same p A B) (g : Same p B C) : Same p A C := ⟨Nat.le_trans h.1 g.1, fun j hj n => (g.2 j (Nat.lt_of_lt_of_le hj h.1) n).trans (h.2 j hj n)⟩
theorem Same.app (p : Nat) (L X : Live) : Same p L (L ++ X) := ⟨by simp, fun j hj _ => List.getElem?_append_left hj⟩
theorem Same.set (p : Nat) (L : Live) (o : LO) : Same p L (L.set p o) := ⟨by simp, fun j hj n => List.getElem?_set_ne (fun z => n z.symm)⟩
def Pool (L : Live) (p m : Nat) : Prop := ∃ o, L[p]? = some o ∧ RS m o
theorem Pool.lt {L : Live} {p m : Nat} (h : Pool L p m) : p < L.length := let ⟨_, h, _⟩ := h; (List.getElem?_eq_some_iff.mp h).1
theorem Pool.mono {L : Live} {p m n : Nat} (h : Pool L p m) (hm : m ≤ n) : Pool L p n := let ⟨o, h, r⟩ := h; ⟨o, h, RS_mono r hm⟩
theorem Pool.app {L : Live} {p m : Nat} (h : Pool L p m) (X : Live) : Pool (L ++ X) p m := let ⟨o, e, r⟩ := h; ⟨o, by rw [List.getElem?_append_left h.lt]; exact e, r⟩
section
variable {T : Tab} [HasFn T 161 f__law_draw]
theorem s_draw {k : Nat} (hk : 1 ≤ k) {L : Live} {p n : Nat} (hP : Pool L p n) (hn : n + 1 ≤ 10 ^ 9) (size : Int) (h1 : 1 ≤ size) (h2 : size < 2 ^ 250) :
    ∃ (i : Int) (o' : LO), (T.cx k).φ 161 [.ref p, .int size] L = .ok (.int i) (L.set p o') ∧ RS (n + 1) o' ∧ 0 ≤ i ∧ i < size := by
  obtain ⟨k, rfl⟩ : ∃ m, k = m + 1 := ⟨k - 1, by omega⟩
  have hp := hP.lt
  obtain ⟨o, ho, a, b, c, rfl, ha, hb, hb2, hc, hc2⟩ := hP
  have hd := div_ok (j := size) (by omega) h2
  have ix : ∀ i : Int, idxD (.ref p) (.int i) L = atI [.int a, .int b, .int c] i := fun i => by simp [idxD, seqOf, lstOf, ho, idxSeq]
  have ne : size ≠ 0 := by omega
  have pos : 0 < size := by omega
  rw [goH 161 rfl rfl]
  show ∃ i o', resOf (evSs (T.cx k) b__law_draw [some (.ref p), some (.int size), none, none] _) = _ ∧ _
  by_cases h0 : 0 < a
  · refine ⟨a % size, .lst [.int (a / size), .int b, .int c], ?_, ⟨_, _, _, rfl, Int.ediv_nonneg ha (by omega), hb, hb2, hc, by omega⟩, Int.emod_nonneg _ ne, Int.emod_lt_of_pos _ pos⟩
    have sd : setD (.ref p) (.int 0) (.int (a / size)) L = some (L.set p (.lst [.int (a / size), .int b, .int c])) := by
      simp [setD, ho, ixN]
    simp [evSs, evS, evE, evT, resOf, optV, opt, truD, storeT, storeG, b__law_draw, ix, atI, ixN, cmpD, ordI, h0, bMod _ _ _ _ pos, bDiv _ _ _ _ hd, sd]
  · obtain ⟨M1, hM1, hE1⟩ := e_con 618970019642690137449562111
    obtain ⟨M2, hM2, hE2⟩ := e_con 162259276829213363391578010288127
    obtain ⟨M3, hM3, hE3⟩ := e_con 4096
    have f1 : 0 < M1 ∧ M1 < 2 ^ 150 := by rw [hE1]; omega
    have f2 : 0 < M2 ∧ M2 < 2 ^ 150 := by rw [hE2]; omega
    have f3 : 0 < M3 ∧ M3 < 2 ^ 150 := by rw [hE3]; omega
    clear hE1 hE2 hE3
    obtain ⟨f1, f1'⟩ := f1
    obtain ⟨f2, f2'⟩ := f2
    obtain ⟨f3, f3'⟩ := f3
    obtain ⟨L2, hL2⟩ : ∃ L2, L2 = L.set p (.lst [.int a, .int b, .int (c + 1)]) := ⟨_, rfl⟩
    have sd : setD (.ref p) (.int 2) (.int (c + 1)) L = some L2 := by
      rw [hL2]; simp [setD, ho, ixN]
    have ix2 : ∀ i : Int, idxD (.ref p) (.int i) L2 = atI [.int a, .int b, .int (c + 1)] i := fun i => by simp [idxD, seqOf, lstOf, hL2, hp, idxSeq]
    have hc3 : c + 1 ≤ 10 ^ 9 + 1 := by omega
    have m1 : mulOk 104729 (c + 1) = true := mul_okl (by omega) (by omega)
    have m2 : mulOk 1299709 (c + 1) = true := mul_okl (by omega) (by omega)
    have q1 : powOk (b + 104729 * (c + 1)) 3 = true := pow_ok (by omega) (by omega) (by omega) (by omega)
    obtain ⟨w, hw⟩ : ∃ w, w = (b + 104729 * (c + 1)) ^ (3 : Int).toNat % M1 := ⟨_, rfl⟩
    have w1 : 0 ≤ w := by rw [hw]; exact Int.emod_nonneg _ (by omega)
    have w2 : w < M1 := by rw [hw]; exact Int.emod_lt_of_pos _ f1
    have q2 : powOk (w + 1299709 * (c + 1)) 3 = true := pow_ok (by omega) (by omega) (by omega) (by omega)
    have d1 : divOk M3 = true := div_ok (by omega) (by omega)
    refine ⟨(w + 1299709 * (c + 1)) ^ (3 : Int).toNat % M2 / M3 % size, .lst [.int a, .int b, .int (c + 1)], ?_, ⟨_, _, _, rfl, ha, hb, hb2, by omega, by omega⟩, Int.emod_nonneg _ ne, Int.emod_lt_of_pos _ pos⟩
    rw [← hL2]
    rw [b__law_draw, ss_if_n (L1 := L) (by simp [evT, evE, optV, ix, atI, ixN, cmpD, ordI, h0, truD]),
      ss_set (d := .int (c + 1)) (L1 := L) (by simp [evE, optV, opt, ix, atI, ixN, bAdd]) (x := .ref p) (L2 := L) (by simp [evE]) (y := .int 2) (L3 := L) (by simp [evE]) sd,
      ss_asg (d := .int w) (L1 := L2) (by rw [hw]; exact mixed (by simp [evE, optV, ix2, atI, ixN]) (by simp [evE, opt, optV, ix2, atI, ixN, bMul _ _ _ _ m1]) (hM1 _ _ _) q1 f1) rfl,
      ss_asg (d := .int ((w + 1299709 * (c + 1)) ^ (3 : Int).toNat % M2)) (L1 := L2) (mixed (by simp [evE]) (by simp [evE, opt, optV, ix2, atI, ixN, bMul _ _ _ _ m2]) (hM2 _ _ _) q2 f2) rfl,
      ss_ret (d := .int ((w + 1299709 * (c + 1)) ^ (3 : Int).toNat % M2 / M3 % size)) (L1 := L2) (divmod (by simp [evE]) (hM3 _ _ _) (by simp [evE]) d1 pos)]
    simp only [resOf]
/-- a draw of a number -/
theorem draw {k : Nat} (hk : 1 ≤ k) {L : Live} {p m : Nat} (hP : Pool L p m) (hm : m + 1 ≤ 10 ^ 9) (size : Int) (h1 : 1 ≤ size := by omega) (h2 : size < 2 ^ 250 := by omega) :
    ∃ (i : Int) (L' : Live), callW (T.cx k) 161 [.ref p, .int size] L = .ok (.int i) L' ∧ Pool L' p (m + 1) ∧ Same p L L' ∧ L'.length = L.length ∧ 0 ≤ i ∧ i < size := by
  obtain ⟨i, o', e, h3, h4, h5⟩ := s_draw (T := T) hk hP hm size h1 h2
  refine ⟨i, L.set p o', ?_, ⟨o', ?_, h3⟩, Same.set p L o', by simp, h4, h5⟩
  · rw [callW_draw (HasFn.h (f := 161) (d := f__law_draw)) rfl rfl, e]
  · rw [List.getElem?_set_self hP.lt]
/-- a comprehension whose turns draw -/
theorem compL_drawsP {g : Tg} {E : Ev} {e : Ev → Live → Res D} {ds : List D} {L : Live} {p b : Nat} {post : D → Prop} (hz : ds.length ≤ sizeLine)
    (hs : ∀ d ∈ ds, ∀ m L', m + b ≤ 10 ^ 9 → Pool L' p m → ∃ E' r L2, storeG g d E = some E' ∧ e E' L' = .ok r L2 ∧ Pool L2 p (m + b) ∧ Same p L' L2 ∧ L2.length = L'.length ∧ post r) {m : Nat} (hm : m + b * ds.length ≤ 10 ^ 9) (hP : Pool L p m) :
    ∃ rs L', compL [] g E (fun _ L' => .ok true L') e ds [] L = .ok rs L' ∧ Pool L' p (m + b * ds.length) ∧ Same p L L' ∧ L'.length = L.length ∧ rs.length = ds.length ∧ ∀ r ∈ rs, post r := by
  obtain ⟨acc', L', h1, h2, h3, h4, h5, h6⟩ := compL_run (w := []) (g := g) (E := E) (c := fun _ L' => .ok true L') (e := e) (ds := ds)
    (fun i acc L' => Pool L' p (m + b * i) ∧ Same p L L' ∧ L'.length = L.length ∧ acc.length = i ∧ ∀ r ∈ acc, post r) (fun _ _ _ _ => rfl) (fun i acc L' hi h => by
      obtain ⟨h2, h3, h4, h5, h6⟩ := h
      have hb : b * (i + 1) ≤ b * ds.length := Nat.mul_le_mul_left b hi
      have hb2 : b * (i + 1) = b * i + b := Nat.mul_succ b i
      obtain ⟨E', r, L2, q1, q2, q3, q4, q5, q6⟩ := hs ds[i] (List.getElem_mem hi) (m + b * i) L' (by omega) h2
      refine ⟨E', q1, .inr ⟨_, r, _, rfl, q2, by omega, by rw [hb2, ← Nat.add_assoc]; exact q3, h3.trans q4, by omega, by simp [h5], ?_⟩⟩
      intro x hx
      rcases List.mem_append.mp hx with hx | hx
      · exact h6 x hx
      · rw [List.mem_singleton.mp hx]; exact q6) (acc := []) (L := L) ⟨by simpa using hP, Same.refl _ _, rfl, rfl, by simp⟩
  exact ⟨acc', L', h1, h2, h3, h4, h5, h6⟩
end
theorem atI_mem {α : Type} {xs : List α} {i : Int} (h0 : 0 ≤ i) (h : i < xs.length) : ∃ x, atI xs i = some x ∧ x ∈ xs := by
  obtain ⟨n, rfl⟩ := Int.eq_ofNat_of_zero_le h0
  have hn : n < xs.length := by omega
  exact ⟨xs[n], atI_nat (List.getElem?_eq_getElem hn), List.getElem_mem hn⟩
theorem rng1_get {n : Nat} {i : Nat} (h : i < ((List.range n).map fun q => D.int (q : Nat)).length) : ((List.range n).map fun q => D.int (q : Nat))[i] = .int i := by simp
theorem rng1_nat {n : Int} (h : 0 ≤ n) (h2 : n ≤ 1000000) : rng1D (.int n) = some ((List.range n.toNat).map fun q => D.int (q : Nat)) := by
  simp only [rng1D]; rw [if_pos]; simp only [Bool.and_eq_true, decide_eq_true_eq]; omega
theorem ints_noRef (ns : List Int) : noRefs (ns.map D.int) = true := noRefs_of fun d hd => by obtain ⟨x, _, rfl⟩ := List.mem_map.mp hd; rfl
theorem s_pool {T : Tab} [HasFn T 160 f__law_pool] (k : Nat) (hk : 1 ≤ k) (ns : List Int) (idx : Int) (h0 : 0 ≤ idx) (h1 : idx ≤ 1000) (L : Live) :
    ∃ o, (T.cx k).φ 160 [.lst 0 (ns.map D.int), .int idx] L = .ok (.ref L.length) (L ++ [o]) ∧ RS 0 o := by
  obtain ⟨k, rfl⟩ : ∃ m, k = m + 1 := ⟨k - 1, by omega⟩
  rw [goH 160 rfl rfl]
  obtain ⟨M1, hM1, hE1⟩ := e_con 2305843009213693951
  obtain ⟨M3, hM3, hE3⟩ := e_power 10 18 (by decide)
  have f1 : 0 < M1 ∧ M1 < 2 ^ 150 := by rw [hE1]; omega
  clear hE1 hE3
  obtain ⟨f1, f1'⟩ := f1
  have eS : ∀ L : Live, lenD L (.lst 0 (ns.map D.int)) = some (ns.length : Int) := fun L => by simp [lenD, seqOf, lstOf]
  have cell : ∃ z : Int, evE (T.cx k) (.ite (.cmp .lt (.var 1) (.blt .len false (.cons (.var 0) .nil))) (.idx (.var 0) (.var 1)) (.con (.int 0))) [some (.lst 0 (ns.map D.int)), some (.int idx), none] L = .ok (.int z) L := by
    by_cases c : idx < ns.length
    · obtain ⟨d, hd, hm⟩ := atI_mem (xs := ns.map D.int) h0 (by simpa using c)
      obtain ⟨z, hz, rfl⟩ := List.mem_map.mp hm
      refine ⟨z, ?_⟩
      simp [evE, evA, bltD, eS, opt, optV, cmpD, ordI, c, truD, idxD, seqOf, lstOf, idxSeq, hd]
    · refine ⟨0, ?_⟩
      simp [evE, evA, bltD, eS, opt, optV, cmpD, ordI, c, truD]
  obtain ⟨z, hz⟩ := cell
  obtain ⟨u, hu⟩ : ∃ u, u = z % M1 := ⟨_, rfl⟩
  have u0 : 0 ≤ u := by rw [hu]; exact Int.emod_nonneg _ (by omega)
  have u1 : u < M1 := by rw [hu]; exact Int.emod_lt_of_pos _ f1
  obtain ⟨v, hv⟩ : ∃ v : Int, v = (if z < 0 then -z else z) := ⟨_, rfl⟩
  obtain ⟨a, ha, a0⟩ : ∃ a : Int, a = (if (0 : Int) < v - M3 then v - M3 else 0) ∧ 0 ≤ a := ⟨_, rfl, by split <;> omega⟩
  have mok : mulOk 7919 (idx + 1) = true := mul_okl (by omega) (by omega)
  have q3 : MP.sizeOk 3 = true := sizeOk_small (by omega)
  have mx : ∀ L : Live, bltD .max false [.int 0, .int (v - M3)] L = some (.int a, L) := fun L => by simp only [bltD, ha]
  have ab : ∀ L : Live, bltD .abs false [.int z] L = some (.int v, L) := fun L => by simp only [bltD, hv]
  refine ⟨.lst [.int a, .int (u + 7919 * (idx + 1)), .int 0], ?_, ⟨_, _, _, rfl, a0, by omega, by omega, by omega, by omega⟩⟩
  have last : evE (T.cx k) (.lst true (.cons (.blt .max false (.cons (.con (.int 0)) (.cons (.bin .sub false (.blt .abs false (.cons (.var 2) .nil)) (.bin .pow false (.con (.int 10)) (.con (.int 18)))) .nil))) (.cons (.bin .add false (.bin .mod false (.var 2) (.con (.int 2305843009213693951))) (.bin .mul false (.con (.int 7919)) (.bin .add false (.var 1) (.con (.int 1))))) (.cons (.con (.int 0)) .nil)))) [some (.lst 0 (ns.map D.int)), some (.int idx), some (.int z)] L = .ok (.ref L.length) (L ++ [.lst [.int a, .int (u + 7919 * (idx + 1)), .int 0]]) := by
    have e1 : evE (T.cx k) (.blt .max false (.cons (.con (.int 0)) (.cons (.bin .sub false (.blt .abs false (.cons (.var 2) .nil)) (.bin .pow false (.con (.int 10)) (.con (.int 18)))) .nil))) [some (.lst 0 (ns.map D.int)), some (.int idx), some (.int z)] L = .ok (.int a) L := by
      have hsub : evE (T.cx k) (.bin .sub false (.blt .abs false (.cons (.var 2) .nil)) (.bin .pow false (.con (.int 10)) (.con (.int 18)))) [some (.lst 0 (ns.map D.int)), some (.int idx), some (.int z)] L = .ok (.int (v - M3)) L := by
        rw [evE]
        have : evE (T.cx k) (.blt .abs false (.cons (.var 2) .nil)) [some (.lst 0 (ns.map D.int)), some (.int idx), some (.int z)] L = .ok (.int v) L := by
          simp [evE, evA, ab, opt]
        rw [this, Res.bind_ok, hM3, Res.bind_ok]
        rfl
      rw [QaO,Qbn,Qaa,Qbo,Qbn,hsub, Qbo,Qbm,Qbp,Qbp,QaP,mx, Qbw]
    have e2 : evE (T.cx k) (.bin .add false (.bin .mod false (.var 2) (.con (.int 2305843009213693951))) (.bin .mul false (.con (.int 7919)) (.bin .add false (.var 1) (.con (.int 1))))) [some (.lst 0 (ns.map D.int)), some (.int idx), some (.int z)] L = .ok (.int (u + 7919 * (idx + 1))) L := by
      have h1 : evE (T.cx k) (.bin .mod false (.var 2) (.con (.int 2305843009213693951))) [some (.lst 0 (ns.map D.int)), some (.int idx), some (.int z)] L = .ok (.int u) L := by
        rw [evE, show evE (T.cx k) (.var 2) [some (.lst 0 (ns.map D.int)), some (.int idx), some (.int z)] L = .ok (.int z) L by simp [evE], Res.bind_ok, hM1, Res.bind_ok, bMod _ _ _ _ f1, hu]
        rfl
      rw [evE, h1]
      simp [evE, opt, bAdd, bMul _ _ _ _ mok]
    rw [evE, evA, e1, Res.bind_ok, evA, e2, Res.bind_ok]
    simp [evE, evA, q3, newL, opt]
  show resOf (evSs (T.cx k) b__law_pool [some (.lst 0 (ns.map D.int)), some (.int idx), none] L) = _
  rw [b__law_pool, ss_asg (d := .int z) (L1 := L) (E' := [some (.lst 0 (ns.map D.int)), some (.int idx), some (.int z)]) hz rfl, ss_ret last]
  simp only [resOf]
end PBc
set_option maxHeartbeats 2000000
/-! QE: small things about live lists (as in PL8, PL9, PLa, PV, PJk, LBa) -/
namespace PBc
open PySem hiding Act
open PySem.Spec PyProof.Rows L2 MP PB
def okT (n : Nat) (ds : List D) : Prop := ∀ d ∈ ds, okB n d = true
theorem okBs_T {n : Nat} : ∀ {ds : List D}, okT n ds → okBs n ds = true
  | [], _ => rfl
  | d :: ds, h => by simp only [okBs, h d List.mem_cons_self, okBs_T (ds := ds) fun x hx => h x (List.mem_cons_of_mem _ hx), Bool.and_self]
theorem clean_list {L L' : Live} {q : Nat} {ds : List D} (h : L'[q]? = some (.lst ds)) (hq : ¬ q < L.length) (hd : okT L.length ds) (hp : ∀ j : Nat, j < L.length → L'[j]? = L[j]?) : cleanR L (.ok (.ref q) L') = .ok (.lst 0 ds) L := by
  simp only [cleanR]
  rw [fz_list h hq (okBs_T hd), cutL_pre _ _ hp]
theorem clean_pure {L L' : Live} {d : D} (hd : okB L.length d = true) (hp : ∀ j : Nat, j < L.length → L'[j]? = L[j]?) : cleanR L (.ok d L') = .ok d L := by
  simp only [cleanR]
  rw [fz_ok hd, cutL_pre _ _ hp]
theorem ok_lst0 {n : Nat} {ds : List D} (h : okT n ds) : okB n (.lst 0 ds) = true := by
  simp only [okB, okBs_T h, Nat.zero_le, decide_true, Bool.and_self]
section
variable {L : Live} {m n a b : Nat} {ds : List D} {x : D}
theorem app_lst (h : L[m]? = some (.lst ds)) (hz : ds.length ≤ 1000) : mthD .append (.ref m) [x] L = some (.non, L.set m (.lst (ds ++ [x]))) := by
  have e : decide (ds.length < sizeLine) = true := decide_eq_true (by rw [sizeLine_eq]; omega)
  simp only [mthD, h, e, if_true]
theorem ty_lst (h : L[m]? = some (.lst ds)) : mthTy .append L (.ref m) = some .list := by simp only [mthTy, h]
theorem lt_of {o : LO} (h : L[m]? = some o) : m < L.length := (List.getElem?_eq_some_iff.mp h).1
theorem get_set {o : LO} (h : m < L.length) : (L.set m o)[m]? = some o := List.getElem?_set_self (by simpa using h)
end
theorem add_lst {L : Live} {n m : Nat} {xs ys : List D} {lv : Bool} (h : xs.length + ys.length ≤ 1000000) : binD .add lv (.lst n xs) (.lst m ys) L = some (newL lv (xs ++ ys) L) := by
  have z : MP.sizeOk (xs.length + ys.length) = true := szO h
  simp only [binD, lstOf, binL, z, if_true]
theorem depthAll_mem : ∀ {ps : List PyData} {p : PyData}, p ∈ ps → p.depth ≤ PyData.depthAll ps
  | [], _, h => by cases h
  | q :: ps, p, h => by
    simp only [PyData.depthAll]
    rcases List.mem_cons.mp h with rfl | h
    · omega
    · have := depthAll_mem h; omega
theorem toPys_mapO {f : D → Option PyData} : ∀ {ds : List D} {ps : List PyData}, toPys ds = some ps → (∀ d p, toPy d = some p → p ∈ ps → f d = some p) → mapO f ds = some ps
  | [], ps, h, _ => by simp only [toPys, Option.some.injEq] at h; subst h; rfl
  | d :: ds, ps, h, g => by
    simp only [toPys] at h
    cases q : toPy d with
    | none => rw [q] at h; cases h
    | some p =>
      rw [q] at h
      simp only at h
      cases q2 : toPys ds with
      | none => rw [q2] at h; cases h
      | some r =>
        rw [q2] at h
        simp only [Option.some.injEq] at h
        subst h
        simp only [mapO, g d p q List.mem_cons_self, toPys_mapO q2 fun d' p' h1 h2 => g d' p' h1 (List.mem_cons_of_mem _ h2)]
theorem view_py (L : Live) : ∀ (n : Nat) (d : D) (p : PyData), toPy d = some p → p.depth < n → view L n d = some p
  | 0, _, _, _, h => by omega
  | n + 1, d, p, h, hd => by
    cases d with
    | tup ds =>
      simp only [toPy] at h
      cases q : toPys ds with
      | none => rw [q] at h; cases h
      | some ps =>
        rw [q] at h
        simp only [Option.some.injEq] at h
        subst h
        simp only [PyData.depth] at hd
        rw [view, toPys_mapO q fun d' p' h1 h2 => view_py L n d' p' h1 (by have := depthAll_mem h2; omega)]
        rfl
    | lst t ds =>
      simp only [toPy] at h
      cases q : toPys ds with
      | none => rw [q] at h; cases h
      | some ps =>
        rw [q] at h
        simp only [Option.some.injEq] at h
        subst h
        simp only [PyData.depth] at hd
        rw [view, toPys_mapO q fun d' p' h1 h2 => view_py L n d' p' h1 (by have := depthAll_mem h2; omega)]
        rfl
    | ref k => simp [toPy] at h
    | _ => simpa [view] using h
theorem pyOf_toPy {L : Live} {d : D} {p : PyData} (h : toPy d = some p) : pyOf L d = some p := by simp [pyOf, h]
theorem noRefs_mem : ∀ {l : List D}, noRefs l = true → ∀ x ∈ l, noRef x = true
  | [], _, x, hx => by cases hx
  | a :: l, h, x, hx => by
    simp only [noRefs, Bool.and_eq_true] at h
    rcases List.mem_cons.mp hx with rfl | hx
    · exact h.1
    · exact noRefs_mem h.2 x hx
theorem lendF_list {L : Live} {n m : Nat} {ds : List D} (h : L[n]? = some (.lst ds)) (hn : noRefs ds = true) : lendF L (m + 2) (.ref n) = some (.lst (n + 1) ds) := by
  rw [lendF]
  simp only [noRef, Bool.false_eq_true, if_false, h]
  rw [mapO_id fun x hx => lendF_noRef L m (by
    have : ∀ (l : List D), noRefs l = true → ∀ x ∈ l, noRef x = true := by
      intro l
      induction l with
      | nil => intro _ x hx; cases hx
      | cons a l ih =>
        intro h x hx
        simp only [noRefs, Bool.and_eq_true] at h
        rcases List.mem_cons.mp hx with rfl | hx
        · exact h.1
        · exact ih h.2 x hx
    exact this ds hn x hx)]
  rfl
theorem idsF_list {L : Live} {n m : Nat} {ds : List D} (h : L[n]? = some (.lst ds)) (hn : noRefs ds = true) : idsF L (m + 1) (.ref n) = [n] := by
  rw [idsF]
  simp only [noRef, Bool.false_eq_true, if_false, h]
  congr 1
  rw [List.flatMap_eq_nil_iff]
  exact fun x hx => idsF_noRef L m (noRefs_mem hn x hx)
theorem set_self {L : Live} {p : Nat} {o : LO} (h : L[p]? = some o) : L.set p o = L := by
  obtain ⟨hp, rfl⟩ := List.getElem?_eq_some_iff.mp h
  simp
theorem evC_1 {c : Cxt} {e : Ex} {E : Ev} {L : Live} {b : Bool} (h : evE c e E L = .ok (.bl b) L) : evC c (.cons e .nil) E L = .ok b L := by
  simp only [evC, h, Res.bind, truD, optV]
  cases b <;> rfl
theorem compL_mapI {w : List (Nat × List D)} {g : Tg} {E : Ev} {e : Ev → Live → Res D} {α : Type} {xs : List α} {f : α → D} {h : α → D} {L : Live} (hw : still L w = true) (hz : xs.length ≤ sizeLine)
    (hs : ∀ x ∈ xs, ∃ E', storeG g (f x) E = some E' ∧ e E' L = .ok (h x) L) : ∀ {acc : List D}, acc.length + xs.length ≤ sizeLine → compL w g E (fun _ L' => .ok true L') e (xs.map f) acc L = .ok (acc ++ xs.map h) L := by
  clear hz
  induction xs with
  | nil => intro acc _; simp [compL, hw]
  | cons x xs ih =>
    intro acc hl
    obtain ⟨E', h1, h2⟩ := hs x List.mem_cons_self
    have hl' : acc.length < sizeLine := by simp at hl; omega
    simp only [List.map_cons, compL, hw, if_true, h1, h2, hl']
    rw [ih (fun y hy => hs y (List.mem_cons_of_mem _ hy)) (by simp at hl ⊢; omega)]
    simp
theorem callW_listM {c : Cxt} {f : Nat} {L : Live} {n : Nat} {ds args : List D} {d : D} (h : L[n]? = some (.lst ds)) (hn : noRefs ds = true) (hl : (c.liv f).headD false = false) (ha : noRefs args = true) (hd : noTag d = true)
    (h3 : c.φ f (.lst (n + 1) ds :: args) (maskL [n] L) = .ok d (maskL [n] L)) : callW c f (.ref n :: args) L = .ok d L := by
  have := callW_lend (c := c) (f := f) (L := L) (X := []) (i := n) (ids := []) (ds := .ref n :: args) (es := .lst (n + 1) ds :: args) (d := d) ?_ ?_ ?_ (by simp) hd (by rw [h3, List.append_nil])
  · rw [List.append_nil] at this; exact this
  · simp only [idsAs, hl, Bool.false_eq_true, if_false, idsF_list (m := 11) h hn, idsAs_noRef L _ args ha, List.append_nil]
  · simp only [lendAs, hl, Bool.false_eq_true, if_false, lendF_list (m := 10) h hn, lendAs_noRef L _ args ha]
  · intro j hj
    rw [List.mem_singleton.mp hj]
    exact (List.getElem?_eq_some_iff.mp h).1
theorem evI_rng1 {c : Cxt} {a : Ex} {E : Ev} {L L1 : Live} {n : Int} (h : evE c a E L = .ok (.int n) L1) (h0 : 0 ≤ n) (h1 : n ≤ 1000000) : evI c (.rng1 a) E L = .ok ((List.range n.toNat).map fun q => D.int (q : Nat), []) L1 := by
  rw [evI, h, Res.bind_ok, rng1_nat h0 h1]
  rfl
end PBc
set_option maxHeartbeats 2000000
/-! QF: bounds: the program's functions -/
namespace PBc
open PySem hiding Act
open PySem.Spec PyProof.Rows L2 MP PB
/-! is_bound: 0=value 1=many -/
def b_is_bound : Ss := (.cons (.ite (.or (.not (.isi (.var 0) .tuple)) (.or (.cmp .ne (.blt .len false (.cons (.var 0) .nil)) (.con (.int 3))) (.not (.call 0 (.cons (.idx (.var 0) (.con (.int 2))) (.cons (.con .non) (.cons (.con .non) .nil))))))) (.cons (.ret (.con (.bl false))) .nil) .nil) (.cons (.ret (.and (.call 0 (.cons (.idx (.var 0) (.con (.int 0))) (.cons (.con (.int 0)) (.cons (.bin .sub false (.var 1) (.con (.int 1))) .nil)))) (.call 0 (.cons (.idx (.var 0) (.con (.int 1))) (.cons (.con (.int 0)) (.cons (.bin .sub false (.var 1) (.con (.int 1))) .nil)))))) .nil))
def f_is_bound : Fn := ⟨2, 2, [], false, b_is_bound⟩

/-! is_bounds: 0=value 1=many 2=.0 3=bound -/
def b_is_bounds_0 : Ex := (.call 170 (.cons (.var 3) (.cons (.var 1) .nil)))
def b_is_bounds : Ss := (.cons (.ite (.or (.not (.call 0 (.cons (.var 1) (.cons (.con (.int 1)) (.cons (.glob (Str.ofString "MOST_NUMBERS") (.int 50)) .nil))))) (.or (.not (.isi (.var 0) .list)) (.cmp .gt (.blt .len false (.cons (.var 0) .nil)) (.glob (Str.ofString "MOST_BOUNDS") (.int 400))))) (.cons (.ret (.con (.bl false))) .nil) .nil) (.cons (.ret (.blt .all false (.cons (.comp false [2, 3] (.slot 3) (.val (.var 0)) .nil b_is_bounds_0) .nil))) .nil))
def f_is_bounds : Fn := ⟨2, 4, [], false, b_is_bounds⟩

/-! require_place: 0=value 1=many -/
def b_require_place : Ss := (.cons (.ite (.not (.call 0 (.cons (.var 0) (.cons (.con (.int 0)) (.cons (.bin .sub false (.var 1) (.con (.int 1))) .nil))))) (.cons .nev .nil) .nil) .nil)
def f_require_place : Fn := ⟨2, 2, [], false, b_require_place⟩

/-! require_bounds: 0=many 1=bounds -/
def b_require_bounds : Ss := (.cons (.ite (.not (.call 0 (.cons (.var 0) (.cons (.con (.int 1)) (.cons (.glob (Str.ofString "MOST_NUMBERS") (.int 50)) .nil))))) (.cons .nev .nil) .nil) (.cons (.ite (.not (.call 171 (.cons (.var 1) (.cons (.var 0) .nil)))) (.cons .nev .nil) .nil) .nil))
def f_require_bounds : Fn := ⟨2, 2, [], false, b_require_bounds⟩

/-! lifted_numbers: 0=bounds 1=begun 2=numbers 3=turn 4=is_changed 5=i 6=j 7=d -/
def b_lifted_numbers_0 : Ss := (.cons (.ite (.and (.cmp .isn (.idx (.var 2) (.var 5)) (.con .non)) (.or (.cmp .is_ (.idx (.var 2) (.var 6)) (.con .non)) (.cmp .lt (.idx (.var 2) (.var 6)) (.bin .add false (.idx (.var 2) (.var 5)) (.var 7))))) (.cons (.asg (.sub (.var 2) (.var 6)) (.bin .add false (.idx (.var 2) (.var 5)) (.var 7))) (.cons (.asg (.nm (.slot 4)) (.con (.bl true))) .nil)) .nil) .nil)
def b_lifted_numbers_1 : Ss := (.cons (.asg (.nm (.slot 4)) (.con (.bl false))) (.cons (.for_ (.tup [(.slot 5), (.slot 6), (.slot 7)]) (.val (.var 0)) b_lifted_numbers_0) (.cons (.ite (.not (.var 4)) (.cons (.ret (.var 2)) .nil) .nil) .nil)))
def b_lifted_numbers : Ss := (.cons (.asg (.nm (.slot 2)) (.blt .list true (.cons (.var 1) .nil))) (.cons (.for_ (.slot 3) (.rng1 (.bin .add false (.blt .len false (.cons (.var 2) .nil)) (.con (.int 1)))) b_lifted_numbers_1) (.cons (.ret (.con .non)) .nil)))
def f_lifted_numbers : Fn := ⟨2, 8, [], true, b_lifted_numbers⟩

/-! least_numbers: 0=many 1=bounds -/
def b_least_numbers : Ss := (.cons (.ex (.call 173 (.cons (.var 0) (.cons (.var 1) .nil)))) (.cons (.ret (.call 174 (.cons (.var 1) (.cons (.bin .mul false (.lst false (.cons (.con (.int 0)) .nil)) (.var 0)) .nil)))) .nil))
def f_least_numbers : Fn := ⟨2, 2, [], false, b_least_numbers⟩

/-! least_difference: 0=many 1=bounds 2=i 3=j 4=.0 5=place -/
def b_least_difference_0 : Ex := (.ite (.cmp .eq (.var 5) (.var 2)) (.con (.int 0)) (.con .non))
def b_least_difference : Ss := (.cons (.ex (.call 173 (.cons (.var 0) (.cons (.var 1) .nil)))) (.cons (.ite (.cmp .is_ (.call 174 (.cons (.var 1) (.cons (.bin .mul false (.lst false (.cons (.con (.int 0)) .nil)) (.var 0)) .nil))) (.con .non)) (.cons .nev .nil) .nil) (.cons (.ex (.call 172 (.cons (.var 2) (.cons (.var 0) .nil)))) (.cons (.ex (.call 172 (.cons (.var 3) (.cons (.var 0) .nil)))) (.cons (.ret (.idx (.call 174 (.cons (.var 1) (.cons (.comp false [4, 5] (.slot 5) (.rng1 (.var 0)) .nil b_least_difference_0) .nil))) (.var 3))) .nil)))))
def f_least_difference : Fn := ⟨4, 6, [], false, b_least_difference⟩

def encBd (b : Bd) : D := .tup [.int b.i, .int b.j, .int b.d]
def encB (t : Nat) (bs : List Bd) : D := .lst t (bs.map encBd)
def numD (x : Nums) : List D := x.map optD
theorem encD_noRef (b : Bd) : noRef (encBd b) = true := rfl
theorem bds_noRef (bs : List Bd) : noRefs (bs.map encBd) = true := noRefs_of fun d hd => by obtain ⟨x, _, rfl⟩ := List.mem_map.mp hd; rfl
@[simp] theorem encB_noRef (t : Nat) (bs : List Bd) : noRef (encB t bs) = true := bds_noRef bs
theorem optD_noRef (o : Option Int) : noRef (optD o) = true := by cases o <;> rfl
theorem num_noRef (x : Nums) : noRefs (numD x) = true := noRefs_of fun d hd => by obtain ⟨o, _, rfl⟩ := List.mem_map.mp hd; exact optD_noRef o
theorem num_len (x : Nums) : (numD x).length = x.length := by simp [numD]
theorem num_at {x : Nums} {i : Nat} (h : i < x.length) : atI (numD x) (i : Int) = some (optD (atO x i)) := by
  refine atI_of ?_
  rw [numD, List.getElem?_map, List.getElem?_eq_getElem h]
  simp [atO, List.getElem?_eq_getElem h]
theorem num_idx {L : Live} {q : Nat} {x : Nums} (h : L[q]? = some (.lst (numD x))) {i : Nat} (hi : i < x.length) : idxD (.ref q) (.int i) L = some (optD (atO x i)) := by
  have : idxD (.ref q) (.int i) L = atI (numD x) i := by simp only [idxD, seqOf, lstOf, h, idxSeq]
  rw [this, num_at hi]
theorem ixN_nat {n j : Nat} (h : j < n) : ixN n (j : Int) = some j := by
  unfold ixN
  rw [if_pos (by omega), if_pos (by omega)]
  rfl
theorem num_set {L : Live} {q : Nat} {x : Nums} (h : L[q]? = some (.lst (numD x))) {j : Nat} (hj : j < x.length) (o : Option Int) : setD (.ref q) (.int j) (optD o) L = some (L.set q (.lst (numD (x.set j o)))) := by
  simp only [setD, h, num_len, ixN_nat hj, Option.map_some]
  simp [numD, List.map_set]
theorem num_ok (n : Nat) (x : Nums) : okT n (numD x) := fun d hd => by obtain ⟨o, _, rfl⟩ := List.mem_map.mp hd; cases o <;> rfl
section
variable {T : Tab} [HasFn T 0 f_is_integer] [HasFn T 170 f_is_bound] [HasFn T 171 f_is_bounds] [HasFn T 172 f_require_place] [HasFn T 173 f_require_bounds] [HasFn T 174 f_lifted_numbers] [HasFn T 175 f_least_numbers] [HasFn T 176 f_least_difference]
theorem c_int {k : Nat} (hk : 1 ≤ k) (i : Int) (lo hi : Option Int) (h1 : ∀ a, lo = some a → a ≤ i) (h2 : ∀ a, hi = some a → i ≤ a) (L : Live) : callW (T.cx k) 0 [.int i, optD lo, optD hi] L = .ok (.bl true) L := by
  rw [callW_pure (by simp [noRefs, noRef, optD_noRef])]
  exact s_is_integer k hk i lo hi h1 h2 L
theorem s_bound {k : Nat} (hk : 2 ≤ k) {b : Bd} {n : Nat} (h1 : b.i < n) (h2 : b.j < n) (L : Live) : (T.cx k).φ 170 [encBd b, .int n] L = .ok (.bl true) L := by
  obtain ⟨k, rfl⟩ : ∃ m, k = m + 1 := ⟨k - 1, by omega⟩
  rw [goH 170 rfl rfl]
  show resOf (evSs (T.cx k) b_is_bound [some (.tup [.int b.i, .int b.j, .int b.d]), some (.int n)] L) = _
  have c1 := c_int (T := T) (k := k) (by omega) b.d none none (by simp) (by simp) L
  have c2 := c_int (T := T) (k := k) (by omega) b.i (some 0) (some ((n : Int) - 1)) (fun a e => by cases e; omega) (fun a e => by cases e; omega) L
  have c3 := c_int (T := T) (k := k) (by omega) b.j (some 0) (some ((n : Int) - 1)) (fun a e => by cases e; omega) (fun a e => by cases e; omega) L
  simp only [optD] at c1 c2 c3
  have l3' : ((3 : Nat) : Int) = 3 := rfl
  have ll : [D.int b.i, .int b.j, .int b.d].length = 3 := rfl
  simp only [b_is_bound, Qaa,Qab,Qac,Qad,Qae,Qaf,Qag,Qah,Qai,Qaj,Qak,Qal,Qam,Qan,Qao,Qap,Qaq,Qar,Qas,Qat,Qau,Qav,Qaw,Qax,Qay,Qaz,QaA,QaB,QaC,QaD,QaE,QaF,QaG,QaH,QaI,QaJ,QaK,QaL,QaM,QaN,QaO,QaP,QaQ,QaR,QaS,QaT,QaU,QaV,QaW,QaX,QaY,QaZ,Qa0,Qa1,Qa2,Qa3,Qa4,Qa5,Qa6,Qa7,Qa8,Qa9,Qba,Qbb,Qbc,Qbd,Qbe,Qbf,Qbg,Qbh,Qbi,Qbj,Qbk,Qbl,Qbm,Qbn,Qbo,Qbp,Qbq,Qbr,Qbs,Qbt,Qbu,Qbv,Qbw,Qbx,Qby,Qbz,QbA,QbB,QbC,QbD,QbE,QbF,QbG,QbH,QbI,QbJ,QbK,QbL,QbM,QbN,QbO,QbP,QbQ,QbR,QbS,QbT,QbU,QbV,QbW,QbX,QbY,QbZ,Qb0,Qb1,Qb2,Qb3,Qb4,Qb5,Qb6,Qb7,Qb8,Qb9,Qca,Qcb,Qcc,Qcd,Qce,Qcf,Qcg,Qch,Qci,Qcj,Qck,Qcl,Qcm,Qcn,Qco,Qcp,Qcq,Qcr,Qcs,Qct,Qcu,Qcv,Qcw,Qcx,Qcy,Qcz,QcA,QcB,QcC,QcD,QcE,QcF,QcG,QcH,QcI,QcJ,QcK,QcL,QcM,QcN,QcO,QcP,QcQ,QcR,QcS,QcT,QcU,QcV,QcW,QcX,QcY,QcZ,Qc0,Qc1,Qc2,Qc3,Qc4,Qc5,Qc6,Qc7,Qc8,Qc9,Qda,Qdb,Qdc,Qdd,Qde,Qdf,Qdg,Qdh,Qdi,Qdj,Qdk,Qdl,Qdm,Qdn,Qdo,Qdp,Qdq,Qdr,Qds,Qdt,Qdu,Qdv,Qdw,Qdx,Qdy,List.getElem?_cons_zero, List.getElem?_cons_succ, List.set_cons_zero, List.set_cons_succ, List.length_cons, List.length_nil, Nat.zero_add, Nat.reduceAdd, Nat.reduceLT, if_true, if_false, Bool.false_eq_true, Bool.not_true, Bool.not_false, List.map_nil, List.map_cons, ll, l3', c1, c2, c3, decide_true, Bool.not_true]
theorem c_bounds {k : Nat} (hk : 3 ≤ k) (t : Nat) {bs : List Bd} {n : Nat} (h1 : 1 ≤ n) (h2 : n ≤ 50) (hl : bs.length ≤ 400) (hi : InB bs n) (L : Live) : callW (T.cx k) 171 [encB t bs, .int n] L = .ok (.bl true) L := by
  rw [callW_pure (by simp [noRefs, noRef])]
  obtain ⟨k, rfl⟩ : ∃ m, k = m + 1 := ⟨k - 1, by omega⟩
  rw [goH 171 rfl rfl]
  show resOf (evSs (T.cx k) b_is_bounds [some (encB t bs), some (.int n), none, none] L) = _
  have c1 := c_int (T := T) (k := k) (by omega) n (some 1) (some 50) (fun a e => by cases e; omega) (fun a e => by cases e; omega) L
  simp only [optD] at c1
  have il : isiD L (encB t bs) .list = some true := rfl
  have ln : bltD .len false [encB t bs] L = some (.int bs.length, L) := by
    show some (D.int ((bs.map encBd).length : Nat), L) = _
    rw [List.length_map]
  have l4 : ¬ (400 < (bs.length : Int)) := by omega
  have io : itemsOf L (encB t bs) = some (bs.map encBd) := rfl
  have wo : watch L (encB t bs) = [] := rfl
  have cm : cmpS (T.cx k) [] (.slot 3) [some (encB t bs), some (.int n), none, none] .nil b_is_bounds_0 (bs.map encBd) [] L = .ok (bs.map fun _ => D.bl true) L := by
    have := compL_mapI (w := []) (g := .slot 3) (E := [some (encB t bs), some (.int n), none, none]) (e := fun E' L' => evE (T.cx k) b_is_bounds_0 E' L') (xs := bs) (f := encBd) (h := fun _ => D.bl true) (L := L) rfl (by rw [sizeLine_eq]; omega)
      (fun b hb => by
        have c := s_bound (T := T) (k := k) (by omega) (hi b hb).1 (hi b hb).2 L
        have c' := (callW_pure (c := T.cx k) (f := 170) (L := L) (show noRefs [encBd b, .int n] = true by rfl)).trans c
        exact ⟨_, rfl, by simp only [b_is_bounds_0, Qaa,Qab,Qac,Qad,Qae,Qaf,Qag,Qah,Qai,Qaj,Qak,Qal,Qam,Qan,Qao,Qap,Qaq,Qar,Qas,Qat,Qau,Qav,Qaw,Qax,Qay,Qaz,QaA,QaB,QaC,QaD,QaE,QaF,QaG,QaH,QaI,QaJ,QaK,QaL,QaM,QaN,QaO,QaP,QaQ,QaR,QaS,QaT,QaU,QaV,QaW,QaX,QaY,QaZ,Qa0,Qa1,Qa2,Qa3,Qa4,Qa5,Qa6,Qa7,Qa8,Qa9,Qba,Qbb,Qbc,Qbd,Qbe,Qbf,Qbg,Qbh,Qbi,Qbj,Qbk,Qbl,Qbm,Qbn,Qbo,Qbp,Qbq,Qbr,Qbs,Qbt,Qbu,Qbv,Qbw,Qbx,Qby,Qbz,QbA,QbB,QbC,QbD,QbE,QbF,QbG,QbH,QbI,QbJ,QbK,QbL,QbM,QbN,QbO,QbP,QbQ,QbR,QbS,QbT,QbU,QbV,QbW,QbX,QbY,QbZ,Qb0,Qb1,Qb2,Qb3,Qb4,Qb5,Qb6,Qb7,Qb8,Qb9,Qca,Qcb,Qcc,Qcd,Qce,Qcf,Qcg,Qch,Qci,Qcj,Qck,Qcl,Qcm,Qcn,Qco,Qcp,Qcq,Qcr,Qcs,Qct,Qcu,Qcv,Qcw,Qcx,Qcy,Qcz,QcA,QcB,QcC,QcD,QcE,QcF,QcG,QcH,QcI,QcJ,QcK,QcL,QcM,QcN,QcO,QcP,QcQ,QcR,QcS,QcT,QcU,QcV,QcW,QcX,QcY,QcZ,Qc0,Qc1,Qc2,Qc3,Qc4,Qc5,Qc6,Qc7,Qc8,Qc9,Qda,Qdb,Qdc,Qdd,Qde,Qdf,Qdg,Qdh,Qdi,Qdj,Qdk,Qdl,Qdm,Qdn,Qdo,Qdp,Qdq,Qdr,Qds,Qdt,Qdu,Qdv,Qdw,Qdx,Qdy,List.getElem?_cons_zero, List.getElem?_cons_succ, List.set_cons_zero, List.set_cons_succ, List.length_cons, List.length_nil, Nat.zero_add, Nat.reduceAdd, Nat.reduceLT, if_true, if_false, Bool.false_eq_true, Bool.not_true, Bool.not_false, List.map_nil, List.map_cons, c']⟩) (acc := []) (by rw [sizeLine_eq]; simp; omega)
    rw [List.nil_append] at this
    exact this
  have al : bltD .all false [.lst 0 (bs.map fun _ => D.bl true)] L = some (.bl true, L) := by
    have : boolsOf (bs.map fun _ => D.bl true) = some (bs.map fun _ => true) := bools_true bs
    simp [bltD, seqOf, lstOf, this]
  simp only [b_is_bounds, Qaa,Qab,Qac,Qad,Qae,Qaf,Qag,Qah,Qai,Qaj,Qak,Qal,Qam,Qan,Qao,Qap,Qaq,Qar,Qas,Qat,Qau,Qav,Qaw,Qax,Qay,Qaz,QaA,QaB,QaC,QaD,QaE,QaF,QaG,QaH,QaI,QaJ,QaK,QaL,QaM,QaN,QaO,QaP,QaQ,QaR,QaS,QaT,QaU,QaV,QaW,QaX,QaY,QaZ,Qa0,Qa1,Qa2,Qa3,Qa4,Qa5,Qa6,Qa7,Qa8,Qa9,Qba,Qbb,Qbc,Qbd,Qbe,Qbf,Qbg,Qbh,Qbi,Qbj,Qbk,Qbl,Qbm,Qbn,Qbo,Qbp,Qbq,Qbr,Qbs,Qbt,Qbu,Qbv,Qbw,Qbx,Qby,Qbz,QbA,QbB,QbC,QbD,QbE,QbF,QbG,QbH,QbI,QbJ,QbK,QbL,QbM,QbN,QbO,QbP,QbQ,QbR,QbS,QbT,QbU,QbV,QbW,QbX,QbY,QbZ,Qb0,Qb1,Qb2,Qb3,Qb4,Qb5,Qb6,Qb7,Qb8,Qb9,Qca,Qcb,Qcc,Qcd,Qce,Qcf,Qcg,Qch,Qci,Qcj,Qck,Qcl,Qcm,Qcn,Qco,Qcp,Qcq,Qcr,Qcs,Qct,Qcu,Qcv,Qcw,Qcx,Qcy,Qcz,QcA,QcB,QcC,QcD,QcE,QcF,QcG,QcH,QcI,QcJ,QcK,QcL,QcM,QcN,QcO,QcP,QcQ,QcR,QcS,QcT,QcU,QcV,QcW,QcX,QcY,QcZ,Qc0,Qc1,Qc2,Qc3,Qc4,Qc5,Qc6,Qc7,Qc8,Qc9,Qda,Qdb,Qdc,Qdd,Qde,Qdf,Qdg,Qdh,Qdi,Qdj,Qdk,Qdl,Qdm,Qdn,Qdo,Qdp,Qdq,Qdr,Qds,Qdt,Qdu,Qdv,Qdw,Qdx,Qdy,List.getElem?_cons_zero, List.getElem?_cons_succ, List.set_cons_zero, List.set_cons_succ, List.length_cons, List.length_nil, Nat.zero_add, Nat.reduceAdd, Nat.reduceLT, if_true, if_false, Bool.false_eq_true, Bool.not_true, Bool.not_false, List.map_nil, List.map_cons, c1, il, ln, l4, io, wo, cm, al, decide_false, Bool.not_true]
theorem c_reqb {k : Nat} (hk : 4 ≤ k) (t : Nat) {bs : List Bd} {n : Nat} (h1 : 1 ≤ n) (h2 : n ≤ 50) (hl : bs.length ≤ 400) (hi : InB bs n) (L : Live) : callW (T.cx k) 173 [.int n, encB t bs] L = .ok .non L := by
  rw [callW_pure (by simp [noRefs, noRef])]
  obtain ⟨k, rfl⟩ : ∃ m, k = m + 1 := ⟨k - 1, by omega⟩
  rw [goH 173 rfl rfl]
  show resOf (evSs (T.cx k) b_require_bounds [some (.int n), some (encB t bs)] L) = _
  have c1 := c_int (T := T) (k := k) (by omega) n (some 1) (some 50) (fun a e => by cases e; omega) (fun a e => by cases e; omega) L
  simp only [optD] at c1
  have c2 := c_bounds (T := T) (k := k) (by omega) t h1 h2 hl hi L
  simp only [b_require_bounds, Qaa,Qab,Qac,Qad,Qae,Qaf,Qag,Qah,Qai,Qaj,Qak,Qal,Qam,Qan,Qao,Qap,Qaq,Qar,Qas,Qat,Qau,Qav,Qaw,Qax,Qay,Qaz,QaA,QaB,QaC,QaD,QaE,QaF,QaG,QaH,QaI,QaJ,QaK,QaL,QaM,QaN,QaO,QaP,QaQ,QaR,QaS,QaT,QaU,QaV,QaW,QaX,QaY,QaZ,Qa0,Qa1,Qa2,Qa3,Qa4,Qa5,Qa6,Qa7,Qa8,Qa9,Qba,Qbb,Qbc,Qbd,Qbe,Qbf,Qbg,Qbh,Qbi,Qbj,Qbk,Qbl,Qbm,Qbn,Qbo,Qbp,Qbq,Qbr,Qbs,Qbt,Qbu,Qbv,Qbw,Qbx,Qby,Qbz,QbA,QbB,QbC,QbD,QbE,QbF,QbG,QbH,QbI,QbJ,QbK,QbL,QbM,QbN,QbO,QbP,QbQ,QbR,QbS,QbT,QbU,QbV,QbW,QbX,QbY,QbZ,Qb0,Qb1,Qb2,Qb3,Qb4,Qb5,Qb6,Qb7,Qb8,Qb9,Qca,Qcb,Qcc,Qcd,Qce,Qcf,Qcg,Qch,Qci,Qcj,Qck,Qcl,Qcm,Qcn,Qco,Qcp,Qcq,Qcr,Qcs,Qct,Qcu,Qcv,Qcw,Qcx,Qcy,Qcz,QcA,QcB,QcC,QcD,QcE,QcF,QcG,QcH,QcI,QcJ,QcK,QcL,QcM,QcN,QcO,QcP,QcQ,QcR,QcS,QcT,QcU,QcV,QcW,QcX,QcY,QcZ,Qc0,Qc1,Qc2,Qc3,Qc4,Qc5,Qc6,Qc7,Qc8,Qc9,Qda,Qdb,Qdc,Qdd,Qde,Qdf,Qdg,Qdh,Qdi,Qdj,Qdk,Qdl,Qdm,Qdn,Qdo,Qdp,Qdq,Qdr,Qds,Qdt,Qdu,Qdv,Qdw,Qdx,Qdy,List.getElem?_cons_zero, List.getElem?_cons_succ, List.set_cons_zero, List.set_cons_succ, List.length_cons, List.length_nil, Nat.zero_add, Nat.reduceAdd, Nat.reduceLT, if_true, if_false, Bool.false_eq_true, Bool.not_true, Bool.not_false, List.map_nil, List.map_cons, c1, c2, Bool.not_true]
theorem c_reqp {k : Nat} (hk : 2 ≤ k) {i n : Nat} (h : i < n) (L : Live) : callW (T.cx k) 172 [.int i, .int n] L = .ok .non L := by
  rw [callW_pure (by simp [noRefs, noRef])]
  obtain ⟨k, rfl⟩ : ∃ m, k = m + 1 := ⟨k - 1, by omega⟩
  rw [goH 172 rfl rfl]
  show resOf (evSs (T.cx k) b_require_place [some (.int i), some (.int n)] L) = _
  have c1 := c_int (T := T) (k := k) (by omega) i (some 0) (some ((n : Int) - 1)) (fun a e => by cases e; omega) (fun a e => by cases e; omega) L
  simp only [optD] at c1
  simp only [b_require_place, Qaa,Qab,Qac,Qad,Qae,Qaf,Qag,Qah,Qai,Qaj,Qak,Qal,Qam,Qan,Qao,Qap,Qaq,Qar,Qas,Qat,Qau,Qav,Qaw,Qax,Qay,Qaz,QaA,QaB,QaC,QaD,QaE,QaF,QaG,QaH,QaI,QaJ,QaK,QaL,QaM,QaN,QaO,QaP,QaQ,QaR,QaS,QaT,QaU,QaV,QaW,QaX,QaY,QaZ,Qa0,Qa1,Qa2,Qa3,Qa4,Qa5,Qa6,Qa7,Qa8,Qa9,Qba,Qbb,Qbc,Qbd,Qbe,Qbf,Qbg,Qbh,Qbi,Qbj,Qbk,Qbl,Qbm,Qbn,Qbo,Qbp,Qbq,Qbr,Qbs,Qbt,Qbu,Qbv,Qbw,Qbx,Qby,Qbz,QbA,QbB,QbC,QbD,QbE,QbF,QbG,QbH,QbI,QbJ,QbK,QbL,QbM,QbN,QbO,QbP,QbQ,QbR,QbS,QbT,QbU,QbV,QbW,QbX,QbY,QbZ,Qb0,Qb1,Qb2,Qb3,Qb4,Qb5,Qb6,Qb7,Qb8,Qb9,Qca,Qcb,Qcc,Qcd,Qce,Qcf,Qcg,Qch,Qci,Qcj,Qck,Qcl,Qcm,Qcn,Qco,Qcp,Qcq,Qcr,Qcs,Qct,Qcu,Qcv,Qcw,Qcx,Qcy,Qcz,QcA,QcB,QcC,QcD,QcE,QcF,QcG,QcH,QcI,QcJ,QcK,QcL,QcM,QcN,QcO,QcP,QcQ,QcR,QcS,QcT,QcU,QcV,QcW,QcX,QcY,QcZ,Qc0,Qc1,Qc2,Qc3,Qc4,Qc5,Qc6,Qc7,Qc8,Qc9,Qda,Qdb,Qdc,Qdd,Qde,Qdf,Qdg,Qdh,Qdi,Qdj,Qdk,Qdl,Qdm,Qdn,Qdo,Qdp,Qdq,Qdr,Qds,Qdt,Qdu,Qdv,Qdw,Qdx,Qdy,List.getElem?_cons_zero, List.getElem?_cons_succ, List.set_cons_zero, List.set_cons_succ, List.length_cons, List.length_nil, Nat.zero_add, Nat.reduceAdd, Nat.reduceLT, if_true, if_false, Bool.false_eq_true, Bool.not_true, Bool.not_false, List.map_nil, List.map_cons, c1, Bool.not_true]
/-! ### the sweeps -/
def chgA : List Bd → Nums → Bool
  | [], _ => false
  | b :: bs, x => chgB x b || chgA bs (stpB x b)
theorem chgA_fix : ∀ {bs : List Bd} {x : Nums}, chgA bs x = false → swpB bs x = x
  | [], x, _ => rfl
  | b :: bs, x, h => by
    simp only [chgA, Bool.or_eq_false_iff] at h
    have e : stpB x b = x := by unfold stpB; rw [h.1]; rfl
    rw [e] at h
    rw [swpB, List.foldl_cons, e]
    exact chgA_fix h.2
theorem fix_chgA {all : List Bd} {x : Nums} (h : Sol all (atO x)) : ∀ {bs : List Bd}, (∀ b ∈ bs, b ∈ all) → chgA bs x = false
  | [], _ => rfl
  | b :: bs, ha => by
    have c := sol_stp h (ha b List.mem_cons_self)
    have e : stpB x b = x := by unfold stpB; rw [c]; rfl
    rw [chgA, c, e]
    exact fix_chgA h fun b hb => ha b (List.mem_cons_of_mem _ hb)
theorem chgA_iff {bs : List Bd} {x : Nums} (hi : InB bs x.length) : chgA bs x = false ↔ swpB bs x = x := ⟨chgA_fix, fun h => fix_chgA (swp_fix hi h) fun _ h => h⟩
theorem lift_body {k : Nat} {R0 R1 : Option D} {q : Nat} {x3 : Option D} {c : Bool} {b : Bd} {L : Live} {x : Nums} (h : L[q]? = some (.lst (numD x))) (h1 : b.i < x.length) (h2 : b.j < x.length) :
    evSs (T.cx k) b_lifted_numbers_0 [R0, R1, some (.ref q), x3, some (.bl c), some (.int b.i), some (.int b.j), some (.int b.d)] L = .fl .nx [R0, R1, some (.ref q), x3, some (.bl (c || chgB x b)), some (.int b.i), some (.int b.j), some (.int b.d)] (L.set q (.lst (numD (stpB x b)))) := by
  have i1 := num_idx h h1
  have i2 := num_idx h h2
  have id : L.set q (.lst (numD x)) = L := set_self h
  unfold stpB chgB
  cases e1 : atO x b.i with
  | none =>
    rw [e1] at i1
    simp only [optD] at i1
    simp only [Bool.false_eq_true, if_false, id, Bool.or_false]
    simp only [b_lifted_numbers_0, Qaa,Qab,Qac,Qad,Qae,Qaf,Qag,Qah,Qai,Qaj,Qak,Qal,Qam,Qan,Qao,Qap,Qaq,Qar,Qas,Qat,Qau,Qav,Qaw,Qax,Qay,Qaz,QaA,QaB,QaC,QaD,QaE,QaF,QaG,QaH,QaI,QaJ,QaK,QaL,QaM,QaN,QaO,QaP,QaQ,QaR,QaS,QaT,QaU,QaV,QaW,QaX,QaY,QaZ,Qa0,Qa1,Qa2,Qa3,Qa4,Qa5,Qa6,Qa7,Qa8,Qa9,Qba,Qbb,Qbc,Qbd,Qbe,Qbf,Qbg,Qbh,Qbi,Qbj,Qbk,Qbl,Qbm,Qbn,Qbo,Qbp,Qbq,Qbr,Qbs,Qbt,Qbu,Qbv,Qbw,Qbx,Qby,Qbz,QbA,QbB,QbC,QbD,QbE,QbF,QbG,QbH,QbI,QbJ,QbK,QbL,QbM,QbN,QbO,QbP,QbQ,QbR,QbS,QbT,QbU,QbV,QbW,QbX,QbY,QbZ,Qb0,Qb1,Qb2,Qb3,Qb4,Qb5,Qb6,Qb7,Qb8,Qb9,Qca,Qcb,Qcc,Qcd,Qce,Qcf,Qcg,Qch,Qci,Qcj,Qck,Qcl,Qcm,Qcn,Qco,Qcp,Qcq,Qcr,Qcs,Qct,Qcu,Qcv,Qcw,Qcx,Qcy,Qcz,QcA,QcB,QcC,QcD,QcE,QcF,QcG,QcH,QcI,QcJ,QcK,QcL,QcM,QcN,QcO,QcP,QcQ,QcR,QcS,QcT,QcU,QcV,QcW,QcX,QcY,QcZ,Qc0,Qc1,Qc2,Qc3,Qc4,Qc5,Qc6,Qc7,Qc8,Qc9,Qda,Qdb,Qdc,Qdd,Qde,Qdf,Qdg,Qdh,Qdi,Qdj,Qdk,Qdl,Qdm,Qdn,Qdo,Qdp,Qdq,Qdr,Qds,Qdt,Qdu,Qdv,Qdw,Qdx,Qdy,List.getElem?_cons_zero, List.getElem?_cons_succ, List.set_cons_zero, List.set_cons_succ, List.length_cons, List.length_nil, Nat.zero_add, Nat.reduceAdd, Nat.reduceLT, if_true, if_false, Bool.false_eq_true, Bool.not_true, Bool.not_false, List.map_nil, List.map_cons, i1, Bool.not_true]
  | some u =>
    rw [e1] at i1
    simp only [optD] at i1
    have sd := num_set h h2 (some (u + b.d))
    simp only [optD] at sd
    cases e2 : atO x b.j with
    | none =>
      rw [e2] at i2
      simp only [optD] at i2
      simp only [if_true, Option.map_some, Bool.or_true]
      simp only [b_lifted_numbers_0, Qaa,Qab,Qac,Qad,Qae,Qaf,Qag,Qah,Qai,Qaj,Qak,Qal,Qam,Qan,Qao,Qap,Qaq,Qar,Qas,Qat,Qau,Qav,Qaw,Qax,Qay,Qaz,QaA,QaB,QaC,QaD,QaE,QaF,QaG,QaH,QaI,QaJ,QaK,QaL,QaM,QaN,QaO,QaP,QaQ,QaR,QaS,QaT,QaU,QaV,QaW,QaX,QaY,QaZ,Qa0,Qa1,Qa2,Qa3,Qa4,Qa5,Qa6,Qa7,Qa8,Qa9,Qba,Qbb,Qbc,Qbd,Qbe,Qbf,Qbg,Qbh,Qbi,Qbj,Qbk,Qbl,Qbm,Qbn,Qbo,Qbp,Qbq,Qbr,Qbs,Qbt,Qbu,Qbv,Qbw,Qbx,Qby,Qbz,QbA,QbB,QbC,QbD,QbE,QbF,QbG,QbH,QbI,QbJ,QbK,QbL,QbM,QbN,QbO,QbP,QbQ,QbR,QbS,QbT,QbU,QbV,QbW,QbX,QbY,QbZ,Qb0,Qb1,Qb2,Qb3,Qb4,Qb5,Qb6,Qb7,Qb8,Qb9,Qca,Qcb,Qcc,Qcd,Qce,Qcf,Qcg,Qch,Qci,Qcj,Qck,Qcl,Qcm,Qcn,Qco,Qcp,Qcq,Qcr,Qcs,Qct,Qcu,Qcv,Qcw,Qcx,Qcy,Qcz,QcA,QcB,QcC,QcD,QcE,QcF,QcG,QcH,QcI,QcJ,QcK,QcL,QcM,QcN,QcO,QcP,QcQ,QcR,QcS,QcT,QcU,QcV,QcW,QcX,QcY,QcZ,Qc0,Qc1,Qc2,Qc3,Qc4,Qc5,Qc6,Qc7,Qc8,Qc9,Qda,Qdb,Qdc,Qdd,Qde,Qdf,Qdg,Qdh,Qdi,Qdj,Qdk,Qdl,Qdm,Qdn,Qdo,Qdp,Qdq,Qdr,Qds,Qdt,Qdu,Qdv,Qdw,Qdx,Qdy,List.getElem?_cons_zero, List.getElem?_cons_succ, List.set_cons_zero, List.set_cons_succ, List.length_cons, List.length_nil, Nat.zero_add, Nat.reduceAdd, Nat.reduceLT, if_true, if_false, Bool.false_eq_true, Bool.not_true, Bool.not_false, List.map_nil, List.map_cons, i1, i2, Bool.not_false, sd]
    | some v =>
      rw [e2] at i2
      simp only [optD] at i2
      by_cases g : v < u + b.d
      · simp only [g, decide_true, if_true, Option.map_some, Bool.or_true]
        simp only [b_lifted_numbers_0, Qaa,Qab,Qac,Qad,Qae,Qaf,Qag,Qah,Qai,Qaj,Qak,Qal,Qam,Qan,Qao,Qap,Qaq,Qar,Qas,Qat,Qau,Qav,Qaw,Qax,Qay,Qaz,QaA,QaB,QaC,QaD,QaE,QaF,QaG,QaH,QaI,QaJ,QaK,QaL,QaM,QaN,QaO,QaP,QaQ,QaR,QaS,QaT,QaU,QaV,QaW,QaX,QaY,QaZ,Qa0,Qa1,Qa2,Qa3,Qa4,Qa5,Qa6,Qa7,Qa8,Qa9,Qba,Qbb,Qbc,Qbd,Qbe,Qbf,Qbg,Qbh,Qbi,Qbj,Qbk,Qbl,Qbm,Qbn,Qbo,Qbp,Qbq,Qbr,Qbs,Qbt,Qbu,Qbv,Qbw,Qbx,Qby,Qbz,QbA,QbB,QbC,QbD,QbE,QbF,QbG,QbH,QbI,QbJ,QbK,QbL,QbM,QbN,QbO,QbP,QbQ,QbR,QbS,QbT,QbU,QbV,QbW,QbX,QbY,QbZ,Qb0,Qb1,Qb2,Qb3,Qb4,Qb5,Qb6,Qb7,Qb8,Qb9,Qca,Qcb,Qcc,Qcd,Qce,Qcf,Qcg,Qch,Qci,Qcj,Qck,Qcl,Qcm,Qcn,Qco,Qcp,Qcq,Qcr,Qcs,Qct,Qcu,Qcv,Qcw,Qcx,Qcy,Qcz,QcA,QcB,QcC,QcD,QcE,QcF,QcG,QcH,QcI,QcJ,QcK,QcL,QcM,QcN,QcO,QcP,QcQ,QcR,QcS,QcT,QcU,QcV,QcW,QcX,QcY,QcZ,Qc0,Qc1,Qc2,Qc3,Qc4,Qc5,Qc6,Qc7,Qc8,Qc9,Qda,Qdb,Qdc,Qdd,Qde,Qdf,Qdg,Qdh,Qdi,Qdj,Qdk,Qdl,Qdm,Qdn,Qdo,Qdp,Qdq,Qdr,Qds,Qdt,Qdu,Qdv,Qdw,Qdx,Qdy,List.getElem?_cons_zero, List.getElem?_cons_succ, List.set_cons_zero, List.set_cons_succ, List.length_cons, List.length_nil, Nat.zero_add, Nat.reduceAdd, Nat.reduceLT, if_true, if_false, Bool.false_eq_true, Bool.not_true, Bool.not_false, List.map_nil, List.map_cons, i1, i2, Bool.not_false, g, decide_true, sd]
      · simp only [g, decide_false, Bool.false_eq_true, if_false, id, Bool.or_false]
        simp only [b_lifted_numbers_0, Qaa,Qab,Qac,Qad,Qae,Qaf,Qag,Qah,Qai,Qaj,Qak,Qal,Qam,Qan,Qao,Qap,Qaq,Qar,Qas,Qat,Qau,Qav,Qaw,Qax,Qay,Qaz,QaA,QaB,QaC,QaD,QaE,QaF,QaG,QaH,QaI,QaJ,QaK,QaL,QaM,QaN,QaO,QaP,QaQ,QaR,QaS,QaT,QaU,QaV,QaW,QaX,QaY,QaZ,Qa0,Qa1,Qa2,Qa3,Qa4,Qa5,Qa6,Qa7,Qa8,Qa9,Qba,Qbb,Qbc,Qbd,Qbe,Qbf,Qbg,Qbh,Qbi,Qbj,Qbk,Qbl,Qbm,Qbn,Qbo,Qbp,Qbq,Qbr,Qbs,Qbt,Qbu,Qbv,Qbw,Qbx,Qby,Qbz,QbA,QbB,QbC,QbD,QbE,QbF,QbG,QbH,QbI,QbJ,QbK,QbL,QbM,QbN,QbO,QbP,QbQ,QbR,QbS,QbT,QbU,QbV,QbW,QbX,QbY,QbZ,Qb0,Qb1,Qb2,Qb3,Qb4,Qb5,Qb6,Qb7,Qb8,Qb9,Qca,Qcb,Qcc,Qcd,Qce,Qcf,Qcg,Qch,Qci,Qcj,Qck,Qcl,Qcm,Qcn,Qco,Qcp,Qcq,Qcr,Qcs,Qct,Qcu,Qcv,Qcw,Qcx,Qcy,Qcz,QcA,QcB,QcC,QcD,QcE,QcF,QcG,QcH,QcI,QcJ,QcK,QcL,QcM,QcN,QcO,QcP,QcQ,QcR,QcS,QcT,QcU,QcV,QcW,QcX,QcY,QcZ,Qc0,Qc1,Qc2,Qc3,Qc4,Qc5,Qc6,Qc7,Qc8,Qc9,Qda,Qdb,Qdc,Qdd,Qde,Qdf,Qdg,Qdh,Qdi,Qdj,Qdk,Qdl,Qdm,Qdn,Qdo,Qdp,Qdq,Qdr,Qds,Qdt,Qdu,Qdv,Qdw,Qdx,Qdy,List.getElem?_cons_zero, List.getElem?_cons_succ, List.set_cons_zero, List.set_cons_succ, List.length_cons, List.length_nil, Nat.zero_add, Nat.reduceAdd, Nat.reduceLT, if_true, if_false, Bool.false_eq_true, Bool.not_true, Bool.not_false, List.map_nil, List.map_cons, i1, i2, Bool.not_false, g, decide_false]
theorem lift_sweep {k : Nat} {R0 R1 : Option D} {q : Nat} {x3 : Option D} : ∀ (bs : List Bd) {c : Bool} {x : Nums} {L : Live} (x5 x6 x7 : Option D), L[q]? = some (.lst (numD x)) → InB bs x.length →
    ∃ y5 y6 y7, forS (T.cx k) [] (.tup [.slot 5, .slot 6, .slot 7]) b_lifted_numbers_0 (bs.map encBd) [R0, R1, some (.ref q), x3, some (.bl c), x5, x6, x7] L = .fl .nx [R0, R1, some (.ref q), x3, some (.bl (c || chgA bs x)), y5, y6, y7] (L.set q (.lst (numD (swpB bs x))))
  | [], c, x, L, x5, x6, x7, h, _ => ⟨x5, x6, x7, by rw [chgA, Bool.or_false]; show SRes.fl _ _ L = _; rw [show swpB [] x = x from rfl, set_self h]⟩
  | b :: bs, c, x, L, x5, x6, x7, h, hi => by
    obtain ⟨h1, h2⟩ := hi b List.mem_cons_self
    have e := lift_body (T := T) (k := k) (R0 := R0) (R1 := R1) (x3 := x3) (c := c) h h1 h2
    have h' : (L.set q (.lst (numD (stpB x b))))[q]? = some (.lst (numD (stpB x b))) := get_set (lt_of h)
    obtain ⟨y5, y6, y7, ih⟩ := lift_sweep bs (c := c || chgB x b) (some (.int b.i)) (some (.int b.j)) (some (.int b.d)) h' (by rw [stp_len]; exact hi.tl)
    have st : ∀ M, still M [] = true := fun _ => rfl
    have sg : storeG (.tup [.slot 5, .slot 6, .slot 7]) (encBd b) [R0, R1, some (.ref q), x3, some (.bl c), x5, x6, x7] = some [R0, R1, some (.ref q), x3, some (.bl c), some (.int b.i), some (.int b.j), some (.int b.d)] := rfl
    refine ⟨y5, y6, y7, ?_⟩
    rw [List.map_cons]
    unfold forS at ih ⊢
    rw [forL, st, if_pos rfl, sg]
    simp only []
    rw [e]
    simp only []
    rw [ih, List.set_set, chgA, Bool.or_assoc]
    rfl
theorem lift_turns {k : Nat} {R1 : Option D} {q : Nat} (t : Nat) (bs : List Bd) : ∀ (ds : List D) {x : Nums} {L : Live} (x3 x4 x5 x6 x7 : Option D), L[q]? = some (.lst (numD x)) → InB bs x.length →
    ∃ (y3 y4 y5 y6 y7 : Option D) (x' : Nums), forS (T.cx k) [] (.slot 3) b_lifted_numbers_1 ds [some (encB t bs), R1, some (.ref q), x3, x4, x5, x6, x7] L = .fl (match lftB bs ds.length x with | some _ => .rt (.ref q) | none => .nx) [some (encB t bs), R1, some (.ref q), y3, y4, y5, y6, y7] (L.set q (.lst (numD x'))) ∧ (∀ y, lftB bs ds.length x = some y → x' = y)
  | [], x, L, x3, x4, x5, x6, x7, h, _ => ⟨x3, x4, x5, x6, x7, x, by rw [set_self h]; rfl, fun y hy => by cases hy⟩
  | d :: ds, x, L, x3, x4, x5, x6, x7, h, hi => by
    obtain ⟨y5, y6, y7, e⟩ := lift_sweep (T := T) (k := k) (R0 := some (encB t bs)) (R1 := R1) (x3 := some d) bs (c := false) x5 x6 x7 h hi
    rw [Bool.false_or] at e
    have st : ∀ M, still M [] = true := fun _ => rfl
    have sg : storeG (.slot 3) d [some (encB t bs), R1, some (.ref q), x3, x4, x5, x6, x7] = some [some (encB t bs), R1, some (.ref q), some d, x4, x5, x6, x7] := rfl
    have io : ∀ M, itemsOf M (encB t bs) = some (bs.map encBd) := fun M => rfl
    have wo : ∀ M, watch M (encB t bs) = [] := fun M => rfl
    have h' : (L.set q (.lst (numD (swpB bs x))))[q]? = some (.lst (numD (swpB bs x))) := get_set (lt_of h)
    have iff := chgA_iff hi
    cases c : chgA bs x with
    | false =>
      rw [c] at e iff
      have fx := iff.mp rfl
      rw [fx, set_self h] at e
      have run : evSs (T.cx k) b_lifted_numbers_1 [some (encB t bs), R1, some (.ref q), some d, x4, x5, x6, x7] L = .fl (.rt (.ref q)) [some (encB t bs), R1, some (.ref q), some d, some (.bl false), y5, y6, y7] L := by
        simp only [b_lifted_numbers_1, Qaa,Qab,Qac,Qad,Qae,Qaf,Qag,Qah,Qai,Qaj,Qak,Qal,Qam,Qan,Qao,Qap,Qaq,Qar,Qas,Qat,Qau,Qav,Qaw,Qax,Qay,Qaz,QaA,QaB,QaC,QaD,QaE,QaF,QaG,QaH,QaI,QaJ,QaK,QaL,QaM,QaN,QaO,QaP,QaQ,QaR,QaS,QaT,QaU,QaV,QaW,QaX,QaY,QaZ,Qa0,Qa1,Qa2,Qa3,Qa4,Qa5,Qa6,Qa7,Qa8,Qa9,Qba,Qbb,Qbc,Qbd,Qbe,Qbf,Qbg,Qbh,Qbi,Qbj,Qbk,Qbl,Qbm,Qbn,Qbo,Qbp,Qbq,Qbr,Qbs,Qbt,Qbu,Qbv,Qbw,Qbx,Qby,Qbz,QbA,QbB,QbC,QbD,QbE,QbF,QbG,QbH,QbI,QbJ,QbK,QbL,QbM,QbN,QbO,QbP,QbQ,QbR,QbS,QbT,QbU,QbV,QbW,QbX,QbY,QbZ,Qb0,Qb1,Qb2,Qb3,Qb4,Qb5,Qb6,Qb7,Qb8,Qb9,Qca,Qcb,Qcc,Qcd,Qce,Qcf,Qcg,Qch,Qci,Qcj,Qck,Qcl,Qcm,Qcn,Qco,Qcp,Qcq,Qcr,Qcs,Qct,Qcu,Qcv,Qcw,Qcx,Qcy,Qcz,QcA,QcB,QcC,QcD,QcE,QcF,QcG,QcH,QcI,QcJ,QcK,QcL,QcM,QcN,QcO,QcP,QcQ,QcR,QcS,QcT,QcU,QcV,QcW,QcX,QcY,QcZ,Qc0,Qc1,Qc2,Qc3,Qc4,Qc5,Qc6,Qc7,Qc8,Qc9,Qda,Qdb,Qdc,Qdd,Qde,Qdf,Qdg,Qdh,Qdi,Qdj,Qdk,Qdl,Qdm,Qdn,Qdo,Qdp,Qdq,Qdr,Qds,Qdt,Qdu,Qdv,Qdw,Qdx,Qdy,List.getElem?_cons_zero, List.getElem?_cons_succ, List.set_cons_zero, List.set_cons_succ, List.length_cons, List.length_nil, Nat.zero_add, Nat.reduceAdd, Nat.reduceLT, if_true, if_false, Bool.false_eq_true, Bool.not_true, Bool.not_false, List.map_nil, List.map_cons, io, wo, e, Bool.not_false]
      refine ⟨some d, some (.bl false), y5, y6, y7, x, ?_, fun y hy => ?_⟩
      · unfold forS
        rw [forL, st, if_pos rfl, sg]
        simp only []
        rw [run, List.length_cons, lftB, if_pos fx, set_self h]
      · rw [List.length_cons, lftB, if_pos fx] at hy; cases hy; rfl
    | true =>
      rw [c] at e iff
      have nf : ¬ swpB bs x = x := fun q => by have := iff.mpr q; cases this
      have run : evSs (T.cx k) b_lifted_numbers_1 [some (encB t bs), R1, some (.ref q), some d, x4, x5, x6, x7] L = .fl .nx [some (encB t bs), R1, some (.ref q), some d, some (.bl true), y5, y6, y7] (L.set q (.lst (numD (swpB bs x)))) := by
        simp only [b_lifted_numbers_1, Qaa,Qab,Qac,Qad,Qae,Qaf,Qag,Qah,Qai,Qaj,Qak,Qal,Qam,Qan,Qao,Qap,Qaq,Qar,Qas,Qat,Qau,Qav,Qaw,Qax,Qay,Qaz,QaA,QaB,QaC,QaD,QaE,QaF,QaG,QaH,QaI,QaJ,QaK,QaL,QaM,QaN,QaO,QaP,QaQ,QaR,QaS,QaT,QaU,QaV,QaW,QaX,QaY,QaZ,Qa0,Qa1,Qa2,Qa3,Qa4,Qa5,Qa6,Qa7,Qa8,Qa9,Qba,Qbb,Qbc,Qbd,Qbe,Qbf,Qbg,Qbh,Qbi,Qbj,Qbk,Qbl,Qbm,Qbn,Qbo,Qbp,Qbq,Qbr,Qbs,Qbt,Qbu,Qbv,Qbw,Qbx,Qby,Qbz,QbA,QbB,QbC,QbD,QbE,QbF,QbG,QbH,QbI,QbJ,QbK,QbL,QbM,QbN,QbO,QbP,QbQ,QbR,QbS,QbT,QbU,QbV,QbW,QbX,QbY,QbZ,Qb0,Qb1,Qb2,Qb3,Qb4,Qb5,Qb6,Qb7,Qb8,Qb9,Qca,Qcb,Qcc,Qcd,Qce,Qcf,Qcg,Qch,Qci,Qcj,Qck,Qcl,Qcm,Qcn,Qco,Qcp,Qcq,Qcr,Qcs,Qct,Qcu,Qcv,Qcw,Qcx,Qcy,Qcz,QcA,QcB,QcC,QcD,QcE,QcF,QcG,QcH,QcI,QcJ,QcK,QcL,QcM,QcN,QcO,QcP,QcQ,QcR,QcS,QcT,QcU,QcV,QcW,QcX,QcY,QcZ,Qc0,Qc1,Qc2,Qc3,Qc4,Qc5,Qc6,Qc7,Qc8,Qc9,Qda,Qdb,Qdc,Qdd,Qde,Qdf,Qdg,Qdh,Qdi,Qdj,Qdk,Qdl,Qdm,Qdn,Qdo,Qdp,Qdq,Qdr,Qds,Qdt,Qdu,Qdv,Qdw,Qdx,Qdy,List.getElem?_cons_zero, List.getElem?_cons_succ, List.set_cons_zero, List.set_cons_succ, List.length_cons, List.length_nil, Nat.zero_add, Nat.reduceAdd, Nat.reduceLT, if_true, if_false, Bool.false_eq_true, Bool.not_true, Bool.not_false, List.map_nil, List.map_cons, io, wo, e, Bool.not_true]
      obtain ⟨z3, z4, z5, z6, z7, x', ih, g⟩ := lift_turns t bs ds (R1 := R1) (some d) (some (.bl true)) y5 y6 y7 h' (by rw [swp_len]; exact hi)
      refine ⟨z3, z4, z5, z6, z7, x', ?_, fun y hy => ?_⟩
      · unfold forS at ih ⊢
        rw [forL, st, if_pos rfl, sg]
        simp only []
        rw [run]
        simp only []
        rw [ih, List.set_set, List.length_cons, lftB, if_neg nf]
      · rw [List.length_cons, lftB, if_neg nf] at hy; exact g y hy
def resN (o : Option Nums) : D := match o with | some y => .lst 0 (numD y) | none => .non
theorem c_lifted {k : Nat} (hk : 1 ≤ k) (t : Nat) {bs : List Bd} {x : Nums} (hx : x.length ≤ 50) (hi : InB bs x.length) (L : Live) : callW (T.cx k) 174 [encB t bs, .lst 0 (numD x)] L = .ok (resN (lftB bs (x.length + 1) x)) L := by
  rw [callW_pure (by simp [noRefs, noRef, num_noRef])]
  obtain ⟨k, rfl⟩ : ∃ m, k = m + 1 := ⟨k - 1, by omega⟩
  rw [goCH 174 rfl rfl]
  show cleanR L (resOf (evSs (T.cx k) b_lifted_numbers [some (encB t bs), some (.lst 0 (numD x)), none, none, none, none, none, none] L)) = _
  have hq : (L ++ [LO.lst (numD x)])[L.length]? = some (.lst (numD x)) := by simp
  have lb : bltD .list true [.lst 0 (numD x)] L = some (.ref L.length, L ++ [.lst (numD x)]) := by simp [bltD, seqOf, lstOf, newL]
  have ln : bltD .len false [.ref L.length] (L ++ [LO.lst (numD x)]) = some (.int x.length, L ++ [.lst (numD x)]) := by
    have : lenD (L ++ [LO.lst (numD x)]) (.ref L.length) = some (x.length : Int) := by simp only [lenD, seqOf, lstOf, hq, num_len]
    simp [bltD, this]
  have rg : rng1D (.int ((x.length : Int) + 1)) = some ((List.range (x.length + 1)).map fun q => D.int (q : Nat)) := by
    rw [rng1_nat (by omega) (by omega)]
    rw [show ((x.length : Int) + 1).toNat = x.length + 1 by omega]
  obtain ⟨y3, y4, y5, y6, y7, x', e, g⟩ := lift_turns (T := T) (k := k) (R1 := some (.lst 0 (numD x))) t bs ((List.range (x.length + 1)).map fun q => D.int (q : Nat)) none none none none none hq hi
  rw [List.length_map, List.length_range] at e g
  cases q : lftB bs (x.length + 1) x with
  | none =>
    rw [q] at e
    have run : resOf (evSs (T.cx k) b_lifted_numbers [some (encB t bs), some (.lst 0 (numD x)), none, none, none, none, none, none] L) = .ok .non ((L ++ [LO.lst (numD x)]).set L.length (.lst (numD x'))) := by
      simp only [b_lifted_numbers, Qaa,Qab,Qac,Qad,Qae,Qaf,Qag,Qah,Qai,Qaj,Qak,Qal,Qam,Qan,Qao,Qap,Qaq,Qar,Qas,Qat,Qau,Qav,Qaw,Qax,Qay,Qaz,QaA,QaB,QaC,QaD,QaE,QaF,QaG,QaH,QaI,QaJ,QaK,QaL,QaM,QaN,QaO,QaP,QaQ,QaR,QaS,QaT,QaU,QaV,QaW,QaX,QaY,QaZ,Qa0,Qa1,Qa2,Qa3,Qa4,Qa5,Qa6,Qa7,Qa8,Qa9,Qba,Qbb,Qbc,Qbd,Qbe,Qbf,Qbg,Qbh,Qbi,Qbj,Qbk,Qbl,Qbm,Qbn,Qbo,Qbp,Qbq,Qbr,Qbs,Qbt,Qbu,Qbv,Qbw,Qbx,Qby,Qbz,QbA,QbB,QbC,QbD,QbE,QbF,QbG,QbH,QbI,QbJ,QbK,QbL,QbM,QbN,QbO,QbP,QbQ,QbR,QbS,QbT,QbU,QbV,QbW,QbX,QbY,QbZ,Qb0,Qb1,Qb2,Qb3,Qb4,Qb5,Qb6,Qb7,Qb8,Qb9,Qca,Qcb,Qcc,Qcd,Qce,Qcf,Qcg,Qch,Qci,Qcj,Qck,Qcl,Qcm,Qcn,Qco,Qcp,Qcq,Qcr,Qcs,Qct,Qcu,Qcv,Qcw,Qcx,Qcy,Qcz,QcA,QcB,QcC,QcD,QcE,QcF,QcG,QcH,QcI,QcJ,QcK,QcL,QcM,QcN,QcO,QcP,QcQ,QcR,QcS,QcT,QcU,QcV,QcW,QcX,QcY,QcZ,Qc0,Qc1,Qc2,Qc3,Qc4,Qc5,Qc6,Qc7,Qc8,Qc9,Qda,Qdb,Qdc,Qdd,Qde,Qdf,Qdg,Qdh,Qdi,Qdj,Qdk,Qdl,Qdm,Qdn,Qdo,Qdp,Qdq,Qdr,Qds,Qdt,Qdu,Qdv,Qdw,Qdx,Qdy,List.getElem?_cons_zero, List.getElem?_cons_succ, List.set_cons_zero, List.set_cons_succ, List.length_cons, List.length_nil, Nat.zero_add, Nat.reduceAdd, Nat.reduceLT, if_true, if_false, Bool.false_eq_true, Bool.not_true, Bool.not_false, List.map_nil, List.map_cons, lb, ln, rg, e]
    rw [run]
    exact clean_pure rfl fun j hj => by rw [List.getElem?_set_ne (by omega), List.getElem?_append_left hj]
  | some y =>
    have := g y q
    subst this
    rw [q] at e
    have run : resOf (evSs (T.cx k) b_lifted_numbers [some (encB t bs), some (.lst 0 (numD x)), none, none, none, none, none, none] L) = .ok (.ref L.length) ((L ++ [LO.lst (numD x)]).set L.length (.lst (numD x'))) := by
      simp only [b_lifted_numbers, Qaa,Qab,Qac,Qad,Qae,Qaf,Qag,Qah,Qai,Qaj,Qak,Qal,Qam,Qan,Qao,Qap,Qaq,Qar,Qas,Qat,Qau,Qav,Qaw,Qax,Qay,Qaz,QaA,QaB,QaC,QaD,QaE,QaF,QaG,QaH,QaI,QaJ,QaK,QaL,QaM,QaN,QaO,QaP,QaQ,QaR,QaS,QaT,QaU,QaV,QaW,QaX,QaY,QaZ,Qa0,Qa1,Qa2,Qa3,Qa4,Qa5,Qa6,Qa7,Qa8,Qa9,Qba,Qbb,Qbc,Qbd,Qbe,Qbf,Qbg,Qbh,Qbi,Qbj,Qbk,Qbl,Qbm,Qbn,Qbo,Qbp,Qbq,Qbr,Qbs,Qbt,Qbu,Qbv,Qbw,Qbx,Qby,Qbz,QbA,QbB,QbC,QbD,QbE,QbF,QbG,QbH,QbI,QbJ,QbK,QbL,QbM,QbN,QbO,QbP,QbQ,QbR,QbS,QbT,QbU,QbV,QbW,QbX,QbY,QbZ,Qb0,Qb1,Qb2,Qb3,Qb4,Qb5,Qb6,Qb7,Qb8,Qb9,Qca,Qcb,Qcc,Qcd,Qce,Qcf,Qcg,Qch,Qci,Qcj,Qck,Qcl,Qcm,Qcn,Qco,Qcp,Qcq,Qcr,Qcs,Qct,Qcu,Qcv,Qcw,Qcx,Qcy,Qcz,QcA,QcB,QcC,QcD,QcE,QcF,QcG,QcH,QcI,QcJ,QcK,QcL,QcM,QcN,QcO,QcP,QcQ,QcR,QcS,QcT,QcU,QcV,QcW,QcX,QcY,QcZ,Qc0,Qc1,Qc2,Qc3,Qc4,Qc5,Qc6,Qc7,Qc8,Qc9,Qda,Qdb,Qdc,Qdd,Qde,Qdf,Qdg,Qdh,Qdi,Qdj,Qdk,Qdl,Qdm,Qdn,Qdo,Qdp,Qdq,Qdr,Qds,Qdt,Qdu,Qdv,Qdw,Qdx,Qdy,List.getElem?_cons_zero, List.getElem?_cons_succ, List.set_cons_zero, List.set_cons_succ, List.length_cons, List.length_nil, Nat.zero_add, Nat.reduceAdd, Nat.reduceLT, if_true, if_false, Bool.false_eq_true, Bool.not_true, Bool.not_false, List.map_nil, List.map_cons, lb, ln, rg, e]
    rw [run]
    exact clean_list (get_set (by simp)) (by omega) (num_ok _ _) fun j hj => by rw [List.getElem?_set_ne (by omega), List.getElem?_append_left hj]
theorem zeros_num (n : Nat) : numD (zerosO n) = List.replicate n (.int 0) := by simp [numD, zerosO, optD]
theorem mul_rep {L : Live} {x : D} {n : Nat} (h : n ≤ 1000) : binD .mul false (.lst 0 [x]) (.int n) L = some (.lst 0 (List.replicate n x), L) := by
  have z : MP.sizeOk ([x].length * ((n : Int)).toNat) = true := szO (by simp; omega)
  have e : (decide (-(2 ^ 63) ≤ (n : Int)) && decide ((n : Int) < 2 ^ 63)) = true := by
    rw [Bool.and_eq_true, decide_eq_true_eq, decide_eq_true_eq]; omega
  simp only [binD, lstOf, binL, e, z, Bool.and_self, if_true, newL]
  simp [List.flatten_replicate_singleton]
theorem c_least {k : Nat} (hk : 5 ≤ k) (t : Nat) {bs : List Bd} {n : Nat} (h1 : 1 ≤ n) (h2 : n ≤ 50) (hl : bs.length ≤ 400) (hi : InB bs n) (L : Live) : (T.cx k).φ 175 [.int n, encB t bs] L = .ok (resN (lftB bs (n + 1) (zerosO n))) L := by
  obtain ⟨k, rfl⟩ : ∃ m, k = m + 1 := ⟨k - 1, by omega⟩
  rw [goH 175 rfl rfl]
  show resOf (evSs (T.cx k) b_least_numbers [some (.int n), some (encB t bs)] L) = _
  have c1 := c_reqb (T := T) (k := k) (by omega) t h1 h2 hl hi L
  have c2 := c_lifted (T := T) (k := k) (by omega) t (bs := bs) (x := zerosO n) (by rw [len_zeros]; exact h2) (by rw [len_zeros]; exact hi) L
  rw [len_zeros, zeros_num] at c2
  have z1 : MP.sizeOk 1 = true := szO (by omega)
  have mr := mul_rep (L := L) (x := .int 0) (n := n) (by omega)
  simp only [b_least_numbers, Qaa,Qab,Qac,Qad,Qae,Qaf,Qag,Qah,Qai,Qaj,Qak,Qal,Qam,Qan,Qao,Qap,Qaq,Qar,Qas,Qat,Qau,Qav,Qaw,Qax,Qay,Qaz,QaA,QaB,QaC,QaD,QaE,QaF,QaG,QaH,QaI,QaJ,QaK,QaL,QaM,QaN,QaO,QaP,QaQ,QaR,QaS,QaT,QaU,QaV,QaW,QaX,QaY,QaZ,Qa0,Qa1,Qa2,Qa3,Qa4,Qa5,Qa6,Qa7,Qa8,Qa9,Qba,Qbb,Qbc,Qbd,Qbe,Qbf,Qbg,Qbh,Qbi,Qbj,Qbk,Qbl,Qbm,Qbn,Qbo,Qbp,Qbq,Qbr,Qbs,Qbt,Qbu,Qbv,Qbw,Qbx,Qby,Qbz,QbA,QbB,QbC,QbD,QbE,QbF,QbG,QbH,QbI,QbJ,QbK,QbL,QbM,QbN,QbO,QbP,QbQ,QbR,QbS,QbT,QbU,QbV,QbW,QbX,QbY,QbZ,Qb0,Qb1,Qb2,Qb3,Qb4,Qb5,Qb6,Qb7,Qb8,Qb9,Qca,Qcb,Qcc,Qcd,Qce,Qcf,Qcg,Qch,Qci,Qcj,Qck,Qcl,Qcm,Qcn,Qco,Qcp,Qcq,Qcr,Qcs,Qct,Qcu,Qcv,Qcw,Qcx,Qcy,Qcz,QcA,QcB,QcC,QcD,QcE,QcF,QcG,QcH,QcI,QcJ,QcK,QcL,QcM,QcN,QcO,QcP,QcQ,QcR,QcS,QcT,QcU,QcV,QcW,QcX,QcY,QcZ,Qc0,Qc1,Qc2,Qc3,Qc4,Qc5,Qc6,Qc7,Qc8,Qc9,Qda,Qdb,Qdc,Qdd,Qde,Qdf,Qdg,Qdh,Qdi,Qdj,Qdk,Qdl,Qdm,Qdn,Qdo,Qdp,Qdq,Qdr,Qds,Qdt,Qdu,Qdv,Qdw,Qdx,Qdy,List.getElem?_cons_zero, List.getElem?_cons_succ, List.set_cons_zero, List.set_cons_succ, List.length_cons, List.length_nil, Nat.zero_add, Nat.reduceAdd, Nat.reduceLT, if_true, if_false, Bool.false_eq_true, Bool.not_true, Bool.not_false, List.map_nil, List.map_cons, c1, z1, mr, c2]
theorem c_diff {k : Nat} (hk : 5 ≤ k) (t : Nat) {bs : List Bd} {n : Nat} (h1 : 1 ≤ n) (h2 : n ≤ 50) (hl : bs.length ≤ 400) (hi : InB bs n) {i j : Nat} (hi' : i < n) (hj : j < n) {z y : Nums} (hz : lftB bs (n + 1) (zerosO n) = some z) (hy : lftB bs (n + 1) (oneO n i) = some y) (yl : y.length = n) (L : Live) :
    (T.cx k).φ 176 [.int n, encB t bs, .int i, .int j] L = .ok (optD (atO y j)) L := by
  obtain ⟨k, rfl⟩ : ∃ m, k = m + 1 := ⟨k - 1, by omega⟩
  rw [goH 176 rfl rfl]
  show resOf (evSs (T.cx k) b_least_difference [some (.int n), some (encB t bs), some (.int i), some (.int j), none, none] L) = _
  have c1 := c_reqb (T := T) (k := k) (by omega) t h1 h2 hl hi L
  have c2 := c_lifted (T := T) (k := k) (by omega) t (bs := bs) (x := zerosO n) (by rw [len_zeros]; exact h2) (by rw [len_zeros]; exact hi) L
  rw [len_zeros, zeros_num, hz] at c2
  have c3 := c_lifted (T := T) (k := k) (by omega) t (bs := bs) (x := oneO n i) (by rw [len_one]; exact h2) (by rw [len_one]; exact hi) L
  rw [len_one, hy] at c3
  simp only [resN] at c2 c3
  have p1 := c_reqp (T := T) (k := k) (by omega) hi' L
  have p2 := c_reqp (T := T) (k := k) (by omega) hj L
  have z1 : MP.sizeOk 1 = true := szO (by omega)
  have mr := mul_rep (L := L) (x := .int 0) (n := n) (by omega)
  have rg : rng1D (.int n) = some ((List.range n).map fun q => D.int (q : Nat)) := by
    rw [rng1_nat (by omega) (by omega), Int.toNat_natCast]
  have cm : cmpS (T.cx k) [] (.slot 5) [some (.int n), some (encB t bs), some (.int i), some (.int j), none, none] .nil b_least_difference_0 ((List.range n).map fun q => D.int (q : Nat)) [] L = .ok (numD (oneO n i)) L := by
    have := compL_mapI (w := []) (g := .slot 5) (E := [some (.int n), some (encB t bs), some (.int i), some (.int j), none, none]) (e := fun E' L' => evE (T.cx k) b_least_difference_0 E' L') (xs := List.range n) (f := fun q => D.int (q : Nat)) (h := fun q => optD (if q = i then some 0 else none)) (L := L) rfl (by rw [sizeLine_eq, List.length_range]; omega)
      (fun q hq => by
        refine ⟨_, rfl, ?_⟩
        by_cases e : q = i
        · subst e
          simp only [b_least_difference_0, Qaa,Qab,Qac,Qad,Qae,Qaf,Qag,Qah,Qai,Qaj,Qak,Qal,Qam,Qan,Qao,Qap,Qaq,Qar,Qas,Qat,Qau,Qav,Qaw,Qax,Qay,Qaz,QaA,QaB,QaC,QaD,QaE,QaF,QaG,QaH,QaI,QaJ,QaK,QaL,QaM,QaN,QaO,QaP,QaQ,QaR,QaS,QaT,QaU,QaV,QaW,QaX,QaY,QaZ,Qa0,Qa1,Qa2,Qa3,Qa4,Qa5,Qa6,Qa7,Qa8,Qa9,Qba,Qbb,Qbc,Qbd,Qbe,Qbf,Qbg,Qbh,Qbi,Qbj,Qbk,Qbl,Qbm,Qbn,Qbo,Qbp,Qbq,Qbr,Qbs,Qbt,Qbu,Qbv,Qbw,Qbx,Qby,Qbz,QbA,QbB,QbC,QbD,QbE,QbF,QbG,QbH,QbI,QbJ,QbK,QbL,QbM,QbN,QbO,QbP,QbQ,QbR,QbS,QbT,QbU,QbV,QbW,QbX,QbY,QbZ,Qb0,Qb1,Qb2,Qb3,Qb4,Qb5,Qb6,Qb7,Qb8,Qb9,Qca,Qcb,Qcc,Qcd,Qce,Qcf,Qcg,Qch,Qci,Qcj,Qck,Qcl,Qcm,Qcn,Qco,Qcp,Qcq,Qcr,Qcs,Qct,Qcu,Qcv,Qcw,Qcx,Qcy,Qcz,QcA,QcB,QcC,QcD,QcE,QcF,QcG,QcH,QcI,QcJ,QcK,QcL,QcM,QcN,QcO,QcP,QcQ,QcR,QcS,QcT,QcU,QcV,QcW,QcX,QcY,QcZ,Qc0,Qc1,Qc2,Qc3,Qc4,Qc5,Qc6,Qc7,Qc8,Qc9,Qda,Qdb,Qdc,Qdd,Qde,Qdf,Qdg,Qdh,Qdi,Qdj,Qdk,Qdl,Qdm,Qdn,Qdo,Qdp,Qdq,Qdr,Qds,Qdt,Qdu,Qdv,Qdw,Qdx,Qdy,List.getElem?_cons_zero, List.getElem?_cons_succ, List.set_cons_zero, List.set_cons_succ, List.length_cons, List.length_nil, Nat.zero_add, Nat.reduceAdd, Nat.reduceLT, if_true, if_false, Bool.false_eq_true, Bool.not_true, Bool.not_false, List.map_nil, List.map_cons, decide_true, if_true, optD]
        · have e' : ¬ ((q : Int) = (i : Nat)) := by omega
          simp only [b_least_difference_0, Qaa,Qab,Qac,Qad,Qae,Qaf,Qag,Qah,Qai,Qaj,Qak,Qal,Qam,Qan,Qao,Qap,Qaq,Qar,Qas,Qat,Qau,Qav,Qaw,Qax,Qay,Qaz,QaA,QaB,QaC,QaD,QaE,QaF,QaG,QaH,QaI,QaJ,QaK,QaL,QaM,QaN,QaO,QaP,QaQ,QaR,QaS,QaT,QaU,QaV,QaW,QaX,QaY,QaZ,Qa0,Qa1,Qa2,Qa3,Qa4,Qa5,Qa6,Qa7,Qa8,Qa9,Qba,Qbb,Qbc,Qbd,Qbe,Qbf,Qbg,Qbh,Qbi,Qbj,Qbk,Qbl,Qbm,Qbn,Qbo,Qbp,Qbq,Qbr,Qbs,Qbt,Qbu,Qbv,Qbw,Qbx,Qby,Qbz,QbA,QbB,QbC,QbD,QbE,QbF,QbG,QbH,QbI,QbJ,QbK,QbL,QbM,QbN,QbO,QbP,QbQ,QbR,QbS,QbT,QbU,QbV,QbW,QbX,QbY,QbZ,Qb0,Qb1,Qb2,Qb3,Qb4,Qb5,Qb6,Qb7,Qb8,Qb9,Qca,Qcb,Qcc,Qcd,Qce,Qcf,Qcg,Qch,Qci,Qcj,Qck,Qcl,Qcm,Qcn,Qco,Qcp,Qcq,Qcr,Qcs,Qct,Qcu,Qcv,Qcw,Qcx,Qcy,Qcz,QcA,QcB,QcC,QcD,QcE,QcF,QcG,QcH,QcI,QcJ,QcK,QcL,QcM,QcN,QcO,QcP,QcQ,QcR,QcS,QcT,QcU,QcV,QcW,QcX,QcY,QcZ,Qc0,Qc1,Qc2,Qc3,Qc4,Qc5,Qc6,Qc7,Qc8,Qc9,Qda,Qdb,Qdc,Qdd,Qde,Qdf,Qdg,Qdh,Qdi,Qdj,Qdk,Qdl,Qdm,Qdn,Qdo,Qdp,Qdq,Qdr,Qds,Qdt,Qdu,Qdv,Qdw,Qdx,Qdy,List.getElem?_cons_zero, List.getElem?_cons_succ, List.set_cons_zero, List.set_cons_succ, List.length_cons, List.length_nil, Nat.zero_add, Nat.reduceAdd, Nat.reduceLT, if_true, if_false, Bool.false_eq_true, Bool.not_true, Bool.not_false, List.map_nil, List.map_cons, e', decide_false, e, if_false, optD]) (acc := []) (by rw [sizeLine_eq, List.length_range]; simp; omega)
    rw [List.nil_append] at this
    rw [numD, oneO, List.map_map]
    exact this
  have ix : idxD (.lst 0 (numD y)) (.int j) L = some (optD (atO y j)) := num_at (by omega)
  simp only [b_least_difference, Qaa,Qab,Qac,Qad,Qae,Qaf,Qag,Qah,Qai,Qaj,Qak,Qal,Qam,Qan,Qao,Qap,Qaq,Qar,Qas,Qat,Qau,Qav,Qaw,Qax,Qay,Qaz,QaA,QaB,QaC,QaD,QaE,QaF,QaG,QaH,QaI,QaJ,QaK,QaL,QaM,QaN,QaO,QaP,QaQ,QaR,QaS,QaT,QaU,QaV,QaW,QaX,QaY,QaZ,Qa0,Qa1,Qa2,Qa3,Qa4,Qa5,Qa6,Qa7,Qa8,Qa9,Qba,Qbb,Qbc,Qbd,Qbe,Qbf,Qbg,Qbh,Qbi,Qbj,Qbk,Qbl,Qbm,Qbn,Qbo,Qbp,Qbq,Qbr,Qbs,Qbt,Qbu,Qbv,Qbw,Qbx,Qby,Qbz,QbA,QbB,QbC,QbD,QbE,QbF,QbG,QbH,QbI,QbJ,QbK,QbL,QbM,QbN,QbO,QbP,QbQ,QbR,QbS,QbT,QbU,QbV,QbW,QbX,QbY,QbZ,Qb0,Qb1,Qb2,Qb3,Qb4,Qb5,Qb6,Qb7,Qb8,Qb9,Qca,Qcb,Qcc,Qcd,Qce,Qcf,Qcg,Qch,Qci,Qcj,Qck,Qcl,Qcm,Qcn,Qco,Qcp,Qcq,Qcr,Qcs,Qct,Qcu,Qcv,Qcw,Qcx,Qcy,Qcz,QcA,QcB,QcC,QcD,QcE,QcF,QcG,QcH,QcI,QcJ,QcK,QcL,QcM,QcN,QcO,QcP,QcQ,QcR,QcS,QcT,QcU,QcV,QcW,QcX,QcY,QcZ,Qc0,Qc1,Qc2,Qc3,Qc4,Qc5,Qc6,Qc7,Qc8,Qc9,Qda,Qdb,Qdc,Qdd,Qde,Qdf,Qdg,Qdh,Qdi,Qdj,Qdk,Qdl,Qdm,Qdn,Qdo,Qdp,Qdq,Qdr,Qds,Qdt,Qdu,Qdv,Qdw,Qdx,Qdy,List.getElem?_cons_zero, List.getElem?_cons_succ, List.set_cons_zero, List.set_cons_succ, List.length_cons, List.length_nil, Nat.zero_add, Nat.reduceAdd, Nat.reduceLT, if_true, if_false, Bool.false_eq_true, Bool.not_true, Bool.not_false, List.map_nil, List.map_cons, c1, z1, mr, c2, p1, p2, rg, cm, c3, ix]
end
end PBc
set_option maxHeartbeats 4000000
namespace Law_k37
open PySem PySem.Spec PyProof.Rows L2 MP PB PBc
def ld : LD := ⟨[(33, 14), (56, 11), (77, 102), (83, 17)], [((Str.ofString "MOST_NUMBERS"), (.int 50)), ((Str.ofString "MOST_BOUNDS"), (.int 400))], [(Str.ofString "isinstance"), (Str.ofString "len"), (Str.ofString "abs"), (Str.ofString "max"), (Str.ofString "min"), (Str.ofString "sum"), (Str.ofString "all"), (Str.ofString "list"), (Str.ofString "tuple"), (Str.ofString "int"), (Str.ofString "bool"), (Str.ofString "repr"), (Str.ofString "range")], [((Str.ofString "is_integer"), 0), ((Str.ofString "is_bound"), 170), ((Str.ofString "is_bounds"), 171), ((Str.ofString "require_place"), 172), ((Str.ofString "require_bounds"), 173), ((Str.ofString "lifted_numbers"), 174), ((Str.ofString "least_numbers"), 175), ((Str.ofString "least_difference"), 176), ((Str.ofString "_law_pool"), 160), ((Str.ofString "_law_draw"), 161), ((Str.ofString "_law_lifted"), 200), ((Str.ofString "_law_bounds"), 201), ((Str.ofString "_law_forced"), 202), ((Str.ofString "_law_pair_right"), 203), ((Str.ofString "_law_looser_right"), 204), ((Str.ofString "law"), 205)], [], true, []⟩

def topM (i j : Nat) : PySem.Stmt := match (PySem.Challenge.pw_holdtap_k37_forced_differences).main.body.getD i (.Pass ⟨0, 0, 0, 0⟩) with | .ClassDef _ _ _ b _ _ _ _ _ _ _ => b.getD j (.Pass ⟨0, 0, 0, 0⟩) | s => s
def top (i : Nat) : PySem.Stmt := (PySem.Challenge.pw_holdtap_k37_forced_differences).main.body.getD i (.Pass ⟨0, 0, 0, 0⟩)
/-! _law_lifted: 0=_law_bounds_here 1=_law_begun 2=_law_numbers 3=_law_turn 4=_law_kept 5=_law_i 6=_law_j 7=_law_d -/
def b__law_lifted_0 : Ss := (.cons (.asg (.sub (.var 2) (.var 6)) (.blt .max false (.cons (.idx (.var 2) (.var 6)) (.cons (.bin .add false (.idx (.var 2) (.var 5)) (.var 7)) .nil)))) .nil)
def b__law_lifted_1 : Ss := (.cons (.asg (.nm (.slot 4)) (.blt .list false (.cons (.var 2) .nil))) (.cons (.for_ (.tup [(.slot 5), (.slot 6), (.slot 7)]) (.val (.var 0)) b__law_lifted_0) (.cons (.ite (.cmp .eq (.var 2) (.var 4)) (.cons (.ret (.var 2)) .nil) .nil) .nil)))
def b__law_lifted : Ss := (.cons (.asg (.nm (.slot 2)) (.blt .list false (.cons (.var 1) .nil))) (.cons (.for_ (.slot 3) (.rng1 (.bin .add false (.blt .len false (.cons (.var 2) .nil)) (.con (.int 1)))) b__law_lifted_1) (.cons (.ret (.con .non)) .nil)))
def f__law_lifted : Fn := ⟨2, 8, [], false, b__law_lifted⟩

/-! _law_bounds: 0=_law_pool_here 1=_law_many 2=_law_size 3=_law_top 4=_law_turn 5=_law_fine 6=_law_found 7=_law_i 8=_law_j 9=.0 -/
def b__law_bounds_0 : Ex := (.call 161 (.cons (.var 0) (.cons (.var 3) .nil)))
def b__law_bounds_1 : Ss := (.cons (.par [7, 8] (.cons (.call 161 (.cons (.var 0) (.cons (.var 1) .nil))) (.cons (.call 161 (.cons (.var 0) (.cons (.var 1) .nil))) .nil))) (.cons (.ex (.mth .append (.var 6) (.cons (.tup (.cons (.var 7) (.cons (.var 8) (.cons (.bin .sub false (.bin .sub false (.idx (.var 5) (.var 8)) (.idx (.var 5) (.var 7))) (.idx (.lst false (.cons (.con (.int 0)) (.cons (.call 161 (.cons (.var 0) (.cons (.con (.int 3)) .nil))) (.cons (.call 161 (.cons (.var 0) (.cons (.var 3) .nil))) .nil)))) (.call 161 (.cons (.var 0) (.cons (.con (.int 3)) .nil))))) .nil)))) .nil))) .nil))
def b__law_bounds : Ss := (.cons (.asg (.nm (.slot 3)) (.idx (.lst false (.cons (.con (.int 2)) (.cons (.con (.int 9)) (.cons (.bin .pow false (.con (.int 10)) (.con (.int 30))) .nil)))) (.call 161 (.cons (.var 0) (.cons (.con (.int 3)) .nil))))) (.cons (.par [5, 6] (.cons (.comp false [9, 4] (.slot 4) (.rng1 (.var 1)) .nil b__law_bounds_0) (.cons (.lst true .nil) .nil))) (.cons (.for_ (.slot 4) (.rng1 (.var 2)) b__law_bounds_1) (.cons (.ret (.var 6)) .nil))))
def f__law_bounds : Fn := ⟨3, 10, [true], false, b__law_bounds⟩

/-! _law_forced: 0=_law_many 1=_law_bounds_here 2=_law_i 3=_law_found 4=_law_turn 5=_law_kept 6=_law_first 7=_law_last 8=_law_d -/
def b__law_forced_0 : Ss := (.cons (.ite (.and (.cmp .isn (.idx (.var 3) (.var 6)) (.con .non)) (.or (.cmp .is_ (.idx (.var 3) (.var 7)) (.con .non)) (.cmp .gt (.bin .add false (.idx (.var 3) (.var 6)) (.var 8)) (.idx (.var 3) (.var 7))))) (.cons (.asg (.sub (.var 3) (.var 7)) (.bin .add false (.idx (.var 3) (.var 6)) (.var 8))) .nil) .nil) .nil)
def b__law_forced_1 : Ss := (.cons (.asg (.nm (.slot 5)) (.blt .list false (.cons (.var 3) .nil))) (.cons (.for_ (.tup [(.slot 6), (.slot 7), (.slot 8)]) (.val (.var 1)) b__law_forced_0) (.cons (.ite (.cmp .eq (.var 3) (.var 5)) (.cons (.ret (.var 3)) .nil) .nil) .nil)))
def b__law_forced : Ss := (.cons (.asg (.nm (.slot 3)) (.bin .mul true (.lst true (.cons (.con .non) .nil)) (.var 0))) (.cons (.asg (.sub (.var 3) (.var 2)) (.con (.int 0))) (.cons (.for_ (.slot 4) (.rng1 (.var 0)) b__law_forced_1) (.cons (.ret (.var 3)) .nil))))
def f__law_forced : Fn := ⟨3, 9, [], true, b__law_forced⟩

/-! _law_pair_right: 0=_law_pool_here 1=_law_many 2=_law_bounds_here 3=_law_i 4=_law_j 5=_law_due 6=_law_kept 7=_law_more 8=_law_step 9=_law_least 10=_law_told 11=_law_third 12=_law_rows -/
def b__law_pair_right_0 : Ss := (.cons (.asg (.nm (.slot 9)) (.ite (.cmp .is_ (.idx (.var 5) (.var 4)) (.con .non)) (.bin .mul false (.var 8) (.bin .pow false (.con (.int 10)) (.con (.int 29)))) (.bin .add false (.idx (.var 5) (.var 4)) (.var 8)))) (.cons (.asg (.nm (.slot 10)) (.call 175 (.cons (.var 1) (.cons (.bin .add false (.var 2) (.lst false (.cons (.tup (.cons (.var 4) (.cons (.var 3) (.cons (.bin .sub false (.con (.int 0)) (.var 9)) .nil)))) .nil))) .nil)))) (.cons (.ite (.cmp .ne (.cmp .is_ (.var 10) (.con .non)) (.and (.cmp .isn (.idx (.var 5) (.var 4)) (.con .non)) (.cmp .lt (.var 8) (.con (.int 0))))) (.cons (.ret (.con (.bl false))) .nil) .nil) .nil)))
def b__law_pair_right : Ss := (.cons (.par [3, 4] (.cons (.call 161 (.cons (.var 0) (.cons (.var 1) .nil))) (.cons (.call 161 (.cons (.var 0) (.cons (.var 1) .nil))) .nil))) (.cons (.par [5, 6] (.cons (.call 202 (.cons (.var 1) (.cons (.var 2) (.cons (.var 3) .nil)))) (.cons (.blt .repr false (.cons (.var 2) .nil)) .nil))) (.cons (.ite (.or (.cmp .ne (.blt .repr false (.cons (.call 176 (.cons (.var 1) (.cons (.var 2) (.cons (.var 3) (.cons (.var 4) .nil))))) .nil)) (.blt .repr false (.cons (.idx (.var 5) (.var 4)) .nil))) (.cmp .ne (.blt .repr false (.cons (.var 2) .nil)) (.var 6))) (.cons (.ret (.con (.bl false))) .nil) .nil) (.cons (.ite (.cmp .ne (.call 176 (.cons (.var 1) (.cons (.var 2) (.cons (.var 3) (.cons (.var 3) .nil))))) (.con (.int 0))) (.cons (.ret (.con (.bl false))) .nil) .nil) (.cons (.ite (.cmp .eq (.blt .len false (.cons (.var 2) .nil)) (.con (.int 400))) (.cons (.ret (.con (.bl true))) .nil) .nil) (.cons (.asg (.nm (.slot 7)) (.idx (.lst false (.cons (.lst false (.cons (.neg (.con (.int 40))) (.cons (.con (.int 0)) (.cons (.con (.int 40)) .nil)))) (.cons (.lst false (.cons (.neg (.con (.int 1))) (.cons (.con (.int 0)) .nil))) .nil))) (.blt .int false (.cons (.cmp .isn (.idx (.var 5) (.var 4)) (.con .non)) .nil)))) (.cons (.for_ (.slot 8) (.val (.var 7)) b__law_pair_right_0) (.cons (.asg (.nm (.slot 11)) (.call 161 (.cons (.var 0) (.cons (.var 1) .nil)))) (.cons (.asg (.nm (.slot 12)) (.lst false (.cons (.call 176 (.cons (.var 1) (.cons (.var 2) (.cons (.var 3) (.cons (.var 11) .nil))))) (.cons (.call 176 (.cons (.var 1) (.cons (.var 2) (.cons (.var 11) (.cons (.var 4) .nil))))) .nil)))) (.cons (.ret (.or (.cmp .in_ (.con .non) (.var 12)) (.and (.cmp .isn (.idx (.var 5) (.var 4)) (.con .non)) (.cmp .ge (.idx (.var 5) (.var 4)) (.blt .sum false (.cons (.var 12) .nil)))))) .nil))))))))))
def f__law_pair_right : Fn := ⟨3, 13, [true], false, b__law_pair_right⟩

/-! _law_looser_right: 0=_law_pool_here 1=_law_many 2=_law_bounds_here 3=_law_spot 4=_law_i 5=_law_j 6=_law_d -/
def b__law_looser_right : Ss := (.cons (.asg (.nm (.slot 3)) (.call 161 (.cons (.var 0) (.cons (.blt .len false (.cons (.var 2) .nil)) .nil)))) (.cons (.asg (.nm (.tup [(.slot 4), (.slot 5), (.slot 6)])) (.mth .pop (.var 2) (.cons (.var 3) .nil))) (.cons (.ex (.mth .insert (.var 2) (.cons (.var 3) (.cons (.tup (.cons (.var 4) (.cons (.var 5) (.cons (.bin .sub false (.bin .sub false (.var 6) (.con (.int 1))) (.call 161 (.cons (.var 0) (.cons (.con (.int 9)) .nil)))) .nil)))) .nil)))) (.cons (.ret (.cmp .eq (.blt .repr false (.cons (.call 176 (.cons (.var 1) (.cons (.var 2) (.cons (.var 4) (.cons (.var 5) .nil))))) .nil)) (.blt .repr false (.cons (.idx (.call 202 (.cons (.var 1) (.cons (.var 2) (.cons (.var 4) .nil)))) (.var 5)) .nil)))) .nil))))
def f__law_looser_right : Fn := ⟨3, 7, [true, false, true], false, b__law_looser_right⟩

/-! law: 0=_law_script 1=_law_at 2=_law_pool_here 3=_law_many 4=_law_sizes 5=_law_bounds_here 6=_law_turn 7=_law_chain 8=.0 9=_law_spot -/
def b_law_0 : Ss := (.cons (.ite (.not (.call 203 (.cons (.var 2) (.cons (.var 3) (.cons (.var 5) .nil))))) (.cons (.ret (.con (.bl false))) .nil) .nil) .nil)
def b_law_1 : Ss := (.cons (.asg (.nm (.slot 4)) (.lst false (.cons (.call 161 (.cons (.var 2) (.cons (.con (.int 7)) .nil))) (.cons (.var 3) (.cons (.bin .mul false (.con (.int 2)) (.var 3)) (.cons (.idx (.lst false (.cons (.con (.int 400)) (.cons (.con (.int 50)) .nil))) (.blt .int false (.cons (.cmp .gt (.var 1) (.con (.int 0))) .nil))) .nil)))))) (.cons (.asg (.nm (.slot 5)) (.call 201 (.cons (.var 2) (.cons (.var 3) (.cons (.idx (.var 4) (.call 161 (.cons (.var 2) (.cons (.con (.int 4)) .nil)))) .nil))))) (.cons (.for_ (.slot 6) (.rng1 (.con (.int 3))) b_law_0) (.cons (.ite (.and (.cmp .ne (.var 5) (.lst false .nil)) (.not (.call 204 (.cons (.var 2) (.cons (.var 3) (.cons (.var 5) .nil)))))) (.cons (.ret (.con (.bl false))) .nil) .nil) .nil))))
def b_law_2 : Ss := (.cons (.asg (.nm (.slot 2)) (.call 160 (.cons (.var 0) (.cons (.var 1) .nil)))) (.cons (.for_ (.slot 3) (.val (.lst false (.cons (.bin .add false (.con (.int 1)) (.call 161 (.cons (.var 2) (.cons (.con (.int 3)) .nil)))) (.cons (.bin .add false (.con (.int 2)) (.call 161 (.cons (.var 2) (.cons (.con (.int 9)) .nil)))) (.cons (.idx (.lst false (.cons (.con (.int 50)) (.cons (.con (.int 20)) .nil))) (.blt .int false (.cons (.or (.cmp .gt (.var 1) (.con (.int 0))) (.cmp .gt (.blt .len false (.cons (.var 0) .nil)) (.con (.int 1)))) .nil))) .nil))))) b_law_1) .nil))
def b_law_3 : Ex := (.tup (.cons (.var 9) (.cons (.bin .add false (.var 9) (.con (.int 1))) (.cons (.bin .sub false (.con (.int 2)) (.var 9)) .nil))))
def b_law : Ss := (.cons (.for_ (.slot 1) (.rng1 (.blt .max false (.cons (.con (.int 1)) (.cons (.blt .min false (.cons (.con (.int 6)) (.cons (.blt .len false (.cons (.var 0) .nil)) .nil))) .nil)))) b_law_2) (.cons (.asg (.nm (.slot 7)) (.rev false (.comp false [8, 9] (.slot 9) (.rng1 (.con (.int 49))) .nil b_law_3))) (.cons (.ite (.cmp .ne (.lst false (.cons (.call 176 (.cons (.con (.int 50)) (.cons (.var 7) (.cons (.con (.int 0)) (.cons (.con (.int 49)) .nil))))) (.cons (.call 176 (.cons (.con (.int 50)) (.cons (.var 7) (.cons (.con (.int 3)) (.cons (.con (.int 5)) .nil))))) .nil))) (.lst false (.cons (.bin .sub false (.con (.int 98)) (.con (.int 1176))) (.cons (.neg (.con (.int 3))) .nil)))) (.cons (.ret (.con (.bl false))) .nil) .nil) (.cons (.ret (.cmp .eq (.lst false (.cons (.call 176 (.cons (.con (.int 50)) (.cons (.var 7) (.cons (.con (.int 5)) (.cons (.con (.int 3)) .nil))))) (.cons (.call 176 (.cons (.con (.int 1)) (.cons (.lst false (.cons (.tup (.cons (.con (.int 0)) (.cons (.con (.int 0)) (.cons (.neg (.con (.int 5))) .nil)))) .nil)) (.cons (.con (.int 0)) (.cons (.con (.int 0)) .nil))))) .nil))) (.lst false (.cons (.con .non) (.cons (.con (.int 0)) .nil))))) .nil))))
def f_law : Fn := ⟨1, 10, [], false, b_law⟩

def d_is_integer : Dn := ⟨0, (Str.ofString "is_integer"), none, top 5, [(Str.ofString "value"), (Str.ofString "first"), (Str.ofString "last")], f_is_integer⟩
def d_is_bound : Dn := ⟨170, (Str.ofString "is_bound"), none, top 9, [(Str.ofString "value"), (Str.ofString "many")], f_is_bound⟩
def d_is_bounds : Dn := ⟨171, (Str.ofString "is_bounds"), none, top 10, [(Str.ofString "value"), (Str.ofString "many"), (Str.ofString ".0"), (Str.ofString "bound")], f_is_bounds⟩
def d_require_place : Dn := ⟨172, (Str.ofString "require_place"), none, top 11, [(Str.ofString "value"), (Str.ofString "many")], f_require_place⟩
def d_require_bounds : Dn := ⟨173, (Str.ofString "require_bounds"), none, top 12, [(Str.ofString "many"), (Str.ofString "bounds")], f_require_bounds⟩
def d_lifted_numbers : Dn := ⟨174, (Str.ofString "lifted_numbers"), none, top 13, [(Str.ofString "bounds"), (Str.ofString "begun"), (Str.ofString "numbers"), (Str.ofString "turn"), (Str.ofString "is_changed"), (Str.ofString "i"), (Str.ofString "j"), (Str.ofString "d")], f_lifted_numbers⟩
def d_least_numbers : Dn := ⟨175, (Str.ofString "least_numbers"), none, top 14, [(Str.ofString "many"), (Str.ofString "bounds")], f_least_numbers⟩
def d_least_difference : Dn := ⟨176, (Str.ofString "least_difference"), none, top 15, [(Str.ofString "many"), (Str.ofString "bounds"), (Str.ofString "i"), (Str.ofString "j"), (Str.ofString ".0"), (Str.ofString "place")], f_least_difference⟩
def d__law_pool : Dn := ⟨160, (Str.ofString "_law_pool"), none, top 17, [(Str.ofString "_law_script"), (Str.ofString "_law_at"), (Str.ofString "_law_cell")], f__law_pool⟩
def d__law_draw : Dn := ⟨161, (Str.ofString "_law_draw"), none, top 18, [(Str.ofString "_law_pool_here"), (Str.ofString "_law_many"), (Str.ofString "_law_drawn"), (Str.ofString "_law_mixed")], f__law_draw⟩
def d__law_lifted : Dn := ⟨200, (Str.ofString "_law_lifted"), none, top 19, [(Str.ofString "_law_bounds_here"), (Str.ofString "_law_begun"), (Str.ofString "_law_numbers"), (Str.ofString "_law_turn"), (Str.ofString "_law_kept"), (Str.ofString "_law_i"), (Str.ofString "_law_j"), (Str.ofString "_law_d")], f__law_lifted⟩
def d__law_bounds : Dn := ⟨201, (Str.ofString "_law_bounds"), none, top 20, [(Str.ofString "_law_pool_here"), (Str.ofString "_law_many"), (Str.ofString "_law_size"), (Str.ofString "_law_top"), (Str.ofString "_law_turn"), (Str.ofString "_law_fine"), (Str.ofString "_law_found"), (Str.ofString "_law_i"), (Str.ofString "_law_j"), (Str.ofString ".0")], f__law_bounds⟩
def d__law_forced : Dn := ⟨202, (Str.ofString "_law_forced"), none, top 21, [(Str.ofString "_law_many"), (Str.ofString "_law_bounds_here"), (Str.ofString "_law_i"), (Str.ofString "_law_found"), (Str.ofString "_law_turn"), (Str.ofString "_law_kept"), (Str.ofString "_law_first"), (Str.ofString "_law_last"), (Str.ofString "_law_d")], f__law_forced⟩
def d__law_pair_right : Dn := ⟨203, (Str.ofString "_law_pair_right"), none, top 22, [(Str.ofString "_law_pool_here"), (Str.ofString "_law_many"), (Str.ofString "_law_bounds_here"), (Str.ofString "_law_i"), (Str.ofString "_law_j"), (Str.ofString "_law_due"), (Str.ofString "_law_kept"), (Str.ofString "_law_more"), (Str.ofString "_law_step"), (Str.ofString "_law_least"), (Str.ofString "_law_told"), (Str.ofString "_law_third"), (Str.ofString "_law_rows")], f__law_pair_right⟩
def d__law_looser_right : Dn := ⟨204, (Str.ofString "_law_looser_right"), none, top 23, [(Str.ofString "_law_pool_here"), (Str.ofString "_law_many"), (Str.ofString "_law_bounds_here"), (Str.ofString "_law_spot"), (Str.ofString "_law_i"), (Str.ofString "_law_j"), (Str.ofString "_law_d")], f__law_looser_right⟩
def d_law : Dn := ⟨205, (Str.ofString "law"), none, top 24, [(Str.ofString "_law_script"), (Str.ofString "_law_at"), (Str.ofString "_law_pool_here"), (Str.ofString "_law_many"), (Str.ofString "_law_sizes"), (Str.ofString "_law_bounds_here"), (Str.ofString "_law_turn"), (Str.ofString "_law_chain"), (Str.ofString ".0"), (Str.ofString "_law_spot")], f_law⟩
def dns : List Dn := [d_is_integer, d_is_bound, d_is_bounds, d_require_place, d_require_bounds, d_lifted_numbers, d_least_numbers, d_least_difference, d__law_pool, d__law_draw, d__law_lifted, d__law_bounds, d__law_forced, d__law_pair_right, d__law_looser_right, d_law]
def gns : List Gdn := []
def dds : List He.DefD := dns.map Dn.dd
def T : Tab := tabC dns ld.cl 1000
instance T_is_integer : HasFn T 0 f_is_integer := ⟨rfl⟩
instance T_is_bound : HasFn T 170 f_is_bound := ⟨rfl⟩
instance T_is_bounds : HasFn T 171 f_is_bounds := ⟨rfl⟩
instance T_require_place : HasFn T 172 f_require_place := ⟨rfl⟩
instance T_require_bounds : HasFn T 173 f_require_bounds := ⟨rfl⟩
instance T_lifted_numbers : HasFn T 174 f_lifted_numbers := ⟨rfl⟩
instance T_least_numbers : HasFn T 175 f_least_numbers := ⟨rfl⟩
instance T_least_difference : HasFn T 176 f_least_difference := ⟨rfl⟩
instance T__law_pool : HasFn T 160 f__law_pool := ⟨rfl⟩
instance T__law_draw : HasFn T 161 f__law_draw := ⟨rfl⟩
instance T__law_lifted : HasFn T 200 f__law_lifted := ⟨rfl⟩
instance T__law_bounds : HasFn T 201 f__law_bounds := ⟨rfl⟩
instance T__law_forced : HasFn T 202 f__law_forced := ⟨rfl⟩
instance T__law_pair_right : HasFn T 203 f__law_pair_right := ⟨rfl⟩
instance T__law_looser_right : HasFn T 204 f__law_looser_right := ⟨rfl⟩
instance T_law : HasFn T 205 f_law := ⟨rfl⟩
end Law_k37
set_option maxHeartbeats 4000000
namespace Law_k37
open PySem hiding Act
open PySem.Spec PyProof.Rows L2 MP PB PBc
/-! ### lists of numbers compared -/
def pyO : Option Int → PyData | none => .none | some i => .int i
def pyN (x : Nums) : PyData := .list (x.map pyO)
theorem pyO_py (o : Option Int) : toPy (optD o) = some (pyO o) := by cases o <;> rfl
theorem pyN_py (t : Nat) (x : Nums) : toPy (.lst t (numD x)) = some (pyN x) := by simp [numD, toPy, toPys_map pyO_py, pyN]
theorem pyN_sh : ∀ x : Nums, PyData.canLayAll0 (x.map pyO) = true ∧ PyData.depthAll (x.map pyO) = 0
  | [] => ⟨rfl, rfl⟩
  | o :: x => by
    obtain ⟨h1, h2⟩ := pyN_sh x
    cases o <;> simp [pyO, PyData.canLayAll0, PyData.canLay0, PyData.depthAll, PyData.depth, h1, h2]
theorem pyN_eq : ∀ x y : Nums, PyData.eqvAll (x.map pyO) (y.map pyO) = decide (x = y)
  | [], [] => rfl
  | [], o :: y => by simp [PyData.eqvAll]
  | o :: x, [] => by simp [PyData.eqvAll]
  | o :: x, u :: y => by
    have ih := pyN_eq x y
    simp only [List.map_cons, PyData.eqvAll, ih]
    cases o with
    | none => cases u with
      | none => simp [pyO, PyData.eqv]
      | some b => simp [pyO, PyData.eqv]
    | some a => cases u with
      | none => simp [pyO, PyData.eqv]
      | some b =>
        simp only [pyO, PyData.eqv]
        by_cases q : a = b
        · subst q; simp
        · simp [q]
theorem num_view {L : Live} {q : Nat} {x : Nums} (h : L[q]? = some (.lst (numD x))) : pyOf L (.ref q) = some (pyN x) := by
  have e : mapO (MP.view L 11) (numD x) = some (x.map pyO) := by
    refine mapO_get (by simp [numD]) fun i h1 h2 => ?_
    simp only [numD, List.getElem_map]
    exact view_py L 11 _ _ (pyO_py _) (by cases x[i]'(by simpa [numD] using h1) <;> simp [pyO, PyData.depth])
  have e2 : MP.view L 12 (.ref q) = some (pyN x) := by
    rw [MP.view, h]
    simp only [e, Option.map_some]
    rfl
  simp only [pyOf, toPy, e2]
theorem num_cmp {L : Live} {a b : D} {x y : Nums} (ha : pyOf L a = some (pyN x)) (hb : pyOf L b = some (pyN y)) (sc : scal2 a b = false) : cmpD .eq a b L = some (decide (x = y)) ∧ cmpD .ne a b L = some (!decide (x = y)) := by
  have s : ∀ x, SeqAt.shaped (pyN x) = true := fun x => by
    obtain ⟨h1, h2⟩ := pyN_sh x
    simp [SeqAt.shaped, pyN, PyData.canLay0, PyData.depth, h1, h2]
  have e : eqD L a b = some (decide (x = y)) := by
    simp only [eqD, sc, Bool.false_eq_true, if_false, ha, hb, s, Bool.and_self, if_true]
    simp only [pyN, PyData.eqv, pyN_eq]
  exact ⟨by simp only [cmpD, e], by simp only [cmpD, e, Option.map_some]⟩
/-! ### forced -/
theorem forc_body {k : Nat} {R0 R1 R2 : Option D} {q : Nat} {x4 x5 : Option D} {b : Bd} {L : Live} {x : Nums} (h : L[q]? = some (.lst (numD x))) (h1 : b.i < x.length) (h2 : b.j < x.length) :
    evSs (T.cx k) b__law_forced_0 [R0, R1, R2, some (.ref q), x4, x5, some (.int b.i), some (.int b.j), some (.int b.d)] L = .fl .nx [R0, R1, R2, some (.ref q), x4, x5, some (.int b.i), some (.int b.j), some (.int b.d)] (L.set q (.lst (numD (stpB x b)))) := by
  have i1 := num_idx h h1
  have i2 := num_idx h h2
  have id : L.set q (.lst (numD x)) = L := set_self h
  unfold stpB chgB
  cases e1 : atO x b.i with
  | none =>
    rw [e1] at i1
    simp only [optD] at i1
    simp only [Bool.false_eq_true, if_false, id]
    simp only [b__law_forced_0, Qaa,Qab,Qac,Qad,Qae,Qaf,Qag,Qah,Qai,Qaj,Qak,Qal,Qam,Qan,Qao,Qap,Qaq,Qar,Qas,Qat,Qau,Qav,Qaw,Qax,Qay,Qaz,QaA,QaB,QaC,QaD,QaE,QaF,QaG,QaH,QaI,QaJ,QaK,QaL,QaM,QaN,QaO,QaP,QaQ,QaR,QaS,QaT,QaU,QaV,QaW,QaX,QaY,QaZ,Qa0,Qa1,Qa2,Qa3,Qa4,Qa5,Qa6,Qa7,Qa8,Qa9,Qba,Qbb,Qbc,Qbd,Qbe,Qbf,Qbg,Qbh,Qbi,Qbj,Qbk,Qbl,Qbm,Qbn,Qbo,Qbp,Qbq,Qbr,Qbs,Qbt,Qbu,Qbv,Qbw,Qbx,Qby,Qbz,QbA,QbB,QbC,QbD,QbE,QbF,QbG,QbH,QbI,QbJ,QbK,QbL,QbM,QbN,QbO,QbP,QbQ,QbR,QbS,QbT,QbU,QbV,QbW,QbX,QbY,QbZ,Qb0,Qb1,Qb2,Qb3,Qb4,Qb5,Qb6,Qb7,Qb8,Qb9,Qca,Qcb,Qcc,Qcd,Qce,Qcf,Qcg,Qch,Qci,Qcj,Qck,Qcl,Qcm,Qcn,Qco,Qcp,Qcq,Qcr,Qcs,Qct,Qcu,Qcv,Qcw,Qcx,Qcy,Qcz,QcA,QcB,QcC,QcD,QcE,QcF,QcG,QcH,QcI,QcJ,QcK,QcL,QcM,QcN,QcO,QcP,QcQ,QcR,QcS,QcT,QcU,QcV,QcW,QcX,QcY,QcZ,Qc0,Qc1,Qc2,Qc3,Qc4,Qc5,Qc6,Qc7,Qc8,Qc9,Qda,Qdb,Qdc,Qdd,Qde,Qdf,Qdg,Qdh,Qdi,Qdj,Qdk,Qdl,Qdm,Qdn,Qdo,Qdp,Qdq,Qdr,Qds,Qdt,Qdu,Qdv,Qdw,Qdx,Qdy,List.getElem?_cons_zero, List.getElem?_cons_succ, List.set_cons_zero, List.set_cons_succ, List.length_cons, List.length_nil, Nat.zero_add, Nat.reduceAdd, Nat.reduceLT, if_true, if_false, Bool.false_eq_true, Bool.not_true, Bool.not_false, List.map_nil, List.map_cons, i1, Bool.not_true]
  | some u =>
    rw [e1] at i1
    simp only [optD] at i1
    have sd := num_set h h2 (some (u + b.d))
    simp only [optD] at sd
    cases e2 : atO x b.j with
    | none =>
      rw [e2] at i2
      simp only [optD] at i2
      simp only [if_true, Option.map_some]
      simp only [b__law_forced_0, Qaa,Qab,Qac,Qad,Qae,Qaf,Qag,Qah,Qai,Qaj,Qak,Qal,Qam,Qan,Qao,Qap,Qaq,Qar,Qas,Qat,Qau,Qav,Qaw,Qax,Qay,Qaz,QaA,QaB,QaC,QaD,QaE,QaF,QaG,QaH,QaI,QaJ,QaK,QaL,QaM,QaN,QaO,QaP,QaQ,QaR,QaS,QaT,QaU,QaV,QaW,QaX,QaY,QaZ,Qa0,Qa1,Qa2,Qa3,Qa4,Qa5,Qa6,Qa7,Qa8,Qa9,Qba,Qbb,Qbc,Qbd,Qbe,Qbf,Qbg,Qbh,Qbi,Qbj,Qbk,Qbl,Qbm,Qbn,Qbo,Qbp,Qbq,Qbr,Qbs,Qbt,Qbu,Qbv,Qbw,Qbx,Qby,Qbz,QbA,QbB,QbC,QbD,QbE,QbF,QbG,QbH,QbI,QbJ,QbK,QbL,QbM,QbN,QbO,QbP,QbQ,QbR,QbS,QbT,QbU,QbV,QbW,QbX,QbY,QbZ,Qb0,Qb1,Qb2,Qb3,Qb4,Qb5,Qb6,Qb7,Qb8,Qb9,Qca,Qcb,Qcc,Qcd,Qce,Qcf,Qcg,Qch,Qci,Qcj,Qck,Qcl,Qcm,Qcn,Qco,Qcp,Qcq,Qcr,Qcs,Qct,Qcu,Qcv,Qcw,Qcx,Qcy,Qcz,QcA,QcB,QcC,QcD,QcE,QcF,QcG,QcH,QcI,QcJ,QcK,QcL,QcM,QcN,QcO,QcP,QcQ,QcR,QcS,QcT,QcU,QcV,QcW,QcX,QcY,QcZ,Qc0,Qc1,Qc2,Qc3,Qc4,Qc5,Qc6,Qc7,Qc8,Qc9,Qda,Qdb,Qdc,Qdd,Qde,Qdf,Qdg,Qdh,Qdi,Qdj,Qdk,Qdl,Qdm,Qdn,Qdo,Qdp,Qdq,Qdr,Qds,Qdt,Qdu,Qdv,Qdw,Qdx,Qdy,List.getElem?_cons_zero, List.getElem?_cons_succ, List.set_cons_zero, List.set_cons_succ, List.length_cons, List.length_nil, Nat.zero_add, Nat.reduceAdd, Nat.reduceLT, if_true, if_false, Bool.false_eq_true, Bool.not_true, Bool.not_false, List.map_nil, List.map_cons, i1, i2, Bool.not_false, sd]
    | some v =>
      rw [e2] at i2
      simp only [optD] at i2
      by_cases g : v < u + b.d
      · simp only [g, decide_true, if_true, Option.map_some]
        simp only [b__law_forced_0, Qaa,Qab,Qac,Qad,Qae,Qaf,Qag,Qah,Qai,Qaj,Qak,Qal,Qam,Qan,Qao,Qap,Qaq,Qar,Qas,Qat,Qau,Qav,Qaw,Qax,Qay,Qaz,QaA,QaB,QaC,QaD,QaE,QaF,QaG,QaH,QaI,QaJ,QaK,QaL,QaM,QaN,QaO,QaP,QaQ,QaR,QaS,QaT,QaU,QaV,QaW,QaX,QaY,QaZ,Qa0,Qa1,Qa2,Qa3,Qa4,Qa5,Qa6,Qa7,Qa8,Qa9,Qba,Qbb,Qbc,Qbd,Qbe,Qbf,Qbg,Qbh,Qbi,Qbj,Qbk,Qbl,Qbm,Qbn,Qbo,Qbp,Qbq,Qbr,Qbs,Qbt,Qbu,Qbv,Qbw,Qbx,Qby,Qbz,QbA,QbB,QbC,QbD,QbE,QbF,QbG,QbH,QbI,QbJ,QbK,QbL,QbM,QbN,QbO,QbP,QbQ,QbR,QbS,QbT,QbU,QbV,QbW,QbX,QbY,QbZ,Qb0,Qb1,Qb2,Qb3,Qb4,Qb5,Qb6,Qb7,Qb8,Qb9,Qca,Qcb,Qcc,Qcd,Qce,Qcf,Qcg,Qch,Qci,Qcj,Qck,Qcl,Qcm,Qcn,Qco,Qcp,Qcq,Qcr,Qcs,Qct,Qcu,Qcv,Qcw,Qcx,Qcy,Qcz,QcA,QcB,QcC,QcD,QcE,QcF,QcG,QcH,QcI,QcJ,QcK,QcL,QcM,QcN,QcO,QcP,QcQ,QcR,QcS,QcT,QcU,QcV,QcW,QcX,QcY,QcZ,Qc0,Qc1,Qc2,Qc3,Qc4,Qc5,Qc6,Qc7,Qc8,Qc9,Qda,Qdb,Qdc,Qdd,Qde,Qdf,Qdg,Qdh,Qdi,Qdj,Qdk,Qdl,Qdm,Qdn,Qdo,Qdp,Qdq,Qdr,Qds,Qdt,Qdu,Qdv,Qdw,Qdx,Qdy,List.getElem?_cons_zero, List.getElem?_cons_succ, List.set_cons_zero, List.set_cons_succ, List.length_cons, List.length_nil, Nat.zero_add, Nat.reduceAdd, Nat.reduceLT, if_true, if_false, Bool.false_eq_true, Bool.not_true, Bool.not_false, List.map_nil, List.map_cons, i1, i2, Bool.not_false, g, decide_true, sd]
      · simp only [g, decide_false, Bool.false_eq_true, if_false, id]
        simp only [b__law_forced_0, Qaa,Qab,Qac,Qad,Qae,Qaf,Qag,Qah,Qai,Qaj,Qak,Qal,Qam,Qan,Qao,Qap,Qaq,Qar,Qas,Qat,Qau,Qav,Qaw,Qax,Qay,Qaz,QaA,QaB,QaC,QaD,QaE,QaF,QaG,QaH,QaI,QaJ,QaK,QaL,QaM,QaN,QaO,QaP,QaQ,QaR,QaS,QaT,QaU,QaV,QaW,QaX,QaY,QaZ,Qa0,Qa1,Qa2,Qa3,Qa4,Qa5,Qa6,Qa7,Qa8,Qa9,Qba,Qbb,Qbc,Qbd,Qbe,Qbf,Qbg,Qbh,Qbi,Qbj,Qbk,Qbl,Qbm,Qbn,Qbo,Qbp,Qbq,Qbr,Qbs,Qbt,Qbu,Qbv,Qbw,Qbx,Qby,Qbz,QbA,QbB,QbC,QbD,QbE,QbF,QbG,QbH,QbI,QbJ,QbK,QbL,QbM,QbN,QbO,QbP,QbQ,QbR,QbS,QbT,QbU,QbV,QbW,QbX,QbY,QbZ,Qb0,Qb1,Qb2,Qb3,Qb4,Qb5,Qb6,Qb7,Qb8,Qb9,Qca,Qcb,Qcc,Qcd,Qce,Qcf,Qcg,Qch,Qci,Qcj,Qck,Qcl,Qcm,Qcn,Qco,Qcp,Qcq,Qcr,Qcs,Qct,Qcu,Qcv,Qcw,Qcx,Qcy,Qcz,QcA,QcB,QcC,QcD,QcE,QcF,QcG,QcH,QcI,QcJ,QcK,QcL,QcM,QcN,QcO,QcP,QcQ,QcR,QcS,QcT,QcU,QcV,QcW,QcX,QcY,QcZ,Qc0,Qc1,Qc2,Qc3,Qc4,Qc5,Qc6,Qc7,Qc8,Qc9,Qda,Qdb,Qdc,Qdd,Qde,Qdf,Qdg,Qdh,Qdi,Qdj,Qdk,Qdl,Qdm,Qdn,Qdo,Qdp,Qdq,Qdr,Qds,Qdt,Qdu,Qdv,Qdw,Qdx,Qdy,List.getElem?_cons_zero, List.getElem?_cons_succ, List.set_cons_zero, List.set_cons_succ, List.length_cons, List.length_nil, Nat.zero_add, Nat.reduceAdd, Nat.reduceLT, if_true, if_false, Bool.false_eq_true, Bool.not_true, Bool.not_false, List.map_nil, List.map_cons, i1, i2, Bool.not_false, g, decide_false]
theorem forc_sweep {k : Nat} {R0 R1 R2 : Option D} {q : Nat} {x4 x5 : Option D} : ∀ (bs : List Bd) {x : Nums} {L : Live} (x6 x7 x8 : Option D), L[q]? = some (.lst (numD x)) → InB bs x.length →
    ∃ y6 y7 y8, forS (T.cx k) [] (.tup [.slot 6, .slot 7, .slot 8]) b__law_forced_0 (bs.map encBd) [R0, R1, R2, some (.ref q), x4, x5, x6, x7, x8] L = .fl .nx [R0, R1, R2, some (.ref q), x4, x5, y6, y7, y8] (L.set q (.lst (numD (swpB bs x))))
  | [], x, L, x6, x7, x8, h, _ => ⟨x6, x7, x8, by show SRes.fl _ _ L = _; rw [show swpB [] x = x from rfl, set_self h]⟩
  | b :: bs, x, L, x6, x7, x8, h, hi => by
    obtain ⟨h1, h2⟩ := hi b List.mem_cons_self
    have e := forc_body (k := k) (R0 := R0) (R1 := R1) (R2 := R2) (x4 := x4) (x5 := x5) h h1 h2
    have h' : (L.set q (.lst (numD (stpB x b))))[q]? = some (.lst (numD (stpB x b))) := get_set (lt_of h)
    obtain ⟨y6, y7, y8, ih⟩ := forc_sweep bs (some (.int b.i)) (some (.int b.j)) (some (.int b.d)) h' (by rw [stp_len]; exact hi.tl)
    have st : ∀ M, still M [] = true := fun _ => rfl
    have sg : storeG (.tup [.slot 6, .slot 7, .slot 8]) (encBd b) [R0, R1, R2, some (.ref q), x4, x5, x6, x7, x8] = some [R0, R1, R2, some (.ref q), x4, x5, some (.int b.i), some (.int b.j), some (.int b.d)] := rfl
    refine ⟨y6, y7, y8, ?_⟩
    rw [List.map_cons]
    unfold forS at ih ⊢
    rw [forL, st, if_pos rfl, sg]
    simp only []
    rw [e]
    simp only []
    rw [ih, List.set_set]
    rfl
theorem forc_turns {k : Nat} {R0 R2 : Option D} {q : Nat} (t : Nat) (bs : List Bd) : ∀ (ds : List D) {x : Nums} {L : Live} (x4 x5 x6 x7 x8 : Option D), L[q]? = some (.lst (numD x)) → InB bs x.length →
    ∃ (y4 y5 y6 y7 y8 : Option D) (fl : Flw), forS (T.cx k) [] (.slot 4) b__law_forced_1 ds [R0, some (encB t bs), R2, some (.ref q), x4, x5, x6, x7, x8] L = .fl fl [R0, some (encB t bs), R2, some (.ref q), y4, y5, y6, y7, y8] (L.set q (.lst (numD (frcB bs ds.length x)))) ∧ (fl = .nx ∨ fl = .rt (.ref q))
  | [], x, L, x4, x5, x6, x7, x8, h, _ => ⟨x4, x5, x6, x7, x8, .nx, by show SRes.fl _ _ L = _; rw [show frcB bs [].length x = x from rfl, set_self h], .inl rfl⟩
  | d :: ds, x, L, x4, x5, x6, x7, x8, h, hi => by
    obtain ⟨y6, y7, y8, e⟩ := forc_sweep (k := k) (R0 := R0) (R1 := some (encB t bs)) (R2 := R2) (x4 := some d) (x5 := some (.lst 0 (numD x))) bs x6 x7 x8 h hi
    have st : ∀ M, still M [] = true := fun _ => rfl
    have sg : storeG (.slot 4) d [R0, some (encB t bs), R2, some (.ref q), x4, x5, x6, x7, x8] = some [R0, some (encB t bs), R2, some (.ref q), some d, x5, x6, x7, x8] := rfl
    have io : ∀ M, itemsOf M (encB t bs) = some (bs.map encBd) := fun M => rfl
    have wo : ∀ M, watch M (encB t bs) = [] := fun M => rfl
    have h' : (L.set q (.lst (numD (swpB bs x))))[q]? = some (.lst (numD (swpB bs x))) := get_set (lt_of h)
    have lb : bltD .list false [.ref q] L = some (.lst 0 (numD x), L) := by simp [bltD, seqOf, lstOf, h, newL]
    have ce := (num_cmp (L := L.set q (.lst (numD (swpB bs x)))) (num_view h') (pyOf_toPy (pyN_py 0 x)) rfl).1
    by_cases fx : swpB bs x = x
    · rw [decide_eq_true fx] at ce
      have run : evSs (T.cx k) b__law_forced_1 [R0, some (encB t bs), R2, some (.ref q), some d, x5, x6, x7, x8] L = .fl (.rt (.ref q)) [R0, some (encB t bs), R2, some (.ref q), some d, some (.lst 0 (numD x)), y6, y7, y8] (L.set q (.lst (numD (swpB bs x)))) := by
        simp only [b__law_forced_1, Qaa,Qab,Qac,Qad,Qae,Qaf,Qag,Qah,Qai,Qaj,Qak,Qal,Qam,Qan,Qao,Qap,Qaq,Qar,Qas,Qat,Qau,Qav,Qaw,Qax,Qay,Qaz,QaA,QaB,QaC,QaD,QaE,QaF,QaG,QaH,QaI,QaJ,QaK,QaL,QaM,QaN,QaO,QaP,QaQ,QaR,QaS,QaT,QaU,QaV,QaW,QaX,QaY,QaZ,Qa0,Qa1,Qa2,Qa3,Qa4,Qa5,Qa6,Qa7,Qa8,Qa9,Qba,Qbb,Qbc,Qbd,Qbe,Qbf,Qbg,Qbh,Qbi,Qbj,Qbk,Qbl,Qbm,Qbn,Qbo,Qbp,Qbq,Qbr,Qbs,Qbt,Qbu,Qbv,Qbw,Qbx,Qby,Qbz,QbA,QbB,QbC,QbD,QbE,QbF,QbG,QbH,QbI,QbJ,QbK,QbL,QbM,QbN,QbO,QbP,QbQ,QbR,QbS,QbT,QbU,QbV,QbW,QbX,QbY,QbZ,Qb0,Qb1,Qb2,Qb3,Qb4,Qb5,Qb6,Qb7,Qb8,Qb9,Qca,Qcb,Qcc,Qcd,Qce,Qcf,Qcg,Qch,Qci,Qcj,Qck,Qcl,Qcm,Qcn,Qco,Qcp,Qcq,Qcr,Qcs,Qct,Qcu,Qcv,Qcw,Qcx,Qcy,Qcz,QcA,QcB,QcC,QcD,QcE,QcF,QcG,QcH,QcI,QcJ,QcK,QcL,QcM,QcN,QcO,QcP,QcQ,QcR,QcS,QcT,QcU,QcV,QcW,QcX,QcY,QcZ,Qc0,Qc1,Qc2,Qc3,Qc4,Qc5,Qc6,Qc7,Qc8,Qc9,Qda,Qdb,Qdc,Qdd,Qde,Qdf,Qdg,Qdh,Qdi,Qdj,Qdk,Qdl,Qdm,Qdn,Qdo,Qdp,Qdq,Qdr,Qds,Qdt,Qdu,Qdv,Qdw,Qdx,Qdy,List.getElem?_cons_zero, List.getElem?_cons_succ, List.set_cons_zero, List.set_cons_succ, List.length_cons, List.length_nil, Nat.zero_add, Nat.reduceAdd, Nat.reduceLT, if_true, if_false, Bool.false_eq_true, Bool.not_true, Bool.not_false, List.map_nil, List.map_cons, lb, io, wo, e, ce]
      refine ⟨some d, some (.lst 0 (numD x)), y6, y7, y8, .rt (.ref q), ?_, .inr rfl⟩
      unfold forS
      rw [forL, st, if_pos rfl, sg]
      simp only []
      rw [run, List.length_cons, frcB, if_pos fx, fx]
    · rw [decide_eq_false fx] at ce
      have run : evSs (T.cx k) b__law_forced_1 [R0, some (encB t bs), R2, some (.ref q), some d, x5, x6, x7, x8] L = .fl .nx [R0, some (encB t bs), R2, some (.ref q), some d, some (.lst 0 (numD x)), y6, y7, y8] (L.set q (.lst (numD (swpB bs x)))) := by
        simp only [b__law_forced_1, Qaa,Qab,Qac,Qad,Qae,Qaf,Qag,Qah,Qai,Qaj,Qak,Qal,Qam,Qan,Qao,Qap,Qaq,Qar,Qas,Qat,Qau,Qav,Qaw,Qax,Qay,Qaz,QaA,QaB,QaC,QaD,QaE,QaF,QaG,QaH,QaI,QaJ,QaK,QaL,QaM,QaN,QaO,QaP,QaQ,QaR,QaS,QaT,QaU,QaV,QaW,QaX,QaY,QaZ,Qa0,Qa1,Qa2,Qa3,Qa4,Qa5,Qa6,Qa7,Qa8,Qa9,Qba,Qbb,Qbc,Qbd,Qbe,Qbf,Qbg,Qbh,Qbi,Qbj,Qbk,Qbl,Qbm,Qbn,Qbo,Qbp,Qbq,Qbr,Qbs,Qbt,Qbu,Qbv,Qbw,Qbx,Qby,Qbz,QbA,QbB,QbC,QbD,QbE,QbF,QbG,QbH,QbI,QbJ,QbK,QbL,QbM,QbN,QbO,QbP,QbQ,QbR,QbS,QbT,QbU,QbV,QbW,QbX,QbY,QbZ,Qb0,Qb1,Qb2,Qb3,Qb4,Qb5,Qb6,Qb7,Qb8,Qb9,Qca,Qcb,Qcc,Qcd,Qce,Qcf,Qcg,Qch,Qci,Qcj,Qck,Qcl,Qcm,Qcn,Qco,Qcp,Qcq,Qcr,Qcs,Qct,Qcu,Qcv,Qcw,Qcx,Qcy,Qcz,QcA,QcB,QcC,QcD,QcE,QcF,QcG,QcH,QcI,QcJ,QcK,QcL,QcM,QcN,QcO,QcP,QcQ,QcR,QcS,QcT,QcU,QcV,QcW,QcX,QcY,QcZ,Qc0,Qc1,Qc2,Qc3,Qc4,Qc5,Qc6,Qc7,Qc8,Qc9,Qda,Qdb,Qdc,Qdd,Qde,Qdf,Qdg,Qdh,Qdi,Qdj,Qdk,Qdl,Qdm,Qdn,Qdo,Qdp,Qdq,Qdr,Qds,Qdt,Qdu,Qdv,Qdw,Qdx,Qdy,List.getElem?_cons_zero, List.getElem?_cons_succ, List.set_cons_zero, List.set_cons_succ, List.length_cons, List.length_nil, Nat.zero_add, Nat.reduceAdd, Nat.reduceLT, if_true, if_false, Bool.false_eq_true, Bool.not_true, Bool.not_false, List.map_nil, List.map_cons, lb, io, wo, e, ce]
      obtain ⟨z4, z5, z6, z7, z8, fl, ih, g⟩ := forc_turns t bs ds (R0 := R0) (R2 := R2) (some d) (some (.lst 0 (numD x))) y6 y7 y8 h' (by rw [swp_len]; exact hi)
      refine ⟨z4, z5, z6, z7, z8, fl, ?_, g⟩
      unfold forS at ih ⊢
      rw [forL, st, if_pos rfl, sg]
      simp only []
      rw [run]
      simp only []
      rw [ih, List.set_set, List.length_cons, frcB, if_neg fx]
theorem frc_len (bs : List Bd) (n : Nat) (x : Nums) : (frcB bs n x).length = x.length := by rw [frc_itr, itr_len]
theorem c_forced {k : Nat} (hk : 1 ≤ k) (t : Nat) {bs : List Bd} {n : Nat} (h2 : n ≤ 50) (hi : InB bs n) {i : Nat} (hi' : i < n) (L : Live) : (T.cx k).φ 202 [.int n, encB t bs, .int i] L = .ok (.lst 0 (numD (frcB bs n (oneO n i)))) L := by
  obtain ⟨k, rfl⟩ : ∃ m, k = m + 1 := ⟨k - 1, by omega⟩
  rw [goCH 202 rfl rfl]
  show cleanR L (resOf (evSs (T.cx k) b__law_forced [some (.int n), some (encB t bs), some (.int i), none, none, none, none, none, none] L)) = _
  have z1 : MP.sizeOk 1 = true := szO (by omega)
  obtain ⟨M, hM⟩ : ∃ M : Live, M = L ++ [.lst [.non]] ++ [.lst (List.replicate n D.non)] := ⟨_, rfl⟩
  have h1 : (L ++ [LO.lst [.non]])[L.length]? = some (.lst [.non]) := by simp
  have mr : binD .mul true (.ref L.length) (.int n) (L ++ [LO.lst [.non]]) = some (.ref (L.length + 1), M) := by
    have z : MP.sizeOk ([D.non].length * ((n : Int)).toNat) = true := szO (by simp; omega)
    have e : (decide (-(2 ^ 63) ≤ (n : Int)) && decide ((n : Int) < 2 ^ 63)) = true := by
      rw [Bool.and_eq_true, decide_eq_true_eq, decide_eq_true_eq]; omega
    simp only [binD, lstOf, h1, binL, e, z, Bool.and_self, if_true, newL, hM]
    simp [List.flatten_replicate_singleton]
  have hq : M[L.length + 1]? = some (.lst (numD (List.replicate n none))) := by rw [hM]; simp [numD, optD]
  have sd := num_set hq (j := i) (by simpa using hi') (some 0)
  have one : (List.replicate n (none : Option Int)).set i (some 0) = oneO n i := at_ext (by simp [oneO]) fun k => by
    rw [at_set _ _ _ _ (by simpa using hi'), at_one hi']
    by_cases q : k = i
    · rw [if_pos q, if_pos q]
    · rw [if_neg q, if_neg q]
      simp only [atO, List.getElem?_replicate]
      split <;> rfl
  rw [one] at sd
  simp only [optD] at sd
  have rg : rng1D (.int n) = some ((List.range n).map fun q => D.int (q : Nat)) := by
    rw [rng1_nat (by omega) (by omega), Int.toNat_natCast]
  have hq2 : (M.set (L.length + 1) (.lst (numD (oneO n i))))[L.length + 1]? = some (.lst (numD (oneO n i))) := get_set (lt_of hq)
  obtain ⟨y4, y5, y6, y7, y8, fl, e, g⟩ := forc_turns (k := k) (R0 := some (.int n)) (R2 := some (.int i)) t bs ((List.range n).map fun q => D.int (q : Nat)) none none none none none hq2 (by rw [len_one]; exact hi)
  rw [List.length_map, List.length_range, List.set_set] at e
  have run : resOf (evSs (T.cx k) b__law_forced [some (.int n), some (encB t bs), some (.int i), none, none, none, none, none, none] L) = .ok (.ref (L.length + 1)) (M.set (L.length + 1) (.lst (numD (frcB bs n (oneO n i))))) := by
    rcases g with rfl | rfl <;> simp only [b__law_forced, Qaa,Qab,Qac,Qad,Qae,Qaf,Qag,Qah,Qai,Qaj,Qak,Qal,Qam,Qan,Qao,Qap,Qaq,Qar,Qas,Qat,Qau,Qav,Qaw,Qax,Qay,Qaz,QaA,QaB,QaC,QaD,QaE,QaF,QaG,QaH,QaI,QaJ,QaK,QaL,QaM,QaN,QaO,QaP,QaQ,QaR,QaS,QaT,QaU,QaV,QaW,QaX,QaY,QaZ,Qa0,Qa1,Qa2,Qa3,Qa4,Qa5,Qa6,Qa7,Qa8,Qa9,Qba,Qbb,Qbc,Qbd,Qbe,Qbf,Qbg,Qbh,Qbi,Qbj,Qbk,Qbl,Qbm,Qbn,Qbo,Qbp,Qbq,Qbr,Qbs,Qbt,Qbu,Qbv,Qbw,Qbx,Qby,Qbz,QbA,QbB,QbC,QbD,QbE,QbF,QbG,QbH,QbI,QbJ,QbK,QbL,QbM,QbN,QbO,QbP,QbQ,QbR,QbS,QbT,QbU,QbV,QbW,QbX,QbY,QbZ,Qb0,Qb1,Qb2,Qb3,Qb4,Qb5,Qb6,Qb7,Qb8,Qb9,Qca,Qcb,Qcc,Qcd,Qce,Qcf,Qcg,Qch,Qci,Qcj,Qck,Qcl,Qcm,Qcn,Qco,Qcp,Qcq,Qcr,Qcs,Qct,Qcu,Qcv,Qcw,Qcx,Qcy,Qcz,QcA,QcB,QcC,QcD,QcE,QcF,QcG,QcH,QcI,QcJ,QcK,QcL,QcM,QcN,QcO,QcP,QcQ,QcR,QcS,QcT,QcU,QcV,QcW,QcX,QcY,QcZ,Qc0,Qc1,Qc2,Qc3,Qc4,Qc5,Qc6,Qc7,Qc8,Qc9,Qda,Qdb,Qdc,Qdd,Qde,Qdf,Qdg,Qdh,Qdi,Qdj,Qdk,Qdl,Qdm,Qdn,Qdo,Qdp,Qdq,Qdr,Qds,Qdt,Qdu,Qdv,Qdw,Qdx,Qdy,List.getElem?_cons_zero, List.getElem?_cons_succ, List.set_cons_zero, List.set_cons_succ, List.length_cons, List.length_nil, Nat.zero_add, Nat.reduceAdd, Nat.reduceLT, if_true, if_false, Bool.false_eq_true, Bool.not_true, Bool.not_false, List.map_nil, List.map_cons, z1, mr, sd, rg, e]
  rw [run]
  refine clean_list (get_set (lt_of hq)) (by omega) (num_ok _ _) fun j hj => ?_
  rw [List.getElem?_set_ne (by omega), hM, List.append_assoc, List.getElem?_append_left hj]
end Law_k37
set_option maxHeartbeats 4000000
namespace Law_k37
open PySem hiding Act
open PySem.Spec PyProof.Rows L2 MP PB PBc
/-! ### drawn bounds -/
def Lim (bs : List Bd) : Prop := ∀ b ∈ bs, b.d.natAbs ≤ 4 * 10 ^ 30
theorem Same.app1 {p q : Nat} {L L' : Live} {o : LO} (h : Same p L L') (hq : L.length ≤ q) : Same p L (L'.set q o) := ⟨by simpa using h.1, fun j hj n => by rw [List.getElem?_set_ne (by omega)]; exact h.2 j hj n⟩
theorem Pool.oth {L : Live} {p m q : Nat} {o : LO} (h : Pool L p m) (hq : q ≠ p) : Pool (L.set q o) p m := let ⟨o', e, r⟩ := h; ⟨o', by rw [List.getElem?_set_ne hq]; exact e, r⟩
theorem pick3 {L : Live} {a b c : Int} (h0 : 0 ≤ c) (h1 : c < 3) (ha : 0 ≤ a) (hb : 0 ≤ b) {B : Int} (hB : 0 ≤ B) (ha2 : a ≤ B) (hb2 : b ≤ B) : ∃ f : Int, idxD (.lst 0 [.int 0, .int a, .int b]) (.int c) L = some (.int f) ∧ 0 ≤ f ∧ f ≤ B := by
  have : c = 0 ∨ c = 1 ∨ c = 2 := by omega
  rcases this with rfl | rfl | rfl
  · exact ⟨0, rfl, by omega, hB⟩
  · exact ⟨a, rfl, ha, ha2⟩
  · exact ⟨b, rfl, hb, hb2⟩
theorem bnd_body {k : Nat} (hk : 2 ≤ k) {L : Live} {p q m : Nat} (hP : Pool L p m) (hm : m + 5 ≤ 10 ^ 9) (hqp : q ≠ p) {n : Nat} (n1 : 1 ≤ n) (n2 : n ≤ 50) {top : Int} (t1 : 1 ≤ top) (t2 : top ≤ 10 ^ 30) {fs : List Int} (fl : fs.length = n) (fb : ∀ x ∈ fs, 0 ≤ x ∧ x ≤ 10 ^ 30) {bs : List Bd} (hq : L[q]? = some (.lst (bs.map encBd))) (hl : bs.length ≤ 400) (x2 x4 x7 x8 x9 : Option D) :
    ∃ (b : Bd) (L' : Live) (y7 y8 : Option D), evSs (T.cx k) b__law_bounds_1 [some (.ref p), some (.int n), x2, some (.int top), x4, some (.lst 0 (fs.map D.int)), some (.ref q), x7, x8, x9] L = .fl .nx [some (.ref p), some (.int n), x2, some (.int top), x4, some (.lst 0 (fs.map D.int)), some (.ref q), y7, y8, x9] L' ∧ Pool L' p (m + 5) ∧ L'.length = L.length ∧ (∀ j, j ≠ p → j ≠ q → L'[j]? = L[j]?) ∧ L'[q]? = some (.lst ((bs ++ [b]).map encBd)) ∧ b.i < n ∧ b.j < n ∧ fs.getD b.i 0 + b.d ≤ fs.getD b.j 0 ∧ b.d.natAbs ≤ 4 * 10 ^ 30 := by
  obtain ⟨i, L1, e1, P1, S1, l1, i0, i1⟩ := draw (T := T) (k := k) (by omega) hP (by omega) n
  obtain ⟨j, L2, e2, P2, S2, l2, j0, j1⟩ := draw (T := T) (k := k) (by omega) P1 (by omega) n
  obtain ⟨a, L3, e3, P3, S3, l3, a0, a1⟩ := draw (T := T) (k := k) (by omega) P2 (by omega) 3
  obtain ⟨b, L4, e4, P4, S4, l4, b0, b1⟩ := draw (T := T) (k := k) (by omega) P3 (by omega) top
  obtain ⟨c, L5, e5, P5, S5, l5, c0, c1⟩ := draw (T := T) (k := k) (by omega) P4 (by omega) 3
  obtain ⟨i, rfl⟩ := Int.eq_ofNat_of_zero_le i0
  obtain ⟨j, rfl⟩ := Int.eq_ofNat_of_zero_le j0
  have hi : i < fs.length := by omega
  have hj : j < fs.length := by omega
  obtain ⟨f, ef, f0, f1⟩ := pick3 (L := L5) c0 c1 a0 b0 (B := 10 ^ 30) (by omega) (by omega) (by omega)
  have ix : ∀ (M : Live) (z : Nat), z < fs.length → idxD (.lst 0 (fs.map D.int)) (.int z) M = some (.int (fs.getD z 0)) := fun M z hz => by
    show atI (fs.map D.int) (z : Int) = _
    refine atI_of ?_
    rw [List.getElem?_map, List.getElem?_eq_getElem hz]
    simp [List.getD_eq_getElem?_getD, List.getElem?_eq_getElem hz]
  have gi := fb (fs.getD i 0) (by rw [List.getD_eq_getElem?_getD, List.getElem?_eq_getElem hi]; exact List.getElem_mem hi)
  have gj := fb (fs.getD j 0) (by rw [List.getD_eq_getElem?_getD, List.getElem?_eq_getElem hj]; exact List.getElem_mem hj)
  have i1' := fun M => ix M i hi
  have i2' := fun M => ix M j hj
  have z3 : MP.sizeOk 3 = true := szO (by omega)
  have qp := lt_of hq
  have q5 : L5[q]? = some (.lst (bs.map encBd)) := by
    rw [S5.2 q (by omega) hqp, S4.2 q (by omega) hqp, S3.2 q (by omega) hqp, S2.2 q (by omega) hqp, S1.2 q (by omega) hqp]; exact hq
  have q2 : L2[q]? = some (.lst (bs.map encBd)) := by
    rw [S2.2 q (by omega) hqp, S1.2 q (by omega) hqp]; exact hq
  have mt2 := ty_lst q2
  have mt5 := ty_lst q5
  have ap := app_lst (x := encBd (Bd.mk i j (fs.getD j 0 - fs.getD i 0 - f))) q5 (by rw [List.length_map]; omega)
  have se : bs.map encBd ++ [encBd (Bd.mk i j (fs.getD j 0 - fs.getD i 0 - f))] = (bs ++ [Bd.mk i j (fs.getD j 0 - fs.getD i 0 - f)]).map encBd := by simp
  rw [se] at ap
  simp only [encBd] at ap
  refine ⟨⟨i, j, fs.getD j 0 - fs.getD i 0 - f⟩, L5.set q (.lst ((bs ++ [Bd.mk i j (fs.getD j 0 - fs.getD i 0 - f)]).map encBd)), some (.int i), some (.int j), ?_, Pool.oth P5 hqp, by rw [List.length_set]; omega, fun z z1 z2 => ?_, get_set (by omega), by simp only; omega, by simp only; omega, by simp only; omega, by simp only; omega⟩
  · simp only [b__law_bounds_1, Qaa,Qab,Qac,Qad,Qae,Qaf,Qag,Qah,Qai,Qaj,Qak,Qal,Qam,Qan,Qao,Qap,Qaq,Qar,Qas,Qat,Qau,Qav,Qaw,Qax,Qay,Qaz,QaA,QaB,QaC,QaD,QaE,QaF,QaG,QaH,QaI,QaJ,QaK,QaL,QaM,QaN,QaO,QaP,QaQ,QaR,QaS,QaT,QaU,QaV,QaW,QaX,QaY,QaZ,Qa0,Qa1,Qa2,Qa3,Qa4,Qa5,Qa6,Qa7,Qa8,Qa9,Qba,Qbb,Qbc,Qbd,Qbe,Qbf,Qbg,Qbh,Qbi,Qbj,Qbk,Qbl,Qbm,Qbn,Qbo,Qbp,Qbq,Qbr,Qbs,Qbt,Qbu,Qbv,Qbw,Qbx,Qby,Qbz,QbA,QbB,QbC,QbD,QbE,QbF,QbG,QbH,QbI,QbJ,QbK,QbL,QbM,QbN,QbO,QbP,QbQ,QbR,QbS,QbT,QbU,QbV,QbW,QbX,QbY,QbZ,Qb0,Qb1,Qb2,Qb3,Qb4,Qb5,Qb6,Qb7,Qb8,Qb9,Qca,Qcb,Qcc,Qcd,Qce,Qcf,Qcg,Qch,Qci,Qcj,Qck,Qcl,Qcm,Qcn,Qco,Qcp,Qcq,Qcr,Qcs,Qct,Qcu,Qcv,Qcw,Qcx,Qcy,Qcz,QcA,QcB,QcC,QcD,QcE,QcF,QcG,QcH,QcI,QcJ,QcK,QcL,QcM,QcN,QcO,QcP,QcQ,QcR,QcS,QcT,QcU,QcV,QcW,QcX,QcY,QcZ,Qc0,Qc1,Qc2,Qc3,Qc4,Qc5,Qc6,Qc7,Qc8,Qc9,Qda,Qdb,Qdc,Qdd,Qde,Qdf,Qdg,Qdh,Qdi,Qdj,Qdk,Qdl,Qdm,Qdn,Qdo,Qdp,Qdq,Qdr,Qds,Qdt,Qdu,Qdv,Qdw,Qdx,Qdy,List.getElem?_cons_zero, List.getElem?_cons_succ, List.set_cons_zero, List.set_cons_succ, List.length_cons, List.length_nil, Nat.zero_add, Nat.reduceAdd, Nat.reduceLT, if_true, if_false, Bool.false_eq_true, Bool.not_true, Bool.not_false, List.map_nil, List.map_cons, e1, e2, Qcc,mt2, i1', i2', e3, e4, z3, e5, ef, mt5, ap]
  · rw [List.getElem?_set_ne (Ne.symm z2)]
    by_cases hz : z < L.length
    · rw [S5.2 z (by omega) z1, S4.2 z (by omega) z1, S3.2 z (by omega) z1, S2.2 z (by omega) z1, S1.2 z (by omega) z1]
    · rw [List.getElem?_eq_none (by omega), List.getElem?_eq_none (by omega)]
theorem top3 {L : Live} {P a : Int} (hP : P = 10 ^ 30) (h0 : 0 ≤ a) (h1 : a < 3) : ∃ top : Int, idxD (.lst 0 [.int 2, .int 9, .int P]) (.int a) L = some (.int top) ∧ 1 ≤ top ∧ top ≤ 10 ^ 30 := by
  have : a = 0 ∨ a = 1 ∨ a = 2 := by omega
  rcases this with rfl | rfl | rfl
  · exact ⟨2, rfl, by omega, by omega⟩
  · exact ⟨9, rfl, by omega, by omega⟩
  · exact ⟨P, rfl, by omega, by omega⟩
theorem ints_of {rs : List D} {P : Int → Prop} (h : ∀ r ∈ rs, ∃ i : Int, r = .int i ∧ P i) : ∃ l : List Int, rs = l.map D.int ∧ ∀ x ∈ l, P x := by
  induction rs with
  | nil => exact ⟨[], rfl, by simp⟩
  | cons r rs ih =>
    obtain ⟨i, rfl, hi⟩ := h r List.mem_cons_self
    obtain ⟨l, rfl, hl⟩ := ih fun x hx => h x (List.mem_cons_of_mem _ hx)
    exact ⟨i :: l, rfl, fun x hx => by
      rcases List.mem_cons.mp hx with rfl | hx
      · exact hi
      · exact hl x hx⟩
theorem c_bnds {k : Nat} (hk : 3 ≤ k) {L : Live} {p m : Nat} (hP : Pool L p m) (hm : m + 3000 ≤ 10 ^ 9) {n : Nat} (n1 : 1 ≤ n) (n2 : n ≤ 50) {size : Nat} (sz : size ≤ 400) :
    ∃ (bs : List Bd) (s : Nat → Int) (L' : Live), callW (T.cx k) 201 [.ref p, .int n, .int size] L = .ok (.ref L.length) L' ∧ Pool L' p (m + 3000) ∧ L'.length = L.length + 1 ∧ (∀ j, j < L.length → j ≠ p → L'[j]? = L[j]?) ∧ L'[L.length]? = some (.lst (bs.map encBd)) ∧ bs.length = size ∧ InB bs n ∧ Fit bs s ∧ Lim bs := by
  rw [callW_draw (HasFn.h (f := 201) (d := f__law_bounds)) rfl rfl]
  obtain ⟨k, rfl⟩ : ∃ m, k = m + 1 := ⟨k - 1, by omega⟩
  rw [goH 201 rfl rfl]
  show ∃ bs s L', resOf (evSs (T.cx k) b__law_bounds [some (.ref p), some (.int n), some (.int size), none, none, none, none, none, none, none] L) = _ ∧ _
  obtain ⟨PW, hPW, hPE⟩ := e_power 10 30 (by decide)
  have hPE' : PW = 10 ^ 30 := hPE
  obtain ⟨a, L1, e1, P1, S1, l1, a0, a1⟩ := draw (T := T) (k := k) (by omega) hP (by omega) 3
  obtain ⟨top, et, t1, t2⟩ := top3 (L := L1) hPE' a0 a1
  have z0 : MP.sizeOk 0 = true := szO (by omega)
  have z3 : MP.sizeOk 3 = true := szO (by omega)
  have lstE : ∀ E M, evE (T.cx k) (.lst false (.cons (.con (.int 2)) (.cons (.con (.int 9)) (.cons (.bin .pow false (.con (.int 10)) (.con (.int 30))) .nil)))) E M = .ok (.lst 0 [.int 2, .int 9, .int PW]) M := fun E M => by
    rw [QaH,Qbn,Qaa,Qbo,Qbn,Qaa,Qbo,Qbn,hPW, Qbo,Qbm,Qbp,Qbp,Qbp,QaI,show [D.int 2, .int 9, .int PW].length = 3 from rfl, z3]
    rfl
  clear hPE hPE' hPW
  obtain ⟨rs, L2, e2, P2, S2, l2, r2, p2⟩ := compL_drawsP (g := .slot 4) (E := [some (.ref p), some (.int n), some (.int size), some (.int top), none, none, none, none, none, none]) (e := fun E' L' => evE (T.cx k) b__law_bounds_0 E' L') (ds := (List.range n).map fun q => D.int (q : Nat)) (L := L1) (p := p) (b := 1) (post := fun r => ∃ i : Int, r = .int i ∧ (0 ≤ i ∧ i ≤ 10 ^ 30))
    (by rw [List.length_map, List.length_range]; exact small_line (by omega)) (fun d hd m' M hm' hM => by
      obtain ⟨i, M', e, Q1, Q2, Q3, i0, i1⟩ := draw (T := T) (k := k) (by omega) hM (by omega) top
      refine ⟨_, .int i, M', rfl, ?_, Q1, Q2, Q3, i, rfl, i0, by omega⟩
      simp only [b__law_bounds_0, Qaa,Qab,Qac,Qad,Qae,Qaf,Qag,Qah,Qai,Qaj,Qak,Qal,Qam,Qan,Qao,Qap,Qaq,Qar,Qas,Qat,Qau,Qav,Qaw,Qax,Qay,Qaz,QaA,QaB,QaC,QaD,QaE,QaF,QaG,QaH,QaI,QaJ,QaK,QaL,QaM,QaN,QaO,QaP,QaQ,QaR,QaS,QaT,QaU,QaV,QaW,QaX,QaY,QaZ,Qa0,Qa1,Qa2,Qa3,Qa4,Qa5,Qa6,Qa7,Qa8,Qa9,Qba,Qbb,Qbc,Qbd,Qbe,Qbf,Qbg,Qbh,Qbi,Qbj,Qbk,Qbl,Qbm,Qbn,Qbo,Qbp,Qbq,Qbr,Qbs,Qbt,Qbu,Qbv,Qbw,Qbx,Qby,Qbz,QbA,QbB,QbC,QbD,QbE,QbF,QbG,QbH,QbI,QbJ,QbK,QbL,QbM,QbN,QbO,QbP,QbQ,QbR,QbS,QbT,QbU,QbV,QbW,QbX,QbY,QbZ,Qb0,Qb1,Qb2,Qb3,Qb4,Qb5,Qb6,Qb7,Qb8,Qb9,Qca,Qcb,Qcc,Qcd,Qce,Qcf,Qcg,Qch,Qci,Qcj,Qck,Qcl,Qcm,Qcn,Qco,Qcp,Qcq,Qcr,Qcs,Qct,Qcu,Qcv,Qcw,Qcx,Qcy,Qcz,QcA,QcB,QcC,QcD,QcE,QcF,QcG,QcH,QcI,QcJ,QcK,QcL,QcM,QcN,QcO,QcP,QcQ,QcR,QcS,QcT,QcU,QcV,QcW,QcX,QcY,QcZ,Qc0,Qc1,Qc2,Qc3,Qc4,Qc5,Qc6,Qc7,Qc8,Qc9,Qda,Qdb,Qdc,Qdd,Qde,Qdf,Qdg,Qdh,Qdi,Qdj,Qdk,Qdl,Qdm,Qdn,Qdo,Qdp,Qdq,Qdr,Qds,Qdt,Qdu,Qdv,Qdw,Qdx,Qdy,List.getElem?_cons_zero, List.getElem?_cons_succ, List.set_cons_zero, List.set_cons_succ, List.length_cons, List.length_nil, Nat.zero_add, Nat.reduceAdd, Nat.reduceLT, if_true, if_false, Bool.false_eq_true, Bool.not_true, Bool.not_false, List.map_nil, List.map_cons, e]) (m := m + 1) (by rw [List.length_map, List.length_range]; omega) P1
  obtain ⟨fs, rfl, fb⟩ := ints_of p2
  have fl : fs.length = n := by simpa using r2
  rw [List.length_map, List.length_range] at P2
  have L2l : L2.length = L.length := by omega
  have pl := hP.lt
  obtain ⟨E', L', e, bs, x4, x7, x8, rfl, g1, g2, g3, g4, g5, g6, g7, g8⟩ := forL_run (w := []) (g := .slot 4) (b := fun E' L' => evSs (T.cx k) b__law_bounds_1 E' L') (ds := (List.range size).map fun q => D.int (q : Nat))
    (fun i E' L' => ∃ (bs : List Bd) (x4 x7 x8 : Option D), E' = [some (.ref p), some (.int n), some (.int size), some (.int top), x4, some (.lst 0 (fs.map D.int)), some (.ref L.length), x7, x8, none] ∧ Pool L' p (m + 1 + n + 5 * i) ∧ L'.length = L.length + 1 ∧ (∀ j, j < L.length → j ≠ p → L'[j]? = L[j]?) ∧ L'[L.length]? = some (.lst (bs.map encBd)) ∧ bs.length = i ∧ InB bs n ∧ Fit bs (fun k => fs.getD k 0) ∧ Lim bs) (fun _ _ _ _ => rfl)
    (fun i E' L' hi hPP => by
      obtain ⟨bs, x4, x7, x8, rfl, g1, g2, g3, g4, g5, g6, g7, g8⟩ := hPP
      have hi' : i < size := by simpa using hi
      rw [rng1_get hi]
      obtain ⟨b, M, y7, y8, eb, k1, k2, k3, k4, k5, k6, k7, k8⟩ := bnd_body (k := k) (by omega) g1 (by omega) (show L.length ≠ p by omega) n1 n2 t1 t2 fl fb g4 (by omega) (some (.int size)) (some (.int (i : Nat))) x7 x8 none
      refine ⟨_, _, M, rfl, .inl eb, bs ++ [b], _, y7, y8, rfl, k1.mono (by omega), by omega, fun j hj hp => by rw [k3 j hp (by omega)]; exact g3 j hj hp, k4, by simp [g5], fun c hc => ?_, fun c hc => ?_, fun c hc => ?_⟩
      · rcases List.mem_append.mp hc with hc | hc
        · exact g6 c hc
        · rw [List.mem_singleton.mp hc]; exact ⟨k5, k6⟩
      · rcases List.mem_append.mp hc with hc | hc
        · exact g7 c hc
        · rw [List.mem_singleton.mp hc]; exact k7
      · rcases List.mem_append.mp hc with hc | hc
        · exact g8 c hc
        · rw [List.mem_singleton.mp hc]; exact k8)
    (E := [some (.ref p), some (.int n), some (.int size), some (.int top), none, some (.lst 0 (fs.map D.int)), some (.ref L.length), none, none, none]) (L := L2 ++ [.lst []])
    ⟨[], none, none, none, rfl, (P2.mono (by omega)).app _, by simp [L2l], fun j hj hp => by rw [List.getElem?_append_left (by omega), S2.2 j (by omega) hp, S1.2 j hj hp], by rw [← L2l]; simp, rfl, (fun b hb => absurd hb (by simp)), (fun b hb => absurd hb (by simp)), (fun b hb => absurd hb (by simp))⟩
  rw [List.length_map, List.length_range] at g1 g5
  have r1 : rng1D (.int n) = some ((List.range n).map fun q => D.int (q : Nat)) := by
    rw [rng1_nat (by omega) (by omega), Int.toNat_natCast]
  have r2 : rng1D (.int size) = some ((List.range size).map fun q => D.int (q : Nat)) := by
    rw [rng1_nat (by omega) (by omega), Int.toNat_natCast]
  have e2' : cmpS (T.cx k) [] (.slot 4) [some (.ref p), some (.int n), some (.int size), some (.int top), none, none, none, none, none, none] .nil b__law_bounds_0 ((List.range n).map fun q => D.int (q : Nat)) [] L1 = .ok (fs.map D.int) L2 := e2
  have e' : forS (T.cx k) [] (.slot 4) b__law_bounds_1 ((List.range size).map fun q => D.int (q : Nat)) [some (.ref p), some (.int n), some (.int size), some (.int top), none, some (.lst 0 (fs.map D.int)), some (.ref L.length), none, none, none] (L2 ++ [.lst []]) = _ := e
  refine ⟨bs, fun k => fs.getD k 0, L', ?_, g1.mono (by omega), g2, g3, g4, g5, g6, g7, g8⟩
  have s0 : evS (T.cx k) (.asg (.nm (.slot 3)) (.idx (.lst false (.cons (.con (.int 2)) (.cons (.con (.int 9)) (.cons (.bin .pow false (.con (.int 10)) (.con (.int 30))) .nil)))) (.call 161 (.cons (.var 0) (.cons (.con (.int 3)) .nil))))) [some (.ref p), some (.int n), some (.int size), none, none, none, none, none, none, none] L = .fl .nx [some (.ref p), some (.int n), some (.int size), some (.int top), none, none, none, none, none, none] L1 := by
    rw [QbZ,QaJ,lstE, QaK]
    simp only [Qaa,Qab,Qac,Qad,Qae,Qaf,Qag,Qah,Qai,Qaj,Qak,Qal,Qam,Qan,Qao,Qap,Qaq,Qar,Qas,Qat,Qau,Qav,Qaw,Qax,Qay,Qaz,QaA,QaB,QaC,QaD,QaE,QaF,QaG,QaH,QaI,QaJ,QaK,QaL,QaM,QaN,QaO,QaP,QaQ,QaR,QaS,QaT,QaU,QaV,QaW,QaX,QaY,QaZ,Qa0,Qa1,Qa2,Qa3,Qa4,Qa5,Qa6,Qa7,Qa8,Qa9,Qba,Qbb,Qbc,Qbd,Qbe,Qbf,Qbg,Qbh,Qbi,Qbj,Qbk,Qbl,Qbm,Qbn,Qbo,Qbp,Qbq,Qbr,Qbs,Qbt,Qbu,Qbv,Qbw,Qbx,Qby,Qbz,QbA,QbB,QbC,QbD,QbE,QbF,QbG,QbH,QbI,QbJ,QbK,QbL,QbM,QbN,QbO,QbP,QbQ,QbR,QbS,QbT,QbU,QbV,QbW,QbX,QbY,QbZ,Qb0,Qb1,Qb2,Qb3,Qb4,Qb5,Qb6,Qb7,Qb8,Qb9,Qca,Qcb,Qcc,Qcd,Qce,Qcf,Qcg,Qch,Qci,Qcj,Qck,Qcl,Qcm,Qcn,Qco,Qcp,Qcq,Qcr,Qcs,Qct,Qcu,Qcv,Qcw,Qcx,Qcy,Qcz,QcA,QcB,QcC,QcD,QcE,QcF,QcG,QcH,QcI,QcJ,QcK,QcL,QcM,QcN,QcO,QcP,QcQ,QcR,QcS,QcT,QcU,QcV,QcW,QcX,QcY,QcZ,Qc0,Qc1,Qc2,Qc3,Qc4,Qc5,Qc6,Qc7,Qc8,Qc9,Qda,Qdb,Qdc,Qdd,Qde,Qdf,Qdg,Qdh,Qdi,Qdj,Qdk,Qdl,Qdm,Qdn,Qdo,Qdp,Qdq,Qdr,Qds,Qdt,Qdu,Qdv,Qdw,Qdx,Qdy,List.getElem?_cons_zero, List.getElem?_cons_succ, List.set_cons_zero, List.set_cons_succ, List.length_cons, List.length_nil, Nat.zero_add, Nat.reduceAdd, Nat.reduceLT, if_true, if_false, Bool.false_eq_true, Bool.not_true, Bool.not_false, List.map_nil, List.map_cons, e1, et]
  rw [b__law_bounds, QbS,s0, QbT]
  simp only [Qaa,Qab,Qac,Qad,Qae,Qaf,Qag,Qah,Qai,Qaj,Qak,Qal,Qam,Qan,Qao,Qap,Qaq,Qar,Qas,Qat,Qau,Qav,Qaw,Qax,Qay,Qaz,QaA,QaB,QaC,QaD,QaE,QaF,QaG,QaH,QaI,QaJ,QaK,QaL,QaM,QaN,QaO,QaP,QaQ,QaR,QaS,QaT,QaU,QaV,QaW,QaX,QaY,QaZ,Qa0,Qa1,Qa2,Qa3,Qa4,Qa5,Qa6,Qa7,Qa8,Qa9,Qba,Qbb,Qbc,Qbd,Qbe,Qbf,Qbg,Qbh,Qbi,Qbj,Qbk,Qbl,Qbm,Qbn,Qbo,Qbp,Qbq,Qbr,Qbs,Qbt,Qbu,Qbv,Qbw,Qbx,Qby,Qbz,QbA,QbB,QbC,QbD,QbE,QbF,QbG,QbH,QbI,QbJ,QbK,QbL,QbM,QbN,QbO,QbP,QbQ,QbR,QbS,QbT,QbU,QbV,QbW,QbX,QbY,QbZ,Qb0,Qb1,Qb2,Qb3,Qb4,Qb5,Qb6,Qb7,Qb8,Qb9,Qca,Qcb,Qcc,Qcd,Qce,Qcf,Qcg,Qch,Qci,Qcj,Qck,Qcl,Qcm,Qcn,Qco,Qcp,Qcq,Qcr,Qcs,Qct,Qcu,Qcv,Qcw,Qcx,Qcy,Qcz,QcA,QcB,QcC,QcD,QcE,QcF,QcG,QcH,QcI,QcJ,QcK,QcL,QcM,QcN,QcO,QcP,QcQ,QcR,QcS,QcT,QcU,QcV,QcW,QcX,QcY,QcZ,Qc0,Qc1,Qc2,Qc3,Qc4,Qc5,Qc6,Qc7,Qc8,Qc9,Qda,Qdb,Qdc,Qdd,Qde,Qdf,Qdg,Qdh,Qdi,Qdj,Qdk,Qdl,Qdm,Qdn,Qdo,Qdp,Qdq,Qdr,Qds,Qdt,Qdu,Qdv,Qdw,Qdx,Qdy,List.getElem?_cons_zero, List.getElem?_cons_succ, List.set_cons_zero, List.set_cons_succ, List.length_cons, List.length_nil, Nat.zero_add, Nat.reduceAdd, Nat.reduceLT, if_true, if_false, Bool.false_eq_true, Bool.not_true, Bool.not_false, List.map_nil, List.map_cons, r1, e2', z0, L2l, Qcc,r2, e']
end Law_k37
set_option maxHeartbeats 4000000
namespace Law_k37
open PySem hiding Act
open PySem.Spec PyProof.Rows L2 MP PB PBc
theorem mask_get {ids : List Nat} {L : Live} {p : Nat} (h : p ∉ ids) : (maskL ids L)[p]? = L[p]? := by
  unfold maskL
  rw [PB.mapIx_get]
  simp only [Nat.zero_add, h, if_false]
  cases L[p]? <;> rfl
theorem back_draw {ids : List Nat} {L : Live} {p : Nat} {o : LO} (hp : p < L.length) (hm : p ∉ ids) (ho : noTagO o = true) : backL ids L ((maskL ids L).set p o) = L.set p o := by
  apply List.ext_getElem?
  intro i
  unfold backL
  rw [PB.mapIx_get]
  simp only [Nat.zero_add]
  by_cases q : p = i
  · subst q
    rw [get_set (by rw [maskL_len]; exact hp), get_set hp]
    simp only [Option.map_some, hm, if_false]
    split
    · rfl
    · rw [thO_noTag ids ho]
  · rw [List.getElem?_set_ne q, List.getElem?_set_ne q]
    unfold maskL
    rw [PB.mapIx_get]
    simp only [Nat.zero_add]
    cases e : L[i]? with
    | none => rfl
    | some u =>
      by_cases hi : i ∈ ids
      · simp [hi]
      · simp [hi]

theorem rs_noTag {m : Nat} {o : LO} (h : RS m o) : noTagO o = true := by
  obtain ⟨a, b, c, rfl, _⟩ := h
  rfl
theorem callW_mid {c : Cxt} {f : Nat} {L : Live} {w : Nat} {bs : List Bd} {a d : D} {args : List D} (h : L[w]? = some (.lst (bs.map encBd))) (hl : c.liv f = []) (hn : noRef a = true) (ha : noRefs args = true) (hd : noTag d = true)
    (h3 : c.φ f (a :: encB (w + 1) bs :: args) (maskL [w] L) = .ok d (maskL [w] L)) : callW c f (a :: .ref w :: args) L = .ok d L := by
  have := callW_lend (c := c) (f := f) (L := L) (X := []) (i := w) (ids := []) (ds := a :: .ref w :: args) (es := a :: encB (w + 1) bs :: args) (d := d) ?_ ?_ ?_ (by simp) hd (by rw [List.append_nil]; exact h3)
  · rw [List.append_nil] at this; exact this
  · simp [idsAs, hl, idsF_noRef L 12 hn, idsF_list (m := 11) h (bds_noRef bs), idsAs_noRef L _ args ha]
  · simp [lendAs, hl, lendF_noRef L 11 hn, lendF_list (m := 10) h (bds_noRef bs), lendAs_noRef L _ args ha]
    rfl
  · intro j hj
    rw [List.mem_singleton.mp hj]
    exact lt_of h
/-! ### sizes -/
def AbsB (B : Int) (x : Nums) : Prop := ∀ k v, atO x k = some v → -B ≤ v ∧ v ≤ B
theorem abs_stp {B M : Int} {x : Nums} {b : Bd} (h : AbsB B x) (hj : b.j < x.length) (hd : -M ≤ b.d ∧ b.d ≤ M) (hM : 0 ≤ M) : AbsB (B + M) (stpB x b) := fun k v hv => by
  rw [stp_at hj] at hv
  split at hv
  · rename_i c
    obtain ⟨u, e, _, _⟩ := chg_true c.2
    rw [e] at hv
    simp only [Option.map_some, Option.some.injEq] at hv
    have := h _ _ e
    omega
  · have := h _ _ hv; omega
theorem abs_swp {M : Int} (hM : 0 ≤ M) : ∀ {bs : List Bd} {B : Int} {x : Nums}, AbsB B x → InB bs x.length → (∀ b ∈ bs, -M ≤ b.d ∧ b.d ≤ M) → AbsB (B + M * (bs.length : Nat)) (swpB bs x)
  | [], B, x, h, _, _ => by simpa [swpB] using h
  | b :: bs, B, x, h, hi, hd => by
    have s := abs_stp h (hi b List.mem_cons_self).2 (hd b List.mem_cons_self) hM
    have := abs_swp hM (bs := bs) s (by rw [stp_len]; exact hi.tl) fun c hc => hd c (List.mem_cons_of_mem _ hc)
    rw [swpB, List.foldl_cons]
    have e : B + M + M * (bs.length : Nat) = B + M * ((b :: bs).length : Nat) := by
      rw [List.length_cons, Int.natCast_add, Int.mul_add]; simp; omega
    rw [← e]
    exact this
theorem abs_itr {M : Int} (hM : 0 ≤ M) {bs : List Bd} (hd : ∀ b ∈ bs, -M ≤ b.d ∧ b.d ≤ M) : ∀ (n : Nat) {B : Int} {x : Nums}, AbsB B x → InB bs x.length → AbsB (B + (M * (bs.length : Nat)) * (n : Nat)) (itrB bs n x)
  | 0, B, x, h, _ => by simpa [itrB] using h
  | n + 1, B, x, h, hi => by
    have s := abs_swp hM h hi hd
    have := abs_itr hM hd n s (by rw [swp_len]; exact hi)
    have e : B + M * (bs.length : Nat) + M * (bs.length : Nat) * (n : Nat) = B + M * (bs.length : Nat) * ((n + 1 : Nat) : Int) := by
      rw [Int.natCast_add, Int.mul_add]; simp; omega
    rw [← e]
    exact this
theorem far_abs {bs : List Bd} {n i : Nat} (n2 : n ≤ 50) (hl : bs.length ≤ 400) (hi : InB bs n) (hi' : i < n) (lim : Lim bs) {j : Nat} {v : Int} (h : atO (farB bs n i) j = some v) : v.natAbs < 10 ^ 40 := by
  have := abs_itr (M := 4 * 10 ^ 30) (by omega) (bs := bs) (fun b hb => by have := lim b hb; omega) n (B := 0) (x := oneO n i) (fun k v hv => by
    rw [at_one hi'] at hv
    split at hv
    · cases hv; omega
    · cases hv) (by rw [len_one]; exact hi) j v h
  have h1 : (4 * 10 ^ 30 : Int) * (bs.length : Nat) ≤ 4 * 10 ^ 30 * 400 := Int.mul_le_mul_of_nonneg_left (by omega) (by omega)
  have h2 : (4 * 10 ^ 30 : Int) * (bs.length : Nat) * (n : Nat) ≤ 4 * 10 ^ 30 * 400 * 50 := Int.mul_le_mul h1 (by omega) (by omega) (by omega)
  omega
theorem log_40 {n : Nat} (h : n < 10 ^ 40) : n.log2 < 1920 := by
  by_cases h0 : n = 0
  · subst h0; decide
  · exact Nat.lt_of_lt_of_le ((Nat.log2_lt h0).2 (Nat.lt_of_lt_of_le h (show 10 ^ 40 ≤ 2 ^ 140 by decide))) (by decide)
theorem int_40 {i : Int} (h : i.natAbs < 10 ^ 40) : psz (.int i) ≤ 41 := by
  simp only [psz]
  exact int_len (by decide) h
theorem num_repr {o : Option Int} (h : ∀ v, o = some v → v.natAbs < 10 ^ 40) (L : Live) : ∃ s, reprD L (optD o) = some s := by
  refine ⟨_, repr_ok (p := pyO o) (pyOf_toPy (pyO_py o)) ?_ ?_ ?_⟩
  · cases o with
    | none => rfl
    | some v => have := log_40 (h v rfl); simp [pyO, PyData.showable, this]
  · cases o with
    | none => decide
    | some v => have := int_40 (h v rfl); simp only [pyO]; omega
  · cases o <;> simp [pyO, PyData.depth]
def bdP (b : Bd) : PyData := .tuple [.int b.i, .int b.j, .int b.d]
theorem bd_py (b : Bd) : toPy (encBd b) = some (bdP b) := by simp [encBd, bdP, toPy, toPys]
theorem bds_repr {bs : List Bd} {n : Nat} (n2 : n ≤ 50) (hl : bs.length ≤ 400) (hi : InB bs n) (lim : Lim bs) (t : Nat) (L : Live) : ∃ s, reprD L (encB t bs) = some s := by
  have ha : ∀ x ∈ bs.map bdP, psz x ≤ 200 ∧ x.showable = true ∧ x.depth ≤ 2 := by
    intro x hx
    obtain ⟨b, hb, rfl⟩ := List.mem_map.mp hx
    obtain ⟨i1, i2⟩ := hi b hb
    have i3 := lim b hb
    have s1 := int_40 (i := (b.i : Int)) (by omega)
    have s2 := int_40 (i := (b.j : Int)) (by omega)
    have s3 := int_40 (i := b.d) (by omega)
    have l1 := log_40 (n := ((b.i : Int)).natAbs) (by omega)
    have l2 := log_40 (n := ((b.j : Int)).natAbs) (by omega)
    have l3 := log_40 (n := b.d.natAbs) (by omega)
    refine ⟨?_, by simp only [bdP, PyData.showable, PyData.showableAll, l1, l2, l3, decide_true, Bool.and_self], by simp [bdP, PyData.depth, PyData.depthAll]⟩
    simp only [bdP, psz, pszs] at *
    omega
  have b1 := pszs_le fun x hx => (ha x hx).1
  have b2 := MP.showableAll_of fun x hx => (ha x hx).2.1
  have b3 := depthAll_le fun x hx => (ha x hx).2.2
  rw [List.length_map] at b1
  refine ⟨_, repr_ok (p := .list (bs.map bdP)) (pyOf_toPy (by simp [encB, toPy, toPys_map bd_py])) (by simpa only [PyData.showable] using b2) (by simp only [psz]; omega) (by simp only [PyData.depth]; omega)⟩
theorem rep_b {d : D} {s : Str} {M : Live} (h : reprD M d = some s) : bltD .repr false [d] M = some (.str s, M) := by simp [bltD, h]
/-! ### one pair -/
theorem c206 {k : Nat} (hk : 5 ≤ k) (t : Nat) {bs : List Bd} {s : Nat → Int} {n : Nat} (n1 : 1 ≤ n) (n2 : n ≤ 50) (hl : bs.length ≤ 400) (hi : InB bs n) (hf : Fit bs s) {i j : Nat} (hi' : i < n) (hj : j < n) (L : Live) : (T.cx k).φ 176 [.int n, encB t bs, .int i, .int j] L = .ok (optD (atO (farB bs n i) j)) L :=
  c_diff hk t n1 n2 hl hi hi' hj (least_some hi hf) (far_lft hi hf hi') (by rw [farB, itr_len, len_one]) L
theorem mul_oks {i j : Int} (h0 : -(2 ^ 64) < i) (h : i < 2 ^ 64) : mulOk i j = true := by
  simp only [mulOk, Bool.or_eq_true, Bool.and_eq_true, decide_eq_true_eq]
  exact .inl (.inl ⟨h0, h⟩)
theorem step_ok {k : Nat} (hk : 6 ≤ k) (t : Nat) {bs : List Bd} {s : Nat → Int} {n : Nat} (n1 : 1 ≤ n) (n2 : n ≤ 50) (hl : bs.length < 400) (hi : InB bs n) (hf : Fit bs s) {i j : Nat} (hi' : i < n) (hj : j < n) {L : Live} {step : Int} (h0 : -100 ≤ step ∧ step ≤ 100) (hs : ∀ v, atO (farB bs n i) j = some v → step = 0 ∨ step = -1) {x0 x6 x7 x9 x10 x11 x12 : Option D} :
    ∃ y9 y10, evSs (T.cx k) b__law_pair_right_0 [x0, some (.int n), some (encB t bs), some (.int i), some (.int j), some (.lst 0 (numD (farB bs n i))), x6, x7, some (.int step), x9, x10, x11, x12] L = .fl .nx [x0, some (.int n), some (encB t bs), some (.int i), some (.int j), some (.lst 0 (numD (farB bs n i))), x6, x7, some (.int step), y9, y10, x11, x12] L := by
  obtain ⟨P, hP, _⟩ := e_power 10 29 (by decide)
  have fl : (farB bs n i).length = n := by rw [farB, itr_len, len_one]
  have ix : idxD (.lst 0 (numD (farB bs n i))) (.int j) L = some (optD (atO (farB bs n i) j)) := num_at (by omega)
  have z1 : MP.sizeOk 1 = true := szO (by omega)
  have z3 : MP.sizeOk 3 = true := szO (by omega)
  have mo := mul_oks (i := step) (j := P) (by omega) (by omega)
  have bm := bMul false step P L mo
  have nb0 : cmpD .ne (.bl false) (.bl false) L = some false := rfl
  have nb1 : cmpD .ne (.bl true) (.bl true) L = some false := rfl
  have told : ∀ d : Int, ∃ r : D, callW (T.cx k) 175 [.int n, encB 0 (bs ++ [⟨j, i, -d⟩])] L = .ok r L ∧ r = resN (lftB (bs ++ [⟨j, i, -d⟩]) (n + 1) (zerosO n)) := fun d => by
    rw [callW_pure (by simp [noRefs, noRef])]
    have hi2 : InB (bs ++ [⟨j, i, -d⟩]) n := fun b hb => by
      rcases List.mem_append.mp hb with hb | hb
      · exact hi b hb
      · rw [List.mem_singleton.mp hb]; exact ⟨hj, hi'⟩
    exact ⟨_, c_least (T := T) (by omega) 0 n1 n2 (by simp; omega) hi2 L, rfl⟩
  have hi2 : ∀ d : Int, InB (bs ++ [⟨j, i, -d⟩]) n := fun d b hb => by
    rcases List.mem_append.mp hb with hb | hb
    · exact hi b hb
    · rw [List.mem_singleton.mp hb]; exact ⟨hj, hi'⟩
  have ad : ∀ d : Int, binD .add false (encB t bs) (.lst 0 [.tup [.int j, .int i, .int (0 - d)]]) L = some (encB 0 (bs ++ [⟨j, i, -d⟩]), L) := fun d => by
    rw [encB, add_lst (by simp; omega)]
    simp [encB, newL, encBd, Int.zero_sub]
  cases q : atO (farB bs n i) j with
  | none =>
    rw [q] at ix
    simp only [optD] at ix
    obtain ⟨s', hs'⟩ := far_fit hi hf hi' hj (d := step * P) (fun v hv => by rw [q] at hv; cases hv)
    obtain ⟨r, er, rr⟩ := told (step * P)
    rw [least_some (hi2 _) hs'] at rr
    simp only [resN] at rr
    subst rr
    have le : evE (T.cx k) (.ite (.cmp .is_ (.idx (.var 5) (.var 4)) (.con .non)) (.bin .mul false (.var 8) (.bin .pow false (.con (.int 10)) (.con (.int 29)))) (.bin .add false (.idx (.var 5) (.var 4)) (.var 8))) [x0, some (.int n), some (encB t bs), some (.int i), some (.int j), some (.lst 0 (numD (farB bs n i))), x6, x7, some (.int step), x9, x10, x11, x12] L = .ok (.int (step * P)) L := by
      rw [QaB]
      simp only [Qak,QaJ,Qcs,Qct,QaK,QaL,Qaa,Qal,Qam,Qan,QaC,QaD,Qbx,ix, QcY,Qc2,QcH,List.getElem?_cons_succ, List.getElem?_cons_zero]
      rw [Qac,Qcs]
      simp only [List.getElem?_cons_succ, List.getElem?_cons_zero, Qct,Qad]
      rw [hP, Qae,bm, Qbw]
    have s0 : evS (T.cx k) (.asg (.nm (.slot 9)) (.ite (.cmp .is_ (.idx (.var 5) (.var 4)) (.con .non)) (.bin .mul false (.var 8) (.bin .pow false (.con (.int 10)) (.con (.int 29)))) (.bin .add false (.idx (.var 5) (.var 4)) (.var 8)))) [x0, some (.int n), some (encB t bs), some (.int i), some (.int j), some (.lst 0 (numD (farB bs n i))), x6, x7, some (.int step), x9, x10, x11, x12] L = .fl .nx [x0, some (.int n), some (encB t bs), some (.int i), some (.int j), some (.lst 0 (numD (farB bs n i))), x6, x7, some (.int step), some (.int (step * P)), x10, x11, x12] L := by
      rw [QbZ,le]; rfl
    refine ⟨some (.int (step * P)), some (.lst 0 (numD (itrB (bs ++ [⟨j, i, -(step * P)⟩]) n (zerosO n)))), ?_⟩
    rw [b__law_pair_right_0, QbS,s0, QbT]
    simp only [Qaa,Qab,Qac,Qad,Qae,Qaf,Qag,Qah,Qai,Qaj,Qak,Qal,Qam,Qan,Qao,Qap,Qaq,Qar,Qas,Qat,Qau,Qav,Qaw,Qax,Qay,Qaz,QaA,QaB,QaC,QaD,QaE,QaF,QaG,QaH,QaI,QaJ,QaK,QaL,QaM,QaN,QaO,QaP,QaQ,QaR,QaS,QaT,QaU,QaV,QaW,QaX,QaY,QaZ,Qa0,Qa1,Qa2,Qa3,Qa4,Qa5,Qa6,Qa7,Qa8,Qa9,Qba,Qbb,Qbc,Qbd,Qbe,Qbf,Qbg,Qbh,Qbi,Qbj,Qbk,Qbl,Qbm,Qbn,Qbo,Qbp,Qbq,Qbr,Qbs,Qbt,Qbu,Qbv,Qbw,Qbx,Qby,Qbz,QbA,QbB,QbC,QbD,QbE,QbF,QbG,QbH,QbI,QbJ,QbK,QbL,QbM,QbN,QbO,QbP,QbQ,QbR,QbS,QbT,QbU,QbV,QbW,QbX,QbY,QbZ,Qb0,Qb1,Qb2,Qb3,Qb4,Qb5,Qb6,Qb7,Qb8,Qb9,Qca,Qcb,Qcc,Qcd,Qce,Qcf,Qcg,Qch,Qci,Qcj,Qck,Qcl,Qcm,Qcn,Qco,Qcp,Qcq,Qcr,Qcs,Qct,Qcu,Qcv,Qcw,Qcx,Qcy,Qcz,QcA,QcB,QcC,QcD,QcE,QcF,QcG,QcH,QcI,QcJ,QcK,QcL,QcM,QcN,QcO,QcP,QcQ,QcR,QcS,QcT,QcU,QcV,QcW,QcX,QcY,QcZ,Qc0,Qc1,Qc2,Qc3,Qc4,Qc5,Qc6,Qc7,Qc8,Qc9,Qda,Qdb,Qdc,Qdd,Qde,Qdf,Qdg,Qdh,Qdi,Qdj,Qdk,Qdl,Qdm,Qdn,Qdo,Qdp,Qdq,Qdr,Qds,Qdt,Qdu,Qdv,Qdw,Qdx,Qdy,List.getElem?_cons_zero, List.getElem?_cons_succ, List.set_cons_zero, List.set_cons_succ, List.length_cons, List.length_nil, Nat.zero_add, Nat.reduceAdd, Nat.reduceLT, if_true, if_false, Bool.false_eq_true, Bool.not_true, Bool.not_false, List.map_nil, List.map_cons, ix, z1, z3, ad, er, nb0, Bool.not_true]
  | some v =>
    rw [q] at ix
    simp only [optD] at ix
    rcases hs v q with rfl | rfl
    · obtain ⟨s', hs'⟩ := far_fit hi hf hi' hj (d := v + 0) (fun w hw => by rw [q] at hw; cases hw; omega)
      obtain ⟨r, er, rr⟩ := told (v + 0)
      rw [least_some (hi2 _) hs'] at rr
      simp only [resN] at rr
      subst rr
      refine ⟨some (.int (v + 0)), some (.lst 0 (numD (itrB (bs ++ [⟨j, i, -(v + 0)⟩]) n (zerosO n)))), ?_⟩
      have lt : ¬ (0 : Int) < 0 := by omega
      simp only [b__law_pair_right_0, Qaa,Qab,Qac,Qad,Qae,Qaf,Qag,Qah,Qai,Qaj,Qak,Qal,Qam,Qan,Qao,Qap,Qaq,Qar,Qas,Qat,Qau,Qav,Qaw,Qax,Qay,Qaz,QaA,QaB,QaC,QaD,QaE,QaF,QaG,QaH,QaI,QaJ,QaK,QaL,QaM,QaN,QaO,QaP,QaQ,QaR,QaS,QaT,QaU,QaV,QaW,QaX,QaY,QaZ,Qa0,Qa1,Qa2,Qa3,Qa4,Qa5,Qa6,Qa7,Qa8,Qa9,Qba,Qbb,Qbc,Qbd,Qbe,Qbf,Qbg,Qbh,Qbi,Qbj,Qbk,Qbl,Qbm,Qbn,Qbo,Qbp,Qbq,Qbr,Qbs,Qbt,Qbu,Qbv,Qbw,Qbx,Qby,Qbz,QbA,QbB,QbC,QbD,QbE,QbF,QbG,QbH,QbI,QbJ,QbK,QbL,QbM,QbN,QbO,QbP,QbQ,QbR,QbS,QbT,QbU,QbV,QbW,QbX,QbY,QbZ,Qb0,Qb1,Qb2,Qb3,Qb4,Qb5,Qb6,Qb7,Qb8,Qb9,Qca,Qcb,Qcc,Qcd,Qce,Qcf,Qcg,Qch,Qci,Qcj,Qck,Qcl,Qcm,Qcn,Qco,Qcp,Qcq,Qcr,Qcs,Qct,Qcu,Qcv,Qcw,Qcx,Qcy,Qcz,QcA,QcB,QcC,QcD,QcE,QcF,QcG,QcH,QcI,QcJ,QcK,QcL,QcM,QcN,QcO,QcP,QcQ,QcR,QcS,QcT,QcU,QcV,QcW,QcX,QcY,QcZ,Qc0,Qc1,Qc2,Qc3,Qc4,Qc5,Qc6,Qc7,Qc8,Qc9,Qda,Qdb,Qdc,Qdd,Qde,Qdf,Qdg,Qdh,Qdi,Qdj,Qdk,Qdl,Qdm,Qdn,Qdo,Qdp,Qdq,Qdr,Qds,Qdt,Qdu,Qdv,Qdw,Qdx,Qdy,List.getElem?_cons_zero, List.getElem?_cons_succ, List.set_cons_zero, List.set_cons_succ, List.length_cons, List.length_nil, Nat.zero_add, Nat.reduceAdd, Nat.reduceLT, if_true, if_false, Bool.false_eq_true, Bool.not_true, Bool.not_false, List.map_nil, List.map_cons, ix, z1, z3, ad, er, nb0, lt, decide_false, Bool.not_false]
    · obtain ⟨r, er, rr⟩ := told (v + -1)
      rw [least_none (hi2 _) (far_unfit hi hi' q (by omega))] at rr
      simp only [resN] at rr
      subst rr
      refine ⟨some (.int (v + -1)), some .non, ?_⟩
      have lt : (-1 : Int) < 0 := by omega
      simp only [b__law_pair_right_0, Qaa,Qab,Qac,Qad,Qae,Qaf,Qag,Qah,Qai,Qaj,Qak,Qal,Qam,Qan,Qao,Qap,Qaq,Qar,Qas,Qat,Qau,Qav,Qaw,Qax,Qay,Qaz,QaA,QaB,QaC,QaD,QaE,QaF,QaG,QaH,QaI,QaJ,QaK,QaL,QaM,QaN,QaO,QaP,QaQ,QaR,QaS,QaT,QaU,QaV,QaW,QaX,QaY,QaZ,Qa0,Qa1,Qa2,Qa3,Qa4,Qa5,Qa6,Qa7,Qa8,Qa9,Qba,Qbb,Qbc,Qbd,Qbe,Qbf,Qbg,Qbh,Qbi,Qbj,Qbk,Qbl,Qbm,Qbn,Qbo,Qbp,Qbq,Qbr,Qbs,Qbt,Qbu,Qbv,Qbw,Qbx,Qby,Qbz,QbA,QbB,QbC,QbD,QbE,QbF,QbG,QbH,QbI,QbJ,QbK,QbL,QbM,QbN,QbO,QbP,QbQ,QbR,QbS,QbT,QbU,QbV,QbW,QbX,QbY,QbZ,Qb0,Qb1,Qb2,Qb3,Qb4,Qb5,Qb6,Qb7,Qb8,Qb9,Qca,Qcb,Qcc,Qcd,Qce,Qcf,Qcg,Qch,Qci,Qcj,Qck,Qcl,Qcm,Qcn,Qco,Qcp,Qcq,Qcr,Qcs,Qct,Qcu,Qcv,Qcw,Qcx,Qcy,Qcz,QcA,QcB,QcC,QcD,QcE,QcF,QcG,QcH,QcI,QcJ,QcK,QcL,QcM,QcN,QcO,QcP,QcQ,QcR,QcS,QcT,QcU,QcV,QcW,QcX,QcY,QcZ,Qc0,Qc1,Qc2,Qc3,Qc4,Qc5,Qc6,Qc7,Qc8,Qc9,Qda,Qdb,Qdc,Qdd,Qde,Qdf,Qdg,Qdh,Qdi,Qdj,Qdk,Qdl,Qdm,Qdn,Qdo,Qdp,Qdq,Qdr,Qds,Qdt,Qdu,Qdv,Qdw,Qdx,Qdy,List.getElem?_cons_zero, List.getElem?_cons_succ, List.set_cons_zero, List.set_cons_succ, List.length_cons, List.length_nil, Nat.zero_add, Nat.reduceAdd, Nat.reduceLT, if_true, if_false, Bool.false_eq_true, Bool.not_true, Bool.not_false, List.map_nil, List.map_cons, ix, z1, z3, ad, er, nb1, lt, decide_true, Bool.not_false]
end Law_k37
set_option maxHeartbeats 4000000
namespace Law_k37
open PySem hiding Act
open PySem.Spec PyProof.Rows L2 MP PB PBc
theorem drawS {k : Nat} (hk : 1 ≤ k) {L : Live} {p m : Nat} (hP : Pool L p m) (hm : m + 1 ≤ 10 ^ 9) (size : Int) (h1 : 1 ≤ size := by omega) (h2 : size < 2 ^ 250 := by omega) :
    ∃ (i : Int) (o' : LO), callW (T.cx k) 161 [.ref p, .int size] L = .ok (.int i) (L.set p o') ∧ RS (m + 1) o' ∧ 0 ≤ i ∧ i < size := by
  obtain ⟨i, o', e, h3, h4, h5⟩ := s_draw (T := T) hk hP hm size h1 h2
  exact ⟨i, o', by rw [callW_draw (HasFn.h (f := 161) (d := f__law_draw)) rfl rfl, e], h3, h4, h5⟩
theorem pool_set {L : Live} {p m : Nat} {o : LO} (hp : p < L.length) (h : RS m o) : Pool (L.set p o) p m := ⟨o, get_set hp, h⟩
theorem in_rows (a b : Option Int) (L : Live) : cmpD .in_ .non (.lst 0 [optD a, optD b]) L = some (a.isNone || b.isNone) := by
  cases a <;> cases b <;> rfl
theorem sum_rows (a b : Int) (L : Live) : bltD .sum false [.lst 0 [.int a, .int b]] L = some (.int (a + b), L) := by
  simp [bltD, seqOf, lstOf, intsOf]
theorem steps_loop {k : Nat} (hk : 6 ≤ k) (t : Nat) {bs : List Bd} {s : Nat → Int} {n : Nat} (n1 : 1 ≤ n) (n2 : n ≤ 50) (hl : bs.length < 400) (hi : InB bs n) (hf : Fit bs s) {i j : Nat} (hi' : i < n) (hj : j < n) {L : Live} (ss : List Int) (h0 : ∀ x ∈ ss, -100 ≤ x ∧ x ≤ 100) (hs : ∀ v, atO (farB bs n i) j = some v → ∀ x ∈ ss, x = 0 ∨ x = -1) {x0 x6 x7 x8 x9 x10 x11 x12 : Option D} :
    ∃ y8 y9 y10, forS (T.cx k) [] (.slot 8) b__law_pair_right_0 (ss.map D.int) [x0, some (.int n), some (encB t bs), some (.int i), some (.int j), some (.lst 0 (numD (farB bs n i))), x6, x7, x8, x9, x10, x11, x12] L = .fl .nx [x0, some (.int n), some (encB t bs), some (.int i), some (.int j), some (.lst 0 (numD (farB bs n i))), x6, x7, y8, y9, y10, x11, x12] L := by
  obtain ⟨E', L', e, y8, y9, y10, rfl, rfl⟩ := forL_run (w := []) (g := .slot 8) (b := fun E' L' => evSs (T.cx k) b__law_pair_right_0 E' L') (ds := ss.map D.int)
    (fun q E' L' => ∃ y8 y9 y10, E' = [x0, some (.int n), some (encB t bs), some (.int i), some (.int j), some (.lst 0 (numD (farB bs n i))), x6, x7, y8, y9, y10, x11, x12] ∧ L' = L) (fun _ _ _ _ => rfl)
    (fun q E' L' hq hP => by
      obtain ⟨y8, y9, y10, rfl, rfl⟩ := hP
      have hq' : q < ss.length := by simpa using hq
      rw [List.getElem_map]
      obtain ⟨z9, z10, e⟩ := step_ok (k := k) hk t n1 n2 hl hi hf hi' hj (L := L') (step := ss[q]) (h0 _ (List.getElem_mem hq')) (fun v hv => hs v hv _ (List.getElem_mem hq')) (x0 := x0) (x6 := x6) (x7 := x7) (x9 := y9) (x10 := y10) (x11 := x11) (x12 := x12)
      exact ⟨_, _, _, rfl, .inl e, _, _, _, rfl, rfl⟩)
    (E := [x0, some (.int n), some (encB t bs), some (.int i), some (.int j), some (.lst 0 (numD (farB bs n i))), x6, x7, x8, x9, x10, x11, x12]) (L := L) ⟨_, _, _, rfl, rfl⟩
  exact ⟨y8, y9, y10, e⟩
theorem s_pair {k : Nat} (hk : 8 ≤ k) (t : Nat) {bs : List Bd} {s : Nat → Int} {n : Nat} (n1 : 1 ≤ n) (n2 : n ≤ 50) (hl : bs.length ≤ 400) (hi : InB bs n) (hf : Fit bs s) (lim : Lim bs) {L : Live} {p m : Nat} (hP : Pool L p m) (hm : m + 10 ≤ 10 ^ 9) :
    ∃ o', (T.cx k).φ 203 [.ref p, .int n, encB t bs] L = .ok (.bl true) (L.set p o') ∧ RS (m + 10) o' := by
  obtain ⟨k, rfl⟩ : ∃ m, k = m + 1 := ⟨k - 1, by omega⟩
  rw [goH 203 rfl rfl]
  show ∃ o', resOf (evSs (T.cx k) b__law_pair_right [some (.ref p), some (.int n), some (encB t bs), none, none, none, none, none, none, none, none, none, none] L) = _ ∧ _
  have hp := hP.lt
  obtain ⟨i, o1, e1, r1, i0, i1⟩ := drawS (k := k) (by omega) hP (by omega) n
  obtain ⟨j, o2, e2, r2, j0, j1⟩ := drawS (k := k) (by omega) (pool_set hp r1) (by omega) n
  rw [List.set_set] at e2
  obtain ⟨i, rfl⟩ := Int.eq_ofNat_of_zero_le i0
  obtain ⟨j, rfl⟩ := Int.eq_ofNat_of_zero_le j0
  have hi' : i < n := by omega
  have hj' : j < n := by omega
  obtain ⟨M, hM⟩ : ∃ M, M = L.set p o2 := ⟨_, rfl⟩
  have Ml : M.length = L.length := by rw [hM, List.length_set]
  have hMP : Pool M p (m + 1 + 1) := by rw [hM]; exact pool_set hp r2
  rw [← hM] at e2
  have fl : (farB bs n i).length = n := by rw [farB, itr_len, len_one]
  have c2 : callW (T.cx k) 202 [.int n, encB t bs, .int i] M = .ok (.lst 0 (numD (farB bs n i))) M := by
    rw [callW_pure (by simp [noRefs, noRef]), c_forced (by omega) t n2 hi hi', far_frc]
  have c6 : ∀ (N : Live) (a b : Nat), a < n → b < n → callW (T.cx k) 176 [.int n, encB t bs, .int a, .int b] N = .ok (optD (atO (farB bs n a) b)) N := fun N a b ha hb => by
    rw [callW_pure (by simp [noRefs, noRef])]
    exact c206 (by omega) t n1 n2 hl hi hf ha hb N
  obtain ⟨sb, hsb⟩ := bds_repr n2 hl hi lim t M
  obtain ⟨sv, hsv⟩ := num_repr (o := atO (farB bs n i) j) (fun v hv => far_abs n2 hl hi hi' lim hv) M
  have rb := rep_b hsb
  have rv := rep_b hsv
  have ix : ∀ N : Live, idxD (.lst 0 (numD (farB bs n i))) (.int j) N = some (optD (atO (farB bs n i) j)) := fun N => num_at (by omega)
  have z1 : MP.sizeOk 1 = true := szO (by omega)
  have z2 : MP.sizeOk 2 = true := szO (by omega)
  have z3 : MP.sizeOk 3 = true := szO (by omega)
  have c6a := c6 M i j hi' hj'
  have c6b := c6 M i i hi' hi'
  rw [far_self hi hf hi'] at c6b
  simp only [optD] at c6b
  have ln : bltD .len false [encB t bs] M = some (.int bs.length, M) := by
    show some (D.int ((bs.map encBd).length : Nat), M) = _
    rw [List.length_map]
  -- up to the sizes
  have s0 : ∀ rest, evSs (T.cx k) (.cons (.par [3, 4] (.cons (.call 161 (.cons (.var 0) (.cons (.var 1) .nil))) (.cons (.call 161 (.cons (.var 0) (.cons (.var 1) .nil))) .nil))) (.cons (.par [5, 6] (.cons (.call 202 (.cons (.var 1) (.cons (.var 2) (.cons (.var 3) .nil)))) (.cons (.blt .repr false (.cons (.var 2) .nil)) .nil))) (.cons (.ite (.or (.cmp .ne (.blt .repr false (.cons (.call 176 (.cons (.var 1) (.cons (.var 2) (.cons (.var 3) (.cons (.var 4) .nil))))) .nil)) (.blt .repr false (.cons (.idx (.var 5) (.var 4)) .nil))) (.cmp .ne (.blt .repr false (.cons (.var 2) .nil)) (.var 6))) (.cons (.ret (.con (.bl false))) .nil) .nil) (.cons (.ite (.cmp .ne (.call 176 (.cons (.var 1) (.cons (.var 2) (.cons (.var 3) (.cons (.var 3) .nil))))) (.con (.int 0))) (.cons (.ret (.con (.bl false))) .nil) .nil) rest)))) [some (.ref p), some (.int n), some (encB t bs), none, none, none, none, none, none, none, none, none, none] L = evSs (T.cx k) rest [some (.ref p), some (.int n), some (encB t bs), some (.int i), some (.int j), some (.lst 0 (numD (farB bs n i))), some (.str sb), none, none, none, none, none, none] M := fun rest => by
    simp only [Qaa,Qab,Qac,Qad,Qae,Qaf,Qag,Qah,Qai,Qaj,Qak,Qal,Qam,Qan,Qao,Qap,Qaq,Qar,Qas,Qat,Qau,Qav,Qaw,Qax,Qay,Qaz,QaA,QaB,QaC,QaD,QaE,QaF,QaG,QaH,QaI,QaJ,QaK,QaL,QaM,QaN,QaO,QaP,QaQ,QaR,QaS,QaT,QaU,QaV,QaW,QaX,QaY,QaZ,Qa0,Qa1,Qa2,Qa3,Qa4,Qa5,Qa6,Qa7,Qa8,Qa9,Qba,Qbb,Qbc,Qbd,Qbe,Qbf,Qbg,Qbh,Qbi,Qbj,Qbk,Qbl,Qbm,Qbn,Qbo,Qbp,Qbq,Qbr,Qbs,Qbt,Qbu,Qbv,Qbw,Qbx,Qby,Qbz,QbA,QbB,QbC,QbD,QbE,QbF,QbG,QbH,QbI,QbJ,QbK,QbL,QbM,QbN,QbO,QbP,QbQ,QbR,QbS,QbT,QbU,QbV,QbW,QbX,QbY,QbZ,Qb0,Qb1,Qb2,Qb3,Qb4,Qb5,Qb6,Qb7,Qb8,Qb9,Qca,Qcb,Qcc,Qcd,Qce,Qcf,Qcg,Qch,Qci,Qcj,Qck,Qcl,Qcm,Qcn,Qco,Qcp,Qcq,Qcr,Qcs,Qct,Qcu,Qcv,Qcw,Qcx,Qcy,Qcz,QcA,QcB,QcC,QcD,QcE,QcF,QcG,QcH,QcI,QcJ,QcK,QcL,QcM,QcN,QcO,QcP,QcQ,QcR,QcS,QcT,QcU,QcV,QcW,QcX,QcY,QcZ,Qc0,Qc1,Qc2,Qc3,Qc4,Qc5,Qc6,Qc7,Qc8,Qc9,Qda,Qdb,Qdc,Qdd,Qde,Qdf,Qdg,Qdh,Qdi,Qdj,Qdk,Qdl,Qdm,Qdn,Qdo,Qdp,Qdq,Qdr,Qds,Qdt,Qdu,Qdv,Qdw,Qdx,Qdy,List.getElem?_cons_zero, List.getElem?_cons_succ, List.set_cons_zero, List.set_cons_succ, List.length_cons, List.length_nil, Nat.zero_add, Nat.reduceAdd, Nat.reduceLT, if_true, if_false, Bool.false_eq_true, Bool.not_true, Bool.not_false, List.map_nil, List.map_cons, e1, e2, Qcc,c2, rb, c6a, rv, ix, c6b, decide_true, Bool.not_true]
  by_cases q4 : bs.length = 400
  · have l4 : ((bs.length : Nat) : Int) = 400 := by omega
    refine ⟨o2, ?_, RS_mono r2 (by omega)⟩
    have e := s0 (.cons (.ite (.cmp .eq (.blt .len false (.cons (.var 2) .nil)) (.con (.int 400))) (.cons (.ret (.con (.bl true))) .nil) .nil) (.cons (.asg (.nm (.slot 7)) (.idx (.lst false (.cons (.lst false (.cons (.neg (.con (.int 40))) (.cons (.con (.int 0)) (.cons (.con (.int 40)) .nil)))) (.cons (.lst false (.cons (.neg (.con (.int 1))) (.cons (.con (.int 0)) .nil))) .nil))) (.blt .int false (.cons (.cmp .isn (.idx (.var 5) (.var 4)) (.con .non)) .nil)))) (.cons (.for_ (.slot 8) (.val (.var 7)) b__law_pair_right_0) (.cons (.asg (.nm (.slot 11)) (.call 161 (.cons (.var 0) (.cons (.var 1) .nil)))) (.cons (.asg (.nm (.slot 12)) (.lst false (.cons (.call 176 (.cons (.var 1) (.cons (.var 2) (.cons (.var 3) (.cons (.var 11) .nil))))) (.cons (.call 176 (.cons (.var 1) (.cons (.var 2) (.cons (.var 11) (.cons (.var 4) .nil))))) .nil)))) (.cons (.ret (.or (.cmp .in_ (.con .non) (.var 12)) (.and (.cmp .isn (.idx (.var 5) (.var 4)) (.con .non)) (.cmp .ge (.idx (.var 5) (.var 4)) (.blt .sum false (.cons (.var 12) .nil)))))) .nil))))))
    rw [← hM]
    refine (congrArg resOf e).trans ?_
    simp only [Qaa,Qab,Qac,Qad,Qae,Qaf,Qag,Qah,Qai,Qaj,Qak,Qal,Qam,Qan,Qao,Qap,Qaq,Qar,Qas,Qat,Qau,Qav,Qaw,Qax,Qay,Qaz,QaA,QaB,QaC,QaD,QaE,QaF,QaG,QaH,QaI,QaJ,QaK,QaL,QaM,QaN,QaO,QaP,QaQ,QaR,QaS,QaT,QaU,QaV,QaW,QaX,QaY,QaZ,Qa0,Qa1,Qa2,Qa3,Qa4,Qa5,Qa6,Qa7,Qa8,Qa9,Qba,Qbb,Qbc,Qbd,Qbe,Qbf,Qbg,Qbh,Qbi,Qbj,Qbk,Qbl,Qbm,Qbn,Qbo,Qbp,Qbq,Qbr,Qbs,Qbt,Qbu,Qbv,Qbw,Qbx,Qby,Qbz,QbA,QbB,QbC,QbD,QbE,QbF,QbG,QbH,QbI,QbJ,QbK,QbL,QbM,QbN,QbO,QbP,QbQ,QbR,QbS,QbT,QbU,QbV,QbW,QbX,QbY,QbZ,Qb0,Qb1,Qb2,Qb3,Qb4,Qb5,Qb6,Qb7,Qb8,Qb9,Qca,Qcb,Qcc,Qcd,Qce,Qcf,Qcg,Qch,Qci,Qcj,Qck,Qcl,Qcm,Qcn,Qco,Qcp,Qcq,Qcr,Qcs,Qct,Qcu,Qcv,Qcw,Qcx,Qcy,Qcz,QcA,QcB,QcC,QcD,QcE,QcF,QcG,QcH,QcI,QcJ,QcK,QcL,QcM,QcN,QcO,QcP,QcQ,QcR,QcS,QcT,QcU,QcV,QcW,QcX,QcY,QcZ,Qc0,Qc1,Qc2,Qc3,Qc4,Qc5,Qc6,Qc7,Qc8,Qc9,Qda,Qdb,Qdc,Qdd,Qde,Qdf,Qdg,Qdh,Qdi,Qdj,Qdk,Qdl,Qdm,Qdn,Qdo,Qdp,Qdq,Qdr,Qds,Qdt,Qdu,Qdv,Qdw,Qdx,Qdy,List.getElem?_cons_zero, List.getElem?_cons_succ, List.set_cons_zero, List.set_cons_succ, List.length_cons, List.length_nil, Nat.zero_add, Nat.reduceAdd, Nat.reduceLT, if_true, if_false, Bool.false_eq_true, Bool.not_true, Bool.not_false, List.map_nil, List.map_cons, ln, l4, decide_true]
  · have l4 : ¬ ((bs.length : Nat) : Int) = 400 := by omega
    -- the differences
    obtain ⟨ss, hss, h0, hs⟩ : ∃ ss : List Int, evE (T.cx k) (.idx (.lst false (.cons (.lst false (.cons (.neg (.con (.int 40))) (.cons (.con (.int 0)) (.cons (.con (.int 40)) .nil)))) (.cons (.lst false (.cons (.neg (.con (.int 1))) (.cons (.con (.int 0)) .nil))) .nil))) (.blt .int false (.cons (.cmp .isn (.idx (.var 5) (.var 4)) (.con .non)) .nil))) [some (.ref p), some (.int n), some (encB t bs), some (.int i), some (.int j), some (.lst 0 (numD (farB bs n i))), some (.str sb), none, none, none, none, none, none] M = .ok (.lst 0 (ss.map D.int)) M ∧ (∀ x ∈ ss, -100 ≤ x ∧ x ≤ 100) ∧ (∀ v, atO (farB bs n i) j = some v → ∀ x ∈ ss, x = 0 ∨ x = -1) := by
      cases q : atO (farB bs n i) j with
      | none =>
        rw [q] at ix
        simp only [optD] at ix
        refine ⟨[-40, 0, 40], ?_, fun x hx => ?_, fun v hv => by cases hv⟩
        · have i0 : idxD (.lst 0 [.lst 0 [.int (-40), .int 0, .int 40], .lst 0 [.int (-1), .int 0]]) (.int 0) M = some (.lst 0 [.int (-40), .int 0, .int 40]) := rfl
          simp only [Qaa,Qab,Qac,Qad,Qae,Qaf,Qag,Qah,Qai,Qaj,Qak,Qal,Qam,Qan,Qao,Qap,Qaq,Qar,Qas,Qat,Qau,Qav,Qaw,Qax,Qay,Qaz,QaA,QaB,QaC,QaD,QaE,QaF,QaG,QaH,QaI,QaJ,QaK,QaL,QaM,QaN,QaO,QaP,QaQ,QaR,QaS,QaT,QaU,QaV,QaW,QaX,QaY,QaZ,Qa0,Qa1,Qa2,Qa3,Qa4,Qa5,Qa6,Qa7,Qa8,Qa9,Qba,Qbb,Qbc,Qbd,Qbe,Qbf,Qbg,Qbh,Qbi,Qbj,Qbk,Qbl,Qbm,Qbn,Qbo,Qbp,Qbq,Qbr,Qbs,Qbt,Qbu,Qbv,Qbw,Qbx,Qby,Qbz,QbA,QbB,QbC,QbD,QbE,QbF,QbG,QbH,QbI,QbJ,QbK,QbL,QbM,QbN,QbO,QbP,QbQ,QbR,QbS,QbT,QbU,QbV,QbW,QbX,QbY,QbZ,Qb0,Qb1,Qb2,Qb3,Qb4,Qb5,Qb6,Qb7,Qb8,Qb9,Qca,Qcb,Qcc,Qcd,Qce,Qcf,Qcg,Qch,Qci,Qcj,Qck,Qcl,Qcm,Qcn,Qco,Qcp,Qcq,Qcr,Qcs,Qct,Qcu,Qcv,Qcw,Qcx,Qcy,Qcz,QcA,QcB,QcC,QcD,QcE,QcF,QcG,QcH,QcI,QcJ,QcK,QcL,QcM,QcN,QcO,QcP,QcQ,QcR,QcS,QcT,QcU,QcV,QcW,QcX,QcY,QcZ,Qc0,Qc1,Qc2,Qc3,Qc4,Qc5,Qc6,Qc7,Qc8,Qc9,Qda,Qdb,Qdc,Qdd,Qde,Qdf,Qdg,Qdh,Qdi,Qdj,Qdk,Qdl,Qdm,Qdn,Qdo,Qdp,Qdq,Qdr,Qds,Qdt,Qdu,Qdv,Qdw,Qdx,Qdy,List.getElem?_cons_zero, List.getElem?_cons_succ, List.set_cons_zero, List.set_cons_succ, List.length_cons, List.length_nil, Nat.zero_add, Nat.reduceAdd, Nat.reduceLT, if_true, if_false, Bool.false_eq_true, Bool.not_true, Bool.not_false, List.map_nil, List.map_cons, ix, z2, z3, Bool.not_true, Bool.false_eq_true, if_false, i0] <;> rfl
        · simp only [List.mem_cons, List.not_mem_nil, or_false] at hx
          rcases hx with rfl | rfl | rfl <;> decide
      | some v =>
        rw [q] at ix
        simp only [optD] at ix
        refine ⟨[-1, 0], ?_, fun x hx => ?_, fun v hv x hx => ?_⟩
        · have i1 : idxD (.lst 0 [.lst 0 [.int (-40), .int 0, .int 40], .lst 0 [.int (-1), .int 0]]) (.int 1) M = some (.lst 0 [.int (-1), .int 0]) := rfl
          simp only [Qaa,Qab,Qac,Qad,Qae,Qaf,Qag,Qah,Qai,Qaj,Qak,Qal,Qam,Qan,Qao,Qap,Qaq,Qar,Qas,Qat,Qau,Qav,Qaw,Qax,Qay,Qaz,QaA,QaB,QaC,QaD,QaE,QaF,QaG,QaH,QaI,QaJ,QaK,QaL,QaM,QaN,QaO,QaP,QaQ,QaR,QaS,QaT,QaU,QaV,QaW,QaX,QaY,QaZ,Qa0,Qa1,Qa2,Qa3,Qa4,Qa5,Qa6,Qa7,Qa8,Qa9,Qba,Qbb,Qbc,Qbd,Qbe,Qbf,Qbg,Qbh,Qbi,Qbj,Qbk,Qbl,Qbm,Qbn,Qbo,Qbp,Qbq,Qbr,Qbs,Qbt,Qbu,Qbv,Qbw,Qbx,Qby,Qbz,QbA,QbB,QbC,QbD,QbE,QbF,QbG,QbH,QbI,QbJ,QbK,QbL,QbM,QbN,QbO,QbP,QbQ,QbR,QbS,QbT,QbU,QbV,QbW,QbX,QbY,QbZ,Qb0,Qb1,Qb2,Qb3,Qb4,Qb5,Qb6,Qb7,Qb8,Qb9,Qca,Qcb,Qcc,Qcd,Qce,Qcf,Qcg,Qch,Qci,Qcj,Qck,Qcl,Qcm,Qcn,Qco,Qcp,Qcq,Qcr,Qcs,Qct,Qcu,Qcv,Qcw,Qcx,Qcy,Qcz,QcA,QcB,QcC,QcD,QcE,QcF,QcG,QcH,QcI,QcJ,QcK,QcL,QcM,QcN,QcO,QcP,QcQ,QcR,QcS,QcT,QcU,QcV,QcW,QcX,QcY,QcZ,Qc0,Qc1,Qc2,Qc3,Qc4,Qc5,Qc6,Qc7,Qc8,Qc9,Qda,Qdb,Qdc,Qdd,Qde,Qdf,Qdg,Qdh,Qdi,Qdj,Qdk,Qdl,Qdm,Qdn,Qdo,Qdp,Qdq,Qdr,Qds,Qdt,Qdu,Qdv,Qdw,Qdx,Qdy,List.getElem?_cons_zero, List.getElem?_cons_succ, List.set_cons_zero, List.set_cons_succ, List.length_cons, List.length_nil, Nat.zero_add, Nat.reduceAdd, Nat.reduceLT, if_true, if_false, Bool.false_eq_true, Bool.not_true, Bool.not_false, List.map_nil, List.map_cons, ix, z2, z3, Bool.not_false, if_true, i1] <;> rfl
        · simp only [List.mem_cons, List.not_mem_nil, or_false] at hx
          rcases hx with rfl | rfl <;> decide
        · simp only [List.mem_cons, List.not_mem_nil, or_false] at hx
          rcases hx with rfl | rfl
          · exact .inr rfl
          · exact .inl rfl
    obtain ⟨y8, y9, y10, e6⟩ := steps_loop (k := k) (by omega) t n1 n2 (by omega) hi hf hi' hj' (L := M) ss h0 hs (x0 := some (.ref p)) (x6 := some (.str sb)) (x7 := some (.lst 0 (ss.map D.int))) (x8 := none) (x9 := none) (x10 := none) (x11 := none) (x12 := none)
    obtain ⟨u, o3, e3, r3, u0, u1⟩ := drawS (k := k) (by omega) hMP (by omega) n
    obtain ⟨u, rfl⟩ := Int.eq_ofNat_of_zero_le u0
    have hu : u < n := by omega
    rw [hM, List.set_set, ← hM] at e3
    refine ⟨o3, ?_, RS_mono r3 (by omega)⟩
    obtain ⟨N, hN⟩ : ∃ N, N = L.set p o3 := ⟨_, rfl⟩
    rw [← hN] at e3 ⊢
    have c6c := c6 N i u hi' hu
    have c6d := c6 N u j hu hj'
    have ixN' := ix N
    have inr := in_rows (atO (farB bs n i) u) (atO (farB bs n u) j) N
    have io : ∀ l : List D, itemsOf M (.lst 0 l) = some l := fun l => rfl
    have wo : ∀ l : List D, watch M (.lst 0 l) = [] := fun l => rfl
    have s5 : evS (T.cx k) (.asg (.nm (.slot 7)) (.idx (.lst false (.cons (.lst false (.cons (.neg (.con (.int 40))) (.cons (.con (.int 0)) (.cons (.con (.int 40)) .nil)))) (.cons (.lst false (.cons (.neg (.con (.int 1))) (.cons (.con (.int 0)) .nil))) .nil))) (.blt .int false (.cons (.cmp .isn (.idx (.var 5) (.var 4)) (.con .non)) .nil)))) [some (.ref p), some (.int n), some (encB t bs), some (.int i), some (.int j), some (.lst 0 (numD (farB bs n i))), some (.str sb), none, none, none, none, none, none] M = .fl .nx [some (.ref p), some (.int n), some (encB t bs), some (.int i), some (.int j), some (.lst 0 (numD (farB bs n i))), some (.str sb), some (.lst 0 (ss.map D.int)), none, none, none, none, none] M := by
      rw [QbZ,hss]; rfl
    have e := s0 (.cons (.ite (.cmp .eq (.blt .len false (.cons (.var 2) .nil)) (.con (.int 400))) (.cons (.ret (.con (.bl true))) .nil) .nil) (.cons (.asg (.nm (.slot 7)) (.idx (.lst false (.cons (.lst false (.cons (.neg (.con (.int 40))) (.cons (.con (.int 0)) (.cons (.con (.int 40)) .nil)))) (.cons (.lst false (.cons (.neg (.con (.int 1))) (.cons (.con (.int 0)) .nil))) .nil))) (.blt .int false (.cons (.cmp .isn (.idx (.var 5) (.var 4)) (.con .non)) .nil)))) (.cons (.for_ (.slot 8) (.val (.var 7)) b__law_pair_right_0) (.cons (.asg (.nm (.slot 11)) (.call 161 (.cons (.var 0) (.cons (.var 1) .nil)))) (.cons (.asg (.nm (.slot 12)) (.lst false (.cons (.call 176 (.cons (.var 1) (.cons (.var 2) (.cons (.var 3) (.cons (.var 11) .nil))))) (.cons (.call 176 (.cons (.var 1) (.cons (.var 2) (.cons (.var 11) (.cons (.var 4) .nil))))) .nil)))) (.cons (.ret (.or (.cmp .in_ (.con .non) (.var 12)) (.and (.cmp .isn (.idx (.var 5) (.var 4)) (.con .non)) (.cmp .ge (.idx (.var 5) (.var 4)) (.blt .sum false (.cons (.var 12) .nil)))))) .nil))))))
    refine (congrArg resOf e).trans ?_
    have s4 : evS (T.cx k) (.ite (.cmp .eq (.blt .len false (.cons (.var 2) .nil)) (.con (.int 400))) (.cons (.ret (.con (.bl true))) .nil) .nil) [some (.ref p), some (.int n), some (encB t bs), some (.int i), some (.int j), some (.lst 0 (numD (farB bs n i))), some (.str sb), none, none, none, none, none, none] M = .fl .nx [some (.ref p), some (.int n), some (encB t bs), some (.int i), some (.int j), some (.lst 0 (numD (farB bs n i))), some (.str sb), none, none, none, none, none, none] M := by
      simp only [Qaa,Qab,Qac,Qad,Qae,Qaf,Qag,Qah,Qai,Qaj,Qak,Qal,Qam,Qan,Qao,Qap,Qaq,Qar,Qas,Qat,Qau,Qav,Qaw,Qax,Qay,Qaz,QaA,QaB,QaC,QaD,QaE,QaF,QaG,QaH,QaI,QaJ,QaK,QaL,QaM,QaN,QaO,QaP,QaQ,QaR,QaS,QaT,QaU,QaV,QaW,QaX,QaY,QaZ,Qa0,Qa1,Qa2,Qa3,Qa4,Qa5,Qa6,Qa7,Qa8,Qa9,Qba,Qbb,Qbc,Qbd,Qbe,Qbf,Qbg,Qbh,Qbi,Qbj,Qbk,Qbl,Qbm,Qbn,Qbo,Qbp,Qbq,Qbr,Qbs,Qbt,Qbu,Qbv,Qbw,Qbx,Qby,Qbz,QbA,QbB,QbC,QbD,QbE,QbF,QbG,QbH,QbI,QbJ,QbK,QbL,QbM,QbN,QbO,QbP,QbQ,QbR,QbS,QbT,QbU,QbV,QbW,QbX,QbY,QbZ,Qb0,Qb1,Qb2,Qb3,Qb4,Qb5,Qb6,Qb7,Qb8,Qb9,Qca,Qcb,Qcc,Qcd,Qce,Qcf,Qcg,Qch,Qci,Qcj,Qck,Qcl,Qcm,Qcn,Qco,Qcp,Qcq,Qcr,Qcs,Qct,Qcu,Qcv,Qcw,Qcx,Qcy,Qcz,QcA,QcB,QcC,QcD,QcE,QcF,QcG,QcH,QcI,QcJ,QcK,QcL,QcM,QcN,QcO,QcP,QcQ,QcR,QcS,QcT,QcU,QcV,QcW,QcX,QcY,QcZ,Qc0,Qc1,Qc2,Qc3,Qc4,Qc5,Qc6,Qc7,Qc8,Qc9,Qda,Qdb,Qdc,Qdd,Qde,Qdf,Qdg,Qdh,Qdi,Qdj,Qdk,Qdl,Qdm,Qdn,Qdo,Qdp,Qdq,Qdr,Qds,Qdt,Qdu,Qdv,Qdw,Qdx,Qdy,List.getElem?_cons_zero, List.getElem?_cons_succ, List.set_cons_zero, List.set_cons_succ, List.length_cons, List.length_nil, Nat.zero_add, Nat.reduceAdd, Nat.reduceLT, if_true, if_false, Bool.false_eq_true, Bool.not_true, Bool.not_false, List.map_nil, List.map_cons, ln, l4, decide_false]
    have s6 : evS (T.cx k) (.for_ (.slot 8) (.val (.var 7)) b__law_pair_right_0) [some (.ref p), some (.int n), some (encB t bs), some (.int i), some (.int j), some (.lst 0 (numD (farB bs n i))), some (.str sb), some (.lst 0 (ss.map D.int)), none, none, none, none, none] M = .fl .nx [some (.ref p), some (.int n), some (encB t bs), some (.int i), some (.int j), some (.lst 0 (numD (farB bs n i))), some (.str sb), some (.lst 0 (ss.map D.int)), y8, y9, y10, none, none] M := by
      simp only [Qaa,Qab,Qac,Qad,Qae,Qaf,Qag,Qah,Qai,Qaj,Qak,Qal,Qam,Qan,Qao,Qap,Qaq,Qar,Qas,Qat,Qau,Qav,Qaw,Qax,Qay,Qaz,QaA,QaB,QaC,QaD,QaE,QaF,QaG,QaH,QaI,QaJ,QaK,QaL,QaM,QaN,QaO,QaP,QaQ,QaR,QaS,QaT,QaU,QaV,QaW,QaX,QaY,QaZ,Qa0,Qa1,Qa2,Qa3,Qa4,Qa5,Qa6,Qa7,Qa8,Qa9,Qba,Qbb,Qbc,Qbd,Qbe,Qbf,Qbg,Qbh,Qbi,Qbj,Qbk,Qbl,Qbm,Qbn,Qbo,Qbp,Qbq,Qbr,Qbs,Qbt,Qbu,Qbv,Qbw,Qbx,Qby,Qbz,QbA,QbB,QbC,QbD,QbE,QbF,QbG,QbH,QbI,QbJ,QbK,QbL,QbM,QbN,QbO,QbP,QbQ,QbR,QbS,QbT,QbU,QbV,QbW,QbX,QbY,QbZ,Qb0,Qb1,Qb2,Qb3,Qb4,Qb5,Qb6,Qb7,Qb8,Qb9,Qca,Qcb,Qcc,Qcd,Qce,Qcf,Qcg,Qch,Qci,Qcj,Qck,Qcl,Qcm,Qcn,Qco,Qcp,Qcq,Qcr,Qcs,Qct,Qcu,Qcv,Qcw,Qcx,Qcy,Qcz,QcA,QcB,QcC,QcD,QcE,QcF,QcG,QcH,QcI,QcJ,QcK,QcL,QcM,QcN,QcO,QcP,QcQ,QcR,QcS,QcT,QcU,QcV,QcW,QcX,QcY,QcZ,Qc0,Qc1,Qc2,Qc3,Qc4,Qc5,Qc6,Qc7,Qc8,Qc9,Qda,Qdb,Qdc,Qdd,Qde,Qdf,Qdg,Qdh,Qdi,Qdj,Qdk,Qdl,Qdm,Qdn,Qdo,Qdp,Qdq,Qdr,Qds,Qdt,Qdu,Qdv,Qdw,Qdx,Qdy,List.getElem?_cons_zero, List.getElem?_cons_succ, List.set_cons_zero, List.set_cons_succ, List.length_cons, List.length_nil, Nat.zero_add, Nat.reduceAdd, Nat.reduceLT, if_true, if_false, Bool.false_eq_true, Bool.not_true, Bool.not_false, List.map_nil, List.map_cons, io, wo, e6]
    rw [QbS,s4, QbT,QbS,s5, QbT,QbS,s6, QbT]
    cases qa : atO (farB bs n i) u with
    | none =>
      rw [qa] at c6c inr
      have on : optD none = .non := rfl
      rw [on] at c6c inr
      rw [Option.isNone_none, Bool.true_or] at inr
      simp only [Qaa,Qab,Qac,Qad,Qae,Qaf,Qag,Qah,Qai,Qaj,Qak,Qal,Qam,Qan,Qao,Qap,Qaq,Qar,Qas,Qat,Qau,Qav,Qaw,Qax,Qay,Qaz,QaA,QaB,QaC,QaD,QaE,QaF,QaG,QaH,QaI,QaJ,QaK,QaL,QaM,QaN,QaO,QaP,QaQ,QaR,QaS,QaT,QaU,QaV,QaW,QaX,QaY,QaZ,Qa0,Qa1,Qa2,Qa3,Qa4,Qa5,Qa6,Qa7,Qa8,Qa9,Qba,Qbb,Qbc,Qbd,Qbe,Qbf,Qbg,Qbh,Qbi,Qbj,Qbk,Qbl,Qbm,Qbn,Qbo,Qbp,Qbq,Qbr,Qbs,Qbt,Qbu,Qbv,Qbw,Qbx,Qby,Qbz,QbA,QbB,QbC,QbD,QbE,QbF,QbG,QbH,QbI,QbJ,QbK,QbL,QbM,QbN,QbO,QbP,QbQ,QbR,QbS,QbT,QbU,QbV,QbW,QbX,QbY,QbZ,Qb0,Qb1,Qb2,Qb3,Qb4,Qb5,Qb6,Qb7,Qb8,Qb9,Qca,Qcb,Qcc,Qcd,Qce,Qcf,Qcg,Qch,Qci,Qcj,Qck,Qcl,Qcm,Qcn,Qco,Qcp,Qcq,Qcr,Qcs,Qct,Qcu,Qcv,Qcw,Qcx,Qcy,Qcz,QcA,QcB,QcC,QcD,QcE,QcF,QcG,QcH,QcI,QcJ,QcK,QcL,QcM,QcN,QcO,QcP,QcQ,QcR,QcS,QcT,QcU,QcV,QcW,QcX,QcY,QcZ,Qc0,Qc1,Qc2,Qc3,Qc4,Qc5,Qc6,Qc7,Qc8,Qc9,Qda,Qdb,Qdc,Qdd,Qde,Qdf,Qdg,Qdh,Qdi,Qdj,Qdk,Qdl,Qdm,Qdn,Qdo,Qdp,Qdq,Qdr,Qds,Qdt,Qdu,Qdv,Qdw,Qdx,Qdy,List.getElem?_cons_zero, List.getElem?_cons_succ, List.set_cons_zero, List.set_cons_succ, List.length_cons, List.length_nil, Nat.zero_add, Nat.reduceAdd, Nat.reduceLT, if_true, if_false, Bool.false_eq_true, Bool.not_true, Bool.not_false, List.map_nil, List.map_cons, e3, c6c, c6d, z2, inr]
    | some a =>
      cases qb : atO (farB bs n u) j with
      | none =>
        rw [qa] at c6c inr
        rw [qb] at c6d inr
        simp only [optD, Option.isNone_none, Bool.or_true] at c6c c6d inr
        simp only [Qaa,Qab,Qac,Qad,Qae,Qaf,Qag,Qah,Qai,Qaj,Qak,Qal,Qam,Qan,Qao,Qap,Qaq,Qar,Qas,Qat,Qau,Qav,Qaw,Qax,Qay,Qaz,QaA,QaB,QaC,QaD,QaE,QaF,QaG,QaH,QaI,QaJ,QaK,QaL,QaM,QaN,QaO,QaP,QaQ,QaR,QaS,QaT,QaU,QaV,QaW,QaX,QaY,QaZ,Qa0,Qa1,Qa2,Qa3,Qa4,Qa5,Qa6,Qa7,Qa8,Qa9,Qba,Qbb,Qbc,Qbd,Qbe,Qbf,Qbg,Qbh,Qbi,Qbj,Qbk,Qbl,Qbm,Qbn,Qbo,Qbp,Qbq,Qbr,Qbs,Qbt,Qbu,Qbv,Qbw,Qbx,Qby,Qbz,QbA,QbB,QbC,QbD,QbE,QbF,QbG,QbH,QbI,QbJ,QbK,QbL,QbM,QbN,QbO,QbP,QbQ,QbR,QbS,QbT,QbU,QbV,QbW,QbX,QbY,QbZ,Qb0,Qb1,Qb2,Qb3,Qb4,Qb5,Qb6,Qb7,Qb8,Qb9,Qca,Qcb,Qcc,Qcd,Qce,Qcf,Qcg,Qch,Qci,Qcj,Qck,Qcl,Qcm,Qcn,Qco,Qcp,Qcq,Qcr,Qcs,Qct,Qcu,Qcv,Qcw,Qcx,Qcy,Qcz,QcA,QcB,QcC,QcD,QcE,QcF,QcG,QcH,QcI,QcJ,QcK,QcL,QcM,QcN,QcO,QcP,QcQ,QcR,QcS,QcT,QcU,QcV,QcW,QcX,QcY,QcZ,Qc0,Qc1,Qc2,Qc3,Qc4,Qc5,Qc6,Qc7,Qc8,Qc9,Qda,Qdb,Qdc,Qdd,Qde,Qdf,Qdg,Qdh,Qdi,Qdj,Qdk,Qdl,Qdm,Qdn,Qdo,Qdp,Qdq,Qdr,Qds,Qdt,Qdu,Qdv,Qdw,Qdx,Qdy,List.getElem?_cons_zero, List.getElem?_cons_succ, List.set_cons_zero, List.set_cons_succ, List.length_cons, List.length_nil, Nat.zero_add, Nat.reduceAdd, Nat.reduceLT, if_true, if_false, Bool.false_eq_true, Bool.not_true, Bool.not_false, List.map_nil, List.map_cons, e3, c6c, c6d, z2, inr]
      | some b =>
        rw [qa] at c6c inr
        rw [qb] at c6d inr
        obtain ⟨v, hv, le⟩ := far_row hi hf hi' hu qa qb
        rw [hv] at ixN'
        simp only [optD, Option.isNone_some, Bool.or_false] at c6c c6d inr ixN'
        have sm := sum_rows a b N
        simp only [Qaa,Qab,Qac,Qad,Qae,Qaf,Qag,Qah,Qai,Qaj,Qak,Qal,Qam,Qan,Qao,Qap,Qaq,Qar,Qas,Qat,Qau,Qav,Qaw,Qax,Qay,Qaz,QaA,QaB,QaC,QaD,QaE,QaF,QaG,QaH,QaI,QaJ,QaK,QaL,QaM,QaN,QaO,QaP,QaQ,QaR,QaS,QaT,QaU,QaV,QaW,QaX,QaY,QaZ,Qa0,Qa1,Qa2,Qa3,Qa4,Qa5,Qa6,Qa7,Qa8,Qa9,Qba,Qbb,Qbc,Qbd,Qbe,Qbf,Qbg,Qbh,Qbi,Qbj,Qbk,Qbl,Qbm,Qbn,Qbo,Qbp,Qbq,Qbr,Qbs,Qbt,Qbu,Qbv,Qbw,Qbx,Qby,Qbz,QbA,QbB,QbC,QbD,QbE,QbF,QbG,QbH,QbI,QbJ,QbK,QbL,QbM,QbN,QbO,QbP,QbQ,QbR,QbS,QbT,QbU,QbV,QbW,QbX,QbY,QbZ,Qb0,Qb1,Qb2,Qb3,Qb4,Qb5,Qb6,Qb7,Qb8,Qb9,Qca,Qcb,Qcc,Qcd,Qce,Qcf,Qcg,Qch,Qci,Qcj,Qck,Qcl,Qcm,Qcn,Qco,Qcp,Qcq,Qcr,Qcs,Qct,Qcu,Qcv,Qcw,Qcx,Qcy,Qcz,QcA,QcB,QcC,QcD,QcE,QcF,QcG,QcH,QcI,QcJ,QcK,QcL,QcM,QcN,QcO,QcP,QcQ,QcR,QcS,QcT,QcU,QcV,QcW,QcX,QcY,QcZ,Qc0,Qc1,Qc2,Qc3,Qc4,Qc5,Qc6,Qc7,Qc8,Qc9,Qda,Qdb,Qdc,Qdd,Qde,Qdf,Qdg,Qdh,Qdi,Qdj,Qdk,Qdl,Qdm,Qdn,Qdo,Qdp,Qdq,Qdr,Qds,Qdt,Qdu,Qdv,Qdw,Qdx,Qdy,List.getElem?_cons_zero, List.getElem?_cons_succ, List.set_cons_zero, List.set_cons_succ, List.length_cons, List.length_nil, Nat.zero_add, Nat.reduceAdd, Nat.reduceLT, if_true, if_false, Bool.false_eq_true, Bool.not_true, Bool.not_false, List.map_nil, List.map_cons, e3, c6c, c6d, z2, inr, ixN', sm, le, decide_true, Bool.not_false]
end Law_k37
set_option maxHeartbeats 4000000
namespace Law_k37
open PySem hiding Act
open PySem.Spec PyProof.Rows L2 MP PB PBc
/-- the live bounds lent to a pair -/
theorem c_pair {k : Nat} (hk : 8 ≤ k) {bs : List Bd} {s : Nat → Int} {n : Nat} (n1 : 1 ≤ n) (n2 : n ≤ 50) (hl : bs.length ≤ 400) (hi : InB bs n) (hf : Fit bs s) (lim : Lim bs) {L : Live} {p w m : Nat} (hP : Pool L p m) (hm : m + 10 ≤ 10 ^ 9) (hw : L[w]? = some (.lst (bs.map encBd))) (hwp : w ≠ p) :
    ∃ o', callW (T.cx k) 203 [.ref p, .int n, .ref w] L = .ok (.bl true) (L.set p o') ∧ RS (m + 10) o' := by
  have hp := hP.lt
  obtain ⟨o, ho, hr⟩ := hP
  have hpw : p ∉ [w] := fun h => hwp (List.mem_singleton.mp h).symm
  have hl' : (T.cx k).liv 203 = [true] := by rw [liv_of (HasFn.h (f := 203) (d := f__law_pair_right))]; rfl
  obtain ⟨o', e, r⟩ := s_pair (k := k) hk (w + 1) n1 n2 hl hi hf lim (L := maskL [w] L) (p := p) (m := m) ⟨o, by rw [mask_get hpw]; exact ho, hr⟩ hm
  have i1 : idsAs L [true] [.ref p, .int n, .ref w] = [w] := by simp [idsAs, idsF_list (m := 11) hw (bds_noRef bs), idsF_noRef L 12 (d := .int n) rfl]
  have i2 : lendAs L [true] [.ref p, .int n, .ref w] = some [.ref p, .int n, encB (w + 1) bs] := by
    simp [lendAs, lendF_list (m := 10) hw (bds_noRef bs), lendF_noRef L 11 (d := .int n) rfl]
    rfl
  refine ⟨o', ?_, r⟩
  unfold callW
  simp only [hl', i1, i2, e]
  rw [back_draw hp hpw (rs_noTag r)]
  rfl
theorem c_loose {k : Nat} (hk : 8 ≤ k) {bs : List Bd} {s : Nat → Int} {n : Nat} (n1 : 1 ≤ n) (n2 : n ≤ 50) (hl : bs.length ≤ 400) (h0 : 0 < bs.length) (hi : InB bs n) (hf : Fit bs s) (lim : Lim bs) {L : Live} {p w m : Nat} (hP : Pool L p m) (hm : m + 10 ≤ 10 ^ 9) (hw : L[w]? = some (.lst (bs.map encBd))) (hwp : w ≠ p) :
    ∃ L', callW (T.cx k) 204 [.ref p, .int n, .ref w] L = .ok (.bl true) L' ∧ Pool L' p (m + 10) := by
  have hl' : (T.cx k).liv 204 = [true, false, true] := by rw [liv_of (HasFn.h (f := 204) (d := f__law_looser_right))]; rfl
  rw [callW_nil (by rw [hl']; simp [idsAs, idsF_noRef L 12 (d := .int n) rfl])]
  obtain ⟨k, rfl⟩ : ∃ m, k = m + 1 := ⟨k - 1, by omega⟩
  rw [goH 204 rfl rfl]
  show ∃ L', resOf (evSs (T.cx k) b__law_looser_right [some (.ref p), some (.int n), some (.ref w), none, none, none, none] L) = _ ∧ _
  have hp := hP.lt
  obtain ⟨x, o1, e1, r1, x0, x1⟩ := drawS (k := k) (by omega) hP (by omega) (bs.length : Nat)
  obtain ⟨x, rfl⟩ := Int.eq_ofNat_of_zero_le x0
  have hx : x < bs.length := by omega
  obtain ⟨b, hb⟩ : ∃ b, b = bs[x] := ⟨_, rfl⟩
  have hbm : b ∈ bs := by rw [hb]; exact List.getElem_mem hx
  obtain ⟨M, hM⟩ : ∃ M, M = L.set p o1 := ⟨_, rfl⟩
  have hMP : Pool M p (m + 1) := by rw [hM]; exact pool_set hp r1
  have wM : M[w]? = some (.lst (bs.map encBd)) := by rw [hM, List.getElem?_set_ne (Ne.symm hwp)]; exact hw
  rw [← hM] at e1
  have ln : bltD .len false [.ref w] L = some (.int bs.length, L) := by
    have : lenD L (.ref w) = some (bs.length : Int) := by simp [lenD, seqOf, lstOf, hw]
    simp [bltD, this]
  have tp : mthTy .pop M (.ref w) = some .list := by simp only [mthTy, wM]
  obtain ⟨b1, hb1⟩ : ∃ b1, b1 = bs.eraseIdx x := ⟨_, rfl⟩
  have pp : mthD .pop (.ref w) [.int x] M = some (encBd b, M.set w (.lst (b1.map encBd))) := by
    have ix : ixN (bs.map encBd).length (x : Int) = some x := PBc.ixN_nat (by rw [List.length_map]; exact hx)
    have er : ∀ (l : List Bd) (z : Nat), (l.map encBd).eraseIdx z = (l.eraseIdx z).map encBd := fun l => by
      induction l with
      | nil => intro z; rfl
      | cons a l ih => intro z; cases z with
        | zero => rfl
        | succ z => simp only [List.map_cons, List.eraseIdx_cons_succ, ih]
    simp only [mthD, wM, ix, List.getElem?_map, List.getElem?_eq_getElem hx, Option.map_some, hb, hb1, er]
  obtain ⟨N, hN⟩ : ∃ N, N = M.set w (.lst (b1.map encBd)) := ⟨_, rfl⟩
  rw [← hN] at pp
  have hNP : Pool N p (m + 1) := by rw [hN]; exact Pool.oth hMP hwp
  have wN : N[w]? = some (.lst (b1.map encBd)) := by rw [hN]; exact get_set (lt_of wM)
  obtain ⟨y, o2, e2, r2, y0, y1⟩ := drawS (k := k) (by omega) hNP (by omega) 9
  obtain ⟨O, hO⟩ : ∃ O, O = N.set p o2 := ⟨_, rfl⟩
  rw [← hO] at e2
  have hOP : Pool O p (m + 2) := by rw [hO]; exact pool_set hNP.lt r2
  have wO : O[w]? = some (.lst (b1.map encBd)) := by rw [hO, List.getElem?_set_ne (Ne.symm hwp)]; exact wN
  have ti : mthTy .insert N (.ref w) = some .list := by simp only [mthTy, wN]
  have ti2 : mthTy .insert O (.ref w) = some .list := by simp only [mthTy, wO]
  have b1l : b1.length = bs.length - 1 := by rw [hb1, List.length_eraseIdx, if_pos hx]
  obtain ⟨nb, hnb⟩ : ∃ nb : Bd, nb = ⟨b.i, b.j, b.d - 1 - y⟩ := ⟨_, rfl⟩
  obtain ⟨b2, hb2⟩ : ∃ b2, b2 = b1.take x ++ [nb] ++ b1.drop x := ⟨_, rfl⟩
  have ii : mthD .insert (.ref w) [.int x, .tup [.int b.i, .int b.j, .int (b.d - 1 - y)]] O = some (.non, O.set w (.lst (b2.map encBd))) := by
    have c1 : decide ((b1.map encBd).length < sizeLine) = true := decide_eq_true (by rw [List.length_map, sizeLine_eq]; omega)
    have c2 : decide ((0 : Int) ≤ x) = true := decide_eq_true (by omega)
    have c3 : decide ((x : Int) < 2 ^ 63) = true := decide_eq_true (by omega)
    simp only [mthD, wO, c1, c2, c3, Bool.and_self, if_true, hb2, hnb, List.map_append, List.map_take, List.map_drop, Int.toNat_natCast]
    rfl
  obtain ⟨Q, hQ⟩ : ∃ Q, Q = O.set w (.lst (b2.map encBd)) := ⟨_, rfl⟩
  rw [← hQ] at ii
  have wQ : Q[w]? = some (.lst (b2.map encBd)) := by rw [hQ]; exact get_set (lt_of wO)
  have sub : ∀ c ∈ b2, c ∈ bs ∨ c = nb := fun c hc => by
    rw [hb2] at hc
    have er : ∀ c ∈ b1, c ∈ bs := fun c hc => by rw [hb1] at hc; exact List.mem_of_mem_eraseIdx hc
    rcases List.mem_append.mp hc with hc | hc
    · rcases List.mem_append.mp hc with hc | hc
      · exact .inl (er c (List.mem_of_mem_take hc))
      · exact .inr (List.mem_singleton.mp hc)
    · exact .inl (er c (List.mem_of_mem_drop hc))
  obtain ⟨bi, bj⟩ := hi b hbm
  have bf := hf b hbm
  have bl := lim b hbm
  have hi2 : InB b2 n := fun c hc => by
    rcases sub c hc with hc | rfl
    · exact hi c hc
    · rw [hnb]; exact ⟨bi, bj⟩
  have hf2 : Fit b2 s := fun c hc => by
    rcases sub c hc with hc | rfl
    · exact hf c hc
    · rw [hnb]; simp only; omega
  have l2 : b2.length = bs.length := by rw [hb2]; simp; omega
  -- one bound may be a little greater than the others
  have far2 : ∀ v, atO (farB b2 n b.i) b.j = some v → v.natAbs < 10 ^ 40 := fun v hv => by
    have := abs_itr (M := 5 * 10 ^ 30) (by omega) (bs := b2) (fun c hc => by
      rcases sub c hc with hc | rfl
      · have := lim c hc; omega
      · rw [hnb]; simp only; omega) n (B := 0) (x := oneO n b.i) (fun k v hv => by
      rw [at_one bi] at hv
      split at hv
      · cases hv; omega
      · cases hv) (by rw [len_one]; exact hi2) b.j v hv
    have h1 : (5 * 10 ^ 30 : Int) * (b2.length : Nat) ≤ 5 * 10 ^ 30 * 400 := Int.mul_le_mul_of_nonneg_left (by omega) (by omega)
    have h2 : (5 * 10 ^ 30 : Int) * (b2.length : Nat) * (n : Nat) ≤ 5 * 10 ^ 30 * 400 * 50 := Int.mul_le_mul h1 (by omega) (by omega) (by omega)
    omega
  obtain ⟨sv, hsv⟩ := num_repr (o := atO (farB b2 n b.i) b.j) far2 Q
  have rv := rep_b hsv
  have fl : (farB b2 n b.i).length = n := by rw [farB, itr_len, len_one]
  have nt : ∀ x : Nums, noTag (.lst 0 (numD x)) = true := fun x => by
    have : noTags (numD x) = true := noTags_of fun d hd => by obtain ⟨o, _, rfl⟩ := List.mem_map.mp hd; cases o <;> rfl
    simp [noTag, this]
  have no : ∀ o : Option Int, noTag (optD o) = true := fun o => by cases o <;> rfl
  have cA : callW (T.cx k) 176 [.int n, .ref w, .int b.i, .int b.j] Q = .ok (optD (atO (farB b2 n b.i) b.j)) Q :=
    callW_mid wQ (by rw [liv_of (HasFn.h (f := 176) (d := f_least_difference))]; rfl) rfl rfl (no _) (c206 (by omega) _ n1 n2 (by omega) hi2 hf2 bi bj _)
  have cB : callW (T.cx k) 202 [.int n, .ref w, .int b.i] Q = .ok (.lst 0 (numD (farB b2 n b.i))) Q :=
    callW_mid wQ (by rw [liv_of (HasFn.h (f := 202) (d := f__law_forced))]; rfl) rfl rfl (nt _) (by rw [c_forced (by omega) _ n2 hi2 bi, far_frc])
  have ix : idxD (.lst 0 (numD (farB b2 n b.i))) (.int b.j) Q = some (optD (atO (farB b2 n b.i) b.j)) := num_at (by omega)
  have z3 : MP.sizeOk 3 = true := szO (by omega)
  refine ⟨Q, ?_, by rw [hQ]; exact (Pool.oth hOP hwp).mono (by omega)⟩
  simp only [encBd] at pp
  simp only [b__law_looser_right, Qaa,Qab,Qac,Qad,Qae,Qaf,Qag,Qah,Qai,Qaj,Qak,Qal,Qam,Qan,Qao,Qap,Qaq,Qar,Qas,Qat,Qau,Qav,Qaw,Qax,Qay,Qaz,QaA,QaB,QaC,QaD,QaE,QaF,QaG,QaH,QaI,QaJ,QaK,QaL,QaM,QaN,QaO,QaP,QaQ,QaR,QaS,QaT,QaU,QaV,QaW,QaX,QaY,QaZ,Qa0,Qa1,Qa2,Qa3,Qa4,Qa5,Qa6,Qa7,Qa8,Qa9,Qba,Qbb,Qbc,Qbd,Qbe,Qbf,Qbg,Qbh,Qbi,Qbj,Qbk,Qbl,Qbm,Qbn,Qbo,Qbp,Qbq,Qbr,Qbs,Qbt,Qbu,Qbv,Qbw,Qbx,Qby,Qbz,QbA,QbB,QbC,QbD,QbE,QbF,QbG,QbH,QbI,QbJ,QbK,QbL,QbM,QbN,QbO,QbP,QbQ,QbR,QbS,QbT,QbU,QbV,QbW,QbX,QbY,QbZ,Qb0,Qb1,Qb2,Qb3,Qb4,Qb5,Qb6,Qb7,Qb8,Qb9,Qca,Qcb,Qcc,Qcd,Qce,Qcf,Qcg,Qch,Qci,Qcj,Qck,Qcl,Qcm,Qcn,Qco,Qcp,Qcq,Qcr,Qcs,Qct,Qcu,Qcv,Qcw,Qcx,Qcy,Qcz,QcA,QcB,QcC,QcD,QcE,QcF,QcG,QcH,QcI,QcJ,QcK,QcL,QcM,QcN,QcO,QcP,QcQ,QcR,QcS,QcT,QcU,QcV,QcW,QcX,QcY,QcZ,Qc0,Qc1,Qc2,Qc3,Qc4,Qc5,Qc6,Qc7,Qc8,Qc9,Qda,Qdb,Qdc,Qdd,Qde,Qdf,Qdg,Qdh,Qdi,Qdj,Qdk,Qdl,Qdm,Qdn,Qdo,Qdp,Qdq,Qdr,Qds,Qdt,Qdu,Qdv,Qdw,Qdx,Qdy,List.getElem?_cons_zero, List.getElem?_cons_succ, List.set_cons_zero, List.set_cons_succ, List.length_cons, List.length_nil, Nat.zero_add, Nat.reduceAdd, Nat.reduceLT, if_true, if_false, Bool.false_eq_true, Bool.not_true, Bool.not_false, List.map_nil, List.map_cons, ln, e1, tp, pp, ti, e2, z3, ti2, ii, cA, rv, cB, ix, decide_true]
end Law_k37
set_option maxHeartbeats 4000000
namespace Law_k37
open PySem hiding Act
open PySem.Spec PyProof.Rows L2 MP PB PBc
theorem bdP_sh : ∀ bs : List Bd, PyData.canLayAll0 (bs.map bdP) = true ∧ PyData.depthAll (bs.map bdP) ≤ 1
  | [] => by simp [PyData.canLayAll0, PyData.depthAll]
  | b :: r => by
    obtain ⟨h1, h2⟩ := bdP_sh r
    constructor
    · simp [PyData.canLayAll0, PyData.canLay0, bdP, h1]
    · simp [PyData.depthAll, PyData.depth, bdP, h2] <;> omega
theorem bds_ne {L : Live} {w : Nat} {bs : List Bd} (h : L[w]? = some (.lst (bs.map encBd))) : cmpD .ne (.ref w) (.lst 0 []) L = some (!bs.isEmpty) := by
  have e1 : pyOf L (.ref w) = some (.list (bs.map bdP)) := by
    have e : mapO (MP.view L 11) (bs.map encBd) = some (bs.map bdP) := by
      refine mapO_get (by simp) fun i h1 h2 => ?_
      simp only [List.getElem_map]
      exact view_py L 11 _ _ (bd_py _) (by simp [bdP, PyData.depth, PyData.depthAll])
    have e2 : MP.view L 12 (.ref w) = some (.list (bs.map bdP)) := by
      rw [MP.view, h]
      simp only [e, Option.map_some]
    simp only [pyOf, toPy, e2]
  have e2 : pyOf L (.lst 0 []) = some (.list []) := by simp [pyOf, toPy, toPys]
  obtain ⟨h1, h2⟩ := bdP_sh bs
  have s1 : SeqAt.shaped (.list (bs.map bdP)) = true := by simp [SeqAt.shaped, PyData.canLay0, PyData.depth, h1]; omega
  have s2 : SeqAt.shaped (.list []) = true := by decide
  have sc : scal2 (.ref w) (.lst 0 []) = false := rfl
  simp only [cmpD, eqD, sc, Bool.false_eq_true, if_false, e1, e2, s1, s2, Bool.and_self, if_true, Option.map_some]
  cases bs <;> simp [PyData.eqv, PyData.eqvAll]
theorem sizes_ok {k : Nat} (hk : 9 ≤ k) {n : Nat} (n1 : 1 ≤ n) (n2 : n ≤ 50) (at' : Nat) {L : Live} {p m : Nat} (hP : Pool L p m) (hm : m + 4000 ≤ 10 ^ 9) {x0 x4 x5 x6 x7 x8 x9 : Option D} :
    ∃ (L' : Live) (y4 y5 y6 : Option D), evSs (T.cx k) b_law_1 [x0, some (.int at'), some (.ref p), some (.int n), x4, x5, x6, x7, x8, x9] L = .fl .nx [x0, some (.int at'), some (.ref p), some (.int n), y4, y5, y6, x7, x8, x9] L' ∧ Pool L' p (m + 4000) := by
  have z2 : MP.sizeOk 2 = true := szO (by omega)
  have z4 : MP.sizeOk 4 = true := szO (by omega)
  have z0 : MP.sizeOk 0 = true := szO (by omega)
  have hp := hP.lt
  obtain ⟨a, L1, e1, P1, S1, l1, a0, a1⟩ := draw (T := T) (k := k) (by omega) hP (by omega) 7
  obtain ⟨c, L2, e2, P2, S2, l2, c0, c1⟩ := draw (T := T) (k := k) (by omega) P1 (by omega) 4
  obtain ⟨a, rfl⟩ := Int.eq_ofNat_of_zero_le a0
  obtain ⟨g, hg, g4⟩ : ∃ g : Nat, (∀ M : Live, idxD (.lst 0 [.int 400, .int 50]) (.int (if decide ((0 : Int) < at') then 1 else 0)) M = some (.int g)) ∧ g ≤ 400 := by
    by_cases q : (0 : Int) < at'
    · exact ⟨50, fun M => by rw [decide_eq_true q]; rfl, by omega⟩
    · exact ⟨400, fun M => by rw [decide_eq_false q]; rfl, by omega⟩
  have mo := mul_oks (i := 2) (j := (n : Int)) (by omega) (by omega)
  have bm : ∀ M, binD .mul false (.int 2) (.int n) M = some (.int (2 * (n : Int)), M) := fun M => bMul false 2 n M mo
  obtain ⟨size, hs, s4⟩ : ∃ size : Nat, idxD (.lst 0 [.int a, .int n, .int (2 * (n : Int)), .int g]) (.int c) L2 = some (.int size) ∧ size ≤ 400 := by
    have : c = 0 ∨ c = 1 ∨ c = 2 ∨ c = 3 := by omega
    rcases this with rfl | rfl | rfl | rfl
    · exact ⟨a, rfl, by omega⟩
    · exact ⟨n, rfl, by omega⟩
    · exact ⟨2 * n, by show some (D.int (2 * (n : Int))) = _; simp, by omega⟩
    · exact ⟨g, rfl, g4⟩
  obtain ⟨bs, s, L3, e3, P3, l3, o3, w3, bl, bi, bf, lim⟩ := c_bnds (k := k) (by omega) P2 (by omega) n1 n2 (size := size) s4
  have wp : L2.length ≠ p := by omega
  have p3 := P3.lt
  -- three pairs
  obtain ⟨E', L4, e4, y6, rfl, o4, rfl, r4⟩ := forL_run (w := []) (g := .slot 6) (b := fun E' L' => evSs (T.cx k) b_law_0 E' L') (ds := (List.range 3).map fun q => D.int (q : Nat))
    (fun i E' L' => ∃ y6, E' = [x0, some (.int at'), some (.ref p), some (.int n), some (.lst 0 [.int a, .int n, .int (2 * (n : Int)), .int g]), some (.ref L2.length), y6, x7, x8, x9] ∧ ∃ o', L' = L3.set p o' ∧ RS (m + 1 + 1 + 3000 + 10 * i) o') (fun _ _ _ _ => rfl)
    (fun i E' L' hi hPP => by
      obtain ⟨y6, rfl, o', rfl, g1⟩ := hPP
      have hi' : i < 3 := by simpa using hi
      rw [rng1_get hi]
      obtain ⟨o2, e5, r5⟩ := c_pair (k := k) (by omega) n1 n2 (by omega) bi bf lim (L := L3.set p o') (pool_set p3 g1) (by omega) (by rw [List.getElem?_set_ne (Ne.symm wp)]; exact w3) wp
      rw [List.set_set] at e5
      refine ⟨_, _, L3.set p o2, rfl, .inl ?_, some (.int (i : Nat)), rfl, o2, rfl, RS_mono r5 (by omega)⟩
      simp only [b_law_0, Qaa,Qab,Qac,Qad,Qae,Qaf,Qag,Qah,Qai,Qaj,Qak,Qal,Qam,Qan,Qao,Qap,Qaq,Qar,Qas,Qat,Qau,Qav,Qaw,Qax,Qay,Qaz,QaA,QaB,QaC,QaD,QaE,QaF,QaG,QaH,QaI,QaJ,QaK,QaL,QaM,QaN,QaO,QaP,QaQ,QaR,QaS,QaT,QaU,QaV,QaW,QaX,QaY,QaZ,Qa0,Qa1,Qa2,Qa3,Qa4,Qa5,Qa6,Qa7,Qa8,Qa9,Qba,Qbb,Qbc,Qbd,Qbe,Qbf,Qbg,Qbh,Qbi,Qbj,Qbk,Qbl,Qbm,Qbn,Qbo,Qbp,Qbq,Qbr,Qbs,Qbt,Qbu,Qbv,Qbw,Qbx,Qby,Qbz,QbA,QbB,QbC,QbD,QbE,QbF,QbG,QbH,QbI,QbJ,QbK,QbL,QbM,QbN,QbO,QbP,QbQ,QbR,QbS,QbT,QbU,QbV,QbW,QbX,QbY,QbZ,Qb0,Qb1,Qb2,Qb3,Qb4,Qb5,Qb6,Qb7,Qb8,Qb9,Qca,Qcb,Qcc,Qcd,Qce,Qcf,Qcg,Qch,Qci,Qcj,Qck,Qcl,Qcm,Qcn,Qco,Qcp,Qcq,Qcr,Qcs,Qct,Qcu,Qcv,Qcw,Qcx,Qcy,Qcz,QcA,QcB,QcC,QcD,QcE,QcF,QcG,QcH,QcI,QcJ,QcK,QcL,QcM,QcN,QcO,QcP,QcQ,QcR,QcS,QcT,QcU,QcV,QcW,QcX,QcY,QcZ,Qc0,Qc1,Qc2,Qc3,Qc4,Qc5,Qc6,Qc7,Qc8,Qc9,Qda,Qdb,Qdc,Qdd,Qde,Qdf,Qdg,Qdh,Qdi,Qdj,Qdk,Qdl,Qdm,Qdn,Qdo,Qdp,Qdq,Qdr,Qds,Qdt,Qdu,Qdv,Qdw,Qdx,Qdy,List.getElem?_cons_zero, List.getElem?_cons_succ, List.set_cons_zero, List.set_cons_succ, List.length_cons, List.length_nil, Nat.zero_add, Nat.reduceAdd, Nat.reduceLT, if_true, if_false, Bool.false_eq_true, Bool.not_true, Bool.not_false, List.map_nil, List.map_cons, e5, Bool.not_true] <;> rfl)
    (E := [x0, some (.int at'), some (.ref p), some (.int n), some (.lst 0 [.int a, .int n, .int (2 * (n : Int)), .int g]), some (.ref L2.length), x6, x7, x8, x9]) (L := L3)
    (by
      obtain ⟨o, ho, hr⟩ := P3
      exact ⟨_, rfl, o, (set_self ho).symm, RS_mono hr (by omega)⟩)
  rw [List.length_map, List.length_range] at r4
  have w4 : (L3.set p o4)[L2.length]? = some (.lst (bs.map encBd)) := by rw [List.getElem?_set_ne (Ne.symm wp)]; exact w3
  have ne := bds_ne w4
  have r3 : rng1D (.int 3) = some ((List.range 3).map fun q => D.int (q : Nat)) := rng1_nat (by omega) (by omega)
  have e4' : forS (T.cx k) [] (.slot 6) b_law_0 ((List.range 3).map fun q => D.int (q : Nat)) [x0, some (.int at'), some (.ref p), some (.int n), some (.lst 0 [.int a, .int n, .int (2 * (n : Int)), .int g]), some (.ref L2.length), x6, x7, x8, x9] L3 = _ := e4
  cases hb : bs.isEmpty with
  | true =>
    rw [hb] at ne
    refine ⟨L3.set p o4, some (.lst 0 [.int a, .int n, .int (2 * (n : Int)), .int g]), some (.ref L2.length), y6, ?_, (pool_set p3 r4).mono (by omega)⟩
    simp only [b_law_1, Qaa,Qab,Qac,Qad,Qae,Qaf,Qag,Qah,Qai,Qaj,Qak,Qal,Qam,Qan,Qao,Qap,Qaq,Qar,Qas,Qat,Qau,Qav,Qaw,Qax,Qay,Qaz,QaA,QaB,QaC,QaD,QaE,QaF,QaG,QaH,QaI,QaJ,QaK,QaL,QaM,QaN,QaO,QaP,QaQ,QaR,QaS,QaT,QaU,QaV,QaW,QaX,QaY,QaZ,Qa0,Qa1,Qa2,Qa3,Qa4,Qa5,Qa6,Qa7,Qa8,Qa9,Qba,Qbb,Qbc,Qbd,Qbe,Qbf,Qbg,Qbh,Qbi,Qbj,Qbk,Qbl,Qbm,Qbn,Qbo,Qbp,Qbq,Qbr,Qbs,Qbt,Qbu,Qbv,Qbw,Qbx,Qby,Qbz,QbA,QbB,QbC,QbD,QbE,QbF,QbG,QbH,QbI,QbJ,QbK,QbL,QbM,QbN,QbO,QbP,QbQ,QbR,QbS,QbT,QbU,QbV,QbW,QbX,QbY,QbZ,Qb0,Qb1,Qb2,Qb3,Qb4,Qb5,Qb6,Qb7,Qb8,Qb9,Qca,Qcb,Qcc,Qcd,Qce,Qcf,Qcg,Qch,Qci,Qcj,Qck,Qcl,Qcm,Qcn,Qco,Qcp,Qcq,Qcr,Qcs,Qct,Qcu,Qcv,Qcw,Qcx,Qcy,Qcz,QcA,QcB,QcC,QcD,QcE,QcF,QcG,QcH,QcI,QcJ,QcK,QcL,QcM,QcN,QcO,QcP,QcQ,QcR,QcS,QcT,QcU,QcV,QcW,QcX,QcY,QcZ,Qc0,Qc1,Qc2,Qc3,Qc4,Qc5,Qc6,Qc7,Qc8,Qc9,Qda,Qdb,Qdc,Qdd,Qde,Qdf,Qdg,Qdh,Qdi,Qdj,Qdk,Qdl,Qdm,Qdn,Qdo,Qdp,Qdq,Qdr,Qds,Qdt,Qdu,Qdv,Qdw,Qdx,Qdy,List.getElem?_cons_zero, List.getElem?_cons_succ, List.set_cons_zero, List.set_cons_succ, List.length_cons, List.length_nil, Nat.zero_add, Nat.reduceAdd, Nat.reduceLT, if_true, if_false, Bool.false_eq_true, Bool.not_true, Bool.not_false, List.map_nil, List.map_cons, e1, bm, z0, z2, z4, hg, e2, hs, e3, r3, e4', ne, Bool.not_true]
  | false =>
    rw [hb] at ne
    have bp : 0 < bs.length := by cases bs with | nil => cases hb | cons _ _ => simp
    obtain ⟨L5, e5, P5⟩ := c_loose (k := k) (by omega) n1 n2 (by omega) bp bi bf lim (pool_set p3 r4) (by omega) w4 wp
    refine ⟨L5, some (.lst 0 [.int a, .int n, .int (2 * (n : Int)), .int g]), some (.ref L2.length), y6, ?_, P5.mono (by omega)⟩
    simp only [b_law_1, Qaa,Qab,Qac,Qad,Qae,Qaf,Qag,Qah,Qai,Qaj,Qak,Qal,Qam,Qan,Qao,Qap,Qaq,Qar,Qas,Qat,Qau,Qav,Qaw,Qax,Qay,Qaz,QaA,QaB,QaC,QaD,QaE,QaF,QaG,QaH,QaI,QaJ,QaK,QaL,QaM,QaN,QaO,QaP,QaQ,QaR,QaS,QaT,QaU,QaV,QaW,QaX,QaY,QaZ,Qa0,Qa1,Qa2,Qa3,Qa4,Qa5,Qa6,Qa7,Qa8,Qa9,Qba,Qbb,Qbc,Qbd,Qbe,Qbf,Qbg,Qbh,Qbi,Qbj,Qbk,Qbl,Qbm,Qbn,Qbo,Qbp,Qbq,Qbr,Qbs,Qbt,Qbu,Qbv,Qbw,Qbx,Qby,Qbz,QbA,QbB,QbC,QbD,QbE,QbF,QbG,QbH,QbI,QbJ,QbK,QbL,QbM,QbN,QbO,QbP,QbQ,QbR,QbS,QbT,QbU,QbV,QbW,QbX,QbY,QbZ,Qb0,Qb1,Qb2,Qb3,Qb4,Qb5,Qb6,Qb7,Qb8,Qb9,Qca,Qcb,Qcc,Qcd,Qce,Qcf,Qcg,Qch,Qci,Qcj,Qck,Qcl,Qcm,Qcn,Qco,Qcp,Qcq,Qcr,Qcs,Qct,Qcu,Qcv,Qcw,Qcx,Qcy,Qcz,QcA,QcB,QcC,QcD,QcE,QcF,QcG,QcH,QcI,QcJ,QcK,QcL,QcM,QcN,QcO,QcP,QcQ,QcR,QcS,QcT,QcU,QcV,QcW,QcX,QcY,QcZ,Qc0,Qc1,Qc2,Qc3,Qc4,Qc5,Qc6,Qc7,Qc8,Qc9,Qda,Qdb,Qdc,Qdd,Qde,Qdf,Qdg,Qdh,Qdi,Qdj,Qdk,Qdl,Qdm,Qdn,Qdo,Qdp,Qdq,Qdr,Qds,Qdt,Qdu,Qdv,Qdw,Qdx,Qdy,List.getElem?_cons_zero, List.getElem?_cons_succ, List.set_cons_zero, List.set_cons_succ, List.length_cons, List.length_nil, Nat.zero_add, Nat.reduceAdd, Nat.reduceLT, if_true, if_false, Bool.false_eq_true, Bool.not_true, Bool.not_false, List.map_nil, List.map_cons, e1, bm, z0, z2, z4, hg, e2, hs, e3, r3, e4', ne, e5, Bool.not_false, Bool.not_true]
theorem iter_ok {k : Nat} (hk : 9 ≤ k) (ns : List Int) (i : Nat) (hi : i ≤ 1000) (L : Live) (x2 x3 x4 x5 x6 x7 x8 x9 : Option D) :
    ∃ (L' : Live) (y2 y3 y4 y5 y6 : Option D), evSs (T.cx k) b_law_2 [some (.lst 0 (ns.map D.int)), some (.int i), x2, x3, x4, x5, x6, x7, x8, x9] L = .fl .nx [some (.lst 0 (ns.map D.int)), some (.int i), y2, y3, y4, y5, y6, x7, x8, x9] L' := by
  obtain ⟨o, e1, r1⟩ := s_pool (T := T) k (by omega) ns i (by omega) (by omega) L
  have cr : callW (T.cx k) 160 [.lst 0 (ns.map D.int), .int i] L = .ok (.ref L.length) (L ++ [o]) := by
    rw [callW_pure (by simp [noRefs, noRef, ints_noRef]), e1]
  have P0 : Pool (L ++ [o]) L.length 0 := ⟨o, by simp, r1⟩
  obtain ⟨a, L1, e2, P1, S1, l1, a0, a1⟩ := draw (T := T) (k := k) (by omega) P0 (by omega) 3
  obtain ⟨c, L2, e3, P2, S2, l2, c0, c1⟩ := draw (T := T) (k := k) (by omega) P1 (by omega) 9
  obtain ⟨a, rfl⟩ := Int.eq_ofNat_of_zero_le a0
  obtain ⟨c, rfl⟩ := Int.eq_ofNat_of_zero_le c0
  have z2 : MP.sizeOk 2 = true := szO (by omega)
  have z3 : MP.sizeOk 3 = true := szO (by omega)
  have eS : ∀ L : Live, bltD .len false [.lst 0 (ns.map D.int)] L = some (.int ns.length, L) := fun L => by
    show some (D.int ((ns.map D.int).length : Nat), L) = _
    rw [List.length_map]
  obtain ⟨g, hg, g1, g2⟩ : ∃ g : Nat, evE (T.cx k) (.idx (.lst false (.cons (.con (.int 50)) (.cons (.con (.int 20)) .nil))) (.blt .int false (.cons (.or (.cmp .gt (.var 1) (.con (.int 0))) (.cmp .gt (.blt .len false (.cons (.var 0) .nil)) (.con (.int 1)))) .nil))) [some (.lst 0 (ns.map D.int)), some (.int i), some (.ref L.length), x3, x4, x5, x6, x7, x8, x9] L2 = .ok (.int g) L2 ∧ 1 ≤ g ∧ g ≤ 50 := by
    have j0 : idxD (.lst 0 [.int 50, .int 20]) (.int 0) L2 = some (.int 50) := rfl
    have j1 : idxD (.lst 0 [.int 50, .int 20]) (.int 1) L2 = some (.int 20) := rfl
    by_cases q : (0 : Int) < i
    · exact ⟨20, by simp only [Qaa,Qab,Qac,Qad,Qae,Qaf,Qag,Qah,Qai,Qaj,Qak,Qal,Qam,Qan,Qao,Qap,Qaq,Qar,Qas,Qat,Qau,Qav,Qaw,Qax,Qay,Qaz,QaA,QaB,QaC,QaD,QaE,QaF,QaG,QaH,QaI,QaJ,QaK,QaL,QaM,QaN,QaO,QaP,QaQ,QaR,QaS,QaT,QaU,QaV,QaW,QaX,QaY,QaZ,Qa0,Qa1,Qa2,Qa3,Qa4,Qa5,Qa6,Qa7,Qa8,Qa9,Qba,Qbb,Qbc,Qbd,Qbe,Qbf,Qbg,Qbh,Qbi,Qbj,Qbk,Qbl,Qbm,Qbn,Qbo,Qbp,Qbq,Qbr,Qbs,Qbt,Qbu,Qbv,Qbw,Qbx,Qby,Qbz,QbA,QbB,QbC,QbD,QbE,QbF,QbG,QbH,QbI,QbJ,QbK,QbL,QbM,QbN,QbO,QbP,QbQ,QbR,QbS,QbT,QbU,QbV,QbW,QbX,QbY,QbZ,Qb0,Qb1,Qb2,Qb3,Qb4,Qb5,Qb6,Qb7,Qb8,Qb9,Qca,Qcb,Qcc,Qcd,Qce,Qcf,Qcg,Qch,Qci,Qcj,Qck,Qcl,Qcm,Qcn,Qco,Qcp,Qcq,Qcr,Qcs,Qct,Qcu,Qcv,Qcw,Qcx,Qcy,Qcz,QcA,QcB,QcC,QcD,QcE,QcF,QcG,QcH,QcI,QcJ,QcK,QcL,QcM,QcN,QcO,QcP,QcQ,QcR,QcS,QcT,QcU,QcV,QcW,QcX,QcY,QcZ,Qc0,Qc1,Qc2,Qc3,Qc4,Qc5,Qc6,Qc7,Qc8,Qc9,Qda,Qdb,Qdc,Qdd,Qde,Qdf,Qdg,Qdh,Qdi,Qdj,Qdk,Qdl,Qdm,Qdn,Qdo,Qdp,Qdq,Qdr,Qds,Qdt,Qdu,Qdv,Qdw,Qdx,Qdy,List.getElem?_cons_zero, List.getElem?_cons_succ, List.set_cons_zero, List.set_cons_succ, List.length_cons, List.length_nil, Nat.zero_add, Nat.reduceAdd, Nat.reduceLT, if_true, if_false, Bool.false_eq_true, Bool.not_true, Bool.not_false, List.map_nil, List.map_cons, z2, q, decide_true, if_true, j1] <;> rfl, by omega, by omega⟩
    · by_cases q2 : (1 : Int) < ns.length
      · exact ⟨20, by simp only [Qaa,Qab,Qac,Qad,Qae,Qaf,Qag,Qah,Qai,Qaj,Qak,Qal,Qam,Qan,Qao,Qap,Qaq,Qar,Qas,Qat,Qau,Qav,Qaw,Qax,Qay,Qaz,QaA,QaB,QaC,QaD,QaE,QaF,QaG,QaH,QaI,QaJ,QaK,QaL,QaM,QaN,QaO,QaP,QaQ,QaR,QaS,QaT,QaU,QaV,QaW,QaX,QaY,QaZ,Qa0,Qa1,Qa2,Qa3,Qa4,Qa5,Qa6,Qa7,Qa8,Qa9,Qba,Qbb,Qbc,Qbd,Qbe,Qbf,Qbg,Qbh,Qbi,Qbj,Qbk,Qbl,Qbm,Qbn,Qbo,Qbp,Qbq,Qbr,Qbs,Qbt,Qbu,Qbv,Qbw,Qbx,Qby,Qbz,QbA,QbB,QbC,QbD,QbE,QbF,QbG,QbH,QbI,QbJ,QbK,QbL,QbM,QbN,QbO,QbP,QbQ,QbR,QbS,QbT,QbU,QbV,QbW,QbX,QbY,QbZ,Qb0,Qb1,Qb2,Qb3,Qb4,Qb5,Qb6,Qb7,Qb8,Qb9,Qca,Qcb,Qcc,Qcd,Qce,Qcf,Qcg,Qch,Qci,Qcj,Qck,Qcl,Qcm,Qcn,Qco,Qcp,Qcq,Qcr,Qcs,Qct,Qcu,Qcv,Qcw,Qcx,Qcy,Qcz,QcA,QcB,QcC,QcD,QcE,QcF,QcG,QcH,QcI,QcJ,QcK,QcL,QcM,QcN,QcO,QcP,QcQ,QcR,QcS,QcT,QcU,QcV,QcW,QcX,QcY,QcZ,Qc0,Qc1,Qc2,Qc3,Qc4,Qc5,Qc6,Qc7,Qc8,Qc9,Qda,Qdb,Qdc,Qdd,Qde,Qdf,Qdg,Qdh,Qdi,Qdj,Qdk,Qdl,Qdm,Qdn,Qdo,Qdp,Qdq,Qdr,Qds,Qdt,Qdu,Qdv,Qdw,Qdx,Qdy,List.getElem?_cons_zero, List.getElem?_cons_succ, List.set_cons_zero, List.set_cons_succ, List.length_cons, List.length_nil, Nat.zero_add, Nat.reduceAdd, Nat.reduceLT, if_true, if_false, Bool.false_eq_true, Bool.not_true, Bool.not_false, List.map_nil, List.map_cons, z2, q, q2, eS, decide_true, decide_false, if_true, j1] <;> rfl, by omega, by omega⟩
      · exact ⟨50, by simp only [Qaa,Qab,Qac,Qad,Qae,Qaf,Qag,Qah,Qai,Qaj,Qak,Qal,Qam,Qan,Qao,Qap,Qaq,Qar,Qas,Qat,Qau,Qav,Qaw,Qax,Qay,Qaz,QaA,QaB,QaC,QaD,QaE,QaF,QaG,QaH,QaI,QaJ,QaK,QaL,QaM,QaN,QaO,QaP,QaQ,QaR,QaS,QaT,QaU,QaV,QaW,QaX,QaY,QaZ,Qa0,Qa1,Qa2,Qa3,Qa4,Qa5,Qa6,Qa7,Qa8,Qa9,Qba,Qbb,Qbc,Qbd,Qbe,Qbf,Qbg,Qbh,Qbi,Qbj,Qbk,Qbl,Qbm,Qbn,Qbo,Qbp,Qbq,Qbr,Qbs,Qbt,Qbu,Qbv,Qbw,Qbx,Qby,Qbz,QbA,QbB,QbC,QbD,QbE,QbF,QbG,QbH,QbI,QbJ,QbK,QbL,QbM,QbN,QbO,QbP,QbQ,QbR,QbS,QbT,QbU,QbV,QbW,QbX,QbY,QbZ,Qb0,Qb1,Qb2,Qb3,Qb4,Qb5,Qb6,Qb7,Qb8,Qb9,Qca,Qcb,Qcc,Qcd,Qce,Qcf,Qcg,Qch,Qci,Qcj,Qck,Qcl,Qcm,Qcn,Qco,Qcp,Qcq,Qcr,Qcs,Qct,Qcu,Qcv,Qcw,Qcx,Qcy,Qcz,QcA,QcB,QcC,QcD,QcE,QcF,QcG,QcH,QcI,QcJ,QcK,QcL,QcM,QcN,QcO,QcP,QcQ,QcR,QcS,QcT,QcU,QcV,QcW,QcX,QcY,QcZ,Qc0,Qc1,Qc2,Qc3,Qc4,Qc5,Qc6,Qc7,Qc8,Qc9,Qda,Qdb,Qdc,Qdd,Qde,Qdf,Qdg,Qdh,Qdi,Qdj,Qdk,Qdl,Qdm,Qdn,Qdo,Qdp,Qdq,Qdr,Qds,Qdt,Qdu,Qdv,Qdw,Qdx,Qdy,List.getElem?_cons_zero, List.getElem?_cons_succ, List.set_cons_zero, List.set_cons_succ, List.length_cons, List.length_nil, Nat.zero_add, Nat.reduceAdd, Nat.reduceLT, if_true, if_false, Bool.false_eq_true, Bool.not_true, Bool.not_false, List.map_nil, List.map_cons, z2, q, q2, eS, decide_false, Bool.false_eq_true, if_false, j0] <;> rfl, by omega, by omega⟩
  have lst : evE (T.cx k) (.lst false (.cons (.bin .add false (.con (.int 1)) (.call 161 (.cons (.var 2) (.cons (.con (.int 3)) .nil)))) (.cons (.bin .add false (.con (.int 2)) (.call 161 (.cons (.var 2) (.cons (.con (.int 9)) .nil)))) (.cons (.idx (.lst false (.cons (.con (.int 50)) (.cons (.con (.int 20)) .nil))) (.blt .int false (.cons (.or (.cmp .gt (.var 1) (.con (.int 0))) (.cmp .gt (.blt .len false (.cons (.var 0) .nil)) (.con (.int 1)))) .nil))) .nil)))) [some (.lst 0 (ns.map D.int)), some (.int i), some (.ref L.length), x3, x4, x5, x6, x7, x8, x9] (L ++ [o]) = .ok (.lst 0 [.int ((1 + a : Nat) : Int), .int ((2 + c : Nat) : Int), .int g]) L2 := by
    rw [QaH,Qbn,Qac,Qaa,Qad]
    simp only [QaM,Qbn,Qcs,Qct,Qaa,Qbm,Qbo,Qbp,QaN,List.getElem?_cons_succ, List.getElem?_cons_zero, e2, Qae,QcL,Qbw]
    rw [Qac,Qaa,Qad]
    simp only [QaM,Qbn,Qcs,Qct,Qaa,Qbm,Qbo,Qbp,QaN,List.getElem?_cons_succ, List.getElem?_cons_zero, e3, Qae,QcL,Qbw]
    rw [hg]
    simp only [Qbo,Qbp,Qbm,QaI,List.length_cons, List.length_nil, z3, if_true, QcE,Qbw]
    rfl
  obtain ⟨E', L', e, y3, y4, y5, y6, rfl, _⟩ := forL_run (w := []) (g := .slot 3) (b := fun E' L' => evSs (T.cx k) b_law_1 E' L') (ds := [D.int ((1 + a : Nat) : Int), .int ((2 + c : Nat) : Int), .int g])
    (fun q E' L' => ∃ y3 y4 y5 y6, E' = [some (.lst 0 (ns.map D.int)), some (.int i), some (.ref L.length), y3, y4, y5, y6, x7, x8, x9] ∧ Pool L' L.length (2 + 4000 * q)) (fun _ _ _ _ => rfl)
    (fun q E' L' hq hP => by
      obtain ⟨y3, y4, y5, y6, rfl, g3⟩ := hP
      have hq3 : q < 3 := by simpa using hq
      obtain ⟨n, hn, n1, n2⟩ : ∃ n : Nat, [D.int ((1 + a : Nat) : Int), .int ((2 + c : Nat) : Int), .int g][q] = .int n ∧ 1 ≤ n ∧ n ≤ 50 := by
        have : q = 0 ∨ q = 1 ∨ q = 2 := by omega
        rcases this with rfl | rfl | rfl
        · exact ⟨1 + a, rfl, by omega, by omega⟩
        · exact ⟨2 + c, rfl, by omega, by omega⟩
        · exact ⟨g, rfl, g1, g2⟩
      rw [hn]
      obtain ⟨L3, z4, z5, z6, e5, P5⟩ := sizes_ok (k := k) hk n1 n2 i g3 (by omega) (x0 := some (.lst 0 (ns.map D.int))) (x4 := y4) (x5 := y5) (x6 := y6) (x7 := x7) (x8 := x8) (x9 := x9)
      exact ⟨_, _, L3, rfl, .inl e5, _, z4, z5, z6, rfl, P5.mono (by omega)⟩)
    (E := [some (.lst 0 (ns.map D.int)), some (.int i), some (.ref L.length), x3, x4, x5, x6, x7, x8, x9]) (L := L2) ⟨_, _, _, _, rfl, P2.mono (by omega)⟩
  refine ⟨L', some (.ref L.length), y3, y4, y5, y6, ?_⟩
  have s0 : evS (T.cx k) (.asg (.nm (.slot 2)) (.call 160 (.cons (.var 0) (.cons (.var 1) .nil)))) [some (.lst 0 (ns.map D.int)), some (.int i), x2, x3, x4, x5, x6, x7, x8, x9] L = .fl .nx [some (.lst 0 (ns.map D.int)), some (.int i), some (.ref L.length), x3, x4, x5, x6, x7, x8, x9] (L ++ [o]) := by
    simp only [Qaa,Qab,Qac,Qad,Qae,Qaf,Qag,Qah,Qai,Qaj,Qak,Qal,Qam,Qan,Qao,Qap,Qaq,Qar,Qas,Qat,Qau,Qav,Qaw,Qax,Qay,Qaz,QaA,QaB,QaC,QaD,QaE,QaF,QaG,QaH,QaI,QaJ,QaK,QaL,QaM,QaN,QaO,QaP,QaQ,QaR,QaS,QaT,QaU,QaV,QaW,QaX,QaY,QaZ,Qa0,Qa1,Qa2,Qa3,Qa4,Qa5,Qa6,Qa7,Qa8,Qa9,Qba,Qbb,Qbc,Qbd,Qbe,Qbf,Qbg,Qbh,Qbi,Qbj,Qbk,Qbl,Qbm,Qbn,Qbo,Qbp,Qbq,Qbr,Qbs,Qbt,Qbu,Qbv,Qbw,Qbx,Qby,Qbz,QbA,QbB,QbC,QbD,QbE,QbF,QbG,QbH,QbI,QbJ,QbK,QbL,QbM,QbN,QbO,QbP,QbQ,QbR,QbS,QbT,QbU,QbV,QbW,QbX,QbY,QbZ,Qb0,Qb1,Qb2,Qb3,Qb4,Qb5,Qb6,Qb7,Qb8,Qb9,Qca,Qcb,Qcc,Qcd,Qce,Qcf,Qcg,Qch,Qci,Qcj,Qck,Qcl,Qcm,Qcn,Qco,Qcp,Qcq,Qcr,Qcs,Qct,Qcu,Qcv,Qcw,Qcx,Qcy,Qcz,QcA,QcB,QcC,QcD,QcE,QcF,QcG,QcH,QcI,QcJ,QcK,QcL,QcM,QcN,QcO,QcP,QcQ,QcR,QcS,QcT,QcU,QcV,QcW,QcX,QcY,QcZ,Qc0,Qc1,Qc2,Qc3,Qc4,Qc5,Qc6,Qc7,Qc8,Qc9,Qda,Qdb,Qdc,Qdd,Qde,Qdf,Qdg,Qdh,Qdi,Qdj,Qdk,Qdl,Qdm,Qdn,Qdo,Qdp,Qdq,Qdr,Qds,Qdt,Qdu,Qdv,Qdw,Qdx,Qdy,List.getElem?_cons_zero, List.getElem?_cons_succ, List.set_cons_zero, List.set_cons_succ, List.length_cons, List.length_nil, Nat.zero_add, Nat.reduceAdd, Nat.reduceLT, if_true, if_false, Bool.false_eq_true, Bool.not_true, Bool.not_false, List.map_nil, List.map_cons, cr]
  have e' : forS (T.cx k) [] (.slot 3) b_law_1 [D.int ((1 + a : Nat) : Int), .int ((2 + c : Nat) : Int), .int g] [some (.lst 0 (ns.map D.int)), some (.int i), some (.ref L.length), x3, x4, x5, x6, x7, x8, x9] L2 = _ := e
  rw [b_law_2, QbS,s0, QbT,QbS,Qcj,Qby,lst, Qbz,show itemsOf L2 (.lst 0 [.int ((1 + a : Nat) : Int), .int ((2 + c : Nat) : Int), .int g]) = some [.int ((1 + a : Nat) : Int), .int ((2 + c : Nat) : Int), .int g] from rfl, Qbx,QbA,show watch L2 (.lst 0 [.int ((1 + a : Nat) : Int), .int ((2 + c : Nat) : Int), .int g]) = [] from rfl, Qck,e']
  rfl
/-! ### the row of fifty -/
theorem chain_in : InB chainB 50 := fun b hb => by
  unfold chainB at hb
  rw [List.mem_reverse] at hb
  obtain ⟨q, hq, rfl⟩ := List.mem_map.mp hb
  have := List.mem_range.mp hq
  simp only; omega
theorem chain_len : chainB.length = 49 := by simp [chainB]
theorem chain_diff {k : Nat} (hk : 6 ≤ k) {i j : Nat} (hi : i < 50) (hj : j < 50) {o : Option Int} (h : (lftB chainB 51 (oneO 50 i)).map (fun y => atO y j) = some o) (L : Live) : callW (T.cx k) 176 [.int (50 : Nat), encB 0 chainB, .int i, .int j] L = .ok (optD o) L := by
  obtain ⟨z, hz⟩ := Option.isSome_iff_exists.mp chain_zero
  cases q : lftB chainB 51 (oneO 50 i) with
  | none => rw [q] at h; cases h
  | some y =>
    rw [q] at h
    simp only [Option.map_some, Option.some.injEq] at h
    obtain ⟨_, K, hK⟩ := lft_some 51 q
    rw [callW_pure (by simp [noRefs, noRef]), ← h]
    exact c_diff (T := T) (n := 50) (by omega) 0 (by omega) (by omega) (by rw [chain_len]; omega) chain_in hi hj hz q (by rw [hK, itr_len, len_one]) L
theorem lone_diff {k : Nat} (hk : 6 ≤ k) (L : Live) : callW (T.cx k) 176 [.int (1 : Nat), encB 0 [⟨0, 0, -5⟩], .int (0 : Nat), .int (0 : Nat)] L = .ok (optD (some 0)) L := by
  obtain ⟨h1, h2⟩ := chain_d
  obtain ⟨z, hz⟩ := Option.isSome_iff_exists.mp h2
  cases q : lftB [⟨0, 0, -5⟩] 2 (oneO 1 0) with
  | none => rw [q] at h1; cases h1
  | some y =>
    rw [q] at h1
    simp only [Option.map_some, Option.some.injEq] at h1
    obtain ⟨_, K, hK⟩ := lft_some 2 q
    rw [callW_pure (by simp [noRefs, noRef]), ← h1]
    exact c_diff (T := T) (n := 1) (by omega) 0 (by omega) (by omega) (by simp) (fun b hb => by rw [List.mem_singleton.mp hb]; simp) (by omega) (by omega) hz q (by rw [hK, itr_len, len_one]) L
theorem main (ns : List Int) (hn : ns.length ≤ 63) (hb : ∀ i ∈ ns, Builtin.Int.intBits i ≤ 1048576) : ∃ L, ((tabC dns ld.cl 1000).cx 30).φ 205 [.lst 0 (ns.map D.int)] [] = .ok (.bl true) L := by
  show ∃ L, (T.cx (29 + 1)).φ 205 [.lst 0 (ns.map D.int)] [] = .ok (.bl true) L
  rw [goH 205 rfl rfl]
  obtain ⟨t, ht, t1⟩ : ∃ t : Int, t = max 1 (min 6 (ns.length : Int)) ∧ t ≤ 6 := ⟨_, rfl, by omega⟩
  have eS : ∀ L : Live, lenD L (.lst 0 (ns.map D.int)) = some (ns.length : Int) := fun L => by simp [lenD, seqOf, lstOf]
  have hm : ∀ (c : Cxt) (E : Ev) (L : Live), E[0]? = some (some (.lst 0 (ns.map D.int))) → evE c (.blt .max false (.cons (.con (.int 1)) (.cons (.blt .min false (.cons (.con (.int 6)) (.cons (.blt .len false (.cons (.var 0) .nil)) .nil))) .nil))) E L = .ok (.int t) L := by
    intro c E L hE
    simp only [evE, evA, hE, bltD, eS, Res.bind_ok, opt, Option.map_some]
    rw [ht]
    congr 2
    rw [Int.max_def, Int.min_def]
    split <;> split <;> (try split) <;> (try split) <;> omega
  obtain ⟨E', L', e, y1, y2, y3, y4, y5, y6, rfl⟩ := forL_run (w := []) (g := .slot 1) (b := fun E' L' => evSs (T.cx 29) b_law_2 E' L') (ds := (List.range t.toNat).map fun q => D.int (q : Nat))
    (fun i E' L' => ∃ y1 y2 y3 y4 y5 y6 : Option D, E' = [some (.lst 0 (ns.map D.int)), y1, y2, y3, y4, y5, y6, none, none, none]) (fun _ _ _ _ => rfl) (fun i E' L' hi hP => by
      obtain ⟨y1, y2, y3, y4, y5, y6, rfl⟩ := hP
      have hi' : i < t.toNat := by simpa using hi
      rw [rng1_get hi]
      obtain ⟨L2, z2, z3, z4, z5, z6, e⟩ := iter_ok (k := 29) (by omega) ns i (by omega) L' y2 y3 y4 y5 y6 none none none
      exact ⟨_, _, L2, rfl, .inl e, _, z2, z3, z4, z5, z6, rfl⟩)
    (E := [some (.lst 0 (ns.map D.int)), none, none, none, none, none, none, none, none, none]) (L := []) ⟨none, none, none, none, none, none, rfl⟩
  refine ⟨L', ?_⟩
  show resOf (evSs (T.cx 29) b_law [some (.lst 0 (ns.map D.int)), none, none, none, none, none, none, none, none, none] []) = _
  rw [b_law, ss_for (w := []) (ds := (List.range t.toNat).map fun q => D.int (q : Nat)) (L1 := []) (evI_rng1 (hm _ _ _ rfl) (by omega) (by omega)) e]
  -- the chain
  have r49 : rng1D (.int 49) = some ((List.range 49).map fun q => D.int (q : Nat)) := rng1_nat (by omega) (by omega)
  have z1 : MP.sizeOk 1 = true := szO (by omega)
  have z2 : MP.sizeOk 2 = true := szO (by omega)
  have z3 : MP.sizeOk 3 = true := szO (by omega)
  have cm : cmpS (T.cx 29) [] (.slot 9) [some (.lst 0 (ns.map D.int)), y1, y2, y3, y4, y5, y6, none, none, none] .nil b_law_3 ((List.range 49).map fun q => D.int (q : Nat)) [] L' = .ok (((List.range 49).map fun q => (⟨q, q + 1, 2 - (q : Int)⟩ : Bd)).map encBd) L' := by
    have := compL_mapI (w := []) (g := .slot 9) (E := [some (.lst 0 (ns.map D.int)), y1, y2, y3, y4, y5, y6, none, none, none]) (e := fun E' L' => evE (T.cx 29) b_law_3 E' L') (xs := List.range 49) (f := fun q => D.int (q : Nat)) (h := fun q => encBd ⟨q, q + 1, 2 - (q : Int)⟩) (L := L') rfl (by rw [sizeLine_eq, List.length_range]; omega)
      (fun q hq => ⟨_, rfl, by simp only [b_law_3, Qaa,Qab,Qac,Qad,Qae,Qaf,Qag,Qah,Qai,Qaj,Qak,Qal,Qam,Qan,Qao,Qap,Qaq,Qar,Qas,Qat,Qau,Qav,Qaw,Qax,Qay,Qaz,QaA,QaB,QaC,QaD,QaE,QaF,QaG,QaH,QaI,QaJ,QaK,QaL,QaM,QaN,QaO,QaP,QaQ,QaR,QaS,QaT,QaU,QaV,QaW,QaX,QaY,QaZ,Qa0,Qa1,Qa2,Qa3,Qa4,Qa5,Qa6,Qa7,Qa8,Qa9,Qba,Qbb,Qbc,Qbd,Qbe,Qbf,Qbg,Qbh,Qbi,Qbj,Qbk,Qbl,Qbm,Qbn,Qbo,Qbp,Qbq,Qbr,Qbs,Qbt,Qbu,Qbv,Qbw,Qbx,Qby,Qbz,QbA,QbB,QbC,QbD,QbE,QbF,QbG,QbH,QbI,QbJ,QbK,QbL,QbM,QbN,QbO,QbP,QbQ,QbR,QbS,QbT,QbU,QbV,QbW,QbX,QbY,QbZ,Qb0,Qb1,Qb2,Qb3,Qb4,Qb5,Qb6,Qb7,Qb8,Qb9,Qca,Qcb,Qcc,Qcd,Qce,Qcf,Qcg,Qch,Qci,Qcj,Qck,Qcl,Qcm,Qcn,Qco,Qcp,Qcq,Qcr,Qcs,Qct,Qcu,Qcv,Qcw,Qcx,Qcy,Qcz,QcA,QcB,QcC,QcD,QcE,QcF,QcG,QcH,QcI,QcJ,QcK,QcL,QcM,QcN,QcO,QcP,QcQ,QcR,QcS,QcT,QcU,QcV,QcW,QcX,QcY,QcZ,Qc0,Qc1,Qc2,Qc3,Qc4,Qc5,Qc6,Qc7,Qc8,Qc9,Qda,Qdb,Qdc,Qdd,Qde,Qdf,Qdg,Qdh,Qdi,Qdj,Qdk,Qdl,Qdm,Qdn,Qdo,Qdp,Qdq,Qdr,Qds,Qdt,Qdu,Qdv,Qdw,Qdx,Qdy,List.getElem?_cons_zero, List.getElem?_cons_succ, List.set_cons_zero, List.set_cons_succ, List.length_cons, List.length_nil, Nat.zero_add, Nat.reduceAdd, Nat.reduceLT, if_true, if_false, Bool.false_eq_true, Bool.not_true, Bool.not_false, List.map_nil, List.map_cons, z3] <;> rfl⟩) (acc := []) (by rw [sizeLine_eq, List.length_range]; simp)
    rw [List.nil_append] at this
    rw [List.map_map]
    exact this
  have rv : evE (T.cx 29) (.rev false (.comp false [8, 9] (.slot 9) (.rng1 (.con (.int 49))) .nil b_law_3)) [some (.lst 0 (ns.map D.int)), y1, y2, y3, y4, y5, y6, none, none, none] L' = .ok (encB 0 chainB) L' := by
    have c : evE (T.cx 29) (.comp false [8, 9] (.slot 9) (.rng1 (.con (.int 49))) .nil b_law_3) [some (.lst 0 (ns.map D.int)), y1, y2, y3, y4, y5, y6, none, none, none] L' = .ok (.lst 0 (((List.range 49).map fun q => (⟨q, q + 1, 2 - (q : Int)⟩ : Bd)).map encBd)) L' := by
      simp only [Qaa,Qab,Qac,Qad,Qae,Qaf,Qag,Qah,Qai,Qaj,Qak,Qal,Qam,Qan,Qao,Qap,Qaq,Qar,Qas,Qat,Qau,Qav,Qaw,Qax,Qay,Qaz,QaA,QaB,QaC,QaD,QaE,QaF,QaG,QaH,QaI,QaJ,QaK,QaL,QaM,QaN,QaO,QaP,QaQ,QaR,QaS,QaT,QaU,QaV,QaW,QaX,QaY,QaZ,Qa0,Qa1,Qa2,Qa3,Qa4,Qa5,Qa6,Qa7,Qa8,Qa9,Qba,Qbb,Qbc,Qbd,Qbe,Qbf,Qbg,Qbh,Qbi,Qbj,Qbk,Qbl,Qbm,Qbn,Qbo,Qbp,Qbq,Qbr,Qbs,Qbt,Qbu,Qbv,Qbw,Qbx,Qby,Qbz,QbA,QbB,QbC,QbD,QbE,QbF,QbG,QbH,QbI,QbJ,QbK,QbL,QbM,QbN,QbO,QbP,QbQ,QbR,QbS,QbT,QbU,QbV,QbW,QbX,QbY,QbZ,Qb0,Qb1,Qb2,Qb3,Qb4,Qb5,Qb6,Qb7,Qb8,Qb9,Qca,Qcb,Qcc,Qcd,Qce,Qcf,Qcg,Qch,Qci,Qcj,Qck,Qcl,Qcm,Qcn,Qco,Qcp,Qcq,Qcr,Qcs,Qct,Qcu,Qcv,Qcw,Qcx,Qcy,Qcz,QcA,QcB,QcC,QcD,QcE,QcF,QcG,QcH,QcI,QcJ,QcK,QcL,QcM,QcN,QcO,QcP,QcQ,QcR,QcS,QcT,QcU,QcV,QcW,QcX,QcY,QcZ,Qc0,Qc1,Qc2,Qc3,Qc4,Qc5,Qc6,Qc7,Qc8,Qc9,Qda,Qdb,Qdc,Qdd,Qde,Qdf,Qdg,Qdh,Qdi,Qdj,Qdk,Qdl,Qdm,Qdn,Qdo,Qdp,Qdq,Qdr,Qds,Qdt,Qdu,Qdv,Qdw,Qdx,Qdy,List.getElem?_cons_zero, List.getElem?_cons_succ, List.set_cons_zero, List.set_cons_succ, List.length_cons, List.length_nil, Nat.zero_add, Nat.reduceAdd, Nat.reduceLT, if_true, if_false, Bool.false_eq_true, Bool.not_true, Bool.not_false, List.map_nil, List.map_cons, r49, cm]
    rw [evE, c, Res.bind_ok]
    have : revD false (.lst 0 (((List.range 49).map fun q => (⟨q, q + 1, 2 - (q : Int)⟩ : Bd)).map encBd)) L' = some (encB 0 chainB, L') := by
      simp only [revD, lstOf, newL, Bool.false_eq_true, if_false, encB, chainB, List.map_reverse]
    rw [this]
    rfl
  have d1 := chain_diff (k := 29) (by omega) (i := 0) (j := 49) (by omega) (by omega) chain_a L'
  have d2 := chain_diff (k := 29) (by omega) (i := 3) (j := 5) (by omega) (by omega) chain_b L'
  have d3 := chain_diff (k := 29) (by omega) (i := 5) (j := 3) (by omega) (by omega) chain_c L'
  have d4 := lone_diff (k := 29) (by omega) L'
  have nw := (num_cmp (L := L') (a := .lst 0 [.int (98 - 1176), .int (-3)]) (b := .lst 0 [.int (98 - 1176), .int (-3)]) (x := [some (98 - 1176), some (-3)]) (y := [some (98 - 1176), some (-3)]) (pyOf_toPy (pyN_py 0 [some (98 - 1176), some (-3)])) (pyOf_toPy (pyN_py 0 [some (98 - 1176), some (-3)])) rfl).2
  have ew := (num_cmp (L := L') (a := .lst 0 [.non, .int 0]) (b := .lst 0 [.non, .int 0]) (x := [none, some 0]) (y := [none, some 0]) (pyOf_toPy (pyN_py 0 [none, some 0])) (pyOf_toPy (pyN_py 0 [none, some 0])) rfl).1
  rw [decide_eq_true rfl] at nw ew
  have c0 : ((0 : Nat) : Int) = 0 := rfl
  have c1 : ((1 : Nat) : Int) = 1 := rfl
  have c3 : ((3 : Nat) : Int) = 3 := rfl
  have c5 : ((5 : Nat) : Int) = 5 := rfl
  have c49 : ((49 : Nat) : Int) = 49 := rfl
  have c50 : ((50 : Nat) : Int) = 50 := rfl
  rw [c50, c0, c49] at d1
  rw [c50, c3, c5] at d2
  rw [c50, c5, c3] at d3
  rw [c1, c0] at d4
  have el : encB 0 [⟨0, 0, -5⟩] = .lst 0 [.tup [.int 0, .int 0, .int (-5)]] := rfl
  rw [el] at d4
  have oa : ∀ v, optD (some v) = .int v := fun v => rfl
  have on : optD none = .non := rfl
  rw [oa] at d1 d2 d4
  rw [on] at d3
  have sA : evS (T.cx 29) (.asg (.nm (.slot 7)) (.rev false (.comp false [8, 9] (.slot 9) (.rng1 (.con (.int 49))) .nil b_law_3))) [some (.lst 0 (ns.map D.int)), y1, y2, y3, y4, y5, y6, none, none, none] L' = .fl .nx [some (.lst 0 (ns.map D.int)), y1, y2, y3, y4, y5, y6, some (encB 0 chainB), none, none] L' := by
    rw [QbZ,rv]; rfl
  rw [QbS,sA, QbT]
  simp only [Qaa,Qab,Qac,Qad,Qae,Qaf,Qag,Qah,Qai,Qaj,Qak,Qal,Qam,Qan,Qao,Qap,Qaq,Qar,Qas,Qat,Qau,Qav,Qaw,Qax,Qay,Qaz,QaA,QaB,QaC,QaD,QaE,QaF,QaG,QaH,QaI,QaJ,QaK,QaL,QaM,QaN,QaO,QaP,QaQ,QaR,QaS,QaT,QaU,QaV,QaW,QaX,QaY,QaZ,Qa0,Qa1,Qa2,Qa3,Qa4,Qa5,Qa6,Qa7,Qa8,Qa9,Qba,Qbb,Qbc,Qbd,Qbe,Qbf,Qbg,Qbh,Qbi,Qbj,Qbk,Qbl,Qbm,Qbn,Qbo,Qbp,Qbq,Qbr,Qbs,Qbt,Qbu,Qbv,Qbw,Qbx,Qby,Qbz,QbA,QbB,QbC,QbD,QbE,QbF,QbG,QbH,QbI,QbJ,QbK,QbL,QbM,QbN,QbO,QbP,QbQ,QbR,QbS,QbT,QbU,QbV,QbW,QbX,QbY,QbZ,Qb0,Qb1,Qb2,Qb3,Qb4,Qb5,Qb6,Qb7,Qb8,Qb9,Qca,Qcb,Qcc,Qcd,Qce,Qcf,Qcg,Qch,Qci,Qcj,Qck,Qcl,Qcm,Qcn,Qco,Qcp,Qcq,Qcr,Qcs,Qct,Qcu,Qcv,Qcw,Qcx,Qcy,Qcz,QcA,QcB,QcC,QcD,QcE,QcF,QcG,QcH,QcI,QcJ,QcK,QcL,QcM,QcN,QcO,QcP,QcQ,QcR,QcS,QcT,QcU,QcV,QcW,QcX,QcY,QcZ,Qc0,Qc1,Qc2,Qc3,Qc4,Qc5,Qc6,Qc7,Qc8,Qc9,Qda,Qdb,Qdc,Qdd,Qde,Qdf,Qdg,Qdh,Qdi,Qdj,Qdk,Qdl,Qdm,Qdn,Qdo,Qdp,Qdq,Qdr,Qds,Qdt,Qdu,Qdv,Qdw,Qdx,Qdy,List.getElem?_cons_zero, List.getElem?_cons_succ, List.set_cons_zero, List.set_cons_succ, List.length_cons, List.length_nil, Nat.zero_add, Nat.reduceAdd, Nat.reduceLT, if_true, if_false, Bool.false_eq_true, Bool.not_true, Bool.not_false, List.map_nil, List.map_cons, d1, d2, z1, z2, z3, nw, d3, d4, ew, Bool.not_true]
end Law_k37
set_option maxHeartbeats 4000000
namespace Law_k37
open PySem PySem.Spec PyProof.Rows L2 MP PB PBc
theorem ok_is_integer : d_is_integer.Ok ld.par := ⟨⟨rfl, rfl, rfl, by decide +kernel, by decide +kernel, by decide +kernel, by decide +kernel⟩, rfl, rfl, by kernel_rfl, fun _ _ _ _ _ _ us hl => match us, hl with | [_, _, _], _ => rfl⟩
theorem ok_is_bound : d_is_bound.Ok ld.par := ⟨⟨rfl, rfl, rfl, by decide +kernel, by decide +kernel, by decide +kernel, by decide +kernel⟩, rfl, rfl, by kernel_rfl, fun _ _ _ _ _ _ us hl => match us, hl with | [_, _], _ => rfl⟩
theorem ok_is_bounds : d_is_bounds.Ok ld.par := ⟨⟨rfl, rfl, rfl, by decide +kernel, by decide +kernel, by decide +kernel, by decide +kernel⟩, rfl, rfl, by kernel_rfl, fun _ _ _ _ _ _ us hl => match us, hl with | [_, _], _ => rfl⟩
theorem ok_require_place : d_require_place.Ok ld.par := ⟨⟨rfl, rfl, rfl, by decide +kernel, by decide +kernel, by decide +kernel, by decide +kernel⟩, rfl, rfl, by kernel_rfl, fun _ _ _ _ _ _ us hl => match us, hl with | [_, _], _ => rfl⟩
theorem ok_require_bounds : d_require_bounds.Ok ld.par := ⟨⟨rfl, rfl, rfl, by decide +kernel, by decide +kernel, by decide +kernel, by decide +kernel⟩, rfl, rfl, by kernel_rfl, fun _ _ _ _ _ _ us hl => match us, hl with | [_, _], _ => rfl⟩
theorem ok_lifted_numbers : d_lifted_numbers.Ok ld.par := ⟨⟨rfl, rfl, rfl, by decide +kernel, by decide +kernel, by decide +kernel, by decide +kernel⟩, rfl, rfl, by kernel_rfl, fun _ _ _ _ _ _ us hl => match us, hl with | [_, _], _ => rfl⟩
theorem ok_least_numbers : d_least_numbers.Ok ld.par := ⟨⟨rfl, rfl, rfl, by decide +kernel, by decide +kernel, by decide +kernel, by decide +kernel⟩, rfl, rfl, by kernel_rfl, fun _ _ _ _ _ _ us hl => match us, hl with | [_, _], _ => rfl⟩
theorem ok_least_difference : d_least_difference.Ok ld.par := ⟨⟨rfl, rfl, rfl, by decide +kernel, by decide +kernel, by decide +kernel, by decide +kernel⟩, rfl, rfl, by kernel_rfl, fun _ _ _ _ _ _ us hl => match us, hl with | [_, _, _, _], _ => rfl⟩
theorem ok__law_pool : d__law_pool.Ok ld.par := ⟨⟨rfl, rfl, rfl, by decide +kernel, by decide +kernel, by decide +kernel, by decide +kernel⟩, rfl, rfl, by kernel_rfl, fun _ _ _ _ _ _ us hl => match us, hl with | [_, _], _ => rfl⟩
theorem ok__law_draw : d__law_draw.Ok ld.par := ⟨⟨rfl, rfl, rfl, by decide +kernel, by decide +kernel, by decide +kernel, by decide +kernel⟩, rfl, rfl, by kernel_rfl, fun _ _ _ _ _ _ us hl => match us, hl with | [_, _], _ => rfl⟩
theorem ok__law_lifted : d__law_lifted.Ok ld.par := ⟨⟨rfl, rfl, rfl, by decide +kernel, by decide +kernel, by decide +kernel, by decide +kernel⟩, rfl, rfl, by kernel_rfl, fun _ _ _ _ _ _ us hl => match us, hl with | [_, _], _ => rfl⟩
theorem ok__law_bounds : d__law_bounds.Ok ld.par := ⟨⟨rfl, rfl, rfl, by decide +kernel, by decide +kernel, by decide +kernel, by decide +kernel⟩, rfl, rfl, by kernel_rfl, fun _ _ _ _ _ _ us hl => match us, hl with | [_, _, _], _ => rfl⟩
theorem ok__law_forced : d__law_forced.Ok ld.par := ⟨⟨rfl, rfl, rfl, by decide +kernel, by decide +kernel, by decide +kernel, by decide +kernel⟩, rfl, rfl, by kernel_rfl, fun _ _ _ _ _ _ us hl => match us, hl with | [_, _, _], _ => rfl⟩
theorem ok__law_pair_right : d__law_pair_right.Ok ld.par := ⟨⟨rfl, rfl, rfl, by decide +kernel, by decide +kernel, by decide +kernel, by decide +kernel⟩, rfl, rfl, by kernel_rfl, fun _ _ _ _ _ _ us hl => match us, hl with | [_, _, _], _ => rfl⟩
theorem ok__law_looser_right : d__law_looser_right.Ok ld.par := ⟨⟨rfl, rfl, rfl, by decide +kernel, by decide +kernel, by decide +kernel, by decide +kernel⟩, rfl, rfl, by kernel_rfl, fun _ _ _ _ _ _ us hl => match us, hl with | [_, _, _], _ => rfl⟩
theorem ok_law : d_law.Ok ld.par := ⟨⟨rfl, rfl, rfl, by decide +kernel, by decide +kernel, by decide +kernel, by decide +kernel⟩, rfl, rfl, by kernel_rfl, fun _ _ _ _ _ _ us hl => match us, hl with | [_], _ => rfl⟩
theorem oks : ∀ d ∈ dns, d.Ok ld.par := by
  intro d hd
  simp only [dns, List.mem_cons, List.not_mem_nil, or_false] at hd
  rcases hd with rfl | rfl | rfl | rfl | rfl | rfl | rfl | rfl | rfl | rfl | rfl | rfl | rfl | rfl | rfl | rfl
  · exact ok_is_integer
  · exact ok_is_bound
  · exact ok_is_bounds
  · exact ok_require_place
  · exact ok_require_bounds
  · exact ok_lifted_numbers
  · exact ok_least_numbers
  · exact ok_least_difference
  · exact ok__law_pool
  · exact ok__law_draw
  · exact ok__law_lifted
  · exact ok__law_bounds
  · exact ok__law_forced
  · exact ok__law_pair_right
  · exact ok__law_looser_right
  · exact ok_law
abbrev R : PySem.W.OpenRow := PySem.W.OpenLaw.row PySem.Challenge.rw_holdtap_k37_forced_differences
abbrev hk : PySem.W.Hook := hookL 5 ld dds
theorem run (w : World) : HandSHeadRun.RunEq R (PySem.W.view R.prog [24]) hk (obL 5 ld dds) 6000 [(Str.ofString "HoldError"), (Str.ofString "InvalidPlace"), (Str.ofString "InvalidBounds"), (Str.ofString "is_integer"), (Str.ofString "MOST_NUMBERS"), (Str.ofString "MOST_BOUNDS"), (Str.ofString "is_bound"), (Str.ofString "is_bounds"), (Str.ofString "require_place"), (Str.ofString "require_bounds"), (Str.ofString "lifted_numbers"), (Str.ofString "least_numbers"), (Str.ofString "least_difference"), (Str.ofString "_law_pool"), (Str.ofString "_law_draw"), (Str.ofString "_law_lifted"), (Str.ofString "_law_bounds"), (Str.ofString "_law_forced"), (Str.ofString "_law_pair_right"), (Str.ofString "_law_looser_right")] w := by
  intro os
  kernel_rfl
end Law_k37
open PySem PySem.W PySem.Calls PyProof.Rows
theorem PySem.Challenge.cw_holdtap_k37_forced_differences_holds : PySem.Challenge.rw_holdtap_k37_forced_differences.Holds := by
  w_on; o_law
  refine HandSHeadRun.head_any (r := OpenLaw.row PySem.Challenge.rw_holdtap_k37_forced_differences) (q := view (OpenLaw.row PySem.Challenge.rw_holdtap_k37_forced_differences).prog [24]) (H := Law_k37.hk) (ob := MP.obL 5 Law_k37.ld Law_k37.dds) (M := 6000) (loose := [(PySem.Str.ofString "HoldError"), (PySem.Str.ofString "InvalidPlace"), (PySem.Str.ofString "InvalidBounds"), (PySem.Str.ofString "is_integer"), (PySem.Str.ofString "MOST_NUMBERS"), (PySem.Str.ofString "MOST_BOUNDS"), (PySem.Str.ofString "is_bound"), (PySem.Str.ofString "is_bounds"), (PySem.Str.ofString "require_place"), (PySem.Str.ofString "require_bounds"), (PySem.Str.ofString "lifted_numbers"), (PySem.Str.ofString "least_numbers"), (PySem.Str.ofString "least_difference"), (PySem.Str.ofString "_law_pool"), (PySem.Str.ofString "_law_draw"), (PySem.Str.ofString "_law_lifted"), (PySem.Str.ofString "_law_bounds"), (PySem.Str.ofString "_law_forced"), (PySem.Str.ofString "_law_pair_right"), (PySem.Str.ofString "_law_looser_right")]) (d := HandSHeadRun.topDef (OpenLaw.row PySem.Challenge.rw_holdtap_k37_forced_differences).prog 24) (kwd := []) (MP.obL_eq 5 Law_k37.ld Law_k37.dds)
    (by kernel_rfl) (fun s => by kernel_rfl) Law_k37.run (by kernel_rfl) (by kernel_rfl) (by kernel_rfl) (by rfl) (by first | assumption | decide +kernel) (by decide +kernel) ⟨rfl, rfl, rfl, rfl, rfl, by decide +kernel⟩ ?hw ?hc
  case hw => w_witness2
  case hc =>
    refine MP.walk_g (l := PySem.Challenge.rw_holdtap_k37_forced_differences) (n := 63) (k := 62) rfl (by decide) (by kernel_rfl) ⟨rfl, by decide, by decide⟩ ?F
    intro w mg fa h Y G hmg0
    have hmg : mg ("law" : PySem.Str) = some (.ref fa) := by
      have e : (HandSHeadRun.topDef (OpenLaw.row PySem.Challenge.rw_holdtap_k37_forced_differences).prog 24).name = ("law" : PySem.Str) := by kernel_rfl
      rw [← e]
      exact hmg0
    exact MP.law_F (l := Law_k37.ld) (ds := Law_k37.dns) (n := 5) (m := 30) (fuel := 1000) (f := 205) (d := Law_k37.d_law) Y G hmg (by decide +kernel) rfl (by decide +kernel) (by decide +kernel) Law_k37.oks rfl (by decide +kernel) Law_k37.main

