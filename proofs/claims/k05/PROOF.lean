import PyProof.Rows.All
import Wide.All
import OpenK.AllK
import Wide.FinOn
import HandS.ForMost
import HandS.ForExc
import HandS.Flow
import HandS.Style
import HandS.IsInst
import HandS.Deep
import HandS.TupAny
import HandS.TupLe
import HandS.SortInts
import HandS.Wide
import HandS.TryMany
import HandS.Defaults
import HandS.Small
import HandS.RaiseMore
import HandS.More
import HandS.SetFor
import KE.KSortedM
import HandS.Zip
import HandS.Comp
import HandS.SortKw
import KE.DatumOrd
import HandS.Iter
import HandS.Conv
import HandS.HeadHook2
import HandS.Head2
import HandS.HeadEnd
import HandS.EndBits
import PyProof.FitsInt
import KE.KxText
import PySem.Challenge.RW_holdtap_k05_records_recognized
set_option Elab.async false
set_option linter.all false
set_option maxRecDepth 100000
set_option maxHeartbeats 2000000
/-! MP: data trees, live objects, the world that ties them to the abstract heap -/
namespace MP
open PySem PySem.Spec PyProof.Rows L2

/-- a value as a tree: ref n is the live object n; a list's tag is 0, or one more than the live object it stands for while that is lent -/
inductive D where
  | non | bl (b : Bool) | int (i : Int) | str (s : Str)
  | tup (xs : List D) | lst (t : Nat) (xs : List D) | ref (n : Nat)
  | dct (ks : List Key) (xs : List D)
  deriving Inhabited

mutual
def beqD : D → D → Bool
  | .non, .non => true
  | .bl a, .bl b => decide (a = b)
  | .int a, .int b => decide (a = b)
  | .str a, .str b => decide (a = b)
  | .tup a, .tup b => beqDs a b
  | .lst t a, .lst u b => decide (t = u) && beqDs a b
  | .ref a, .ref b => decide (a = b)
  | .dct k a, .dct l b => decide (k = l) && beqDs a b
  | _, _ => false
def beqDs : List D → List D → Bool
  | [], [] => true
  | a :: as, b :: bs => beqD a b && beqDs as bs
  | _, _ => false
end
mutual
theorem beqD_self : ∀ a : D, beqD a a = true
  | .non => by simp [beqD]
  | .bl _ => by simp [beqD]
  | .int _ => by simp [beqD]
  | .str _ => by simp [beqD]
  | .tup a => by simp [beqD, beqDs_self a]
  | .lst _ a => by simp [beqD, beqDs_self a]
  | .ref _ => by simp [beqD]
  | .dct _ a => by simp [beqD, beqDs_self a]
theorem beqDs_self : ∀ a : List D, beqDs a a = true
  | [] => by simp [beqDs]
  | a :: as => by simp [beqDs, beqD_self a, beqDs_self as]
end
mutual
theorem beqD_eq : ∀ (a b : D), beqD a b = true → a = b
  | .non, b, h => by cases b <;> simp_all [beqD]
  | .bl _, b, h => by cases b <;> simp_all [beqD]
  | .int _, b, h => by cases b <;> simp_all [beqD]
  | .str _, b, h => by cases b <;> simp_all [beqD]
  | .tup a, b, h => by
    cases b with
    | tup c => simp only [beqD] at h; rw [beqDs_eq a c h]
    | _ => simp [beqD] at h
  | .lst _ a, b, h => by
    cases b with
    | lst _ c => simp only [beqD, Bool.and_eq_true, decide_eq_true_eq] at h; rw [h.1, beqDs_eq a c h.2]
    | _ => simp [beqD] at h
  | .ref _, b, h => by cases b <;> simp_all [beqD]
  | .dct _ a, b, h => by
    cases b with
    | dct _ c => simp only [beqD, Bool.and_eq_true, decide_eq_true_eq] at h; rw [h.1, beqDs_eq a c h.2]
    | _ => simp [beqD] at h
theorem beqDs_eq : ∀ (a b : List D), beqDs a b = true → a = b
  | [], b, h => by cases b <;> simp_all [beqDs]
  | a :: as, b, h => by
    cases b with
    | nil => simp [beqDs] at h
    | cons c cs => simp only [beqDs, Bool.and_eq_true] at h; rw [beqD_eq a c h.1, beqDs_eq as cs h.2]
end
instance : DecidableEq D := fun a b => if h : beqD a b = true then .isTrue (beqD_eq a b h) else .isFalse fun e => h (by rw [e]; exact beqD_self b)

/-- a live object -/
inductive LO where
  | lst (xs : List D) | dic (kvs : List (Key × D)) | ins (C : Str) (fs : List (Str × D)) | gone
  deriving Inhabited, DecidableEq
abbrev Live := List LO
abbrev Ev := List (Option D)

/-- an expression's end -/
inductive Res (α : Type) where
  | ok (a : α) (L : Live) | exc (C : Str) (fs : List (Str × D)) (L : Live) | stuck
def Res.bind {α β : Type} : Res α → (α → Live → Res β) → Res β
  | .ok a L, f => f a L
  | .exc C fs L, _ => .exc C fs L
  | .stuck, _ => .stuck
@[simp] theorem Res.bind_ok {α β : Type} (a : α) (L : Live) (f : α → Live → Res β) : (Res.ok a L).bind f = f a L := rfl
@[simp] theorem Res.bind_exc {α β : Type} (C : Str) (fs : List (Str × D)) (L : Live) (f : α → Live → Res β) : (Res.exc C fs L).bind f = .exc C fs L := rfl
@[simp] theorem Res.bind_stuck {α β : Type} (f : α → Live → Res β) : (Res.stuck : Res α).bind f = .stuck := rfl
theorem Res.bind_assoc {α β γ : Type} (r : Res α) (f : α → Live → Res β) (g : β → Live → Res γ) : (r.bind f).bind g = r.bind fun a L => (f a L).bind g := by
  cases r <;> rfl

/-! ### the world -/
structure Wd where
  ι : Nat → Option Addr
  F : Hp
  bor : List Addr

/-- what does not hang on the turn: the written part, where a class stands -/
structure Gv where
  K : PySem.W.Frag
  cls : Str → Option Addr

section
variable (G : Gv)
mutual
def RelD (wd : Wd) : V → D → Prop
  | v, .non => v = .non
  | v, .bl b => v = .bl b
  | v, .int i => v = .int i
  | v, .str s => v = .str s
  | v, .tup ds => ∃ a xs, v = .ref a ∧ SqT G.K wd.F a xs ∧ RelDs wd xs ds
  | v, .lst t ds => ∃ a xs, v = .ref a ∧ Rd wd.F a (.lst xs) ∧ RelDs wd xs ds ∧ (t = 0 → a ∉ wd.bor) ∧ ∀ k, t = k + 1 → wd.ι k = some a
  | v, .ref n => ∃ a, wd.ι n = some a ∧ v = .ref a
  | v, .dct ks ds => ∃ a ys, v = .ref a ∧ wd.F a = some (.dK ys) ∧ ys.map Prod.fst = ks ∧ RelDs wd (ys.map Prod.snd) ds
def RelDs (wd : Wd) : List V → List D → Prop
  | xs, [] => xs = []
  | xs, d :: ds => ∃ v vs, xs = v :: vs ∧ RelD wd v d ∧ RelDs wd vs ds
end

structure Ext (wd wd' : Wd) : Prop where
  ι : ∀ n a, wd.ι n = some a → wd'.ι n = some a
  F : ∀ a o, wd.F a = some o → wd'.F a = some o
  bor : wd'.bor = wd.bor
  new : ∀ n a, wd'.ι n = some a → wd.ι n = some a ∨ wd.F a = none
theorem Ext.refl (wd : Wd) : Ext wd wd := ⟨fun _ _ h => h, fun _ _ h => h, rfl, fun _ _ h => .inl h⟩
theorem Ext.trans {a b c : Wd} (x : Ext a b) (y : Ext b c) : Ext a c := ⟨fun n z h => y.ι n z (x.ι n z h), fun n z h => y.F n z (x.F n z h), y.bor.trans x.bor, fun n z h => (y.new n z h).elim (x.new n z) fun g => .inr (by
  cases q : a.F z with
  | none => rfl
  | some o => rw [x.F z o q] at g; cases g)⟩

theorem Rd.mono {F F' : Hp} (h : ∀ a o, F a = some o → F' a = some o) {a : Addr} {o : HO} (r : Rd F a o) : Rd F' a o := by
  rcases r with r | ⟨u, r⟩
  · exact .inl (h _ _ r)
  · exact .inr ⟨u, h _ _ r⟩
theorem SqT.mono {K : PySem.W.Frag} {F F' : Hp} (h : ∀ a o, F a = some o → F' a = some o) {a : Addr} {xs : List V} (r : SqT K F a xs) : SqT K F' a xs := by
  rcases r with r | r
  · exact .inl (Rd.mono h r)
  · exact .inr r
mutual
theorem RelD.ext {wd wd' : Wd} (e : Ext wd wd') : ∀ {d : D} {v : V}, RelD G wd v d → RelD G wd' v d
  | .non, v, h => by simpa [RelD] using h
  | .bl b, v, h => by simpa [RelD] using h
  | .int i, v, h => by simpa [RelD] using h
  | .str s, v, h => by simpa [RelD] using h
  | .tup ds, v, h => by
    simp only [RelD] at h ⊢
    obtain ⟨a, xs, h1, h2, h3⟩ := h
    exact ⟨a, xs, h1, SqT.mono e.F h2, RelDs.ext e h3⟩
  | .lst t ds, v, h => by
    simp only [RelD] at h ⊢
    obtain ⟨a, xs, h1, h2, h3, h4, h5⟩ := h
    exact ⟨a, xs, h1, Rd.mono e.F h2, RelDs.ext e h3, by rw [e.bor]; exact h4, fun k hk => e.ι _ _ (h5 k hk)⟩
  | .ref n, v, h => by
    simp only [RelD] at h ⊢
    obtain ⟨a, h1, h2⟩ := h
    exact ⟨a, e.ι _ _ h1, h2⟩
  | .dct ks ds, v, h => by
    simp only [RelD] at h ⊢
    obtain ⟨a, ys, h1, h2, h3, h4⟩ := h
    exact ⟨a, ys, h1, e.F _ _ h2, h3, RelDs.ext e h4⟩
theorem RelDs.ext {wd wd' : Wd} (e : Ext wd wd') : ∀ {ds : List D} {xs : List V}, RelDs G wd xs ds → RelDs G wd' xs ds
  | [], xs, h => by simpa [RelDs] using h
  | d :: ds, xs, h => by
    simp only [RelDs] at h ⊢
    obtain ⟨v, vs, h1, h2, h3⟩ := h
    exact ⟨v, vs, h1, RelD.ext e h2, RelDs.ext e h3⟩
end
variable {G}
theorem RelDs.length {wd : Wd} : ∀ {ds : List D} {xs : List V}, RelDs G wd xs ds → xs.length = ds.length
  | [], xs, h => by simp only [RelDs] at h; subst h; rfl
  | d :: ds, xs, h => by
    simp only [RelDs] at h
    obtain ⟨v, vs, rfl, _, h3⟩ := h
    simp [RelDs.length h3]
theorem RelDs.nil {wd : Wd} : RelDs G wd [] [] := by simp [RelDs]
theorem RelDs.cons {wd : Wd} {v : V} {d : D} {xs : List V} {ds : List D} (h : RelD G wd v d) (t : RelDs G wd xs ds) : RelDs G wd (v :: xs) (d :: ds) := by
  simp only [RelDs]; exact ⟨v, xs, rfl, h, t⟩
theorem RelDs.get {wd : Wd} : ∀ {ds : List D} {xs : List V} {i : Nat} {d : D}, RelDs G wd xs ds → ds[i]? = some d → ∃ v, xs[i]? = some v ∧ RelD G wd v d
  | [], xs, i, d, _, h => by simp at h
  | e :: ds, xs, 0, d, h, g => by
    simp only [RelDs] at h
    obtain ⟨v, vs, rfl, h2, h3⟩ := h
    simp at g; subst g
    exact ⟨v, rfl, h2⟩
  | e :: ds, xs, i + 1, d, h, g => by
    simp only [RelDs] at h
    obtain ⟨v, vs, rfl, h2, h3⟩ := h
    simp at g
    obtain ⟨u, hu, r⟩ := RelDs.get h3 g
    exact ⟨u, by simpa using hu, r⟩
theorem RelDs.getV {wd : Wd} {ds : List D} {xs : List V} {i : Nat} {v : V} (h : RelDs G wd xs ds) (g : xs[i]? = some v) : ∃ d, ds[i]? = some d ∧ RelD G wd v d := by
  have hl := RelDs.length h
  have hi : i < xs.length := (List.getElem?_eq_some_iff.mp g).1
  have : i < ds.length := by omega
  obtain ⟨u, hu, r⟩ := RelDs.get h (List.getElem?_eq_getElem this)
  rw [g] at hu; cases hu
  exact ⟨_, List.getElem?_eq_getElem this, r⟩
theorem RelDs.append {wd : Wd} : ∀ {ds es : List D} {xs ys : List V}, RelDs G wd xs ds → RelDs G wd ys es → RelDs G wd (xs ++ ys) (ds ++ es)
  | [], es, xs, ys, h, g => by simp only [RelDs] at h; subst h; simpa using g
  | d :: ds, es, xs, ys, h, g => by
    simp only [RelDs] at h
    obtain ⟨v, vs, rfl, h2, h3⟩ := h
    exact RelDs.cons h2 (RelDs.append h3 g)
theorem RelDs.take {wd : Wd} : ∀ {ds : List D} {xs : List V} (n : Nat), RelDs G wd xs ds → RelDs G wd (xs.take n) (ds.take n)
  | _, _, 0, _ => by simp [RelDs]
  | [], xs, n + 1, h => by simp only [RelDs] at h; subst h; simp [RelDs]
  | d :: ds, xs, n + 1, h => by
    simp only [RelDs] at h
    obtain ⟨v, vs, rfl, h2, h3⟩ := h
    exact RelDs.cons h2 (RelDs.take n h3)
theorem RelDs.drop {wd : Wd} : ∀ {ds : List D} {xs : List V} (n : Nat), RelDs G wd xs ds → RelDs G wd (xs.drop n) (ds.drop n)
  | _, _, 0, h => by simpa using h
  | [], xs, n + 1, h => by simp only [RelDs] at h; subst h; simp [RelDs]
  | d :: ds, xs, n + 1, h => by
    simp only [RelDs] at h
    obtain ⟨v, vs, rfl, h2, h3⟩ := h
    exact RelDs.drop n h3
theorem RelDs.set {wd : Wd} {v : V} {d : D} (r : RelD G wd v d) : ∀ {ds : List D} {xs : List V} (i : Nat), RelDs G wd xs ds → RelDs G wd (xs.set i v) (ds.set i d)
  | [], xs, i, h => by simp only [RelDs] at h; subst h; simp [RelDs]
  | e :: ds, xs, 0, h => by
    simp only [RelDs] at h
    obtain ⟨w, vs, rfl, h2, h3⟩ := h
    exact RelDs.cons r h3
  | e :: ds, xs, i + 1, h => by
    simp only [RelDs] at h
    obtain ⟨w, vs, rfl, h2, h3⟩ := h
    exact RelDs.cons h2 (RelDs.set r i h3)
theorem RelDs.reverse {wd : Wd} : ∀ {ds : List D} {xs : List V}, RelDs G wd xs ds → RelDs G wd xs.reverse ds.reverse
  | [], xs, h => by simp only [RelDs] at h; subst h; simp [RelDs]
  | d :: ds, xs, h => by
    simp only [RelDs] at h
    obtain ⟨v, vs, rfl, h2, h3⟩ := h
    simp only [List.reverse_cons]
    exact RelDs.append (RelDs.reverse h3) (RelDs.cons h2 RelDs.nil)
theorem RelDs.paired {wd : Wd} : ∀ {ds : List D} {xs : List V}, RelDs G wd xs ds ↔ Paired (fun v d => RelD G wd v d) xs ds
  | [], xs => ⟨fun h => by simp only [RelDs] at h; subst h; exact .nil, fun h => by cases h; exact RelDs.nil⟩
  | d :: ds, xs => ⟨fun h => by
      simp only [RelDs] at h
      obtain ⟨v, vs, rfl, h2, h3⟩ := h
      exact .cons h2 (RelDs.paired.mp h3), fun h => by
      cases h with
      | cons a b => exact RelDs.cons a (RelDs.paired.mpr b)⟩

/-- a live object, at its address -/
def RelO (wd : Wd) (H : Hp) (a : Addr) : LO → Prop
  | .lst ds => ∃ xs, H a = some (.lst xs) ∧ RelDs G wd xs ds
  | .dic kvs => ∃ ys, H a = some (.dK ys) ∧ Paired (fun (p : Key × V) (q : Key × D) => p.1 = q.1 ∧ RelD G wd p.2 q.2) ys kvs
  | .ins C fs => ∃ ca dx gs, G.cls C = some ca ∧ H a = some (.ins ca dx gs) ∧ H dx = some (.own a) ∧ Paired (fun (p : Str × V) (q : Str × D) => p.1 = q.1 ∧ RelD G wd p.2 q.2) gs fs
  | .gone => True
theorem RelO.ext {wd wd' : Wd} (e : Ext wd wd') {H : Hp} {a : Addr} : ∀ {o : LO}, RelO (G := G) wd H a o → RelO (G := G) wd' H a o
  | .lst ds, ⟨xs, h1, h2⟩ => ⟨xs, h1, RelDs.ext G e h2⟩
  | .dic kvs, ⟨ys, h1, h2⟩ => ⟨ys, h1, Paired.mapP h2 fun _ _ h => ⟨h.1, RelD.ext G e h.2⟩⟩
  | .ins C fs, ⟨ca, dx, gs, h0, h1, h2, h3⟩ => ⟨ca, dx, gs, h0, h1, h2, Paired.mapP h3 fun _ _ h => ⟨h.1, RelD.ext G e h.2⟩⟩
  | .gone, _ => True.intro

structure WOk (wd : Wd) (H : Hp) (L : Live) : Prop where
  sub : ∀ a o, wd.F a = some o → H a = some o
  live : ∀ n o, L[n]? = some o → ∃ a, wd.ι n = some a ∧ RelO (G := G) wd H a o ∧ (o ≠ .gone → wd.F a = none)
  dom : ∀ n a, wd.ι n = some a → n < L.length
  inj : ∀ n m a, wd.ι n = some a → wd.ι m = some a → n = m
  bor : ∀ a ∈ wd.bor, ∃ o, wd.F a = some o
  seq : ∀ a o, wd.F a = some o → (∃ xs, o = .lst xs) ∨ (∃ xs, o = .tup xs) ∨ (∃ ob xs, o = .frz ob (.lst xs)) ∨ ∃ ys, o = .dK ys
  there : ∀ n a, wd.ι n = some a → ∃ o, H a = some o

/-! ### the readings -/
def RelSt (wd : Wd) (σ : L2.St) (E : Ev) : Prop := σ.length = E.length ∧ ∀ (i : Nat) (d : D), E[i]? = some (some d) → ∃ v, σ[i]? = some (some v) ∧ RelD G wd v d
theorem RelSt.ext {wd wd' : Wd} (e : Ext wd wd') {σ : L2.St} {E : Ev} (r : RelSt (G := G) wd σ E) : RelSt (G := G) wd' σ E :=
  ⟨r.1, fun i d h => let ⟨v, h1, h2⟩ := r.2 i d h; ⟨v, h1, RelD.ext G e h2⟩⟩
theorem RelSt.set {wd : Wd} {σ : L2.St} {E : Ev} (r : RelSt (G := G) wd σ E) {v : V} {d : D} (i : Nat) (h : RelD G wd v d) : RelSt (G := G) wd (σ.set i (some v)) (E.set i (some d)) := by
  refine ⟨by simpa using r.1, fun j e hj => ?_⟩
  by_cases hij : i = j
  · subst hij
    by_cases hl : i < E.length
    · rw [List.getElem?_set_self hl] at hj
      cases hj
      exact ⟨v, by rw [List.getElem?_set_self (by rw [r.1]; exact hl)], h⟩
    · rw [List.getElem?_eq_none (by simpa using hl)] at hj; cases hj
  · rw [List.getElem?_set_ne hij] at hj
    obtain ⟨u, h1, h2⟩ := r.2 j e hj
    exact ⟨u, by rw [List.getElem?_set_ne hij]; exact h1, h2⟩
theorem RelSt.wipe {wd : Wd} {σ : L2.St} {E : Ev} (r : RelSt (G := G) wd σ E) (i : Nat) : RelSt (G := G) wd (σ.set i none) (E.set i none) := by
  refine ⟨by simpa using r.1, fun j e hj => ?_⟩
  by_cases hij : i = j
  · subst hij
    by_cases hl : i < E.length
    · rw [List.getElem?_set_self hl] at hj
      cases hj
    · rw [List.getElem?_eq_none (by simpa using hl)] at hj; cases hj
  · rw [List.getElem?_set_ne hij] at hj
    obtain ⟨u, h1, h2⟩ := r.2 j e hj
    exact ⟨u, by rw [List.getElem?_set_ne hij]; exact h1, h2⟩

/-- a raised exception of an own class: its own dict holds the fields -/
def RelX (wd : Wd) (H : Hp) (C : Str) (fs : List (Str × D)) (cls : Value) (dx : Option Addr) : Prop :=
  ∃ ca, G.cls C = some ca ∧ cls = .ref ca ∧ (fs ≠ [] → ∃ d gs, dx = some d ∧ H d = some (.xd gs) ∧ Paired (fun (p : Str × V) (q : Str × D) => p.1 = q.1 ∧ RelD G wd p.2 q.2) gs fs)

/-- what is wanted behind an end r that began in the world wd -/
def Run {α β : Type} (rel : Wd → β → α → Prop) (W : WX) (σ : L2.St) (wd : Wd) (r : Res α) (Q : β → Hp → Prop) : Prop :=
  match r with
  | .ok d L => ∀ wd' H' v, Ext wd wd' → WOk (G := G) wd' H' L → rel wd' v d → Q v H'
  | .exc C fs L => ∀ wd' H' cls dx, Ext wd wd' → WOk (G := G) wd' H' L → RelX (G := G) wd' H' C fs cls dx → W cls dx σ H'
  | .stuck => False
def RB (_ : Wd) (a b : Bool) : Prop := a = b
theorem Run.ext {α β : Type} {rel : Wd → β → α → Prop} {W : WX} {σ : L2.St} {wd wd1 : Wd} (e : Ext wd wd1) {r : Res α} {Q : β → Hp → Prop} (h : Run (G := G) rel W σ wd r Q) : Run (G := G) rel W σ wd1 r Q := by
  cases r with
  | ok d L => exact fun wd' H' v e' w r => h wd' H' v (e.trans e') w r
  | exc C fs L => exact fun wd' H' c dx e' w r => h wd' H' c dx (e.trans e') w r
  | stuck => exact h
theorem Run.imp {α β : Type} {rel : Wd → β → α → Prop} {W : WX} {σ : L2.St} {wd : Wd} {r : Res α} {Q Q' : β → Hp → Prop} (h : Run (G := G) rel W σ wd r Q) (f : ∀ v H, Q v H → Q' v H) : Run (G := G) rel W σ wd r Q' := by
  cases r with
  | ok d L => exact fun wd' H' v e' w r => f _ _ (h wd' H' v e' w r)
  | exc C fs L => exact h
  | stuck => exact h
/-- one end behind another -/
theorem Run.bind {α β α' β' : Type} {rel : Wd → β → α → Prop} {rel' : Wd → β' → α' → Prop} {W : WX} {σ : L2.St} {wd : Wd} {r : Res α} {f : α → Live → Res α'} {Q : β' → Hp → Prop} (h : Run (G := G) rel' W σ wd (r.bind f) Q) :
    Run (G := G) rel W σ wd r fun v H1 => ∃ wd1 d L1, Ext wd wd1 ∧ WOk (G := G) wd1 H1 L1 ∧ rel wd1 v d ∧ Run (G := G) rel' W σ wd1 (f d L1) Q := by
  cases r with
  | ok d L => exact fun wd' H' v e' w r => ⟨wd', d, L, e', w, r, Run.ext e' h⟩
  | exc C fs L => exact h
  | stuck => exact h
/-- the end of a value that is there -/
theorem Run.ok {α β : Type} {rel : Wd → β → α → Prop} {W : WX} {σ : L2.St} {wd wd' : Wd} {d : α} {L : Live} {Q : β → Hp → Prop} {H' : Hp} {v : β} (h : Run (G := G) rel W σ wd (.ok d L) Q) (e : Ext wd wd') (w : WOk (G := G) wd' H' L) (r : rel wd' v d) : Q v H' :=
  h wd' H' v e w r

variable (G)
/-- an evaluator of an expression, as a reading -/
def tE (W : WX) (m : Ev → Live → Res D) : TE := fun σ H Q => ∃ wd E L, RelSt (G := G) wd σ E ∧ WOk (G := G) wd H L ∧ Run (G := G) (RelD G) W σ wd (m E L) Q
def tT (W : WX) (m : Ev → Live → Res Bool) : TT := fun σ H Q => ∃ wd E L, RelSt (G := G) wd σ E ∧ WOk (G := G) wd H L ∧ Run (G := G) RB W σ wd (m E L) Q
def tA (W : WX) (m : Ev → Live → Res (List D)) : TA := fun σ H Q => ∃ wd E L, RelSt (G := G) wd σ E ∧ WOk (G := G) wd H L ∧ Run (G := G) (RelDs G) W σ wd (m E L) Q
variable {G}

/-! ### the heap grows, is written -/
theorem RelO.heap {wd : Wd} {H H' : Hp} {a : Addr} (k : ∀ b o, H b = some o → H' b = some o) : ∀ {o : LO}, RelO (G := G) wd H a o → RelO (G := G) wd H' a o
  | .lst ds, ⟨xs, h1, h2⟩ => ⟨xs, k _ _ h1, h2⟩
  | .dic kvs, ⟨ys, h1, h2⟩ => ⟨ys, k _ _ h1, h2⟩
  | .ins C fs, ⟨ca, dx, gs, h0, h1, h2, h3⟩ => ⟨ca, dx, gs, h0, k _ _ h1, k _ _ h2, h3⟩
  | .gone, _ => True.intro
theorem upd_keeps {H : Hp} {p : Addr} {o : HO} (hp : H p = none) : ∀ b u, H b = some u → upd H p o b = some u := fun b u h => by rw [upd_ne (ne_of_none h hp)]; exact h
theorem WOk.heap {wd : Wd} {H H' : Hp} {L : Live} (w : WOk (G := G) wd H L) (k : ∀ b o, H b = some o → H' b = some o) : WOk (G := G) wd H' L where
  sub := fun a o h => k _ _ (w.sub a o h)
  live := fun n o h => let ⟨a, h1, h2, h3⟩ := w.live n o h; ⟨a, h1, h2.heap k, h3⟩
  dom := w.dom
  inj := w.inj
  bor := w.bor
  seq := w.seq
  there := fun n a h => let ⟨o, e⟩ := w.there n a h; ⟨o, k _ _ e⟩
/-- a new object that is frozen at once -/
def Wd.frz (wd : Wd) (p : Addr) (o : HO) : Wd := { wd with F := upd wd.F p o }
theorem WOk.fnone {wd : Wd} {H : Hp} {L : Live} (w : WOk (G := G) wd H L) {p : Addr} (hp : H p = none) : wd.F p = none := by
  cases h : wd.F p with
  | none => rfl
  | some o => have := w.sub _ _ h; rw [hp] at this; cases this
theorem WOk.frz {wd : Wd} {H : Hp} {L : Live} (w : WOk (G := G) wd H L) {p : Addr} {o : HO} (hp : H p = none) (ho : (∃ xs, o = .lst xs) ∨ (∃ xs, o = .tup xs) ∨ (∃ ob xs, o = .frz ob (.lst xs)) ∨ ∃ ys, o = .dK ys) :
    Ext wd (wd.frz p o) ∧ WOk (G := G) (wd.frz p o) (upd H p o) L := by
  have e : Ext wd (wd.frz p o) := ⟨fun _ _ h => h, fun a u h => upd_keeps (w.fnone hp) a u h, rfl, fun _ _ h => .inl h⟩
  refine ⟨e, ⟨fun a u h => ?_, fun n u h => ?_, w.dom, w.inj, fun a ha => ?_, fun a u h => ?_, fun n a h => ?_⟩⟩
  · by_cases q : a = p
    · subst q
      have h' : upd wd.F a o a = some u := h
      rw [upd_same] at h' ⊢; exact h'
    · have h' : upd wd.F p o a = some u := h
      rw [upd_ne q] at h' ⊢; exact w.sub _ _ h'
  · obtain ⟨a, h1, h2, h3⟩ := w.live n u h
    refine ⟨a, h1, (h2.heap (upd_keeps hp)).ext e, fun g => ?_⟩
    obtain ⟨z, hz⟩ := w.there n a h1
    show upd wd.F p o a = none
    rw [upd_ne (ne_of_none hz hp)]; exact h3 g
  · obtain ⟨u, hu⟩ := w.bor a ha
    exact ⟨u, e.F _ _ hu⟩
  · by_cases q : a = p
    · subst q
      have h' : upd wd.F a o a = some u := h
      rw [upd_same] at h'; cases h'; exact ho
    · have h' : upd wd.F p o a = some u := h
      rw [upd_ne q] at h'; exact w.seq _ _ h'
  · obtain ⟨z, hz⟩ := w.there n a h
    exact ⟨z, upd_keeps hp _ _ hz⟩
/-- a new live object -/
def Wd.add (wd : Wd) (n : Nat) (p : Addr) : Wd := { wd with ι := fun m => if m = n then some p else wd.ι m }
theorem WOk.add {wd : Wd} {H : Hp} {L : Live} (w : WOk (G := G) wd H L) {p : Addr} {o : HO} {x : LO} (hp : H p = none)
    (hx : ∀ wd', Ext wd wd' → ∀ H', (∀ b u, H b = some u → H' b = some u) → H' p = some o → RelO (G := G) wd' H' p x) :
    Ext wd (wd.add L.length p) ∧ WOk (G := G) (wd.add L.length p) (upd H p o) (L ++ [x]) := by
  have hn : wd.ι L.length = none := by
    cases h : wd.ι L.length with
    | none => rfl
    | some a => exact absurd (w.dom _ _ h) (Nat.lt_irrefl _)
  have e : Ext wd (wd.add L.length p) := by
    refine ⟨fun n a h => ?_, fun _ _ h => h, rfl, fun n a h => ?_⟩
    · show (if n = L.length then some p else wd.ι n) = some a
      rw [if_neg (fun z => by rw [z, hn] at h; cases h)]; exact h
    · have h' : (if n = L.length then some p else wd.ι n) = some a := h
      split at h'
      · cases h'; exact .inr (w.fnone hp)
      · exact .inl h'
  have ad : ∀ n a, (wd.add L.length p).ι n = some a → (n = L.length ∧ a = p) ∨ wd.ι n = some a := fun n a h => by
    have h' : (if n = L.length then some p else wd.ι n) = some a := h
    by_cases q : n = L.length
    · rw [if_pos q] at h'; cases h'; exact .inl ⟨q, rfl⟩
    · rw [if_neg q] at h'; exact .inr h'
  have nop : ∀ n, wd.ι n ≠ some p := fun n h => by
    obtain ⟨z, hz⟩ := w.there n p h
    rw [hp] at hz; cases hz
  refine ⟨e, ⟨fun a u h => upd_keeps hp _ _ (w.sub _ _ h), fun n u h => ?_, fun n a h => ?_, fun n m a h1 h2 => ?_, w.bor, w.seq, fun n a h => ?_⟩⟩
  · by_cases q : n < L.length
    · rw [List.getElem?_append_left q] at h
      obtain ⟨a, h1, h2, h3⟩ := w.live n u h
      exact ⟨a, e.ι _ _ h1, (h2.heap (upd_keeps hp)).ext e, h3⟩
    · have q' : n = L.length := by
        have := (List.getElem?_eq_some_iff.mp h).1
        simp at this; omega
      subst q'
      simp at h; subst h
      refine ⟨p, ?_, hx _ e _ (upd_keeps hp) upd_same, fun _ => w.fnone hp⟩
      show (if L.length = L.length then some p else _) = some p
      rw [if_pos rfl]
  · rcases ad n a h with ⟨rfl, _⟩ | h'
    · simp
    · have := w.dom _ _ h'; simp; omega
  · rcases ad n a h1 with ⟨q1, q2⟩ | g1 <;> rcases ad m a h2 with ⟨q3, q4⟩ | g2
    · rw [q1, q3]
    · rw [q2] at g2; exact absurd g2 (nop _)
    · rw [q4] at g1; exact absurd g1 (nop _)
    · exact w.inj _ _ _ g1 g2
  · rcases ad n a h with ⟨_, rfl⟩ | h'
    · exact ⟨o, upd_same⟩
    · obtain ⟨z, hz⟩ := w.there n a h'
      exact ⟨z, upd_keeps hp _ _ hz⟩
theorem Wd.add_at {wd : Wd} {n : Nat} {p : Addr} : (wd.add n p).ι n = some p := if_pos rfl
/-- a live object is written: x is what stands at a behind it; all else is as it was -/
theorem WOk.write {wd : Wd} {H : Hp} {L : Live} (w : WOk (G := G) wd H L) {n : Nat} {a : Addr} {o : HO} {x x0 : LO} (hx0 : L[n]? = some x0) (hg : x0 ≠ .gone) (ha : wd.ι n = some a)
    (hown : ∀ y, H a ≠ some (.own y)) (hx : RelO (G := G) wd (upd H a o) a x) : WOk (G := G) wd (upd H a o) (L.set n x) := by
  obtain ⟨a', h1, h2, h3⟩ := w.live n x0 hx0
  rw [ha] at h1; cases h1
  have fa := h3 hg
  have hn : n < L.length := w.dom _ _ ha
  refine ⟨fun b u h => ?_, fun m u h => ?_, fun m b h => by simpa using w.dom m b h, w.inj, w.bor, w.seq, fun m b h => ?_⟩
  · rw [upd_ne (fun z => by rw [z, fa] at h; cases h)]; exact w.sub _ _ h
  · by_cases q : n = m
    · subst q
      rw [List.getElem?_set_self hn] at h; cases h
      exact ⟨a, ha, hx, fun _ => fa⟩
    · rw [List.getElem?_set_ne q] at h
      obtain ⟨b, g1, g2, g3⟩ := w.live m u h
      have hb : b ≠ a := fun z => q (w.inj _ _ _ ha (z ▸ g1))
      refine ⟨b, g1, ?_, g3⟩
      cases u with
      | lst ds => obtain ⟨xs, e1, e2⟩ := g2; exact ⟨xs, by rw [upd_ne hb]; exact e1, e2⟩
      | dic kvs => obtain ⟨xs, e1, e2⟩ := g2; exact ⟨xs, by rw [upd_ne hb]; exact e1, e2⟩
      | ins C fs =>
        obtain ⟨ca, dx, gs, e0, e1, e2, e3⟩ := g2
        exact ⟨ca, dx, gs, e0, by rw [upd_ne hb]; exact e1, by rw [upd_ne (fun z => hown b (by rw [← z]; exact e2))]; exact e2, e3⟩
      | gone => exact True.intro
  · by_cases q : b = a
    · subst q; exact ⟨o, upd_same⟩
    · obtain ⟨z, hz⟩ := w.there m b h
      exact ⟨z, by rw [upd_ne q]; exact hz⟩
end
end MP
set_option maxHeartbeats 2000000
/-! MP: the syntax and its evaluator -/
namespace MP
open PySem PySem.Spec PyProof.Rows L2

/-! ### trees without live objects, as the library's data -/
mutual
def toPy : D → Option PyData
  | .non => some .none
  | .bl b => some (.bool b)
  | .int i => some (.int i)
  | .str s => some (.str s)
  | .tup ds => match toPys ds with | some ps => some (.tuple ps) | none => none
  | .lst _ ds => match toPys ds with | some ps => some (.list ps) | none => none
  | .ref _ => none
  | .dct _ _ => none
def toPys : List D → Option (List PyData)
  | [] => some []
  | d :: ds => match toPy d with | some p => (match toPys ds with | some ps => some (p :: ps) | none => none) | none => none
end
def mapO {α β : Type} (f : α → Option β) : List α → Option (List β)
  | [] => some []
  | d :: ds => match f d with | some p => (match mapO f ds with | some ps => some (p :: ps) | none => none) | none => none
/-- .. with live lists looked up, so deep -/
def view (L : Live) : Nat → D → Option PyData
  | 0, _ => none
  | n + 1, d => match d with
    | .ref k => match L[k]? with
      | some (.lst ds) => (mapO (view L n) ds).map .list
      | _ => none
    | .tup ds => (mapO (view L n) ds).map .tuple
    | .lst _ ds => (mapO (view L n) ds).map .list
    | d => toPy d
/-- a key, as the library's data -/
def keyPy : Key → PyData | .inl i => .int i | .inr s => .str s
/-- .. with dicts, so deep -/
def viewX (L : Live) : Nat → D → Option PyData
  | 0, _ => none
  | n + 1, d => match d with
    | .ref k => match L[k]? with
      | some (.lst ds) => (mapO (viewX L n) ds).map .list
      | some (.dic kvs) => (mapO (viewX L n) (kvs.map Prod.snd)).map fun ps => .dict (((kvs.map Prod.fst).map keyPy).zip ps)
      | _ => none
    | .tup ds => (mapO (viewX L n) ds).map .tuple
    | .lst _ ds => (mapO (viewX L n) ds).map .list
    | .dct ks ds => (mapO (viewX L n) ds).map fun ps => .dict ((ks.map keyPy).zip ps)
    | d => toPy d
def pyOf (L : Live) (d : D) : Option PyData := match toPy d with | some p => some p | none => view L 12 d

def pyX (L : Live) (d : D) : Option PyData := match pyOf L d with | some p => some p | none => viewX L 12 d

/-- the items of a list -/
def lstOf (L : Live) : D → Option (List D)
  | .lst _ ds => some ds
  | .ref k => match L[k]? with | some (.lst ds) => some ds | _ => none
  | _ => none
/-- .. of a list or a tuple -/
def seqOf (L : Live) : D → Option (List D)
  | .tup ds => some ds
  | d => lstOf L d
def newL (lv : Bool) (xs : List D) (L : Live) : D × Live := if lv then (.ref L.length, L ++ [.lst xs]) else (.lst 0 xs, L)

/-! ### operators -/
inductive Bop where | add | sub | mul | fdiv | mod | pow
  deriving DecidableEq, Repr
inductive Cop where | eq | ne | lt | le | gt | ge | is_ | isn | in_ | nin
  deriving DecidableEq, Repr
def mulOk (i j : Int) : Bool := (decide (-(2 ^ 64) < i) && decide (i < 2 ^ 64)) || (decide (-(2 ^ 64) < j) && decide (j < 2 ^ 64)) || decide (i.natAbs.log2 + j.natAbs.log2 < 1000000)
def divOk (j : Int) : Bool := decide (0 < j) && decide (j.natAbs.log2 < 9000)
def powOk (i j : Int) : Bool := decide (0 ≤ j) && decide (((i.natAbs.log2 + 1 : Nat) : Int) * j ≤ 2 ^ 27)
def sizeOk (n : Nat) : Bool := decide (n ≤ sizeLine)
def binL (o : Bop) (lv : Bool) (xs : List D) (b : D) (L : Live) : Option (D × Live) := match o with
  | .add => match lstOf L b with
    | some ys => if sizeOk (xs.length + ys.length) then some (newL lv (xs ++ ys) L) else none
    | none => none
  | .mul => match b with
    | .int k => if decide (-(2 ^ 63) ≤ k) && decide (k < 2 ^ 63) && sizeOk (xs.length * k.toNat) then some (newL lv (List.replicate k.toNat xs).flatten L) else none
    | _ => none
  | _ => none
def binD (o : Bop) (lv : Bool) (a b : D) (L : Live) : Option (D × Live) :=
  match a with
  | .int i => match b with
    | .int j => match o with
      | .add => some (.int (i + j), L)
      | .sub => some (.int (i - j), L)
      | .mul => if mulOk i j then some (.int (i * j), L) else none
      | .fdiv => if divOk j then some (.int (i / j), L) else none
      | .mod => if decide (0 < j) then some (.int (i % j), L) else none
      | .pow => if powOk i j then some (.int (i ^ j.toNat), L) else none
    | _ => none
  | .str x => match b with
    | .str y => match o with
      | .add => if sizeOk (x.length + y.length) then some (.str (x ++ y), L) else none
      | _ => none
    | _ => none
  | .tup xs => match b with
    | .tup ys => match o with
      | .add => if sizeOk (xs.length + ys.length) then some (.tup (xs ++ ys), L) else none
      | _ => none
    | _ => none
  | a => match lstOf L a with
    | some xs => binL o lv xs b L
    | none => none
def scal2 : D → D → Bool
  | .non, .non => true | .non, .int _ => true | .int _, .non => true | .non, .bl _ => true | .bl _, .non => true | .non, .str _ => true | .str _, .non => true
  | .int _, .int _ => true | .bl _, .bl _ => true | .str _, .str _ => true
  | .int _, .str _ => true | .str _, .int _ => true | .bl _, .str _ => true | .str _, .bl _ => true
  | _, _ => false
/-- == of scalars -/
def eqS : D → D → Bool
  | .non, .non => true
  | .int i, .int j => decide (i = j)
  | .bl i, .bl j => decide (i = j)
  | .str i, .str j => decide (i = j)
  | _, _ => false
def eqD (L : Live) (a b : D) : Option Bool :=
  if scal2 a b then some (eqS a b) else match pyOf L a with
    | some p => match pyOf L b with
      | some q => if SeqAt.shaped p && SeqAt.shaped q then some (PyData.eqv p q) else none
      | none => none
    | none => none
/-- flat values -/
def flat : D → Bool
  | .non => true | .bl _ => true | .int _ => true | .str _ => true | _ => false
def eqF : D → D → Bool
  | .non, .non => true
  | .bl a, .bl b => a == b
  | .bl a, .int b => (if a then 1 else 0) == b
  | .int a, .bl b => a == (if b then 1 else 0)
  | .int a, .int b => a == b
  | .str a, .str b => a == b
  | _, _ => false
def keyOf : D → Option Key
  | .int i => some (.inl i)
  | .str s => some (.inr s)
  | _ => none
def getK (k : Key) (kvs : List (Key × D)) : Option D := (kvs.find? fun kv => decide (kv.1 = k)).map (·.2)
def isNonD : D → Bool | .non => true | _ => false
def inSeq (L : Live) (a b : D) (ds : List D) : Option Bool :=
  if flat a && ds.all flat then some (ds.any fun y => eqF y a) else match pyOf L a with
    | some p => match pyOf L b with
      | some (.list qs) => if SeqAt.shaped p && SeqAt.shaped (.list qs) then some (qs.any fun z => PyData.eqv z p) else none
      | some (.tuple qs) => if SeqAt.shaped p && SeqAt.shaped (.tuple qs) then some (qs.any fun z => PyData.eqv z p) else none
      | _ => none
    | none => none
/-- what a dict holds at a key -/
def keyAt (L : Live) (a b : D) : Option (Option D) := match b with
  | .ref n => match L[n]? with
    | some (.dic kvs) => match keyOf a with
      | some k => some (getK k kvs)
      | none => none
    | _ => none
  | _ => none
def inStr (y : Str) (a : D) : Option Bool := match a with
  | .str x => if x.length = 1 then some (decide (x.cps.getD 0 0 ∈ y.cps.toList)) else none
  | _ => none
def inD (L : Live) (a b : D) : Option Bool := match b with
  | .str y => inStr y a
  | b => match seqOf L b with
    | some ds => inSeq L a b ds
    | none => (keyAt L a b).map (·.isSome)
def ordI (o : Cop) (i j : Int) : Option Bool := match o with
  | .lt => some (decide (i < j)) | .le => some (decide (i ≤ j)) | .gt => some (decide (j < i)) | .ge => some (decide (j ≤ i)) | _ => none
def cmpD (o : Cop) (a b : D) (L : Live) : Option Bool :=
  match o with
  | .eq => eqD L a b
  | .ne => (eqD L a b).map not
  | .in_ => inD L a b
  | .nin => (inD L a b).map not
  | .is_ => match b with
    | .non => some (isNonD a)
    | .bl y => match a with
      | .bl x => some (decide (x = y))
      | _ => none
    | _ => none
  | .isn => match b with
    | .non => some (!isNonD a)
    | .bl y => match a with
      | .bl x => some (!decide (x = y))
      | _ => none
    | _ => none
  | o => match a with
    | .int i => match b with
      | .int j => ordI o i j
      | _ => none
    | _ => none
/-- truth -/
def truD (L : Live) : D → Option Bool
  | .non => some false
  | .bl b => some b
  | .int i => some (i != 0)
  | .str y => if sizeOk y.length then some ((y.length : Int) != 0) else none
  | .tup ds => some (!ds.isEmpty)
  | .lst _ ds => some (!ds.isEmpty)
  | .ref n => match L[n]? with
    | some (.lst ds) => some (!ds.isEmpty)
    | some (.dic kvs) => some (!kvs.isEmpty)
    | _ => none
  | .dct _ _ => none

/-! ### subscripts, slices -/
def idxSeq (ds : List D) (i : D) : Option D := match i with
  | .int i => atI ds i
  | _ => none
def idxStr (z : Str) (i : D) : Option D := match i with
  | .int i => if sizeOk z.length then (atI z.cps.toList i).map fun c => .str ⟨#[c]⟩ else none
  | _ => none
def idxD (a i : D) (L : Live) : Option D := match a with
  | .str z => idxStr z i
  | a => match seqOf L a with
    | some ds => idxSeq ds i
    | none => (keyAt L i a).bind id
def cutD {α : Type} (xs : List α) (lo hi : Option Int) : List α := (xs.drop (HT.sIx xs.length 0 lo)).take (HT.sIx xs.length xs.length hi - HT.sIx xs.length 0 lo)
def part : D → Option (Option Int)
  | .int i => some (some i)
  | _ => none
def slcP (lv : Bool) (a : D) (l h : Option Int) (L : Live) : Option (D × Live) := match a with
  | .str z => if sizeOk z.length then some (.str (cutS z l h), L) else none
  | .tup ds => some (.tup (cutD ds l h), L)
  | a => match lstOf L a with
    | some ds => some (newL lv (cutD ds l h) L)
    | none => none

/-! ### built-ins -/
inductive Blt where | len | abs | max | min | sum | any | all | sorted | list | tuple | int | str | repr
  deriving DecidableEq, Repr
def intsOf : List D → Option (List Int)
  | [] => some []
  | .int i :: r => match intsOf r with | some l => some (i :: l) | none => none
  | _ :: _ => none
def boolsOf : List D → Option (List Bool)
  | [] => some []
  | .bl i :: r => match boolsOf r with | some l => some (i :: l) | none => none
  | _ :: _ => none
def insI (x : Int) : List Int → List Int
  | [] => [x]
  | y :: r => if x ≤ y then x :: y :: r else y :: insI x r
def sortI : List Int → List Int
  | [] => []
  | x :: r => insI x (sortI r)
def maxI : List Int → Option Int
  | [] => none
  | x :: r => some (r.foldl (fun m y => if m < y then y else m) x)
def minI : List Int → Option Int
  | [] => none
  | x :: r => some (r.foldl (fun m y => if y < m then y else m) x)
def lenK (L : Live) (d : D) : Option Int := match d with
  | .ref n => match L[n]? with
    | some (.dic kvs) => some kvs.length
    | _ => none
  | _ => none
def lenD (L : Live) : D → Option Int
  | .str y => if sizeOk y.length then some y.length else none
  | d => match seqOf L d with
    | some ds => some ds.length
    | none => lenK L d
def keyD : Key → D | .inl i => .int i | .inr s => .str s
def keysD (L : Live) (d : D) : Option (List D) := match d with
  | .ref n => match L[n]? with
    | some (.dic kvs) => some (kvs.map fun kv => keyD kv.1)
    | _ => none
  | _ => none
def reprD (L : Live) (d : D) : Option Str := match pyX L d with
  | some p => if p.showable && sizeOk p.shown.length && decide (p.depth < 60) then some p.shown else none
  | none => none
def bltD (b : Blt) (lv : Bool) (as : List D) (L : Live) : Option (D × Live) :=
  match as with
  | [a] => match b with
    | .len => (lenD L a).map fun n => (.int n, L)
    | .abs => match a with | .int i => some (.int (if i < 0 then -i else i), L) | _ => none
    | .sum => match lstOf L a with
      | some ds => (intsOf ds).map fun ns => (.int ns.sum, L)
      | none => none
    | .max => match lstOf L a with
      | some ds => match intsOf ds with
        | some ns => (maxI ns).map fun m => (.int m, L)
        | none => none
      | none => none
    | .min => match lstOf L a with
      | some ds => match intsOf ds with
        | some ns => (minI ns).map fun m => (.int m, L)
        | none => none
      | none => none
    | .any => match lstOf L a with
      | some ds => (boolsOf ds).map fun bs => (.bl (bs.any id), L)
      | none => none
    | .all => match lstOf L a with
      | some ds => (boolsOf ds).map fun bs => (.bl (bs.all id), L)
      | none => none
    | .sorted => match lstOf L a with
      | some ds => match intsOf ds with
        | some ns => some (newL lv ((sortI ns).map .int) L)
        | none => none
      | none => none
    | .list => match seqOf L a with
      | some ds => some (newL lv ds L)
      | none => (keysD L a).map fun ks => newL lv ks L
    | .tuple => match seqOf L a with
      | some ds => some (.tup ds, L)
      | none => none
    | .int => match a with
      | .int i => some (.int i, L)
      | .bl k => some (.int (if k then 1 else 0), L)
      | .str x => match PySem.intText? x with
        | some n => if decide (x.length ≤ 640) then some (.int n, L) else none
        | none => none
      | _ => none
    | .str => match a with
      | .int i => if decide (i.natAbs.log2 < 1920) then some (.str (toString i), L) else none
      | .str s => some (.str s, L)
      | _ => none
    | .repr => (reprD L a).map fun s => (.str s, L)
  | [a, c] => match a with
    | .int i => match c with
      | .int j => match b with
        | .max => some (.int (if j > i then j else i), L)
        | .min => some (.int (if j < i then j else i), L)
        | _ => none
      | _ => none
    | _ => none
  | _ => none

/-! ### methods of built-in types -/
inductive Mth where | append | extend | pop | insert | reverse | remove | clear | index | count | join | get | values
  deriving DecidableEq, Repr
def findF (y : D) : List D → Option Nat
  | [] => none
  | z :: r => if eqF z y then some 0 else (findF y r).map (· + 1)
def findI (k : Int) : List Int → Option Nat
  | [] => none
  | z :: r => if z = k then some 0 else (findI k r).map (· + 1)
def strsOf : List D → Option (List Str)
  | [] => some []
  | .str i :: r => match strsOf r with | some l => some (i :: l) | none => none
  | _ :: _ => none
def mthD (m : Mth) (o : D) (as : List D) (L : Live) : Option (D × Live) :=
  match o with
  | .ref n => match L[n]? with
    | some (.lst ds) => match m with
      | .append => match as with
        | [x] => if decide (ds.length < sizeLine) then some (.non, L.set n (.lst (ds ++ [x]))) else none
        | _ => none
      | .extend => match as with
        | [x] => match lstOf L x with
          | some es => if sizeOk (ds.length + es.length) then some (.non, L.set n (.lst (ds ++ es))) else none
          | none => none
        | _ => none
      | .pop => match as with
        | [] => match ds.getLast? with
          | some x => some (x, L.set n (.lst ds.dropLast))
          | none => none
        | [.int i] => match ixN ds.length i with
          | some j => (ds[j]?).map fun x => (x, L.set n (.lst (ds.eraseIdx j)))
          | none => none
        | _ => none
      | .insert => match as with
        | [.int i, x] => if decide (ds.length < sizeLine) && decide (0 ≤ i) && decide (i < 2 ^ 63) then some (.non, L.set n (.lst (ds.take i.toNat ++ [x] ++ ds.drop i.toNat))) else none
        | _ => none
      | .reverse => match as with
        | [] => some (.non, L.set n (.lst ds.reverse))
        | _ => none
      | .clear => match as with
        | [] => some (.non, L.set n (.lst []))
        | _ => none
      | .remove => match as with
        | [.int k] => match intsOf ds with
          | some ns => match findI k ns with
            | some j => some (.non, L.set n (.lst (ds.eraseIdx j)))
            | none => none
          | none => none
        | _ => none
      | _ => none
    | _ => none
  | .str sep => match m with
    | .join => match as with
      | [x] => match seqOf L x with
        | some ds => match strsOf ds with
          | some ys => if decide ((ys.map (·.length)).sum + ys.length * sep.length ≤ 16777216) then some (.str (Txt.join sep ys), L) else none
          | none => none
        | none => none
      | _ => none
    | _ => none
  | _ => none

inductive MT where | str | list
  deriving DecidableEq, Repr
/-- the type whose method is called, where it has it -/
def mthTy (m : Mth) (L : Live) : D → Option MT
  | .str _ => match m with | .join => some .str | _ => none
  | .ref n => match L[n]? with
    | some (.lst _) => match m with
      | .remove => some .list | .append => some .list | .extend => some .list | .pop => some .list | .insert => some .list | .reverse => some .list | .clear => some .list
      | _ => none
    | _ => none
  | _ => none
/-! ### isinstance -/
inductive Ty where | int | bool | str | list | tuple | dict
  deriving DecidableEq, Repr
def isiD (L : Live) (d : D) (t : Ty) : Option Bool :=
  match d with
  | .non => some false
  | .bl _ => some (decide (t = .bool ∨ t = .int))
  | .int _ => some (decide (t = .int))
  | .str _ => some (decide (t = .str))
  | .tup _ => some (decide (t = .tuple))
  | .lst _ _ => some (decide (t = .list))
  | .ref n => match L[n]? with
    | some (.lst _) => some (decide (t = .list))
    | some (.dic _) => some (decide (t = .dict))
    | _ => none
  | .dct _ _ => some (decide (t = .dict))

/-! ### syntax -/
inductive Tg where | slot (i : Nat) | tup (ts : List Tg)
mutual
inductive Ex where
  | var (i : Nat) | con (d : D) | glob (x : Str) (d : D)
  | bin (o : Bop) (lv : Bool) (a b : Ex) | neg (a : Ex) | not (a : Ex)
  | cmp (o : Cop) (a b : Ex) | chn (o o' : Cop) (a b c : Ex)
  | and (a b : Ex) | or (a b : Ex) | ite (t a b : Ex)
  | tup (es : Exs) | lst (lv : Bool) (es : Exs)
  | idx (a i : Ex) | slc (lv : Bool) (a lo hi : Ex)
  | call (f : Nat) (es : Exs) | blt (b : Blt) (lv : Bool) (es : Exs) | mth (m : Mth) (o : Ex) (es : Exs)
  | own (m : Str) (o : Ex) (es : Exs) | fld (o : Ex) (f : Str) | make (C : Str) (es : Exs)
  | isi (a : Ex) (t : Ty)
  | dic0 | dct (ks : List Key) (es : Exs)
  | mxd (a d : Ex)
  | tks (lv : Bool) (i ik iv : Nat)
  | lrg1 (lv : Bool) (a : Ex) | lrg2 (lv : Bool) (a b : Ex) | rev (lv : Bool) (a : Ex)
  | comp (lv : Bool) (own : List Nat) (g : Tg) (it : It) (cs : Exs) (e : Ex)
  | comp2 (lv : Bool) (own own1 : List Nat) (g : Tg) (it : It) (cs : Exs) (g1 : Tg) (it1 : It) (cs1 : Exs) (e : Ex)
inductive Exs where
  | nil | cons (e : Ex) (es : Exs)
inductive It where
  | val (e : Ex) | rng1 (a : Ex) | rng2 (a b : Ex) | enum (e : Ex) | zip (a b : Ex)
end
/-- a slice's part that is not written -/
def isAbs : Ex → Bool | .con .non => true | _ => false
inductive Tgt where
  | nm (g : Tg) | sub (o i : Ex) | fld (o : Ex) (f : Str)
mutual
inductive St where
  | ex (e : Ex) | asg (g : Tgt) (e : Ex) | par (is : List Nat) (es : Exs) | aug (i : Nat) (o : Bop) (e : Ex) | ret (e : Ex) | retN
  | ite (c : Ex) (a b : Ss) | for_ (g : Tg) (it : It) (b : Ss) | whl (c : Ex) (b : Ss) | brk | cnt | pas
  | rais (C : Str) (es : Exs) | del (o i : Ex) | nev
inductive Ss where
  | nil | cons (s : St) (ss : Ss)
end

/-! ### the evaluator -/
structure Cxt where
  φ : Nat → List D → Live → Res D
  liv : Nat → List Bool
  meth : Str → Str → Option Nat
  init : Str → Option Nat
  exf : Str → Option (List Str)
  fuel : Nat
/-! ### lending live lists to a callee -/
mutual
def noRef : D → Bool
  | .ref _ => false
  | .tup ds => noRefs ds
  | .lst _ ds => noRefs ds
  | .dct _ ds => noRefs ds
  | _ => true
def noRefs : List D → Bool
  | [] => true
  | d :: ds => noRef d && noRefs ds
end
/-- live lists as trees that bear their numbers, so deep -/
def lendF (L : Live) : Nat → D → Option D
  | 0, _ => none
  | n + 1, d => if noRef d then some d else match d with
    | .ref k => match L[k]? with
      | some (.lst ds) => (mapO (lendF L n) ds).map (.lst (k + 1))
      | some .gone => none
      | none => none
      | _ => some d
    | .tup ds => (mapO (lendF L n) ds).map .tup
    | .lst t ds => (mapO (lendF L n) ds).map (.lst t)
    | .dct ks ds => (mapO (lendF L n) ds).map (.dct ks)
    | d => some d
def idsF (L : Live) : Nat → D → List Nat
  | 0, _ => []
  | n + 1, d => if noRef d then [] else match d with
    | .ref k => match L[k]? with
      | some (.lst ds) => k :: ds.flatMap (idsF L n)
      | _ => []
    | .tup ds => ds.flatMap (idsF L n)
    | .lst _ ds => ds.flatMap (idsF L n)
    | .dct _ ds => ds.flatMap (idsF L n)
    | _ => []
/-- the arguments; lv: which parameters take a live list as it is -/
def lendAs (L : Live) : List Bool → List D → Option (List D)
  | _, [] => some []
  | lv, d :: ds => match (if lv.headD false then some d else lendF L 12 d) with
    | some e => match lendAs L lv.tail ds with | some es => some (e :: es) | none => none
    | none => none
def idsAs (L : Live) : List Bool → List D → List Nat
  | _, [] => []
  | lv, d :: ds => (if lv.headD false then [] else idsF L 12 d) ++ idsAs L lv.tail ds
mutual
/-- what was lent is a live list again -/
def th (ids : List Nat) : D → D
  | .tup ds => .tup (ths ids ds)
  | .lst t ds => match t with
    | 0 => .lst 0 (ths ids ds)
    | k + 1 => if k ∈ ids then .ref k else .lst (k + 1) (ths ids ds)
  | .dct ks ds => .dct ks (ths ids ds)
  | d => d
def ths (ids : List Nat) : List D → List D
  | [] => []
  | d :: ds => th ids d :: ths ids ds
end
def thO (ids : List Nat) : LO → LO
  | .lst xs => .lst (ths ids xs)
  | .dic kvs => .dic (kvs.map fun p => (p.1, th ids p.2))
  | .ins C fs => .ins C (fs.map fun p => (p.1, th ids p.2))
  | .gone => .gone
def mapIx {α β : Type} (f : Nat → α → β) : Nat → List α → List β
  | _, [] => []
  | i, x :: r => f i x :: mapIx f (i + 1) r
def maskL (ids : List Nat) (L : Live) : Live := mapIx (fun i o => if i ∈ ids then .gone else o) 0 L
def backL (ids : List Nat) (L L' : Live) : Live := mapIx (fun i o => if i ∈ ids then (L[i]?).getD .gone else if L[i]? = some o then o else thO ids o) 0 L'
def callW (c : Cxt) (f : Nat) (ds : List D) (L : Live) : Res D :=
  match idsAs L (c.liv f) ds with
  | [] => c.φ f ds L
  | i :: ids => match lendAs L (c.liv f) ds with
    | none => .stuck
    | some es => match c.φ f es (maskL (i :: ids) L) with
      | .ok d L' => .ok (th (i :: ids) d) (backL (i :: ids) L L')
      | .exc C fs L' => .exc C (fs.map fun p => (p.1, th (i :: ids) p.2)) (backL (i :: ids) L L')
      | .stuck => .stuck
/-! ### a def that hands back a tree without live lists, and leaves no live object behind -/
mutual
def okB (n : Nat) : D → Bool
  | .ref k => decide (k < n)
  | .tup ds => okBs n ds
  | .lst t ds => decide (t ≤ n) && okBs n ds
  | .dct _ ds => okBs n ds
  | _ => true
def okBs (n : Nat) : List D → Bool
  | [] => true
  | d :: ds => okB n d && okBs n ds
end
def fzF (n : Nat) (L : Live) : Nat → D → Option D
  | 0, _ => none
  | m + 1, d => if okB n d then some d else match d with
    | .ref k => if k < n then some (.ref k) else match L[k]? with
      | some (.lst ds) => (mapO (fzF n L m) ds).map (.lst 0)
      | _ => none
    | .tup ds => (mapO (fzF n L m) ds).map .tup
    | .lst t ds => if t ≤ n then (mapO (fzF n L m) ds).map (.lst t) else none
    | .dct ks ds => (mapO (fzF n L m) ds).map (.dct ks)
    | d => some d
def fzP {κ : Type} (n : Nat) (L : Live) (p : κ × D) : Option (κ × D) := (fzF n L 12 p.2).map fun d => (p.1, d)
def fzO (n : Nat) (L : Live) : LO → Option LO
  | .lst xs => (mapO (fzF n L 12) xs).map .lst
  | .dic kvs => (mapO (fzP n L) kvs).map .dic
  | .ins C fs => (mapO (fzP n L) fs).map (.ins C)
  | .gone => some .gone
/-- the objects that were there ahead of the call, behind it -/
def cutL (n : Nat) (M : Live) : Live → Live → Option Live
  | [], _ => some []
  | _ :: _, [] => none
  | o :: L, o' :: L' => match (if o' = o then some o else fzO n M o') with
    | some u => match cutL n M L L' with | some r => some (u :: r) | none => none
    | none => none
def cleanR (L : Live) (r : Res D) : Res D := match r with
  | .ok d L' => match fzF L.length L' 12 d with
    | some e => match cutL L.length L' L L' with | some L2 => .ok e L2 | none => .stuck
    | none => .stuck
  | .exc C fs L' => match mapO (fzP L.length L') fs with
    | some gs => match cutL L.length L' L L' with | some L2 => .exc C gs L2 | none => .stuck
    | none => .stuck
  | .stuck => .stuck
def opt {α : Type} (o : Option (α × Live)) : Res α := match o with | some (d, L) => .ok d L | none => .stuck
def optV {α : Type} (o : Option α) (L : Live) : Res α := match o with | some d => .ok d L | none => .stuck
mutual
/-- storing by a target of names -/
def storeG : Tg → D → Ev → Option Ev
  | .slot i, d, E => if i < E.length then some (E.set i (some d)) else none
  | .tup gs, d, E => match d with
    | .tup ds => storeGs gs ds E
    | _ => none
def storeGs : List Tg → List D → Ev → Option Ev
  | [], [], E => some E
  | g :: gs, d :: ds, E => match storeG g d E with | some E' => storeGs gs ds E' | none => none
  | _, _, _ => none
end
/-- what is walked: its items, and the list that must stay as it is -/
def rng1D : D → Option (List D)
  | .int j => if decide (-(2 ^ 62) ≤ j) && decide (j < 2 ^ 62) then some ((List.range j.toNat).map fun k => D.int (k : Nat)) else none
  | _ => none
def rng2D : D → D → Option (List D)
  | .int i, .int j => if decide (-(2 ^ 62) ≤ i) && decide (i < 2 ^ 62) && decide (-(2 ^ 62) ≤ j) && decide (j < 2 ^ 62) then some ((List.range (j - i).toNat).map fun k => D.int (i + (k : Nat))) else none
  | _, _ => none
def enumD (ds : List D) : List D := ds.zipIdx.map fun p => .tup [.int (p.2 : Nat), p.1]
def zipD (ds es : List D) : List D := (ds.zip es).map fun p => .tup [p.1, p.2]
/-- the live lists that a walk looks at -/
def watch (L : Live) : D → List (Nat × List D)
  | .ref k => match L[k]? with | some (.lst ds) => [(k, ds)] | _ => []
  | _ => []
def still (L : Live) (w : List (Nat × List D)) : Bool := w.all fun p => decide (L[p.1]? = some (.lst p.2))
theorem still_iff {L : Live} {w : List (Nat × List D)} : still L w = true ↔ ∀ p ∈ w, L[p.1]? = some (.lst p.2) := by simp [still]
def zipW (L : Live) (x y : D) : Option (List D × List (Nat × List D)) := match x with
  | .tup xs => match y with
    | .tup ys => some (zipD xs ys, [])
    | _ => none
  | x => match lstOf L x with
    | some ds => match lstOf L y with
      | some es => some (zipD ds es, watch L x ++ watch L y)
      | none => none
    | none => none
def charsD (z : Str) : List D := z.cps.toList.map fun c => .str ⟨#[c]⟩
def itemsOf (L : Live) : D → Option (List D)
  | .str z => some (charsD z)
  | d => seqOf L d
def wipeE (E : Ev) : List Nat → Ev
  | [] => E
  | v :: vs => (wipeE E vs).set v none
def compL (w : List (Nat × List D)) (g : Tg) (E : Ev) (c : Ev → Live → Res Bool) (e : Ev → Live → Res D) : List D → List D → Live → Res (List D)
  | [], acc, L => if still L w then .ok acc L else .stuck
  | d :: ds, acc, L => if still L w then match storeG g d E with
      | some E' => match c E' L with
        | .ok b L1 => if b then match e E' L1 with
            | .ok x L2 => if acc.length < sizeLine then compL w g E c e ds (acc ++ [x]) L2 else .stuck
            | _ => .stuck
          else compL w g E c e ds acc L1
        | _ => .stuck
      | none => .stuck
    else .stuck
/-- the outer clause of a comprehension of two -/
def compF (w : List (Nat × List D)) (g : Tg) (E : Ev) (c : Ev → Live → Res Bool) (f : Ev → List D → Live → Res (List D)) : List D → List D → Live → Res (List D)
  | [], acc, L => if still L w then .ok acc L else .stuck
  | d :: ds, acc, L => if still L w then match storeG g d E with
      | some E' => match c E' L with
        | .ok b L1 => if b then match f E' acc L1 with
            | .ok acc2 L2 => compF w g E c f ds acc2 L2
            | _ => .stuck
          else compF w g E c f ds acc L1
        | _ => .stuck
      | none => .stuck
    else .stuck
def rgOkB (a b : Int) : Bool := decide (-(2 ^ 62) ≤ a) && decide (a < 2 ^ 62) && decide (-(2 ^ 62) ≤ b) && decide (b < 2 ^ 62) && decide ((b - a).toNat ≤ 2 ^ 24)
def rgD (a b : Int) : List D := (List.range (b - a).toNat).map fun k => D.int (a + (k : Nat))
def lrgD (lv : Bool) (a b : Int) (L : Live) : Option (D × Live) := if rgOkB a b then some (newL lv (rgD a b) L) else none
def lrg1D (lv : Bool) (x : D) (L : Live) : Option (D × Live) := match x with | .int n => lrgD lv 0 n L | _ => none
def lrg2D (lv : Bool) (x y : D) (L : Live) : Option (D × Live) := match x with | .int i => (match y with | .int j => lrgD lv i j L | _ => none) | _ => none
def revD (lv : Bool) (x : D) (L : Live) : Option (D × Live) := match lstOf L x with | some ds => some (newL lv ds.reverse L) | none => none
/-- max(.., default=..) -/
def tksL : List (Key × D) → Option (List D)
  | [] => some []
  | (k, .bl b) :: r => (tksL r).map fun ks => if b then keyD k :: ks else ks
  | _ :: _ => none
def tksD (lv : Bool) (x : D) (L : Live) : Option (D × Live) := match x with
  | .ref n => match L[n]? with
    | some (.dic kvs) => if decide (kvs.length ≤ sizeLine) then (tksL kvs).map fun ks => newL lv ks L else none
    | _ => none
  | _ => none
def mxdD (x y : D) (L : Live) : Option D := match lstOf L x with
  | some ds => match intsOf ds with
    | some ns => match maxI ns with
      | some m => some (.int m)
      | none => some y
    | none => none
  | none => none
mutual
def evE (c : Cxt) : Ex → Ev → Live → Res D
  | .var i, E, L => match E[i]? with | some (some d) => .ok d L | _ => .stuck
  | .con d, _, L => .ok d L
  | .glob _ d, _, L => .ok d L
  | .bin o lv a b, E, L => (evE c a E L).bind fun x L1 => (evE c b E L1).bind fun y L2 => opt (binD o lv x y L2)
  | .neg a, E, L => (evE c a E L).bind fun x L1 => match x with | .int i => .ok (.int (-i)) L1 | _ => .stuck
  | .not a, E, L => (evE c a E L).bind fun x L1 => (optV (truD L1 x) L1).bind fun b L2 => .ok (.bl (!b)) L2
  | .cmp o a b, E, L => (evE c a E L).bind fun x L1 => (evE c b E L1).bind fun y L2 => (optV (cmpD o x y L2) L2).bind fun b L3 => .ok (.bl b) L3
  | .chn o o' a b d, E, L => (evE c a E L).bind fun x L1 => (evE c b E L1).bind fun y L2 => (optV (cmpD o x y L2) L2).bind fun k L3 =>
      if k then (evE c d E L3).bind fun z L4 => (optV (cmpD o' y z L4) L4).bind fun b L5 => .ok (.bl b) L5 else .ok (.bl false) L3
  | .and a b, E, L => (evE c a E L).bind fun x L1 => (optV (truD L1 x) L1).bind fun k L2 => if k then evE c b E L2 else .ok x L2
  | .or a b, E, L => (evE c a E L).bind fun x L1 => (optV (truD L1 x) L1).bind fun k L2 => if k then .ok x L2 else evE c b E L2
  | .ite t a b, E, L => (evE c t E L).bind fun x L1 => (optV (truD L1 x) L1).bind fun k L2 => if k then evE c a E L2 else evE c b E L2
  | .tup es, E, L => (evA c es E L).bind fun ds L1 => if sizeOk ds.length then .ok (.tup ds) L1 else .stuck
  | .lst lv es, E, L => (evA c es E L).bind fun ds L1 => if sizeOk ds.length then opt (some (newL lv ds L1)) else .stuck
  | .idx a i, E, L => (evE c a E L).bind fun x L1 => (evE c i E L1).bind fun y L2 => optV (idxD x y L2) L2
  | .slc lv a lo hi, E, L => (evE c a E L).bind fun x L1 =>
      (if isAbs lo then .ok none L1 else (evE c lo E L1).bind fun l L2 => optV (part l) L2).bind fun l L2 =>
      (if isAbs hi then .ok none L2 else (evE c hi E L2).bind fun h L3 => optV (part h) L3).bind fun h L3 => opt (slcP lv x l h L3)
  | .call f es, E, L => (evA c es E L).bind fun ds L1 => callW c f ds L1
  | .blt b lv es, E, L => (evA c es E L).bind fun ds L1 => opt (bltD b lv ds L1)
  | .mth m o es, E, L => (evE c o E L).bind fun x L1 => match mthTy m L1 x with
      | some T => (evA c es E L1).bind fun ds L2 => if mthTy m L2 x = some T then opt (mthD m x ds L2) else .stuck
      | none => .stuck
  | .own m o es, E, L => (evE c o E L).bind fun x L1 => match x with
      | .ref n => match L1[n]? with
        | some (.ins C fs) => match c.meth C m with
          | some f => if (fs.lookup m).isNone then (evA c es E L1).bind fun ds L2 => callW c f (x :: ds) L2 else .stuck
          | none => .stuck
        | _ => .stuck
      | _ => .stuck
  | .fld o f, E, L => (evE c o E L).bind fun x L1 => match x with
      | .ref n => match L1[n]? with
        | some (.ins _ fs) => optV (fs.lookup f) L1
        | _ => .stuck
      | _ => .stuck
  | .make C es, E, L => (evA c es E L).bind fun ds L1 => match c.init C with
      | some f => (callW c f (.ref L1.length :: ds) (L1 ++ [.ins C []])).bind fun r L2 => match r with
        | .non => .ok (.ref L1.length) L2
        | _ => .stuck
      | none => .stuck
  | .isi a t, E, L => (evE c a E L).bind fun x L1 => (optV (isiD L1 x t) L1).bind fun b L2 => .ok (.bl b) L2
  | .dic0, _, L => .ok (.ref L.length) (L ++ [.dic []])
  | .dct ks es, E, L => (evA c es E L).bind fun ds L1 => if ks.length = ds.length then .ok (.dct ks ds) L1 else .stuck
  | .tks lv i ik iv, E, L => (match E[i]? with | some (some d) => Res.ok d L | _ => .stuck).bind fun x L1 => if decide (ik < E.length) && decide (iv < E.length) then opt (tksD lv x L1) else .stuck
  | .mxd a d, E, L => (evE c a E L).bind fun x L1 => (evE c d E L1).bind fun y L2 => optV (mxdD x y L2) L2
  | .lrg1 lv a, E, L => (evE c a E L).bind fun x L1 => opt (lrg1D lv x L1)
  | .lrg2 lv a b, E, L => (evE c a E L).bind fun x L1 => (evE c b E L1).bind fun y L2 => opt (lrg2D lv x y L2)
  | .rev lv a, E, L => (evE c a E L).bind fun x L1 => opt (revD lv x L1)
  | .comp lv own g it cs e, E, L => (evI c it E L).bind fun p L1 =>
      (compL p.2 g (wipeE E own) (fun E' L' => evC c cs E' L') (fun E' L' => evE c e E' L') p.1 [] L1).bind fun ds L2 => opt (some (newL lv ds L2))
  | .comp2 lv own own1 g it cs g1 it1 cs1 e, E, L => (evI c it E L).bind fun p L1 =>
      (compF p.2 g (wipeE E own) (fun E' L' => evC c cs E' L') (fun E' acc L' => (evI c it1 E' L').bind fun q L2 => compL q.2 g1 (wipeE E' own1) (fun E2 L3 => evC c cs1 E2 L3) (fun E2 L3 => evE c e E2 L3) q.1 acc L2) p.1 [] L1).bind fun ds L2 => opt (some (newL lv ds L2))
def evA (c : Cxt) : Exs → Ev → Live → Res (List D)
  | .nil, _, L => .ok [] L
  | .cons e es, E, L => (evE c e E L).bind fun x L1 => (evA c es E L1).bind fun xs L2 => .ok (x :: xs) L2
/-- the tests of a comprehension -/
def evC (c : Cxt) : Exs → Ev → Live → Res Bool
  | .nil, _, L => .ok true L
  | .cons e es, E, L => (evE c e E L).bind fun x L1 => (optV (truD L1 x) L1).bind fun k L2 => if k then evC c es E L2 else .ok false L2
def evI (c : Cxt) : It → Ev → Live → Res (List D × List (Nat × List D))
  | .val e, E, L => (evE c e E L).bind fun x L1 => (optV (itemsOf L1 x) L1).bind fun ds L2 => .ok (ds, watch L2 x) L2
  | .rng1 a, E, L => (evE c a E L).bind fun x L1 => (optV (rng1D x) L1).bind fun ds L2 => .ok (ds, []) L2
  | .rng2 a b, E, L => (evE c a E L).bind fun x L1 => (evE c b E L1).bind fun y L2 => (optV (rng2D x y) L2).bind fun ds L3 => .ok (ds, []) L3
  | .enum e, E, L => (evE c e E L).bind fun x L1 => (optV (lstOf L1 x) L1).bind fun ds L2 => .ok (enumD ds, watch L2 x) L2
  | .zip a b, E, L => (evE c a E L).bind fun x L1 => (evE c b E L1).bind fun y L2 => optV (zipW L2 x y) L2
end
/-- a test -/
def evT (c : Cxt) (e : Ex) (E : Ev) (L : Live) : Res Bool := (evE c e E L).bind fun x L1 => optV (truD L1 x) L1

inductive Flw where | nx | bk | ct | rt (d : D)
inductive SRes where
  | fl (f : Flw) (E : Ev) (L : Live) | exc (C : Str) (fs : List (Str × D)) (E : Ev) (L : Live) | stuck
def SRes.of {α : Type} (r : Res α) (E : Ev) (k : α → Live → SRes) : SRes := match r with
  | .ok a L => k a L
  | .exc C fs L => .exc C fs E L
  | .stuck => .stuck
@[simp] theorem SRes.of_ok {α : Type} (a : α) (L : Live) (E : Ev) (k : α → Live → SRes) : SRes.of (.ok a L) E k = k a L := rfl
@[simp] theorem SRes.of_exc {α : Type} (C : Str) (fs : List (Str × D)) (L : Live) (E : Ev) (k : α → Live → SRes) : SRes.of (.exc C fs L) E k = .exc C fs E L := rfl
@[simp] theorem SRes.of_stuck {α : Type} (E : Ev) (k : α → Live → SRes) : SRes.of (.stuck : Res α) E k = .stuck := rfl
def SRes.seq (r : SRes) (k : Ev → Live → SRes) : SRes := match r with
  | .fl .nx E L => k E L
  | r => r
@[simp] theorem SRes.seq_nx (E : Ev) (L : Live) (k : Ev → Live → SRes) : SRes.seq (.fl .nx E L) k = k E L := rfl
@[simp] theorem SRes.seq_rt (d : D) (E : Ev) (L : Live) (k : Ev → Live → SRes) : SRes.seq (.fl (.rt d) E L) k = .fl (.rt d) E L := rfl
@[simp] theorem SRes.seq_bk (E : Ev) (L : Live) (k : Ev → Live → SRes) : SRes.seq (.fl .bk E L) k = .fl .bk E L := rfl
@[simp] theorem SRes.seq_ct (E : Ev) (L : Live) (k : Ev → Live → SRes) : SRes.seq (.fl .ct E L) k = .fl .ct E L := rfl
@[simp] theorem SRes.seq_exc (C : Str) (fs : List (Str × D)) (E : Ev) (L : Live) (k : Ev → Live → SRes) : SRes.seq (.exc C fs E L) k = .exc C fs E L := rfl
@[simp] theorem SRes.seq_stuck (k : Ev → Live → SRes) : SRes.seq .stuck k = .stuck := rfl
def forL (w : List (Nat × List D)) (g : Tg) (b : Ev → Live → SRes) : List D → Ev → Live → SRes
  | [], E, L => if still L w then .fl .nx E L else .stuck
  | d :: ds, E, L => if still L w then match storeG g d E with
      | some E' => match b E' L with
        | .fl .nx E2 L2 => forL w g b ds E2 L2
        | .fl .ct E2 L2 => forL w g b ds E2 L2
        | .fl .bk E2 L2 => .fl .nx E2 L2
        | r => r
      | none => .stuck
    else .stuck
def whlL (t : Ev → Live → Res Bool) (b : Ev → Live → SRes) : Nat → Ev → Live → SRes
  | 0, _, _ => .stuck
  | n + 1, E, L => SRes.of (t E L) E fun k L1 => if k then match b E L1 with
      | .fl .nx E2 L2 => whlL t b n E2 L2
      | .fl .ct E2 L2 => whlL t b n E2 L2
      | .fl .bk E2 L2 => .fl .nx E2 L2
      | r => r
    else .fl .nx E L1
def putKey (k : Key) (v : D) (kvs : List (Key × D)) : List (Key × D) :=
  if (kvs.any fun kv => decide (kv.1 = k)) = true then kvs.map (fun kv => if kv.1 = k then (kv.1, v) else kv) else kvs ++ [(k, v)]
def dropKey (k : Key) (kvs : List (Key × D)) : List (Key × D) := kvs.filter fun p => decide (p.1 ≠ k)
def putFld (f : Str) (v : D) : List (Str × D) → List (Str × D)
  | [] => [(f, v)]
  | (g, x) :: r => if g = f then (g, v) :: r else (g, x) :: putFld f v r
/-- o[i] = v -/
def setD (o i v : D) (L : Live) : Option Live := match o with
  | .ref n => match L[n]? with
    | some (.lst ds) => match i with
      | .int i => (ixN ds.length i).map fun j => L.set n (.lst (ds.set j v))
      | _ => none
    | some (.dic kvs) => match keyOf i with
      | some k => if decide (kvs.length < sizeLine) then some (L.set n (.dic (putKey k v kvs))) else none
      | none => none
    | _ => none
  | _ => none
def delD (o i : D) (L : Live) : Option Live := match o with
  | .ref n => match L[n]? with
    | some (.dic kvs) => match keyOf i with
      | some k => if (getK k kvs).isSome then some (L.set n (.dic (dropKey k kvs))) else none
      | none => none
    | _ => none
  | _ => none
def storeT (c : Cxt) (g : Tgt) (d : D) (E : Ev) (L : Live) : SRes := match g with
  | .nm g => match storeG g d E with | some E' => .fl .nx E' L | none => .stuck
  | .sub o i => SRes.of (evE c o E L) E fun x L1 => SRes.of (evE c i E L1) E fun y L2 => match setD x y d L2 with | some L3 => .fl .nx E L3 | none => .stuck
  | .fld o f => SRes.of (evE c o E L) E fun x L1 => match x with
      | .ref n => match L1[n]? with
        | some (.ins C fs) => if decide (fs.length < 1000) then .fl .nx E (L1.set n (.ins C (putFld f d fs))) else .stuck
        | _ => .stuck
      | _ => .stuck
def setAll : List Nat → List D → Ev → Ev
  | i :: is, d :: ds, E => setAll is ds (E.set i (some d))
  | _, _, E => E
mutual
def evS (c : Cxt) : St → Ev → Live → SRes
  | .ex e, E, L => SRes.of (evE c e E L) E fun _ L1 => .fl .nx E L1
  | .asg g e, E, L => SRes.of (evE c e E L) E fun d L1 => storeT c g d E L1
  | .par is es, E, L => SRes.of (evA c es E L) E fun ds L1 => if is.length = ds.length then .fl .nx (setAll is ds E) L1 else .stuck
  | .nev, _, _ => .stuck
  | .aug i o e, E, L => match E[i]? with
      | some (some x) => SRes.of (evE c e E L) E fun y L1 => match x with
        | .int a => match y with
          | .int b => match o with
            | .add => .fl .nx (E.set i (some (.int (a + b)))) L1
            | .sub => .fl .nx (E.set i (some (.int (a - b)))) L1
            | _ => .stuck
          | _ => .stuck
        | _ => .stuck
      | _ => .stuck
  | .ret e, E, L => SRes.of (evE c e E L) E fun d L1 => .fl (.rt d) E L1
  | .retN, E, L => .fl (.rt .non) E L
  | .ite t a b, E, L => SRes.of (evT c t E L) E fun k L1 => if k then evSs c a E L1 else evSs c b E L1
  | .for_ g it b, E, L => SRes.of (evI c it E L) E fun p L1 => forL p.2 g (fun E' L' => evSs c b E' L') p.1 E L1
  | .whl t b, E, L => whlL (evT c t) (fun E' L' => evSs c b E' L') c.fuel E L
  | .brk, E, L => .fl .bk E L
  | .cnt, E, L => .fl .ct E L
  | .pas, E, L => .fl .nx E L
  | .rais C es, E, L => SRes.of (evA c es E L) E fun ds L1 => match c.exf C with
      | some fs => if fs = [] ∨ fs.length = ds.length then .exc C (fs.zip ds) E L1 else .stuck
      | none => .stuck
  | .del o i, E, L => SRes.of (evE c o E L) E fun x L1 => SRes.of (evE c i E L1) E fun y L2 => match delD x y L2 with | some L3 => .fl .nx E L3 | none => .stuck
def evSs (c : Cxt) : Ss → Ev → Live → SRes
  | .nil, E, L => .fl .nx E L
  | .cons s ss, E, L => (evS c s E L).seq fun E' L' => evSs c ss E' L'
end
end MP
set_option maxHeartbeats 4000000
/-! MP: operations by values -/
namespace MP
open PySem PySem.Spec PyProof.Rows L2

section
variable {G : Gv} {wd : Wd} {H : Hp} {L : Live} {v : V} {d : D} {ds : List D}
/-- what is wanted of a value d and the live objects L behind an operation that began in wd -/
def End (G : Gv) (wd : Wd) (d : D) (L : Live) (Q : VK) : Prop := ∀ wd' H' v, Ext wd wd' → WOk (G := G) wd' H' L → RelD G wd' v d → Q v H'
theorem End.now {Q : VK} (e : End G wd d L Q) (w : WOk (G := G) wd H L) (r : RelD G wd v d) : Q v H := e wd H v (Ext.refl _) w r
theorem rd_list (w : WOk (G := G) wd H L) (r : RelD G wd v d) (h : lstOf L d = some ds) : ∃ a xs, v = .ref a ∧ Rd H a (.lst xs) ∧ RelDs G wd xs ds := by
  cases d with
  | lst t es =>
    simp only [lstOf, Option.some.injEq] at h
    subst h
    simp only [RelD] at r
    obtain ⟨a, xs, rfl, h2, h3, _⟩ := r
    exact ⟨a, xs, rfl, Rd.mono w.sub h2, h3⟩
  | ref n =>
    simp only [RelD] at r
    obtain ⟨a, h1, rfl⟩ := r
    simp only [lstOf] at h
    cases q : L[n]? with
    | none => rw [q] at h; cases h
    | some o =>
      rw [q] at h
      obtain ⟨a', e1, e2, _⟩ := w.live n o q
      rw [h1] at e1; cases e1
      cases o with
      | lst es =>
        simp only [Option.some.injEq] at h
        subst h
        obtain ⟨xs, e3, e4⟩ := e2
        exact ⟨a, xs, rfl, .inl e3, e4⟩
      | _ => simp at h
  | _ => simp [lstOf] at h
theorem rd_tup (w : WOk (G := G) wd H L) (r : RelD G wd v (.tup ds)) : ∃ a xs, v = .ref a ∧ SqT G.K H a xs ∧ RelDs G wd xs ds := by
  simp only [RelD] at r
  obtain ⟨a, xs, h1, h2, h3⟩ := r
  exact ⟨a, xs, h1, SqT.mono w.sub h2, h3⟩
theorem rd_seq (w : WOk (G := G) wd H L) (r : RelD G wd v d) (h : seqOf L d = some ds) : ∃ a xs, v = .ref a ∧ (SqL G.K H a xs ∨ SqT G.K H a xs) ∧ RelDs G wd xs ds := by
  by_cases ht : ∃ es, d = .tup es
  · obtain ⟨es, rfl⟩ := ht
    simp only [seqOf, Option.some.injEq] at h
    subst h
    obtain ⟨a, xs, h1, h2, h3⟩ := rd_tup w r
    exact ⟨a, xs, h1, .inr h2, h3⟩
  · have e : seqOf L d = lstOf L d := by
      cases d with
      | tup es => exact absurd ⟨es, rfl⟩ ht
      | _ => rfl
    rw [e] at h
    obtain ⟨a, xs, h1, h2, h3⟩ := rd_list w r h
    exact ⟨a, xs, h1, .inl (.inl h2), h3⟩
/-- a live object that a reference names -/
theorem rd_ref {n : Nat} {o : LO} (w : WOk (G := G) wd H L) (r : RelD G wd v (.ref n)) (h : L[n]? = some o) : ∃ a, v = .ref a ∧ wd.ι n = some a ∧ RelO (G := G) wd H a o ∧ (o ≠ .gone → wd.F a = none) := by
  simp only [RelD] at r
  obtain ⟨a, h1, rfl⟩ := r
  obtain ⟨a', e1, e2, e3⟩ := w.live n o h
  rw [h1] at e1; cases e1
  exact ⟨a, rfl, h1, e2, e3⟩

/-- a new list -/
theorem new_list {lv : Bool} {xs : List V} {p : Addr} {Q : VK} (w : WOk (G := G) wd H L) (rs : RelDs G wd xs ds) (hp : H p = none) (e : End G wd (newL lv ds L).1 (newL lv ds L).2 Q) : Q (.ref p) (upd H p (.lst xs)) := by
  cases lv with
  | false =>
    obtain ⟨x, w'⟩ := w.frz (o := .lst xs) hp (.inl ⟨xs, rfl⟩)
    refine e _ _ _ x w' ?_
    show RelD G _ _ (.lst 0 ds)
    simp only [RelD]
    refine ⟨p, xs, rfl, .inl upd_same, RelDs.ext G x rs, fun _ hb => ?_, fun k hk => by cases hk⟩
    obtain ⟨o, ho⟩ := w.bor p hb
    rw [w.fnone hp] at ho; cases ho
  | true =>
    obtain ⟨x, w'⟩ := w.add (o := .lst xs) (x := .lst ds) hp (fun wd' e' H' k h => ⟨xs, h, RelDs.ext G e' rs⟩)
    refine e _ _ _ x w' ?_
    show RelD G _ _ (.ref L.length)
    simp only [RelD]
    exact ⟨p, Wd.add_at, rfl⟩
/-- a new tuple -/
theorem new_tup {xs : List V} {p : Addr} {Q : VK} (w : WOk (G := G) wd H L) (rs : RelDs G wd xs ds) (hp : H p = none) (e : End G wd (.tup ds) L Q) : Q (.ref p) (upd H p (.tup xs)) := by
  obtain ⟨x, w'⟩ := w.frz (o := .tup xs) hp (.inr (.inl ⟨xs, rfl⟩))
  refine e _ _ _ x w' ?_
  simp only [RelD]
  exact ⟨p, xs, rfl, .inl (.inl upd_same), RelDs.ext G x rs⟩

/-! ### deep data -/
mutual
theorem dp_of (w : WOk (G := G) wd H L) : ∀ {d : D} {p : PyData} {v : V}, toPy d = some p → RelD G wd v d → Dp G.K H v p
  | .non, p, v, h, r => by simp only [toPy, Option.some.injEq] at h; simp only [RelD] at r; subst h r; exact .non
  | .bl b, p, v, h, r => by simp only [toPy, Option.some.injEq] at h; simp only [RelD] at r; subst h r; exact .bl b
  | .int i, p, v, h, r => by simp only [toPy, Option.some.injEq] at h; simp only [RelD] at r; subst h r; exact .int i
  | .str s, p, v, h, r => by simp only [toPy, Option.some.injEq] at h; simp only [RelD] at r; subst h r; exact .str s
  | .tup ds, p, v, h, r => by
    simp only [toPy] at h
    cases q : toPys ds with
    | none => rw [q] at h; cases h
    | some ps =>
      rw [q] at h; simp only [Option.some.injEq] at h; subst h
      obtain ⟨a, xs, rfl, h2, h3⟩ := rd_tup w r
      exact .tup h2 (dps_of w q h3)
  | .lst t ds, p, v, h, r => by
    simp only [toPy] at h
    cases q : toPys ds with
    | none => rw [q] at h; cases h
    | some ps =>
      rw [q] at h; simp only [Option.some.injEq] at h; subst h
      obtain ⟨a, xs, rfl, h2, h3⟩ := rd_list w r (ds := ds) rfl
      exact .lst (.inl h2) (dps_of w q h3)
  | .ref n, p, v, h, r => by simp [toPy] at h
  | .dct ks ds, p, v, h, r => by simp [toPy] at h
theorem dps_of (w : WOk (G := G) wd H L) : ∀ {ds : List D} {ps : List PyData} {xs : List V}, toPys ds = some ps → RelDs G wd xs ds → DpAll G.K H xs ps
  | [], ps, xs, h, r => by simp only [toPys, Option.some.injEq] at h; simp only [RelDs] at r; subst h r; exact .nil
  | d :: ds, ps, xs, h, r => by
    simp only [RelDs] at r
    obtain ⟨v, vs, rfl, r1, r2⟩ := r
    simp only [toPys] at h
    cases q : toPy d with
    | none => rw [q] at h; cases h
    | some p =>
      rw [q] at h
      cases q2 : toPys ds with
      | none => rw [q2] at h; cases h
      | some qs =>
        rw [q2] at h; simp only [Option.some.injEq] at h; subst h
        exact .cons (dp_of w q r1) (dps_of w q2 r2)
end
theorem dpm_of {f : D → Option PyData} (hf : ∀ {d p v}, f d = some p → RelD G wd v d → Dp G.K H v p) : ∀ {ds : List D} {ps : List PyData} {xs : List V}, mapO f ds = some ps → RelDs G wd xs ds → DpAll G.K H xs ps
  | [], ps, xs, h, r => by simp only [mapO, Option.some.injEq] at h; simp only [RelDs] at r; subst h r; exact .nil
  | d :: ds, ps, xs, h, r => by
    simp only [RelDs] at r
    obtain ⟨v, vs, rfl, r1, r2⟩ := r
    simp only [mapO] at h
    cases q : f d with
    | none => rw [q] at h; cases h
    | some p =>
      rw [q] at h
      cases q2 : mapO f ds with
      | none => rw [q2] at h; cases h
      | some qs =>
        rw [q2] at h; simp only [Option.some.injEq] at h; subst h
        exact .cons (hf q r1) (dpm_of hf q2 r2)
theorem dpv_of (w : WOk (G := G) wd H L) : ∀ {n : Nat} {d : D} {p : PyData} {v : V}, view L n d = some p → RelD G wd v d → Dp G.K H v p
  | 0, d, p, v, h, r => by simp [view] at h
  | n + 1, d, p, v, h, r => by
    have ih : ∀ {d : D} {p : PyData} {v : V}, view L n d = some p → RelD G wd v d → Dp G.K H v p := fun h r => dpv_of w h r
    cases d with
    | ref k =>
      simp only [view] at h
      cases q : L[k]? with
      | none => rw [q] at h; cases h
      | some o =>
        rw [q] at h
        cases o with
        | lst es =>
          simp only [Option.map_eq_some_iff] at h
          obtain ⟨ps, h1, rfl⟩ := h
          obtain ⟨a, xs, rfl, h2, h3⟩ := rd_list w r (ds := es) (by simp only [lstOf, q])
          exact .lst (.inl h2) (dpm_of ih h1 h3)
        | _ => simp at h
    | tup es =>
      simp only [view, Option.map_eq_some_iff] at h
      obtain ⟨ps, h1, rfl⟩ := h
      obtain ⟨a, xs, rfl, h2, h3⟩ := rd_tup w r
      exact .tup h2 (dpm_of ih h1 h3)
    | lst t es =>
      simp only [view, Option.map_eq_some_iff] at h
      obtain ⟨ps, h1, rfl⟩ := h
      obtain ⟨a, xs, rfl, h2, h3⟩ := rd_list w r (ds := es) rfl
      exact .lst (.inl h2) (dpm_of ih h1 h3)
    | _ => simp only [view] at h; exact dp_of w h r
theorem dpp_of (w : WOk (G := G) wd H L) {p : PyData} (h : pyOf L d = some p) (r : RelD G wd v d) : Dp G.K H v p := by
  unfold pyOf at h
  cases q : toPy d with
  | none => rw [q] at h; exact dpv_of w h r
  | some x => rw [q] at h; simp only [Option.some.injEq] at h; subst h; exact dp_of w q r
end

/-! ### operators -/
variable {G : Gv} {X : Cx}
def rB (G : Gv) (g : D → D → Live → Option (D × Live)) : R2 := fun x y H Q => ∃ wd a b L d L', WOk (G := G) wd H L ∧ RelD G wd x a ∧ RelD G wd y b ∧ g a b L = some (d, L') ∧ End G wd d L' Q
theorem mulOk_ok {i j : Int} (h : mulOk i j = true) : IntMulOk i j := by
  unfold mulOk at h
  simp only [Bool.or_eq_true, Bool.and_eq_true, decide_eq_true_eq] at h
  rcases h with (⟨h1, h2⟩ | ⟨h1, h2⟩) | h
  · exact .of_left (intBits_le_64 h1 h2)
  · exact .of_right (intBits_le_64 h1 h2)
  · exact CMulW.ok h
theorem intBits_le (a : Int) : (Builtin.Int.intBits a : Nat) ≤ a.natAbs.log2 + 1 := by
  unfold Builtin.Int.intBits
  split <;> omega
theorem binI_ok {o : Bop} {lv : Bool} {i j : Int} {d : D} {L L' : Live} (h : binD o lv (.int i) (.int j) L = some (d, L')) : L' = L ∧ ∃ k : Int, d = .int k ∧ ∀ (M : Unit) (pins : List (Addr × Obj)) (s : Shared) (t u : Tok) (Q E : Value → Shared → Prop),
    Q (.int k s.toks) { s with toks := s.toks + 1 } → wpAny (model X.prog X.w) X.A (binaryOp (match o with | .add => .Add | .sub => .Sub | .mul => .Mult | .fdiv => .FloorDiv | .mod => .Mod | .pow => .Pow) (.int i t) (.int j u)) Q E s := by
  cases o with
  | add => simp only [binD, Option.some.injEq, Prod.mk.injEq] at h; obtain ⟨rfl, rfl⟩ := h; exact ⟨rfl, _, rfl, fun _ _ _ _ _ _ _ q => add_int q⟩
  | sub => simp only [binD, Option.some.injEq, Prod.mk.injEq] at h; obtain ⟨rfl, rfl⟩ := h; exact ⟨rfl, _, rfl, fun _ _ _ _ _ _ _ q => sub_int q⟩
  | mul =>
    simp only [binD] at h
    split at h
    · rename_i hc
      simp only [Option.some.injEq, Prod.mk.injEq] at h; obtain ⟨rfl, rfl⟩ := h
      exact ⟨rfl, _, rfl, fun _ _ _ _ _ _ _ q => mul_int q (mulOk_ok hc)⟩
    · cases h
  | fdiv =>
    simp only [binD] at h
    split at h
    · rename_i hc
      simp only [divOk, Bool.and_eq_true, decide_eq_true_eq] at hc
      simp only [Option.some.injEq, Prod.mk.injEq] at h; obtain ⟨rfl, rfl⟩ := h
      refine ⟨rfl, _, rfl, fun _ _ _ _ _ _ _ q => ?_⟩
      have h1 := hc.1
      exact floordiv_int (by omega) (by rw [Int.fdiv_eq_ediv_of_nonneg i (by omega)]; exact q) (.inl (PyProof.noPylong_of_log2 hc.2))
    · cases h
  | mod =>
    simp only [binD] at h
    split at h
    · rename_i hc
      have h1 : (0 : Int) < j := of_decide_eq_true hc
      simp only [Option.some.injEq, Prod.mk.injEq] at h; obtain ⟨rfl, rfl⟩ := h
      exact ⟨rfl, _, rfl, fun _ _ _ _ _ _ _ q => mod_int' (by omega) (by rw [Int.fmod_eq_emod_of_nonneg i (by omega)]; exact q)⟩
    · cases h
  | pow =>
    simp only [binD] at h
    split at h
    · rename_i hc
      simp only [powOk, Bool.and_eq_true, decide_eq_true_eq] at hc
      simp only [Option.some.injEq, Prod.mk.injEq] at h; obtain ⟨rfl, rfl⟩ := h
      refine ⟨rfl, _, rfl, fun _ _ _ _ _ _ _ q => pow_int hc.1 ?_ q⟩
      have hb := intBits_le i
      have h2 : ((Builtin.Int.intBits i : Nat) : Int) * j ≤ ((i.natAbs.log2 + 1 : Nat) : Int) * j := Int.mul_le_mul_of_nonneg_right (by omega) hc.1
      exact Int.le_trans h2 hc.2
    · cases h
abbrev bopM : Bop → Operator | .add => .Add | .sub => .Sub | .mul => .Mult | .fdiv => .FloorDiv | .mod => .Mod | .pow => .Pow

theorem lstX {pins : List (Addr × Obj)} {s : Shared} {σ : L2.St} {H : Hp} {a : Addr} {xs : List V} (I : Inv X pins σ H s) (h : Rd H a (.lst xs)) :
    xs.length ≤ sizeLine ∧ ∃ (its : List Value) (n : Nat), Vals xs its ∧ xs.length = its.length ∧ s.heap.get? a = some { cls := .type "list", data := .seq its.toArray n } := by
  obtain ⟨z, its, n, r, e⟩ : ObjOk X.prog X.w H s.heap a (.lst xs) := h.ok I.hok
  exact ⟨z, its, n, r, r.length, e⟩
/-- list + list, any two that can be read -/
theorem cat_X : OpR X (binaryOp .Add) (fun x y H Q => ∃ l b xs zs, x = .ref l ∧ y = .ref b ∧ Rd H l (.lst xs) ∧ Rd H b (.lst zs) ∧ xs.length + zs.length ≤ sizeLine ∧ ∀ p, H p = none → Q (.ref p) (upd H p (.lst (xs ++ zs)))) := by
  intro pins s σ H x y v u Q I rx ry h
  obtain ⟨l, b, xs, zs, rfl, rfl, hH, hB, hz, q⟩ := h
  cases rx
  cases ry
  obtain ⟨z, its, n, r, hl, e⟩ := lstX I hH
  obtain ⟨z2, its2, n2, r2, hl2, e2⟩ := lstX I hB
  refine PySem.P.add_list e e2 ?_ (by rw [List.size_toArray, List.size_toArray]; omega)
  have ea : its.toArray ++ its2.toArray = (its ++ its2).toArray := by simp
  rw [ea]
  exact ⟨.ref _, _, I.lnew (t' := s.toks) (r.append r2) (by rw [List.length_append]; omega), rfl, q _ I.fresh⟩
/-- list * int -/
theorem rep_X : OpR X (binaryOp .Mult) (fun x y H Q => ∃ l k xs, x = .ref l ∧ y = .int k ∧ Rd H l (.lst xs) ∧ -(2 ^ 63) ≤ k ∧ k < 2 ^ 63 ∧ xs.length * k.toNat ≤ sizeLine ∧ ∀ p, H p = none → Q (.ref p) (upd H p (.lst (List.replicate k.toNat xs).flatten))) := by
  intro pins s σ H x y v u Q I rx ry h
  obtain ⟨l, k, xs, rfl, rfl, hH, h1, h2, hz, q⟩ := h
  cases rx
  obtain ⟨t, rfl⟩ := ry
  obtain ⟨z, its, n, r, hl, e⟩ := lstX I hH
  have hlen : its.toArray.size * k.toNat ≤ sizeLine := by rw [List.size_toArray, ← hl]; exact hz
  have hcap : ¬ its.toArray.size * k.toNat > (2 ^ 63 - 1) / 8 := by
    have : (sizeLine : Nat) ≤ (2 ^ 63 - 1) / 8 := by decide
    omega
  have hfit : ¬ (!Builtin.List.listFitsIndex k) = true := by
    rw [fitsIndex_both h1 h2]
    exact Bool.false_ne_true
  have hlong : ¬ Builtin.List.listTooLong (its.toArray.size * k.toNat) = true := by
    rw [notLongL hlen]
    exact Bool.false_ne_true
  have hnew : List.foldl (fun x1 x2 => x1 ++ x2) #[] (List.replicate (if its.toArray.isEmpty = true then 0 else k.toNat) its.toArray) = (List.replicate k.toNat its).flatten.toArray := by
    have f0 : ∀ m : Nat, List.foldl (fun x1 x2 => x1 ++ x2) #[] (List.replicate m its.toArray) = (List.replicate m its).flatten.toArray := fun m => by
      have := foldl_rep its m []
      rw [List.nil_append] at this
      exact this
    rw [f0]
    cases its with
    | nil => simp
    | cons a r' => rw [if_neg (by simp)]
  refine wpAny_binaryOp_repeat_ref (T := "list") (U := "int") (by decide) ⟨_, e, rfl⟩ (fun s' => typeIs_int s' k t) noFill_list_mul F.fills_int_mul F.slot_int_rmul repeat_list F.slot_int_index.lookup
    (call_meets F.slot_int_rmul (typeIs_int s k t) F.entry_int_rmul (F.args_int_rmul_2 _ _) (int___rmul___int_list k t l its.toArray n)
      ⟨e, rfl, ⟨_, e, rfl⟩, call_meets F.slot_list_mul ⟨_, e, rfl⟩ F.entry_list_mul (F.args_list_mul_2 _ _) (AutoListH.list___mul___list_int_3 l its.toArray n k t hfit hcap hlong) ⟨e, ?_⟩⟩)
  rw [hnew]
  exact ⟨.ref _, _, I.lnew (t' := s.toks) (r.rep k.toNat) (by rw [PyProof.Rows.lm_len_rep_flat, Nat.mul_comm]; exact hz), rfl, q _ I.fresh⟩

theorem RelDs.rep {wd : Wd} {xs : List V} {ds : List D} (r : RelDs G wd xs ds) : ∀ n : Nat, RelDs G wd (List.replicate n xs).flatten (List.replicate n ds).flatten
  | 0 => by simp [RelDs]
  | n + 1 => by
    rw [List.replicate_succ, List.replicate_succ, List.flatten_cons, List.flatten_cons]
    exact RelDs.append r (RelDs.rep r n)

/-- the operators -/
theorem op_ok (hK : X.K = G.K) (o : Bop) (lv : Bool) : OpR X (binaryOp (bopM o)) (rB G (binD o lv)) := by
  intro pins s σ H x y v u Q I rx ry h
  obtain ⟨wd, a, b, L, d, L', w, ra, rb, hg, he⟩ := h
  have other : (∀ i, a ≠ .int i) → (∀ i, a ≠ .str i) → (∀ i, a ≠ .tup i) → wpAny (model X.prog X.w) X.A (binaryOp (bopM o) v u) (EP X pins σ Q) X.xe s := fun n1 n2 n3 => by
    have e : binD o lv a b L = (match lstOf L a with | some xs => binL o lv xs b L | none => none) := by
      cases a with
      | int i => exact absurd rfl (n1 i)
      | str i => exact absurd rfl (n2 i)
      | tup i => exact absurd rfl (n3 i)
      | _ => rfl
    rw [e] at hg
    cases q : lstOf L a with
    | none => rw [q] at hg; cases hg
    | some ds =>
      rw [q] at hg
      obtain ⟨l, xs, rfl, hx, rx'⟩ := rd_list w ra q
      cases o with
      | add =>
        simp only [binL] at hg
        cases q2 : lstOf L b with
        | none => rw [q2] at hg; cases hg
        | some es =>
          rw [q2] at hg
          simp only at hg
          split at hg
          · rename_i hz
            have hz' : ds.length + es.length ≤ sizeLine := of_decide_eq_true hz
            obtain ⟨l2, ys, rfl, hy, ry'⟩ := rd_list w rb q2
            simp only [Option.some.injEq] at hg
            have e1 : (newL lv (ds ++ es) L).1 = d := by rw [hg]
            have e2 : (newL lv (ds ++ es) L).2 = L' := by rw [hg]
            subst e1 e2
            refine cat_X pins s σ H _ _ v u Q I rx ry ⟨l, l2, xs, ys, rfl, rfl, hx, hy, ?_, fun p hp => new_list w (RelDs.append rx' ry') hp he⟩
            have := RelDs.length rx'; have := RelDs.length ry'; omega
          · cases hg
      | mul =>
        simp only [binL] at hg
        cases b with
        | int k =>
          simp only at hg
          split at hg
          · rename_i hz
            simp only [Bool.and_eq_true, decide_eq_true_eq] at hz
            obtain ⟨⟨h1, h2⟩, h3⟩ := hz
            have h3' : ds.length * k.toNat ≤ sizeLine := of_decide_eq_true h3
            simp only [Option.some.injEq] at hg
            have e1 : (newL lv (List.replicate k.toNat ds).flatten L).1 = d := by rw [hg]
            have e2 : (newL lv (List.replicate k.toNat ds).flatten L).2 = L' := by rw [hg]
            subst e1 e2
            simp only [RelD] at rb
            subst rb
            refine rep_X pins s σ H _ _ v u Q I rx ry ⟨l, k, xs, rfl, rfl, hx, h1, h2, ?_, fun p hp => new_list w (RelDs.rep rx' _) hp he⟩
            rw [RelDs.length rx']; exact h3'
          · cases hg
        | _ => cases hg
      | _ => cases hg
  cases a with
  | int i =>
    simp only [RelD] at ra
    subst ra
    cases b with
    | int j =>
      simp only [RelD] at rb
      subst rb
      obtain ⟨t, rfl⟩ := rx
      obtain ⟨t', rfl⟩ := ry
      obtain ⟨rfl, k, rfl, f⟩ := binI_ok (X := X) hg
      have := f () pins s t t' (EP X pins σ Q) X.xe ⟨.int k, H, I.tok _, ⟨_, rfl⟩, he.now w (by simp [RelD])⟩
      cases o <;> exact this
    | _ => simp [binD] at hg
  | str i =>
    simp only [RelD] at ra
    subst ra
    cases b with
    | str j =>
      simp only [RelD] at rb
      subst rb
      cases o with
      | add =>
        simp only [binD] at hg
        split at hg
        · rename_i hz
          simp only [Option.some.injEq, Prod.mk.injEq] at hg
          obtain ⟨rfl, rfl⟩ := hg
          exact op_add_str pins s σ H _ _ v u Q I rx ry ⟨i, j, rfl, rfl, of_decide_eq_true hz, he.now w (by simp [RelD])⟩
        · cases hg
      | _ => simp [binD] at hg
    | _ => simp [binD] at hg
  | tup ds =>
    cases b with
    | tup es =>
      obtain ⟨l, xs, rfl, hx, rx'⟩ := rd_tup w ra
      obtain ⟨l2, ys, rfl, hy, ry'⟩ := rd_tup w rb
      cases o with
      | add =>
        simp only [binD] at hg
        split at hg
        · rename_i hz
          have hz' : ds.length + es.length ≤ sizeLine := of_decide_eq_true hz
          simp only [Option.some.injEq, Prod.mk.injEq] at hg
          obtain ⟨rfl, rfl⟩ := hg
          refine op_catA pins s σ H _ _ v u Q I rx ry ⟨l, l2, xs, ys, rfl, rfl, by rw [hK]; exact hx, by rw [hK]; exact hy, ?_, fun e => ?_, fun n e => ?_, fun _ _ p hp => new_tup w (RelDs.append rx' ry') hp he⟩
          · have := RelDs.length rx'; have := RelDs.length ry'; omega
          · have : ds = [] := by have := RelDs.length rx'; rw [e] at this; exact List.length_eq_zero_iff.mp this.symm
            subst this
            exact he.now w rb
          · have : es = [] := by have := RelDs.length ry'; rw [e] at this; exact List.length_eq_zero_iff.mp this.symm
            subst this
            rw [List.append_nil] at he
            exact he.now w ra
        · cases hg
      | _ => simp [binD] at hg
    | _ => simp [binD] at hg
  | non => exact other (by simp) (by simp) (by simp)
  | bl b' => exact other (by simp) (by simp) (by simp)
  | lst t es => exact other (by simp) (by simp) (by simp)
  | ref n => exact other (by simp) (by simp) (by simp)
  | dct ks es => exact other (by simp) (by simp) (by simp)
end MP
set_option maxHeartbeats 4000000
/-! MP: comparisons, subscripts, built-ins, methods by values -/
namespace MP
open PySem PySem.Spec PyProof.Rows L2

section
variable {G : Gv} {X : Cx}
abbrev copM : Cop → CmpOp | .eq => .Eq | .ne => .NotEq | .lt => .Lt | .le => .LtE | .gt => .Gt | .ge => .GtE | .is_ => .Is | .isn => .IsNot | .in_ => .In | .nin => .NotIn
def rC (G : Gv) (o : Cop) : R2 := fun x y H Q => ∃ wd a b L k, WOk (G := G) wd H L ∧ RelD G wd x a ∧ RelD G wd y b ∧ cmpD o a b L = some k ∧ Q (.bl k) H

theorem scal_of {wd : Wd} {x y : V} {a b : D} (ra : RelD G wd x a) (rb : RelD G wd y b) (h : scal2 a b = true) : scal x y = true ∧ decide (x = y) = eqS a b := by
  cases a with
  | non =>
    simp only [RelD] at ra; subst ra
    cases b <;> first | (simp [scal2] at h; done) | (simp only [RelD] at rb; subst rb; exact ⟨rfl, by simp [eqS]⟩)
  | bl i =>
    simp only [RelD] at ra; subst ra
    cases b <;> first | (simp [scal2] at h; done) | (simp only [RelD] at rb; subst rb; exact ⟨rfl, by simp [eqS]⟩)
  | int i =>
    simp only [RelD] at ra; subst ra
    cases b <;> first | (simp [scal2] at h; done) | (simp only [RelD] at rb; subst rb; exact ⟨rfl, by simp [eqS]⟩)
  | str i =>
    simp only [RelD] at ra; subst ra
    cases b <;> first | (simp [scal2] at h; done) | (simp only [RelD] at rb; subst rb; exact ⟨rfl, by simp [eqS]⟩)
  | _ => cases b <;> simp [scal2] at h

theorem eq_ok (hK : X.K = G.K) (hu : X.A.units + 64 < cLine) {wd : Wd} {x y : V} {a b : D} {L : Live} {k : Bool} {H : Hp} {pins : List (Addr × Obj)} {s : Shared} {σ : L2.St} {v u : Value} {Q : VK}
    (I : Inv X pins σ H s) (rx : RelV x v) (ry : RelV y u) (w : WOk (G := G) wd H L) (ra : RelD G wd x a) (rb : RelD G wd y b) (hg : eqD L a b = some k) :
    (Q (.bl k) H → wpAny (model X.prog X.w) X.A (compareOp .Eq v u) (EP X pins σ Q) X.xe s) ∧ (Q (.bl (!k)) H → wpAny (model X.prog X.w) X.A (compareOp .NotEq v u) (EP X pins σ Q) X.xe s) := by
  unfold eqD at hg
  split at hg
  · rename_i hs
    obtain ⟨h1, h2⟩ := scal_of ra rb hs
    simp only [Option.some.injEq] at hg
    subst hg
    exact ⟨fun q => op_eq pins s σ H x y v u Q I rx ry ⟨h1, by rw [h2]; exact q⟩, fun q => op_ne pins s σ H x y v u Q I rx ry ⟨h1, by rw [h2]; exact q⟩⟩
  · cases q1 : pyOf L a with
    | none => rw [q1] at hg; cases hg
    | some p =>
      rw [q1] at hg
      cases q2 : pyOf L b with
      | none => rw [q2] at hg; cases hg
      | some p2 =>
        rw [q2] at hg
        simp only at hg
        split at hg
        · rename_i hs
          simp only [Bool.and_eq_true] at hs
          simp only [Option.some.injEq] at hg
          subst hg
          have d1 := dpp_of w q1 ra
          have d2 := dpp_of w q2 rb
          rw [← hK] at d1 d2
          exact ⟨fun q => op_eqD hu pins s σ H x y v u Q I rx ry ⟨p, p2, d1, d2, hs.1, hs.2, q⟩, fun q => op_neD hu pins s σ H x y v u Q I rx ry ⟨p, p2, d1, d2, hs.1, hs.2, q⟩⟩
        · cases hg

theorem flat_of {wd : Wd} {x : V} {a : D} (ra : RelD G wd x a) (h : flat a = true) : flatV x = true := by
  cases a <;> first | (simp [flat] at h; done) | (simp only [RelD] at ra; subst ra; rfl)
theorem flats_of {wd : Wd} : ∀ {ds : List D} {xs : List V}, RelDs G wd xs ds → ds.all flat = true → xs.all flatV = true
  | [], xs, r, _ => by simp only [RelDs] at r; subst r; rfl
  | d :: ds, xs, r, h => by
    simp only [RelDs] at r
    obtain ⟨v, vs, rfl, r1, r2⟩ := r
    simp only [List.all_cons, Bool.and_eq_true] at h ⊢
    exact ⟨flat_of r1 h.1, flats_of r2 h.2⟩
theorem eqF_of {wd : Wd} {x y : V} {a b : D} (ra : RelD G wd x a) (rb : RelD G wd y b) (ha : flat a = true) (hb : flat b = true) : L2.eqV x y = eqF a b := by
  cases a <;> first
    | (simp [flat] at ha; done)
    | (simp only [RelD] at ra; subst ra
       cases b <;> first
         | (simp [flat] at hb; done)
         | (simp only [RelD] at rb; subst rb; rfl))
theorem inF_of {wd : Wd} {x : V} {a : D} (ra : RelD G wd x a) (ha : flat a = true) : ∀ {ds : List D} {xs : List V}, RelDs G wd xs ds → ds.all flat = true → inV x xs = ds.any fun y => eqF y a
  | [], xs, r, _ => by simp only [RelDs] at r; subst r; rfl
  | d :: ds, xs, r, h => by
    simp only [RelDs] at r
    obtain ⟨v, vs, rfl, r1, r2⟩ := r
    simp only [List.all_cons, Bool.and_eq_true] at h
    have ih := inF_of ra ha r2 h.2
    unfold inV at ih ⊢
    rw [List.any_cons, List.any_cons, ih, eqF_of r1 ra h.1 ha]
theorem pairK_get {wd : Wd} {k : Key} : ∀ {ys : List (Key × V)} {kvs : List (Key × D)}, Paired (fun (p : Key × V) (q : Key × D) => p.1 = q.1 ∧ RelD G wd p.2 q.2) ys kvs →
    (∀ v, valV ys k = some v → ∃ d, getK k kvs = some d ∧ RelD G wd v d) ∧ (∀ d, getK k kvs = some d → ∃ v, valV ys k = some v ∧ RelD G wd v d) := by
  intro ys kvs r
  induction r with
  | nil => exact ⟨fun v h => by simp [valV] at h, fun d h => by simp [getK] at h⟩
  | @cons p q ps qs h t ih =>
    by_cases e : p.1 = k
    · have e2 : q.1 = k := h.1.symm.trans e
      rw [valV_pos e]
      have g : getK k (q :: qs) = some q.2 := by simp [getK, List.find?_cons, e2]
      rw [g]
      exact ⟨fun v hv => by cases hv; exact ⟨_, rfl, h.2⟩, fun d hd => by cases hd; exact ⟨_, rfl, h.2⟩⟩
    · have e2 : ¬ q.1 = k := fun z => e (h.1.trans z)
      rw [valV_neg e]
      have g : getK k (q :: qs) = getK k qs := by simp [getK, List.find?_cons, e2]
      rw [g]
      exact ih
theorem pairK_some {wd : Wd} {k : Key} {ys : List (Key × V)} {kvs : List (Key × D)} (r : Paired (fun (p : Key × V) (q : Key × D) => p.1 = q.1 ∧ RelD G wd p.2 q.2) ys kvs) : (valV ys k).isSome = (getK k kvs).isSome := by
  obtain ⟨h1, h2⟩ := pairK_get (k := k) r
  cases q : valV ys k with
  | some v => obtain ⟨d, e, _⟩ := h1 v q; rw [e]; rfl
  | none =>
    cases q2 : getK k kvs with
    | none => rfl
    | some d => obtain ⟨v, e, _⟩ := h2 d q2; rw [q] at e; cases e
theorem key_of {wd : Wd} {x : V} {a : D} {k : Key} (ra : RelD G wd x a) (h : keyOf a = some k) : x = kV k := by
  cases a <;> first
    | (simp [keyOf] at h; done)
    | (simp only [RelD] at ra; subst ra; simp only [keyOf, Option.some.injEq] at h; subst h; rfl)

/-- what a dict holds, on both sides -/
def KeyRel (G : Gv) (wd : Wd) (o : Option V) (d : Option D) : Prop := (∀ v, o = some v → ∃ e, d = some e ∧ RelD G wd v e) ∧ (∀ e, d = some e → ∃ v, o = some v ∧ RelD G wd v e)
theorem key_rel {wd : Wd} {o : Option V} {d : Option D} (h : KeyRel G wd o d) : o.isSome = d.isSome ∧ True := by
  refine ⟨?_, True.intro⟩
  cases q : o with
  | some v => obtain ⟨e, e1, _⟩ := h.1 v q; rw [e1]; rfl
  | none =>
    cases q2 : d with
    | none => rfl
    | some e => obtain ⟨v, e1, _⟩ := h.2 e q2; rw [q] at e1; cases e1
theorem key_at {wd : Wd} {H : Hp} {L : Live} {x y : V} {a b : D} {od : Option D} (w : WOk (G := G) wd H L) (ra : RelD G wd x a) (rb : RelD G wd y b) (h : keyAt L a b = some od) :
    ∃ l ys k, y = .ref l ∧ H l = some (.dK ys) ∧ x = kV k ∧ KeyRel G wd (valV ys k) od := by
  cases b with
  | ref n =>
    simp only [keyAt] at h
    cases q3 : L[n]? with
    | none => rw [q3] at h; cases h
    | some o =>
      rw [q3] at h
      cases o with
      | dic kvs =>
        simp only at h
        cases q4 : keyOf a with
        | none => rw [q4] at h; cases h
        | some kk =>
          rw [q4] at h
          simp only [Option.some.injEq] at h
          subst h
          obtain ⟨l, rfl, _, ⟨ys, hy, pr⟩, _⟩ := rd_ref w rb q3
          exact ⟨l, ys, kk, rfl, hy, key_of ra q4, pairK_get pr⟩
      | _ => simp at h
  | _ => simp [keyAt] at h

theorem in_ok (hK : X.K = G.K) (hu : X.A.units + 65 < cLine) {wd : Wd} {x y : V} {a b : D} {L : Live} {k : Bool} {H : Hp} {pins : List (Addr × Obj)} {s : Shared} {σ : L2.St} {v u : Value} {Q : VK}
    (I : Inv X pins σ H s) (rx : RelV x v) (ry : RelV y u) (w : WOk (G := G) wd H L) (ra : RelD G wd x a) (rb : RelD G wd y b) (hg : inD L a b = some k) :
    (Q (.bl k) H → wpAny (model X.prog X.w) X.A (compareOp .In v u) (EP X pins σ Q) X.xe s) ∧ (Q (.bl (!k)) H → wpAny (model X.prog X.w) X.A (compareOp .NotIn v u) (EP X pins σ Q) X.xe s) := by
  by_cases hs : ∃ z, b = .str z
  · obtain ⟨z, rfl⟩ := hs
    cases a with
    | str c =>
      simp only [inD, inStr] at hg
      split at hg
      · rename_i h1
        simp only [Option.some.injEq] at hg
        subst hg
        simp only [RelD] at ra rb
        subst ra rb
        have e : c = ⟨#[c.cps.getD 0 0]⟩ := by
          obtain ⟨⟨l⟩⟩ := c
          have h1' : l.length = 1 := h1
          match l, h1' with
          | [n], _ => rfl
        exact ⟨fun q => op_in_sign pins s σ H _ _ v u Q I rx ry ⟨_, z, by rw [← e], rfl, q⟩, fun q => op_notIn_sign pins s σ H _ _ v u Q I rx ry ⟨_, z, by rw [← e], rfl, q⟩⟩
      · cases hg
    | _ => simp [inD, inStr] at hg
  · have e : inD L a b = (match seqOf L b with | some ds => inSeq L a b ds | none => (keyAt L a b).map (·.isSome)) := by
      cases b with
      | str z => exact absurd ⟨z, rfl⟩ hs
      | _ => rfl
    rw [e] at hg
    clear e
    cases q0 : seqOf L b with
    | some ds =>
      rw [q0] at hg
      simp only [inSeq] at hg
      split at hg
      · rename_i hf
        simp only [Bool.and_eq_true] at hf
        simp only [Option.some.injEq] at hg
        subst hg
        obtain ⟨l, xs, rfl, hx, rx'⟩ := rd_seq w rb q0
        rw [← hK] at hx
        have e1 := inF_of ra hf.1 rx' hf.2
        rw [← e1]
        exact ⟨fun q => op_in_seq pins s σ H _ _ v u Q I rx ry ⟨l, xs, rfl, hx, flat_of ra hf.1, flats_of rx' hf.2, q⟩, fun q => op_notIn_seq pins s σ H _ _ v u Q I rx ry ⟨l, xs, rfl, hx, flat_of ra hf.1, flats_of rx' hf.2, q⟩⟩
      · cases q1 : pyOf L a with
        | none => rw [q1] at hg; cases hg
        | some p =>
          rw [q1] at hg
          cases q2 : pyOf L b with
          | none => rw [q2] at hg; cases hg
          | some p2 =>
            rw [q2] at hg
            have d1 := dpp_of w q1 ra
            have d2 := dpp_of w q2 rb
            rw [← hK] at d1 d2
            obtain ⟨as, r1⟩ := Dp.reads I p x v d1 rx
            obtain ⟨bs, r2⟩ := Dp.reads I p2 y u d2 ry
            cases p2 with
            | list qs =>
              simp only at hg
              split at hg
              · rename_i hh
                simp only [Bool.and_eq_true] at hh
                simp only [Option.some.injEq] at hg
                subst hg
                exact ⟨fun q => SeqAt.in_list_reads r2 r1 (SeqAt.canLay_of_shaped hh.2) (SeqAt.canLay_of_shaped hh.1) (room_in_shaped hh.1 hu) ⟨.bl _, H, I, rfl, q⟩,
                  fun q => SeqAt.notIn_list_reads r2 r1 (SeqAt.canLay_of_shaped hh.2) (SeqAt.canLay_of_shaped hh.1) (room_in_shaped hh.1 hu) ⟨.bl _, H, I, rfl, q⟩⟩
              · cases hg
            | tuple qs =>
              simp only at hg
              split at hg
              · rename_i hh
                simp only [Bool.and_eq_true] at hh
                simp only [Option.some.injEq] at hg
                subst hg
                exact ⟨fun q => SeqAt.in_tuple_reads r2 r1 (by have := SeqAt.canLay_of_shaped hh.2; simpa only [PyData.canLay0] using this) (SeqAt.canLay_of_shaped hh.1) (room_in_shaped hh.1 hu) ⟨.bl _, H, I, rfl, q⟩,
                  fun q => SeqAt.notIn_tuple_reads r2 r1 (by have := SeqAt.canLay_of_shaped hh.2; simpa only [PyData.canLay0] using this) (SeqAt.canLay_of_shaped hh.1) (room_in_shaped hh.1 hu) ⟨.bl _, H, I, rfl, q⟩⟩
              · cases hg
            | _ => simp at hg
    | none =>
      rw [q0] at hg
      simp only [Option.map_eq_some_iff] at hg
      obtain ⟨od, hg, rfl⟩ := hg
      obtain ⟨l, ys, kk, rfl, hy, rfl, hl⟩ := key_at w ra rb hg
      cases ry
      rw [← (key_rel hl).1]
      exact ⟨fun q => d_in (by omega) I (DGet.k hy) rx fun s3 I3 => ⟨.bl _, H, I3, rfl, q⟩, fun q => d_notIn (by omega) I (DGet.k hy) rx fun s3 I3 => ⟨.bl _, H, I3, rfl, q⟩⟩

theorem isNon_of {wd : Wd} {x : V} {a : D} (ra : RelD G wd x a) : decide (x = .non) = isNonD a := by
  cases a with
  | tup ds => simp only [RelD] at ra; obtain ⟨a, xs, rfl, _⟩ := ra; simp [isNonD]
  | lst t ds => simp only [RelD] at ra; obtain ⟨a, xs, rfl, _⟩ := ra; simp [isNonD]
  | ref n => simp only [RelD] at ra; obtain ⟨a, _, rfl⟩ := ra; simp [isNonD]
  | dct ks ds => simp only [RelD] at ra; obtain ⟨a, xs, rfl, _⟩ := ra; simp [isNonD]
  | _ => simp only [RelD] at ra; subst ra; simp [isNonD]

theorem cmp_ok (hK : X.K = G.K) (hu : X.A.units + 65 < cLine) (o : Cop) : OpR X (compareOp (copM o)) (rC G o) := by
  intro pins s σ H x y v u Q I rx ry h
  obtain ⟨wd, a, b, L, k, w, ra, rb, hg, q⟩ := h
  have isB : (b = .non ∨ ∃ z, b = .bl z) ∨ ¬ (b = .non ∨ ∃ z, b = .bl z) := Classical.em _
  cases o with
  | eq => exact (eq_ok hK (by omega) I rx ry w ra rb hg).1 q
  | ne =>
    simp only [cmpD, Option.map_eq_some_iff] at hg
    obtain ⟨k', h1, rfl⟩ := hg
    exact (eq_ok hK (by omega) I rx ry w ra rb h1).2 q
  | in_ => exact (in_ok hK hu I rx ry w ra rb hg).1 q
  | nin =>
    simp only [cmpD, Option.map_eq_some_iff] at hg
    obtain ⟨k', h1, rfl⟩ := hg
    exact (in_ok hK hu I rx ry w ra rb h1).2 q
  | is_ =>
    cases b with
    | non =>
      simp only [cmpD, Option.some.injEq] at hg
      simp only [RelD] at rb
      subst rb hg
      exact op_isN pins s σ H x _ v u Q I rx ry ⟨rfl, by rw [isNon_of ra]; exact q⟩
    | bl z =>
      cases a with
      | bl z' =>
        simp only [cmpD, Option.some.injEq] at hg
        simp only [RelD] at ra rb
        subst ra rb hg
        exact op_isBl pins s σ H _ _ v u Q I rx ry ⟨z', z, rfl, rfl, q⟩
      | _ => simp [cmpD] at hg
    | _ => simp [cmpD] at hg
  | isn =>
    cases b with
    | non =>
      simp only [cmpD, Option.some.injEq] at hg
      simp only [RelD] at rb
      subst rb hg
      exact op_notN pins s σ H x _ v u Q I rx ry ⟨rfl, by rw [isNon_of ra]; exact q⟩
    | bl z =>
      cases a with
      | bl z' =>
        simp only [cmpD, Option.some.injEq] at hg
        simp only [RelD] at ra rb
        subst ra rb hg
        exact op_notBl pins s σ H _ _ v u Q I rx ry ⟨z', z, rfl, rfl, q⟩
      | _ => simp [cmpD] at hg
    | _ => simp [cmpD] at hg
  | lt =>
    cases a with
    | int i =>
      cases b with
      | int j =>
        simp only [cmpD, ordI, Option.some.injEq] at hg
        simp only [RelD] at ra rb
        subst ra rb hg
        exact op_lt pins s σ H _ _ v u Q I rx ry ⟨i, j, rfl, rfl, q⟩
      | _ => simp [cmpD] at hg
    | _ => simp [cmpD] at hg
  | le =>
    cases a with
    | int i =>
      cases b with
      | int j =>
        simp only [cmpD, ordI, Option.some.injEq] at hg
        simp only [RelD] at ra rb
        subst ra rb hg
        exact op_le pins s σ H _ _ v u Q I rx ry ⟨i, j, rfl, rfl, q⟩
      | _ => simp [cmpD] at hg
    | _ => simp [cmpD] at hg
  | gt =>
    cases a with
    | int i =>
      cases b with
      | int j =>
        simp only [cmpD, ordI, Option.some.injEq] at hg
        simp only [RelD] at ra rb
        subst ra rb hg
        exact op_gt pins s σ H _ _ v u Q I rx ry ⟨i, j, rfl, rfl, q⟩
      | _ => simp [cmpD] at hg
    | _ => simp [cmpD] at hg
  | ge =>
    cases a with
    | int i =>
      cases b with
      | int j =>
        simp only [cmpD, ordI, Option.some.injEq] at hg
        simp only [RelD] at ra rb
        subst ra rb hg
        exact op_ge pins s σ H _ _ v u Q I rx ry ⟨i, j, rfl, rfl, q⟩
      | _ => simp [cmpD] at hg
    | _ => simp [cmpD] at hg

/-! ### truth -/
theorem tru_of (hK : X.K = G.K) {wd : Wd} {x : V} {a : D} {L : Live} {H : Hp} {k : Bool} (w : WOk (G := G) wd H L) (ra : RelD G wd x a) (h : truD L a = some k) : TruV X.K x H k := by
  cases a with
  | non => simp only [RelD] at ra; subst ra; simp only [truD, Option.some.injEq] at h; exact h.symm
  | bl b => simp only [RelD] at ra; subst ra; simp only [truD, Option.some.injEq] at h; exact h.symm
  | int i => simp only [RelD] at ra; subst ra; simp only [truD, Option.some.injEq] at h; exact h.symm
  | str z =>
    simp only [RelD] at ra; subst ra
    simp only [truD] at h
    split at h
    · rename_i hz
      simp only [Option.some.injEq] at h
      exact ⟨of_decide_eq_true hz, h.symm⟩
    · cases h
  | tup ds =>
    obtain ⟨l, xs, rfl, hx, rx⟩ := rd_tup w ra
    simp only [truD, Option.some.injEq] at h
    subst h
    refine .inr (.inl ⟨xs, by rw [hK]; exact hx, ?_⟩)
    have := RelDs.length rx
    cases xs <;> cases ds <;> simp_all
  | lst t ds =>
    obtain ⟨l, xs, rfl, hx, rx⟩ := rd_list w ra (ds := ds) rfl
    simp only [truD, Option.some.injEq] at h
    subst h
    refine .inl ⟨xs, .inl hx, ?_⟩
    have := RelDs.length rx
    cases xs <;> cases ds <;> simp_all
  | dct ks ds => simp [truD] at h
  | ref n =>
    simp only [truD] at h
    cases q : L[n]? with
    | none => rw [q] at h; cases h
    | some o =>
      rw [q] at h
      obtain ⟨l, rfl, _, ro, _⟩ := rd_ref w ra q
      cases o with
      | lst ds =>
        simp only [Option.some.injEq] at h
        subst h
        obtain ⟨xs, hx, rx⟩ := ro
        refine .inl ⟨xs, SqL.of hx, ?_⟩
        have := RelDs.length rx
        cases xs <;> cases ds <;> simp_all
      | dic kvs =>
        simp only [Option.some.injEq] at h
        subst h
        obtain ⟨ys, hy, pr⟩ := ro
        refine .inr (.inr ⟨ys, hy, ?_⟩)
        have := pr.length
        cases ys <;> cases kvs <;> simp_all
      | _ => simp at h

/-! ### subscripts -/
def rX (G : Gv) : R2 := fun x y H Q => ∃ wd a b L d, WOk (G := G) wd H L ∧ RelD G wd x a ∧ RelD G wd y b ∧ idxD a b L = some d ∧ ∀ v, RelD G wd v d → Q v H
theorem ix_ok (hK : X.K = G.K) (hu : X.A.units + 1 < cLine) : IxR X (rX G) := by
  intro value slice pins s σ H x y v u Q I rx ry h hs
  obtain ⟨wd, a, b, L, d, w, ra, rb, hg, q⟩ := h
  by_cases hstr : ∃ z, a = .str z
  · obtain ⟨z, rfl⟩ := hstr
    cases b with
    | int i =>
      simp only [idxD, idxStr] at hg
      split at hg
      · rename_i hz
        simp only [Option.map_eq_some_iff] at hg
        obtain ⟨c, h1, rfl⟩ := hg
        simp only [RelD] at ra rb
        subst ra rb
        exact ix_str value slice pins s σ H _ _ v u Q I rx ry ⟨z, i, c, rfl, rfl, of_decide_eq_true hz, h1, q _ (by simp [RelD])⟩ hs
      · cases hg
    | _ => simp [idxD, idxStr] at hg
  · have e : idxD a b L = (match seqOf L a with | some ds => idxSeq ds b | none => (keyAt L b a).bind id) := by
      cases a with
      | str z => exact absurd ⟨z, rfl⟩ hstr
      | _ => rfl
    rw [e] at hg
    clear e
    cases q0 : seqOf L a with
    | some ds =>
      rw [q0] at hg
      cases b with
      | int i =>
        simp only [idxSeq] at hg
        simp only [RelD] at rb
        subst rb
        obtain ⟨l, xs, rfl, hx, rx'⟩ := rd_seq w ra q0
        have hl := RelDs.length rx'
        unfold atI at hg
        obtain ⟨j, h1, h2⟩ := Option.bind_eq_some_iff.mp hg
        obtain ⟨vv, h3, h4⟩ := RelDs.get rx' h2
        have h5 : atI xs i = some vv := by
          unfold atI
          rw [hl, h1]
          exact h3
        rw [← hK] at hx
        rcases hx with hx | hx
        · exact ix_list value slice pins s σ H _ _ v u Q I rx ry ⟨l, xs, i, vv, rfl, rfl, hx, h5, q _ h4⟩ hs
        · exact ix_tup value slice pins s σ H _ _ v u Q I rx ry ⟨l, xs, i, vv, rfl, rfl, hx, h5, q _ h4⟩ hs
      | _ => simp [idxSeq] at hg
    | none =>
      rw [q0] at hg
      obtain ⟨od, hg, h2⟩ := Option.bind_eq_some_iff.mp hg
      simp only [id] at h2
      subst h2
      obtain ⟨l, ys, kk, rfl, hy, rfl, hl⟩ := key_at w rb ra hg
      cases rx
      obtain ⟨vv, h5, h6⟩ := hl.2 d rfl
      have g : DGet H l (kV kk) (some vv) := by rw [← h5]; exact DGet.k hy
      have ht : s.TypeIs (.ref l) "dict" := dict_typeIs I g
      exact tail_any ht PySem.F.slot_dict_getitem.lookup (d_getItem hu I g ry fun w' s3 I3 rw' => ⟨vv, H, I3, rw', q _ h6⟩) hs
end
end MP
set_option maxHeartbeats 4000000
/-! MP: slices, built-ins, methods of built-in types, isinstance, by values -/
namespace MP
open PySem PySem.Spec PyProof.Rows L2

section
variable {G : Gv} {X : Cx}
/-! ### slices -/
theorem RelDs.cut {wd : Wd} {xs : List V} {ds : List D} (r : RelDs G wd xs ds) (l h : Option Int) : RelDs G wd (cutV xs l h) (cutD ds l h) := by
  unfold cutV cutD
  rw [RelDs.length r]
  exact RelDs.take _ (RelDs.drop _ r)
def rS (G : Gv) (lv : Bool) : V → Option Int → Option Int → Hp → VK → Prop := fun x lo hi H Q => ∃ wd a L d L', WOk (G := G) wd H L ∧ RelD G wd x a ∧ slcP lv a lo hi L = some (d, L') ∧ End G wd d L' Q
theorem sl_ok (hK : X.K = G.K) (lv : Bool) : SlR X (rS G lv) := by
  intro pins s σ H x v vl vu lo hi sl Q I rx hs pl pu h
  obtain ⟨wd, a, L, d, L', w, ra, hg, he⟩ := h
  have other : ∀ ds, lstOf L a = some ds → (newL lv (cutD ds lo hi) L) = (d, L') → ∃ T id, typeLookup (.type T) "__getitem__" = pure (some (.builtin id)) ∧ s.TypeIs v T ∧ wpAny (model X.prog X.w) X.A (getItem v (.ref sl)) (EP X pins σ Q) X.xe s := fun ds h1 h2 => by
    obtain ⟨l, xs, rfl, hx, rx'⟩ := rd_list w ra h1
    have e1 : (newL lv (cutD ds lo hi) L).1 = d := by rw [h2]
    have e2 : (newL lv (cutD ds lo hi) L).2 = L' := by rw [h2]
    subst e1 e2
    exact sl_list pins s σ H _ v vl vu lo hi sl Q I rx hs pl pu ⟨l, xs, rfl, .inl hx, fun p hp => new_list w (RelDs.cut rx' lo hi) hp he⟩
  cases a with
  | str z =>
    simp only [slcP] at hg
    split at hg
    · rename_i hz
      simp only [Option.some.injEq, Prod.mk.injEq] at hg
      obtain ⟨rfl, rfl⟩ := hg
      simp only [RelD] at ra
      subst ra
      exact sl_str pins s σ H _ v vl vu lo hi sl Q I rx hs pl pu ⟨z, rfl, of_decide_eq_true hz, he.now w (by simp [RelD])⟩
    · cases hg
  | tup ds =>
    simp only [slcP, Option.some.injEq, Prod.mk.injEq] at hg
    obtain ⟨rfl, rfl⟩ := hg
    obtain ⟨l, xs, rfl, hx, rx'⟩ := rd_tup w ra
    refine sl_tupA pins s σ H _ v vl vu lo hi sl Q I rx hs pl pu ⟨l, xs, rfl, by rw [hK]; exact hx, fun hw => ?_, fun _ p hp => new_tup w (RelDs.cut rx' lo hi) hp he⟩
    have e : cutD ds lo hi = ds := by
      unfold cutD
      rw [← RelDs.length rx', hw.1, hw.2, List.drop_zero, Nat.sub_zero, List.take_of_length_le]
      rw [RelDs.length rx']; exact Nat.le_refl _
    rw [e] at he
    exact he.now w ra
  | lst t ds => simp only [slcP, lstOf] at hg; exact other ds rfl (Option.some.inj hg)
  | ref n =>
    simp only [slcP] at hg
    cases q : lstOf L (.ref n) with
    | none => rw [q] at hg; cases hg
    | some ds => rw [q] at hg; exact other ds q (Option.some.inj hg)
  | _ => simp [slcP, lstOf] at hg

/-! ### lists of ints, bools, texts -/
theorem ints_of {wd : Wd} : ∀ {ds : List D} {xs : List V} {ns : List Int}, RelDs G wd xs ds → intsOf ds = some ns → xs = ns.map V.int ∧ ds = ns.map D.int
  | [], xs, ns, r, h => by simp only [RelDs] at r; simp only [intsOf, Option.some.injEq] at h; subst r h; exact ⟨rfl, rfl⟩
  | d :: ds, xs, ns, r, h => by
    simp only [RelDs] at r
    obtain ⟨v, vs, rfl, r1, r2⟩ := r
    cases d with
    | int i =>
      simp only [intsOf] at h
      cases q : intsOf ds with
      | none => rw [q] at h; cases h
      | some l =>
        rw [q] at h; simp only [Option.some.injEq] at h; subst h
        simp only [RelD] at r1; subst r1
        obtain ⟨e1, e2⟩ := ints_of r2 q
        subst e1
        exact ⟨rfl, by rw [e2]; rfl⟩
    | _ => simp [intsOf] at h
theorem bools_of {wd : Wd} : ∀ {ds : List D} {xs : List V} {ns : List Bool}, RelDs G wd xs ds → boolsOf ds = some ns → xs = ns.map V.bl
  | [], xs, ns, r, h => by simp only [RelDs] at r; simp only [boolsOf, Option.some.injEq] at h; subst r h; rfl
  | d :: ds, xs, ns, r, h => by
    simp only [RelDs] at r
    obtain ⟨v, vs, rfl, r1, r2⟩ := r
    cases d with
    | bl i =>
      simp only [boolsOf] at h
      cases q : boolsOf ds with
      | none => rw [q] at h; cases h
      | some l =>
        rw [q] at h; simp only [Option.some.injEq] at h; subst h
        simp only [RelD] at r1; subst r1
        rw [bools_of r2 q]; rfl
    | _ => simp [boolsOf] at h
theorem strs_of {wd : Wd} : ∀ {ds : List D} {xs : List V} {ns : List Str}, RelDs G wd xs ds → strsOf ds = some ns → xs = ns.map V.str
  | [], xs, ns, r, h => by simp only [RelDs] at r; simp only [strsOf, Option.some.injEq] at h; subst r h; rfl
  | d :: ds, xs, ns, r, h => by
    simp only [RelDs] at r
    obtain ⟨v, vs, rfl, r1, r2⟩ := r
    cases d with
    | str i =>
      simp only [strsOf] at h
      cases q : strsOf ds with
      | none => rw [q] at h; cases h
      | some l =>
        rw [q] at h; simp only [Option.some.injEq] at h; subst h
        simp only [RelD] at r1; subst r1
        rw [strs_of r2 q]; rfl
    | _ => simp [strsOf] at h
theorem relInts {wd : Wd} : ∀ ns : List Int, RelDs G wd (ns.map V.int) (ns.map D.int)
  | [] => RelDs.nil
  | n :: ns => RelDs.cons (by simp [RelD]) (relInts ns)

theorem insI_perm (x : Int) : ∀ l : List Int, (insI x l).Perm (x :: l)
  | [] => .refl _
  | y :: r => by
    unfold insI
    split
    · exact .refl _
    · exact ((insI_perm x r).cons y).trans (.swap x y r)
theorem insI_sorted (x : Int) : ∀ l : List Int, l.Pairwise (· ≤ ·) → (insI x l).Pairwise (· ≤ ·)
  | [], _ => by simp [insI]
  | y :: r, h => by
    unfold insI
    obtain ⟨h1, h2⟩ := List.pairwise_cons.mp h
    split
    · rename_i hxy
      refine List.pairwise_cons.mpr ⟨fun z hz => ?_, h⟩
      rcases List.mem_cons.mp hz with rfl | hz
      · exact hxy
      · exact Int.le_trans hxy (h1 z hz)
    · rename_i hxy
      refine List.pairwise_cons.mpr ⟨fun z hz => ?_, insI_sorted x r h2⟩
      rcases List.mem_cons.mp ((insI_perm x r).mem_iff.mp hz) with rfl | hz
      · omega
      · exact h1 z hz
theorem sortI_perm : ∀ l : List Int, (sortI l).Perm l
  | [] => .refl _
  | x :: r => (insI_perm x (sortI r)).trans ((sortI_perm r).cons x)
theorem sortI_sorted : ∀ l : List Int, (sortI l).Pairwise (· ≤ ·)
  | [] => .nil
  | x :: r => insI_sorted x _ (sortI_sorted r)
theorem sortI_uniq {l ns : List Int} (h1 : l.Perm ns) (h2 : l.Pairwise (· ≤ ·)) : l = sortI ns := PySem.W.ksm_same (h1.trans (sortI_perm ns).symm) h2 (sortI_sorted ns)
theorem maxF_spec : ∀ (r : List Int) (x : Int), (r.foldl (fun m y => if m < y then y else m) x ∈ x :: r) ∧ ∀ y ∈ x :: r, y ≤ r.foldl (fun m y => if m < y then y else m) x
  | [], x => ⟨by simp, fun y hy => by simp at hy; subst hy; exact Int.le_refl _⟩
  | a :: r, x => by
    simp only [List.foldl_cons]
    obtain ⟨h1, h2⟩ := maxF_spec r (if x < a then a else x)
    refine ⟨?_, fun y hy => ?_⟩
    · rcases List.mem_cons.mp h1 with e | e
      · rw [e]; split <;> simp
      · exact List.mem_cons_of_mem _ (List.mem_cons_of_mem _ e)
    · have h3 := h2 _ List.mem_cons_self
      have h4 : x ≤ (if x < a then a else x) ∧ a ≤ (if x < a then a else x) := by split <;> omega
      rcases List.mem_cons.mp hy with rfl | hy
      · exact Int.le_trans h4.1 h3
      · rcases List.mem_cons.mp hy with rfl | hy
        · exact Int.le_trans h4.2 h3
        · exact h2 y (List.mem_cons_of_mem _ hy)
theorem minF_spec : ∀ (r : List Int) (x : Int), (r.foldl (fun m y => if y < m then y else m) x ∈ x :: r) ∧ ∀ y ∈ x :: r, r.foldl (fun m y => if y < m then y else m) x ≤ y
  | [], x => ⟨by simp, fun y hy => by simp at hy; subst hy; exact Int.le_refl _⟩
  | a :: r, x => by
    simp only [List.foldl_cons]
    obtain ⟨h1, h2⟩ := minF_spec r (if a < x then a else x)
    refine ⟨?_, fun y hy => ?_⟩
    · rcases List.mem_cons.mp h1 with e | e
      · rw [e]; split <;> simp
      · exact List.mem_cons_of_mem _ (List.mem_cons_of_mem _ e)
    · have h3 := h2 _ List.mem_cons_self
      have h4 : (if a < x then a else x) ≤ x ∧ (if a < x then a else x) ≤ a := by split <;> omega
      rcases List.mem_cons.mp hy with rfl | hy
      · exact Int.le_trans h3 h4.1
      · rcases List.mem_cons.mp hy with rfl | hy
        · exact Int.le_trans h3 h4.2
        · exact h2 y (List.mem_cons_of_mem _ hy)

/-! ### built-ins -/
abbrev bltV : Blt → Value
  | .len => .builtin "len" | .abs => .builtin "abs" | .max => .builtin "max" | .min => .builtin "min" | .sum => .builtin "sum" | .any => .builtin "any" | .all => .builtin "all" | .sorted => .builtin "sorted"
  | .list => .type "list" | .tuple => .type "tuple" | .int => .type "int" | .str => .type "str" | .repr => .builtin "repr"
def rL (G : Gv) (g : List D → Live → Option (D × Live)) : List V → Hp → VK → Prop := fun xs H Q => ∃ wd as L d L', WOk (G := G) wd H L ∧ RelDs G wd xs as ∧ g as L = some (d, L') ∧ End G wd d L' Q
theorem one_of {wd : Wd} {xs : List V} {a : D} (r : RelDs G wd xs [a]) : ∃ x, xs = [x] ∧ RelD G wd x a := by
  simp only [RelDs] at r
  obtain ⟨v, vs, rfl, r1, rfl⟩ := r
  exact ⟨v, rfl, r1⟩
theorem two_of {wd : Wd} {xs : List V} {a b : D} (r : RelDs G wd xs [a, b]) : ∃ x y, xs = [x, y] ∧ RelD G wd x a ∧ RelD G wd y b := by
  simp only [RelDs] at r
  obtain ⟨v, vs, rfl, r1, v2, vs2, rfl, r2, rfl⟩ := r
  exact ⟨v, v2, rfl, r1, r2⟩

/-- where the modules' dict stands is known -/
def SmK (K : PySem.W.Frag) : Prop := ∃ o, K.lookup sysModules = some o ∧ o.cls = .type "dict"
def keyV : Key → PyData := keyPy
mutual
/-- a value that can be read, dicts too -/
inductive Dx (K : PySem.W.Frag) (H : Hp) : V → PyData → Prop
  | non : Dx K H .non .none
  | bl (b : Bool) : Dx K H (.bl b) (.bool b)
  | int (i : Int) : Dx K H (.int i) (.int i)
  | str (x : Str) : Dx K H (.str x) (.str x)
  | lst {a : Addr} {xs : List V} {ds : List PyData} : SqL K H a xs → DxAll K H xs ds → Dx K H (.ref a) (.list ds)
  | tup {a : Addr} {xs : List V} {ds : List PyData} : SqT K H a xs → DxAll K H xs ds → Dx K H (.ref a) (.tuple ds)
  | dct {a : Addr} {ys : List (Key × V)} {ds : List PyData} : H a = some (.dK ys) → DxAll K H (ys.map Prod.snd) ds → Dx K H (.ref a) (.dict (((ys.map Prod.fst).map keyPy).zip ds))
inductive DxAll (K : PySem.W.Frag) (H : Hp) : List V → List PyData → Prop
  | nil : DxAll K H [] []
  | cons {v : V} {vs : List V} {d : PyData} {ds : List PyData} : Dx K H v d → DxAll K H vs ds → DxAll K H (v :: vs) (d :: ds)
end
mutual
theorem Dx.of_dp {K : PySem.W.Frag} {H : Hp} : ∀ {v : V} {p : PyData}, Dp K H v p → Dx K H v p
  | _, _, .non => .non
  | _, _, .bl b => .bl b
  | _, _, .int i => .int i
  | _, _, .str x => .str x
  | _, _, .lst h1 h2 => .lst h1 (DxAll.of_dp h2)
  | _, _, .tup h1 h2 => .tup h1 (DxAll.of_dp h2)
theorem DxAll.of_dp {K : PySem.W.Frag} {H : Hp} : ∀ {v : List V} {p : List PyData}, DpAll K H v p → DxAll K H v p
  | _, _, .nil => .nil
  | _, _, .cons h1 h2 => .cons (Dx.of_dp h1) (DxAll.of_dp h2)
end
theorem dxm_of {wd : Wd} {f : D → Option PyData} (hf : ∀ {d p v}, f d = some p → RelD G wd v d → Dx G.K H v p) : ∀ {ds : List D} {ps : List PyData} {xs : List V}, mapO f ds = some ps → RelDs G wd xs ds → DxAll G.K H xs ps
  | [], ps, xs, h, r => by simp only [mapO, Option.some.injEq] at h; simp only [RelDs] at r; subst h r; exact .nil
  | d :: ds, ps, xs, h, r => by
    simp only [RelDs] at r
    obtain ⟨v, vs, rfl, r1, r2⟩ := r
    simp only [mapO] at h
    cases q : f d with
    | none => rw [q] at h; cases h
    | some p =>
      rw [q] at h
      cases q2 : mapO f ds with
      | none => rw [q2] at h; cases h
      | some qs =>
        rw [q2] at h; simp only [Option.some.injEq] at h; subst h
        exact .cons (hf q r1) (dxm_of hf q2 r2)
theorem paired_fst {wd : Wd} : ∀ {ys : List (Key × V)} {kvs : List (Key × D)}, Paired (fun (p : Key × V) (q : Key × D) => p.1 = q.1 ∧ RelD G wd p.2 q.2) ys kvs → ys.map Prod.fst = kvs.map Prod.fst ∧ RelDs G wd (ys.map Prod.snd) (kvs.map Prod.snd)
  | _, _, .nil => ⟨rfl, RelDs.nil⟩
  | _, _, .cons r t => by
    obtain ⟨h1, h2⟩ := paired_fst t
    exact ⟨by simp [r.1, h1], RelDs.cons r.2 h2⟩
theorem dxv_of {wd : Wd} {L : Live} (w : WOk (G := G) wd H L) : ∀ {n : Nat} {d : D} {p : PyData} {v : V}, viewX L n d = some p → RelD G wd v d → Dx G.K H v p
  | 0, d, p, v, h, r => by simp [viewX] at h
  | n + 1, d, p, v, h, r => by
    have ih : ∀ {d : D} {p : PyData} {v : V}, viewX L n d = some p → RelD G wd v d → Dx G.K H v p := fun h r => dxv_of w h r
    cases d with
    | ref k =>
      simp only [viewX] at h
      cases q : L[k]? with
      | none => rw [q] at h; cases h
      | some o =>
        rw [q] at h
        cases o with
        | lst es =>
          simp only [Option.map_eq_some_iff] at h
          obtain ⟨ps, h1, rfl⟩ := h
          obtain ⟨a, xs, rfl, h2, h3⟩ := rd_list w r (ds := es) (by simp only [lstOf, q])
          exact .lst (.inl h2) (dxm_of ih h1 h3)
        | dic kvs =>
          simp only [Option.map_eq_some_iff] at h
          obtain ⟨ps, h1, rfl⟩ := h
          obtain ⟨a, rfl, _, ⟨ys, hy, pr⟩, _⟩ := rd_ref w r q
          obtain ⟨e1, e2⟩ := paired_fst pr
          rw [← e1]
          exact .dct hy (dxm_of ih h1 e2)
        | _ => simp at h
    | tup es =>
      simp only [viewX, Option.map_eq_some_iff] at h
      obtain ⟨ps, h1, rfl⟩ := h
      obtain ⟨a, xs, rfl, h2, h3⟩ := rd_tup w r
      exact .tup h2 (dxm_of ih h1 h3)
    | lst t es =>
      simp only [viewX, Option.map_eq_some_iff] at h
      obtain ⟨ps, h1, rfl⟩ := h
      obtain ⟨a, xs, rfl, h2, h3⟩ := rd_list w r (ds := es) rfl
      exact .lst (.inl h2) (dxm_of ih h1 h3)
    | dct ks es =>
      simp only [viewX, Option.map_eq_some_iff] at h
      obtain ⟨ps, h1, rfl⟩ := h
      simp only [RelD] at r
      obtain ⟨a, ys, rfl, h2, rfl, h3⟩ := r
      exact .dct (w.sub _ _ h2) (dxm_of ih h1 h3)
    | _ => simp only [viewX] at h; exact .of_dp (dp_of w h r)
theorem dxx_of {wd : Wd} {L : Live} {d : D} {v : V} (w : WOk (G := G) wd H L) {p : PyData} (h : pyX L d = some p) (r : RelD G wd v d) : Dx G.K H v p := by
  unfold pyX at h
  cases q : pyOf L d with
  | none => rw [q] at h; exact dxv_of w h r
  | some x => rw [q] at h; simp only [Option.some.injEq] at h; subst h; exact .of_dp (dpp_of w q r)
theorem kv_vals {ys : List (Key × V)} {vs : List (Key × Value)} (r : KV ys vs) : Vals (ys.map Prod.snd) (vs.map Prod.snd) := by
  unfold KV at r
  induction r with
  | nil => exact .nil
  | cons h t ih => exact .cons h.2 ih
theorem dxAll_len {K : PySem.W.Frag} {H : Hp} : ∀ {vs : List V} {ds : List PyData}, DxAll K H vs ds → vs.length = ds.length
  | _, _, .nil => rfl
  | _, _, .cons _ h => by simp [dxAll_len h]
theorem pairs_keys {P : Program} {w : World} {h : Heap} : ∀ {es : List DictEntry} {vs : List (Key × Value)}, Pairs (mixKind P w) es vs → ReadsAll h (es.map (·.key)) ((vs.map Prod.fst).map keyPy) [] ∧ es.map (·.val) = vs.map Prod.snd
  | _, _, .nil => ⟨.nil, rfl⟩
  | _, _, .cons (e := e) (kv := kv) h1 h2 t => by
    obtain ⟨g1, g2⟩ := pairs_keys (h := h) t
    have h1 : keyIs kv.1 e.key = true := h1
    refine ⟨?_, by simp [h2, g2]⟩
    rcases keyIs_shape h1 with ⟨i, t, e1, e2⟩ | ⟨x, t, e1, e2⟩
    · have := ReadsAll.cons (Reads.int (h := h) i t) g1
      simpa [e1, e2, keyPy] using this
    · have := ReadsAll.cons (Reads.str (h := h) x t) g1
      simpa [e1, e2, keyPy] using this
section
variable {pins : List (Addr × Obj)} {s : Shared} {σ : L2.St}
mutual
theorem Dx.reads (sm : SmK X.K) (I : Inv X pins σ H s) : ∀ {d : PyData} {v : V} {u : Value}, Dx X.K H v d → RelV v u → ∃ as, Reads s.heap u d as ∧ sysModules ∉ as
  | _, _, _, .non, r => by cases r; exact ⟨_, Reads.none, by simp⟩
  | _, _, _, .bl b, r => by cases r; exact ⟨_, Reads.bool b, by simp⟩
  | _, _, _, .int i, r => by obtain ⟨t, rfl⟩ := r; exact ⟨_, Reads.int i t, by simp⟩
  | _, _, _, .str x, r => by obtain ⟨t, rfl⟩ := r; exact ⟨_, Reads.str x t, by simp⟩
  | _, _, _, .lst (a := a) hs ha, r => by
    cases r
    obtain ⟨its, rv, ⟨o, n, ho, hc, _, hd⟩, _⟩ := I.list hs
    obtain ⟨as, hr, hn⟩ := DxAll.reads sm I ha rv
    refine ⟨_, Reads.list ho hc hd hr, ?_⟩
    rw [List.mem_cons, not_or]
    refine ⟨fun z => ?_, hn⟩
    obtain ⟨om, h1, h2⟩ := sm
    have h3 := I.kIn _ _ h1
    rw [z, ho] at h3
    cases h3
    rw [hc] at h2
    simp at h2
  | _, _, _, .tup (a := a) hs ha, r => by
    cases r
    obtain ⟨its, rv, ⟨o, ho, hc, n, hd⟩, _⟩ := I.tuple hs
    obtain ⟨as, hr, hn⟩ := DxAll.reads sm I ha rv
    exact ⟨_, Reads.tuple ho hc hd hr, hn⟩
  | _, _, _, .dct (a := a) (ys := ys) hs ha, r => by
    cases r
    obtain ⟨_, hne, vs, kv, o, es, ep, ho, hx, hd, _, pr, _⟩ := dk_of I.hok hs
    obtain ⟨k1, k2⟩ := pairs_keys (h := s.heap) pr
    have ek : ys.map Prod.fst = vs.map Prod.fst := KV.keys kv
    have rv : Vals (ys.map Prod.snd) (vs.map Prod.snd) := kv_vals kv
    obtain ⟨bs, hr, hn⟩ := DxAll.reads sm I ha rv
    have hl : ((ys.map Prod.fst).map keyPy).length = _ := rfl
    have hlen := dxAll_len ha
    simp only [List.length_map] at hlen
    refine ⟨_, Reads.dict (as := []) (bs := bs) ho hx.1 hd ?_ ?_, ?_⟩
    · rw [List.map_fst_zip (by simp [hlen]), ek]
      exact k1
    · rw [List.map_snd_zip (by simp [hlen]), k2]
      exact hr
    · simp only [List.cons_append, List.nil_append, List.mem_cons, not_or]
      exact ⟨fun z => by rw [← z] at hne; simp at hne, hn⟩
theorem DxAll.reads (sm : SmK X.K) (I : Inv X pins σ H s) : ∀ {ds : List PyData} {vs : List V} {us : List Value}, DxAll X.K H vs ds → Vals vs us → ∃ as, ReadsAll s.heap us ds as ∧ sysModules ∉ as
  | _, _, _, .nil, r => by cases r; exact ⟨_, ReadsAll.nil, by simp⟩
  | _, _, _, .cons h1 h2, r => by
    cases r with
    | cons r1 r2 =>
      obtain ⟨as, q1, n1⟩ := Dx.reads sm I h1 r1
      obtain ⟨bs, q2, n2⟩ := DxAll.reads sm I h2 r2
      exact ⟨_, ReadsAll.cons q1 q2, by simp [n1, n2]⟩
end
end
/-- what repr gives of any value that can be read -/
theorem repr_ok (sm : SmK X.K) (hK : X.K = G.K) (hg : X.A.guards = some []) (hu : X.A.units + 64 < cLine) {wd : Wd} {H : Hp} {L : Live} {x : V} {a : D} {z : Str} {pins : List (Addr × Obj)} {s : Shared} {σ : L2.St} {u : Value} {Q : VK}
    (I : Inv X pins σ H s) (rx : RelV x u) (w : WOk (G := G) wd H L) (ra : RelD G wd x a) (h : reprD L a = some z) (q : Q (.str z) H) : wpAny (model X.prog X.w) X.A (call (.builtin "repr") [u]) (EP X pins σ Q) X.xe s := by
  unfold reprD at h
  cases q1 : pyX L a with
  | none => rw [q1] at h; cases h
  | some p =>
    rw [q1] at h
    simp only at h
    split at h
    · rename_i hc
      simp only [Bool.and_eq_true, decide_eq_true_eq] at hc
      obtain ⟨⟨h1, h2⟩, h3⟩ := hc
      have h2' : p.shown.length ≤ sizeLine := of_decide_eq_true h2
      simp only [Option.some.injEq] at h
      subst h
      have d1 := dxx_of w q1 ra
      rw [← hK] at d1
      obtain ⟨as, r1, nsm⟩ := Dx.reads sm I d1 rx
      have nod : p.hasDict = true → sysModules ∉ as := fun _ => nsm
      cases d1 with
      | non => cases rx; exact PySem.P.repr_of_none ⟨.str _, H, I.tok _, ⟨_, rfl⟩, q⟩
      | bl b => cases rx; exact PySem.P.repr_of_bool ⟨.str _, H, I.tok _, ⟨_, rfl⟩, by cases b <;> exact q⟩
      | int i => obtain ⟨t, rfl⟩ := rx; exact PySem.P.repr_of_int (by simpa [PyData.showable] using h1) ⟨.str _, H, I.tok _, ⟨_, rfl⟩, q⟩
      | str y => obtain ⟨t, rfl⟩ := rx; exact PySem.P.repr_of_str ⟨.str _, H, I.tok _, ⟨_, rfl⟩, q⟩ h2'
      | lst hs ha =>
        cases rx
        exact repr_of_reads' r1 h1 nod hg (by omega) (fun _ _ e => e) (fun h' u tk k => ⟨.str _, H, I.kept k, ⟨_, rfl⟩, q⟩) h2'
      | tup hs ha =>
        cases rx
        exact repr_of_reads' r1 h1 nod hg (by omega) (fun _ _ e => e) (fun h' u tk k => ⟨.str _, H, I.kept k, ⟨_, rfl⟩, q⟩) h2'
      | dct hs ha =>
        cases rx
        exact repr_of_reads' r1 h1 nod hg (by omega) (fun _ _ e => e) (fun h' u tk k => ⟨.str _, H, I.kept k, ⟨_, rfl⟩, q⟩) h2'
    · cases h

theorem keys_rel {wd : Wd} {ys : List (Key × V)} {kvs : List (Key × D)} (pr : Paired (fun (p : Key × V) (q : Key × D) => p.1 = q.1 ∧ RelD G wd p.2 q.2) ys kvs) : RelDs G wd (ys.map fun kv => kV kv.1) (kvs.map fun kv => keyD kv.1) := by
  induction pr with
  | nil => exact RelDs.nil
  | @cons p q ps qs h t ih =>
    refine RelDs.cons ?_ ih
    obtain ⟨k, v⟩ := q
    obtain ⟨k', v'⟩ := p
    obtain ⟨h1, _⟩ := h
    have h1' : k' = k := h1
    subst h1'
    show RelD G wd (kV k') (keyD k')
    cases k' <;> simp [keyD, kV, RelD]
theorem blt_ok (sm : SmK X.K) (hK : X.K = G.K) (hg : X.A.guards = some []) (hu : X.A.units + 64 < cLine) (hc : X.calm = true) (b : Blt) (lv : Bool) : CallR X (bltV b) (rL G (bltD b lv)) := by
  intro pins s σ H xs us Q I rs h
  obtain ⟨wd, as, L, d, L', w, ra, hd, he⟩ := h
  match as, ra, hd with
  | [], ra, hd => simp [bltD] at hd
  | [a], ra, hd =>
    obtain ⟨x, rfl, r1⟩ := one_of ra
    obtain ⟨u, rfl, rx⟩ := vals1 rs
    cases b with
    | len =>
      simp only [bltD, Option.map_eq_some_iff, Prod.mk.injEq] at hd
      obtain ⟨n, h1, rfl, rfl⟩ := hd
      by_cases hs : ∃ z, a = .str z
      · obtain ⟨z, rfl⟩ := hs
        simp only [lenD] at h1
        split at h1
        · rename_i hz
          simp only [Option.some.injEq] at h1
          subst h1
          simp only [RelD] at r1
          subst r1
          exact call_len pins s σ H _ _ Q I rs ⟨_, z.length, rfl, ⟨of_decide_eq_true hz, rfl⟩, he.now w (by simp [RelD])⟩
        · cases h1
      · have e : lenD L a = (match seqOf L a with | some ds => some (ds.length : Int) | none => lenK L a) := by
          cases a with
          | str z => exact absurd ⟨z, rfl⟩ hs
          | _ => rfl
        rw [e] at h1
        cases q : seqOf L a with
        | some ds =>
          rw [q] at h1
          simp only [Option.some.injEq] at h1
          subst h1
          obtain ⟨l, ys, rfl, hx, rx'⟩ := rd_seq w r1 q
          rw [← hK] at hx
          refine call_len_seq pins s σ H _ _ Q I rs ⟨l, ys, rfl, hx, ?_⟩
          rw [RelDs.length rx']
          exact he.now w (by simp [RelD])
        | none =>
          rw [q] at h1
          cases a with
          | ref n =>
            simp only [lenK] at h1
            cases q3 : L[n]? with
            | none => rw [q3] at h1; cases h1
            | some o =>
              rw [q3] at h1
              cases o with
              | dic kvs =>
                simp only [Option.some.injEq] at h1
                subst h1
                obtain ⟨l, rfl, _, ⟨ys, hy, pr⟩, _⟩ := rd_ref w r1 q3
                refine call_lenD pins s σ H _ _ Q I rs ⟨l, ys, rfl, hy, ?_⟩
                rw [pr.length]
                exact he.now w (by simp [RelD])
              | _ => simp at h1
          | _ => simp [lenK] at h1
    | abs =>
      cases a with
      | int i =>
        simp only [bltD, Option.some.injEq, Prod.mk.injEq] at hd
        obtain ⟨rfl, rfl⟩ := hd
        simp only [RelD] at r1
        subst r1
        exact call_abs pins s σ H _ _ Q I rs ⟨i, rfl, he.now w (by simp [RelD])⟩
      | _ => simp [bltD] at hd
    | sum =>
      simp only [bltD] at hd
      cases q : lstOf L a with
      | none => rw [q] at hd; cases hd
      | some ds =>
        rw [q] at hd
        simp only [Option.map_eq_some_iff, Prod.mk.injEq] at hd
        obtain ⟨ns, h1, rfl, rfl⟩ := hd
        obtain ⟨l, ys, rfl, hx, rx'⟩ := rd_list w r1 q
        obtain ⟨e1, _⟩ := ints_of rx' h1
        subst e1
        exact cr_sum hc pins s σ H _ _ Q I rs ⟨l, ns, rfl, .inl hx, he.now w (by simp [RelD])⟩
    | max =>
      simp only [bltD] at hd
      cases q : lstOf L a with
      | none => rw [q] at hd; cases hd
      | some ds =>
        rw [q] at hd
        simp only at hd
        cases q2 : intsOf ds with
        | none => rw [q2] at hd; cases hd
        | some ns =>
          rw [q2] at hd
          simp only [Option.map_eq_some_iff, Prod.mk.injEq] at hd
          obtain ⟨m, h1, rfl, rfl⟩ := hd
          obtain ⟨l, ys, rfl, hx, rx'⟩ := rd_list w r1 q
          obtain ⟨e1, _⟩ := ints_of rx' q2
          subst e1
          cases ns with
          | nil => simp [maxI] at h1
          | cons n r =>
            simp only [maxI, Option.some.injEq] at h1
            obtain ⟨m1, m2⟩ := maxF_spec r n
            rw [h1] at m1 m2
            refine cr_max hc pins s σ H _ _ Q I rs ⟨l, n :: r, rfl, .inl hx, by simp, fun m' p1 p2 => ?_⟩
            have e2 : m' = m := Int.le_antisymm (m2 _ p1) (p2 _ m1)
            subst e2
            exact he.now w (by simp [RelD])
    | min =>
      simp only [bltD] at hd
      cases q : lstOf L a with
      | none => rw [q] at hd; cases hd
      | some ds =>
        rw [q] at hd
        simp only at hd
        cases q2 : intsOf ds with
        | none => rw [q2] at hd; cases hd
        | some ns =>
          rw [q2] at hd
          simp only [Option.map_eq_some_iff, Prod.mk.injEq] at hd
          obtain ⟨m, h1, rfl, rfl⟩ := hd
          obtain ⟨l, ys, rfl, hx, rx'⟩ := rd_list w r1 q
          obtain ⟨e1, _⟩ := ints_of rx' q2
          subst e1
          cases ns with
          | nil => simp [minI] at h1
          | cons n r =>
            simp only [minI, Option.some.injEq] at h1
            obtain ⟨m1, m2⟩ := minF_spec r n
            rw [h1] at m1 m2
            refine cr_min hc pins s σ H _ _ Q I rs ⟨l, n :: r, rfl, .inl hx, by simp, fun m' p1 p2 => ?_⟩
            have e2 : m' = m := Int.le_antisymm (p2 _ m1) (m2 _ p1)
            subst e2
            exact he.now w (by simp [RelD])
    | any =>
      simp only [bltD] at hd
      cases q : lstOf L a with
      | none => rw [q] at hd; cases hd
      | some ds =>
        rw [q] at hd
        simp only [Option.map_eq_some_iff, Prod.mk.injEq] at hd
        obtain ⟨ns, h1, rfl, rfl⟩ := hd
        obtain ⟨l, ys, rfl, hx, rx'⟩ := rd_list w r1 q
        have e1 := bools_of rx' h1
        subst e1
        exact cr_any hc pins s σ H _ _ Q I rs ⟨l, ns, rfl, .inl hx, he.now w (by simp [RelD])⟩
    | all =>
      simp only [bltD] at hd
      cases q : lstOf L a with
      | none => rw [q] at hd; cases hd
      | some ds =>
        rw [q] at hd
        simp only [Option.map_eq_some_iff, Prod.mk.injEq] at hd
        obtain ⟨ns, h1, rfl, rfl⟩ := hd
        obtain ⟨l, ys, rfl, hx, rx'⟩ := rd_list w r1 q
        have e1 := bools_of rx' h1
        subst e1
        exact cr_all hc pins s σ H _ _ Q I rs ⟨l, ns, rfl, .inl hx, he.now w (by simp [RelD])⟩
    | sorted =>
      simp only [bltD] at hd
      cases q : lstOf L a with
      | none => rw [q] at hd; cases hd
      | some ds =>
        rw [q] at hd
        simp only at hd
        cases q2 : intsOf ds with
        | none => rw [q2] at hd; cases hd
        | some ns =>
          rw [q2] at hd
          simp only [Option.some.injEq] at hd
          have e1 : (newL lv ((sortI ns).map .int) L).1 = d := by rw [hd]
          have e2 : (newL lv ((sortI ns).map .int) L).2 = L' := by rw [hd]
          subst e1 e2
          obtain ⟨l, ys, rfl, hx, rx'⟩ := rd_list w r1 q
          obtain ⟨e1, _⟩ := ints_of rx' q2
          subst e1
          refine cr_sortedI pins s σ H _ _ Q I rs ⟨l, ns, rfl, .inl hx, fun ns' p h1 h2 hp => ?_⟩
          rw [sortI_uniq h1 h2]
          exact new_list w (relInts _) hp he
    | list =>
      simp only [bltD] at hd
      cases q : seqOf L a with
      | some ds =>
        rw [q] at hd
        simp only [Option.some.injEq] at hd
        have e1 : (newL lv ds L).1 = d := by rw [hd]
        have e2 : (newL lv ds L).2 = L' := by rw [hd]
        subst e1 e2
        obtain ⟨l, ys, rfl, hx, rx'⟩ := rd_seq w r1 q
        rw [← hK] at hx
        exact call_list_of pins s σ H _ _ Q I rs ⟨l, ys, rfl, hx, fun p hp => new_list w rx' hp he⟩
      | none =>
        rw [q] at hd
        simp only [Option.map_eq_some_iff] at hd
        obtain ⟨ks, h1, h2⟩ := hd
        have e1 : (newL lv ks L).1 = d := by rw [h2]
        have e2 : (newL lv ks L).2 = L' := by rw [h2]
        subst e1 e2
        cases a with
        | ref n =>
          simp only [keysD] at h1
          cases q3 : L[n]? with
          | none => rw [q3] at h1; cases h1
          | some o =>
            rw [q3] at h1
            cases o with
            | dic kvs =>
              simp only [Option.some.injEq] at h1
              subst h1
              obtain ⟨l, rfl, _, ⟨ys, hy, pr⟩, _⟩ := rd_ref w r1 q3
              exact call_listD hc pins s σ H _ _ Q I rs ⟨l, ys, rfl, .inl hy, fun p hp => new_list w (keys_rel pr) hp he⟩
            | _ => simp at h1
        | _ => simp [keysD] at h1
    | tuple =>
      simp only [bltD] at hd
      cases q : seqOf L a with
      | none => rw [q] at hd; cases hd
      | some ds =>
        rw [q] at hd
        simp only [Option.some.injEq, Prod.mk.injEq] at hd
        obtain ⟨rfl, rfl⟩ := hd
        by_cases ht : ∃ es, a = .tup es
        · obtain ⟨es, rfl⟩ := ht
          simp only [seqOf, Option.some.injEq] at q
          subst q
          obtain ⟨l, ys, rfl, hx, rx'⟩ := rd_tup w r1
          exact call_tuple_of pins s σ H _ _ Q I rs ⟨l, ys, rfl, .inr ⟨by rw [hK]; exact hx, he.now w r1⟩⟩
        · have e : seqOf L a = lstOf L a := by
            cases a with
            | tup es => exact absurd ⟨es, rfl⟩ ht
            | _ => rfl
          rw [e] at q
          obtain ⟨l, ys, rfl, hx, rx'⟩ := rd_list w r1 q
          exact call_tuple_of pins s σ H _ _ Q I rs ⟨l, ys, rfl, .inl ⟨.inl hx, fun p hp => new_tup w rx' hp he⟩⟩
    | int =>
      cases a with
      | int i =>
        simp only [bltD, Option.some.injEq, Prod.mk.injEq] at hd
        obtain ⟨rfl, rfl⟩ := hd
        simp only [RelD] at r1
        subst r1
        exact call_int1 pins s σ H _ _ Q I rs (.inl ⟨i, rfl, he.now w (by simp [RelD])⟩)
      | bl k =>
        simp only [bltD, Option.some.injEq, Prod.mk.injEq] at hd
        obtain ⟨rfl, rfl⟩ := hd
        simp only [RelD] at r1
        subst r1
        exact call_int1 pins s σ H _ _ Q I rs (.inr ⟨k, rfl, he.now w (by simp [RelD])⟩)
      | str z =>
        simp only [bltD] at hd
        cases q : PySem.intText? z with
        | none => rw [q] at hd; cases hd
        | some n =>
          rw [q] at hd
          simp only at hd
          split at hd
          · rename_i hz
            simp only [Option.some.injEq, Prod.mk.injEq] at hd
            obtain ⟨rfl, rfl⟩ := hd
            simp only [RelD] at r1
            subst r1
            exact call_int_str pins s σ H _ _ Q I rs ⟨z, n, rfl, q, of_decide_eq_true hz, he.now w (by simp [RelD])⟩
          · cases hd
      | _ => simp [bltD] at hd
    | str =>
      cases a with
      | int i =>
        simp only [bltD] at hd
        split at hd
        · rename_i hz
          simp only [Option.some.injEq, Prod.mk.injEq] at hd
          obtain ⟨rfl, rfl⟩ := hd
          simp only [RelD] at r1
          subst r1
          exact call_str_int pins s σ H _ _ Q I rs ⟨i, rfl, of_decide_eq_true hz, he.now w (by simp [RelD])⟩
        · cases hd
      | str z =>
        simp only [bltD, Option.some.injEq, Prod.mk.injEq] at hd
        obtain ⟨rfl, rfl⟩ := hd
        simp only [RelD] at r1
        subst r1
        exact SkE.call_str_str pins s σ H _ _ Q I rs ⟨z, rfl, he.now w (by simp [RelD])⟩
      | _ => simp [bltD] at hd
    | repr =>
      simp only [bltD, Option.map_eq_some_iff, Prod.mk.injEq] at hd
      obtain ⟨z, h1, rfl, rfl⟩ := hd
      exact repr_ok sm hK hg hu I rx w r1 h1 (he.now w (by simp [RelD]))
  | [a, c], ra, hd =>
    obtain ⟨x, y, rfl, r1, r2⟩ := two_of ra
    cases a with
    | int i =>
      cases c with
      | int j =>
        simp only [RelD] at r1 r2
        subst r1 r2
        cases b with
        | max =>
          simp only [bltD, Option.some.injEq, Prod.mk.injEq] at hd
          obtain ⟨rfl, rfl⟩ := hd
          exact call_max2 hc pins s σ H _ _ Q I rs ⟨i, j, rfl, he.now w (by simp [RelD])⟩
        | min =>
          simp only [bltD, Option.some.injEq, Prod.mk.injEq] at hd
          obtain ⟨rfl, rfl⟩ := hd
          exact call_min2 hc pins s σ H _ _ Q I rs ⟨i, j, rfl, he.now w (by simp [RelD])⟩
        | _ => simp [bltD] at hd
      | _ => simp [bltD] at hd
    | _ => simp [bltD] at hd
  | a :: b :: c :: r, ra, hd => simp [bltD] at hd

/-- xs.extend(ys), ys any list that can be read -/
theorem ext_X : MtM X "list.extend" (fun x vs H Q => ∃ l b xs zs, x = .ref l ∧ vs = [.ref b] ∧ H l = some (.lst xs) ∧ Rd H b (.lst zs) ∧ xs.length + zs.length ≤ sizeLine ∧ Q .non (upd H l (.lst (xs ++ zs)))) := by
  intro pins s σ H x vs v us Q I rx rv h
  obtain ⟨l, b, xs, zs, rfl, rfl, hH, hB, hz, q⟩ := h
  cases rx
  obtain ⟨u, rfl, ru⟩ := rv.one
  cases ru
  obtain ⟨z, its, n, r, hl, e⟩ := I.lstM hH
  obtain ⟨z2, its2, n2, r2, hl2, e2⟩ := lstX I hB
  have hsz : its.toArray.size + its2.toArray.size ≤ sizeLine := by rw [List.size_toArray, List.size_toArray]; omega
  have hlong : ¬ (!its.toArray.isEmpty && Builtin.List.listTooLong (its.toArray.size + its2.toArray.size)) = true := by
    rw [notLongL hsz, Bool.and_false]
    exact Bool.false_ne_true
  refine call_meets F.slot_list_extend ⟨_, e, rfl⟩ F.entry_list_extend (F.args_list_extend_2 _ _)
    (AutoSeq1.list_extend_list_list_0 l its.toArray n b its2.toArray n2 hlong (by rw [List.size_toArray]; omega) (by omega)) ⟨e, e2, ?_⟩
  refine ⟨.non, _, I.lset (its' := its ++ its2) hH e (by simp) (r.append r2) ?_, rfl, q⟩
  rw [List.length_append]
  omega
/-! ### methods of built-in types -/
def rM (G : Gv) (g : D → List D → Live → Option (D × Live)) : V → List V → Hp → VK → Prop := fun x xs H Q => ∃ wd o as L d L', WOk (G := G) wd H L ∧ RelD G wd x o ∧ RelDs G wd xs as ∧ g o as L = some (d, L') ∧ End G wd d L' Q
/-- the type that a method is looked up in -/
def mthT (m : Mth) : D → String
  | .str _ => "str"
  | _ => "list"
abbrev mthN : Mth → String
  | .append => "append" | .extend => "extend" | .pop => "pop" | .insert => "insert" | .reverse => "reverse" | .remove => "remove" | .clear => "clear" | .index => "index" | .count => "count" | .join => "join" | .get => "get" | .values => "values"
theorem write_list {wd : Wd} {H : Hp} {L : Live} {n : Nat} {a : Addr} {ds es : List D} {ys : List V} {Q : VK} {d : D} {v : V} (w : WOk (G := G) wd H L) (hn : L[n]? = some (.lst ds)) (ha : wd.ι n = some a) (rs : RelDs G wd ys es) (rd : RelD G wd v d)
    (he : End G wd d (L.set n (.lst es)) Q) : Q v (upd H a (.lst ys)) := by
  obtain ⟨a', h1, h2, h3⟩ := w.live n _ hn
  rw [ha] at h1; cases h1
  obtain ⟨xs, e1, _⟩ := h2
  exact he.now (w.write hn (by simp) ha (fun y z => by rw [e1] at z; cases z) ⟨ys, upd_same, rs⟩) rd
theorem RelDs.dropLast {wd : Wd} {xs : List V} {ds : List D} (r : RelDs G wd xs ds) : RelDs G wd xs.dropLast ds.dropLast := by
  rw [List.dropLast_eq_take, List.dropLast_eq_take, RelDs.length r]
  exact RelDs.take _ r
theorem RelDs.eraseIdx {wd : Wd} {xs : List V} {ds : List D} (r : RelDs G wd xs ds) (i : Nat) : RelDs G wd (xs.eraseIdx i) (ds.eraseIdx i) := by
  rw [List.eraseIdx_eq_take_drop_succ, List.eraseIdx_eq_take_drop_succ]
  exact RelDs.append (RelDs.take _ r) (RelDs.drop _ r)
theorem findI_ok {k : Int} : ∀ {ns : List Int} {j : Nat}, findI k ns = some j → ns[j]? = some k ∧ ∀ m : Nat, m < j → ns[m]? ≠ some k
  | [], j, h => by simp [findI] at h
  | z :: r, j, h => by
    simp only [findI] at h
    split at h
    · rename_i e
      cases h
      exact ⟨by simp [e], fun m hm => by omega⟩
    · rename_i e
      simp only [Option.map_eq_some_iff] at h
      obtain ⟨i, hi, rfl⟩ := h
      obtain ⟨h1, h2⟩ := findI_ok hi
      refine ⟨by simpa using h1, fun m hm => ?_⟩
      cases m with
      | zero => simpa using e
      | succ m => simpa using h2 m (by omega)
theorem mtl_ok (m : Mth) {pins : List (Addr × Obj)} {s : Shared} {σ : L2.St} {H : Hp} {x : V} {xs : List V} {v : Value} {us : List Value} {Q : VK} {wd : Wd} {n : Nat} {ds as : List D} {L L' : Live} {d : D} (I : Inv X pins σ H s) (rx : RelV x v) (rs : Vals xs us)
    (w : WOk (G := G) wd H L) (ro : RelD G wd x (.ref n)) (hn : L[n]? = some (.lst ds)) (ra : RelDs G wd xs as) (hg : mthD m (.ref n) as L = some (d, L')) (he : End G wd d L' Q) :
    wpAny (model X.prog X.w) X.A (call (.builtin ("list." ++ mthN m)) (v :: us)) (EP X pins σ Q) X.xe s := by
  obtain ⟨l, rfl, hl, ⟨ys, hy, ry⟩, _⟩ := rd_ref w ro hn
  have len := RelDs.length ry
  simp only [mthD, hn] at hg
  cases m with
  | append =>
    match as, ra, hg with
    | [a], ra, hg =>
      obtain ⟨y, rfl, r1⟩ := one_of ra
      simp only at hg
      split at hg
      · rename_i hz
        simp only [Option.some.injEq, Prod.mk.injEq] at hg
        obtain ⟨rfl, rfl⟩ := hg
        have hz' := of_decide_eq_true hz
        exact mt_append pins s σ H _ _ v us Q I rx rs ⟨l, ys, y, rfl, rfl, hy, by omega, write_list w hn hl (RelDs.append ry (RelDs.cons r1 RelDs.nil)) (by simp [RelD]) he⟩
      · cases hg
    | [], ra, hg => simp at hg
    | _ :: _ :: _, ra, hg => simp at hg
  | extend =>
    match as, ra, hg with
    | [a], ra, hg =>
      obtain ⟨y, rfl, r1⟩ := one_of ra
      simp only at hg
      cases q : lstOf L a with
      | none => rw [q] at hg; cases hg
      | some es =>
        rw [q] at hg
        simp only at hg
        split at hg
        · rename_i hz
          simp only [Option.some.injEq, Prod.mk.injEq] at hg
          obtain ⟨rfl, rfl⟩ := hg
          have hz' : ds.length + es.length ≤ sizeLine := of_decide_eq_true hz
          obtain ⟨l2, zs, rfl, hx, rx'⟩ := rd_list w r1 q
          have len2 := RelDs.length rx'
          exact ext_X pins s σ H _ _ v us Q I rx rs ⟨l, l2, ys, zs, rfl, rfl, hy, hx, by omega, write_list w hn hl (RelDs.append ry rx') (by simp [RelD]) he⟩
        · cases hg
    | [], ra, hg => simp at hg
    | _ :: _ :: _, ra, hg => simp at hg
  | pop =>
    match as, ra, hg with
    | [], ra, hg =>
      simp only [RelDs] at ra
      subst ra
      simp only at hg
      cases q : ds.getLast? with
      | none => rw [q] at hg; cases hg
      | some z =>
        rw [q] at hg
        simp only [Option.some.injEq, Prod.mk.injEq] at hg
        obtain ⟨rfl, rfl⟩ := hg
        rw [List.getLast?_eq_getElem?] at q
        obtain ⟨y, h1, h2⟩ := RelDs.get ry q
        exact mt_pop pins s σ H _ _ v us Q I rx rs ⟨l, ys, y, rfl, rfl, hy, by rw [len]; exact h1, write_list w hn hl (RelDs.dropLast ry) h2 he⟩
    | [a], ra, hg =>
      obtain ⟨y, rfl, r1⟩ := one_of ra
      cases a with
      | int i =>
        simp only at hg
        cases q : ixN ds.length i with
        | none => rw [q] at hg; cases hg
        | some j =>
          rw [q] at hg
          simp only [Option.map_eq_some_iff, Prod.mk.injEq] at hg
          obtain ⟨z, h1, rfl, rfl⟩ := hg
          simp only [RelD] at r1
          subst r1
          obtain ⟨y, h3, h4⟩ := RelDs.get ry h1
          obtain ⟨k1, k2, k3, k4⟩ := ixN_seq q
          have big := (lstX I (.inl hy)).1
          have hs : sizeLine = 16777216 := sizeLine_eq
          exact mt_popAt pins s σ H _ _ v us Q I rx rs ⟨l, ys, i, j, y, rfl, rfl, hy, by omega, by omega, by rw [len]; exact k1, h3, write_list w hn hl (RelDs.eraseIdx ry j) h4 he⟩
      | _ => simp at hg
    | _ :: _ :: _, ra, hg => simp at hg
  | insert =>
    match as, ra, hg with
    | [a, b], ra, hg =>
      obtain ⟨y, z, rfl, r1, r2⟩ := two_of ra
      cases a with
      | int i =>
        simp only at hg
        split at hg
        · rename_i hz
          simp only [Bool.and_eq_true, decide_eq_true_eq] at hz
          simp only [Option.some.injEq, Prod.mk.injEq] at hg
          obtain ⟨rfl, rfl⟩ := hg
          simp only [RelD] at r1
          subst r1
          refine mt_insert pins s σ H _ _ v us Q I rx rs ⟨l, ys, i, z, rfl, rfl, hy, by omega, hz.1.2, hz.2, write_list w hn hl ?_ (by simp [RelD]) he⟩
          exact RelDs.append (RelDs.append (RelDs.take _ ry) (RelDs.cons r2 RelDs.nil)) (RelDs.drop _ ry)
        · cases hg
      | _ => simp at hg
    | [], ra, hg => simp at hg
    | [a], ra, hg => cases a <;> simp at hg
    | _ :: _ :: _ :: _, ra, hg => simp at hg
  | reverse =>
    match as, ra, hg with
    | [], ra, hg =>
      simp only [RelDs] at ra
      subst ra
      simp only [Option.some.injEq, Prod.mk.injEq] at hg
      obtain ⟨rfl, rfl⟩ := hg
      exact mt_reverse pins s σ H _ _ v us Q I rx rs ⟨l, ys, rfl, rfl, hy, write_list w hn hl (RelDs.reverse ry) (by simp [RelD]) he⟩
    | _ :: _, ra, hg => simp at hg
  | clear =>
    match as, ra, hg with
    | [], ra, hg =>
      simp only [RelDs] at ra
      subst ra
      simp only [Option.some.injEq, Prod.mk.injEq] at hg
      obtain ⟨rfl, rfl⟩ := hg
      exact mt_clear pins s σ H _ _ v us Q I rx rs ⟨l, ys, rfl, rfl, hy, write_list w hn hl RelDs.nil (by simp [RelD]) he⟩
    | _ :: _, ra, hg => simp at hg
  | remove =>
    match as, ra, hg with
    | [a], ra, hg =>
      obtain ⟨y, rfl, r1⟩ := one_of ra
      cases a with
      | int k =>
        simp only at hg
        cases q : intsOf ds with
        | none => rw [q] at hg; cases hg
        | some ns =>
          rw [q] at hg
          simp only at hg
          cases q2 : findI k ns with
          | none => rw [q2] at hg; cases hg
          | some j =>
            rw [q2] at hg
            simp only [Option.some.injEq, Prod.mk.injEq] at hg
            obtain ⟨rfl, rfl⟩ := hg
            simp only [RelD] at r1
            subst r1
            obtain ⟨rfl, rfl⟩ := ints_of ry q
            obtain ⟨f1, f2⟩ := findI_ok q2
            refine mt_remove pins s σ H _ _ v us Q I rx rs ⟨l, ns, k, j, rfl, rfl, hy, f1, f2, write_list w hn hl ?_ (by simp [RelD]) he⟩
            have e := RelDs.eraseIdx ry j
            have e2 : (ns.map V.int).eraseIdx j = (ns.eraseIdx j).map V.int := by
              rw [List.eraseIdx_eq_take_drop_succ, List.eraseIdx_eq_take_drop_succ, List.map_append, List.map_take, List.map_drop]
            rw [e2] at e
            exact e
      | _ => simp at hg
    | [], ra, hg => simp at hg
    | _ :: _ :: _, ra, hg => simp at hg
  | _ => simp at hg
theorem mts_ok (m : Mth) (hK : X.K = G.K) {pins : List (Addr × Obj)} {s : Shared} {σ : L2.St} {H : Hp} {x : V} {xs : List V} {v : Value} {us : List Value} {Q : VK} {wd : Wd} {sep : Str} {as : List D} {L L' : Live} {d : D} (I : Inv X pins σ H s) (rx : RelV x v) (rs : Vals xs us)
    (w : WOk (G := G) wd H L) (ro : RelD G wd x (.str sep)) (ra : RelDs G wd xs as) (hg : mthD m (.str sep) as L = some (d, L')) (he : End G wd d L' Q) :
    wpAny (model X.prog X.w) X.A (call (.builtin ("str." ++ mthN m)) (v :: us)) (EP X pins σ Q) X.xe s := by
  simp only [RelD] at ro
  subst ro
  simp only [mthD] at hg
  cases m with
  | join =>
    match as, ra, hg with
    | [a], ra, hg =>
      obtain ⟨y, rfl, r1⟩ := one_of ra
      simp only at hg
      cases q : seqOf L a with
      | none => rw [q] at hg; cases hg
      | some es =>
        rw [q] at hg
        simp only at hg
        cases q2 : strsOf es with
        | none => rw [q2] at hg; cases hg
        | some zs =>
          rw [q2] at hg
          simp only at hg
          split at hg
          · rename_i hz
            simp only [Option.some.injEq, Prod.mk.injEq] at hg
            obtain ⟨rfl, rfl⟩ := hg
            obtain ⟨l2, ws, rfl, hx, rx'⟩ := rd_seq w r1 q
            have e1 := strs_of rx' q2
            subst e1
            rw [← hK] at hx
            exact mt_join pins s σ H _ _ v us Q I rx rs ⟨sep, l2, zs, rfl, rfl, hx, of_decide_eq_true hz, he.now w (by simp [RelD])⟩
          · cases hg
    | [], ra, hg => simp at hg
    | _ :: _ :: _, ra, hg => simp at hg
  | _ => simp at hg
end
end MP
set_option maxHeartbeats 4000000
/-! MP: lending, cleaning -/
namespace MP
open PySem PySem.Spec PyProof.Rows L2 Classical
section
variable {G : Gv} {wd wd2 : Wd} {H H2 : Hp} {L L' : Live} {ids : List Nat}
theorem mapIx_get {α β : Type} (f : Nat → α → β) : ∀ (l : List α) (i j : Nat), (mapIx f i l)[j]? = (l[j]?).map (f (i + j))
  | [], i, j => by simp [mapIx]
  | x :: r, i, 0 => by simp [mapIx]
  | x :: r, i, j + 1 => by
    simp only [mapIx, List.getElem?_cons_succ]
    rw [mapIx_get f r (i + 1) j]
    congr 2
    omega
theorem mapIx_length {α β : Type} (f : Nat → α → β) : ∀ (l : List α) (i : Nat), (mapIx f i l).length = l.length
  | [], i => rfl
  | x :: r, i => by simp [mapIx, mapIx_length f r]
theorem Rd.dom {F : Hp} {a : Addr} {o : HO} (r : Rd F a o) : ∃ u, F a = some u := by
  rcases r with r | ⟨u, r⟩
  · exact ⟨_, r⟩
  · exact ⟨_, r⟩
theorem mapO_spec {α β : Type} {f : α → Option β} : ∀ {l : List α} {r : List β}, mapO f l = some r → Paired (fun x y => f x = some y) l r
  | [], r, h => by simp only [mapO, Option.some.injEq] at h; subst h; exact .nil
  | x :: l, r, h => by
    simp only [mapO] at h
    cases q : f x with
    | none => rw [q] at h; cases h
    | some y =>
      rw [q] at h
      cases q2 : mapO f l with
      | none => rw [q2] at h; cases h
      | some ys =>
        rw [q2] at h; simp only [Option.some.injEq] at h; subst h
        exact .cons q (mapO_spec q2)
theorem relDs_mapO {wd wd' : Wd} {f : D → Option D} : ∀ {ds es : List D} {xs : List V}, mapO f ds = some es → RelDs G wd xs ds → (∀ d e v, d ∈ ds → f d = some e → RelD G wd v d → RelD G wd' v e) → RelDs G wd' xs es
  | [], es, xs, h, r, k => by simp only [mapO, Option.some.injEq] at h; subst h; simpa [RelDs] using r
  | d :: ds, es, xs, h, r, k => by
    simp only [RelDs] at r
    obtain ⟨v, vs, rfl, r1, r2⟩ := r
    simp only [mapO] at h
    cases q : f d with
    | none => rw [q] at h; cases h
    | some y =>
      rw [q] at h
      cases q2 : mapO f ds with
      | none => rw [q2] at h; cases h
      | some ys =>
        rw [q2] at h; simp only [Option.some.injEq] at h; subst h
        exact RelDs.cons (k d y v List.mem_cons_self q r1) (relDs_mapO q2 r2 fun d e v hd => k d e v (List.mem_cons_of_mem _ hd))

/-! ### lending -/
def LentA (wd : Wd) (ids : List Nat) (a : Addr) : Prop := ∃ k ∈ ids, wd.ι k = some a
noncomputable def Wd.lend (wd : Wd) (H : Hp) (ids : List Nat) : Wd := { ι := wd.ι, F := fun a => if LentA wd ids a then H a else wd.F a, bor := wd.bor ++ ids.filterMap wd.ι }
theorem mem_lent {a : Addr} : a ∈ ids.filterMap wd.ι ↔ LentA wd ids a := by
  simp [LentA, List.mem_filterMap]
theorem lent_none (w : WOk (G := G) wd H L) (hl : ∀ k ∈ ids, ∃ ds, L[k]? = some (.lst ds)) {a : Addr} (h : LentA wd ids a) : wd.F a = none := by
  obtain ⟨k, hk, e⟩ := h
  obtain ⟨ds, e2⟩ := hl k hk
  obtain ⟨a', h1, _, h3⟩ := w.live k _ e2
  rw [e] at h1; cases h1
  exact h3 (by simp)
theorem lend_F (w : WOk (G := G) wd H L) (hl : ∀ k ∈ ids, ∃ ds, L[k]? = some (.lst ds)) {a : Addr} {o : HO} (h : wd.F a = some o) : (wd.lend H ids).F a = some o := by
  show (if LentA wd ids a then H a else wd.F a) = some o
  rw [if_neg (fun z => by rw [lent_none w hl z] at h; cases h)]; exact h
mutual
theorem lend_rel (w : WOk (G := G) wd H L) (hl : ∀ k ∈ ids, ∃ ds, L[k]? = some (.lst ds)) : ∀ {d : D} {v : V}, RelD G wd v d → RelD G (wd.lend H ids) v d
  | .non, v, h => by simpa [RelD] using h
  | .bl b, v, h => by simpa [RelD] using h
  | .int i, v, h => by simpa [RelD] using h
  | .str s, v, h => by simpa [RelD] using h
  | .tup ds, v, h => by
    simp only [RelD] at h ⊢
    obtain ⟨a, xs, h1, h2, h3⟩ := h
    exact ⟨a, xs, h1, SqT.mono (fun _ _ => lend_F w hl) h2, lend_rels w hl h3⟩
  | .lst t ds, v, h => by
    simp only [RelD] at h ⊢
    obtain ⟨a, xs, h1, h2, h3, h4, h5⟩ := h
    refine ⟨a, xs, h1, Rd.mono (fun _ _ => lend_F w hl) h2, lend_rels w hl h3, fun e hb => ?_, h5⟩
    rcases List.mem_append.mp hb with hb | hb
    · exact h4 e hb
    · obtain ⟨u, hu⟩ := Rd.dom h2
      rw [lent_none w hl (mem_lent.mp hb)] at hu; cases hu
  | .ref n, v, h => by simpa [RelD, Wd.lend] using h
  | .dct ks ds, v, h => by
    simp only [RelD] at h ⊢
    obtain ⟨a, ys, h1, h2, h3, h4⟩ := h
    exact ⟨a, ys, h1, lend_F w hl h2, h3, lend_rels w hl h4⟩
theorem lend_rels (w : WOk (G := G) wd H L) (hl : ∀ k ∈ ids, ∃ ds, L[k]? = some (.lst ds)) : ∀ {ds : List D} {xs : List V}, RelDs G wd xs ds → RelDs G (wd.lend H ids) xs ds
  | [], xs, h => by simpa [RelDs] using h
  | d :: ds, xs, h => by
    simp only [RelDs] at h ⊢
    obtain ⟨v, vs, h1, h2, h3⟩ := h
    exact ⟨v, vs, h1, lend_rel w hl h2, lend_rels w hl h3⟩
end
theorem idsF_lst : ∀ {m : Nat} {d : D} {k : Nat}, k ∈ idsF L m d → ∃ ds, L[k]? = some (.lst ds)
  | 0, d, k, h => by simp [idsF] at h
  | m + 1, d, k, h => by
    have ih : ∀ {ds : List D}, k ∈ ds.flatMap (idsF L m) → ∃ ds, L[k]? = some (.lst ds) := fun {ds} h => by
      obtain ⟨x, _, h⟩ := List.mem_flatMap.mp h
      exact idsF_lst h
    simp only [idsF] at h
    split at h
    · simp at h
    · cases d with
      | ref j =>
        simp only at h
        cases q : L[j]? with
        | none => rw [q] at h; simp at h
        | some o =>
          rw [q] at h
          cases o with
          | lst ds =>
            simp only [List.mem_cons] at h
            rcases h with rfl | h
            · exact ⟨ds, q⟩
            · exact ih h
          | _ => simp at h
      | tup ds => exact ih h
      | lst t ds => exact ih h
      | dct ks ds => exact ih h
      | _ => simp at h
theorem idsAs_lst : ∀ {lv : List Bool} {ds : List D} {k : Nat}, k ∈ idsAs L lv ds → ∃ ds, L[k]? = some (.lst ds)
  | lv, [], k, h => by simp [idsAs] at h
  | lv, d :: ds, k, h => by
    simp only [idsAs, List.mem_append] at h
    rcases h with h | h
    · split at h
      · simp at h
      · exact idsF_lst h
    · exact idsAs_lst h
theorem lendF_rel (w : WOk (G := G) wd H L) (hl : ∀ k ∈ ids, ∃ ds, L[k]? = some (.lst ds)) : ∀ {m : Nat} {d e : D} {v : V}, lendF L m d = some e → (∀ k ∈ idsF L m d, k ∈ ids) → RelD G wd v d → RelD G (wd.lend H ids) v e
  | 0, d, e, v, h, hi, r => by simp [lendF] at h
  | m + 1, d, e, v, h, hi, r => by
    have ih : ∀ {ds es : List D} {xs : List V}, mapO (lendF L m) ds = some es → (∀ k ∈ ds.flatMap (idsF L m), k ∈ ids) → RelDs G wd xs ds → RelDs G (wd.lend H ids) xs es := fun {ds es xs} h hi r =>
      relDs_mapO h r fun d e v hd q r => lendF_rel w hl q (fun k hk => hi k (List.mem_flatMap.mpr ⟨d, hd, hk⟩)) r
    simp only [lendF] at h
    simp only [idsF] at hi
    split at h
    · simp only [Option.some.injEq] at h; subst h
      exact lend_rel w hl r
    · rename_i hn
      rw [if_neg hn] at hi
      cases d with
      | ref j =>
        simp only at h hi
        cases q : L[j]? with
        | none => rw [q] at h; cases h
        | some o =>
          rw [q] at h hi
          cases o with
          | lst ds =>
            simp only [Option.map_eq_some_iff] at h
            obtain ⟨es, h1, rfl⟩ := h
            simp only [List.mem_cons] at hi
            obtain ⟨a, rfl, ha, ⟨xs, hx, rx⟩, _⟩ := rd_ref w r q
            simp only [RelD]
            refine ⟨a, xs, rfl, .inl ?_, ih h1 (fun k hk => hi k (.inr hk)) rx, by simp, fun k e => ?_⟩
            · show (if LentA wd ids a then H a else wd.F a) = _
              rw [if_pos ⟨j, hi j (.inl rfl), ha⟩]; exact hx
            · cases e; exact ha
          | dic kvs => simp only [Option.some.injEq] at h; subst h; exact lend_rel w hl r
          | ins C fs => simp only [Option.some.injEq] at h; subst h; exact lend_rel w hl r
          | gone => simp at h
      | tup ds =>
        simp only [Option.map_eq_some_iff] at h
        obtain ⟨es, h1, rfl⟩ := h
        simp only [RelD] at r ⊢
        obtain ⟨a, xs, h2, h3, h4⟩ := r
        exact ⟨a, xs, h2, SqT.mono (fun _ _ => lend_F w hl) h3, ih h1 hi h4⟩
      | lst t ds =>
        simp only [Option.map_eq_some_iff] at h
        obtain ⟨es, h1, rfl⟩ := h
        have r' := lend_rel w hl r
        simp only [RelD] at r r' ⊢
        obtain ⟨a, xs, e2, h3, h4, _⟩ := r
        obtain ⟨a', xs', e2', h3', h4', h5', h6'⟩ := r'
        rw [e2] at e2'; cases e2'
        exact ⟨a, xs, e2, Rd.mono (fun _ _ => lend_F w hl) h3, ih h1 hi h4, h5', h6'⟩
      | dct ks ds =>
        simp only [Option.map_eq_some_iff] at h
        obtain ⟨es, h1, rfl⟩ := h
        simp only [RelD] at r ⊢
        obtain ⟨a, ys, h2, h3, h4, h5⟩ := r
        exact ⟨a, ys, h2, lend_F w hl h3, h4, ih h1 hi h5⟩
      | non => simp only [Option.some.injEq] at h; subst h; exact lend_rel w hl r
      | bl b => simp only [Option.some.injEq] at h; subst h; exact lend_rel w hl r
      | int b => simp only [Option.some.injEq] at h; subst h; exact lend_rel w hl r
      | str b => simp only [Option.some.injEq] at h; subst h; exact lend_rel w hl r
theorem lendAs_rel (w : WOk (G := G) wd H L) (hl : ∀ k ∈ ids, ∃ ds, L[k]? = some (.lst ds)) : ∀ {lv : List Bool} {ds es : List D} {xs : List V}, lendAs L lv ds = some es → (∀ k ∈ idsAs L lv ds, k ∈ ids) → RelDs G wd xs ds → RelDs G (wd.lend H ids) xs es
  | lv, [], es, xs, h, hi, r => by simp only [lendAs, Option.some.injEq] at h; subst h; simpa [RelDs] using r
  | lv, d :: ds, es, xs, h, hi, r => by
    simp only [RelDs] at r
    obtain ⟨v, vs, rfl, r1, r2⟩ := r
    simp only [lendAs] at h
    simp only [idsAs, List.mem_append] at hi
    cases q : (if lv.headD false = true then some d else lendF L 12 d) with
    | none => rw [q] at h; cases h
    | some e =>
      rw [q] at h
      simp only at h
      cases q2 : lendAs L lv.tail ds with
      | none => rw [q2] at h; cases h
      | some es' =>
        rw [q2] at h; simp only [Option.some.injEq] at h; subst h
        refine RelDs.cons ?_ (lendAs_rel w hl q2 (fun k hk => hi k (.inr hk)) r2)
        split at q
        · simp only [Option.some.injEq] at q; subst q
          exact lend_rel w hl r1
        · rename_i hb
          refine lendF_rel w hl q (fun k hk => hi k (.inl ?_)) r1
          rw [if_neg hb]; exact hk
theorem lendAs_length : ∀ {lv : List Bool} {ds es : List D}, lendAs L lv ds = some es → es.length = ds.length
  | lv, [], es, h => by simp only [lendAs, Option.some.injEq] at h; subst h; rfl
  | lv, d :: ds, es, h => by
    simp only [lendAs] at h
    cases q : (if lv.headD false = true then some d else lendF L 12 d) with
    | none => rw [q] at h; cases h
    | some e =>
      rw [q] at h
      simp only at h
      cases q2 : lendAs L lv.tail ds with
      | none => rw [q2] at h; cases h
      | some es' =>
        rw [q2] at h; simp only [Option.some.injEq] at h; subst h
        simp [lendAs_length q2]
theorem relO_of {wd wd' : Wd} {H H' : Hp} {a : Addr} (k : ∀ d v, RelD G wd v d → RelD G wd' v d) (ks : ∀ ds xs, RelDs G wd xs ds → RelDs G wd' xs ds) (hh : H' = H) : ∀ {o : LO}, RelO (G := G) wd H a o → RelO (G := G) wd' H' a o
  | .lst ds, ⟨xs, h1, h2⟩ => ⟨xs, by rw [hh]; exact h1, ks _ _ h2⟩
  | .dic kvs, ⟨ys, h1, h2⟩ => ⟨ys, by rw [hh]; exact h1, Paired.mapP h2 fun _ _ h => ⟨h.1, k _ _ h.2⟩⟩
  | .ins C fs, ⟨ca, dx, gs, h0, h1, h2, h3⟩ => ⟨ca, dx, gs, h0, by rw [hh]; exact h1, by rw [hh]; exact h2, Paired.mapP h3 fun _ _ h => ⟨h.1, k _ _ h.2⟩⟩
  | .gone, _ => True.intro
theorem lend_ok (w : WOk (G := G) wd H L) (hl : ∀ k ∈ ids, ∃ ds, L[k]? = some (.lst ds)) : WOk (G := G) (wd.lend H ids) H (maskL ids L) := by
  refine ⟨fun a o h => ?_, fun n o h => ?_, fun n a h => ?_, w.inj, fun a ha => ?_, fun a o h => ?_, w.there⟩
  · have h' : (if LentA wd ids a then H a else wd.F a) = some o := h
    split at h'
    · exact h'
    · exact w.sub _ _ h'
  · unfold maskL at h
    rw [mapIx_get, Option.map_eq_some_iff] at h
    obtain ⟨u, hu, e⟩ := h
    rw [Nat.zero_add] at e
    obtain ⟨a, h1, h2, h3⟩ := w.live n u hu
    refine ⟨a, h1, ?_, fun g => ?_⟩
    · split at e
      · subst e; exact True.intro
      · subst e; exact relO_of (fun _ _ => lend_rel w hl) (fun _ _ => lend_rels w hl) rfl h2
    · split at e
      · exact absurd e.symm g
      · rename_i hn
        subst e
        show (if LentA wd ids a then H a else wd.F a) = none
        rw [if_neg (fun ⟨k, hk, e⟩ => hn (w.inj _ _ _ e h1 ▸ hk))]
        exact h3 g
  · unfold maskL; rw [mapIx_length]; exact w.dom n a h
  · rcases List.mem_append.mp ha with ha | ha
    · obtain ⟨o, ho⟩ := w.bor a ha
      exact ⟨o, lend_F w hl ho⟩
    · have hL := mem_lent.mp ha
      obtain ⟨k, _, e⟩ := hL
      obtain ⟨o, ho⟩ := w.there k a e
      refine ⟨o, ?_⟩
      show (if LentA wd ids a then H a else wd.F a) = some o
      rw [if_pos (mem_lent.mp ha)]; exact ho
  · have h' : (if LentA wd ids a then H a else wd.F a) = some o := h
    split at h'
    · rename_i hL
      obtain ⟨k, hk, e⟩ := hL
      obtain ⟨ds, e2⟩ := hl k hk
      obtain ⟨a', g1, ⟨xs, g2, _⟩, _⟩ := w.live k _ e2
      rw [e] at g1; cases g1
      rw [g2] at h'; cases h'
      exact .inl ⟨xs, rfl⟩
    · exact w.seq _ _ h'

/-! ### taking back -/
noncomputable def Wd.unlend (wd wd2 : Wd) (ids : List Nat) : Wd := { ι := wd2.ι, F := fun a => if LentA wd ids a then none else wd2.F a, bor := wd.bor }
theorem unlend_ext (w : WOk (G := G) wd H L) (hl : ∀ k ∈ ids, ∃ ds, L[k]? = some (.lst ds)) (e : Ext (wd.lend H ids) wd2) : Ext wd (wd.unlend wd2 ids) := by
  refine ⟨fun n a h => e.ι n a h, fun a o h => ?_, rfl, fun n a h => (e.new n a h).elim .inl fun g => .inr ?_⟩
  · show (if LentA wd ids a then none else wd2.F a) = some o
    rw [if_neg (fun z => by rw [lent_none w hl z] at h; cases h)]
    exact e.F _ _ (lend_F w hl h)
  · cases q : wd.F a with
    | none => rfl
    | some o => rw [lend_F w hl q] at g; cases g
theorem unlend_F {a : Addr} {o : HO} (h : wd2.F a = some o) (n : ¬ LentA wd ids a) : (wd.unlend wd2 ids).F a = some o := by
  show (if LentA wd ids a then none else wd2.F a) = some o
  rw [if_neg n]; exact h
theorem unlend_Rd {a : Addr} {o : HO} (r : Rd wd2.F a o) (n : ¬ LentA wd ids a) : Rd (wd.unlend wd2 ids).F a o := by
  rcases r with r | ⟨u, r⟩
  · exact .inl (unlend_F r n)
  · exact .inr ⟨u, unlend_F r n⟩
theorem lent_lst (w : WOk (G := G) wd H L) (hl : ∀ k ∈ ids, ∃ ds, L[k]? = some (.lst ds)) (e : Ext (wd.lend H ids) wd2) {a : Addr} (h : LentA wd ids a) : ∃ xs, wd2.F a = some (.lst xs) := by
  obtain ⟨k, hk, e1⟩ := h
  obtain ⟨ds, e2⟩ := hl k hk
  obtain ⟨a', g1, ⟨xs, g2, _⟩, _⟩ := w.live k _ e2
  rw [e1] at g1; cases g1
  refine ⟨xs, e.F _ _ ?_⟩
  show (if LentA wd ids a then H a else wd.F a) = _
  rw [if_pos ⟨k, hk, e1⟩]; exact g2
mutual
theorem th_rel (w : WOk (G := G) wd H L) (hl : ∀ k ∈ ids, ∃ ds, L[k]? = some (.lst ds)) (e : Ext (wd.lend H ids) wd2) (w2 : WOk (G := G) wd2 H2 L') : ∀ {d : D} {v : V}, RelD G wd2 v d → RelD G (wd.unlend wd2 ids) v (th ids d)
  | .non, v, h => by simpa [RelD, th] using h
  | .bl b, v, h => by simpa [RelD, th] using h
  | .int i, v, h => by simpa [RelD, th] using h
  | .str s, v, h => by simpa [RelD, th] using h
  | .ref n, v, h => by simpa [RelD, th, Wd.unlend] using h
  | .dct ks ds, v, h => by
    simp only [RelD, th] at h ⊢
    obtain ⟨a, ys, h1, h2, h3, h4⟩ := h
    refine ⟨a, ys, h1, ?_, h3, ths_rel w hl e w2 h4⟩
    show (if LentA wd ids a then none else wd2.F a) = _
    rw [if_neg fun z => ?_]
    · exact h2
    · obtain ⟨xs, hx⟩ := lent_lst w hl e z
      rw [hx] at h2; cases h2
  | .tup ds, v, h => by
    simp only [RelD, th] at h ⊢
    obtain ⟨a, xs, h1, h2, h3⟩ := h
    refine ⟨a, xs, h1, ?_, ths_rel w hl e w2 h3⟩
    rcases h2 with r | r
    · refine .inl (unlend_Rd r fun z => ?_)
      obtain ⟨ys, hy⟩ := lent_lst w hl e z
      rcases r with r | ⟨u, r⟩
      · rw [hy] at r; cases r
      · rw [hy] at r; cases r
    · exact .inr r
  | .lst t ds, v, h => by
    cases t with
    | zero =>
      simp only [RelD, th] at h ⊢
      obtain ⟨a, xs, h1, h2, h3, h4, h5⟩ := h
      have hb := h4 (by trivial)
      rw [e.bor] at hb
      refine ⟨a, xs, h1, unlend_Rd h2 fun z => hb (List.mem_append_right _ (mem_lent.mpr z)), ths_rel w hl e w2 h3, fun _ z => hb (List.mem_append_left _ z), fun k hk => by cases hk⟩
    | succ k =>
      simp only [RelD] at h
      obtain ⟨a, xs, h1, h2, h3, h4, h5⟩ := h
      simp only [th]
      split
      · simp only [RelD]
        exact ⟨a, h5 k rfl, h1⟩
      · rename_i hn
        simp only [RelD]
        refine ⟨a, xs, h1, unlend_Rd h2 fun ⟨j, hj, ej⟩ => ?_, ths_rel w hl e w2 h3, by simp, h5⟩
        exact hn (w2.inj _ _ _ (e.ι j a ej) (h5 k rfl) ▸ hj)
theorem ths_rel (w : WOk (G := G) wd H L) (hl : ∀ k ∈ ids, ∃ ds, L[k]? = some (.lst ds)) (e : Ext (wd.lend H ids) wd2) (w2 : WOk (G := G) wd2 H2 L') : ∀ {ds : List D} {xs : List V}, RelDs G wd2 xs ds → RelDs G (wd.unlend wd2 ids) xs (ths ids ds)
  | [], xs, h => by simpa [RelDs, ths] using h
  | d :: ds, xs, h => by
    simp only [RelDs, ths] at h ⊢
    obtain ⟨v, vs, h1, h2, h3⟩ := h
    exact ⟨v, vs, h1, th_rel w hl e w2 h2, ths_rel w hl e w2 h3⟩
end
mutual
theorem th_id (w : WOk (G := G) wd H L) (hl : ∀ k ∈ ids, ∃ ds, L[k]? = some (.lst ds)) : ∀ {d : D} {v : V}, RelD G wd v d → th ids d = d
  | .non, v, h => rfl
  | .bl b, v, h => rfl
  | .int i, v, h => rfl
  | .str s, v, h => rfl
  | .ref n, v, h => rfl
  | .dct ks ds, v, h => by
    simp only [RelD] at h
    obtain ⟨a, ys, h1, h2, h3, h4⟩ := h
    simp only [th, ths_id w hl h4]
  | .tup ds, v, h => by
    simp only [RelD] at h
    obtain ⟨a, xs, h1, h2, h3⟩ := h
    simp only [th, ths_id w hl h3]
  | .lst t ds, v, h => by
    simp only [RelD] at h
    obtain ⟨a, xs, h1, h2, h3, h4, h5⟩ := h
    cases t with
    | zero => simp only [th, ths_id w hl h3]
    | succ k =>
      simp only [th, ths_id w hl h3]
      rw [if_neg fun hk => ?_]
      obtain ⟨u, hu⟩ := Rd.dom h2
      rw [lent_none w hl ⟨k, hk, h5 k rfl⟩] at hu; cases hu
theorem ths_id (w : WOk (G := G) wd H L) (hl : ∀ k ∈ ids, ∃ ds, L[k]? = some (.lst ds)) : ∀ {ds : List D} {xs : List V}, RelDs G wd xs ds → ths ids ds = ds
  | [], xs, h => rfl
  | d :: ds, xs, h => by
    simp only [RelDs] at h
    obtain ⟨v, vs, h1, h2, h3⟩ := h
    simp only [ths, th_id w hl h2, ths_id w hl h3]
end
theorem paired_map_r {α β γ : Type} {P : α → β → Prop} {R : α → γ → Prop} {f : β → γ} : ∀ {l : List α} {m : List β}, Paired P l m → (∀ a b, P a b → R a (f b)) → Paired R l (m.map f)
  | _, _, .nil, _ => .nil
  | _, _, .cons r t, k => .cons (k _ _ r) (paired_map_r t k)
theorem paired_map_id {α β : Type} {P : α → β → Prop} {f : β → β} : ∀ {l : List α} {m : List β}, Paired P l m → (∀ a b, P a b → f b = b) → m.map f = m
  | _, _, .nil, _ => rfl
  | _, _, .cons r t, k => by rw [List.map_cons, k _ _ r, paired_map_id t k]
theorem thO_rel (w : WOk (G := G) wd H L) (hl : ∀ k ∈ ids, ∃ ds, L[k]? = some (.lst ds)) (e : Ext (wd.lend H ids) wd2) (w2 : WOk (G := G) wd2 H2 L') {a : Addr} : ∀ {o : LO}, RelO (G := G) wd2 H2 a o → RelO (G := G) (wd.unlend wd2 ids) H2 a (thO ids o)
  | .lst ds, ⟨xs, h1, h2⟩ => ⟨xs, h1, ths_rel w hl e w2 h2⟩
  | .dic kvs, ⟨ys, h1, h2⟩ => ⟨ys, h1, paired_map_r h2 fun _ _ h => ⟨h.1, th_rel w hl e w2 h.2⟩⟩
  | .ins C fs, ⟨ca, dx, gs, h0, h1, h2, h3⟩ => ⟨ca, dx, gs, h0, h1, h2, paired_map_r h3 fun _ _ h => ⟨h.1, th_rel w hl e w2 h.2⟩⟩
  | .gone, _ => True.intro
theorem thO_id (w : WOk (G := G) wd H L) (hl : ∀ k ∈ ids, ∃ ds, L[k]? = some (.lst ds)) {a : Addr} : ∀ {o : LO}, RelO (G := G) wd H a o → thO ids o = o
  | .lst ds, ⟨xs, h1, h2⟩ => by simp only [thO, ths_id w hl h2]
  | .dic kvs, ⟨ys, h1, h2⟩ => by
    simp only [thO]
    rw [paired_map_id h2 fun p q h => ?_]
    show (q.1, th ids q.2) = q
    rw [th_id w hl h.2]
  | .ins C fs, ⟨ca, dx, gs, h0, h1, h2, h3⟩ => by
    simp only [thO]
    rw [paired_map_id h3 fun p q h => ?_]
    show (q.1, th ids q.2) = q
    rw [th_id w hl h.2]
  | .gone, _ => rfl
theorem unlend_ok (w : WOk (G := G) wd H L) (hl : ∀ k ∈ ids, ∃ ds, L[k]? = some (.lst ds)) (e : Ext (wd.lend H ids) wd2) (w2 : WOk (G := G) wd2 H2 L') : WOk (G := G) (wd.unlend wd2 ids) H2 (backL ids L L') := by
  refine ⟨fun a o h => ?_, fun n o h => ?_, fun n a h => ?_, w2.inj, fun a ha => ?_, fun a o h => ?_, w2.there⟩
  · have h' : (if LentA wd ids a then none else wd2.F a) = some o := h
    split at h'
    · cases h'
    · exact w2.sub _ _ h'
  · unfold backL at h
    rw [mapIx_get, Option.map_eq_some_iff] at h
    obtain ⟨u, hu, q⟩ := h
    rw [Nat.zero_add] at q
    obtain ⟨a, h1, h2, h3⟩ := w2.live n u hu
    refine ⟨a, h1, ?_⟩
    by_cases hn : n ∈ ids
    · rw [if_pos hn] at q
      obtain ⟨ds, e2⟩ := hl n hn
      rw [e2] at q
      simp only [Option.getD_some] at q
      subst q
      obtain ⟨a', g1, ⟨xs, g2, g3⟩, _⟩ := w.live n _ e2
      have ea : a' = a := by
        have := e.ι n a' g1
        rw [h1] at this; cases this; rfl
      subst ea
      have hL : LentA wd ids a' := ⟨n, hn, g1⟩
      refine ⟨⟨xs, w2.sub _ _ (e.F _ _ ?_), RelDs.ext G (unlend_ext w hl e) g3⟩, fun _ => ?_⟩
      · show (if LentA wd ids a' then H a' else wd.F a') = _
        rw [if_pos hL]; exact g2
      · show (if LentA wd ids a' then none else wd2.F a') = none
        rw [if_pos hL]
    · rw [if_neg hn] at q
      have fz : o ≠ .gone → (wd.unlend wd2 ids).F a = none := fun g => by
        show (if LentA wd ids a then none else wd2.F a) = none
        split
        · rfl
        · refine h3 fun z => g ?_
          subst z
          split at q
          · exact q.symm
          · exact q.symm
      refine ⟨?_, fz⟩
      have hr := thO_rel w hl e w2 h2
      split at q
      · rename_i hs
        subst q
        obtain ⟨a', _, g2, _⟩ := w.live n _ hs
        rw [thO_id w hl g2] at hr
        exact hr
      · subst q; exact hr
  · unfold backL; rw [mapIx_length]; exact w2.dom n a h
  · obtain ⟨o, ho⟩ := w.bor a ha
    exact ⟨o, (unlend_ext w hl e).F _ _ ho⟩
  · have h' : (if LentA wd ids a then none else wd2.F a) = some o := h
    split at h'
    · cases h'
    · exact w2.seq _ _ h'

/-! ### cleaning -/
def NewA (wd2 : Wd) (n : Nat) (L' : Live) (a : Addr) : Prop := ∃ k, n ≤ k ∧ (∃ ds, L'[k]? = some (.lst ds)) ∧ wd2.ι k = some a
noncomputable def Wd.clean (wd2 : Wd) (n : Nat) (L' : Live) (H2 : Hp) : Wd := { ι := fun k => if k < n then wd2.ι k else none, F := fun a => if NewA wd2 n L' a then H2 a else wd2.F a, bor := wd2.bor }
theorem new_none (w2 : WOk (G := G) wd2 H2 L') {n : Nat} {a : Addr} (h : NewA wd2 n L' a) : wd2.F a = none := by
  obtain ⟨k, _, ⟨ds, e⟩, e2⟩ := h
  obtain ⟨a', h1, _, h3⟩ := w2.live k _ e
  rw [e2] at h1; cases h1
  exact h3 (by simp)
theorem clean_F (w2 : WOk (G := G) wd2 H2 L') {n : Nat} {a : Addr} {o : HO} (h : wd2.F a = some o) : (wd2.clean n L' H2).F a = some o := by
  show (if NewA wd2 n L' a then H2 a else wd2.F a) = some o
  rw [if_neg (fun z => by rw [new_none w2 z] at h; cases h)]; exact h
theorem clean_ext (w : WOk (G := G) wd H L) (w2 : WOk (G := G) wd2 H2 L') (e : Ext wd wd2) : Ext wd (wd2.clean L.length L' H2) := by
  refine ⟨fun n a h => ?_, fun a o h => clean_F w2 (e.F _ _ h), e.bor, fun n a h => ?_⟩
  · show (if n < L.length then wd2.ι n else none) = some a
    rw [if_pos (w.dom _ _ h)]; exact e.ι _ _ h
  · have h' : (if n < L.length then wd2.ι n else none) = some a := h
    split at h'
    · exact e.new n a h'
    · cases h'
mutual
theorem okB_rel (w2 : WOk (G := G) wd2 H2 L') {n : Nat} : ∀ {d : D} {v : V}, okB n d = true → RelD G wd2 v d → RelD G (wd2.clean n L' H2) v d
  | .non, v, _, h => by simpa [RelD] using h
  | .bl b, v, _, h => by simpa [RelD] using h
  | .int i, v, _, h => by simpa [RelD] using h
  | .str s, v, _, h => by simpa [RelD] using h
  | .ref k, v, b, h => by
    simp only [okB, decide_eq_true_eq] at b
    simp only [RelD] at h ⊢
    obtain ⟨a, h1, h2⟩ := h
    refine ⟨a, ?_, h2⟩
    show (if k < n then wd2.ι k else none) = some a
    rw [if_pos b]; exact h1
  | .dct ks ds, v, b, h => by
    simp only [okB] at b
    simp only [RelD] at h ⊢
    obtain ⟨a, ys, h1, h2, h3, h4⟩ := h
    exact ⟨a, ys, h1, clean_F w2 h2, h3, okBs_rel w2 b h4⟩
  | .tup ds, v, b, h => by
    simp only [okB] at b
    simp only [RelD] at h ⊢
    obtain ⟨a, xs, h1, h2, h3⟩ := h
    exact ⟨a, xs, h1, SqT.mono (fun _ _ => clean_F w2) h2, okBs_rel w2 b h3⟩
  | .lst t ds, v, b, h => by
    simp only [okB, Bool.and_eq_true, decide_eq_true_eq] at b
    simp only [RelD] at h ⊢
    obtain ⟨a, xs, h1, h2, h3, h4, h5⟩ := h
    refine ⟨a, xs, h1, Rd.mono (fun _ _ => clean_F w2) h2, okBs_rel w2 b.2 h3, h4, fun k hk => ?_⟩
    show (if k < n then wd2.ι k else none) = some a
    rw [if_pos (by omega)]; exact h5 k hk
theorem okBs_rel (w2 : WOk (G := G) wd2 H2 L') {n : Nat} : ∀ {ds : List D} {xs : List V}, okBs n ds = true → RelDs G wd2 xs ds → RelDs G (wd2.clean n L' H2) xs ds
  | [], xs, _, h => by simpa [RelDs] using h
  | d :: ds, xs, b, h => by
    simp only [okBs, Bool.and_eq_true] at b
    simp only [RelDs] at h ⊢
    obtain ⟨v, vs, h1, h2, h3⟩ := h
    exact ⟨v, vs, h1, okB_rel w2 b.1 h2, okBs_rel w2 b.2 h3⟩
end
theorem fzF_rel (w2 : WOk (G := G) wd2 H2 L') {n : Nat} : ∀ {m : Nat} {d e : D} {v : V}, fzF n L' m d = some e → RelD G wd2 v d → RelD G (wd2.clean n L' H2) v e
  | 0, d, e, v, h, r => by simp [fzF] at h
  | m + 1, d, e, v, h, r => by
    have ih : ∀ {ds es : List D} {xs : List V}, mapO (fzF n L' m) ds = some es → RelDs G wd2 xs ds → RelDs G (wd2.clean n L' H2) xs es := fun {ds es xs} h r =>
      relDs_mapO h r fun d e v hd q r => fzF_rel w2 q r
    simp only [fzF] at h
    split at h
    · rename_i hb
      simp only [Option.some.injEq] at h; subst h
      exact okB_rel w2 hb r
    · rename_i hb
      cases d with
      | ref k =>
        simp only at h
        split at h
        · rename_i hk
          exact absurd (by simp [okB, hk]) hb
        · rename_i hk
          cases q : L'[k]? with
          | none => rw [q] at h; cases h
          | some o =>
            rw [q] at h
            cases o with
            | lst ds =>
              simp only [Option.map_eq_some_iff] at h
              obtain ⟨es, h1, rfl⟩ := h
              obtain ⟨a, rfl, ha, ⟨xs, hx, rx⟩, hf⟩ := rd_ref w2 r q
              simp only [RelD]
              refine ⟨a, xs, rfl, .inl ?_, ih h1 rx, fun _ hb => ?_, fun k e => by cases e⟩
              · show (if NewA wd2 n L' a then H2 a else wd2.F a) = _
                rw [if_pos ⟨k, by omega, ⟨ds, q⟩, ha⟩]; exact hx
              · obtain ⟨o, ho⟩ := w2.bor a hb
                rw [hf (by simp)] at ho; cases ho
            | _ => simp at h
      | tup ds =>
        simp only [Option.map_eq_some_iff] at h
        obtain ⟨es, h1, rfl⟩ := h
        simp only [RelD] at r ⊢
        obtain ⟨a, xs, h2, h3, h4⟩ := r
        exact ⟨a, xs, h2, SqT.mono (fun _ _ => clean_F w2) h3, ih h1 h4⟩
      | dct ks ds =>
        simp only [Option.map_eq_some_iff] at h
        obtain ⟨es, h1, rfl⟩ := h
        simp only [RelD] at r ⊢
        obtain ⟨a, ys, h2, h3, h4, h5⟩ := r
        exact ⟨a, ys, h2, clean_F w2 h3, h4, ih h1 h5⟩
      | lst t ds =>
        simp only at h
        split at h
        · rename_i ht
          simp only [Option.map_eq_some_iff] at h
          obtain ⟨es, h1, rfl⟩ := h
          simp only [RelD] at r ⊢
          obtain ⟨a, xs, e2, h3, h4, h5, h6⟩ := r
          refine ⟨a, xs, e2, Rd.mono (fun _ _ => clean_F w2) h3, ih h1 h4, h5, fun k hk => ?_⟩
          show (if k < n then wd2.ι k else none) = some a
          rw [if_pos (by omega)]; exact h6 k hk
        · cases h
      | non => simp [okB] at hb
      | bl b => simp [okB] at hb
      | int b => simp [okB] at hb
      | str b => simp [okB] at hb
mutual
theorem okB_of (w : WOk (G := G) wd H L) : ∀ {d : D} {v : V}, RelD G wd v d → okB L.length d = true
  | .non, v, h => rfl
  | .bl b, v, h => rfl
  | .int i, v, h => rfl
  | .str s, v, h => rfl
  | .ref n, v, h => by
    simp only [RelD] at h
    obtain ⟨a, h1, _⟩ := h
    simp only [okB, decide_eq_true_eq]
    exact w.dom _ _ h1
  | .dct ks ds, v, h => by
    simp only [RelD] at h
    obtain ⟨a, ys, h1, h2, h3, h4⟩ := h
    simp only [okB]
    exact okBs_of w h4
  | .tup ds, v, h => by
    simp only [RelD] at h
    obtain ⟨a, xs, h1, h2, h3⟩ := h
    simp only [okB]
    exact okBs_of w h3
  | .lst t ds, v, h => by
    simp only [RelD] at h
    obtain ⟨a, xs, h1, h2, h3, h4, h5⟩ := h
    simp only [okB, Bool.and_eq_true, decide_eq_true_eq]
    refine ⟨?_, okBs_of w h3⟩
    cases t with
    | zero => exact Nat.zero_le _
    | succ k => exact w.dom _ _ (h5 k rfl)
theorem okBs_of (w : WOk (G := G) wd H L) : ∀ {ds : List D} {xs : List V}, RelDs G wd xs ds → okBs L.length ds = true
  | [], xs, h => rfl
  | d :: ds, xs, h => by
    simp only [RelDs] at h
    obtain ⟨v, vs, h1, h2, h3⟩ := h
    simp only [okBs, Bool.and_eq_true]
    exact ⟨okB_of w h2, okBs_of w h3⟩
end
theorem paired_okB {κ : Type} (w : WOk (G := G) wd H L) : ∀ {ys : List (κ × V)} {kvs : List (κ × D)}, Paired (fun (p : κ × V) (q : κ × D) => p.1 = q.1 ∧ RelD G wd p.2 q.2) ys kvs → ∀ q ∈ kvs, okB L.length q.2 = true
  | _, _, .nil, q, hq => by cases hq
  | _, _, .cons r t, q, hq => by
    rcases List.mem_cons.mp hq with rfl | hq
    · exact okB_of w r.2
    · exact paired_okB w t q hq
theorem okO_rel (w : WOk (G := G) wd H L) (w2 : WOk (G := G) wd2 H2 L') {a a' : Addr} : ∀ {o : LO}, RelO (G := G) wd H a' o → RelO (G := G) wd2 H2 a o → RelO (G := G) (wd2.clean L.length L' H2) H2 a o
  | .lst ds, ⟨zs, _, g2⟩, ⟨xs, h1, h2⟩ => ⟨xs, h1, okBs_rel w2 (okBs_of w g2) h2⟩
  | .dic kvs, ⟨zs, _, g2⟩, ⟨ys, h1, h2⟩ => by
    refine ⟨ys, h1, ?_⟩
    have : ∀ q ∈ kvs, okB L.length q.2 = true := paired_okB w g2
    clear g2 h1
    induction h2 with
    | nil => exact .nil
    | @cons p q ps qs r t ih => exact .cons ⟨r.1, okB_rel w2 (this _ List.mem_cons_self) r.2⟩ (ih fun q hq => this q (List.mem_cons_of_mem _ hq))
  | .ins C fs, ⟨_, _, zs, _, _, _, g2⟩, ⟨ca, dx, gs, h0, h1, h2, h3⟩ => by
    refine ⟨ca, dx, gs, h0, h1, h2, ?_⟩
    have : ∀ q ∈ fs, okB L.length q.2 = true := paired_okB w g2
    clear g2 h1 h2
    induction h3 with
    | nil => exact .nil
    | @cons p q ps qs r t ih => exact .cons ⟨r.1, okB_rel w2 (this _ List.mem_cons_self) r.2⟩ (ih fun q hq => this q (List.mem_cons_of_mem _ hq))
  | .gone, _, _ => True.intro
theorem paired_fz {κ : Type} (w2 : WOk (G := G) wd2 H2 L') {n : Nat} : ∀ {ys : List (κ × V)} {kvs kws : List (κ × D)}, mapO (fzP n L') kvs = some kws → Paired (fun (p : κ × V) (q : κ × D) => p.1 = q.1 ∧ RelD G wd2 p.2 q.2) ys kvs →
    Paired (fun (p : κ × V) (q : κ × D) => p.1 = q.1 ∧ RelD G (wd2.clean n L' H2) p.2 q.2) ys kws
  | _, _, kws, h, .nil => by simp only [mapO, Option.some.injEq] at h; subst h; exact .nil
  | _, q :: qs, kws, h, .cons r t => by
    simp only [mapO] at h
    cases q1 : fzP n L' q with
    | none => rw [q1] at h; cases h
    | some y =>
      rw [q1] at h
      cases q2 : mapO (fzP n L') qs with
      | none => rw [q2] at h; cases h
      | some ys =>
        rw [q2] at h; simp only [Option.some.injEq] at h; subst h
        refine .cons ?_ (paired_fz w2 q2 t)
        simp only [fzP, Option.map_eq_some_iff] at q1
        obtain ⟨d, h1, rfl⟩ := q1
        exact ⟨r.1, fzF_rel w2 h1 r.2⟩
theorem fzO_rel (w2 : WOk (G := G) wd2 H2 L') {n : Nat} {a : Addr} : ∀ {o u : LO}, fzO n L' o = some u → RelO (G := G) wd2 H2 a o → RelO (G := G) (wd2.clean n L' H2) H2 a u
  | .lst ds, u, h, ⟨xs, h1, h2⟩ => by
    simp only [fzO, Option.map_eq_some_iff] at h
    obtain ⟨es, h3, rfl⟩ := h
    exact ⟨xs, h1, relDs_mapO h3 h2 fun d e v hd q r => fzF_rel w2 q r⟩
  | .dic kvs, u, h, ⟨ys, h1, h2⟩ => by
    simp only [fzO, Option.map_eq_some_iff] at h
    obtain ⟨es, h3, rfl⟩ := h
    exact ⟨ys, h1, paired_fz w2 h3 h2⟩
  | .ins C fs, u, h, ⟨ca, dx, gs, h0, h1, h2, h3⟩ => by
    simp only [fzO, Option.map_eq_some_iff] at h
    obtain ⟨es, h4, rfl⟩ := h
    exact ⟨ca, dx, gs, h0, h1, h2, paired_fz w2 h4 h3⟩
  | .gone, u, h, _ => by simp only [fzO, Option.some.injEq] at h; subst h; exact True.intro
theorem fzO_gone {n : Nat} {M : Live} {o : LO} (h : fzO n M o = some .gone) : o = .gone := by
  cases o with
  | gone => rfl
  | lst ds => simp [fzO] at h
  | dic ds => simp [fzO] at h
  | ins C ds => simp [fzO] at h
theorem cutL_spec {n : Nat} {M : Live} : ∀ {L L' R : Live}, cutL n M L L' = some R → R.length = L.length ∧ ∀ (i : Nat) (u : LO), R[i]? = some u → ∃ o o' : LO, L[i]? = some o ∧ L'[i]? = some o' ∧ ((o' = o ∧ u = o) ∨ fzO n M o' = some u)
  | [], L', R, h => by simp only [cutL, Option.some.injEq] at h; subst h; exact ⟨rfl, fun i u h => by simp at h⟩
  | o :: L, [], R, h => by simp [cutL] at h
  | o :: L, o' :: L', R, h => by
    simp only [cutL] at h
    cases q : (if o' = o then some o else fzO n M o') with
    | none => rw [q] at h; cases h
    | some u =>
      rw [q] at h
      simp only at h
      cases q2 : cutL n M L L' with
      | none => rw [q2] at h; cases h
      | some r =>
        rw [q2] at h; simp only [Option.some.injEq] at h; subst h
        obtain ⟨h1, h2⟩ := cutL_spec q2
        refine ⟨by simp [h1], fun i x hx => ?_⟩
        cases i with
        | zero =>
          simp at hx; subst hx
          refine ⟨o, o', rfl, rfl, ?_⟩
          split at q
          · rename_i e; cases q; exact .inl ⟨e, rfl⟩
          · exact .inr q
        | succ i =>
          simp only [List.getElem?_cons_succ] at hx ⊢
          exact h2 i x hx
theorem clean_ok (w : WOk (G := G) wd H L) (w2 : WOk (G := G) wd2 H2 L') (e : Ext wd wd2) {R : Live} (hR : cutL L.length L' L L' = some R) : WOk (G := G) (wd2.clean L.length L' H2) H2 R := by
  obtain ⟨hlen, hsp⟩ := cutL_spec hR
  have iot : ∀ {n a}, (wd2.clean L.length L' H2).ι n = some a → n < L.length ∧ wd2.ι n = some a := fun {n a} h => by
    have h' : (if n < L.length then wd2.ι n else none) = some a := h
    split at h'
    · exact ⟨‹_›, h'⟩
    · cases h'
  refine ⟨fun a o h => ?_, fun n u h => ?_, fun n a h => by rw [hlen]; exact (iot h).1, fun n m a h1 h2 => w2.inj _ _ _ (iot h1).2 (iot h2).2, fun a ha => ?_, fun a o h => ?_, fun n a h => w2.there _ _ (iot h).2⟩
  · have h' : (if NewA wd2 L.length L' a then H2 a else wd2.F a) = some o := h
    split at h'
    · exact h'
    · exact w2.sub _ _ h'
  · obtain ⟨o, o', h1, h2, h3⟩ := hsp n u h
    have hn : n < L.length := (List.getElem?_eq_some_iff.mp h1).1
    obtain ⟨a, g1, g2, g3⟩ := w2.live n o' h2
    have fN : ¬ NewA wd2 L.length L' a := fun ⟨k, hk, _, ek⟩ => by
      have := w2.inj _ _ _ ek g1
      omega
    refine ⟨a, ?_, ?_, fun g => ?_⟩
    · show (if n < L.length then wd2.ι n else none) = some a
      rw [if_pos hn]; exact g1
    · rcases h3 with ⟨rfl, rfl⟩ | h3
      · obtain ⟨a', _, r2, _⟩ := w.live n _ h1
        exact okO_rel w w2 r2 g2
      · exact fzO_rel w2 h3 g2
    · show (if NewA wd2 L.length L' a then H2 a else wd2.F a) = none
      rw [if_neg fN]
      refine g3 fun z => g ?_
      subst z
      rcases h3 with ⟨e1, rfl⟩ | h3
      · exact e1.symm
      · simp only [fzO, Option.some.injEq] at h3; exact h3.symm
  · obtain ⟨o, ho⟩ := w2.bor a ha
    exact ⟨o, clean_F w2 ho⟩
  · have h' : (if NewA wd2 L.length L' a then H2 a else wd2.F a) = some o := h
    split at h'
    · rename_i hN
      obtain ⟨k, _, ⟨ds, hk⟩, ek⟩ := hN
      obtain ⟨a', g1, ⟨xs, g2, _⟩, _⟩ := w2.live k _ hk
      rw [ek] at g1; cases g1
      rw [g2] at h'; cases h'
      exact .inl ⟨xs, rfl⟩
    · exact w2.seq _ _ h'
end
end MP
set_option maxHeartbeats 4000000
/-! MP: rules for expressions -/
namespace MP
open PySem PySem.Spec PyProof.Rows L2

structure Gd (G : Gv) (X : Cx) : Prop where
  K : X.K = G.K
  calm : X.calm = true
  gu : X.A.guards = some []
  un : X.A.units + 65 < cLine
  nd : X.N.Nodup
  sm : SmK X.K

theorem peImp {X : Cx} {e : Expr} {t t' : TE} (h : PE X e t) (i : ∀ σ H Q, t' σ H Q → t σ H Q) : PE X e t' := ⟨fun pins s σ H Q I q => h.run pins s σ H Q I (i σ H Q q)⟩
theorem ptImp {X : Cx} {e : Expr} {t t' : TT} (h : PT X e t) (i : ∀ σ H Q, t' σ H Q → t σ H Q) : PT X e t' := ⟨fun pins s σ H Q I q => h.run pins s σ H Q I (i σ H Q q)⟩
section
variable {G : Gv} {X : Cx} {W : WX} {a b c e : Expr} {es : List Expr} {ma mb mc : Ev → Live → Res D} {ms : Ev → Live → Res (List D)} {ta tb : Ev → Live → Res Bool} {pos p2 : Pos}

theorem opt_run {wd : Wd} {σ : L2.St} {o : Option (D × Live)} {Q : VK} (h : Run (G := G) (RelD G) W σ wd (opt o) Q) : ∃ d L', o = some (d, L') ∧ End G wd d L' Q := by
  cases o with
  | none => exact False.elim h
  | some p => exact ⟨p.1, p.2, rfl, h⟩
theorem optV_run {α β β' : Type} {rel : Wd → β → β' → Prop} {wd : Wd} {σ : L2.St} {o : Option α} {L : Live} {f : α → Live → Res β'} {Q : β → Hp → Prop} (h : Run (G := G) rel W σ wd ((optV o L).bind f) Q) : ∃ d, o = some d ∧ Run (G := G) rel W σ wd (f d L) Q := by
  cases o with
  | none => exact False.elim h
  | some p => exact ⟨p, rfl, h⟩
theorem optV_run' {β β' : Type} {rel : Wd → β → β' → Prop} {wd : Wd} {σ : L2.St} {o : Option β'} {L : Live} {Q : β → Hp → Prop} (h : Run (G := G) rel W σ wd (optV o L) Q) : ∃ d, o = some d ∧ Run (G := G) rel W σ wd (.ok d L) Q := by
  cases o with
  | none => exact False.elim h
  | some p => exact ⟨p, rfl, h⟩
theorem Run.now {α β : Type} {rel : Wd → β → α → Prop} {wd : Wd} {σ : L2.St} {d : α} {L : Live} {Q : β → Hp → Prop} {H : Hp} {v : β} (h : Run (G := G) rel W σ wd (.ok d L) Q) (w : WOk (G := G) wd H L) (r : rel wd v d) : Q v H := h wd H v (Ext.refl _) w r

/-! ### names, constants -/
theorem me_var {i : Nat} {x : Str} (hN : X.N[i]? = some x) (hv : Vis X.env.scope x) (hd : (x == ("__debug__" : Str)) = false) (hcd : (x == ("__classdict__" : Str)) = false) :
    PE X (.Name x pos) (tE G W fun E L => match E[i]? with | some (some d) => .ok d L | _ => .stuck) :=
  peImp (pe_var hN hv hd hcd) fun σ H Q ⟨wd, E, L, rs, w, run⟩ => by
    dsimp only at run
    cases q : E[i]? with
    | none => rw [q] at run; exact False.elim run
    | some o =>
      rw [q] at run
      cases o with
      | none => exact False.elim run
      | some d =>
        obtain ⟨v, h1, h2⟩ := rs.2 i d q
        exact ⟨v, h1, run.now w h2⟩
theorem me_con {v : V} {d : D} (h : PE X e (tC v)) (r : ∀ wd, RelD G wd v d) : PE X e (tE G W fun _ L => .ok d L) :=
  peImp h fun σ H Q ⟨wd, E, L, rs, w, run⟩ => run.now w (r wd)

/-! ### operators -/
theorem me_op (g : Gd G X) (o : Bop) (lv : Bool) (ha : PE X a (tE G W ma)) (hb : PE X b (tE G W mb)) :
    PE X (.BinOp a (bopM o) b pos) (tE G W fun E L => (ma E L).bind fun x L1 => (mb E L1).bind fun y L2 => opt (binD o lv x y L2)) :=
  peImp (pe_op (op_ok g.K o lv) ha hb) fun σ H Q ⟨wd, E, L, rs, w, run⟩ => ⟨wd, E, L, rs, w, run.bind.imp fun v H1 ⟨wd1, d1, L1, e1, w1, r1, run1⟩ => ⟨wd1, E, L1, rs.ext e1, w1, run1.bind.imp fun u H2 ⟨wd2, d2, L2, e2, w2, r2, run2⟩ => by
    obtain ⟨d, L', h1, h2⟩ := opt_run run2
    exact ⟨wd2, d1, d2, L2, d, L', w2, r1.ext G e2, r2, h1, h2⟩⟩⟩
theorem me_neg (ha : PE X a (tE G W ma)) : PE X (.UnaryOp .USub a pos) (tE G W fun E L => (ma E L).bind fun x L1 => match x with | .int i => .ok (.int (-i)) L1 | _ => .stuck) :=
  peImp (pe_un un_neg ha) fun σ H Q ⟨wd, E, L, rs, w, run⟩ => ⟨wd, E, L, rs, w, run.bind.imp fun v H1 ⟨wd1, d1, L1, e1, w1, r1, run1⟩ => by
    cases d1 with
    | int i =>
      simp only [RelD] at r1; subst r1
      exact ⟨i, rfl, run1.now w1 (by simp [RelD])⟩
    | _ => exact False.elim run1⟩
theorem me_cmp (g : Gd G X) (o : Cop) (ha : PE X a (tE G W ma)) (hb : PE X b (tE G W mb)) (hm : behindInMarks (copM o) b = false) :
    PE X (.Compare a [copM o] [b] pos) (tE G W fun E L => (ma E L).bind fun x L1 => (mb E L1).bind fun y L2 => (optV (cmpD o x y L2) L2).bind fun k L3 => .ok (.bl k) L3) :=
  peImp (pe_cmpR (cmp_ok g.K g.un o) ha hb hm) fun σ H Q ⟨wd, E, L, rs, w, run⟩ => ⟨wd, E, L, rs, w, run.bind.imp fun v H1 ⟨wd1, d1, L1, e1, w1, r1, run1⟩ => ⟨wd1, E, L1, rs.ext e1, w1, run1.bind.imp fun u H2 ⟨wd2, d2, L2, e2, w2, r2, run2⟩ => by
    obtain ⟨k, h1, h2⟩ := optV_run run2
    exact ⟨wd2, d1, d2, L2, k, w2, r1.ext G e2, r2, h1, h2.now w2 (by simp [RelD])⟩⟩⟩
theorem mt_cmp (g : Gd G X) (o : Cop) (ha : PE X a (tE G W ma)) (hb : PE X b (tE G W mb)) (hm : behindInMarks (copM o) b = false) :
    PT X (.Compare a [copM o] [b] pos) (tT G W fun E L => (ma E L).bind fun x L1 => (mb E L1).bind fun y L2 => optV (cmpD o x y L2) L2) :=
  ptImp (pt_cmpR (cmp_ok g.K g.un o) ha hb hm) fun σ H Q ⟨wd, E, L, rs, w, run⟩ => ⟨wd, E, L, rs, w, run.bind.imp fun v H1 ⟨wd1, d1, L1, e1, w1, r1, run1⟩ => ⟨wd1, E, L1, rs.ext e1, w1, run1.bind.imp fun u H2 ⟨wd2, d2, L2, e2, w2, r2, run2⟩ => by
    obtain ⟨k, h1, h2⟩ := optV_run' run2
    exact ⟨wd2, d1, d2, L2, k, w2, r1.ext G e2, r2, h1, k, rfl, h2.now w2 rfl⟩⟩⟩
theorem me_chn (g : Gd G X) (o o' : Cop) (ha : PE X a (tE G W ma)) (hb : PE X b (tE G W mb)) (hc : PE X c (tE G W mc)) (hm : lastMarks [copM o, copM o'] [b, c] = false) :
    PE X (.Compare a [copM o, copM o'] [b, c] pos) (tE G W fun E L => (ma E L).bind fun x L1 => (mb E L1).bind fun y L2 => (optV (cmpD o x y L2) L2).bind fun k L3 =>
      if k then (mc E L3).bind fun z L4 => (optV (cmpD o' y z L4) L4).bind fun b L5 => .ok (.bl b) L5 else .ok (.bl false) L3) :=
  peImp (pe_chain (cmp_ok g.K g.un o) (cmp_ok g.K g.un o') ha hb hc hm) fun σ H Q ⟨wd, E, L, rs, w, run⟩ => ⟨wd, E, L, rs, w, run.bind.imp fun v H1 ⟨wd1, d1, L1, e1, w1, r1, run1⟩ => ⟨wd1, E, L1, rs.ext e1, w1, run1.bind.imp fun u H2 ⟨wd2, d2, L2, e2, w2, r2, run2⟩ => by
    obtain ⟨k, h1, h2⟩ := optV_run run2
    refine ⟨wd2, d1, d2, L2, k, w2, r1.ext G e2, r2, h1, k, rfl, ?_⟩
    cases k with
    | false => exact h2.now w2 (by simp [RelD])
    | true =>
      simp only [if_true] at h2
      rw [if_pos rfl]
      refine ⟨wd2, E, L2, (rs.ext e1).ext e2, w2, h2.bind.imp fun z H3 ⟨wd3, d3, L3, e3, w3, r3, run3⟩ => ?_⟩
      obtain ⟨k2, h3, h4⟩ := optV_run run3
      exact ⟨wd3, d2, d3, L3, k2, w3, r2.ext G e3, r3, h3, h4.now w3 (by simp [RelD])⟩⟩⟩
theorem mt_chn (g : Gd G X) (o o' : Cop) (ha : PE X a (tE G W ma)) (hb : PE X b (tE G W mb)) (hc : PE X c (tE G W mc)) (hm : lastMarks [copM o, copM o'] [b, c] = false) :
    PT X (.Compare a [copM o, copM o'] [b, c] pos) (tT G W fun E L => (ma E L).bind fun x L1 => (mb E L1).bind fun y L2 => (optV (cmpD o x y L2) L2).bind fun k L3 =>
      if k then (mc E L3).bind fun z L4 => optV (cmpD o' y z L4) L4 else .ok false L3) :=
  ptImp (pt_chain (cmp_ok g.K g.un o) (cmp_ok g.K g.un o') ha hb hc hm) fun σ H Q ⟨wd, E, L, rs, w, run⟩ => ⟨wd, E, L, rs, w, run.bind.imp fun v H1 ⟨wd1, d1, L1, e1, w1, r1, run1⟩ => ⟨wd1, E, L1, rs.ext e1, w1, run1.bind.imp fun u H2 ⟨wd2, d2, L2, e2, w2, r2, run2⟩ => by
    obtain ⟨k, h1, h2⟩ := optV_run run2
    refine ⟨wd2, d1, d2, L2, k, w2, r1.ext G e2, r2, h1, k, rfl, ?_⟩
    cases k with
    | false => exact ⟨false, rfl, h2.now w2 rfl⟩
    | true =>
      simp only [if_true] at h2
      rw [if_pos rfl]
      refine ⟨wd2, E, L2, (rs.ext e1).ext e2, w2, h2.bind.imp fun z H3 ⟨wd3, d3, L3, e3, w3, r3, run3⟩ => ?_⟩
      obtain ⟨k2, h3, h4⟩ := optV_run' run3
      exact ⟨wd3, d2, d3, L3, k2, w3, r2.ext G e3, r3, h3, k2, rfl, h4.now w3 rfl⟩⟩⟩

/-! ### tests -/
def tst (m : Ev → Live → Res D) : Ev → Live → Res Bool := fun E L => (m E L).bind fun x L1 => optV (truD L1 x) L1
theorem mt_truth (g : Gd G X) (ha : PE X a (tE G W ma)) (he : ∀ whole, isTrue a X.env whole = (do let v ← whole; standAt a.pos; holding [v] (truthy v))) : PT X a (tT G W (tst ma)) :=
  ptImp (pt_truth ha he) fun σ H Q ⟨wd, E, L, rs, w, run⟩ => ⟨wd, E, L, rs, w, Run.imp (Run.bind run) fun v H1 ⟨wd1, d1, L1, e1, w1, r1, run1⟩ => by
    obtain ⟨k, h1, h2⟩ := optV_run' run1
    exact ⟨k, tru_of g.K w1 r1 h1, h2.now w1 rfl⟩⟩
theorem mt_not (ha : PT X a (tT G W ta)) : PT X (.UnaryOp .Not a pos) (tT G W fun E L => (ta E L).bind fun k L1 => .ok (!k) L1) :=
  ptImp (pt_not ha) fun σ H Q ⟨wd, E, L, rs, w, run⟩ => ⟨wd, E, L, rs, w, run.bind.imp fun v H1 ⟨wd1, d1, L1, e1, w1, r1, run1⟩ => by
    cases r1; exact run1.now w1 rfl⟩
theorem mt_and (ha : PT X a (tT G W ta)) (hb : PW X (.BoolOp .And (b :: es) pos) (tT G W tb)) : PW X (.BoolOp .And (a :: b :: es) pos) (tT G W fun E L => (ta E L).bind fun k L1 => if k then tb E L1 else .ok false L1) := by
  have h := pw_and ha hb
  refine ⟨fun wh pins s σ H Q I ⟨wd, E, L, rs, w, run⟩ => h.run wh pins s σ H Q I ⟨wd, E, L, rs, w, run.bind.imp fun v H1 ⟨wd1, d1, L1, e1, w1, r1, run1⟩ => ?_⟩⟩
  cases r1
  cases v with
  | true => exact ⟨wd1, E, L1, rs.ext e1, w1, run1⟩
  | false => exact run1.now w1 rfl
theorem mt_or (ha : PT X a (tT G W ta)) (hb : PW X (.BoolOp .Or (b :: es) pos) (tT G W tb)) : PW X (.BoolOp .Or (a :: b :: es) pos) (tT G W fun E L => (ta E L).bind fun k L1 => if k then .ok true L1 else tb E L1) := by
  have h := pw_or ha hb
  refine ⟨fun wh pins s σ H Q I ⟨wd, E, L, rs, w, run⟩ => h.run wh pins s σ H Q I ⟨wd, E, L, rs, w, run.bind.imp fun v H1 ⟨wd1, d1, L1, e1, w1, r1, run1⟩ => ?_⟩⟩
  cases r1
  cases v with
  | true => exact run1.now w1 rfl
  | false => exact ⟨wd1, E, L1, rs.ext e1, w1, run1⟩
/-- a if t else b as a test -/
theorem mt_ite {tc : Ev → Live → Res Bool} (hc : PT X c (tT G W tc)) (ha : PT X a (tT G W ta)) (hb : PT X b (tT G W tb)) : PT X (.IfExp c a b pos) (tT G W fun E L => (tc E L).bind fun k L1 => if k then ta E L1 else tb E L1) := by
  refine ⟨fun pins s σ H Q I ⟨wd, E, L, rs, w, run⟩ => ?_⟩
  show wpAny _ _ (do if ← isTrue c X.env (eval c X.env) then isTrue a X.env (eval a X.env) else isTrue b X.env (eval b X.env)) _ _ s
  refine wpAny_bind (thn (hc.run pins s σ H _ I ⟨wd, E, L, rs, w, run.bind⟩) fun k s1 ⟨H1, I1, wd1, d1, L1, e1, w1, r1, run1⟩ => ?_)
  cases r1
  cases k with
  | true => exact ha.run pins s1 σ H1 Q I1 ⟨wd1, E, L1, rs.ext e1, w1, run1⟩
  | false => exact hb.run pins s1 σ H1 Q I1 ⟨wd1, E, L1, rs.ext e1, w1, run1⟩
theorem me_not (g : Gd G X) (ha : PE X a (tE G W ma)) : PE X (.UnaryOp .Not a pos) (tE G W fun E L => (ma E L).bind fun x L1 => (optV (truD L1 x) L1).bind fun k L2 => .ok (.bl (!k)) L2) := by
  refine ⟨fun pins s σ H Q I ⟨wd, E, L, rs, w, run⟩ => ?_⟩
  refine UnaryOp_ (thn (ha.run pins s σ H _ I ⟨wd, E, L, rs, w, run.bind⟩) fun v s1 ⟨x, H1, I1, rx, wd1, d1, L1, e1, w1, r1, run1⟩ => ?_)
  obtain ⟨k, h1, h2⟩ := optV_run run1
  exact not_of (thn (tru_ok pins s1 σ H1 x v (fun k' H' => k' = k ∧ H' = H1) I1 rx ⟨k, tru_of g.K w1 r1 h1, rfl, rfl⟩) fun k' s2 ⟨H2, I2, ek, eH⟩ => by
    subst ek eH
    exact ⟨.bl (!k'), _, I2, rfl, h2.now w1 (by simp [RelD])⟩)
theorem me_and (g : Gd G X) (ha : PE X a (tE G W ma)) (hb : PE X (.BoolOp .And (b :: es) pos) (tE G W mb)) :
    PE X (.BoolOp .And (a :: b :: es) pos) (tE G W fun E L => (ma E L).bind fun x L1 => (optV (truD L1 x) L1).bind fun k L2 => if k then mb E L2 else .ok x L2) := by
  refine ⟨fun pins s σ H Q I ⟨wd, E, L, rs, w, run⟩ => ?_⟩
  refine BoolOp_and (thn (ha.run pins s σ H _ I ⟨wd, E, L, rs, w, run.bind⟩) fun v s1 ⟨x, H1, I1, rx, wd1, d1, L1, e1, w1, r1, run1⟩ => ?_)
  obtain ⟨k, h1, h2⟩ := optV_run run1
  refine thn (tru_ok pins s1 σ H1 x v (fun k' H' => k' = k ∧ H' = H1) I1 rx ⟨k, tru_of g.K w1 r1 h1, rfl, rfl⟩) fun k' s2 ⟨H2, I2, ek, eH⟩ => ?_
  subst ek eH
  cases k' with
  | true => exact hb.run pins s2 σ _ Q I2 ⟨wd1, E, L1, rs.ext e1, w1, h2⟩
  | false => exact ⟨x, _, I2, rx, h2.now w1 r1⟩
theorem me_or (g : Gd G X) (ha : PE X a (tE G W ma)) (hb : PE X (.BoolOp .Or (b :: es) pos) (tE G W mb)) :
    PE X (.BoolOp .Or (a :: b :: es) pos) (tE G W fun E L => (ma E L).bind fun x L1 => (optV (truD L1 x) L1).bind fun k L2 => if k then .ok x L2 else mb E L2) := by
  refine ⟨fun pins s σ H Q I ⟨wd, E, L, rs, w, run⟩ => ?_⟩
  refine BoolOp_or (thn (ha.run pins s σ H _ I ⟨wd, E, L, rs, w, run.bind⟩) fun v s1 ⟨x, H1, I1, rx, wd1, d1, L1, e1, w1, r1, run1⟩ => ?_)
  obtain ⟨k, h1, h2⟩ := optV_run run1
  refine thn (tru_ok pins s1 σ H1 x v (fun k' H' => k' = k ∧ H' = H1) I1 rx ⟨k, tru_of g.K w1 r1 h1, rfl, rfl⟩) fun k' s2 ⟨H2, I2, ek, eH⟩ => ?_
  subst ek eH
  cases k' with
  | true => exact ⟨x, _, I2, rx, h2.now w1 r1⟩
  | false => exact hb.run pins s2 σ _ Q I2 ⟨wd1, E, L1, rs.ext e1, w1, h2⟩
theorem me_ite {tc : Ev → Live → Res Bool} (hc : PT X c (tT G W tc)) (ha : PE X a (tE G W ma)) (hb : PE X b (tE G W mb)) : PE X (.IfExp c a b pos) (tE G W fun E L => (tc E L).bind fun k L1 => if k then ma E L1 else mb E L1) :=
  peImp (pe_ifExp hc ha hb) fun σ H Q ⟨wd, E, L, rs, w, run⟩ => ⟨wd, E, L, rs, w, run.bind.imp fun v H1 ⟨wd1, d1, L1, e1, w1, r1, run1⟩ => by
    cases r1
    cases v with
    | true => exact ⟨wd1, E, L1, rs.ext e1, w1, run1⟩
    | false => exact ⟨wd1, E, L1, rs.ext e1, w1, run1⟩⟩

/-! ### argument lists, displays -/
theorem ma_nil : PA X [] (tA G W fun _ L => .ok [] L) := by
  refine ⟨fun pos pins s σ H Q I ⟨wd, E, L, rs, w, run⟩ => pa_nil.run pos pins s σ H Q I ?_⟩
  exact run.now w RelDs.nil
theorem ma_cons (ha : PE X a (tE G W ma)) (hr : PA X es (tA G W ms)) (hs : starEach (a :: es) X.env = (false, eval a X.env) :: starEach es X.env) :
    PA X (a :: es) (tA G W fun E L => (ma E L).bind fun x L1 => (ms E L1).bind fun xs L2 => .ok (x :: xs) L2) := by
  have h := pa_cons ha hr hs
  refine ⟨fun pos pins s σ H Q I ⟨wd, E, L, rs, w, run⟩ => h.run pos pins s σ H Q I ⟨wd, E, L, rs, w, run.bind.imp fun v H1 ⟨wd1, d1, L1, e1, w1, r1, run1⟩ => ⟨wd1, E, L1, rs.ext e1, w1, run1.bind.imp fun u H2 ⟨wd2, d2, L2, e2, w2, r2, run2⟩ => ?_⟩⟩⟩
  exact run2.now w2 (RelDs.cons (r1.ext G e2) r2)
theorem me_tup {k : Nat} (h : PA X es (tA G W ms)) : PE X (.Tuple es k pos) (tE G W fun E L => (ms E L).bind fun ds L1 => if sizeOk ds.length then .ok (.tup ds) L1 else .stuck) :=
  peImp (pe_tup h) fun σ H Q ⟨wd, E, L, rs, w, run⟩ => ⟨wd, E, L, rs, w, run.bind.imp fun vs H1 ⟨wd1, ds, L1, e1, w1, r1, run1⟩ => by
    split at run1
    · rename_i hz
      have len := RelDs.length r1
      refine ⟨by rw [len]; exact of_decide_eq_true hz, fun p hp => new_tup w1 r1 hp fun wd' H' v e' w' r' => run1 wd' H' v e' w' r'⟩
    · exact False.elim run1⟩
theorem me_lst (lv : Bool) (h : PA X es (tA G W ms)) : PE X (.List es pos) (tE G W fun E L => (ms E L).bind fun ds L1 => if sizeOk ds.length then opt (some (newL lv ds L1)) else .stuck) :=
  peImp (pe_lst h) fun σ H Q ⟨wd, E, L, rs, w, run⟩ => ⟨wd, E, L, rs, w, run.bind.imp fun vs H1 ⟨wd1, ds, L1, e1, w1, r1, run1⟩ => by
    split at run1
    · rename_i hz
      have len := RelDs.length r1
      refine ⟨by rw [len]; exact of_decide_eq_true hz, fun p hp => new_list (lv := lv) w1 r1 hp run1⟩
    · exact False.elim run1⟩

/-! ### subscripts, slices -/
theorem me_ix (g : Gd G X) (ha : PE X a (tE G W ma)) (hb : PE X b (tE G W mb)) (hs : PlainIx b) : PE X (.Subscript a b pos) (tE G W fun E L => (ma E L).bind fun x L1 => (mb E L1).bind fun y L2 => optV (idxD x y L2) L2) :=
  peImp (pe_ix (ix_ok g.K (by have := g.un; omega)) ha hb hs) fun σ H Q ⟨wd, E, L, rs, w, run⟩ => ⟨wd, E, L, rs, w, run.bind.imp fun v H1 ⟨wd1, d1, L1, e1, w1, r1, run1⟩ => ⟨wd1, E, L1, rs.ext e1, w1, run1.bind.imp fun u H2 ⟨wd2, d2, L2, e2, w2, r2, run2⟩ => by
    obtain ⟨d, h1, h2⟩ := optV_run' run2
    exact ⟨wd2, d1, d2, L2, d, w2, r1.ext G e2, r2, h1, fun v hv => h2.now w2 hv⟩⟩⟩
def mPart (m : Option (Ev → Live → Res D)) (E : Ev) (L : Live) : Res (Option Int) := match m with
  | none => .ok none L
  | some m => (m E L).bind fun l L1 => optV (part l) L1
def RelP (_ : Wd) (v d : Option Int) : Prop := v = d
def tO (G : Gv) (W : WX) (m : Ev → Live → Res (Option Int)) : TO := fun σ H Q => ∃ wd E L, RelSt (G := G) wd σ E ∧ WOk (G := G) wd H L ∧ Run (G := G) RelP W σ wd (m E L) Q
theorem mo_none : PO X none (tO G W (mPart none)) := ⟨fun pins s σ H Q I ⟨wd, E, L, rs, w, run⟩ => po_none.run pins s σ H Q I (Run.now (rel := RelP) run w rfl)⟩
theorem mo_some (ha : PE X a (tE G W ma)) : PO X (some a) (tO G W (mPart (some ma))) :=
  ⟨fun pins s σ H Q I ⟨wd, E, L, rs, w, run⟩ => (po_some ha).run pins s σ H Q I ⟨wd, E, L, rs, w, Run.imp (Run.bind run) fun v H1 ⟨wd1, d1, L1, e1, w1, r1, run1⟩ => by
    obtain ⟨d, h1, h2⟩ := optV_run' run1
    cases d1 with
    | int i =>
      simp only [part, Option.some.injEq] at h1
      subst h1
      simp only [RelD] at r1
      exact ⟨i, r1, Run.now (rel := RelP) h2 w1 rfl⟩
    | _ => simp [part] at h1⟩⟩
theorem me_slc (g : Gd G X) (lv : Bool) {lo hi : Option Expr} {ml mh : Ev → Live → Res (Option Int)} (ha : PE X a (tE G W ma)) (hl : PO X lo (tO G W ml)) (hh : PO X hi (tO G W mh)) :
    PE X (.Subscript a (.Slice lo hi none p2) pos) (tE G W fun E L => (ma E L).bind fun x L1 => (ml E L1).bind fun l L2 => (mh E L2).bind fun h L3 => opt (slcP lv x l h L3)) :=
  peImp (pe_slice (sl_ok g.K lv) ha hl hh) fun σ H Q ⟨wd, E, L, rs, w, run⟩ => ⟨wd, E, L, rs, w, run.bind.imp fun v H1 ⟨wd1, d1, L1, e1, w1, r1, run1⟩ => ⟨wd1, E, L1, rs.ext e1, w1, run1.bind.imp fun l H2 ⟨wd2, l2, L2, e2, w2, r2, run2⟩ =>
    ⟨wd2, E, L2, (rs.ext e1).ext e2, w2, run2.bind.imp fun h H3 ⟨wd3, h3, L3, e3, w3, r3, run3⟩ => by
      cases r2
      cases r3
      obtain ⟨d, L', q1, q2⟩ := opt_run run3
      exact ⟨wd3, d1, L3, d, L', w3, (r1.ext G e2).ext G e3, q1, q2⟩⟩⟩⟩

/-! ### calls of built-ins -/
theorem me_blt (g : Gd G X) (bl : Blt) (lv : Bool) {x : Str} {p : Pos} (hx : Gl X x) (hm : X.mg x = none) (hv : bootBuiltins x = some (bltV bl)) (ha : PA X (e :: es) (tA G W ms)) (hn : x ≠ "__name__") (hdb : (x == ("__debug__" : Str)) = false)
    (he : starEach (e :: es) X.env = (false, eval e X.env) :: starEach es X.env) (hpl : (backTo pos (starEach es X.env)).any (·.1) = false) :
    PE X (.Call (.Name x p) (e :: es) [] pos) (tE G W fun E L => (ms E L).bind fun ds L1 => opt (bltD bl lv ds L1)) := by
  have hc := blt_ok (X := X) g.sm g.K g.gu (by have := g.un; omega) g.calm bl lv
  have key : PE X (.Call (.Name x p) (e :: es) [] pos) (tCB (rL G (bltD bl lv)) (tA G W ms)) := by
    cases bl <;> first
      | exact pe_callB hc hx hm hv ha hn hdb he hpl
      | exact pe_callTy hc hx hm hv ha hn hdb he hpl
  exact peImp key fun σ H Q ⟨wd, E, L, rs, w, run⟩ => ⟨wd, E, L, rs, w, run.bind.imp fun vs H1 ⟨wd1, ds, L1, e1, w1, r1, run1⟩ => by
    obtain ⟨d, L', h1, h2⟩ := opt_run run1
    exact ⟨wd1, ds, L1, d, L', w1, r1, h1, h2⟩⟩

/-! ### isinstance -/
abbrev tyN : Ty → String | .int => "int" | .bool => "bool" | .str => "str" | .list => "list" | .tuple => "tuple" | .dict => "dict"
theorem isi_of {wd : Wd} {x : V} {d : D} {L : Live} {H : Hp} {t : Ty} {k : Bool} {K : PySem.W.Frag} (hK : K = G.K) (w : WOk (G := G) wd H L) (r : RelD G wd x d) (h : isiD L d t = some k) : ∃ s, TyX K H x (.type s) ∧ kitB s (tyN t) = some k := by
  subst hK
  cases d with
  | non => simp only [RelD] at r; subst r; refine ⟨_, .base .non, ?_⟩; simp only [isiD, Option.some.injEq] at h; subst h; cases t <;> decide +kernel
  | bl b => simp only [RelD] at r; subst r; refine ⟨_, .base (.bl b), ?_⟩; simp only [isiD, Option.some.injEq] at h; subst h; cases t <;> decide +kernel
  | int i => simp only [RelD] at r; subst r; refine ⟨_, .base (.int i), ?_⟩; simp only [isiD, Option.some.injEq] at h; subst h; cases t <;> decide +kernel
  | str i => simp only [RelD] at r; subst r; refine ⟨_, .base (.str i), ?_⟩; simp only [isiD, Option.some.injEq] at h; subst h; cases t <;> decide +kernel
  | tup ds =>
    obtain ⟨a, xs, rfl, hx, _⟩ := rd_tup w r
    refine ⟨"tuple", ?_, ?_⟩
    · rcases hx with (hx | ⟨o, hx⟩) | ⟨o, its, n, h1, h2, _⟩
      · exact .base (.tup hx)
      · exact .fTuple hx
      · exact .kTuple h1 h2
    · simp only [isiD, Option.some.injEq] at h; subst h; cases t <;> decide +kernel
  | lst u ds =>
    obtain ⟨a, xs, rfl, hx, _⟩ := rd_list w r (ds := ds) rfl
    refine ⟨"list", ?_, ?_⟩
    · rcases hx with hx | ⟨o, hx⟩
      · exact .base (.lst hx)
      · exact .base (.frz hx)
    · simp only [isiD, Option.some.injEq] at h; subst h; cases t <;> decide +kernel
  | dct ks ds =>
    simp only [RelD] at r
    obtain ⟨a, ys, rfl, hx, _⟩ := r
    refine ⟨"dict", .base (.dK (w.sub _ _ hx)), ?_⟩
    simp only [isiD, Option.some.injEq] at h; subst h; cases t <;> decide +kernel
  | ref n =>
    simp only [isiD] at h
    cases q : L[n]? with
    | none => rw [q] at h; cases h
    | some o =>
      rw [q] at h
      obtain ⟨a, rfl, ha, ho, _⟩ := rd_ref w r q
      cases o with
      | lst ds =>
        obtain ⟨xs, hx, _⟩ := ho
        simp only [Option.some.injEq] at h; subst h
        exact ⟨"list", .base (.lst hx), by cases t <;> decide +kernel⟩
      | dic kvs =>
        obtain ⟨xs, hx, _⟩ := ho
        simp only [Option.some.injEq] at h; subst h
        exact ⟨"dict", .base (.dK hx), by cases t <;> decide +kernel⟩
      | _ => simp at h
theorem boot_ty (t : Ty) : bootBuiltins (Str.ofString (tyN t)) = some (.type (tyN t)) := by cases t <;> decide +kernel
theorem me_isi (g : Gd G X) (t : Ty) {p p3 : Pos} (hx : Gl X "isinstance") (hm : X.mg "isinstance" = none) (hx2 : Gl X (Str.ofString (tyN t))) (hm2 : X.mg (Str.ofString (tyN t)) = none) (ha : PE X a (tE G W ma))
    (he : starEach [a, .Name (Str.ofString (tyN t)) p3] X.env = (false, eval a X.env) :: starEach [.Name (Str.ofString (tyN t)) p3] X.env) :
    PE X (.Call (.Name "isinstance" p) [a, .Name (Str.ofString (tyN t)) p3] [] pos) (tE G W fun E L => (ma E L).bind fun x L1 => (optV (isiD L1 x t) L1).bind fun k L2 => .ok (.bl k) L2) := by
  have pn : PE X (.Name (Str.ofString (tyN t)) p3) (tC (.ty (tyN t))) := pe_bltn hx2 hm2 (boot_ty t) rfl (by cases t <;> decide) (by cases t <;> decide)
  have key := pe_callB (pos := pos) (p := p) call_isi hx hm (by decide +kernel) (pa_cons ha (pa_cons pn pa_nil rfl) he) (by decide) (by decide) he rfl
  exact peImp key fun σ H Q ⟨wd, E, L, rs, w, run⟩ => ⟨wd, E, L, rs, w, run.bind.imp fun v H1 ⟨wd1, d1, L1, e1, w1, r1, run1⟩ => by
    obtain ⟨k, h1, h2⟩ := optV_run run1
    obtain ⟨s, h3, h4⟩ := isi_of g.K w1 r1 h1
    exact ⟨v, .ty (tyN t), .type s, .type (tyN t), k, rfl, .ty _, h3, kit_ty h4, h2.now w1 (by simp [RelD])⟩⟩

/-! ### methods of built-in types -/
theorem md_list (m : Mth) : typeOf (.builtin ("list." ++ mthN m)) = pure (.type "method_descriptor") ∨ mthD m (.ref 0) [] [] = none := by
  cases m <;> first | exact .inl rfl | exact .inr rfl
end
end MP
set_option maxHeartbeats 4000000
/-! MP: methods, item stores, targets, what is walked -/
namespace MP
open PySem PySem.Spec PyProof.Rows L2
section
variable {G : Gv} {X : Cx} {W : WX} {a b c e o : Expr} {es : List Expr} {ma mb mc mo : Ev → Live → Res D} {ms : Ev → Live → Res (List D)} {pos p2 apos cpos : Pos}

/-! ### methods -/
abbrev mtN : MT → String | .str => "str" | .list => "list"
theorem mth_facts {m : Mth} {L : Live} {d : D} {T : MT} (h : mthTy m L d = some T) : PlainAttrs (mtN T) ∧ Slot (mtN T) (Str.ofString (mthN m)) (mtN T ++ "." ++ mthN m) ∧ typeOf (.builtin (mtN T ++ "." ++ mthN m)) = pure (.type "method_descriptor") := by
  cases d with
  | str z =>
    cases m <;> simp only [mthTy] at h <;> first | cases h | skip
    exact ⟨PySem.F.plainAttrs_str, PySem.F.slot_str_join, rfl⟩
  | ref n =>
    simp only [mthTy] at h
    cases q : L[n]? with
    | none => rw [q] at h; cases h
    | some o =>
      rw [q] at h
      cases o with
      | lst ds =>
        cases m <;> simp only at h <;> first | cases h | skip
        · exact ⟨PySem.F.plainAttrs_list, PySem.F.slot_list_append, rfl⟩
        · exact ⟨PySem.F.plainAttrs_list, PySem.F.slot_list_extend, rfl⟩
        · exact ⟨PySem.F.plainAttrs_list, PySem.F.slot_list_pop, rfl⟩
        · exact ⟨PySem.F.plainAttrs_list, PySem.F.slot_list_insert, rfl⟩
        · exact ⟨PySem.F.plainAttrs_list, PySem.F.slot_list_reverse, rfl⟩
        · exact ⟨PySem.F.plainAttrs_list, PySem.F.slot_list_remove, rfl⟩
        · exact ⟨PySem.F.plainAttrs_list, PySem.F.slot_list_clear, rfl⟩
      | _ => simp at h
  | _ => simp [mthTy] at h
theorem mth_is {m : Mth} {L : Live} {d : D} {T : MT} {wd : Wd} {H : Hp} {x : V} {K : PySem.W.Frag} (h : mthTy m L d = some T) (w : WOk (G := G) wd H L) (r : RelD G wd x d) : tyV K (mtN T) x H := by
  cases d with
  | str z =>
    simp only [RelD] at r
    subst r
    cases m <;> simp only [mthTy] at h <;> cases h
    rfl
  | ref n =>
    simp only [mthTy] at h
    cases q : L[n]? with
    | none => rw [q] at h; cases h
    | some o =>
      rw [q] at h
      obtain ⟨a, rfl, ha, ho, _⟩ := rd_ref w r q
      cases o with
      | lst ds =>
        obtain ⟨xs, hx, _⟩ := ho
        cases m <;> simp only at h <;> cases h <;> exact .inl ⟨rfl, xs, .inl (.inl hx)⟩
      | _ => simp at h
  | _ => simp [mthTy] at h
theorem mth_run (g : Gd G X) {m : Mth} {L L' : Live} {d e : D} {T : MT} {wd : Wd} {H : Hp} {x : V} {xs : List V} {ds : List D} {v : Value} {us : List Value} {pins : List (Addr × Obj)} {s : Shared} {σ : L2.St} {Q : VK} (I : Inv X pins σ H s) (rx : RelV x v) (rs : Vals xs us)
    (h : mthTy m L d = some T) (w : WOk (G := G) wd H L) (r : RelD G wd x d) (ra : RelDs G wd xs ds) (hg : mthD m d ds L = some (e, L')) (he : End G wd e L' Q) :
    wpAny (model X.prog X.w) X.A (call (.builtin (mtN T ++ "." ++ mthN m)) (v :: us)) (EP X pins σ Q) X.xe s := by
  cases d with
  | str z =>
    cases m <;> simp only [mthTy] at h <;> cases h
    exact mts_ok .join g.K I rx rs w r ra hg he
  | ref n =>
    simp only [mthTy] at h
    cases q : L[n]? with
    | none => rw [q] at h; cases h
    | some o =>
      rw [q] at h
      cases o with
      | lst ds =>
        have e1 : T = .list := by cases m <;> simp at h <;> exact h.symm
        subst e1
        exact mtl_ok m I rx rs w r q ra hg he
      | _ => simp at h
  | _ => simp [mthTy] at h
theorem me_mth0 (g : Gd G X) (m : Mth) (ho : PE X o (tE G W mo)) (hbase : attributeBase o (Str.ofString (mthN m)) X.env (eval o X.env) = eval o X.env) (hline : (apos.endLine == cpos.line) = true) :
    PE X (.Call (.Attribute o (Str.ofString (mthN m)) apos) [] [] cpos) (tE G W fun E L => (mo E L).bind fun x L1 => match mthTy m L1 x with
      | some T => (Res.ok [] L1).bind fun ds L2 => if mthTy m L2 x = some T then opt (mthD m x ds L2) else .stuck
      | none => .stuck) := by
  refine ⟨fun pins s σ H Q I ⟨wd, E, L, rs, w, run⟩ => ?_⟩
  refine wpAny_Call_method0_late hbase hline (thn (ho.run pins s σ H _ I ⟨wd, E, L, rs, w, run.bind⟩) fun v s1 ⟨x, H1, I1, rx, wd1, d1, L1, e1, w1, r1, run1⟩ => ?_)
  cases q : mthTy m L1 d1 with
  | none => rw [q] at run1; exact False.elim run1
  | some T =>
    rw [q] at run1
    obtain ⟨pa, slot, hty⟩ := mth_facts q
    obtain ⟨h1, h2⟩ := tyV_is I1 rx (mth_is (K := X.K) q w1 r1)
    simp only [Res.bind_ok, q, if_true] at run1
    obtain ⟨d, L', h3, h4⟩ := opt_run run1
    exact ⟨mtN T, mtN T ++ "." ++ mthN m, pa, slot, hty, h1, h2, Calls.callWith_builtin rfl (PySem.evalArgs_none (mth_run g I1 rx .nil q w1 r1 RelDs.nil h3 h4))⟩
theorem me_mth (g : Gd G X) (m : Mth) (ho : PE X o (tE G W mo)) (ha : PA X (e :: es) (tA G W ms)) (hbase : attributeBase o (Str.ofString (mthN m)) X.env (eval o X.env) = eval o X.env)
    (hfew : ((backTo cpos (starEach (e :: es) X.env)).all (fun x => !x.1) && (backToKw cpos (keywordEach [] X.env)).all (fun x => x.1.isSome)
      && decide ((e :: es).length + ([] : List Keyword).length + (if ([] : List Keyword).isEmpty then 0 else 1) < 30)) = true)
    (hline : (apos.endLine == cpos.line) = true) (hs : starEach (e :: es) X.env = (false, eval e X.env) :: starEach es X.env) (hplain : (backTo cpos (starEach es X.env)).any (·.1) = false) :
    PE X (.Call (.Attribute o (Str.ofString (mthN m)) apos) (e :: es) [] cpos) (tE G W fun E L => (mo E L).bind fun x L1 => match mthTy m L1 x with
      | some T => (ms E L1).bind fun ds L2 => if mthTy m L2 x = some T then opt (mthD m x ds L2) else .stuck
      | none => .stuck) := by
  refine ⟨fun pins s σ H Q I ⟨wd, E, L, rs, w, run⟩ => ?_⟩
  refine wpAny_Call_method_late hbase hfew hline rfl (thn (ho.run pins s σ H _ I ⟨wd, E, L, rs, w, run.bind⟩) fun v s1 ⟨x, H1, I1, rx, wd1, d1, L1, e1, w1, r1, run1⟩ => ?_)
  cases q : mthTy m L1 d1 with
  | none => rw [q] at run1; exact False.elim run1
  | some T =>
    rw [q] at run1
    obtain ⟨pa, slot, hty⟩ := mth_facts q
    obtain ⟨h1, h2⟩ := tyV_is I1 rx (mth_is (K := X.K) q w1 r1)
    refine ⟨mtN T, mtN T ++ "." ++ mthN m, pa, slot, hty, h1, h2, ?_⟩
    have hA := ha.run cpos pins s1 σ H1 _ I1 ⟨wd1, E, L1, rs.ext e1, w1, Run.bind run1⟩
    rw [hs] at hA ⊢
    refine Calls.callWith_builtin (by show (false || (backTo cpos (starEach es X.env)).any (·.1)) = false; rw [hplain] <;> rfl) (Calls.evalArgs_plain ?_)
    refine thn hA fun us s2 ⟨vs, H2, I2, r2, wd2, ds, L2, e2, w2, rd2, run2⟩ => ?_
    split at run2
    · rename_i hT
      obtain ⟨d, L', h3, h4⟩ := opt_run run2
      exact mth_run g I2 rx r2 hT w2 (r1.ext G e2) rd2 h3 h4
    · exact False.elim run2

/-! ### o[i] = v, del o[i] -/
theorem putK_rel {wd : Wd} {k : Key} {v : V} {d : D} (r : RelD G wd v d) : ∀ {ys : List (Key × V)} {kvs : List (Key × D)}, Paired (fun (p : Key × V) (q : Key × D) => p.1 = q.1 ∧ RelD G wd p.2 q.2) ys kvs →
    Paired (fun (p : Key × V) (q : Key × D) => p.1 = q.1 ∧ RelD G wd p.2 q.2) (putK ys k v) (putKey k d kvs) := by
  intro ys kvs h
  have e : (ys.any fun kv => decide (kv.1 = k)) = kvs.any fun kv => decide (kv.1 = k) := by
    induction h with
    | nil => rfl
    | @cons p q ps qs h t ih => rw [List.any_cons, List.any_cons, ih, h.1]
  unfold putK putKey
  rw [e]
  split
  · rename_i hc
    clear e hc
    induction h with
    | nil => exact .nil
    | @cons p q ps qs h t ih =>
      rw [List.map_cons, List.map_cons]
      refine .cons ?_ ih
      by_cases hk : q.1 = k
      · rw [if_pos hk, if_pos (h.1.trans hk)]
        exact ⟨h.1, r⟩
      · rw [if_neg hk, if_neg (fun z => hk (h.1.symm.trans z))]
        exact h
  · rename_i hc
    clear e hc
    induction h with
    | nil => exact .cons ⟨rfl, r⟩ .nil
    | @cons p q ps qs h t ih => exact .cons h ih
theorem dropK_rel {wd : Wd} {k : Key} : ∀ {ys : List (Key × V)} {kvs : List (Key × D)}, Paired (fun (p : Key × V) (q : Key × D) => p.1 = q.1 ∧ RelD G wd p.2 q.2) ys kvs →
    Paired (fun (p : Key × V) (q : Key × D) => p.1 = q.1 ∧ RelD G wd p.2 q.2) (dropK ys k) (dropKey k kvs) := by
  intro ys kvs h
  unfold dropK dropKey
  induction h with
  | nil => exact .nil
  | @cons p q ps qs h t ih =>
    rw [List.filter_cons, List.filter_cons, h.1]
    split
    · exact .cons h ih
    · exact ih

def rSet (G : Gv) : TSet := fun o i v H Q => ∃ wd od id vd L L', WOk (G := G) wd H L ∧ RelD G wd o od ∧ RelD G wd i id ∧ RelD G wd v vd ∧ setD od id vd L = some L' ∧ ∀ wd' H', Ext wd wd' → WOk (G := G) wd' H' L' → Q H'
theorem set_ok (g : Gd G X) : PSet X (rSet G) := by
  intro pins s σ H o i v ov iv u Q I ro ri rv h
  obtain ⟨wd, od, id, vd, L, L', w, ho, hi, hv, hg, q⟩ := h
  cases od with
  | ref n =>
    simp only [setD] at hg
    cases q1 : L[n]? with
    | none => rw [q1] at hg; cases hg
    | some lo =>
      rw [q1] at hg
      obtain ⟨a, rfl, ha, hx, _⟩ := rd_ref w ho q1
      cases lo with
      | lst ds =>
        obtain ⟨ys, hy, ry⟩ := hx
        cases id with
        | int k =>
          simp only [Option.map_eq_some_iff] at hg
          obtain ⟨j, hj, rfl⟩ := hg
          simp only [RelD] at hi
          subst hi
          have len := RelDs.length ry
          refine set_list pins s σ H _ _ v ov iv u Q I ro ri rv ⟨a, ys, k, j, rfl, rfl, hy, by rw [len]; exact hj, ?_⟩
          exact q wd _ (Ext.refl _) (w.write q1 (by simp) ha (fun y z => by rw [hy] at z; cases z) ⟨_, upd_same, RelDs.set hv j ry⟩)
        | _ => simp at hg
      | dic kvs =>
        obtain ⟨ys, hy, ry⟩ := hx
        simp only at hg
        cases q2 : keyOf id with
        | none => rw [q2] at hg; cases hg
        | some k =>
          rw [q2] at hg
          simp only at hg
          split at hg
          · rename_i hz
            simp only [Option.some.injEq] at hg
            subst hg
            have hz' := of_decide_eq_true hz
            cases ro
            have ek := key_of hi q2
            subst ek
            have len : ys.length = kvs.length := ry.length
            refine d_setItem (by have := g.un; omega) I (DPut.k hy (by omega)) ri rv fun s' I' => ⟨_, I', ?_⟩
            exact q wd _ (Ext.refl _) (w.write q1 (by simp) ha (fun y z => by rw [hy] at z; cases z) ⟨_, upd_same, putK_rel hv ry⟩)
          · cases hg
      | _ => simp at hg
  | _ => simp [setD] at hg
theorem del_ok {pins : List (Addr × Obj)} {s : Shared} {σ : L2.St} {H : Hp} {o i : V} {ov iv : Value} {wd : Wd} {od id : D} {L L' : Live} {Q : Unit → Shared → Prop} {E : Value → Shared → Prop} (I : Inv X pins σ H s) (ro : RelV o ov) (ri : RelV i iv) (w : WOk (G := G) wd H L) (ho : RelD G wd o od) (hi : RelD G wd i id)
    (hg : delD od id L = some L') (q : ∀ H' s', Inv X pins σ H' s' → WOk (G := G) wd H' L' → Q () s') : wpAny (model X.prog X.w) X.A (delItem ov iv) Q E s := by
  cases od with
  | ref n =>
    simp only [delD] at hg
    cases q1 : L[n]? with
    | none => rw [q1] at hg; cases hg
    | some lo =>
      rw [q1] at hg
      obtain ⟨a, rfl, ha, hx, _⟩ := rd_ref w ho q1
      cases lo with
      | dic kvs =>
        obtain ⟨ys, hy, ry⟩ := hx
        simp only at hg
        cases q2 : keyOf id with
        | none => rw [q2] at hg; cases hg
        | some k =>
          rw [q2] at hg
          simp only at hg
          split at hg
          · rename_i hz
            simp only [Option.some.injEq] at hg
            subst hg
            cases ro
            have ek := key_of hi q2
            subst ek
            refine d_delItem I hy ri (by rw [pairK_some ry]; exact hz) fun s' I' => q _ _ I' ?_
            exact w.write q1 (by simp) ha (fun y z => by rw [hy] at z; cases z) ⟨_, upd_same, dropK_rel ry⟩
          · cases hg
      | _ => simp at hg
  | _ => simp [delD] at hg

/-! ### targets of names -/
mutual
def slotsG : Tg → List Nat
  | .slot i => [i]
  | .tup gs => slotsGs gs
def slotsGs : List Tg → List Nat
  | [] => []
  | g :: gs => slotsG g ++ slotsGs gs
end
def SameOff (s : List Nat) (σ σ' : L2.St) : Prop := σ'.length = σ.length ∧ ∀ i : Nat, i ∉ s → σ'[i]? = σ[i]?
theorem SameOff.refl (s : List Nat) (σ : L2.St) : SameOff s σ σ := ⟨rfl, fun _ _ => rfl⟩
theorem SameOff.set {s : List Nat} {σ : L2.St} {i : Nat} {v : Option V} (h : i ∈ s) : SameOff s σ (σ.set i v) := ⟨by simp, fun j hj => List.getElem?_set_ne (fun e => hj (by rw [← e]; exact h))⟩
theorem SameOff.trans {s t : List Nat} {a b c : L2.St} (h : SameOff s a b) (k : SameOff t b c) : SameOff (s ++ t) a c :=
  ⟨k.1.trans h.1, fun i hi => by
    simp only [List.mem_append, not_or] at hi
    rw [k.2 i hi.2, h.2 i hi.1]⟩
theorem SameOff.wipe {s vs : List Nat} {a b : L2.St} (h : SameOff s a b) (hs : ∀ i ∈ s, i ∈ vs) : L2.wipe b vs = L2.wipe a vs := by
  have get : ∀ (vs : List Nat) (σ : L2.St) (i : Nat), i < σ.length → (L2.wipe σ vs)[i]? = if i ∈ vs then some none else σ[i]? := by
    intro vs
    induction vs with
    | nil => intro σ i _; simp [L2.wipe]
    | cons v vs ih =>
      intro σ i hi
      unfold L2.wipe
      by_cases e : v = i
      · subst e
        rw [List.getElem?_set_self (by rw [wipe_length]; exact hi)]
        simp
      · rw [List.getElem?_set_ne e, ih σ i hi]
        have : (i ∈ v :: vs) ↔ i ∈ vs := by simp [Ne.symm e]
        simp only [this]
  refine List.ext_getElem? fun i => ?_
  by_cases hi : i < a.length
  · rw [get vs b i (by rw [h.1]; exact hi), get vs a i hi]
    split
    · rfl
    · rename_i hn
      exact h.2 i fun z => hn (hs i z)
  · rw [List.getElem?_eq_none (by rw [wipe_length, h.1]; omega), List.getElem?_eq_none (by rw [wipe_length]; omega)]
def tG (G : Gv) (g : Tg) : TG := fun v σ H Q => ∃ wd d E E' L, RelSt (G := G) wd σ E ∧ WOk (G := G) wd H L ∧ RelD G wd v d ∧ storeG g d E = some E' ∧ ∀ σ', RelSt (G := G) wd σ' E' → SameOff (slotsG g) σ σ' → Q σ' H
def tGs (G : Gv) (gs : List Tg) : TGs := fun vs σ H Q => ∃ wd ds E E' L, RelSt (G := G) wd σ E ∧ WOk (G := G) wd H L ∧ RelDs G wd vs ds ∧ storeGs gs ds E = some E' ∧ ∀ σ', RelSt (G := G) wd σ' E' → SameOff (slotsGs gs) σ σ' → Q σ' H
theorem pgImp {e : Expr} {t t' : TG} (h : PG X e t) (i : ∀ v σ H Q, t' v σ H Q → t v σ H Q) : PG X e t' := ⟨fun pins s σ H v u Q I r q => h.run pins s σ H v u Q I r (i v σ H Q q)⟩
theorem pgsImp {e : List Expr} {t t' : TGs} (h : PGs X e t) (i : ∀ v σ H Q, t' v σ H Q → t v σ H Q) : PGs X e t' := ⟨fun pins s σ H v u Q I r q => h.run pins s σ H v u Q I r (i v σ H Q q)⟩
theorem mg_slot (g : Gd G X) {i : Nat} {x : Str} (hi : X.N[i]? = some x) (hx : Loc X.env.scope x) (hf : X.fn x = true ∨ X.env.scope.names.lookup x = some .local) : PG X (.Name x pos) (tG G (.slot i)) :=
  pgImp (pg_name g.nd hi hx hf) fun v σ H Q ⟨wd, d, E, E', L, rs, w, r, hs, q⟩ => by
    simp only [storeG] at hs
    split at hs
    · simp only [Option.some.injEq] at hs
      subst hs
      exact q _ (rs.set i r) (SameOff.set (by simp [slotsG]))
    · cases hs
theorem mgs_nil : PGs X [] (tGs G []) :=
  pgsImp pgs_nil fun v σ H Q ⟨wd, ds, E, E', L, rs, w, r, hs, q⟩ => by
    cases ds with
    | nil =>
      simp only [RelDs] at r
      simp only [storeGs, Option.some.injEq] at hs
      subst hs
      exact ⟨r, q _ rs (SameOff.refl _ _)⟩
    | cons d ds => simp [storeGs] at hs
theorem mgs_cons {e : Expr} {es : List Expr} {g1 : Tg} {gs : List Tg} (h1 : PG X e (tG G g1)) (h2 : PGs X es (tGs G gs)) (hs : (assignEach (e :: es) X.env).map (·.2) = assign e X.env :: (assignEach es X.env).map (·.2)) : PGs X (e :: es) (tGs G (g1 :: gs)) :=
  pgsImp (pgs_cons h1 h2 hs) fun v σ H Q ⟨wd, ds, E, E', L, rs, w, r, hs, q⟩ => by
    cases ds with
    | nil => simp [storeGs] at hs
    | cons d ds =>
      simp only [RelDs] at r
      obtain ⟨v1, vs, rfl, r1, r2⟩ := r
      simp only [storeGs] at hs
      cases q1 : storeG g1 d E with
      | none => rw [q1] at hs; cases hs
      | some E1 =>
        rw [q1] at hs
        exact ⟨v1, vs, rfl, wd, d, E, E1, L, rs, w, r1, q1, fun σ' rs' so => ⟨wd, ds, E1, E', L, rs', w, r2, hs, fun σ2 rs2 so2 => q σ2 rs2 (so.trans so2)⟩⟩
theorem storeGs_len : ∀ {gs : List Tg} {ds : List D} {E E' : Ev}, storeGs gs ds E = some E' → ds.length = gs.length
  | [], [], _, _, _ => rfl
  | [], _ :: _, _, _, h => by simp [storeGs] at h
  | _ :: _, [], _, _, h => by simp [storeGs] at h
  | g :: gs, d :: ds, E, E', h => by
    simp only [storeGs] at h
    cases q : storeG g d E with
    | none => rw [q] at h; cases h
    | some E1 => rw [q] at h; simp [storeGs_len h]
theorem mg_tup (g : Gd G X) {es : List Expr} {k : Nat} {gs : List Tg} (h : PGs X es (tGs G gs)) (hn : (assignEach es X.env).length = gs.length) (hst : (assignEach es X.env).findIdx? (·.1) = none) : PG X (.Tuple es k pos) (tG G (.tup gs)) :=
  pgImp (pg_tup g.calm h hn hst) fun v σ H Q ⟨wd, d, E, E', L, rs, w, r, hs, q⟩ => by
    cases d with
    | tup ds =>
      simp only [storeG] at hs
      obtain ⟨a, xs, rfl, hx, rx⟩ := rd_tup w r
      exact ⟨a, xs, rfl, by rw [g.K]; exact hx, by rw [RelDs.length rx, storeGs_len hs], wd, ds, E, E', L, rs, w, rx, hs, q⟩
    | _ => simp [storeG] at hs
end
end MP
set_option maxHeartbeats 4000000
/-! MP: what is walked, comprehensions -/
namespace MP
open PySem PySem.Spec PyProof.Rows L2
section
variable {G : Gv} {X : Cx} {W : WX} {a b c e o tg : Expr} {es : List Expr} {ma mb mc mo : Ev → Live → Res D} {ms : Ev → Live → Res (List D)} {pos p2 p apos cpos : Pos}

/-- what is told of trees stays true -/
def Kp (G : Gv) (wd0 wd : Wd) : Prop := ∀ d v, RelD G wd0 v d → RelD G wd v d
theorem Kp.of {wd0 wd : Wd} (e : Ext wd0 wd) : Kp G wd0 wd := fun _ _ r => r.ext G e
theorem Kp.trans {a b c : Wd} (x : Kp G a b) (y : Kp G b c) : Kp G a c := fun d v r => y d v (x d v r)
theorem Kp.list {wd0 wd : Wd} (k : Kp G wd0 wd) : ∀ {ds : List D} {vs : List V}, RelDs G wd0 vs ds → RelDs G wd vs ds
  | [], vs, r => by simpa [RelDs] using r
  | d :: ds, vs, r => by
    simp only [RelDs] at r ⊢
    obtain ⟨v, us, h1, h2, h3⟩ := r
    exact ⟨v, us, h1, k _ _ h2, k.list h3⟩
theorem Kp.st {wd0 wd : Wd} (k : Kp G wd0 wd) {σ : L2.St} {E : Ev} (r : RelSt (G := G) wd0 σ E) : RelSt (G := G) wd σ E :=
  ⟨r.1, fun i d h => let ⟨v, h1, h2⟩ := r.2 i d h; ⟨v, h1, k _ _ h2⟩⟩
structure WalkD (G : Gv) (wd0 : Wd) (J : L2.It) (ds : List D) (w : List (Nat × List D)) : Prop where
  go : ∀ {wd H L} {i : Nat}, Kp G wd0 wd → WOk (G := G) wd H L → still L w = true → i < ds.length → J.go i H
  yld : ∀ {wd H L} {i : Nat} {x H'} (h : i < ds.length), Kp G wd0 wd → WOk (G := G) wd H L → still L w = true → J.yld i H x H' → ∃ wd', Ext wd wd' ∧ WOk (G := G) wd' H' L ∧ RelD G wd' x ds[i]
  stop : ∀ {wd H L} {i : Nat}, Kp G wd0 wd → WOk (G := G) wd H L → still L w = true → ds.length ≤ i → J.stop i H
def relI (G : Gv) (wd : Wd) (J : L2.It) (p : List D × List (Nat × List D)) : Prop := WalkD G wd J p.1 p.2
def tI (G : Gv) (W : WX) (m : Ev → Live → Res (List D × List (Nat × List D))) : TI := fun σ H R => ∃ wd E L, RelSt (G := G) wd σ E ∧ WOk (G := G) wd H L ∧ Run (G := G) (relI G) W σ wd (m E L) R
theorem lst_at {wd0 : Wd} {a : Addr} {d : D} {L0 : Live} {ds : List D} (r : RelD G wd0 (.ref a) d) (h : lstOf L0 d = some ds) {wd : Wd} {H : Hp} {L : Live} (e : Kp G wd0 wd) (w : WOk (G := G) wd H L) (hs : still L (watch L0 d) = true) : ∃ xs, Rd H a (.lst xs) ∧ RelDs G wd xs ds := by
  cases d with
  | lst t es =>
    simp only [lstOf, Option.some.injEq] at h
    subst h
    obtain ⟨b, xs, e1, h2, h3⟩ := rd_list w (e _ _ r) (ds := es) rfl
    cases e1
    exact ⟨xs, h2, h3⟩
  | ref k =>
    simp only [lstOf] at h
    cases q : L0[k]? with
    | none => rw [q] at h; cases h
    | some o =>
      rw [q] at h
      cases o with
      | lst es =>
        simp only [Option.some.injEq] at h
        subst h
        have hk : L[k]? = some (.lst es) := still_iff.mp hs (k, es) (by simp [watch, q])
        obtain ⟨b, xs, e1, h2, h3⟩ := rd_list w (e _ _ r) (ds := es) (by simp only [lstOf, hk])
        cases e1
        exact ⟨xs, h2, h3⟩
      | _ => simp at h
  | _ => simp [lstOf] at h
theorem walk_list (hK : X.K = G.K) {wd0 : Wd} {a : Addr} {d : D} {L0 : Live} {ds : List D} (r : RelD G wd0 (.ref a) d) (h : lstOf L0 d = some ds) : WalkD G wd0 (Itl X.K a) ds (watch L0 d) where
  go := fun {wd H L i} e w hs hi => by
    obtain ⟨xs, h1, h2⟩ := lst_at r h e w hs
    have len := RelDs.length h2
    exact ⟨xs, xs[i]'(by omega), .inl h1, List.getElem?_eq_getElem _⟩
  yld := fun {wd H L i x H'} hi e w hs y => by
    obtain ⟨xs, h1, h2⟩ := lst_at r h e w hs
    obtain ⟨rfl, y⟩ := y
    obtain ⟨v, h3, h4⟩ := RelDs.get h2 (List.getElem?_eq_getElem hi)
    rw [y xs (.inl h1)] at h3
    cases h3
    exact ⟨wd, Ext.refl _, w, h4⟩
  stop := fun {wd H L i} e w hs hi => by
    obtain ⟨xs, h1, h2⟩ := lst_at r h e w hs
    have len := RelDs.length h2
    exact ⟨xs, .inl h1, by omega⟩
theorem walk_tup (hK : X.K = G.K) {wd0 : Wd} {a : Addr} {ds : List D} (r : RelD G wd0 (.ref a) (.tup ds)) : WalkD G wd0 (Itt X.K a) ds [] where
  go := fun {wd H L i} e w hs hi => by
    obtain ⟨b, xs, e1, h1, h2⟩ := rd_tup w (e _ _ r)
    cases e1
    have len := RelDs.length h2
    exact ⟨xs, xs[i]'(by omega), by rw [hK]; exact h1, List.getElem?_eq_getElem _⟩
  yld := fun {wd H L i x H'} hi e w hs y => by
    obtain ⟨b, xs, e1, h1, h2⟩ := rd_tup w (e _ _ r)
    cases e1
    obtain ⟨rfl, y⟩ := y
    obtain ⟨v, h3, h4⟩ := RelDs.get h2 (List.getElem?_eq_getElem hi)
    rw [y xs (by rw [hK]; exact h1)] at h3
    cases h3
    exact ⟨wd, Ext.refl _, w, h4⟩
  stop := fun {wd H L i} e w hs hi => by
    obtain ⟨b, xs, e1, h1, h2⟩ := rd_tup w (e _ _ r)
    cases e1
    have len := RelDs.length h2
    exact ⟨xs, by rw [hK]; exact h1, by omega⟩
theorem chars_get {x : Str} {i : Nat} : (charsD x)[i]? = (x.cps[i]?).map fun c => D.str ⟨#[c]⟩ := by
  simp [charsD]
theorem walk_str {wd0 : Wd} {x : Str} : WalkD G wd0 (Its x) (charsD x) [] where
  go := fun {wd H L i} e w hs hi => by simpa [charsD, Its] using hi
  yld := fun {wd H L i v H'} hi e w hs y => by
    obtain ⟨rfl, c, h1, rfl⟩ := y
    refine ⟨wd, Ext.refl _, w, ?_⟩
    have := (chars_get (x := x) (i := i)).symm
    rw [h1, List.getElem?_eq_getElem hi] at this
    simp only [Option.map_some, Option.some.injEq] at this
    rw [← this]
    simp [RelD]
  stop := fun {wd H L i} e w hs hi => by simpa [charsD, Its] using hi
theorem mi_val (g : Gd G X) (he : PE X e (tE G W ma)) : PI X tg e (tI G W fun E L => (ma E L).bind fun x L1 => (optV (itemsOf L1 x) L1).bind fun ds L2 => .ok (ds, watch L2 x) L2) := by
  refine ⟨fun pins s σ H R I ⟨wd, E, L, rs, w, run⟩ => ?_⟩
  refine thn (he.run pins s σ H _ I ⟨wd, E, L, rs, w, run.bind⟩) fun v s1 ⟨x, H1, I1, rx, wd1, d, L1, e1, w1, r1, run1⟩ => ?_
  obtain ⟨ds, h1, h2⟩ := optV_run run1
  have list : ∀ a, x = .ref a → lstOf L1 d = some ds → wpAny (model X.prog X.w) X.A (pyIter v) (PIE X pins σ tg R) X.xe s1 := fun a ea hl => by
    subst ea
    cases rx
    obtain ⟨b, xs, eb, hx, _⟩ := rd_list w1 r1 hl
    cases eb
    obtain ⟨its, rv, pl, hz⟩ := I1.list (.inl hx)
    refine wpAny_pyIter_list pl.isList ?_
    refine ⟨s1.heap.objs.size, [s1.heap.objs.size], _, _, H1, rfl, I1.kept (t' := s1.toks) fun b o e => Heap.get?_push_of_some _ e, turn_list a _, ⟨_, Heap.get?_push_size _ rfl, rfl, rfl⟩, fun b hb => ?_, h2.now w1 (walk_list g.K r1 hl)⟩
    have e : b = s1.heap.objs.size := by simpa using hb
    subst e
    exact I1.fpOk (Nat.le_refl _) (I1.hok.fresh (Nat.le_refl _))
  cases d with
  | str z =>
    simp only [RelD] at r1
    subst r1
    simp only [itemsOf, Option.some.injEq] at h1
    subst h1
    obtain ⟨t, rfl⟩ := rx
    have q := h2.now w1 (walk_str (x := z))
    cases ha : z.cps.all (· < 128)
    · exact wpAny_pyIter_wide ha (pi_one (tk := s1.toks) I1 _ (turn_str _ z t "str_iterator" (.inr rfl)) ⟨_, Heap.get?_push_size _ rfl, rfl, rfl⟩ q)
    · exact wpAny_pyIter_ascii ha (pi_one (tk := s1.toks) I1 _ (turn_str _ z t "str_ascii_iterator" (.inl rfl)) ⟨_, Heap.get?_push_size _ rfl, rfl, rfl⟩ q)
  | tup es =>
    simp only [itemsOf, seqOf, Option.some.injEq] at h1
    subst h1
    obtain ⟨a, xs, rfl, hx, _⟩ := rd_tup w1 r1
    cases rx
    rw [← g.K] at hx
    obtain ⟨its, rv, pl, hz⟩ := I1.tuple hx
    refine wpAny_pyIter_tuple (show s1.heap.IsTuple a its.toArray from pl) ?_
    refine ⟨s1.heap.objs.size, [s1.heap.objs.size], _, _, H1, rfl, I1.kept (t' := s1.toks) fun b o e => Heap.get?_push_of_some _ e, turn_tuple a _, ⟨_, Heap.get?_push_size _ rfl, rfl, rfl⟩, fun b hb => ?_, h2.now w1 (walk_tup g.K r1)⟩
    have e : b = s1.heap.objs.size := by simpa using hb
    subst e
    exact I1.fpOk (Nat.le_refl _) (I1.hok.fresh (Nat.le_refl _))
  | lst t es =>
    obtain ⟨a, xs, rfl, _⟩ := rd_list w1 r1 (ds := es) rfl
    exact list a rfl h1
  | ref n =>
    have h1' : lstOf L1 (.ref n) = some ds := h1
    obtain ⟨a, xs, rfl, _⟩ := rd_list w1 r1 h1'
    exact list a rfl h1'
  | _ => simp [itemsOf, seqOf, lstOf] at h1
theorem walk_rng {wd0 : Wd} {lo : Int} {n : Nat} : WalkD G wd0 (Itr lo n) ((List.range n).map fun k => D.int (lo + (k : Nat))) [] where
  go := fun {wd H L i} e w hs hi => by simpa [Itr] using hi
  yld := fun {wd H L i v H'} hi e w hs y => by
    obtain ⟨rfl, rfl⟩ := y
    exact ⟨wd, Ext.refl _, w, by simp [RelD]⟩
  stop := fun {wd H L i} e w hs hi => by simpa [Itr] using hi
theorem mi_rng1 (hg : Gl X "range") (hm : X.mg "range" = none) (ha : PE X a (tE G W ma)) (hs : starEach [a] X.env = [(false, eval a X.env)]) :
    PI X tg (.Call (.Name "range" p) [a] [] pos) (tI G W fun E L => (ma E L).bind fun x L1 => (optV (rng1D x) L1).bind fun ds L2 => .ok (ds, []) L2) := by
  have key := pi_range1 (tg := tg) (p := p) (pos := pos) hg hm (pa_cons ha pa_nil hs) hs
  refine ⟨fun pins s σ H R I ⟨wd, E, L, rs, w, run⟩ => key.run pins s σ H R I ⟨wd, E, L, rs, w, run.bind.imp fun v H1 ⟨wd1, d1, L1, e1, w1, r1, run1⟩ => ?_⟩⟩
  obtain ⟨ds, h1, h2⟩ := optV_run run1
  cases d1 with
  | int j =>
    simp only [RelD] at r1
    subst r1
    simp only [rng1D] at h1
    split at h1
    · rename_i hz
      simp only [Bool.and_eq_true, decide_eq_true_eq] at hz
      simp only [Option.some.injEq] at h1
      subst h1
      refine ⟨j, rfl, hz.1, hz.2, h2.now w1 ?_⟩
      have := walk_rng (G := G) (wd0 := wd1) (lo := 0) (n := j.toNat)
      simp only [Int.zero_add] at this
      exact this
    · cases h1
  | _ => simp [rng1D] at h1
theorem mi_rng2 (hg : Gl X "range") (hm : X.mg "range" = none) (ha : PE X a (tE G W ma)) (hb : PE X b (tE G W mb)) (hs : starEach [a, b] X.env = [(false, eval a X.env), (false, eval b X.env)]) (hs2 : starEach [b] X.env = [(false, eval b X.env)]) :
    PI X tg (.Call (.Name "range" p) [a, b] [] pos) (tI G W fun E L => (ma E L).bind fun x L1 => (mb E L1).bind fun y L2 => (optV (rng2D x y) L2).bind fun ds L3 => .ok (ds, []) L3) := by
  have key := pi_range2 (tg := tg) (p := p) (pos := pos) hg hm (pa_cons ha (pa_cons hb pa_nil hs2) (by rw [hs, hs2])) hs hs2
  refine ⟨fun pins s σ H R I ⟨wd, E, L, rs, w, run⟩ => key.run pins s σ H R I ⟨wd, E, L, rs, w, run.bind.imp fun v H1 ⟨wd1, d1, L1, e1, w1, r1, run1⟩ => ⟨wd1, E, L1, rs.ext e1, w1, run1.bind.imp fun u H2 ⟨wd2, d2, L2, e2, w2, r2, run2⟩ => ?_⟩⟩⟩
  obtain ⟨ds, h1, h2⟩ := optV_run run2
  cases d1 with
  | int i =>
    cases d2 with
    | int j =>
      simp only [RelD] at r1 r2
      subst r1 r2
      simp only [rng2D] at h1
      split at h1
      · rename_i hz
        simp only [Bool.and_eq_true, decide_eq_true_eq] at hz
        simp only [Option.some.injEq] at h1
        subst h1
        exact ⟨i, j, rfl, ⟨hz.1.1.1, hz.1.1.2, hz.1.2, hz.2⟩, h2.now w2 walk_rng⟩
      · cases h1
    | _ => simp [rng2D] at h1
  | _ => simp [rng2D] at h1
theorem new_pair {wd : Wd} {H : Hp} {L : Live} {p : Addr} {x y : V} {d1 d2 : D} (w : WOk (G := G) wd H L) (hp : H p = none) (r1 : RelD G wd x d1) (r2 : RelD G wd y d2) : ∃ wd', Ext wd wd' ∧ WOk (G := G) wd' (upd H p (.tup [x, y])) L ∧ RelD G wd' (.ref p) (.tup [d1, d2]) := by
  obtain ⟨e, w'⟩ := w.frz (o := .tup [x, y]) hp (.inr (.inl ⟨_, rfl⟩))
  refine ⟨_, e, w', ?_⟩
  simp only [RelD]
  exact ⟨p, _, rfl, .inl (.inl upd_same), RelDs.cons (r1.ext G e) (RelDs.cons (r2.ext G e) RelDs.nil)⟩
theorem enumD_len {ds : List D} : (enumD ds).length = ds.length := by simp [enumD]
theorem enumD_get {ds : List D} {i : Nat} (h : i < (enumD ds).length) : (enumD ds)[i] = .tup [.int (i : Nat), ds[i]'(by simpa [enumD] using h)] := by simp [enumD]
theorem walk_enum (hK : X.K = G.K) {wd0 : Wd} {a : Addr} {d : D} {L0 : Live} {ds : List D} (r : RelD G wd0 (.ref a) d) (h : lstOf L0 d = some ds) : WalkD G wd0 (Ite X.K a) (enumD ds) (watch L0 d) where
  go := fun {wd H L i} e w hs hi => by
    rw [enumD_len] at hi
    obtain ⟨xs, h1, h2⟩ := lst_at r h e w hs
    have len := RelDs.length h2
    exact ⟨xs, xs[i]'(by omega), .inl h1, List.getElem?_eq_getElem _⟩
  yld := fun {wd H L i v H'} hi e w hs y => by
    obtain ⟨xs, h1, h2⟩ := lst_at r h e w hs
    obtain ⟨T, x, rfl, hT, rfl, y⟩ := y
    rw [enumD_get hi]
    obtain ⟨v, h3, h4⟩ := RelDs.get h2 (List.getElem?_eq_getElem (by simpa [enumD] using hi))
    rw [y xs (.inl h1)] at h3
    cases h3
    exact new_pair w hT (by simp [RelD]) h4
  stop := fun {wd H L i} e w hs hi => by
    rw [enumD_len] at hi
    obtain ⟨xs, h1, h2⟩ := lst_at r h e w hs
    have len := RelDs.length h2
    exact ⟨xs, .inl h1, by omega⟩
theorem mi_enum (g : Gd G X) {elts : List Expr} {kk : Nat} {tpos : Pos} (hg : Gl X "enumerate") (hm : X.mg "enumerate" = none) (ha : PE X a (tE G W ma)) (hs : starEach [a] X.env = [(false, eval a X.env)]) :
    PI X (.Tuple elts kk tpos) (.Call (.Name "enumerate" p) [a] [] pos) (tI G W fun E L => (ma E L).bind fun x L1 => (optV (lstOf L1 x) L1).bind fun ds L2 => .ok (enumD ds, watch L2 x) L2) := by
  have key := pi_enum (elts := elts) (kk := kk) (tpos := tpos) (p := p) (pos := pos) hg hm (pa_cons ha pa_nil hs) hs
  refine ⟨fun pins s σ H R I ⟨wd, E, L, rs, w, run⟩ => key.run pins s σ H R I ⟨wd, E, L, rs, w, run.bind.imp fun v H1 ⟨wd1, d1, L1, e1, w1, r1, run1⟩ => ?_⟩⟩
  obtain ⟨ds, h1, h2⟩ := optV_run run1
  obtain ⟨a, xs, rfl, hx, _⟩ := rd_list w1 r1 h1
  exact ⟨a, xs, rfl, .inl hx, h2.now w1 (walk_enum g.K r1 h1)⟩
theorem zipD_len {ds es : List D} : (zipD ds es).length = min ds.length es.length := by simp [zipD]
theorem zipD_get {ds es : List D} {i : Nat} (h : i < (zipD ds es).length) : (zipD ds es)[i] = .tup [ds[i]'(by rw [zipD_len] at h; omega), es[i]'(by rw [zipD_len] at h; omega)] := by simp [zipD]
theorem still_app {L : Live} {w w' : List (Nat × List D)} (h : still L (w ++ w') = true) : still L w = true ∧ still L w' = true := by
  simp only [still, List.all_append, Bool.and_eq_true] at h
  exact h
theorem walk_zip (hK : X.K = G.K) {wd0 : Wd} {a b : Addr} {d1 d2 : D} {L0 : Live} {ds es : List D} (r1 : RelD G wd0 (.ref a) d1) (r2 : RelD G wd0 (.ref b) d2) (h1 : lstOf L0 d1 = some ds) (h2 : lstOf L0 d2 = some es) : WalkD G wd0 (Itz X.K a b) (zipD ds es) (watch L0 d1 ++ watch L0 d2) where
  go := fun {wd H L i} e w hs hi => by
    rw [zipD_len] at hi
    obtain ⟨s1, s2⟩ := still_app hs
    obtain ⟨xs, k1, k2⟩ := lst_at r1 h1 e w s1
    obtain ⟨ys, k3, k4⟩ := lst_at r2 h2 e w s2
    have l1 := RelDs.length k2
    have l2 := RelDs.length k4
    exact ⟨xs, ys, xs[i]'(by omega), ys[i]'(by omega), .inl k1, .inl k3, List.getElem?_eq_getElem _, List.getElem?_eq_getElem _⟩
  yld := fun {wd H L i v H'} hi e w hs y => by
    obtain ⟨s1, s2⟩ := still_app hs
    obtain ⟨xs, k1, k2⟩ := lst_at r1 h1 e w s1
    obtain ⟨ys, k3, k4⟩ := lst_at r2 h2 e w s2
    obtain ⟨T, x, y, rfl, hT, rfl, y1, y2⟩ := y
    rw [zipD_get hi]
    rw [zipD_len] at hi
    obtain ⟨v, h3, h4⟩ := RelDs.get k2 (List.getElem?_eq_getElem (i := i) (by omega))
    rw [y1 xs (.inl k1)] at h3
    cases h3
    obtain ⟨v, h5, h6⟩ := RelDs.get k4 (List.getElem?_eq_getElem (i := i) (by omega))
    rw [y2 ys (.inl k3)] at h5
    cases h5
    exact new_pair w hT h4 h6
  stop := fun {wd H L i} e w hs hi => by
    rw [zipD_len] at hi
    obtain ⟨s1, s2⟩ := still_app hs
    obtain ⟨xs, k1, k2⟩ := lst_at r1 h1 e w s1
    obtain ⟨ys, k3, k4⟩ := lst_at r2 h2 e w s2
    have l1 := RelDs.length k2
    have l2 := RelDs.length k4
    exact ⟨xs, ys, .inl k1, .inl k3, by omega⟩
theorem walk_zipT (hK : X.K = G.K) {wd0 : Wd} {a b : Addr} {ds es : List D} (r1 : RelD G wd0 (.ref a) (.tup ds)) (r2 : RelD G wd0 (.ref b) (.tup es)) : WalkD G wd0 (RZ.ItzT X.K a b) (zipD ds es) [] where
  go := fun {wd H L i} e w hs hi => by
    rw [zipD_len] at hi
    obtain ⟨a', xs, ea, k1, k2⟩ := rd_tup w (e _ _ r1)
    cases ea
    obtain ⟨b', ys, eb, k3, k4⟩ := rd_tup w (e _ _ r2)
    cases eb
    have l1 := RelDs.length k2
    have l2 := RelDs.length k4
    exact ⟨xs, ys, xs[i]'(by omega), ys[i]'(by omega), by rw [hK]; exact k1, by rw [hK]; exact k3, List.getElem?_eq_getElem _, List.getElem?_eq_getElem _⟩
  yld := fun {wd H L i v H'} hi e w hs y => by
    obtain ⟨a', xs, ea, k1, k2⟩ := rd_tup w (e _ _ r1)
    cases ea
    obtain ⟨b', ys, eb, k3, k4⟩ := rd_tup w (e _ _ r2)
    cases eb
    obtain ⟨T, x, y, rfl, hT, rfl, y1, y2⟩ := y
    rw [zipD_get hi]
    rw [zipD_len] at hi
    obtain ⟨v, h3, h4⟩ := RelDs.get k2 (List.getElem?_eq_getElem (i := i) (by omega))
    rw [y1 xs (by rw [hK]; exact k1)] at h3
    cases h3
    obtain ⟨v, h5, h6⟩ := RelDs.get k4 (List.getElem?_eq_getElem (i := i) (by omega))
    rw [y2 ys (by rw [hK]; exact k3)] at h5
    cases h5
    exact new_pair w hT h4 h6
  stop := fun {wd H L i} e w hs hi => by
    rw [zipD_len] at hi
    obtain ⟨a', xs, ea, k1, k2⟩ := rd_tup w (e _ _ r1)
    cases ea
    obtain ⟨b', ys, eb, k3, k4⟩ := rd_tup w (e _ _ r2)
    cases eb
    have l1 := RelDs.length k2
    have l2 := RelDs.length k4
    exact ⟨xs, ys, by rw [hK]; exact k1, by rw [hK]; exact k3, by omega⟩
theorem mi_zip (g : Gd G X) {elts : List Expr} {kk : Nat} {tpos : Pos} (hg : Gl X "zip") (hm : X.mg "zip" = none) (ha : PE X a (tE G W ma)) (hb : PE X b (tE G W mb)) (hs : starEach [a, b] X.env = (false, eval a X.env) :: starEach [b] X.env) (hs2 : starEach [b] X.env = [(false, eval b X.env)]) :
    PI X (.Tuple elts kk tpos) (.Call (.Name "zip" p) [a, b] [] pos) (tI G W fun E L => (ma E L).bind fun x L1 => (mb E L1).bind fun y L2 => optV (zipW L2 x y) L2) := by
  have key := RZ.pi_zipA (elts := elts) (kk := kk) (tpos := tpos) (p := p) (pos := pos) hg hm (pa_cons ha (pa_cons hb pa_nil hs2) hs) hs (by rw [hs2]; rfl)
  refine ⟨fun pins s σ H R I ⟨wd, E, L, rs, w, run⟩ => key.run pins s σ H R I ⟨wd, E, L, rs, w, run.bind.imp fun v H1 ⟨wd1, d1, L1, e1, w1, r1, run1⟩ => ⟨wd1, E, L1, rs.ext e1, w1, run1.bind.imp fun u H2 ⟨wd2, d2, L2, e2, w2, r2, run2⟩ => ?_⟩⟩⟩
  obtain ⟨z, h1, h4⟩ := optV_run' run2
  have r1 := r1.ext G e2
  have lists : (∀ xs, d1 ≠ .tup xs) → ∃ a b xs ys, [v, u] = [V.ref a, .ref b] ∧ ((SqL X.K H2 a xs ∧ SqL X.K H2 b ys ∧ R (Itz X.K a b) H2) ∨ (SqT X.K H2 a xs ∧ SqT X.K H2 b ys ∧ R (RZ.ItzT X.K a b) H2)) := fun hne => by
    have hz : ∃ ds es, lstOf L2 d1 = some ds ∧ lstOf L2 d2 = some es ∧ z = (zipD ds es, watch L2 d1 ++ watch L2 d2) := by
      cases d1 with
      | tup xs => exact absurd rfl (hne xs)
      | _ =>
        simp only [zipW] at h1
        split at h1
        · rename_i ds q1
          split at h1
          · rename_i es q2
            simp only [Option.some.injEq] at h1
            exact ⟨ds, es, q1, q2, h1.symm⟩
          · cases h1
        · cases h1
    obtain ⟨ds, es, q1, q2, rfl⟩ := hz
    obtain ⟨a, xs, rfl, hx, _⟩ := rd_list w2 r1 q1
    obtain ⟨b, ys, rfl, hy, _⟩ := rd_list w2 r2 q2
    exact ⟨a, b, xs, ys, rfl, .inl ⟨.inl hx, .inl hy, h4.now w2 (walk_zip g.K r1 r2 q1 q2)⟩⟩
  cases d1 with
  | tup xs =>
    simp only [zipW] at h1
    cases d2 with
    | tup ys =>
      simp only [Option.some.injEq] at h1
      subst h1
      obtain ⟨a, us, rfl, hx, _⟩ := rd_tup w2 r1
      obtain ⟨b, ws, rfl, hy, _⟩ := rd_tup w2 r2
      exact ⟨a, b, us, ws, rfl, .inr ⟨by rw [g.K]; exact hx, by rw [g.K]; exact hy, h4.now w2 (walk_zipT g.K r1 r2)⟩⟩
    | _ => cases h1
  | _ => exact lists fun xs => by simp
/-! ### comprehensions -/
theorem relSt_wipe {wd : Wd} {σ : L2.St} {E : Ev} (rs : RelSt (G := G) wd σ E) : ∀ vs : List Nat, RelSt (G := G) wd (L2.wipe σ vs) (wipeE E vs)
  | [] => rs
  | v :: vs => (relSt_wipe rs vs).wipe v
/-- the new list is no one's -/
def Wd.hide (wd : Wd) (p : Addr) (xs : List V) : Wd := { ι := wd.ι, F := upd wd.F p (.lst xs), bor := p :: wd.bor }
def Wd.show (wd : Wd) (p : Addr) (bor : List Addr) : Wd := { ι := wd.ι, F := fun a => if a = p then none else wd.F a, bor := bor }
/-- p holds a list that no tree tells of -/
structure Hid (G : Gv) (wd0 wd : Wd) (H : Hp) (p : Addr) (xs : List V) : Prop where
  F : wd.F p = some (.lst xs)
  bor : wd.bor = p :: wd0.bor
  ι : ∀ n, wd.ι n ≠ some p
theorem hid_at {wd0 wd : Wd} {H : Hp} {L : Live} {p : Addr} {xs : List V} (h : Hid G wd0 wd H p xs) (w : WOk (G := G) wd H L) : H p = some (.lst xs) := w.sub _ _ h.F
mutual
theorem hid_rel {wd0 wd wd' : Wd} {H : Hp} {p : Addr} {xs : List V} (h : Hid G wd0 wd H p xs) (hi : wd'.ι = wd.ι) (hF : ∀ a, a ≠ p → wd'.F a = wd.F a) (hb : ∀ a ∈ wd'.bor, a ∈ wd.bor) : ∀ {d : D} {v : V}, RelD G wd v d → RelD G wd' v d
  | .non, v, r => by simpa [RelD] using r
  | .bl b, v, r => by simpa [RelD] using r
  | .int i, v, r => by simpa [RelD] using r
  | .str s, v, r => by simpa [RelD] using r
  | .ref n, v, r => by simp only [RelD] at r ⊢; rw [hi]; exact r
  | .dct ks ds, v, r => by
    simp only [RelD] at r ⊢
    obtain ⟨a, ys, h1, h2, h3, h4⟩ := r
    have ne : a ≠ p := fun z => by
      subst z
      rw [h.F] at h2; cases h2
    exact ⟨a, ys, h1, by rw [hF a ne]; exact h2, h3, hid_rels h hi hF hb h4⟩
  | .tup ds, v, r => by
    simp only [RelD] at r ⊢
    obtain ⟨a, ys, h1, h2, h3⟩ := r
    refine ⟨a, ys, h1, ?_, hid_rels h hi hF hb h3⟩
    rcases h2 with h2 | h2
    · have ne : a ≠ p := fun z => by
        subst z
        rcases h2 with h2 | ⟨o, h2⟩
        · rw [h.F] at h2; cases h2
        · rw [h.F] at h2; cases h2
      refine .inl ?_
      unfold Rd
      rw [hF a ne]
      exact h2
    · exact .inr h2
  | .lst t ds, v, r => by
    simp only [RelD] at r ⊢
    obtain ⟨a, ys, h1, h2, h3, h4, h5⟩ := r
    have ne : a ≠ p := fun z => by
      subst z
      cases t with
      | zero => exact h4 rfl (by rw [h.bor]; simp)
      | succ k => exact h.ι k (h5 k rfl)
    refine ⟨a, ys, h1, ?_, hid_rels h hi hF hb h3, fun e z => h4 e (hb a z), by rw [hi]; exact h5⟩
    unfold Rd
    rw [hF a ne]
    exact h2
theorem hid_rels {wd0 wd wd' : Wd} {H : Hp} {p : Addr} {xs : List V} (h : Hid G wd0 wd H p xs) (hi : wd'.ι = wd.ι) (hF : ∀ a, a ≠ p → wd'.F a = wd.F a) (hb : ∀ a ∈ wd'.bor, a ∈ wd.bor) : ∀ {ds : List D} {vs : List V}, RelDs G wd vs ds → RelDs G wd' vs ds
  | [], vs, r => by simpa [RelDs] using r
  | d :: ds, vs, r => by
    simp only [RelDs] at r ⊢
    obtain ⟨v, us, h1, h2, h3⟩ := r
    exact ⟨v, us, h1, hid_rel h hi hF hb h2, hid_rels h hi hF hb h3⟩
end
mutual
theorem hide_rel {wd : Wd} {p : Addr} {xs : List V} (nF : wd.F p = none) : ∀ {d : D} {v : V}, RelD G wd v d → RelD G (wd.hide p xs) v d
  | .non, v, r => by simpa [RelD] using r
  | .bl b, v, r => by simpa [RelD] using r
  | .int i, v, r => by simpa [RelD] using r
  | .str s, v, r => by simpa [RelD] using r
  | .ref n, v, r => by simpa [RelD, Wd.hide] using r
  | .dct ks ds, v, r => by
    simp only [RelD] at r ⊢
    obtain ⟨a, ys, h1, h2, h3, h4⟩ := r
    exact ⟨a, ys, h1, upd_keeps nF _ _ h2, h3, hide_rels nF h4⟩
  | .tup ds, v, r => by
    simp only [RelD] at r ⊢
    obtain ⟨a, ys, h1, h2, h3⟩ := r
    exact ⟨a, ys, h1, SqT.mono (fun a o h => upd_keeps nF a o h) h2, hide_rels nF h3⟩
  | .lst t ds, v, r => by
    simp only [RelD] at r ⊢
    obtain ⟨a, ys, h1, h2, h3, h4, h5⟩ := r
    refine ⟨a, ys, h1, Rd.mono (fun a o h => upd_keeps nF a o h) h2, hide_rels nF h3, fun e z => ?_, h5⟩
    rcases List.mem_cons.mp z with rfl | z
    · obtain ⟨u, hu⟩ := Rd.dom h2
      rw [nF] at hu; cases hu
    · exact h4 e z
theorem hide_rels {wd : Wd} {p : Addr} {xs : List V} (nF : wd.F p = none) : ∀ {ds : List D} {vs : List V}, RelDs G wd vs ds → RelDs G (wd.hide p xs) vs ds
  | [], vs, r => by simpa [RelDs] using r
  | d :: ds, vs, r => by
    simp only [RelDs] at r ⊢
    obtain ⟨v, us, h1, h2, h3⟩ := r
    exact ⟨v, us, h1, hide_rel nF h2, hide_rels nF h3⟩
end
theorem hide_ok {wd : Wd} {H : Hp} {L : Live} (w : WOk (G := G) wd H L) {p : Addr} {xs : List V} (hp : H p = none) : WOk (G := G) (wd.hide p xs) (upd H p (.lst xs)) L ∧ Hid G wd (wd.hide p xs) (upd H p (.lst xs)) p xs := by
  obtain ⟨e, w'⟩ := w.frz (o := .lst xs) hp (.inl ⟨_, rfl⟩)
  have nF := w.fnone hp
  have ni : ∀ n, wd.ι n ≠ some p := fun n z => by
    obtain ⟨o, ho⟩ := w.there n p z
    rw [hp] at ho; cases ho
  refine ⟨⟨w'.sub, fun n o h => ?_, w'.dom, w'.inj, fun a ha => ?_, w'.seq, w'.there⟩, ⟨upd_same, rfl, ni⟩⟩
  · obtain ⟨a, h1, h2, h3⟩ := w.live n o h
    refine ⟨a, h1, relO_of (fun _ _ => hide_rel nF) (fun _ _ => hide_rels nF) rfl (h2.heap (upd_keeps hp)), fun g => ?_⟩
    show upd wd.F p (.lst xs) a = none
    rw [upd_ne (fun z => ni n (by rw [← z]; exact h1))]
    exact h3 g
  · rcases List.mem_cons.mp ha with rfl | ha
    · exact ⟨_, upd_same⟩
    · exact w'.bor a ha
/-- an item more -/
theorem Hid.app {wd0 wd : Wd} {H : Hp} {L : Live} {p : Addr} {xs : List V} (h : Hid G wd0 wd H p xs) (w : WOk (G := G) wd H L) (ys : List V) :
    WOk (G := G) { wd with F := upd wd.F p (.lst ys) } (upd H p (.lst ys)) L ∧ Hid G wd0 { wd with F := upd wd.F p (.lst ys) } (upd H p (.lst ys)) p ys := by
  have rel : (∀ (d : D) (v : V), RelD G wd v d → RelD G { wd with F := upd wd.F p (.lst ys) } v d) := fun d v => hid_rel (wd' := { wd with F := upd wd.F p (.lst ys) }) h rfl (fun a n => upd_ne n) fun a z => z
  have rels : (∀ (d : List D) (v : List V), RelDs G wd v d → RelDs G { wd with F := upd wd.F p (.lst ys) } v d) := fun d v => hid_rels (wd' := { wd with F := upd wd.F p (.lst ys) }) h rfl (fun a n => upd_ne n) fun a z => z
  have hH := hid_at h w
  have own : ∀ y, H p ≠ some (.own y) := fun y z => by rw [hH] at z; cases z
  refine ⟨⟨fun a o g => ?_, fun n o g => ?_, w.dom, w.inj, fun a ha => ?_, fun a o g => ?_, fun n a g => ?_⟩, ⟨upd_same, h.bor, h.ι⟩⟩
  · by_cases q : a = p
    · subst q
      have g' : upd wd.F a (.lst ys) a = some o := g
      rw [upd_same] at g' ⊢; exact g'
    · have g' : upd wd.F p (.lst ys) a = some o := g
      rw [upd_ne q] at g' ⊢; exact w.sub _ _ g'
  · obtain ⟨a, h1, h2, h3⟩ := w.live n o g
    have ne : a ≠ p := fun z => h.ι n (by rw [← z]; exact h1)
    refine ⟨a, h1, ?_, fun gg => by show upd wd.F p (.lst ys) a = none; rw [upd_ne ne]; exact h3 gg⟩
    cases o with
    | lst ds => obtain ⟨xs, e1, e2⟩ := h2; exact ⟨xs, by rw [upd_ne ne]; exact e1, rels _ _ e2⟩
    | dic kvs => obtain ⟨xs, e1, e2⟩ := h2; exact ⟨xs, by rw [upd_ne ne]; exact e1, Paired.mapP e2 fun _ _ h => ⟨h.1, rel _ _ h.2⟩⟩
    | ins C fs =>
      obtain ⟨ca, dx, gs, e0, e1, e2, e3⟩ := h2
      exact ⟨ca, dx, gs, e0, by rw [upd_ne ne]; exact e1, by rw [upd_ne (fun z => own a (by rw [← z]; exact e2))]; exact e2, Paired.mapP e3 fun _ _ h => ⟨h.1, rel _ _ h.2⟩⟩
    | gone => exact True.intro
  · by_cases q : a = p
    · exact ⟨_, by rw [q]; exact upd_same⟩
    · obtain ⟨o, ho⟩ := w.bor a ha
      exact ⟨o, by show upd wd.F p (.lst ys) a = _; rw [upd_ne q]; exact ho⟩
  · by_cases q : a = p
    · subst q
      have g' : upd wd.F a (.lst ys) a = some o := g
      rw [upd_same] at g'; cases g'; exact .inl ⟨_, rfl⟩
    · have g' : upd wd.F p (.lst ys) a = some o := g
      rw [upd_ne q] at g'; exact w.seq _ _ g'
  · by_cases q : a = p
    · exact ⟨_, by rw [q]; exact upd_same⟩
    · obtain ⟨o, ho⟩ := w.there n a g
      exact ⟨o, by rw [upd_ne q]; exact ho⟩
/-- later, while no one writes it -/
theorem Hid.ext {wd0 wd wd' : Wd} {H H' : Hp} {p : Addr} {xs : List V} (h : Hid G wd0 wd H p xs) (e : Ext wd wd') : Hid G wd0 wd' H' p xs := by
  refine ⟨e.F _ _ h.F, e.bor.trans h.bor, fun n z => ?_⟩
  rcases e.new n p z with g | g
  · exact h.ι n g
  · rw [h.F] at g; cases g
/-- it is a list as others -/
theorem Hid.end_ {wd0 wd : Wd} {H : Hp} {L : Live} {p : Addr} {xs : List V} {ds : List D} {Q : VK} (lv : Bool) (h : Hid G wd0 wd H p xs) (w : WOk (G := G) wd H L) (rs : RelDs G wd xs ds)
    (hι : ∀ n a, wd0.ι n = some a → wd.ι n = some a) (hF : ∀ a o, wd0.F a = some o → wd.F a = some o) (hn : ∀ n a, wd.ι n = some a → wd0.ι n = some a ∨ wd0.F a = none) (nF : wd0.F p = none) (nb : p ∉ wd0.bor)
    (q : End G wd0 (newL lv ds L).1 (newL lv ds L).2 Q) : Q (.ref p) H := by
  have hb : ∀ a ∈ wd0.bor, a ∈ wd.bor := fun a z => by rw [h.bor]; exact List.mem_cons_of_mem _ z
  have hH := hid_at h w
  cases lv with
  | false =>
    have rel : (∀ (d : D) (v : V), RelD G wd v d → RelD G { wd with bor := wd0.bor } v d) := fun d v => hid_rel (wd' := { wd with bor := wd0.bor }) h rfl (fun a n => rfl) hb
    have rels : (∀ (d : List D) (v : List V), RelDs G wd v d → RelDs G { wd with bor := wd0.bor } v d) := fun d v => hid_rels (wd' := { wd with bor := wd0.bor }) h rfl (fun a n => rfl) hb
    refine q { wd with bor := wd0.bor } H _ ⟨hι, hF, rfl, hn⟩ ⟨w.sub, fun n o g => ?_, w.dom, w.inj, fun a ha => w.bor a (hb a ha), w.seq, w.there⟩ ?_
    · obtain ⟨a, h1, h2, h3⟩ := w.live n o g
      exact ⟨a, h1, relO_of rel rels rfl h2, h3⟩
    · show RelD G _ _ (.lst 0 ds)
      simp only [RelD]
      exact ⟨p, xs, rfl, .inl h.F, rels _ _ rs, fun _ => nb, fun k hk => by cases hk⟩
  | true =>
    have hL : ∀ n a, wd.ι n = some a → n ≠ L.length := fun n a z e => absurd (w.dom n a z) (by omega)
    -- first out of the frozen part
    let wd1 : Wd := { ι := wd.ι, F := fun a => if a = p then none else wd.F a, bor := wd0.bor }
    have F1 : ∀ a, a ≠ p → wd1.F a = wd.F a := fun a n => if_neg n
    have rel : (∀ (d : D) (v : V), RelD G wd v d → RelD G wd1 v d) := fun d v => hid_rel (wd' := wd1) h rfl F1 hb
    have rels : (∀ (d : List D) (v : List V), RelDs G wd v d → RelDs G wd1 v d) := fun d v => hid_rels (wd' := wd1) h rfl F1 hb
    have e12 : Ext wd1 { wd1 with ι := fun m => if m = L.length then some p else wd.ι m } := ⟨fun n a z => by
        show (if n = L.length then some p else wd.ι n) = some a
        rw [if_neg (hL n a z)]; exact z, fun _ _ z => z, rfl, fun n a z => by
        have z' : (if n = L.length then some p else wd.ι n) = some a := z
        split at z'
        · cases z'; exact .inr (if_pos rfl)
        · exact .inl z'⟩
    refine q { wd1 with ι := fun m => if m = L.length then some p else wd.ι m } H _ ⟨fun n a z => e12.ι n a (hι n a z), fun a o z => ?_, rfl, fun n a z => ?_⟩ ⟨fun a o z => ?_, fun n o g => ?_, fun n a z => ?_, fun n m a z1 z2 => ?_, fun a ha => ?_, fun a o z => ?_, fun n a z => ?_⟩ ?_
    · rw [F1 a (fun e => by rw [e, nF] at z; cases z)]; exact hF a o z
    · have z' : (if n = L.length then some p else wd.ι n) = some a := z
      split at z'
      · cases z'; exact .inr nF
      · exact hn n a z'
    · have z' : (if a = p then none else wd.F a) = some o := z
      split at z'
      · cases z'
      · exact w.sub _ _ z'
    · show ∃ a, (if n = L.length then some p else wd.ι n) = some a ∧ _
      have g' : (L ++ [LO.lst ds])[n]? = some o := g
      by_cases hlt : n < L.length
      · rw [List.getElem?_append_left hlt] at g'
        obtain ⟨a, h1, h2, h3⟩ := w.live n o g'
        refine ⟨a, by rw [if_neg (by omega)]; exact h1, (relO_of rel rels rfl h2).ext e12, fun gg => ?_⟩
        show (if a = p then none else wd.F a) = none
        split
        · rfl
        · exact h3 gg
      · have hn' : n = L.length := by
          have := (List.getElem?_eq_some_iff.mp g').1
          simp at this; omega
        subst hn'
        simp at g'; subst g'
        exact ⟨p, if_pos rfl, ⟨xs, hH, RelDs.ext G e12 (rels _ _ rs)⟩, fun _ => if_pos rfl⟩
    · have z' : (if n = L.length then some p else wd.ι n) = some a := z
      show n < (L ++ [LO.lst ds]).length
      split at z'
      · simp; omega
      · have := w.dom n a z'; simp; omega
    · have z1' : (if n = L.length then some p else wd.ι n) = some a := z1
      have z2' : (if m = L.length then some p else wd.ι m) = some a := z2
      split at z1' <;> split at z2'
      · omega
      · cases z1'; exact absurd z2' (h.ι m)
      · cases z2'; exact absurd z1' (h.ι n)
      · exact w.inj _ _ _ z1' z2'
    · obtain ⟨o, ho⟩ := w.bor a (hb a ha)
      exact ⟨o, by rw [F1 a (fun e => nb (by rw [← e]; exact ha))]; exact ho⟩
    · have z' : (if a = p then none else wd.F a) = some o := z
      split at z'
      · cases z'
      · exact w.seq _ _ z'
    · have z' : (if n = L.length then some p else wd.ι n) = some a := z
      split at z'
      · cases z'; exact ⟨_, hH⟩
      · exact w.there n a z'
    · show RelD G _ _ (.ref L.length)
      simp only [RelD]
      exact ⟨p, if_pos trivial, rfl⟩

abbrev W0 : WX := fun _ _ _ _ => False
theorem wipe_wipe (σ : L2.St) (vs : List Nat) : L2.wipe (L2.wipe σ vs) vs = L2.wipe σ vs := by
  have get : ∀ (vs : List Nat) (σ : L2.St) (i : Nat), i < σ.length → (L2.wipe σ vs)[i]? = if i ∈ vs then some none else σ[i]? := by
    intro vs
    induction vs with
    | nil => intro σ i _; simp [L2.wipe]
    | cons v vs ih =>
      intro σ i hi
      unfold L2.wipe
      by_cases e : v = i
      · subst e
        rw [List.getElem?_set_self (by rw [wipe_length]; exact hi)]
        simp
      · rw [List.getElem?_set_ne e, ih σ i hi]
        have : (i ∈ v :: vs) ↔ i ∈ vs := by simp [Ne.symm e]
        simp only [this]
  refine List.ext_getElem? fun i => ?_
  by_cases hi : i < σ.length
  · rw [get vs (L2.wipe σ vs) i (by rw [wipe_length]; exact hi), get vs σ i hi]
    split <;> rfl
  · rw [List.getElem?_eq_none (by rw [wipe_length, wipe_length]; omega), List.getElem?_eq_none (by rw [wipe_length]; omega)]
theorem mc_nil : PTs X [] (tT G W fun _ L => .ok true L) :=
  ⟨fun pins s σ H Q I ⟨wd, E, L, rs, w, run⟩ => pts_nil.run pins s σ H Q I (run.now w rfl)⟩
theorem mc_one {tc : Ev → Live → Res Bool} (h : PT X c (tT G W tc)) : PTs X [c] (tT G W tc) := pts_one h
theorem me_comp (g : Gd G X) (lv : Bool) {elt iter : Expr} {ifs : List Expr} {scope : Scope} {own : List (Str × Nat)} {mi : Ev → Live → Res (List D × List (Nat × List D))} {gt : Tg} {tc : Ev → Live → Res Bool} {me : Ev → Live → Res D}
    (hi : PI X tg iter (tI G W mi)) (ok : BlkOk X.N X.env.scope scope own)
    (hg : ∀ (s : Shared) (H : Hp) (C : Addr) (cl : List (Str × Addr)) (fp : List Addr), PG (X.blk s H scope (compEnvC scope cl C X.env) fp) tg (tG G gt)) (ht : ∀ (s : Shared) (H : Hp) (C : Addr) (cl : List (Str × Addr)) (fp : List Addr), PTs (X.blk s H scope (compEnvC scope cl C X.env) fp) ifs (tT G W0 tc))
    (he : ∀ (s : Shared) (H : Hp) (C : Addr) (cl : List (Str × Addr)) (fp : List Addr), PE (X.blk s H scope (compEnvC scope cl C X.env) fp) elt (tE G W0 me)) (hsl : ∀ i ∈ slotsG gt, i ∈ own.map (·.2)) {σ : L2.St} {H : Hp} {Q : VK}
    (hw : tE G W (fun E L => (mi E L).bind fun p L1 => (compL p.2 gt (wipeE E (own.map (·.2))) tc me p.1 [] L1).bind fun ds L2 => opt (some (newL lv ds L2))) σ H Q) :
    tLc (tI G W mi) (tG G gt) (tT G W0 tc) (tE G W0 me) (own.map (·.2)) σ H Q := by
  obtain ⟨wd, E, L, rs, w, run⟩ := hw
  refine ⟨wd, E, L, rs, w, run.bind.imp fun J H1 ⟨wd1, p, L1, e1, w1, r1, run1⟩ => fun Da hD => ?_⟩
  obtain ⟨ds, wt⟩ := p
  have nF := w1.fnone hD
  have nb : Da ∉ wd1.bor := fun z => by
    obtain ⟨o, ho⟩ := w1.bor _ z
    rw [nF] at ho; cases ho
  obtain ⟨wh, hh⟩ := hide_ok (xs := []) w1 hD
  have rs1 := rs.ext e1
  refine ⟨fun i m H => m = ds.length - i ∧ i ≤ ds.length ∧ ∃ wd2 acc accD L2, (∀ n a, wd1.ι n = some a → wd2.ι n = some a) ∧ (∀ a o, wd1.F a = some o → wd2.F a = some o) ∧ (∀ n a, wd2.ι n = some a → wd1.ι n = some a ∨ wd1.F a = none) ∧ Kp G wd1 wd2 ∧
      Hid G wd1 wd2 H Da acc ∧ WOk (G := G) wd2 H L2 ∧ RelDs G wd2 acc accD ∧ Run (G := G) (RelD G) W σ wd1 ((compL wt gt (wipeE E (own.map (·.2))) tc me (ds.drop i) accD L2).bind fun ds L2 => opt (some (newL lv ds L2))) Q,
    ⟨ds.length, by simp, Nat.zero_le _, wd1.hide Da [], [], [], L1, fun _ _ h => h, fun a o h => upd_keeps nF a o h, fun _ _ h => .inl h, fun _ _ => hide_rel nF, hh, wh, RelDs.nil, run1⟩, ?_⟩
  rintro i m H2 ⟨rfl, hi', wd2, acc, accD, L2, k1, k2, k3, k4, hid, w2, ra, run2⟩
  by_cases hlt : i < ds.length
  · right
    rw [List.drop_eq_getElem_cons hlt] at run2
    simp only [compL] at run2
    split at run2
    case isFalse => exact False.elim run2
    rename_i hstill
    cases qs : storeG gt ds[i] (wipeE E (own.map (·.2))) with
    | none => rw [qs] at run2; exact False.elim run2
    | some E' =>
      rw [qs] at run2
      dsimp only at run2
      refine ⟨r1.go k4 w2 hstill hlt, fun H' => ∃ m', m' < ds.length - i ∧ (m' = ds.length - (i + 1) ∧ i + 1 ≤ ds.length ∧ ∃ wd2 acc accD L2, (∀ n a, wd1.ι n = some a → wd2.ι n = some a) ∧ (∀ a o, wd1.F a = some o → wd2.F a = some o) ∧ (∀ n a, wd2.ι n = some a → wd1.ι n = some a ∨ wd1.F a = none) ∧ Kp G wd1 wd2 ∧
        Hid G wd1 wd2 H' Da acc ∧ WOk (G := G) wd2 H' L2 ∧ RelDs G wd2 acc accD ∧ Run (G := G) (RelD G) W σ wd1 ((compL wt gt (wipeE E (own.map (·.2))) tc me (ds.drop (i + 1)) accD L2).bind fun ds L2 => opt (some (newL lv ds L2))) Q), fun H' h => h, fun x H' y => ?_⟩
      obtain ⟨wd3, e3, w3, r3⟩ := r1.yld hlt k4 w2 hstill y
      have step : ∀ {wd4 : Wd} {H4 : Hp}, Ext wd3 wd4 → (∀ n a, wd1.ι n = some a → wd4.ι n = some a) ∧ (∀ a o, wd1.F a = some o → wd4.F a = some o) ∧ (∀ n a, wd4.ι n = some a → wd1.ι n = some a ∨ wd1.F a = none) ∧ Kp G wd1 wd4 ∧ Hid G wd1 wd4 H4 Da acc ∧ RelDs G wd4 acc accD := fun {wd4 H4} e4 => by
        have e24 := e3.trans e4
        refine ⟨fun n a h => e24.ι _ _ (k1 n a h), fun a o h => e24.F _ _ (k2 a o h), fun n a h => ?_, k4.trans (Kp.of e24), hid.ext e24, ra.ext G e24⟩
        rcases e24.new n a h with g | g
        · exact k3 n a g
        · refine .inr ?_
          cases q : wd1.F a with
          | none => rfl
          | some o => rw [k2 a o q] at g; cases g
      refine ⟨wd3, ds[i], wipeE E (own.map (·.2)), E', L2, relSt_wipe (((k4.st rs1)).ext e3) _, w3, r3, qs, fun σ' rs' so => ⟨?_, wd3, E', L2, rs', w3, ?_⟩⟩
      · rw [so.wipe hsl, wipe_wipe]
      · cases qt : tc E' L2 with
        | stuck => rw [qt] at run2; exact False.elim run2
        | exc C fs L' => rw [qt] at run2; exact False.elim run2
        | ok b L3 =>
          rw [qt] at run2
          simp only at run2
          intro wd4 H4 b' e4 w4 rb
          have rb : b' = b := rb
          subst rb
          cases b' with
          | false =>
            simp only [Bool.false_eq_true, if_false] at run2
            rw [if_neg Bool.false_ne_true]
            obtain ⟨s1, s2, s3, s4, s5, s6⟩ := step (H4 := H4) e4
            exact ⟨_, by omega, rfl, hlt, wd4, acc, accD, L3, s1, s2, s3, s4, s5, w4, s6, run2⟩
          | true =>
            simp only [if_true] at run2
            rw [if_pos rfl]
            refine ⟨wd4, E', L3, rs'.ext e4, w4, ?_⟩
            cases qm : me E' L3 with
            | stuck => rw [qm] at run2; exact False.elim run2
            | exc C fs L' => rw [qm] at run2; exact False.elim run2
            | ok xd L4 =>
              rw [qm] at run2
              simp only at run2
              intro wd5 H5 y5 e5 w5 ry
              split at run2
              case isFalse => exact False.elim run2
              rename_i hz
              obtain ⟨s1, s2, s3, s4, s5, s6⟩ := step (H4 := H5) (e4.trans e5)
              obtain ⟨w6, h6⟩ := s5.app w5 (acc ++ [y5])
              have len := RelDs.length s6
              have up : Kp G wd5 { wd5 with F := upd wd5.F Da (.lst (acc ++ [y5])) } := fun d v => hid_rel (wd' := { wd5 with F := upd wd5.F Da (.lst (acc ++ [y5])) }) s5 rfl (fun a n => upd_ne n) fun a z => z
              refine ⟨acc, hid_at s5 w5, by omega, _, by omega, rfl, hlt, { wd5 with F := upd wd5.F Da (.lst (acc ++ [y5])) }, acc ++ [y5], accD ++ [xd], L4, s1, fun a o h => ?_, s3, s4.trans up, h6, w6, up.list (RelDs.append s6 (RelDs.cons ry RelDs.nil)), run2⟩
              show upd wd5.F Da (.lst (acc ++ [y5])) a = some o
              rw [upd_ne (fun z => by rw [z, nF] at h; cases h)]
              exact s2 a o h
  · left
    have ei : i = ds.length := by omega
    subst ei
    rw [List.drop_length] at run2
    simp only [compL] at run2
    split at run2
    case isFalse => exact False.elim run2
    rename_i hstill
    refine ⟨r1.stop k4 w2 hstill (Nat.le_refl _), ?_⟩
    exact hid.end_ lv w2 ra k1 k2 k3 nF nb run2

def inn (mi1 : Ev → Live → Res (List D × List (Nat × List D))) (gt1 : Tg) (own1 : List Nat) (tc1 : Ev → Live → Res Bool) (me : Ev → Live → Res D) (E' : Ev) (acc : List D) (L' : Live) : Res (List D) :=
  (mi1 E' L').bind fun q L2 => compL q.2 gt1 (wipeE E' own1) tc1 me q.1 acc L2
theorem me_comp2 (lv : Bool) {own : List (Str × Nat)} {own1 : List Nat} {mi mi1 : Ev → Live → Res (List D × List (Nat × List D))} {gt gt1 : Tg} {tc tc1 : Ev → Live → Res Bool} {me : Ev → Live → Res D}
    (hsl : ∀ i ∈ slotsG gt, i ∈ own.map (·.2)) (hsl1 : ∀ i ∈ slotsG gt1, i ∈ own1) {σ : L2.St} {H : Hp} {Q : VK}
    (hw : tE G W (fun E L => (mi E L).bind fun p L1 => (compF p.2 gt (wipeE E (own.map (·.2))) tc (inn mi1 gt1 own1 tc1 me) p.1 [] L1).bind fun ds L2 => opt (some (newL lv ds L2))) σ H Q) :
    L2.tLc2 (tI G W mi) (tG G gt) (tT G W0 tc) (tI G W0 mi1) (tG G gt1) (tT G W0 tc1) (tE G W0 me) (own.map (·.2)) own1 σ H Q := by
  obtain ⟨wd, E, L, rs, w, run⟩ := hw
  refine ⟨wd, E, L, rs, w, run.bind.imp fun J H1 ⟨wd1, p, L1, e1, w1, r1, run1⟩ => fun Da hD => ?_⟩
  obtain ⟨ds, wt⟩ := p
  have nF := w1.fnone hD
  have nb : Da ∉ wd1.bor := fun z => by
    obtain ⟨o, ho⟩ := w1.bor _ z
    rw [nF] at ho; cases ho
  obtain ⟨wh, hh⟩ := hide_ok (xs := []) w1 hD
  have rs1 := rs.ext e1
  refine ⟨fun i m H => m = ds.length - i ∧ i ≤ ds.length ∧ ∃ wd2 acc accD L2, (∀ n a, wd1.ι n = some a → wd2.ι n = some a) ∧ (∀ a o, wd1.F a = some o → wd2.F a = some o) ∧ (∀ n a, wd2.ι n = some a → wd1.ι n = some a ∨ wd1.F a = none) ∧ Kp G wd1 wd2 ∧
      Hid G wd1 wd2 H Da acc ∧ WOk (G := G) wd2 H L2 ∧ RelDs G wd2 acc accD ∧ Run (G := G) (RelD G) W σ wd1 ((compF wt gt (wipeE E (own.map (·.2))) tc (inn mi1 gt1 own1 tc1 me) (ds.drop i) accD L2).bind fun ds L2 => opt (some (newL lv ds L2))) Q,
    ⟨ds.length, by simp, Nat.zero_le _, wd1.hide Da [], [], [], L1, fun _ _ h => h, fun a o h => upd_keeps nF a o h, fun _ _ h => .inl h, fun _ _ => hide_rel nF, hh, wh, RelDs.nil, run1⟩, ?_⟩
  rintro i m H2 ⟨rfl, hi', wd2, acc, accD, L2, k1, k2, k3, k4, hid, w2, ra, run2⟩
  by_cases hlt : i < ds.length
  · right
    rw [List.drop_eq_getElem_cons hlt] at run2
    simp only [compF] at run2
    split at run2
    case isFalse => exact False.elim run2
    rename_i hstill
    cases qs : storeG gt ds[i] (wipeE E (own.map (·.2))) with
    | none => rw [qs] at run2; exact False.elim run2
    | some E' =>
      rw [qs] at run2
      dsimp only at run2
      refine ⟨r1.go k4 w2 hstill hlt, fun H' => ∃ m', m' < ds.length - i ∧ (m' = ds.length - (i + 1) ∧ i + 1 ≤ ds.length ∧ ∃ wd2 acc accD L2, (∀ n a, wd1.ι n = some a → wd2.ι n = some a) ∧ (∀ a o, wd1.F a = some o → wd2.F a = some o) ∧ (∀ n a, wd2.ι n = some a → wd1.ι n = some a ∨ wd1.F a = none) ∧ Kp G wd1 wd2 ∧
        Hid G wd1 wd2 H' Da acc ∧ WOk (G := G) wd2 H' L2 ∧ RelDs G wd2 acc accD ∧ Run (G := G) (RelD G) W σ wd1 ((compF wt gt (wipeE E (own.map (·.2))) tc (inn mi1 gt1 own1 tc1 me) (ds.drop (i + 1)) accD L2).bind fun ds L2 => opt (some (newL lv ds L2))) Q), fun H' h => h, fun x H' y => ?_⟩
      obtain ⟨wd3, e3, w3, r3⟩ := r1.yld hlt k4 w2 hstill y
      have step : ∀ {wd4 : Wd} {H4 : Hp}, Ext wd3 wd4 → (∀ n a, wd1.ι n = some a → wd4.ι n = some a) ∧ (∀ a o, wd1.F a = some o → wd4.F a = some o) ∧ (∀ n a, wd4.ι n = some a → wd1.ι n = some a ∨ wd1.F a = none) ∧ Kp G wd1 wd4 ∧ Hid G wd1 wd4 H4 Da acc ∧ RelDs G wd4 acc accD := fun {wd4 H4} e4 => by
        have e24 := e3.trans e4
        refine ⟨fun n a h => e24.ι _ _ (k1 n a h), fun a o h => e24.F _ _ (k2 a o h), fun n a h => ?_, k4.trans (Kp.of e24), hid.ext e24, ra.ext G e24⟩
        rcases e24.new n a h with g | g
        · exact k3 n a g
        · refine .inr ?_
          cases q : wd1.F a with
          | none => rfl
          | some o => rw [k2 a o q] at g; cases g
      refine ⟨wd3, ds[i], wipeE E (own.map (·.2)), E', L2, relSt_wipe (((k4.st rs1)).ext e3) _, w3, r3, qs, fun σ' rs' so => ⟨?_, wd3, E', L2, rs', w3, ?_⟩⟩
      · rw [so.wipe hsl, wipe_wipe]
      · cases qt : tc E' L2 with
        | stuck => rw [qt] at run2; exact False.elim run2
        | exc C fs L' => rw [qt] at run2; exact False.elim run2
        | ok b L3 =>
          rw [qt] at run2
          simp only at run2
          intro wd4 H4 b' e4 w4 rb
          have rb : b' = b := rb
          subst rb
          cases b' with
          | false =>
            simp only [Bool.false_eq_true, if_false] at run2
            rw [if_neg Bool.false_ne_true]
            obtain ⟨s1, s2, s3, s4, s5, s6⟩ := step (H4 := H4) e4
            exact ⟨_, by omega, rfl, hlt, wd4, acc, accD, L3, s1, s2, s3, s4, s5, w4, s6, run2⟩
          | true =>
            simp only [if_true] at run2
            rw [if_pos rfl]
            cases qi : mi1 E' L3 with
            | stuck => simp only [inn, qi, Res.bind_stuck] at run2; exact False.elim run2
            | exc C fs L' => simp only [inn, qi] at run2; exact False.elim run2
            | ok q L4 =>
              simp only [inn, qi, Res.bind_ok] at run2
              cases qc : compL q.2 gt1 (wipeE E' own1) tc1 me q.1 accD L4 with
              | stuck => rw [qc] at run2; exact False.elim run2
              | exc C fs L' => rw [qc] at run2; exact False.elim run2
              | ok acc2 L5 =>
                rw [qc] at run2
                simp only at run2
                refine ⟨wd4, E', L3, rs'.ext e4, w4, ?_⟩
                rw [qi]
                intro wd5 H5 J1 e5 w5 r5
                obtain ⟨ds1, wt1⟩ := q
                obtain ⟨s1, s2, s3, s4, s5, s6⟩ := step (H4 := H5) (e4.trans e5)
                refine ⟨fun k n H => n = ds1.length - k ∧ k ≤ ds1.length ∧ ∃ wd6 acc6 accD6 L6, (∀ n a, wd1.ι n = some a → wd6.ι n = some a) ∧ (∀ a o, wd1.F a = some o → wd6.F a = some o) ∧ (∀ n a, wd6.ι n = some a → wd1.ι n = some a ∨ wd1.F a = none) ∧ Kp G wd1 wd6 ∧ Kp G wd5 wd6 ∧ Hid G wd1 wd6 H Da acc6 ∧ WOk (G := G) wd6 H L6 ∧ RelDs G wd6 acc6 accD6 ∧ compL wt1 gt1 (wipeE E' own1) tc1 me (ds1.drop k) accD6 L6 = .ok acc2 L5,
                  ⟨ds1.length, by simp, Nat.zero_le _, wd5, acc, accD, L4, s1, s2, s3, s4, fun _ _ r => r, s5, w5, s6, qc⟩, ?_⟩
                rintro k n H6 ⟨rfl, hk', wd6, acc6, accD6, L6, t1, t2, t3, t4, t45, hid6, w6, ra6, qc6⟩
                by_cases hlk : k < ds1.length
                · right
                  rw [List.drop_eq_getElem_cons hlk] at qc6
                  simp only [compL] at qc6
                  split at qc6
                  case isFalse => cases qc6
                  rename_i hst1
                  cases qs1 : storeG gt1 ds1[k] (wipeE E' own1) with
                  | none => rw [qs1] at qc6; cases qc6
                  | some E2 =>
                    rw [qs1] at qc6
                    dsimp only at qc6
                    refine ⟨r5.go t45 w6 hst1 hlk, fun H' => ∃ m', m' < ds1.length - k ∧ (m' = ds1.length - (k + 1) ∧ k + 1 ≤ ds1.length ∧ ∃ wd6 acc6 accD6 L6, (∀ n a, wd1.ι n = some a → wd6.ι n = some a) ∧ (∀ a o, wd1.F a = some o → wd6.F a = some o) ∧ (∀ n a, wd6.ι n = some a → wd1.ι n = some a ∨ wd1.F a = none) ∧ Kp G wd1 wd6 ∧ Kp G wd5 wd6 ∧ Hid G wd1 wd6 H' Da acc6 ∧ WOk (G := G) wd6 H' L6 ∧ RelDs G wd6 acc6 accD6 ∧ compL wt1 gt1 (wipeE E' own1) tc1 me (ds1.drop (k + 1)) accD6 L6 = .ok acc2 L5), fun H' h => h, fun x H' y => ?_⟩
                    obtain ⟨wd7, e7, w7, r7⟩ := r5.yld hlk t45 w6 hst1 y
                    have step1 : ∀ {wd8 : Wd} {H8 : Hp}, Ext wd7 wd8 → (∀ n a, wd1.ι n = some a → wd8.ι n = some a) ∧ (∀ a o, wd1.F a = some o → wd8.F a = some o) ∧ (∀ n a, wd8.ι n = some a → wd1.ι n = some a ∨ wd1.F a = none) ∧ Kp G wd1 wd8 ∧ Kp G wd5 wd8 ∧ Hid G wd1 wd8 H8 Da acc6 ∧ RelDs G wd8 acc6 accD6 := fun {wd8 H8} e8 => by
                      have e68 := e7.trans e8
                      refine ⟨fun n a h => e68.ι _ _ (t1 n a h), fun a o h => e68.F _ _ (t2 a o h), fun n a h => ?_, t4.trans (Kp.of e68), t45.trans (Kp.of e68), hid6.ext e68, ra6.ext G e68⟩
                      rcases e68.new n a h with g | g
                      · exact t3 n a g
                      · refine .inr ?_
                        cases q : wd1.F a with
                        | none => rfl
                        | some o => rw [t2 a o q] at g; cases g
                    refine ⟨wd7, ds1[k], wipeE E' own1, E2, L6, relSt_wipe (((t45.st ((rs'.ext e4).ext e5))).ext e7) _, w7, r7, qs1, fun σ3 rs3 so3 => ⟨?_, wd7, E2, L6, rs3, w7, ?_⟩⟩
                    · rw [so3.wipe hsl1, wipe_wipe]
                    · cases qt1 : tc1 E2 L6 with
                      | stuck => rw [qt1] at qc6; cases qc6
                      | exc C fs L' => rw [qt1] at qc6; cases qc6
                      | ok b1 L7 =>
                        rw [qt1] at qc6
                        simp only at qc6
                        intro wd8 H8 b2 e8 w8 rb1
                        have rb1 : b2 = b1 := rb1
                        subst rb1
                        cases b2 with
                        | false =>
                          simp only [Bool.false_eq_true, if_false] at qc6
                          rw [if_neg Bool.false_ne_true]
                          obtain ⟨u1, u2, u3, u4, u5, u6, u7⟩ := step1 (H8 := H8) e8
                          exact ⟨_, by omega, rfl, hlk, wd8, acc6, accD6, L7, u1, u2, u3, u4, u5, u6, w8, u7, qc6⟩
                        | true =>
                          simp only [if_true] at qc6
                          rw [if_pos rfl]
                          refine ⟨wd8, E2, L7, rs3.ext e8, w8, ?_⟩
                          cases qm : me E2 L7 with
                          | stuck => rw [qm] at qc6; cases qc6
                          | exc C fs L' => rw [qm] at qc6; cases qc6
                          | ok xd L8 =>
                            rw [qm] at qc6
                            simp only at qc6
                            intro wd9 H9 y9 e9 w9 ry
                            split at qc6
                            case isFalse => cases qc6
                            rename_i hz
                            obtain ⟨u1, u2, u3, u4, u5, u6, u7⟩ := step1 (H8 := H9) (e8.trans e9)
                            obtain ⟨wA, hA⟩ := u6.app w9 (acc6 ++ [y9])
                            have len := RelDs.length u7
                            have up : Kp G wd9 { wd9 with F := upd wd9.F Da (.lst (acc6 ++ [y9])) } := fun d v => hid_rel (wd' := { wd9 with F := upd wd9.F Da (.lst (acc6 ++ [y9])) }) u6 rfl (fun a n => upd_ne n) fun a z => z
                            refine ⟨acc6, hid_at u6 w9, by omega, _, by omega, rfl, hlk, { wd9 with F := upd wd9.F Da (.lst (acc6 ++ [y9])) }, acc6 ++ [y9], accD6 ++ [xd], L8, u1, fun a o h => ?_, u3, u4.trans up, u5.trans up, hA, wA, up.list (RelDs.append u7 (RelDs.cons ry RelDs.nil)), qc6⟩
                            show upd wd9.F Da (.lst (acc6 ++ [y9])) a = some o
                            rw [upd_ne (fun z => by rw [z, nF] at h; cases h)]
                            exact u2 a o h
                · left
                  have ek : k = ds1.length := by omega
                  subst ek
                  rw [List.drop_length] at qc6
                  simp only [compL] at qc6
                  split at qc6
                  case isFalse => cases qc6
                  rename_i hst1
                  cases qc6
                  exact ⟨r5.stop t45 w6 hst1 (Nat.le_refl _), _, by omega, rfl, hlt, wd6, acc6, acc2, L5, t1, t2, t3, t4, hid6, w6, ra6, run2⟩
  · left
    have ei : i = ds.length := by omega
    subst ei
    rw [List.drop_length] at run2
    simp only [compF] at run2
    split at run2
    case isFalse => exact False.elim run2
    rename_i hstill
    refine ⟨r1.stop k4 w2 hstill (Nat.le_refl _), ?_⟩
    exact hid.end_ lv w2 ra k1 k2 k3 nF nb run2

end
end MP
set_option maxHeartbeats 4000000
/-! MP: rules for statements -/
namespace MP
open PySem PySem.Spec PyProof.Rows L2
section
variable {G : Gv} {X : Cx} {W : WX} {a b c e o i tg : Expr} {es : List Expr} {ma mb mc mo mi me : Ev → Live → Res D} {ms : Ev → Live → Res (List D)} {pos p2 p apos cpos tpos : Pos} {st : Stmt} {rest body orelse : List Stmt}

variable (G) in
def RunS (W : WX) (wd : Wd) : SRes → Ends → Prop
  | .fl .nx E L, D => ∀ wd' σ' H', Ext wd wd' → WOk (G := G) wd' H' L → RelSt (G := G) wd' σ' E → D.nx σ' H'
  | .fl .bk E L, D => ∀ wd' σ' H', Ext wd wd' → WOk (G := G) wd' H' L → RelSt (G := G) wd' σ' E → D.bk σ' H'
  | .fl .ct E L, D => ∀ wd' σ' H', Ext wd wd' → WOk (G := G) wd' H' L → RelSt (G := G) wd' σ' E → D.ct σ' H'
  | .fl (.rt d) E L, D => ∀ wd' H' v, Ext wd wd' → WOk (G := G) wd' H' L → RelD G wd' v d → D.rt v H'
  | .exc C fs E L, D => ∀ wd' σ' H' cls dx, Ext wd wd' → WOk (G := G) wd' H' L → RelSt (G := G) wd' σ' E → RelX (G := G) wd' H' C fs cls dx → W cls dx σ' H'
  | .stuck, _ => False
variable (G) in
def tS (W : WX) (m : Ev → Live → SRes) : TS := fun D σ H => ∃ wd E L, RelSt (G := G) wd σ E ∧ WOk (G := G) wd H L ∧ RunS G W wd (m E L) D
theorem RunS.ext {wd wd1 : Wd} (e : Ext wd wd1) : ∀ {r : SRes} {D : Ends}, RunS G W wd r D → RunS G W wd1 r D
  | .fl .nx E L, D, h => fun wd' σ' H' e' => h wd' σ' H' (e.trans e')
  | .fl .bk E L, D, h => fun wd' σ' H' e' => h wd' σ' H' (e.trans e')
  | .fl .ct E L, D, h => fun wd' σ' H' e' => h wd' σ' H' (e.trans e')
  | .fl (.rt d) E L, D, h => fun wd' H' v e' => h wd' H' v (e.trans e')
  | .exc C fs E L, D, h => fun wd' σ' H' cls dx e' => h wd' σ' H' cls dx (e.trans e')
  | .stuck, D, h => h
theorem RunS.of {α β : Type} {rel : Wd → β → α → Prop} {wd : Wd} {σ : L2.St} {r : Res α} {E : Ev} {k : α → Live → SRes} {D : Ends} (rs : RelSt (G := G) wd σ E) (h : RunS G W wd (SRes.of r E k) D) :
    Run (G := G) rel W σ wd r fun v H1 => ∃ wd1 d L1, Ext wd wd1 ∧ WOk (G := G) wd1 H1 L1 ∧ rel wd1 v d ∧ RunS G W wd1 (k d L1) D := by
  cases r with
  | ok d L => exact fun wd' H' v e' w r => ⟨wd', d, L, e', w, r, RunS.ext e' h⟩
  | exc C fs L => exact fun wd' H' cls dx e' w x => h wd' σ H' cls dx e' w (rs.ext e') x
  | stuck => exact h
theorem RunS.seq {wd : Wd} {r : SRes} {k : Ev → Live → SRes} {D : Ends} (h : RunS G W wd (r.seq k) D) : RunS G W wd r { D with nx := fun σ' H' => tS G W k D σ' H' } := by
  cases r with
  | fl f E L =>
    cases f with
    | nx => exact fun wd' σ' H' e w rs => ⟨wd', E, L, rs, w, RunS.ext e h⟩
    | bk => exact h
    | ct => exact h
    | rt d => exact h
  | exc C fs E L => exact h
  | stuck => exact h
theorem psImp {st : Stmt} {t t' : TS} (h : PS X st t) (i : ∀ D σ H, t' D σ H → t D σ H) : PS X st t' := ⟨fun pins s σ H D I q => h.run pins s σ H D I (i D σ H q)⟩
theorem pssImp {st : List Stmt} {t t' : TS} (h : PSs X st t) (i : ∀ D σ H, t' D σ H → t D σ H) : PSs X st t' := ⟨fun pins s σ H D I q => h.run pins s σ H D I (i D σ H q)⟩

/-! ### blocks, small statements -/
theorem mss_nil : PSs X [] (tS G W fun E L => .fl .nx E L) := pssImp pss_nil fun D σ H ⟨wd, E, L, rs, w, run⟩ => run wd σ H (Ext.refl _) w rs
theorem mss_cons {m k : Ev → Live → SRes} (h1 : PS X st (tS G W m)) (h2 : PSs X rest (tS G W k)) : PSs X (st :: rest) (tS G W fun E L => (m E L).seq k) :=
  pssImp (pss_cons h1 h2) fun D σ H ⟨wd, E, L, rs, w, run⟩ => ⟨wd, E, L, rs, w, run.seq⟩
theorem ms_pass : PS X (.Pass pos) (tS G W fun E L => .fl .nx E L) := psImp ps_pass fun D σ H ⟨wd, E, L, rs, w, run⟩ => run wd σ H (Ext.refl _) w rs
theorem ms_break : PS X (.Break pos) (tS G W fun E L => .fl .bk E L) := psImp ps_break fun D σ H ⟨wd, E, L, rs, w, run⟩ => run wd σ H (Ext.refl _) w rs
theorem ms_continue : PS X (.Continue pos) (tS G W fun E L => .fl .ct E L) := psImp ps_continue fun D σ H ⟨wd, E, L, rs, w, run⟩ => run wd σ H (Ext.refl _) w rs
theorem ms_doc {x j pos'} : PS X (.Expr (.Constant (.str x) j pos) pos') (tS G W fun E L => .fl .nx E L) := psImp ps_doc fun D σ H ⟨wd, E, L, rs, w, run⟩ => run wd σ H (Ext.refl _) w rs
theorem ms_never : PS X st (tS G W fun _ _ => .stuck) := ⟨fun _ _ _ _ _ _ ⟨_, _, _, _, _, run⟩ => False.elim run⟩
theorem ms_expr (he : PE X e (tE G W me)) (hs : swapsWith e none pos.line X.env = pure false) : PS X (.Expr e pos) (tS G W fun E L => SRes.of (me E L) E fun _ L1 => .fl .nx E L1) :=
  psImp (ps_expr he hs) fun D σ H ⟨wd, E, L, rs, w, run⟩ => ⟨wd, E, L, rs, w, (RunS.of rs run).imp fun v H1 ⟨wd1, d, L1, e1, w1, r1, run1⟩ => run1 wd1 σ H1 (Ext.refl _) w1 (rs.ext e1)⟩
theorem ms_ret (he : PE X e (tE G W me)) : PS X (.Return (some e) pos) (tS G W fun E L => SRes.of (me E L) E fun d L1 => .fl (.rt d) E L1) :=
  psImp (ps_ret he) fun D σ H ⟨wd, E, L, rs, w, run⟩ => ⟨wd, E, L, rs, w, (RunS.of rs run).imp fun v H1 ⟨wd1, d, L1, e1, w1, r1, run1⟩ => run1 wd1 H1 v (Ext.refl _) w1 r1⟩
theorem ms_retN : PS X (.Return none pos) (tS G W fun E L => .fl (.rt .non) E L) :=
  psImp ps_retN fun D σ H ⟨wd, E, L, rs, w, run⟩ => run wd H .non (Ext.refl _) w (by simp [RelD])
theorem ms_if {tc : Ev → Live → Res Bool} {m k : Ev → Live → SRes} (hc : PT X c (tT G W tc)) (ha : PSs X body (tS G W m)) (hb : PSs X orelse (tS G W k)) :
    PS X (.If c body orelse pos) (tS G W fun E L => SRes.of (tc E L) E fun d L1 => if d then m E L1 else k E L1) :=
  psImp (ps_if hc ha hb) fun D σ H ⟨wd, E, L, rs, w, run⟩ => ⟨wd, E, L, rs, w, (RunS.of (rel := RB) rs run).imp fun v H1 ⟨wd1, d, L1, e1, w1, r1, run1⟩ => by
    have r1 : v = d := r1
    subst r1
    cases v with
    | true => exact ⟨wd1, E, L1, rs.ext e1, w1, run1⟩
    | false => exact ⟨wd1, E, L1, rs.ext e1, w1, run1⟩⟩

/-! ### assignments -/
variable (G) in
def tTG (W : WX) (m : D → Ev → Live → SRes) : TG := fun v σ H Q => ∃ wd d E L, RelSt (G := G) wd σ E ∧ WOk (G := G) wd H L ∧ RelD G wd v d ∧ RunS G W wd (m d E L) { nx := Q, rt := fun _ _ => False }
theorem mg_names {g : Tg} (h : PG X tg (tG G g)) : PG X tg (tTG G W fun d E L => match storeG g d E with | some E' => .fl .nx E' L | none => .stuck) :=
  pgImp h fun v σ H Q ⟨wd, d, E, L, rs, w, r, run⟩ => by
    dsimp only at run
    cases q : storeG g d E with
    | none => rw [q] at run; exact False.elim run
    | some E' =>
      rw [q] at run
      exact ⟨wd, d, E, E', L, rs, w, r, q, fun σ' rs' _ => run wd σ' H (Ext.refl _) w rs'⟩
theorem mg_sub (g : Gd G X) (ho : PE X o (tE G W mo)) (hi : PE X i (tE G W mi)) (ha : ∀ v, assign (.Subscript o i pos) X.env v = (do
      let ov ← holding [v] (eval o X.env)
      let iv ← holding [v, ov] (eval i X.env)
      standAt pos
      holding [v, ov, iv] (setItem ov iv v)
      release [v, ov, iv] [])) :
    PG X (.Subscript o i pos) (tTG G W fun d E L => SRes.of (mo E L) E fun x L1 => SRes.of (mi E L1) E fun y L2 => match setD x y d L2 with | some L3 => .fl .nx E L3 | none => .stuck) :=
  pgImp (pg_sub ho hi (set_ok g) ha) fun v σ H Q ⟨wd, d, E, L, rs, w, r, run⟩ => ⟨wd, E, L, rs, w, (RunS.of rs run).imp fun x H1 ⟨wd1, d1, L1, e1, w1, r1, run1⟩ =>
    ⟨wd1, E, L1, rs.ext e1, w1, (RunS.of (rs.ext e1) run1).imp fun y H2 ⟨wd2, d2, L2, e2, w2, r2, run2⟩ => by
      cases q : setD d1 d2 d L2 with
      | none => rw [q] at run2; exact False.elim run2
      | some L3 =>
        rw [q] at run2
        exact ⟨wd2, d1, d2, d, L2, L3, w2, r1.ext G e2, r2, (r.ext G e1).ext G e2, q, fun wd' H' e' w' => run2 wd' σ H' e' w' (((rs.ext e1).ext e2).ext e')⟩⟩⟩
theorem ms_asg {mt : D → Ev → Live → SRes} (he : PE X e (tE G W me)) (hg : PG X tg (tTG G W mt)) (hn : ∀ d E L, ∀ r, mt d E L = r → (∃ E' L', r = .fl .nx E' L') ∨ (∃ C fs E' L', r = .exc C fs E' L') ∨ r = .stuck)
    (hs : swapsWithSole [tg] e pos.line X.env = pure false) (hw : swappedStores [tg] e X.env = pure none) (h1 : (assignEach [tg] X.env).map (·.2) = [assign tg X.env]) :
    PS X (.Assign [tg] e pos) (tS G W fun E L => SRes.of (me E L) E fun d L1 => mt d E L1) :=
  psImp (ps_asg he hg hs hw h1) fun D σ H ⟨wd, E, L, rs, w, run⟩ => ⟨wd, E, L, rs, w, (RunS.of rs run).imp fun v H1 ⟨wd1, d, L1, e1, w1, r1, run1⟩ => by
    refine ⟨wd1, d, E, L1, rs.ext e1, w1, r1, ?_⟩
    rcases hn d E L1 _ rfl with ⟨E', L', q⟩ | ⟨C, fs, E', L', q⟩ | q
    · rw [q] at run1 ⊢; exact run1
    · rw [q] at run1 ⊢; exact run1
    · rw [q] at run1 ⊢; exact run1⟩
/-- two names at once -/
theorem ms_par2 (g : Gd G X) {i j : Nat} {x y : Str} {px py pt : Pos} {kt k2 pt2} (hi : X.N[i]? = some x) (hj : X.N[j]? = some y) (hij : i ≠ j) (hx : X.env.scope.names.lookup x = some .local) (hy : X.env.scope.names.lookup y = some .local) (ha : PA X [a, b] (tA G W ms))
    (hw : swappedStores [.Tuple [.Name x px, .Name y py] kt pt] (.Tuple [a, b] k2 pt2) X.env = pure (some [x, y])) :
    PS X (.Assign [.Tuple [.Name x px, .Name y py] kt pt] (.Tuple [a, b] k2 pt2) pos) (tS G W fun E L => SRes.of (ms E L) E fun ds L1 => if [i, j].length = ds.length then .fl .nx (setAll [i, j] ds E) L1 else .stuck) :=
  psImp (ps_par (pos := pos) g.calm g.nd hi hj hij hx hy ha hw rfl) fun D σ H ⟨wd, E, L, rs, w, run⟩ => ⟨wd, E, L, rs, w, (RunS.of rs run).imp fun vs H1 ⟨wd1, ds, L1, e1, w1, r1, run1⟩ => by
    split at run1
    case isFalse => exact False.elim run1
    rename_i hl
    match ds, hl with
    | [d1, d2], _ =>
      obtain ⟨v1, v2, rfl, r2, r3⟩ := two_of r1
      exact ⟨v1, v2, rfl, run1 wd1 _ H1 (Ext.refl _) w1 (((rs.ext e1).set i r2).set j r3)⟩⟩
/-- three -/
theorem ms_par3 (g : Gd G X) {i j k : Nat} {x y z : Str} {px py pz pt : Pos} {kt k2 pt2} {d : Expr} (hi : X.N[i]? = some x) (hj : X.N[j]? = some y) (hk : X.N[k]? = some z) (hij : i ≠ j) (hik : i ≠ k) (hjk : j ≠ k)
    (hx : X.env.scope.names.lookup x = some .local) (hy : X.env.scope.names.lookup y = some .local) (hz : X.env.scope.names.lookup z = some .local) (ha : PA X [a, b, d] (tA G W ms))
    (hw : swappedStores [.Tuple [.Name x px, .Name y py, .Name z pz] kt pt] (.Tuple [a, b, d] k2 pt2) X.env = pure (some [x, y, z])) :
    PS X (.Assign [.Tuple [.Name x px, .Name y py, .Name z pz] kt pt] (.Tuple [a, b, d] k2 pt2) pos) (tS G W fun E L => SRes.of (ms E L) E fun ds L1 => if [i, j, k].length = ds.length then .fl .nx (setAll [i, j, k] ds E) L1 else .stuck) := by
  refine ⟨fun pins s σ H D I ⟨wd, E, L, rs, w, run⟩ => ?_⟩
  rw [exec_Assign_arm]
  refine wpAny_bind (wpAny_standAt ?_)
  rw [show swapsWithSole [.Tuple [.Name x px, .Name y py, .Name z pz] kt pt] (.Tuple [a, b, d] k2 pt2) pos.line X.env = pure false from rfl]
  refine wpAny_bind (wpAny_pure ?_)
  rw [if_neg (by decide)]
  refine wpAny_bind (Tuple_ (thn (ha.run _ pins s σ H _ I ⟨wd, E, L, rs, w, RunS.of rs run⟩) fun us s1 ⟨vs, H1, I1, r1, wd1, ds, L1, e1, w1, rd1, run1⟩ => ?_))
  split at run1
  case isFalse => exact False.elim run1
  rename_i hl
  match ds, hl with
  | [d1, d2, d3], _ =>
    simp only [RelDs] at rd1
    obtain ⟨v1, _, rfl, q1, v2, _, rfl, q2, v3, _, rfl, q3, rfl⟩ := rd1
    cases r1 with
    | @cons _ u1 _ _ p1 t1 =>
      cases t1 with
      | @cons _ u2 _ _ p2 t2 =>
        cases t2 with
        | @cons _ u3 _ _ p3 t3 =>
          cases t3
          refine wpAny_newObj_type ?_ (by show 3 ≤ sizeLine; decide)
          have I2 : Inv X pins σ H1 { s1 with heap := s1.heap.push { cls := .type "tuple", data := .seq [u1, u2, u3].toArray } } := I1.kept (t' := s1.toks) fun b o e => Heap.get?_push_of_some _ e
          rw [hw]
          refine wpAny_bind (wpAny_pure ?_)
          show wpAny (model X.prog X.w) X.A (do rule "assign.swapped-stores"; let items ← unpackItems (.ref s1.heap.objs.size) 3 none; assignInOrder [fun v => bindName X.env z v, fun v => bindName X.env y v, fun v => bindName X.env x v] items.reverse; pure Flow.next) _ _ _
          refine wpAny_bind (wpAny_rule (wpAny_bind (unpackItems_tuple (items := #[u1, u2, u3]) (I.ok.hd g.calm) (IsTup.new s1.heap _) fun h' hx' => ?_)))
          have I3 := I2.kept (h' := h') (t' := s1.toks) fun b o e => hx' b o (Nat.ne_of_lt (Heap.lt_size e)) e
          show wpAny _ _ (assignInOrder [fun v => bindName X.env z v, fun v => bindName X.env y v, fun v => bindName X.env x v] [u3, u2, u1] >>= fun _ => pure Flow.next) _ _ _
          refine wpAny_bind (assignInOrder_cons (wpAny_bindName (store_ok I3 g.nd hk (.inl hz) p3 (fun s2 I4 => ?_) (.inr hz))))
          refine assignInOrder_cons (wpAny_bindName (store_ok I4 g.nd hj (.inl hy) p2 (fun s3 I5 => ?_) (.inr hy)))
          refine assignInOrder_cons (wpAny_bindName (store_ok I5 g.nd hi (.inl hx) p1 (fun s4 I6 => assignInOrder_nil (wpAny_pure ?_)) (.inr hx)))
          rw [List.set_comm _ _ (Ne.symm hjk), List.set_comm _ _ (Ne.symm hik), List.set_comm _ _ (Ne.symm hij)] at I6
          refine ⟨_, H1, I6, ?_⟩
          have := run1 wd1 _ H1 (Ext.refl _) w1 ((((rs.ext e1).set i q1).set j q2).set k q3)
          first | exact this | (rw [List.set_comm _ _ (Ne.symm hjk)]; exact this) | (rw [List.set_comm _ _ hjk]; exact this)
/-- name op= e, ints -/
theorem ms_aug (g : Gd G X) {i : Nat} {x : Str} {op : Bop} (hop : op = .add ∨ op = .sub) (hi : X.N[i]? = some x) (hx : Loc X.env.scope x) (he : PE X e (tE G W me)) (hf : X.fn x = true ∨ X.env.scope.names.lookup x = some .local) :
    PS X (.AugAssign (.Name x p) (bopM op) e pos) (tS G W fun E L => match E[i]? with
      | some (some x) => SRes.of (me E L) E fun y L1 => match x with
        | .int a => match y with
          | .int b => match op with
            | .add => .fl .nx (E.set i (some (.int (a + b)))) L1
            | .sub => .fl .nx (E.set i (some (.int (a - b)))) L1
            | _ => .stuck
          | _ => .stuck
        | _ => .stuck
      | _ => .stuck) := by
  have ho : PIp X (bopM op) (ipI fun a b => if op = .add then a + b else a - b) := by
    rcases hop with rfl | rfl
    · exact ip_add
    · exact ip_sub
  refine psImp (ps_aug g.nd hi hx he ho hf) fun D σ H ⟨wd, E, L, rs, w, run⟩ => ?_
  dsimp only at run
  cases q : E[i]? with
  | none => rw [q] at run; exact False.elim run
  | some z =>
    rw [q] at run
    cases z with
    | none => exact False.elim run
    | some d =>
      obtain ⟨v, h1, h2⟩ := rs.2 i d q
      refine ⟨v, h1, wd, E, L, rs, w, (RunS.of rs run).imp fun u H1 ⟨wd1, d2, L1, e1, w1, r1, run1⟩ => ?_⟩
      cases d with
      | int m =>
        cases d2 with
        | int n =>
          simp only [RelD] at h2 r1
          subst h2 r1
          refine ⟨m, n, rfl, rfl, ?_⟩
          rcases hop with rfl | rfl
          · exact run1 wd1 _ H1 (Ext.refl _) w1 ((rs.ext e1).set i (by simp [RelD]))
          · exact run1 wd1 _ H1 (Ext.refl _) w1 ((rs.ext e1).set i (by simp [RelD]))
        | _ => exact False.elim run1
      | _ => exact False.elim run1
theorem ms_del (ho : PE X o (tE G W mo)) (hi : PE X i (tE G W mi)) : PS X (.Delete [.Subscript o i tpos] pos) (tS G W fun E L => SRes.of (mo E L) E fun x L1 => SRes.of (mi E L1) E fun y L2 => match delD x y L2 with | some L3 => .fl .nx E L3 | none => .stuck) := by
  refine ⟨fun pins s σ H D I ⟨wd, E, L, rs, w, run⟩ => ?_⟩
  refine wpAny_Delete (wpAny_deleteEach_cons (wpAny_delete_Subscript (thn (ho.run pins s σ H _ I ⟨wd, E, L, rs, w, RunS.of rs run⟩) fun u s1 ⟨x, H1, I1, rx, wd1, d1, L1, e1, w1, r1, run1⟩ =>
    thn (hi.run pins s1 σ H1 _ I1 ⟨wd1, E, L1, rs.ext e1, w1, RunS.of (rs.ext e1) run1⟩) fun iv s2 ⟨y, H2, I2, ry, wd2, d2, L2, e2, w2, r2, run2⟩ => ?_)))
  cases q : delD d1 d2 L2 with
  | none => rw [q] at run2; exact False.elim run2
  | some L3 =>
    rw [q] at run2
    exact del_ok I2 rx ry w2 (r1.ext G e2) r2 q fun H' s' I' w' => wpAny_deleteEach_nil ⟨σ, H', I', run2 wd2 σ H' (Ext.refl _) w' ((rs.ext e1).ext e2)⟩

/-! ### loops -/
theorem ms_for (g : Gd G X) (hp : PassesOwn (model X.prog X.w) X.A X.env X.xe) {iter : Expr} {gt : Tg} {mi : Ev → Live → Res (List D × List (Nat × List D))} {m : Ev → Live → SRes} (hi : PI X tg iter (tI G W mi)) (hg : PG X tg (tG G gt)) (hb : PSs X body (tS G W m)) (hs : ∀ x, foldedSetIterable iter X.env x = pure x) :
    PS X (.For tg iter body [] pos) (tS G W fun E L => SRes.of (mi E L) E fun p L1 => forL p.2 gt m p.1 E L1) :=
  psImp (ps_for hp g.calm hi hg hb hs) fun D σ H ⟨wd, E, L, rs, w, run⟩ => ⟨wd, E, L, rs, w, (RunS.of rs run).imp fun J H1 ⟨wd1, p, L1, e1, w1, r1, run1⟩ => by
    obtain ⟨ds, wt⟩ := p
    refine ⟨fun i mm σ H => mm = ds.length - i ∧ i ≤ ds.length ∧ ∃ wd2 E2 L2, Ext wd1 wd2 ∧ RelSt (G := G) wd2 σ E2 ∧ WOk (G := G) wd2 H L2 ∧ RunS G W wd2 (forL wt gt m (ds.drop i) E2 L2) D, ⟨ds.length, by simp, Nat.zero_le _, wd1, E, L1, Ext.refl _, rs.ext e1, w1, run1⟩, ?_⟩
    rintro i mm σ2 H2 ⟨rfl, hi', wd2, E2, L2, e2, rs2, w2, run2⟩
    by_cases hlt : i < ds.length
    · right
      rw [List.drop_eq_getElem_cons hlt] at run2
      simp only [forL] at run2
      split at run2
      case isFalse => exact False.elim run2
      rename_i hstill
      cases qs : storeG gt ds[i] E2 with
      | none => rw [qs] at run2; exact False.elim run2
      | some E' =>
        rw [qs] at run2
        dsimp only at run2
        refine ⟨r1.go (Kp.of e2) w2 hstill hlt, fun σ' H' => ∃ m', m' < ds.length - i ∧ (m' = ds.length - (i + 1) ∧ i + 1 ≤ ds.length ∧ ∃ wd2 E2 L2, Ext wd1 wd2 ∧ RelSt (G := G) wd2 σ' E2 ∧ WOk (G := G) wd2 H' L2 ∧ RunS G W wd2 (forL wt gt m (ds.drop (i + 1)) E2 L2) D), fun σ' H' h => h, fun x H' y => ?_⟩
        obtain ⟨wd3, e3, w3, r3⟩ := r1.yld hlt (Kp.of e2) w2 hstill y
        refine ⟨wd3, ds[i], E2, E', L2, rs2.ext e3, w3, r3, qs, fun σ' rs' so => ⟨wd3, E', L2, rs', w3, ?_⟩⟩
        cases qb : m E' L2 with
        | stuck => rw [qb] at run2; exact False.elim run2
        | exc C fs E3 L3 => rw [qb] at run2; exact RunS.ext e3 run2
        | fl f E3 L3 =>
          rw [qb] at run2
          cases f with
          | nx => exact fun wd4 σ4 H4 e4 w4 rs4 => ⟨_, by omega, rfl, hlt, wd4, E3, L3, (e2.trans e3).trans e4, rs4, w4, RunS.ext (e3.trans e4) run2⟩
          | ct => exact fun wd4 σ4 H4 e4 w4 rs4 => ⟨_, by omega, rfl, hlt, wd4, E3, L3, (e2.trans e3).trans e4, rs4, w4, RunS.ext (e3.trans e4) run2⟩
          | bk => exact fun wd4 σ4 H4 e4 w4 rs4 => run2 wd4 σ4 H4 (e3.trans e4) w4 rs4
          | rt d => exact RunS.ext (D := D) e3 run2
    · left
      have ei : i = ds.length := by omega
      subst ei
      rw [List.drop_length] at run2
      simp only [forL] at run2
      split at run2
      case isFalse => exact False.elim run2
      rename_i hstill
      exact ⟨r1.stop (Kp.of e2) w2 hstill (Nat.le_refl _), run2 wd2 σ2 H2 (Ext.refl _) w2 rs2⟩⟩
theorem ms_while (hp : PassesOwn (model X.prog X.w) X.A X.env X.xe) (fuel : Nat) {tc : Ev → Live → Res Bool} {m : Ev → Live → SRes} (hc : PT X c (tT G W tc)) (hb : PSs X body (tS G W m)) : PS X (.While c body [] pos) (tS G W fun E L => whlL tc m fuel E L) :=
  psImp (ps_while hp hc hb) fun D σ H ⟨wd, E, L, rs, w, run⟩ => by
    refine ⟨fun n σ H => ∃ wd E L, RelSt (G := G) wd σ E ∧ WOk (G := G) wd H L ∧ RunS G W wd (whlL tc m n E L) D, ⟨fuel, wd, E, L, rs, w, run⟩, ?_⟩
    rintro n σ2 H2 ⟨wd2, E2, L2, rs2, w2, run2⟩
    cases n with
    | zero => exact False.elim run2
    | succ n =>
      simp only [whlL] at run2
      refine ⟨wd2, E2, L2, rs2, w2, (RunS.of (rel := RB) rs2 run2).imp fun k H3 ⟨wd3, d, L3, e3, w3, r3, run3⟩ => ?_⟩
      have r3 : k = d := r3
      subst r3
      cases k with
      | false => exact run3 wd3 σ2 H3 (Ext.refl _) w3 (rs2.ext e3)
      | true =>
        rw [if_pos rfl] at run3 ⊢
        refine ⟨fun σ' H' => ∃ m', m' < n + 1 ∧ ∃ wd E L, RelSt (G := G) wd σ' E ∧ WOk (G := G) wd H' L ∧ RunS G W wd (whlL tc m m' E L) D, fun _ _ h => h, wd3, E2, L3, rs2.ext e3, w3, ?_⟩
        cases qb : m E2 L3 with
        | stuck => rw [qb] at run3; exact False.elim run3
        | exc C fs E4 L4 => rw [qb] at run3; exact run3
        | fl f E4 L4 =>
          rw [qb] at run3
          cases f with
          | nx => exact fun wd4 σ4 H4 e4 w4 rs4 => ⟨n, by omega, wd4, E4, L4, rs4, w4, RunS.ext e4 run3⟩
          | ct => exact fun wd4 σ4 H4 e4 w4 rs4 => ⟨n, by omega, wd4, E4, L4, rs4, w4, RunS.ext e4 run3⟩
          | bk => exact run3
          | rt d => exact run3
end
end MP
set_option maxHeartbeats 4000000
/-! MP: defs and their calls -/
namespace MP
open PySem PySem.Spec PyProof.Rows L2

/-- a promise by positional values; no walk over a value is under way -/
def FnG (P : Program) (w : World) (K : PySem.W.Frag) (mg : Str → Option Value) (base : Heap) (k : Nat) (f : Addr) (sp : Sp) : Prop :=
  ∀ (A : Around) (outer : List Env) (s : Shared) (H : Hp) (us : List Value) (vs : List V) (Q : VK) (E : XK), Room k A → A.guards = some [] → Env0 P w K mg base A outer s H → Vals vs us → sp vs H Q E →
    codeAny (model P w) A (.call (.ref f) ⟨us, []⟩) (CR (CX P w) outer P w H s Q E) s
section
variable {P : Program} {w : World} {K : PySem.W.Frag} {mg : Str → Option Value} {base : Heap} {j k : Nat} {f : Addr} {sp sp' : Sp}
theorem FnG.mono (F : FnG P w K mg base j f sp) (h : j ≤ k) : FnG P w K mg base k f sp := fun A outer s H us vs Q E hr => F A outer s H us vs Q E (hr.mono h)
theorem FnG.imp (F : FnG P w K mg base k f sp) (h : ∀ vs H Q E, sp' vs H Q E → sp vs H Q E) : FnG P w K mg base k f sp' := fun A outer s H us vs Q E hr hg e0 r hs => F A outer s H us vs Q E hr hg e0 r (h _ _ _ _ hs)
/-- a def by its body -/
theorem fnG_of {x qual : Str} {params : Arguments} {body : List Stmt} {scope : Scope} {fd : FuncData} {N ps : List Str} (F : FunD K x qual params body scope [] [] f fd) (S : FnScope N ps scope)
    (hb : ∀ (kV doc pm : Value) (an : Option Addr) (cdv ct : Value) (us : List Value), us.length = ps.length → bindArgs (PySem.W.fnOf x qual params body scope .none kV doc pm an cdv ct) ⟨us, []⟩ = pure (ps.zip us))
    (len : ∀ vs H Q E, sp vs H Q E → vs.length = ps.length)
    (hbody : ∀ (cdv : Value) (A : Around) (outer : List Env) (s : Shared) (H : Hp) (vs : List V) (Q : VK) (E : XK), Room k (A.deeper (envOfC qual scope s.heap.objs.size f cdv)) → A.guards = some [] → sp vs H Q E →
      ∃ t, PSs (cxOf (CX P w) P w K mg base N qual scope f cdv A outer s H E) body t ∧ t { nx := fun _ H' => Q .non H', rt := Q } (start N vs) H) : FnG P w K mg base (k + 1) f sp := by
  intro A outer s H us vs Q E hr hgu e0 r hsp
  have hl := len _ _ _ _ hsp
  have hlu : us.length = ps.length := by rw [← r.length]; exact hl
  obtain ⟨oc, od, dV, kV, doc, pm, an, cdv, ct, osl, rfl, lk, hcd, hD, _⟩ := F.ex
  have edV : dV = .none := by
    rcases hD with ⟨_, h⟩ | ⟨h, _⟩
    · exact h
    · exact absurd rfl h
  subst edV
  have KX : K.In s.heap := e0.mod.kin.keeps fun b o e => (e0.bs b o e).1
  have lim : s.heap.NoLimit := e0.mod.nolimit.keeps fun b o e => (e0.bs b o e).1
  refine codeAny_call_function hr.depth (KX _ _ lk) rfl S.co S.gen rfl (PySem.W.codeRec_of KX hcd) (BindsTo.of_eq (hb kV doc pm an cdv ct us hlu) _ _ _ _ ?_)
  refine wpAny_newFunctionEnv_cells S.kind (fun ⟨n, v⟩ hy => ?_) fun env he s1 x => ?_
  · rcases S.par n (List.of_mem_zip hy).1 with q | q
    · exact .inl q
    · exact .inr ⟨q, PySem.W.cellsFrom_some _ _ _ (.inl q)⟩
  · subst he
    refine ⟨lim.keeps x.toInCall.keep, codeAny_func ?_⟩
    obtain ⟨t, ht, hq⟩ := hbody cdv A outer s H vs Q E (hr.deeper _) hgu hsp
    refine wpAny_mono (ht.run [] s1 (start N vs) H _ (inv_start S hr.hd e0 hl r x) hq) (fun fl s' hs => ?_) fun e s' hs => hs
    cases fl with
    | ret u => obtain ⟨v, σ', H', J, rv, q⟩ := hs; exact ⟨v, H', J.os, J.bare, J.base, J.hok, rv, q⟩
    | next => obtain ⟨σ', H', J, q⟩ := hs; exact ⟨V.non, H', J.os, J.bare, J.base, J.hok, rfl, q⟩
    | brk => obtain ⟨_, _, _, q⟩ := hs; exact False.elim q
    | cont => obtain ⟨_, _, _, q⟩ := hs; exact False.elim q
end

/-! ### the promise of an evaluator -/
section
variable {G : Gv} {wd : Wd} {H : Hp} {L L' : Live} {m : List D → Live → Res D}
def RunX (G : Gv) (E : XK) (wd : Wd) (r : Res D) (Q : VK) : Prop := match r with
  | .ok d L => ∀ wd' H' v, Ext wd wd' → WOk (G := G) wd' H' L → RelD G wd' v d → Q v H'
  | .exc C fs L => ∀ wd' H' cls dx, Ext wd wd' → WOk (G := G) wd' H' L → RelX (G := G) wd' H' C fs cls dx → E cls dx H'
  | .stuck => False
theorem RunX.of {W : WX} {σ : L2.St} {r : Res D} {Q : VK} (h : Run (G := G) (RelD G) W σ wd r Q) : RunX G (fun cls dx H' => W cls dx σ H') wd r Q := by
  cases r <;> exact h
theorem RunX.to {E : XK} {σ : L2.St} {r : Res D} {Q : VK} (h : RunX G E wd r Q) : Run (G := G) (RelD G) (fun cls dx _ H' => E cls dx H') σ wd r Q := by
  cases r <;> exact h
def spM (G : Gv) (m : List D → Live → Res D) : Sp := fun vs H Q E => ∃ wd ds L, WOk (G := G) wd H L ∧ RelDs G wd vs ds ∧ RunX G E wd (m ds L) Q
theorem spM_clean (vs : List V) (H : Hp) (Q : VK) (E : XK) (h : spM G (fun ds L => cleanR L (m ds L)) vs H Q E) : spM G m vs H Q E := by
  obtain ⟨wd, ds, L, w, r, run⟩ := h
  refine ⟨wd, ds, L, w, r, ?_⟩
  dsimp only at run
  cases q : m ds L with
  | stuck => rw [q] at run; exact False.elim run
  | ok d L' =>
    rw [q] at run
    simp only [cleanR] at run
    cases q1 : fzF L.length L' 12 d with
    | none => rw [q1] at run; exact False.elim run
    | some e =>
      rw [q1] at run
      simp only at run
      cases q2 : cutL L.length L' L L' with
      | none => rw [q2] at run; exact False.elim run
      | some R =>
        rw [q2] at run
        exact fun wd' H' v e' w' r' => run _ H' v (clean_ext w w' e') (clean_ok w w' e' q2) (fzF_rel w' q1 r')
  | exc C fs L' =>
    rw [q] at run
    simp only [cleanR] at run
    cases q1 : mapO (fzP L.length L') fs with
    | none => rw [q1] at run; exact False.elim run
    | some gs =>
      rw [q1] at run
      simp only at run
      cases q2 : cutL L.length L' L L' with
      | none => rw [q2] at run; exact False.elim run
      | some R =>
        rw [q2] at run
        intro wd' H' cls dx e' w' r'
        obtain ⟨ca, h1, h2, h3⟩ := r'
        refine run _ H' cls dx (clean_ext w w' e') (clean_ok w w' e' q2) ⟨ca, h1, h2, fun ne => ?_⟩
        have nf : fs ≠ [] := fun z => by
          subst z
          simp only [mapO, Option.some.injEq] at q1
          exact ne q1.symm
        obtain ⟨d, hs, h4, h5, h6⟩ := h3 nf
        exact ⟨d, hs, h4, h5, paired_fz w' q1 h6⟩
/-- a call that lends -/
theorem spM_callW {c : Cxt} {f : Nat} {W : WX} {σ : L2.St} {vs : List V} {ds : List D} {Q : VK} (w : WOk (G := G) wd H L) (r : RelDs G wd vs ds) (run : Run (G := G) (RelD G) W σ wd (callW c f ds L) Q) :
    spM G (c.φ f) vs H Q fun cls dx H' => W cls dx σ H' := by
  unfold callW at run
  cases q : idsAs L (c.liv f) ds with
  | nil =>
    rw [q] at run
    exact ⟨wd, ds, L, w, r, RunX.of run⟩
  | cons i ids =>
    rw [q] at run
    simp only at run
    have hl : ∀ k ∈ i :: ids, ∃ ds, L[k]? = some (.lst ds) := fun k hk => idsAs_lst (by rw [q]; exact hk)
    cases q1 : lendAs L (c.liv f) ds with
    | none => rw [q1] at run; exact False.elim run
    | some es =>
      rw [q1] at run
      simp only at run
      refine ⟨wd.lend H (i :: ids), es, maskL (i :: ids) L, lend_ok w hl, lendAs_rel w hl q1 (fun k hk => by rw [← q]; exact hk) r, ?_⟩
      cases q2 : c.φ f es (maskL (i :: ids) L) with
      | stuck => rw [q2] at run; exact False.elim run
      | ok d L' =>
        rw [q2] at run
        exact fun wd' H' v e' w' r' => run _ H' v (unlend_ext w hl e') (unlend_ok w hl e' w') (th_rel w hl e' w' r')
      | exc C fs L' =>
        rw [q2] at run
        intro wd' H' cls dx e' w' r'
        obtain ⟨ca, h1, h2, h3⟩ := r'
        refine run _ H' cls dx (unlend_ext w hl e') (unlend_ok w hl e' w') ⟨ca, h1, h2, fun ne => ?_⟩
        obtain ⟨d, hs, h4, h5, h6⟩ := h3 (fun z => ne (by rw [z]; rfl))
        exact ⟨d, hs, h4, h5, paired_map_r h6 fun p q hp => ⟨hp.1, th_rel w hl e' w' hp.2⟩⟩
end

/-! ### calls -/
section
variable {G : Gv} {X : Cx} {W : WX} {e : Expr} {es : List Expr} {ms : Ev → Live → Res (List D)} {pos p : Pos} {x : Str} {k : Nat} {fa : Addr} {c : Cxt} {f : Nat}
theorem run_g {pins : List (Addr × Obj)} {σ : L2.St} {H : Hp} {s : Shared} {Q : VK} {us : List Value} {vs : List V} {sp : Sp} (F : FnG X.prog X.w X.K X.mg X.base k fa sp) (hr : Room k X.A) (hg : X.A.guards = some []) (tk : Takes X W)
    (I : Inv X pins σ H s) (r : Vals vs us) (h : sp vs H Q fun cls dx H' => W cls dx σ H') : wpAny (model X.prog X.w) X.A (call (.ref fa) us) (EP X pins σ Q) X.xe s := by
  refine wpAny_call (codeAny_mono (F X.A X.stack s H us vs Q _ hr hg I.env0 r h) fun r s' hq => ?_)
  cases r with
  | error e => exact tk e s' (XE.of_call I (fun cls d H' h => h) hq)
  | ok fl =>
    cases fl with
    | ret u => exact I.after hq
    | next => exact False.elim hq
    | brk => exact False.elim hq
    | cont => exact False.elim hq
theorem me_call (g : Gd G X) (F : FnG X.prog X.w X.K X.mg X.base k fa (spM G (c.φ f))) (hr : Room k X.A) (tk : Takes X W) (hg : Gl X x) (hm : X.mg x = some (.ref fa)) (hk : PySem.W.keepIn X.K (.ref fa) = true) (ha : PA X (e :: es) (tA G W ms))
    (hdb : (x == ("__debug__" : Str)) = false) (he : starEach (e :: es) X.env = (false, eval e X.env) :: starEach es X.env) (hpl : (backTo pos (starEach es X.env)).any (·.1) = false) :
    PE X (.Call (.Name x p) (e :: es) [] pos) (tE G W fun E L => (ms E L).bind fun ds L1 => callW c f ds L1) := by
  refine ⟨fun pins s σ H Q I ⟨wd, E, L, rs, w, run⟩ => ?_⟩
  refine wpAny_Call_Name_kw (ld_glob I hg hm ?_ hdb)
  refine PySem.W.callWith_K (h₀ := X.base) I.ok.mod.kin hk (thn (ha.run pos pins s σ H _ I ⟨wd, E, L, rs, w, run.bind⟩) fun us s1 ⟨vs, H1, I1, r, wd1, ds, L1, e1, w1, r1, run1⟩ => ⟨I1.kIn, ?_⟩) he hpl
  exact run_g F hr g.gu tk I1 r (spM_callW w1 r1 run1)
theorem me_call0 (g : Gd G X) (F : FnG X.prog X.w X.K X.mg X.base k fa (spM G (c.φ f))) (hr : Room k X.A) (tk : Takes X W) (hg : Gl X x) (hm : X.mg x = some (.ref fa)) (hk : PySem.W.keepIn X.K (.ref fa) = true)
    (hdb : (x == ("__debug__" : Str)) = false) : PE X (.Call (.Name x p) [] [] pos) (tE G W fun E L => (Res.ok [] L).bind fun ds L1 => callW c f ds L1) := by
  refine ⟨fun pins s σ H Q I ⟨wd, E, L, rs, w, run⟩ => ?_⟩
  refine wpAny_Call_Name_kw (ld_glob I hg hm ?_ hdb)
  exact PySem.W.callWith_K0 I.kIn hk (run_g (us := []) F hr g.gu tk I .nil (spM_callW w RelDs.nil run))
end
end MP
set_option maxHeartbeats 4000000
/-! MP: from the model's syntax to the evaluator's: expressions -/
namespace MP
open PySem PySem.Spec PyProof.Rows L2

/-- a def's (a comprehension's) names -/
structure Stc where
  N : List Str
  sc : Scope
  fn : Option Scope
def Stc.fnf (S : Stc) : Str → Bool := match S.fn with | none => fun _ => true | some scope => fun x => scope.names.lookup x == some .cell
structure Par where
  lv : Pos → Bool
  fnOf : Str → Pos → Option Nat
  con : Str → Option D
  free : Str → Bool
def ixOf (x : Str) : List Str → Option Nat
  | [] => none
  | y :: r => if y = x then some 0 else (ixOf x r).map (· + 1)
theorem ixOf_get {x : Str} : ∀ {N : List Str} {i : Nat}, ixOf x N = some i → N[i]? = some x
  | [], i, h => by simp [ixOf] at h
  | y :: r, i, h => by
    simp only [ixOf] at h
    split at h
    · rename_i e
      cases h
      simp [e]
    · simp only [Option.map_eq_some_iff] at h
      obtain ⟨j, hj, rfl⟩ := h
      simpa using ixOf_get hj
theorem ixOf_none {x : Str} : ∀ {N : List Str}, ixOf x N = none → x ∉ N
  | [], _ => by simp
  | y :: r, h => by
    simp only [ixOf] at h
    split at h
    · cases h
    · rename_i e
      simp only [Option.map_eq_none_iff] at h
      simp only [List.mem_cons, not_or]
      exact ⟨fun z => e z.symm, ixOf_none h⟩
def visK : Option NameKind → Bool | some .local => true | some .cell => true | some .free => true | _ => false
def locK : Option NameKind → Bool | some .local => true | some .cell => true | _ => false
def dunder (x : Str) : Bool := x == "__debug__" || x == "__classdict__"
def varOf (S : Stc) (x : Str) : Option Nat := if visK (S.sc.names.lookup x) && !dunder x then ixOf x S.N else none
def glB (S : Stc) (x : Str) : Bool := decide (S.sc.names.lookup x = some .globalImplicit) && !(x == "__debug__")
def slotOf (S : Stc) (x : Str) : Option Nat := if locK (S.sc.names.lookup x) && (S.fnf x || decide (S.sc.names.lookup x = some .local)) then ixOf x S.N else none
def conOf : Const → Option D | .none => some .non | .bool b => some (.bl b) | .int i => some (.int i) | .str s => some (.str s) | _ => none
def bopOf : Operator → Option Bop | .Add => some .add | .Sub => some .sub | .Mult => some .mul | .FloorDiv => some .fdiv | .Mod => some .mod | .Pow => some .pow | _ => none
def copOf : CmpOp → Cop | .Eq => .eq | .NotEq => .ne | .Lt => .lt | .LtE => .le | .Gt => .gt | .GtE => .ge | .Is => .is_ | .IsNot => .isn | .In => .in_ | .NotIn => .nin
theorem bopOf_ok {op : Operator} {o : Bop} (h : bopOf op = some o) : op = bopM o := by cases op <;> simp [bopOf] at h <;> subst h <;> rfl
theorem copOf_ok (op : CmpOp) : copM (copOf op) = op := by cases op <;> rfl
def notStar : PySem.Expr → Bool | .Starred _ _ => false | _ => true
def notSet : PySem.Expr → Bool | .Set _ _ _ => false | _ => true
def notSlice : PySem.Expr → Bool | .Slice _ _ none _ => false | _ => true
def baseOk : PySem.Expr → Bool | .Call _ [] [] _ => false | _ => true
theorem star_cons {e : PySem.Expr} {es : List PySem.Expr} {env : Env} (h : notStar e = true) : starEach (e :: es) env = (false, eval e env) :: starEach es env := by
  cases e <;> first | rfl | (simp [notStar] at h)
theorem star_plain {env : Env} {pos : Pos} : ∀ {es : List PySem.Expr}, es.all notStar = true → (backTo pos (starEach es env)).any (·.1) = false
  | [], _ => rfl
  | e :: es, h => by
    simp only [List.all_cons, Bool.and_eq_true] at h
    rw [star_cons h.1]
    show (false || (backTo pos (starEach es env)).any (·.1)) = false
    rw [star_plain h.2]; rfl
theorem star_not {env : Env} {pos : Pos} : ∀ {es : List PySem.Expr}, es.all notStar = true → (backTo pos (starEach es env)).all (fun x => !x.1) = true
  | [], _ => rfl
  | e :: es, h => by
    simp only [List.all_cons, Bool.and_eq_true] at h
    rw [star_cons h.1]
    show (true && (backTo pos (starEach es env)).all (fun x => !x.1)) = true
    rw [star_not h.2]; rfl
theorem base_ok {o : PySem.Expr} {m : Str} {env : Env} (h : baseOk o = true) : attributeBase o m env (eval o env) = eval o env := by
  unfold attributeBase
  split
  · simp [baseOk] at h
  · rfl
theorem slice_ok {b : PySem.Expr} (h : notSlice b = true) : PlainIx b := by
  intro o i
  cases b <;> first | rfl | skip
  rename_i l u s p
  cases s with
  | none => simp [notSlice] at h
  | some s => rfl
theorem set_marks {op : CmpOp} {b : PySem.Expr} (h : notSet b = true) : behindInMarks op b = false := by
  cases b <;> first | rfl | (simp [notSet] at h)
theorem set_folded {e : PySem.Expr} {env : Env} (h : notSet e = true) : ∀ x, foldedSetIterable e env x = pure x := by
  intro x
  cases e <;> first | rfl | (simp [notSet] at h)

def exsOf : List Ex → Exs
  | [] => .nil
  | e :: es => .cons e (exsOf es)
def boolOf (op : PySem.BoolOp) : List Ex → Option Ex
  | [] => none
  | [a] => some a
  | a :: b :: r => (boolOf op (b :: r)).map fun x => match op with | .And => .and a x | .Or => .or a x
/-- the names of a comprehension's block, with their places -/
def ownOf (N : List Str) (scope : Scope) : List (Str × Nat) := scope.names.filterMap fun y => if y.2 = .local ∨ y.2 = .cell then (ixOf y.1 N).map fun i => (y.1, i) else none
def blkB (sc scope : Scope) : Bool := decide (scope.kind = .function) && (scope.names.all fun y => decide (scope.names.lookup y.1 = some y.2)) && (scope.names.all fun y => !decide (y.2 = .free) || (decide (sc.names.lookup y.1 = some .cell) || decide (sc.names.lookup y.1 = some .free)))
theorem blk_ok {N : List Str} {sc scope : Scope} (h : blkB sc scope = true) : BlkOk N sc scope (ownOf N scope) := by
  simp only [blkB, Bool.and_eq_true, decide_eq_true_eq, List.all_eq_true, Bool.or_eq_true, Bool.not_eq_true', decide_eq_false_iff_not] at h
  obtain ⟨⟨h1, h2⟩, h3⟩ := h
  refine ⟨h1, h2, fun p hp => ?_, fun y hy e => ?_, fun y hy e => ?_⟩
  · obtain ⟨y, _, q⟩ := List.mem_filterMap.mp hp
    split at q
    · simp only [Option.map_eq_some_iff] at q
      obtain ⟨i, hi, rfl⟩ := q
      exact ixOf_get hi
    · cases q
  · rcases h3 y hy with q | q
    · exact absurd e q
    · exact q
  · cases q : ixOf y.1 N with
    | none => exact .inr (ixOf_none q)
    | some i => exact .inl (List.mem_map.mpr ⟨(y.1, i), List.mem_filterMap.mpr ⟨y, hy, by rw [if_pos e, q]; rfl⟩, rfl⟩)

def trG : Nat → Stc → PySem.Expr → Option Tg
  | 0, _, _ => none
  | n + 1, S, e => match e with
    | .Name x _ => (slotOf S x).map .slot
    | .Tuple es _ _ => if es.all notStar then (mapO (trG n S) es).map .tup else none
    | _ => none
def isTup : PySem.Expr → Bool | .Tuple _ _ _ => true | _ => false
def bltTab : List (Str × Blt) := [("len", .len), ("abs", .abs), ("max", .max), ("min", .min), ("sum", .sum), ("any", .any), ("all", .all), ("sorted", .sorted), ("list", .list), ("tuple", .tuple), ("int", .int), ("str", .str), ("repr", .repr)]
def tyTab : List (Str × Ty) := [("int", .int), ("bool", .bool), ("str", .str), ("list", .list), ("tuple", .tuple), ("dict", .dict)]
def mthTab : List (Str × Mth) := [("append", .append), ("extend", .extend), ("pop", .pop), ("insert", .insert), ("reverse", .reverse), ("clear", .clear), ("remove", .remove), ("join", .join)]
def opt2 {α β γ : Type} (a : Option α) (b : Option β) (f : α → β → γ) : Option γ := match a with | some x => (match b with | some y => some (f x y) | none => none) | none => none
theorem opt2_some {α β γ : Type} {a : Option α} {b : Option β} {f : α → β → γ} {z : γ} (h : opt2 a b f = some z) : ∃ x y, a = some x ∧ b = some y ∧ z = f x y := by
  cases a with
  | none => cases h
  | some x =>
    cases b with
    | none => cases h
    | some y => exact ⟨x, y, rfl, rfl, (Option.some.inj h).symm⟩
section
variable (p : Par) (t : Stc → PySem.Expr → Option Ex)
def stI (S : Stc) (tup : Bool) : PySem.Expr → Option It
  | .Call (.Name x pn) args [] pos =>
    if decide (x = "range") && glB S x && p.free x then match args with
      | [a] => if notStar a then (t S a).map .rng1 else none
      | [a, b] => if notStar a && notStar b then opt2 (t S a) (t S b) .rng2 else none
      | _ => none
    else if decide (x = "enumerate") && glB S x && p.free x then match args with
      | [a] => if notStar a && tup then (t S a).map .enum else none
      | _ => none
    else if decide (x = "zip") && glB S x && p.free x then match args with
      | [a, b] => if notStar a && notStar b && tup then opt2 (t S a) (t S b) .zip else none
      | _ => none
    else (t S (.Call (.Name x pn) args [] pos)).map .val
  | e => if notSet e then (t S e).map .val else none
def stC (S : Stc) (x : Str) (args : List PySem.Expr) (pos : Pos) : Option Ex :=
  if glB S x then
    if decide (x = "isinstance") then match args with
      | [a, .Name y _] => match tyTab.lookup y with
        | some ty => if p.free x && glB S y && p.free y && notStar a then (t S a).map fun a' => .isi a' ty else none
        | none => none
      | _ => none
    else match bltTab.lookup x with
      | some b => match args with
        | [] => none
        | a :: r => if p.free x && (a :: r).all notStar then (mapO (t S) (a :: r)).map fun l => .blt b (p.lv pos) (exsOf l) else none
      | none => match p.fnOf x pos with
        | some f => if args.all notStar then (mapO (t S) args).map fun l => .call f (exsOf l) else none
        | none => none
  else none
def stM (S : Stc) (o : PySem.Expr) (m : Str) (apos : Pos) (args : List PySem.Expr) (pos : Pos) : Option Ex :=
  match mthTab.lookup m with
  | some mm => if baseOk o && (apos.endLine == pos.line) && args.all notStar && decide (args.length < 29) then opt2 (t S o) (mapO (t S) args) fun o' l => .mth mm o' (exsOf l) else none
  | none => none
def stL (S : Stc) (elt tg iter : PySem.Expr) (ifs : List PySem.Expr) (scope : Scope) (pos : Pos) : Option Ex :=
  if blkB S.sc scope && notSet iter then
    match trG 5 ⟨S.N, relS scope S.sc, some scope⟩ tg with
    | some g => if (slotsG g).all fun i => decide (i ∈ (ownOf S.N scope).map (·.2)) then
        match stI p t S (isTup tg) iter with
        | some it => match ifs with
          | [] => (t ⟨S.N, relS scope S.sc, some scope⟩ elt).map fun e => .comp (p.lv pos) ((ownOf S.N scope).map (·.2)) g it .nil e
          | [c] => opt2 (t ⟨S.N, relS scope S.sc, some scope⟩ c) (t ⟨S.N, relS scope S.sc, some scope⟩ elt) fun c' e => .comp (p.lv pos) ((ownOf S.N scope).map (·.2)) g it (.cons c' .nil) e
          | _ => none
        | none => none
      else none
    | none => none
  else none
/-- a comprehension of two clauses; tests stand in the second one at most -/
def stL2 (S : Stc) (elt tg iter tg1 iter1 : PySem.Expr) (ifs1 : List PySem.Expr) (scope : Scope) (pos : Pos) : Option Ex :=
  if blkB S.sc scope && (notSet iter && notSet iter1) then
    match trG 5 ⟨S.N, relS scope S.sc, some scope⟩ tg with
    | some g => match trG 5 ⟨S.N, relS scope S.sc, some scope⟩ tg1 with
      | some g1 => if ((slotsG g).all fun i => decide (i ∈ (ownOf S.N scope).map (·.2))) && ((slotsG g1).all fun i => decide (i ∈ (ownOf S.N scope).map (·.2))) then
          match stI p t S (isTup tg) iter with
          | some it => match stI p t ⟨S.N, relS scope S.sc, some scope⟩ (isTup tg1) iter1 with
            | some it1 => match ifs1 with
              | [] => (t ⟨S.N, relS scope S.sc, some scope⟩ elt).map fun e => .comp2 (p.lv pos) ((ownOf S.N scope).map (·.2)) (slotsG g1) g it .nil g1 it1 .nil e
              | [c] => opt2 (t ⟨S.N, relS scope S.sc, some scope⟩ c) (t ⟨S.N, relS scope S.sc, some scope⟩ elt) fun c' e => .comp2 (p.lv pos) ((ownOf S.N scope).map (·.2)) (slotsG g1) g it .nil g1 it1 (.cons c' .nil) e
              | _ => none
            | none => none
          | none => none
        else none
      | none => none
    | none => none
  else none
/-- list(range(..)) -/
def stR1 (S : Stc) (as : List PySem.Expr) (pos : Pos) : Option Ex := match as with
  | [] => none
  | [a] => if notStar a then (t S a).map (.lrg1 (p.lv pos)) else none
  | [a, b] => if notStar a && notStar b then opt2 (t S a) (t S b) (.lrg2 (p.lv pos)) else none
  | _ :: _ :: _ :: _ => none
def stR (S : Stc) (x : Str) (args : List PySem.Expr) (pos : Pos) : Option Ex := match args with
  | [.Call (.Name y _) as [] _] => if decide (x = "list") && decide (y = "range") && glB S x && glB S y && p.free x && p.free y then stR1 p t S as pos else none
  | _ => none
/-- max(.., default=..) -/
def stX (S : Stc) (x : Str) (args : List PySem.Expr) (kn : Str) (d : PySem.Expr) : Option Ex := match args with
  | [a] => if decide (x = "max") && decide (kn = "default") && glB S x && p.free x && notStar a then opt2 (t S a) (t S d) .mxd else none
  | _ => none
/-- [k for k, v in d.items() if v] -/
def stK (S : Stc) (elt tg iter : PySem.Expr) (ifs : List PySem.Expr) (scope : Scope) (pos : Pos) : Option Ex := match elt, tg, iter, ifs with
  | .Name yk _, .Tuple [.Name xk _, .Name xv _] _ _, .Call (.Attribute (.Name xd _) m apos) [] [] cpos, [.Name yv _] =>
    if blkB S.sc scope && decide (m = "items") && (apos.endLine == cpos.line) then
      match varOf S xd, slotOf ⟨S.N, relS scope S.sc, some scope⟩ xk, slotOf ⟨S.N, relS scope S.sc, some scope⟩ xv with
      | some i, some ik, some iv =>
        if decide (varOf ⟨S.N, relS scope S.sc, some scope⟩ yk = some ik) && decide (varOf ⟨S.N, relS scope S.sc, some scope⟩ yv = some iv) && decide (ik ≠ iv) && decide (ik ∈ (ownOf S.N scope).map (·.2)) && decide (iv ∈ (ownOf S.N scope).map (·.2)) then some (.tks (p.lv pos) i ik iv) else none
      | _, _, _ => none
    else none
  | _, _, _, _ => none
def stP (S : Stc) : Option PySem.Expr → Option Ex
  | none => some (.con .non)
  | some e => match t S e with | some x => if isAbs x then none else some x | none => none
def stE (S : Stc) : PySem.Expr → Option Ex
  | .Name x _ => match varOf S x with | some i => some (.var i) | none => if glB S x then (p.con x).map (.glob x) else none
  | .Constant c _ _ => (conOf c).map .con
  | .BinOp a op b pos => match bopOf op with | some o => opt2 (t S a) (t S b) (.bin o (p.lv pos)) | none => none
  | .UnaryOp op a _ => match op with | .USub => (t S a).map .neg | .Not => (t S a).map .not | _ => none
  | .Compare a ops bs _ => match ops, bs with
    | [op], [b] => if notSet b then opt2 (t S a) (t S b) (.cmp (copOf op)) else none
    | [op, op'], [b, c] => if notSet c then match t S a with | some a' => opt2 (t S b) (t S c) (.chn (copOf op) (copOf op') a') | none => none else none
    | _, _ => none
  | .BoolOp op es _ => match mapO (t S) es with | some l => boolOf op l | none => none
  | .IfExp c a b _ => match t S c with | some c' => opt2 (t S a) (t S b) (.ite c') | none => none
  | .Tuple es _ _ => if es.all notStar then (mapO (t S) es).map fun l => .tup (exsOf l) else none
  | .List es pos => if es.all notStar then (mapO (t S) es).map fun l => .lst (p.lv pos) (exsOf l) else none
  | .Dict ks vs pos => match ks, vs with
    | [], [] => if p.lv pos then some .dic0 else some (.dct [] .nil)
    | [some (.Constant (.int k) _ _)], [.Name x _] => if p.lv pos then none else (varOf S x).map fun i => .dct [.inl k] (.cons (.var i) .nil)
    | _, _ => none
  | .Subscript a b pos => match b with
    | .Slice none none (some (.UnaryOp .USub (.Constant (.int 1) _ _) _)) _ => (t S a).map (.rev (p.lv pos))
    | .Slice lo hi none _ => match t S a with | some a' => opt2 (stP t S lo) (stP t S hi) (.slc (p.lv pos) a') | none => none
    | b => if notSlice b then opt2 (t S a) (t S b) .idx else none
  | .Call f args kws pos => match kws with
    | [] => match f with
      | .Name x _ => match stR p t S x args pos with | some e => some e | none => stC p t S x args pos
      | .Attribute o m apos => stM t S o m apos args pos
      | _ => none
    | [⟨some kn, d, _⟩] => match f with
      | .Name x _ => stX p t S x args kn d
      | _ => none
    | _ => none
  | .ListComp elt gens scope pos => match gens with
    | [⟨tg, iter, ifs, a⟩] => if a = 0 then (match stL p t S elt tg iter ifs scope pos with | some e => some e | none => stK p S elt tg iter ifs scope pos) else none
    | [⟨tg, iter, ifs, a⟩, ⟨tg1, iter1, ifs1, a1⟩] => if a = 0 ∧ a1 = 0 ∧ ifs = [] then stL2 p t S elt tg iter tg1 iter1 ifs1 scope pos else none
    | _ => none
  | _ => none
end
def trE (p : Par) : Nat → Stc → PySem.Expr → Option Ex
  | 0, _, _ => none
  | n + 1, S, e => stE p (trE p n) S e
end MP
set_option maxHeartbeats 4000000
/-! MP: the translation of expressions is right -/
namespace MP
open PySem PySem.Spec PyProof.Rows L2
/-- what stands around a def's body -/
structure Ok (P : Program) (w : World) (G : Gv) (mg : Str → Option Value) (base : Heap) (n : Nat) (X : Cx) (S : Stc) : Prop where
  prog : X.prog = P
  w : X.w = w
  mg : X.mg = mg
  base : X.base = base
  gd : Gd G X
  N : X.N = S.N
  sc : X.env.scope = S.sc
  fn : X.fn = S.fnf
  room : Room n X.A
  kind : X.env.scope.kind = .function
structure Fct (P : Program) (w : World) (G : Gv) (mg : Str → Option Value) (base : Heap) (n : Nat) (p : Par) (c : Cxt) : Prop where
  free : ∀ x, p.free x = true → mg x = none
  con : ∀ x d, p.con x = some d → ∃ v u, mg x = some u ∧ RelV v u ∧ ∀ wd, RelD G wd v d
  fn : ∀ x pos f, p.fnOf x pos = some f → ∃ fa, mg x = some (.ref fa) ∧ PySem.W.keepIn G.K (.ref fa) = true ∧ FnG P w G.K mg base n fa (spM G (c.φ f))
section
variable {P : Program} {w : World} {G : Gv} {mg : Str → Option Value} {base : Heap} {n : Nat} {p : Par} {c : Cxt} {t : Stc → PySem.Expr → Option Ex} {X : Cx} {S : Stc} {W : WX}
theorem lookup_mem {α β : Type} [BEq α] [LawfulBEq α] {x : α} {y : β} : ∀ {l : List (α × β)}, l.lookup x = some y → (x, y) ∈ l
  | [], h => by simp at h
  | (a, b) :: r, h => by
    rw [List.lookup_cons] at h
    split at h
    · rename_i e
      cases h
      rw [eq_of_beq e]
      simp
    · exact List.mem_cons_of_mem _ (lookup_mem h)
theorem blt_facts : ∀ q ∈ bltTab, bootBuiltins q.1 = some (bltV q.2) ∧ q.1 ≠ ("__name__" : Str) := by decide +kernel
theorem ty_facts : ∀ q ∈ tyTab, q.1 = Str.ofString (tyN q.2) := by decide +kernel
theorem mth_facts2 : ∀ q ∈ mthTab, q.1 = Str.ofString (mthN q.2) := by decide +kernel
theorem Ok.gl (o : Ok P w G mg base n X S) {x : Str} (h : glB S x = true) : Gl X x ∧ (x == ("__debug__" : Str)) = false := by
  simp only [glB, Bool.and_eq_true, decide_eq_true_eq, Bool.not_eq_true'] at h
  refine ⟨?_, h.2⟩
  show X.env.scope.names.lookup x = _
  rw [o.sc]; exact h.1
theorem Ok.blk (o : Ok P w G mg base n X S) {scope : Scope} (hb : blkB S.sc scope = true) (s : Shared) (H : Hp) (C : Addr) (cl : List (Str × Addr)) (fp : List Addr) :
    Ok P w G mg base n (X.blk s H scope (compEnvC scope cl C X.env) fp) ⟨S.N, relS scope S.sc, some scope⟩ := by
  refine ⟨o.prog, o.w, o.mg, o.base, ⟨o.gd.K, o.gd.calm, o.gd.gu, o.gd.un, o.gd.nd, o.gd.sm⟩, o.N, ?_, rfl, o.room, ?_⟩
  · show relabel scope X.env = relS scope S.sc
    rw [← o.sc]; rfl
  · show scope.kind = .function
    simp only [blkB, Bool.and_eq_true, decide_eq_true_eq] at hb
    exact hb.1.1
theorem takes0 (s : Shared) (H : Hp) (scope : Scope) (e : Env) (fp : List Addr) : Takes (X.blk s H scope e fp) W0 := by
  rintro u s' ⟨a, B, sI, pins, σ, H, cls, d, e, I, nb, up, sky, na, os, ag, w⟩
  exact False.elim w
def IHE (P : Program) (w : World) (G : Gv) (mg : Str → Option Value) (base : Heap) (n : Nat) (c : Cxt) (t : Stc → PySem.Expr → Option Ex) : Prop :=
  ∀ S e me, t S e = some me → ∀ X W, Ok P w G mg base n X S → Takes X W → PE X e (tE G W (evE c me)) ∧ PT X e (tT G W (tst (evE c me)))
theorem args_ok (ih : IHE P w G mg base n c t) (o : Ok P w G mg base n X S) (tk : Takes X W) : ∀ {es : List PySem.Expr} {l : List Ex}, mapO (t S) es = some l → es.all notStar = true → PA X es (tA G W (evA c (exsOf l)))
  | [], l, h, _ => by simp only [mapO, Option.some.injEq] at h; subst h; exact ma_nil
  | e :: es, l, h, hs => by
    simp only [List.all_cons, Bool.and_eq_true] at hs
    simp only [mapO] at h
    cases q : t S e with
    | none => rw [q] at h; cases h
    | some a =>
      rw [q] at h
      cases q2 : mapO (t S) es with
      | none => rw [q2] at h; cases h
      | some r =>
        rw [q2] at h
        simp only [Option.some.injEq] at h
        subst h
        exact ma_cons (ih S e a q X W o tk).1 (args_ok ih o tk q2 hs.2) (star_cons hs.1)
theorem tst_and (ma mb : Ev → Live → Res D) : tst (fun E L => (ma E L).bind fun x L1 => (optV (truD L1 x) L1).bind fun k L2 => if k then mb E L2 else .ok x L2) = fun E L => (tst ma E L).bind fun k L1 => if k then tst mb E L1 else .ok false L1 := by
  funext E L
  simp only [tst]
  cases ma E L with
  | ok x L1 =>
    simp only [Res.bind_ok]
    cases q : truD L1 x with
    | none => rfl
    | some k => cases k <;> simp [optV, q]
  | exc C fs L1 => rfl
  | stuck => rfl
theorem tst_or (ma mb : Ev → Live → Res D) : tst (fun E L => (ma E L).bind fun x L1 => (optV (truD L1 x) L1).bind fun k L2 => if k then .ok x L2 else mb E L2) = fun E L => (tst ma E L).bind fun k L1 => if k then .ok true L1 else tst mb E L1 := by
  funext E L
  simp only [tst]
  cases ma E L with
  | ok x L1 =>
    simp only [Res.bind_ok]
    cases q : truD L1 x with
    | none => rfl
    | some k => cases k <;> simp [optV, q]
  | exc C fs L1 => rfl
  | stuck => rfl
theorem tst_not (ma : Ev → Live → Res D) : tst (fun E L => (ma E L).bind fun x L1 => (optV (truD L1 x) L1).bind fun k L2 => .ok (.bl (!k)) L2) = fun E L => (tst ma E L).bind fun k L1 => .ok (!k) L1 := by
  funext E L
  simp only [tst]
  cases ma E L with
  | ok x L1 =>
    simp only [Res.bind_ok]
    cases q : truD L1 x with
    | none => rfl
    | some k => simp [optV, truD]
  | exc C fs L1 => rfl
  | stuck => rfl
theorem tst_ite (ma mb mc : Ev → Live → Res D) : tst (fun E L => (tst mc E L).bind fun k L1 => if k then ma E L1 else mb E L1) = fun E L => (tst mc E L).bind fun k L1 => if k then tst ma E L1 else tst mb E L1 := by
  funext E L
  show ((tst mc E L).bind _).bind _ = _
  rw [Res.bind_assoc]
  congr 1
  funext k L1
  cases k <;> rfl
theorem tst_cmp (f : D → D → Live → Option Bool) (ma mb : Ev → Live → Res D) : tst (fun E L => (ma E L).bind fun x L1 => (mb E L1).bind fun y L2 => (optV (f x y L2) L2).bind fun k L3 => .ok (.bl k) L3) = fun E L => (ma E L).bind fun x L1 => (mb E L1).bind fun y L2 => optV (f x y L2) L2 := by
  funext E L
  unfold tst
  rw [Res.bind_assoc]
  congr 1
  funext x L1
  rw [Res.bind_assoc]
  congr 1
  funext y L2
  cases f x y L2 <;> rfl
theorem tst_chn (o o' : Cop) (ma mb mc : Ev → Live → Res D) : tst (fun E L => (ma E L).bind fun x L1 => (mb E L1).bind fun y L2 => (optV (cmpD o x y L2) L2).bind fun k L3 =>
      if k then (mc E L3).bind fun z L4 => (optV (cmpD o' y z L4) L4).bind fun b L5 => .ok (.bl b) L5 else .ok (.bl false) L3) = fun E L => (ma E L).bind fun x L1 => (mb E L1).bind fun y L2 => (optV (cmpD o x y L2) L2).bind fun k L3 =>
      if k then (mc E L3).bind fun z L4 => optV (cmpD o' y z L4) L4 else .ok false L3 := by
  funext E L
  unfold tst
  rw [Res.bind_assoc]
  congr 1
  funext x L1
  rw [Res.bind_assoc]
  congr 1
  funext y L2
  rw [Res.bind_assoc]
  congr 1
  funext k L3
  cases k with
  | false => rfl
  | true =>
    simp only [if_true]
    rw [Res.bind_assoc]
    congr 1
    funext z L4
    cases cmpD o' y z L4 <;> rfl
theorem bool_ok (ih : IHE P w G mg base n c t) (o : Ok P w G mg base n X S) (tk : Takes X W) {op : PySem.BoolOp} {pos : Pos} : ∀ {es : List PySem.Expr} {l : List Ex} {b : Ex}, mapO (t S) es = some l → boolOf op l = some b →
    PE X (.BoolOp op es pos) (tE G W (evE c b)) ∧ PW X (.BoolOp op es pos) (tT G W (tst (evE c b)))
  | [], l, b, h, hb => by simp only [mapO, Option.some.injEq] at h; subst h; cases hb
  | [e], l, b, h, hb => by
    simp only [mapO] at h
    cases q : t S e with
    | none => rw [q] at h; cases h
    | some a =>
      rw [q] at h
      simp only [Option.some.injEq] at h
      subst h
      cases hb
      obtain ⟨h1, h2⟩ := ih S e _ q X W o tk
      exact ⟨pe_one h1, by cases op; exact pw_and1 h2; exact pw_or1 h2⟩
  | e :: f :: es, l, b, h, hb => by
    rw [mapO] at h
    cases q : t S e with
    | none => rw [q] at h; cases h
    | some a =>
      rw [q] at h
      simp only at h
      cases q2 : mapO (t S) (f :: es) with
      | none => rw [q2] at h; cases h
      | some r =>
        rw [q2] at h
        simp only [Option.some.injEq] at h
        subst h
        cases r with
        | nil =>
          exfalso
          simp only [mapO] at q2
          split at q2
          · split at q2 <;> cases q2
          · cases q2
        | cons b1 r =>
          simp only [boolOf, Option.map_eq_some_iff] at hb
          obtain ⟨x, hx, rfl⟩ := hb
          obtain ⟨h1, h2⟩ := ih S e a q X W o tk
          obtain ⟨h3, h4⟩ := bool_ok ih o tk (pos := pos) q2 hx
          cases op with
          | And =>
            refine ⟨me_and o.gd h1 h3, ?_⟩
            have e1 : tst (evE c (.and a x)) = fun E L => (tst (evE c a) E L).bind fun k L1 => if k then tst (evE c x) E L1 else .ok false L1 := by
              rw [← tst_and]
              congr 1
            rw [e1]
            exact mt_and h2 h4
          | Or =>
            refine ⟨me_or o.gd h1 h3, ?_⟩
            have e1 : tst (evE c (.or a x)) = fun E L => (tst (evE c a) E L).bind fun k L1 => if k then .ok true L1 else tst (evE c x) E L1 := by
              rw [← tst_or]
              congr 1
            rw [e1]
            exact mt_or h2 h4
theorem Ok.slot (o : Ok P w G mg base n X S) {x : Str} {i : Nat} (h : slotOf S x = some i) : X.N[i]? = some x ∧ Loc X.env.scope x ∧ (X.fn x = true ∨ X.env.scope.names.lookup x = some .local) := by
  simp only [slotOf] at h
  split at h
  · rename_i hc
    simp only [Bool.and_eq_true, Bool.or_eq_true, decide_eq_true_eq] at hc
    refine ⟨by rw [o.N]; exact ixOf_get h, ?_, ?_⟩
    · show X.env.scope.names.lookup x = _ ∨ X.env.scope.names.lookup x = _
      rw [o.sc]
      cases q : S.sc.names.lookup x with
      | none => rw [q] at hc; simp [locK] at hc
      | some k => rw [q] at hc; cases k <;> simp [locK] at hc ⊢
    · rw [o.fn, o.sc]; exact hc.2
  · cases h
theorem star_assign {e : PySem.Expr} {es : List PySem.Expr} {env : Env} (h : notStar e = true) : assignEach (e :: es) env = (false, assign e env) :: assignEach es env := by
  cases e <;> first | rfl | (simp [notStar] at h)
theorem star_assigns {env : Env} : ∀ {es : List PySem.Expr}, es.all notStar = true → (assignEach es env).length = es.length ∧ (assignEach es env).findIdx? (·.1) = none
  | [], _ => ⟨rfl, rfl⟩
  | e :: es, h => by
    simp only [List.all_cons, Bool.and_eq_true] at h
    obtain ⟨h1, h2⟩ := star_assigns (env := env) h.2
    rw [star_assign h.1]
    exact ⟨by simp [h1], by simp [List.findIdx?_cons, h2]⟩
theorem mapO_len {α β : Type} {f : α → Option β} {l : List α} {r : List β} (h : mapO f l = some r) : l.length = r.length := (mapO_spec h).length
theorem tgt_ok : ∀ {m : Nat} {X : Cx} {S : Stc} (o : Ok P w G mg base n X S) {e : PySem.Expr} {g : Tg}, trG m S e = some g → PG X e (tG G g)
  | 0, X, S, o, e, g, h => by simp [trG] at h
  | m + 1, X, S, o, e, g, h => by
    simp only [trG] at h
    split at h
    · simp only [Option.map_eq_some_iff] at h
      obtain ⟨i, hi, rfl⟩ := h
      obtain ⟨h1, h2, h3⟩ := o.slot hi
      exact mg_slot o.gd h1 h2 h3
    · rename_i es k pos
      split at h
      · rename_i hs
        simp only [Option.map_eq_some_iff] at h
        obtain ⟨gs, hg, rfl⟩ := h
        obtain ⟨h1, h2⟩ := star_assigns (env := X.env) hs
        refine mg_tup o.gd ?_ (by rw [h1]; exact mapO_len hg) h2
        clear h1 h2
        induction es generalizing gs with
        | nil => simp only [mapO, Option.some.injEq] at hg; subst hg; exact mgs_nil
        | cons a es ih =>
          simp only [List.all_cons, Bool.and_eq_true] at hs
          simp only [mapO] at hg
          cases q : trG m S a with
          | none => rw [q] at hg; cases hg
          | some b =>
            rw [q] at hg
            cases q2 : mapO (trG m S) es with
            | none => rw [q2] at hg; cases hg
            | some r =>
              rw [q2] at hg
              simp only [Option.some.injEq] at hg
              subst hg
              exact mgs_cons (tgt_ok o q) (ih hs.2 r q2) (by rw [star_assign hs.1]; rfl)
      · cases h
    · cases h
theorem ite_some {α : Type} {b : Bool} {x : Option α} {y : α} (h : (if b = true then x else none) = some y) : b = true ∧ x = some y := by
  cases b with
  | true => exact ⟨rfl, by simpa using h⟩
  | false => simp at h
theorem isTup_ok {tg : PySem.Expr} (h : isTup tg = true) : ∃ elts k pos, tg = .Tuple elts k pos := by
  cases tg <;> first | (simp [isTup] at h; done) | exact ⟨_, _, _, rfl⟩
theorem iter_ok (hf : Fct P w G mg base n p c) (ih : IHE P w G mg base n c t) (o : Ok P w G mg base n X S) (tk : Takes X W) {tg iter : PySem.Expr} {it : It} (h : stI p t S (isTup tg) iter = some it) : PI X tg iter (tI G W (evI c it)) := by
  have val : ∀ {e : PySem.Expr} {it : It}, (t S e).map It.val = some it → PI X tg e (tI G W (evI c it)) := fun {e it} h => by
    simp only [Option.map_eq_some_iff] at h
    obtain ⟨a, ha, rfl⟩ := h
    exact mi_val o.gd (ih S e a ha X W o tk).1
  unfold stI at h
  split at h
  · rename_i x pn args pos
    by_cases c1 : (decide (x = "range") && glB S x && p.free x) = true
    · rw [if_pos c1] at h
      simp only [Bool.and_eq_true, decide_eq_true_eq] at c1
      obtain ⟨⟨hx, hg⟩, hfr⟩ := c1
      have hm : X.mg x = none := by rw [o.mg]; exact hf.free _ hfr
      have hg' := (o.gl hg).1
      clear hg hfr
      split at h
      · rename_i a
        obtain ⟨hs, h⟩ := ite_some h
        simp only [Option.map_eq_some_iff] at h
        obtain ⟨a', ha, rfl⟩ := h
        subst hx
        exact mi_rng1 hg' hm (ih S a a' ha X W o tk).1 (star_cons hs)
      · rename_i a b
        obtain ⟨hs, h⟩ := ite_some h
        simp only [Bool.and_eq_true] at hs
        obtain ⟨a', b', ha, hb, rfl⟩ := opt2_some h
        subst hx
        exact mi_rng2 hg' hm (ih S a a' ha X W o tk).1 (ih S b b' hb X W o tk).1 (by rw [star_cons hs.1, star_cons hs.2]; rfl) (star_cons hs.2)
      · cases h
    · rw [if_neg c1] at h
      by_cases c2 : (decide (x = "enumerate") && glB S x && p.free x) = true
      · rw [if_pos c2] at h
        simp only [Bool.and_eq_true, decide_eq_true_eq] at c2
        obtain ⟨⟨hx, hg⟩, hfr⟩ := c2
        have hm : X.mg x = none := by rw [o.mg]; exact hf.free _ hfr
        have hg' := (o.gl hg).1
        clear hg hfr c1
        split at h
        · rename_i a
          obtain ⟨hs, h⟩ := ite_some h
          simp only [Bool.and_eq_true] at hs
          simp only [Option.map_eq_some_iff] at h
          obtain ⟨a', ha, rfl⟩ := h
          obtain ⟨elts, k, tpos, rfl⟩ := isTup_ok hs.2
          subst hx
          exact mi_enum o.gd hg' hm (ih S a a' ha X W o tk).1 (star_cons hs.1)
        · cases h
      · rw [if_neg c2] at h
        by_cases c3 : (decide (x = "zip") && glB S x && p.free x) = true
        · rw [if_pos c3] at h
          simp only [Bool.and_eq_true, decide_eq_true_eq] at c3
          obtain ⟨⟨hx, hg⟩, hfr⟩ := c3
          have hm : X.mg x = none := by rw [o.mg]; exact hf.free _ hfr
          have hg' := (o.gl hg).1
          clear hg hfr c1 c2
          split at h
          · rename_i a b
            obtain ⟨hs, h⟩ := ite_some h
            simp only [Bool.and_eq_true] at hs
            obtain ⟨a', b', ha, hb, rfl⟩ := opt2_some h
            obtain ⟨elts, k, tpos, rfl⟩ := isTup_ok hs.2
            subst hx
            exact mi_zip o.gd hg' hm (ih S a a' ha X W o tk).1 (ih S b b' hb X W o tk).1 (star_cons hs.1.1) (star_cons hs.1.2)
          · cases h
        · rw [if_neg c3] at h
          exact val h
  · obtain ⟨_, h⟩ := ite_some h
    exact val h
end
end MP
set_option maxHeartbeats 4000000
/-! MP: max(.., default=..) of a list of ints -/
namespace MP
open PySem PySem.Spec PyProof.Rows L2
def rMaxDf (K : PySem.W.Frag) : List V → List V → Hp → VK → Prop := fun vs zs H Q => ∃ (a : Addr) (ns : List Int) (z : V), vs = [V.ref a] ∧ zs = [z] ∧ SqL K H a (ns.map V.int) ∧ (ns = [] → Q z H) ∧ ∀ m, m ∈ ns → (∀ y, y ∈ ns → y ≤ m) → Q (.int m) H
theorem maxOf_spec : ∀ (r : List Int) (x : Int), (PySem.W.maxOf x r ∈ x :: r) ∧ ∀ y ∈ x :: r, y ≤ PySem.W.maxOf x r := by
  intro r x
  have e : PySem.W.maxOf x r = r.foldl (fun m y => if m < y then y else m) x := by
    unfold PySem.W.maxOf
    congr 1
    funext m y
    show (if decide (m < y) = true then y else m) = _
    simp
  rw [e]
  exact maxF_spec r x
theorem cr_maxDf {X : Cx} (hc : X.calm = true) (hu : X.A.units + 65 < cLine) : CallRK X (.builtin "max") [Str.ofString "default"] (rMaxDf X.K) := by
  intro pins s σ H vs zs us ws Q I r rz h
  obtain ⟨a, ns, z, rfl, rfl, hs, q0, q⟩ := h
  obtain ⟨its, rv, hl, _⟩ := I.list hs
  obtain rfl := Vals.ref1 r
  obtain ⟨w1, rfl, e1⟩ := vals1 rz
  refine PySem.W.max_list_datum_default (α := Int) (xs := ns) (I.ok.hd hc) hl.isList (PySem.W.HoldAll.of_ints rv.ints) (by show X.A.units + 1 + 0 < cLine; omega) (fun e h' tk hk => ⟨z, H, I.kept hk, e1, q0 e⟩) fun y ys i v h' tk e hi ho hk => ?_
  subst e
  obtain ⟨m1, m2⟩ := maxOf_spec ys y
  obtain ⟨as, hr⟩ := ho
  have hr : Reads _ v (.int (PySem.W.maxOf y ys)) as := hr
  cases hr
  exact ⟨.int _, H, I.kept hk, ⟨_, rfl⟩, q _ m1 m2⟩
section
variable {G : Gv} {X : Cx} {W : WX} {a d : PySem.Expr} {ma md : Ev → Live → Res D} {pn pos kp : Pos}
theorem me_mxd (g : Gd G X) (hx : Gl X "max") (hm : X.mg "max" = none) (ha : PE X a (tE G W ma)) (hd : PE X d (tE G W md)) (na : starEach [a] X.env = (false, eval a X.env) :: starEach [] X.env) :
    PE X (.Call (.Name "max" pn) [a] [⟨some "default", d, kp⟩] pos) (tE G W fun E L => (ma E L).bind fun x L1 => (md E L1).bind fun y L2 => optV (mxdD x y L2) L2) := by
  have key : PE X (.Call (.Name "max" pn) [a] [⟨some "default", d, kp⟩] pos) (tCKw (rMaxDf X.K) (tCons (tE G W ma) tNil) (tCons (tE G W md) tNil)) :=
    pe_callBK (cr_maxDf g.calm g.un) hx hm (by rfl) (pa_cons ha pa_nil na) (pk_cons hd pk_nil) (he := by rw [na]; rfl) (hpl := by rw [na]; rfl)
  exact peImp key fun σ H Q ⟨wd, E, L, rs, w, run⟩ => ⟨wd, E, L, rs, w, run.bind.imp fun v H1 ⟨wd1, d1, L1, e1, w1, r1, run1⟩ => ⟨wd1, E, L1, rs.ext e1, w1, run1.bind.imp fun u H2 ⟨wd2, d2, L2, e2, w2, r2, run2⟩ => by
    obtain ⟨d', q1, q2⟩ := optV_run' run2
    have r1' := r1.ext G e2
    unfold mxdD at q1
    cases q : lstOf L2 d1 with
    | none => rw [q] at q1; cases q1
    | some ds =>
      rw [q] at q1
      simp only at q1
      cases qi : intsOf ds with
      | none => rw [qi] at q1; cases q1
      | some ns =>
        rw [qi] at q1
        simp only at q1
        obtain ⟨l, ys, rfl, hx, rx'⟩ := rd_list w2 r1' q
        obtain ⟨e3, _⟩ := ints_of rx' qi
        subst e3
        refine ⟨l, ns, u, rfl, rfl, .inl hx, fun e => ?_, fun m p1 p2 => ?_⟩
        · subst e
          simp only [maxI, Option.some.injEq] at q1
          subst q1
          exact q2.now w2 r2
        · cases ns with
          | nil => cases p1
          | cons n r =>
            simp only [maxI, Option.some.injEq] at q1
            obtain ⟨m1, m2⟩ := maxF_spec r n
            have e2 : m = r.foldl (fun m y => if m < y then y else m) n := Int.le_antisymm (m2 _ p1) (p2 _ m1)
            subst e2
            subst q1
            exact q2.now w2 (by simp [RelD])⟩⟩
end
end MP
set_option maxHeartbeats 4000000
/-! MP: [k for k, v in d.items() if v] -/
namespace MP
open PySem PySem.Spec PyProof.Rows L2
section
variable {G : Gv} {X : Cx} {W : WX}
def accK (ys : List (Key × V)) : List V := ys.filterMap fun p => match p.2 with | .bl true => some (kV p.1) | _ => none
theorem tks_rel {wd : Wd} : ∀ {ys : List (Key × V)} {kvs : List (Key × D)} {ks : List D}, Paired (fun (p : Key × V) (q : Key × D) => p.1 = q.1 ∧ RelD G wd p.2 q.2) ys kvs → tksL kvs = some ks → (∀ q ∈ ys, ∃ b, q.2 = .bl b) ∧ ∀ wd', RelDs G wd' (accK ys) ks
  | _, _, ks, .nil, h => by
    simp only [tksL, Option.some.injEq] at h
    subst h
    exact ⟨by simp, fun _ => RelDs.nil⟩
  | p :: ps, q :: qs, ks, .cons h t, hk => by
    obtain ⟨k, d⟩ := q
    obtain ⟨k', v⟩ := p
    obtain ⟨h1, h2⟩ := h
    have h1 : k' = k := h1
    subst h1
    cases d with
    | bl b =>
      simp only [tksL, Option.map_eq_some_iff] at hk
      obtain ⟨r, hr, rfl⟩ := hk
      obtain ⟨g1, g2⟩ := tks_rel t hr
      have h2 : v = .bl b := by simpa [RelD] using h2
      subst h2
      refine ⟨fun q hq => ?_, fun wd' => ?_⟩
      · rcases List.mem_cons.mp hq with rfl | hq
        · exact ⟨b, rfl⟩
        · exact g1 q hq
      · have rk : RelD G wd' (kV k') (keyD k') := by cases k' <;> simp [kV, keyD, RelD]
        cases b with
        | true => exact RelDs.cons rk (g2 wd')
        | false => exact g2 wd'
    | _ => simp [tksL] at hk
theorem accK_snoc (ys : List (Key × V)) (j : Nat) (h : j < ys.length) : accK (ys.take (j + 1)) = accK (ys.take j) ++ accK [ys[j]] := by
  unfold accK
  rw [List.take_succ_eq_append_getElem h, List.filterMap_append]
theorem me_tks (g : Gd G X) (lv : Bool) {scope : Scope} {own : List (Str × Nat)} {pos cpos apos pd pk pv pk2 pv2 tpos : Pos} {kk : Nat} {xd xk xv yk yv : Str} {i ik iv : Nat}
    (pe : PE X (.Name xd pd) (tVar i)) (ok : BlkOk X.N X.env.scope scope own) (ne : ik ≠ iv) (ki : ik ∈ own.map (·.2)) (vi : iv ∈ own.map (·.2))
    (pg : ∀ (s : Shared) (H : Hp) (C : Addr) (cl : List (Str × Addr)) (fp : List Addr), PG (X.blk s H scope (compEnvC scope cl C X.env) fp) (.Tuple [.Name xk pk, .Name xv pv] kk tpos) (gTup X.K 2 (gCons (gName ik) (gCons (gName iv) gNil))))
    (pek : ∀ (s : Shared) (H : Hp) (C : Addr) (cl : List (Str × Addr)) (fp : List Addr), PE (X.blk s H scope (compEnvC scope cl C X.env) fp) (.Name yk pk2) (tVar ik))
    (pev : ∀ (s : Shared) (H : Hp) (C : Addr) (cl : List (Str × Addr)) (fp : List Addr), PE (X.blk s H scope (compEnvC scope cl C X.env) fp) (.Name yv pv2) (tVar iv))
    (hbase : attributeBase (.Name xd pd) "items" X.env (eval (.Name xd pd) X.env) = eval (.Name xd pd) X.env) (hline : (apos.endLine == cpos.line) = true) :
    PE X (.ListComp (.Name yk pk2) [⟨.Tuple [.Name xk pk, .Name xv pv] kk tpos, .Call (.Attribute (.Name xd pd) "items" apos) [] [] cpos, [.Name yv pv2], 0⟩] scope pos)
      (tE G W fun E L => (match E[i]? with | some (some d) => Res.ok d L | _ => .stuck).bind fun x L1 => if decide (ik < E.length) && decide (iv < E.length) then opt (tksD lv x L1) else .stuck) := by
  refine peImp (pe_lock (pe_lc g.calm g.nd (pi_items pe hbase hline) ok pg (tt := fun σ H Q => tVar iv σ H fun x H' => ∃ k, TruV X.K x H' k ∧ Q k H') (fun s H C cl fp => pts_one (pt_truth (pev s H C cl fp) (fun _ => rfl))) pek (set_folded rfl))) fun σ H Q ⟨wd, E, L, rs, w, run⟩ => ?_
  dsimp only at run
  cases q : E[i]? with
  | none => rw [q] at run; exact False.elim run
  | some o =>
    rw [q] at run
    cases o with
    | none => exact False.elim run
    | some d =>
      simp only [Res.bind_ok] at run
      split at run
      case isFalse => exact False.elim run
      rename_i hil
      simp only [Bool.and_eq_true, decide_eq_true_eq] at hil
      obtain ⟨v, hσ, rv⟩ := rs.2 i d q
      obtain ⟨d', L', q1, q2⟩ := opt_run run
      cases d with
      | ref n =>
        simp only [tksD] at q1
        cases ql : L[n]? with
        | none => rw [ql] at q1; cases q1
        | some o =>
          rw [ql] at q1
          cases o with
          | dic kvs =>
            simp only at q1
            split at q1
            case isFalse => cases q1
            rename_i hz
            have hz := of_decide_eq_true hz
            simp only [Option.map_eq_some_iff] at q1
            obtain ⟨ks, hks, q1⟩ := q1
            obtain ⟨a, hι, hrel, hF⟩ := w.live n _ ql
            obtain ⟨ys, hH, hp⟩ := hrel
            simp only [RelD] at rv
            obtain ⟨a', hι', rfl⟩ := rv
            rw [hι] at hι'
            cases hι'
            obtain ⟨hb, hr⟩ := tks_rel hp hks
            have hlen : ys.length = kvs.length := Paired.length hp
            refine ⟨a, .dK ys, hH, trivial, fun od => ?_⟩
            refine ⟨.ref a, hσ, a, od, ys, rfl, upd_same, fun Da hD => ?_⟩
            have nda : Da ≠ a := fun z => by rw [z, upd_same] at hD; cases hD
            have hD0 : H Da = none := by rw [upd_ne nda] at hD; exact hD
            refine ⟨fun j m Hc => m = ys.length - j ∧ j ≤ ys.length ∧ (∀ b o, upd H a (.frz od (.dK ys)) b = some o → Hc b = some o) ∧ Hc Da = some (.lst (accK (ys.take j))) ∧ (accK (ys.take j)).length ≤ j,
              ⟨ys.length, by simp, Nat.zero_le _, upd_keeps hD, upd_same, Nat.zero_le _⟩, ?_⟩
            rintro j m Hc ⟨rfl, hj, hk, hacc, hal⟩
            by_cases hlt : j < ys.length
            · right
              refine ⟨⟨hk _ _ upd_same, hlt⟩, fun H' => ∃ m', m' < ys.length - j ∧ (m' = ys.length - (j + 1) ∧ j + 1 ≤ ys.length ∧ (∀ b o, upd H a (.frz od (.dK ys)) b = some o → H' b = some o) ∧ H' Da = some (.lst (accK (ys.take (j + 1)))) ∧ (accK (ys.take (j + 1))).length ≤ j + 1), fun H' h => h, fun x H' y => ?_⟩
              obtain ⟨T, k, u, hy, rfl, hT, rfl⟩ := y
              have hg : ys[j] = (k, u) := by rw [List.getElem?_eq_getElem hlt] at hy; exact Option.some.inj hy
              obtain ⟨b, hub⟩ := hb _ (List.getElem_mem hlt)
              rw [hg] at hub
              have hub : u = .bl b := hub
              subst hub
              have nT : T ≠ Da := fun z => by rw [z, hacc] at hT; cases hT
              have hk' : ∀ b' o, upd H a (.frz od (.dK ys)) b' = some o → upd Hc T (.tup [kV k, .bl b]) b' = some o := fun b' o h => upd_keeps hT _ _ (hk b' o h)
              have hacc' : upd Hc T (.tup [kV k, .bl b]) Da = some (.lst (accK (ys.take j))) := upd_keeps hT _ _ hacc
              have sl : (L2.wipe σ (own.map (·.2))).length = E.length := by rw [wipe_length]; exact rs.1
              refine ⟨T, [kV k, .bl b], rfl, .inl (.inl upd_same), rfl, kV k, [.bl b], rfl, .bl b, [], rfl, rfl, ?_⟩
              refine ⟨?_, .bl b, by rw [List.getElem?_set_self (by simp [sl]; omega)], b, rfl, ?_⟩
              · have so : SameOff [ik, iv] (L2.wipe σ (own.map (·.2))) (((L2.wipe σ (own.map (·.2))).set ik (some (kV k))).set iv (some (.bl b))) := by
                  have := (SameOff.set (s := [ik]) (σ := L2.wipe σ (own.map (·.2))) (v := some (kV k)) (i := ik) (by simp)).trans (SameOff.set (s := [iv]) (v := some (.bl b)) (i := iv) (by simp))
                  exact this
                rw [so.wipe (by simp only [List.mem_cons, List.not_mem_nil, or_false]; rintro z (rfl | rfl); exact ki; exact vi), wipe_wipe]
              · cases b with
                | false =>
                  rw [if_neg Bool.false_ne_true]
                  have e : accK (ys.take (j + 1)) = accK (ys.take j) := by rw [accK_snoc ys j hlt, hg]; simp [accK]
                  exact ⟨_, by omega, rfl, hlt, hk', by rw [e]; exact hacc', by rw [e]; omega⟩
                | true =>
                  rw [if_pos rfl]
                  have e : accK (ys.take (j + 1)) = accK (ys.take j) ++ [kV k] := by rw [accK_snoc ys j hlt, hg]; simp [accK]
                  refine ⟨kV k, by rw [List.getElem?_set_ne (fun z => ne z.symm), List.getElem?_set_self (by simp [sl]; omega)], accK (ys.take j), hacc', by omega, _, by omega, rfl, hlt, fun b' o h => ?_, by rw [e]; exact upd_same, by rw [e]; simp; omega⟩
                  rw [upd_ne (fun z => by rw [z, hD] at h; cases h)]
                  exact hk' b' o h
            · left
              have ej : j = ys.length := by omega
              subst ej
              rw [List.take_length] at hacc
              refine ⟨⟨hk _ _ upd_same, Nat.le_refl _⟩, hk _ _ upd_same, ?_⟩
              obtain ⟨w1, hh⟩ := hide_ok (xs := accK ys) w hD0
              have w2 : WOk (G := G) (wd.hide Da (accK ys)) (upd Hc a (.dK ys)) L := w1.heap fun b' o h => by
                by_cases c : b' = a
                · subst c
                  rw [upd_ne (fun z => nda z.symm), hH] at h
                  rw [upd_same]; exact h
                · rw [upd_ne c]
                  by_cases c2 : b' = Da
                  · subst c2
                    rw [upd_same] at h
                    rw [← h]; exact hacc
                  · rw [upd_ne c2] at h
                    exact hk b' o (by rw [upd_ne c]; exact h)
              have nF := w.fnone hD0
              have nb : Da ∉ wd.bor := fun z => by
                obtain ⟨o, ho⟩ := w.bor _ z
                rw [nF] at ho; cases ho
              refine Hid.end_ (wd0 := wd) (H := upd Hc a (.dK ys)) (ds := ks) lv ⟨hh.F, hh.bor, hh.ι⟩ w2 (hr _) (fun _ _ h => h) (fun b' o h => upd_keeps nF b' o h) (fun _ _ h => .inl h) nF nb ?_
              rw [q1]
              exact q2
          | _ => cases q1
      | _ => cases q1
end
end MP
set_option maxHeartbeats 4000000
/-! MP: the translation of expressions is right (the step) -/
namespace MP
open PySem PySem.Spec PyProof.Rows L2
section
variable {P : Program} {w : World} {G : Gv} {mg : Str → Option Value} {base : Heap} {n : Nat} {p : Par} {c : Cxt} {t : Stc → PySem.Expr → Option Ex} {X : Cx} {S : Stc} {W : WX}
/-- both, of an expression whose test is its value's truth -/
theorem both (o : Ok P w G mg base n X S) {e : PySem.Expr} {m : Ev → Live → Res D} (h : PE X e (tE G W m)) (he : ∀ whole, isTrue e X.env whole = (do let v ← whole; standAt e.pos; holding [v] (truthy v))) : PE X e (tE G W m) ∧ PT X e (tT G W (tst m)) := ⟨h, mt_truth o.gd h he⟩
theorem stC_ok (hf : Fct P w G mg base n p c) (ih : IHE P w G mg base n c t) (o : Ok P w G mg base n X S) (tk : Takes X W) {x : Str} {pn pos : Pos} {args : List PySem.Expr} {me : Ex} (h : stC p t S x args pos = some me) :
    PE X (.Call (.Name x pn) args [] pos) (tE G W (evE c me)) := by
  unfold stC at h
  obtain ⟨hg, h⟩ := ite_some h
  have gl := o.gl hg
  by_cases c1 : decide (x = "isinstance") = true
  · rw [if_pos c1] at h
    have hx := of_decide_eq_true c1
    clear c1
    split at h
    · rename_i a y p3 _
      cases q : tyTab.lookup y with
      | none => rw [q] at h; cases h
      | some ty =>
        rw [q] at h
        obtain ⟨hc, h⟩ := ite_some h
        simp only [Bool.and_eq_true] at hc
        obtain ⟨⟨⟨f1, g2⟩, f2⟩, hs⟩ := hc
        simp only [Option.map_eq_some_iff] at h
        obtain ⟨a', ha, rfl⟩ := h
        have ey := ty_facts _ (lookup_mem q)
        have ey : y = Str.ofString (tyN ty) := ey
        have m1 : X.mg x = none := by rw [o.mg]; exact hf.free _ f1
        have m2 : X.mg y = none := by rw [o.mg]; exact hf.free _ f2
        have gl2 := (o.gl g2).1
        clear q f1 f2 g2 hg
        subst ey
        subst hx
        exact me_isi o.gd ty gl.1 m1 gl2 m2 (ih S a a' ha X W o tk).1 (star_cons hs)
    · cases h
  · rw [if_neg c1] at h
    clear c1
    cases q : bltTab.lookup x with
    | some b =>
      rw [q] at h
      simp only at h
      cases args with
      | nil => cases h
      | cons a r =>
        simp only at h
        obtain ⟨hc, h⟩ := ite_some h
        rw [Bool.and_eq_true] at hc
        simp only [Option.map_eq_some_iff] at h
        obtain ⟨l, hl, rfl⟩ := h
        obtain ⟨b1, b2⟩ := blt_facts _ (lookup_mem q)
        have hs := hc.2
        have hs' := hs
        simp only [List.all_cons, Bool.and_eq_true] at hs'
        exact me_blt o.gd b (p.lv pos) gl.1 (by rw [o.mg]; exact hf.free _ hc.1) b1 (args_ok ih o tk hl hs) b2 gl.2 (star_cons hs'.1) (star_plain hs'.2)
    | none =>
      rw [q] at h
      simp only at h
      cases q2 : p.fnOf x pos with
      | none => rw [q2] at h; cases h
      | some f =>
        rw [q2] at h
        simp only at h
        obtain ⟨hs, h⟩ := ite_some h
        simp only [Option.map_eq_some_iff] at h
        obtain ⟨l, hl, rfl⟩ := h
        obtain ⟨fa, h1, h2, h3⟩ := hf.fn x pos f q2
        have F : FnG X.prog X.w X.K X.mg X.base n fa (spM G (c.φ f)) := by rw [o.prog, o.w, o.gd.K, o.mg, o.base]; exact h3
        have hm : X.mg x = some (.ref fa) := by rw [o.mg]; exact h1
        have hk : PySem.W.keepIn X.K (.ref fa) = true := by rw [o.gd.K]; exact h2
        cases args with
        | nil =>
          simp only [mapO, Option.some.injEq] at hl
          subst hl
          exact me_call0 o.gd F o.room tk gl.1 hm hk gl.2
        | cons a r =>
          have hs' := hs
          simp only [List.all_cons, Bool.and_eq_true] at hs'
          exact me_call o.gd F o.room tk gl.1 hm hk (args_ok ih o tk hl hs) gl.2 (star_cons hs'.1) (star_plain hs'.2)
theorem stM_ok (hf : Fct P w G mg base n p c) (ih : IHE P w G mg base n c t) (o : Ok P w G mg base n X S) (tk : Takes X W) {oe : PySem.Expr} {m : Str} {apos pos : Pos} {args : List PySem.Expr} {me : Ex} (h : stM t S oe m apos args pos = some me) :
    PE X (.Call (.Attribute oe m apos) args [] pos) (tE G W (evE c me)) := by
  unfold stM at h
  cases q : mthTab.lookup m with
  | none => rw [q] at h; cases h
  | some mm =>
    rw [q] at h
    simp only at h
    obtain ⟨hc, h⟩ := ite_some h
    simp only [Bool.and_eq_true, decide_eq_true_eq] at hc
    obtain ⟨⟨⟨h1, h2⟩, hs⟩, h4⟩ := hc
    obtain ⟨o', l, ho, hl, rfl⟩ := opt2_some h
    have em : m = Str.ofString (mthN mm) := mth_facts2 _ (lookup_mem q)
    clear q
    subst em
    have pe := (ih S oe o' ho X W o tk).1
    cases args with
    | nil =>
      simp only [mapO, Option.some.injEq] at hl
      subst hl
      exact me_mth0 o.gd mm pe (base_ok h1) h2
    | cons a r =>
      have hs' := hs
      simp only [List.all_cons, Bool.and_eq_true] at hs'
      refine me_mth o.gd mm pe (args_ok ih o tk hl (by simpa using hs)) (base_ok h1) ?_ h2 (star_cons (by simpa using hs'.1)) (star_plain (by simpa using hs'.2))
      rw [star_not (by simpa using hs)]
      simp only [List.length_cons] at h4 ⊢
      show (true && true && decide (r.length + 1 + 0 + 0 < 30)) = true
      simp; omega
theorem tst_end (m : Ev → Live → Res D) : (fun E L => (m E L).bind fun x L1 => (optV (truD L1 x) L1).bind fun k L2 => if k then Res.ok true L2 else .ok false L2) = tst m := by
  funext E L
  unfold tst
  congr 1
  funext x L1
  cases q : truD L1 x with
  | none => rfl
  | some k => cases k <;> rfl
theorem stL_ok (hf : Fct P w G mg base n p c) (ih : IHE P w G mg base n c t) (o : Ok P w G mg base n X S) (tk : Takes X W) {elt tg iter : PySem.Expr} {ifs : List PySem.Expr} {scope : Scope} {pos : Pos} {me : Ex} (h : stL p t S elt tg iter ifs scope pos = some me) :
    ∃ lv g it tc e', me = .comp lv ((ownOf S.N scope).map (·.2)) g it tc e' ∧ blkB S.sc scope = true ∧ notSet iter = true ∧ PI X tg iter (tI G W (evI c it)) ∧
      (∀ (s : Shared) (H : Hp) (C : Addr) (cl : List (Str × Addr)) (fp : List Addr), PG (X.blk s H scope (compEnvC scope cl C X.env) fp) tg (tG G g)) ∧ (∀ (s : Shared) (H : Hp) (C : Addr) (cl : List (Str × Addr)) (fp : List Addr), PTs (X.blk s H scope (compEnvC scope cl C X.env) fp) ifs (tT G W0 (evC c tc))) ∧
      (∀ (s : Shared) (H : Hp) (C : Addr) (cl : List (Str × Addr)) (fp : List Addr), PE (X.blk s H scope (compEnvC scope cl C X.env) fp) elt (tE G W0 (evE c e'))) ∧ ∀ i ∈ slotsG g, i ∈ (ownOf S.N scope).map (·.2) := by
  unfold stL at h
  obtain ⟨hc, h⟩ := ite_some h
  rw [Bool.and_eq_true] at hc
  obtain ⟨hb, hs⟩ := hc
  cases qg : trG 5 ⟨S.N, relS scope S.sc, some scope⟩ tg with
  | none => rw [qg] at h; cases h
  | some g =>
    rw [qg] at h
    simp only at h
    obtain ⟨hsl, h⟩ := ite_some h
    have hsl' : ∀ i ∈ slotsG g, i ∈ (ownOf S.N scope).map (·.2) := fun i hi => of_decide_eq_true (List.all_eq_true.mp hsl i hi)
    cases qi : stI p t S (isTup tg) iter with
    | none => rw [qi] at h; cases h
    | some it =>
      rw [qi] at h
      simp only at h
      have pi := iter_ok hf ih o tk qi
      have blk := fun s H C cl fp => o.blk hb s H C cl fp
      have pg := fun (s : Shared) (H : Hp) (C : Addr) (cl : List (Str × Addr)) (fp : List Addr) => tgt_ok (blk s H C cl fp) qg
      cases ifs with
      | nil =>
        simp only [Option.map_eq_some_iff] at h
        obtain ⟨e', he, rfl⟩ := h
        exact ⟨_, g, it, .nil, e', rfl, hb, hs, pi, pg, fun s H C cl fp => mc_nil, fun s H C cl fp => (ih _ elt e' he _ W0 (blk s H C cl fp) (takes0 _ _ _ _ _)).1, hsl'⟩
      | cons cc r =>
        cases r with
        | nil =>
          obtain ⟨c', e', hcc, he, rfl⟩ := opt2_some h
          refine ⟨_, g, it, .cons c' .nil, e', rfl, hb, hs, pi, pg, fun s H C cl fp => ?_, fun s H C cl fp => (ih _ elt e' he _ W0 (blk s H C cl fp) (takes0 _ _ _ _ _)).1, hsl'⟩
          have := mc_one (ih _ cc c' hcc _ W0 (blk s H C cl fp) (takes0 _ _ _ _ _)).2
          rw [← tst_end] at this
          exact this
        | cons _ _ => cases h
theorem stL2_ok (hf : Fct P w G mg base n p c) (ih : IHE P w G mg base n c t) (o : Ok P w G mg base n X S) (tk : Takes X W) {elt tg iter tg1 iter1 : PySem.Expr} {ifs1 : List PySem.Expr} {scope : Scope} {pos : Pos} {me : Ex} (h : stL2 p t S elt tg iter tg1 iter1 ifs1 scope pos = some me) :
    ∃ lv g it g1 it1 tc1 e', me = .comp2 lv ((ownOf S.N scope).map (·.2)) (slotsG g1) g it .nil g1 it1 tc1 e' ∧ blkB S.sc scope = true ∧ notSet iter = true ∧ notSet iter1 = true ∧ PI X tg iter (tI G W (evI c it)) ∧
      (∀ (s : Shared) (H : Hp) (C : Addr) (cl : List (Str × Addr)) (fp : List Addr), PG (X.blk s H scope (compEnvC scope cl C X.env) fp) tg (tG G g)) ∧
      (∀ (s : Shared) (H : Hp) (C : Addr) (cl : List (Str × Addr)) (fp : List Addr), PI (X.blk s H scope (compEnvC scope cl C X.env) fp) tg1 iter1 (tI G W0 (evI c it1))) ∧
      (∀ (s : Shared) (H : Hp) (C : Addr) (cl : List (Str × Addr)) (fp : List Addr), PG (X.blk s H scope (compEnvC scope cl C X.env) fp) tg1 (tG G g1)) ∧ (∀ (s : Shared) (H : Hp) (C : Addr) (cl : List (Str × Addr)) (fp : List Addr), PTs (X.blk s H scope (compEnvC scope cl C X.env) fp) ifs1 (tT G W0 (evC c tc1))) ∧
      (∀ (s : Shared) (H : Hp) (C : Addr) (cl : List (Str × Addr)) (fp : List Addr), PE (X.blk s H scope (compEnvC scope cl C X.env) fp) elt (tE G W0 (evE c e'))) ∧ (∀ i ∈ slotsG g, i ∈ (ownOf S.N scope).map (·.2)) ∧ ∀ i ∈ slotsG g1, i ∈ (ownOf S.N scope).map (·.2) := by
  unfold stL2 at h
  obtain ⟨hc, h⟩ := ite_some h
  rw [Bool.and_eq_true, Bool.and_eq_true] at hc
  obtain ⟨hb, hs, hs1⟩ := hc
  cases qg : trG 5 ⟨S.N, relS scope S.sc, some scope⟩ tg with
  | none => rw [qg] at h; cases h
  | some g =>
    rw [qg] at h
    simp only at h
    cases qg1 : trG 5 ⟨S.N, relS scope S.sc, some scope⟩ tg1 with
    | none => rw [qg1] at h; cases h
    | some g1 =>
      rw [qg1] at h
      simp only at h
      obtain ⟨hsl, h⟩ := ite_some h
      rw [Bool.and_eq_true] at hsl
      have hsl' : ∀ i ∈ slotsG g, i ∈ (ownOf S.N scope).map (·.2) := fun i hi => of_decide_eq_true (List.all_eq_true.mp hsl.1 i hi)
      have hsl1' : ∀ i ∈ slotsG g1, i ∈ (ownOf S.N scope).map (·.2) := fun i hi => of_decide_eq_true (List.all_eq_true.mp hsl.2 i hi)
      cases qi : stI p t S (isTup tg) iter with
      | none => rw [qi] at h; cases h
      | some it =>
        rw [qi] at h
        simp only at h
        cases qi1 : stI p t ⟨S.N, relS scope S.sc, some scope⟩ (isTup tg1) iter1 with
        | none => rw [qi1] at h; cases h
        | some it1 =>
          rw [qi1] at h
          simp only at h
          have pi := iter_ok hf ih o tk qi
          have blk := fun s H C cl fp => o.blk hb s H C cl fp
          have pg := fun (s : Shared) (H : Hp) (C : Addr) (cl : List (Str × Addr)) (fp : List Addr) => tgt_ok (blk s H C cl fp) qg
          have pg1 := fun (s : Shared) (H : Hp) (C : Addr) (cl : List (Str × Addr)) (fp : List Addr) => tgt_ok (blk s H C cl fp) qg1
          have pi1 := fun (s : Shared) (H : Hp) (C : Addr) (cl : List (Str × Addr)) (fp : List Addr) => iter_ok hf ih (blk s H C cl fp) (takes0 _ _ _ _ _) qi1
          cases ifs1 with
          | nil =>
            simp only [Option.map_eq_some_iff] at h
            obtain ⟨e', he, rfl⟩ := h
            exact ⟨_, g, it, g1, it1, .nil, e', rfl, hb, hs, hs1, pi, pg, pi1, pg1, fun s H C cl fp => mc_nil, fun s H C cl fp => (ih _ elt e' he _ W0 (blk s H C cl fp) (takes0 _ _ _ _ _)).1, hsl', hsl1'⟩
          | cons cc r =>
            cases r with
            | nil =>
              obtain ⟨c', e', hcc, he, rfl⟩ := opt2_some h
              refine ⟨_, g, it, g1, it1, .cons c' .nil, e', rfl, hb, hs, hs1, pi, pg, pi1, pg1, fun s H C cl fp => ?_, fun s H C cl fp => (ih _ elt e' he _ W0 (blk s H C cl fp) (takes0 _ _ _ _ _)).1, hsl', hsl1'⟩
              have := mc_one (ih _ cc c' hcc _ W0 (blk s H C cl fp) (takes0 _ _ _ _ _)).2
              rw [← tst_end] at this
              exact this
            | cons _ _ => cases h
theorem part_ok (ih : IHE P w G mg base n c t) (o : Ok P w G mg base n X S) (tk : Takes X W) {lo : Option PySem.Expr} {l : Ex} (h : stP t S lo = some l) :
    ∃ m, PO X lo (tO G W (mPart m)) ∧ ∀ E L, (if isAbs l then Res.ok none L else (evE c l E L).bind fun l L2 => optV (part l) L2) = mPart m E L := by
  cases lo with
  | none =>
    simp only [stP, Option.some.injEq] at h
    subst h
    exact ⟨none, mo_none, fun E L => rfl⟩
  | some e =>
    simp only [stP] at h
    cases q : t S e with
    | none => rw [q] at h; cases h
    | some x =>
      rw [q] at h
      simp only at h
      split at h
      · cases h
      · rename_i hn
        simp only [Option.some.injEq] at h
        subst h
        exact ⟨some (evE c x), mo_some (ih S e x q X W o tk).1, fun E L => by rw [if_neg hn]; rfl⟩
theorem me_dic0 {pos : Pos} : PE X (.Dict [] [] pos) (tE G W fun _ L => .ok (.ref L.length) (L ++ [.dic []])) :=
  peImp pe_dnewK fun σ H Q ⟨wd, E, L, rs, w, run⟩ p hp => by
    obtain ⟨e, w'⟩ := w.add (o := .dK []) (x := .dic []) hp (fun wd' e' H' k h => ⟨[], h, .nil⟩)
    refine run _ _ _ e w' ?_
    simp only [RelD]
    exact ⟨p, Wd.add_at, rfl⟩
theorem me_dct0 {pos : Pos} : PE X (.Dict [] [] pos) (tE G W (evE c (.dct [] .nil))) :=
  peImp pe_dnewK fun σ H Q ⟨wd, E, L, rs, w, run⟩ p hp => by
    obtain ⟨e, w'⟩ := w.frz (o := .dK []) hp (.inr (.inr (.inr ⟨_, rfl⟩)))
    refine run _ _ _ e w' ?_
    simp only [RelD]
    exact ⟨p, [], rfl, upd_same, rfl, RelDs.nil⟩
theorem rgV_rel {wd : Wd} {a b : Int} : RelDs G wd (rgV a b) (rgD a b) := by
  unfold rgV rgD
  generalize List.range (b - a).toNat = l
  induction l with
  | nil => exact RelDs.nil
  | cons x r ih => exact RelDs.cons (by simp [RelD]) ih
theorem rgOkB_ok {a b : Int} (h : rgOkB a b = true) : RgOk a b := by
  simp only [rgOkB, Bool.and_eq_true, decide_eq_true_eq] at h
  exact ⟨h.1.1.1.1, h.1.1.1.2, h.1.1.2, h.1.2, h.2⟩
theorem lrg_end {wd : Wd} {H : Hp} {L L' : Live} {lv : Bool} {i j : Int} {d : D} {Q : VK} (w : WOk (G := G) wd H L) (h : lrgD lv i j L = some (d, L')) (e : End G wd d L' Q) : RgOk i j ∧ ∀ q, H q = none → Q (.ref q) (upd H q (.lst (rgV i j))) := by
  unfold lrgD at h
  obtain ⟨h1, h2⟩ := ite_some h
  simp only [Option.some.injEq] at h2
  refine ⟨rgOkB_ok h1, fun q hq => new_list (lv := lv) w rgV_rel hq ?_⟩
  rw [h2]
  exact e
theorem me_lrg1 (g : Gd G X) (lv : Bool) {a : PySem.Expr} {ma : Ev → Live → Res D} {pn pn2 pos pos2 : Pos} (hl : Gl X "list") (hlm : X.mg "list" = none) (hg : Gl X "range") (hm : X.mg "range" = none) (ha : PE X a (tE G W ma)) (na : starEach [a] X.env = (false, eval a X.env) :: starEach [] X.env) :
    PE X (.Call (.Name "list" pn) [.Call (.Name "range" pn2) [a] [] pos2] [] pos) (tE G W fun E L => (ma E L).bind fun x L1 => opt (lrg1D lv x L1)) :=
  peImp (pe_listRg g.calm hl hlm (prg_1 hg hm ha na)) fun σ H Q ⟨wd, E, L, rs, w, run⟩ => ⟨wd, E, L, rs, w, run.bind.imp fun v H1 ⟨wd1, d1, L1, e1, w1, r1, run1⟩ => by
    obtain ⟨d, L', q1, q2⟩ := opt_run run1
    cases d1 with
    | int n =>
      simp only [RelD] at r1
      exact ⟨n, r1, lrg_end w1 q1 q2⟩
    | _ => simp [lrg1D] at q1⟩
theorem me_lrg2 (g : Gd G X) (lv : Bool) {a b : PySem.Expr} {ma mb : Ev → Live → Res D} {pn pn2 pos pos2 : Pos} (hl : Gl X "list") (hlm : X.mg "list" = none) (hg : Gl X "range") (hm : X.mg "range" = none) (ha : PE X a (tE G W ma)) (hb : PE X b (tE G W mb)) (na : starEach [a, b] X.env = (false, eval a X.env) :: starEach [b] X.env) (nb : starEach [b] X.env = (false, eval b X.env) :: starEach [] X.env) (hp : (backTo pos2 (starEach [b] X.env)).any (·.1) = false) :
    PE X (.Call (.Name "list" pn) [.Call (.Name "range" pn2) [a, b] [] pos2] [] pos) (tE G W fun E L => (ma E L).bind fun x L1 => (mb E L1).bind fun y L2 => opt (lrg2D lv x y L2)) :=
  peImp (pe_listRg g.calm hl hlm (prg_2 hg hm ha hb na nb hp)) fun σ H Q ⟨wd, E, L, rs, w, run⟩ => ⟨wd, E, L, rs, w, run.bind.imp fun v H1 ⟨wd1, d1, L1, e1, w1, r1, run1⟩ => ⟨wd1, E, L1, rs.ext e1, w1, run1.bind.imp fun u H2 ⟨wd2, d2, L2, e2, w2, r2, run2⟩ => by
    obtain ⟨d, L', q1, q2⟩ := opt_run run2
    have r1' := r1.ext G e2
    cases d1 with
    | int i =>
      cases d2 with
      | int j =>
        simp only [RelD] at r1' r2
        exact ⟨i, j, r1', r2, lrg_end w2 q1 q2⟩
      | _ => simp [lrg2D] at q1
    | _ => simp [lrg2D] at q1⟩⟩
theorem me_rev (g : Gd G X) (lv : Bool) {a : PySem.Expr} {ma : Ev → Live → Res D} {k : Nat} {p1 p2 p3 pos : Pos} (ha : PE X a (tE G W ma)) :
    PE X (.Subscript a (.Slice none none (some (.UnaryOp .USub (.Constant (.int 1) k p1) p2)) p3) pos) (tE G W fun E L => (ma E L).bind fun x L1 => opt (revD lv x L1)) :=
  peImp (pe_revL ha) fun σ H Q ⟨wd, E, L, rs, w, run⟩ => ⟨wd, E, L, rs, w, run.bind.imp fun v H1 ⟨wd1, d1, L1, e1, w1, r1, run1⟩ => by
    obtain ⟨d, L', q1, q2⟩ := opt_run run1
    unfold revD at q1
    cases q : lstOf L1 d1 with
    | none => rw [q] at q1; cases q1
    | some ds =>
      rw [q] at q1
      simp only [Option.some.injEq] at q1
      obtain ⟨a', xs, rfl, hx, rx⟩ := rd_list w1 r1 q
      exact ⟨a', xs, rfl, .inl hx, fun p hp => new_list (lv := lv) w1 (RelDs.reverse rx) hp (by rw [q1]; exact q2)⟩⟩
theorem stR_ok (hf : Fct P w G mg base n p c) (ih : IHE P w G mg base n c t) (o : Ok P w G mg base n X S) (tk : Takes X W) {x : Str} {pn pos : Pos} {args : List PySem.Expr} {me : Ex} (h : stR p t S x args pos = some me) :
    PE X (.Call (.Name x pn) args [] pos) (tE G W (evE c me)) := by
  unfold stR at h
  split at h
  · rename_i y pn2 as pos2
    obtain ⟨hc, h1⟩ := ite_some h
    clear h
    have h := h1
    clear h1
    simp only [Bool.and_eq_true, decide_eq_true_eq] at hc
    obtain ⟨⟨⟨⟨⟨hx, hy⟩, gx⟩, gy⟩, fx⟩, fy⟩ := hc
    have m1 : X.mg x = none := by rw [o.mg]; exact hf.free _ fx
    have m2 : X.mg y = none := by rw [o.mg]; exact hf.free _ fy
    have g1 := (o.gl gx).1
    have g2 := (o.gl gy).1
    clear fx fy gx gy
    subst hx
    subst hy
    cases as with
    | nil => cases h
    | cons a r =>
      cases r with
      | nil =>
        simp only [stR1] at h
        obtain ⟨hs, h⟩ := ite_some h
        simp only [Option.map_eq_some_iff] at h
        obtain ⟨a', ha, rfl⟩ := h
        exact me_lrg1 o.gd (p.lv pos) g1 m1 g2 m2 (ih S a a' ha X W o tk).1 (star_cons hs)
      | cons b r =>
        cases r with
        | nil =>
          have h2 : (if (notStar a && notStar b) = true then opt2 (t S a) (t S b) (Ex.lrg2 (p.lv pos)) else none) = some me := h
          clear h
          obtain ⟨hs, h⟩ := ite_some h2
          simp only [Bool.and_eq_true] at hs
          obtain ⟨a', b', ha, hb, rfl⟩ := opt2_some h
          exact me_lrg2 o.gd (p.lv pos) g1 m1 g2 m2 (ih S a a' ha X W o tk).1 (ih S b b' hb X W o tk).1 (star_cons hs.1) (star_cons hs.2) (star_plain (by simp [hs.2]))
        | cons _ _ => cases h
  · cases h
theorem stX_ok (hf : Fct P w G mg base n p c) (ih : IHE P w G mg base n c t) (o : Ok P w G mg base n X S) (tk : Takes X W) {x kn : Str} {pn kp pos : Pos} {args : List PySem.Expr} {d : PySem.Expr} {me : Ex} (h : stX p t S x args kn d = some me) :
    PE X (.Call (.Name x pn) args [⟨some kn, d, kp⟩] pos) (tE G W (evE c me)) := by
  unfold stX at h
  split at h
  · rename_i a
    obtain ⟨hc, h2⟩ := ite_some h
    clear h
    simp only [Bool.and_eq_true, decide_eq_true_eq] at hc
    obtain ⟨⟨⟨⟨hx, hk⟩, gx⟩, fx⟩, hs⟩ := hc
    have m1 : X.mg x = none := by rw [o.mg]; exact hf.free _ fx
    have g1 := (o.gl gx).1
    clear fx gx
    subst hx
    subst hk
    obtain ⟨a', d', ha, hd, rfl⟩ := opt2_some h2
    exact me_mxd o.gd g1 m1 (ih S a a' ha X W o tk).1 (ih S d d' hd X W o tk).1 (star_cons hs)
  · cases h
theorem var_ok (o : Ok P w G mg base n X S) {x : Str} {i : Nat} {pos : Pos} (q : varOf S x = some i) : PE X (.Name x pos) (tVar i) := by
  unfold varOf at q
  obtain ⟨hc, q⟩ := ite_some q
  simp only [Bool.and_eq_true, dunder, Bool.not_eq_true', Bool.or_eq_false_iff] at hc
  refine pe_var (by rw [o.N]; exact ixOf_get q) ?_ hc.2.1 hc.2.2
  show X.env.scope.names.lookup x = _ ∨ X.env.scope.names.lookup x = _ ∨ X.env.scope.names.lookup x = _
  rw [o.sc]
  have hv := hc.1
  cases q : S.sc.names.lookup x with
  | none => rw [q] at hv; simp [visK] at hv
  | some k => rw [q] at hv; cases k <;> simp [visK] at hv ⊢
theorem me_dct1 {x : Str} {i j : Nat} {k : Int} {p1 p2 pos : Pos} (pe : PE X (.Name x p2) (tVar i)) : PE X (.Dict [some (.Constant (.int k) j p1)] [.Name x p2] pos) (tE G W (evE c (.dct [.inl k] (.cons (.var i) .nil)))) :=
  peImp (pe_disp (pps_cons pe_int pe pps_nil) rfl rfl (by simp) (by simp)) fun σ H Q ⟨wd, E, L, rs, w, run⟩ p hp => by
    simp only [evE, evA] at run
    cases q : E[i]? with
    | none => rw [q] at run; exact False.elim run
    | some o =>
      rw [q] at run
      cases o with
      | none => exact False.elim run
      | some d =>
        simp only [Res.bind_ok, List.length_singleton, if_true] at run
        obtain ⟨v, h1, h2⟩ := rs.2 i d q
        refine ⟨v, h1, upd_same, [(.inl k, v)], rfl, by simp, ?_⟩
        have e1 : upd (upd H p (.dK [])) p (.dK (mergeK [] [(Sum.inl k, v)])) = upd H p (.dK [(Sum.inl k, v)]) := by
          funext a
          by_cases c : a = p
          · subst c; rw [upd_same, upd_same]; rfl
          · rw [upd_ne c, upd_ne c, upd_ne c]
        rw [e1]
        obtain ⟨e, w'⟩ := w.frz (o := .dK [(Sum.inl k, v)]) hp (.inr (.inr (.inr ⟨_, rfl⟩)))
        refine run _ _ _ e w' ?_
        simp only [RelD]
        exact ⟨p, _, rfl, upd_same, rfl, RelDs.cons (h2.ext G e) RelDs.nil⟩
theorem stK_ok (hf : Fct P w G mg base n p c) (o : Ok P w G mg base n X S) {elt tg iter : PySem.Expr} {ifs : List PySem.Expr} {scope : Scope} {pos : Pos} {me : Ex} (h : stK p S elt tg iter ifs scope pos = some me) :
    PE X (.ListComp elt [⟨tg, iter, ifs, 0⟩] scope pos) (tE G W (evE c me)) := by
  unfold stK at h
  split at h
  · rename_i yk pk2 xk pk xv pv kk tpos xd pd m apos cpos yv pv2
    obtain ⟨hc, h1⟩ := ite_some h
    clear h
    simp only [Bool.and_eq_true, decide_eq_true_eq] at hc
    obtain ⟨⟨hb, hm⟩, hl⟩ := hc
    subst hm
    cases q1 : varOf S xd with
    | none => rw [q1] at h1; cases h1
    | some i =>
      cases q2 : slotOf ⟨S.N, relS scope S.sc, some scope⟩ xk with
      | none => rw [q1, q2] at h1; cases h1
      | some ik =>
        cases q3 : slotOf ⟨S.N, relS scope S.sc, some scope⟩ xv with
        | none => rw [q1, q2, q3] at h1; cases h1
        | some iv =>
          rw [q1, q2, q3] at h1
          obtain ⟨hc, h2⟩ := ite_some h1
          simp only [Bool.and_eq_true, decide_eq_true_eq] at hc
          obtain ⟨⟨⟨⟨c1, c2⟩, c3⟩, c4⟩, c5⟩ := hc
          simp only [Option.some.injEq] at h2
          subst h2
          have blk := fun s H C cl fp => o.blk hb s H C cl fp
          have bo : BlkOk X.N X.env.scope scope (ownOf S.N scope) := by rw [o.N, o.sc]; exact blk_ok hb
          refine me_tks (i := i) (ik := ik) (iv := iv) o.gd (p.lv pos) (var_ok o q1) bo c3 c4 c5 (fun s H C cl fp => ?_) (fun s H C cl fp => var_ok (blk s H C cl fp) c1) (fun s H C cl fp => var_ok (blk s H C cl fp) c2) (base_ok rfl) hl
          obtain ⟨h1, h2, h3⟩ := (blk s H C cl fp).slot q2
          obtain ⟨h4, h5, h6⟩ := (blk s H C cl fp).slot q3
          exact pg_tup (blk s H C cl fp).gd.calm (pgs_cons (pg_name (blk s H C cl fp).gd.nd h1 h2 h3) (pgs_cons (pg_name (blk s H C cl fp).gd.nd h4 h5 h6) pgs_nil)) rfl rfl
  · cases h
theorem stE_ok (hf : Fct P w G mg base n p c) (ih : IHE P w G mg base n c t) : IHE P w G mg base n c (stE p t) := by
  intro S e me h X W o tk
  cases e with
  | Name x pos =>
    simp only [stE] at h
    cases q : varOf S x with
    | some i =>
      rw [q] at h
      simp only [Option.some.injEq] at h
      subst h
      unfold varOf at q
      obtain ⟨hc, q⟩ := ite_some q
      simp only [Bool.and_eq_true, dunder, Bool.not_eq_true', Bool.or_eq_false_iff] at hc
      refine both o (me_var (by rw [o.N]; exact ixOf_get q) ?_ hc.2.1 hc.2.2) (fun _ => rfl)
      show X.env.scope.names.lookup x = _ ∨ X.env.scope.names.lookup x = _ ∨ X.env.scope.names.lookup x = _
      rw [o.sc]
      have hv := hc.1
      cases q : S.sc.names.lookup x with
      | none => rw [q] at hv; simp [visK] at hv
      | some k => rw [q] at hv; cases k <;> simp [visK] at hv ⊢
    | none =>
      rw [q] at h
      simp only at h
      obtain ⟨hg, h⟩ := ite_some h
      simp only [Option.map_eq_some_iff] at h
      obtain ⟨d, hd, rfl⟩ := h
      obtain ⟨v, u, h1, h2, h3⟩ := hf.con x d hd
      exact both o (me_con (pe_glob (o.gl hg).1 (by rw [o.mg]; exact h1) h2 (o.gl hg).2) h3) (fun _ => rfl)
  | Constant k j pos =>
    simp only [stE, Option.map_eq_some_iff] at h
    obtain ⟨d, hd, rfl⟩ := h
    cases k <;> simp only [conOf, Option.some.injEq] at hd <;> first
      | cases hd
      | skip
    · exact both o (me_con pe_non fun wd => by simp [RelD]) (fun _ => rfl)
    · exact both o (me_con pe_bl fun wd => by simp [RelD]) (fun _ => rfl)
    · exact both o (me_con pe_int fun wd => by simp [RelD]) (fun _ => rfl)
    · exact both o (me_con pe_str fun wd => by simp [RelD]) (fun _ => rfl)
  | BinOp a op b pos =>
    simp only [stE] at h
    cases q : bopOf op with
    | none => rw [q] at h; cases h
    | some bo =>
      rw [q] at h
      simp only at h
      obtain ⟨a', b', ha, hb, rfl⟩ := opt2_some h
      have eo := bopOf_ok q
      subst eo
      exact both o (me_op o.gd bo (p.lv pos) (ih S a a' ha X W o tk).1 (ih S b b' hb X W o tk).1) (fun _ => rfl)
  | UnaryOp op a pos =>
    simp only [stE] at h
    cases op with
    | Not =>
      simp only [Option.map_eq_some_iff] at h
      obtain ⟨a', ha, rfl⟩ := h
      obtain ⟨h1, h2⟩ := ih S a a' ha X W o tk
      refine ⟨me_not o.gd h1, ?_⟩
      have e1 : tst (evE c (.not a')) = fun E L => (tst (evE c a') E L).bind fun k L1 => .ok (!k) L1 := by
        rw [← tst_not]
        congr 1
      rw [e1]
      exact mt_not h2
    | USub =>
      simp only [Option.map_eq_some_iff] at h
      obtain ⟨a', ha, rfl⟩ := h
      exact both o (me_neg (ih S a a' ha X W o tk).1) (fun _ => rfl)
    | _ => cases h
  | Compare a ops bs pos =>
    simp only [stE] at h
    split at h
    · rename_i op b
      obtain ⟨hs, h⟩ := ite_some h
      obtain ⟨a', b', ha, hb, rfl⟩ := opt2_some h
      have pa := (ih S a a' ha X W o tk).1
      have pb := (ih S b b' hb X W o tk).1
      have k1 := me_cmp (pos := pos) o.gd (copOf op) pa pb (set_marks hs)
      have k2 := mt_cmp (pos := pos) o.gd (copOf op) pa pb (set_marks hs)
      rw [copOf_ok] at k1 k2
      refine ⟨k1, ?_⟩
      rw [← tst_cmp (cmpD (copOf op))] at k2
      exact k2
    · rename_i op op' b cc
      obtain ⟨hs, h⟩ := ite_some h
      cases qa : t S a with
      | none => rw [qa] at h; cases h
      | some a' =>
        rw [qa] at h
        simp only at h
        obtain ⟨b', c', hb, hc, rfl⟩ := opt2_some h
        have pa := (ih S a a' qa X W o tk).1
        have pb := (ih S b b' hb X W o tk).1
        have pc := (ih S cc c' hc X W o tk).1
        have lm : lastMarks [copM (copOf op), copM (copOf op')] [b, cc] = false := set_marks hs
        have k1 := me_chn (pos := pos) o.gd (copOf op) (copOf op') pa pb pc lm
        have k2 := mt_chn (pos := pos) o.gd (copOf op) (copOf op') pa pb pc lm
        rw [copOf_ok, copOf_ok] at k1 k2
        refine ⟨k1, ?_⟩
        rw [← tst_chn] at k2
        exact k2
    · cases h
  | BoolOp op es pos =>
    simp only [stE] at h
    cases q : mapO (t S) es with
    | none => rw [q] at h; cases h
    | some l =>
      rw [q] at h
      obtain ⟨h1, h2⟩ := bool_ok ih o tk (pos := pos) q h
      exact ⟨h1, h2.pt⟩
  | IfExp cc a b pos =>
    simp only [stE] at h
    cases q : t S cc with
    | none => rw [q] at h; cases h
    | some c' =>
      rw [q] at h
      simp only at h
      obtain ⟨a', b', ha, hb, rfl⟩ := opt2_some h
      obtain ⟨_, hc⟩ := ih S cc c' q X W o tk
      obtain ⟨ha1, ha2⟩ := ih S a a' ha X W o tk
      obtain ⟨hb1, hb2⟩ := ih S b b' hb X W o tk
      have e0 : evE c (.ite c' a' b') = fun E L => (tst (evE c c') E L).bind fun k L1 => if k then evE c a' E L1 else evE c b' E L1 := by
        funext E L
        show _ = ((evE c c' E L).bind _).bind _
        rw [Res.bind_assoc]
        rfl
      rw [e0]
      refine ⟨me_ite hc ha1 hb1, ?_⟩
      rw [tst_ite]
      exact mt_ite hc ha2 hb2
  | Tuple es k pos =>
    simp only [stE] at h
    obtain ⟨hs, h⟩ := ite_some h
    simp only [Option.map_eq_some_iff] at h
    obtain ⟨l, hl, rfl⟩ := h
    exact both o (me_tup (args_ok ih o tk hl hs)) (fun _ => rfl)
  | List es pos =>
    simp only [stE] at h
    obtain ⟨hs, h⟩ := ite_some h
    simp only [Option.map_eq_some_iff] at h
    obtain ⟨l, hl, rfl⟩ := h
    exact both o (me_lst (p.lv pos) (args_ok ih o tk hl hs)) (fun _ => rfl)
  | Dict ks vs pos =>
    simp only [stE] at h
    split at h
    · split at h
      · simp only [Option.some.injEq] at h
        subst h
        exact both o me_dic0 (fun _ => rfl)
      · simp only [Option.some.injEq] at h
        subst h
        exact both o me_dct0 (fun _ => rfl)
    · split at h
      · cases h
      · simp only [Option.map_eq_some_iff] at h
        obtain ⟨i, hi, rfl⟩ := h
        exact both o (me_dct1 (var_ok o hi)) (fun _ => rfl)
    · cases h
  | Subscript a b pos =>
    simp only [stE] at h
    split at h
    · simp only [Option.map_eq_some_iff] at h
      obtain ⟨a', ha, rfl⟩ := h
      exact both o (me_rev o.gd (p.lv pos) (ih S a a' ha X W o tk).1) (fun _ => rfl)
    · rename_i lo hi p2
      cases qa : t S a with
      | none => rw [qa] at h; cases h
      | some a' =>
        rw [qa] at h
        simp only at h
        obtain ⟨l, u, hl, hu, rfl⟩ := opt2_some h
        obtain ⟨m1, p1, e1⟩ := part_ok ih o tk hl
        obtain ⟨m2, p2', e2⟩ := part_ok ih o tk hu
        have key := me_slc (pos := pos) (p2 := p2) o.gd (p.lv pos) (ih S a a' qa X W o tk).1 p1 p2'
        refine both o ?_ (fun _ => rfl)
        have e0 : evE c (.slc (p.lv pos) a' l u) = fun E L => (evE c a' E L).bind fun x L1 => (mPart m1 E L1).bind fun l L2 => (mPart m2 E L2).bind fun h L3 => opt (slcP (p.lv pos) x l h L3) := by
          funext E L
          simp only [evE]
          congr 1
          funext x L1
          rw [e1]
          congr 1
          funext l L2
          rw [e2]
        rw [e0]
        exact key
    · obtain ⟨hs, h⟩ := ite_some h
      obtain ⟨a', b', ha, hb, rfl⟩ := opt2_some h
      exact both o (me_ix o.gd (ih S a a' ha X W o tk).1 (ih S b b' hb X W o tk).1 (slice_ok hs)) (fun _ => rfl)
  | Call f args kws pos =>
    simp only [stE] at h
    cases kws with
    | cons kw kr =>
      cases kr with
      | cons _ _ => cases kw with | mk kn d kp => cases kn <;> cases h
      | nil =>
        cases kw with
        | mk kn d kp =>
          cases kn with
          | none => cases h
          | some kn =>
            simp only at h
            cases f with
            | Name x pn => exact both o (stX_ok hf ih o tk h) (fun _ => rfl)
            | _ => cases h
    | nil =>
      simp only at h
      cases f with
      | Name x pn =>
        cases q : stR p t S x args pos with
        | some e =>
          simp only [q, Option.some.injEq] at h
          subst h
          exact both o (stR_ok hf ih o tk q) (fun _ => rfl)
        | none =>
          simp only [q] at h
          exact both o (stC_ok hf ih o tk h) (fun _ => rfl)
      | Attribute oe m apos => exact both o (stM_ok hf ih o tk h) (fun _ => rfl)
      | _ => cases h
  | ListComp elt gens scope pos =>
    simp only [stE] at h
    split at h
    · rename_i tg iter ifs a
      split at h
      · rename_i ea
        subst ea
        refine both o ?_ (fun _ => rfl)
        cases qL : stL p t S elt tg iter ifs scope pos with
        | none =>
          simp only [qL] at h
          exact stK_ok hf o h
        | some e0 =>
        simp only [qL, Option.some.injEq] at h
        subst h
        obtain ⟨lv, g, it, tc, e', rfl, hb, hs, pi, pg, pt, pe, sl⟩ := stL_ok hf ih o tk qL
        have bo : BlkOk X.N X.env.scope scope (ownOf S.N scope) := by rw [o.N, o.sc]; exact blk_ok hb
        exact peImp (pe_lc o.gd.calm o.gd.nd pi bo pg pt pe (set_folded hs)) fun σ H Q hw => me_comp o.gd lv pi bo pg pt pe sl hw
      · cases h
    · rename_i tg iter ifs a tg1 iter1 ifs1 a1
      split at h
      · rename_i ea
        obtain ⟨ea, ea1, ei⟩ := ea
        subst ea
        subst ea1
        subst ei
        obtain ⟨lv, g, it, g1, it1, tc1, e', rfl, hb, hs, hs1, pi, pg, pi1, pg1, pt1, pe, sl, sl1⟩ := stL2_ok hf ih o tk h
        refine both o ?_ (fun _ => rfl)
        have bo : BlkOk X.N X.env.scope scope (ownOf S.N scope) := by rw [o.N, o.sc]; exact blk_ok hb
        exact peImp (pe_lc2 (vs1 := slotsG g1) o.gd.calm o.gd.nd pi bo sl1 pg (fun _ _ _ _ _ => mc_nil) pi1 pg1 pt1 pe (set_folded hs) (fun _ => set_folded hs1)) fun σ H Q hw => me_comp2 lv sl (fun i hi => hi) hw
      · cases h
    · cases h
  | _ => cases h
theorem trE_ok (hf : Fct P w G mg base n p c) : ∀ m : Nat, IHE P w G mg base n c (trE p m)
  | 0 => fun S e me h => by cases h
  | m + 1 => fun S e me h => stE_ok hf (trE_ok hf m) S e me h
end
end MP
set_option maxHeartbeats 4000000
/-! MP: statements, translated -/
namespace MP
open PySem PySem.Spec PyProof.Rows L2
def notComp : PySem.Expr → Bool | .ListComp _ _ _ _ => false | .SetComp _ _ _ _ => false | .DictComp _ _ _ _ _ => false | _ => true
def isTupE : PySem.Expr → Bool | .Tuple _ _ _ => true | _ => false
def sssOf : List St → Ss
  | [] => .nil
  | s :: ss => .cons s (sssOf ss)
def sw2 (S : Stc) (x : Str) (px : Pos) (y : Str) (py : Pos) (a b : PySem.Expr) : Bool :=
  decide (S.sc.names.lookup x = some .local) && decide (S.sc.names.lookup y = some .local) && (py.line == px.line) && !(decide (x = y)) && notStar a && notStar b && !([a, b].all (foldedForSure 8)) && !([a, b].all (constantsAlone 8))
def sw3 (S : Stc) (x : Str) (px : Pos) (y : Str) (py : Pos) (z : Str) (pz : Pos) (a b d : PySem.Expr) : Bool :=
  decide (S.sc.names.lookup x = some .local) && decide (S.sc.names.lookup y = some .local) && decide (S.sc.names.lookup z = some .local) && (py.line == px.line) && (pz.line == px.line) && !(decide (x = y)) && !(decide (x = z)) && !(decide (y = z)) && notStar a && notStar b && notStar d && !([a, b, d].all (foldedForSure 8)) && !([a, b, d].all (constantsAlone 8))
theorem notStar_any {vs : List PySem.Expr} (h : vs.all notStar = true) : (vs.any fun | .Starred .. => true | _ => false) = false := by
  induction vs with
  | nil => rfl
  | cons a r ih =>
    simp only [List.all_cons, Bool.and_eq_true] at h
    rw [List.any_cons, ih h.2]
    cases a <;> first | rfl | (simp [notStar] at h)
theorem sw2_ok {S : Stc} {x y : Str} {px py pt pt2 : Pos} {kt k2 : Nat} {a b : PySem.Expr} {env : Env} (h : sw2 S x px y py a b = true) (hs : env.scope = S.sc) (hk : env.scope.kind = .function) :
    swappedStores [.Tuple [.Name x px, .Name y py] kt pt] (.Tuple [a, b] k2 pt2) env = pure (some [x, y]) := by
  simp only [sw2, Bool.and_eq_true, decide_eq_true_eq, Bool.not_eq_true', decide_eq_false_iff_not] at h
  obtain ⟨⟨⟨⟨⟨⟨⟨h1, h2⟩, h3⟩, h4⟩, h5⟩, h6⟩, h7⟩, h8⟩ := h
  have bk : env.blockKind = .function := by unfold Env.blockKind; rw [hk]; rfl
  have kx : env.kindOf x = some .local := by show env.scope.names.lookup x = _; rw [hs]; exact h1
  have ky : env.kindOf y = some .local := by show env.scope.names.lookup y = _; rw [hs]; exact h2
  have ha := notStar_any (vs := [a, b]) (by simp [h5, h6])
  have h3' : py.line = px.line := by simpa using h3
  have hyx : ¬ y = x := fun z => h4 z.symm
  have ed : [x, y].eraseDups = [x, y] := by simp [List.eraseDups_cons, hyx]
  unfold swappedStores
  simp only [List.length_cons, List.length_nil, bk, List.head?_cons, Option.map_some, Expr.pos, Option.getD_some, List.filterMap_cons, List.filterMap_nil, kx, ky, h3', h7, h8, beq_self_eq_true, Bool.and_self, if_true, ed]
  rw [if_neg (by decide)]
  refine (if_neg fun hh => ?_).trans rfl
  have hh' := ha.symm.trans hh
  cases hh'
theorem sw3_ok {S : Stc} {x y z : Str} {px py pz pt pt2 : Pos} {kt k2 : Nat} {a b d : PySem.Expr} {env : Env} (h : sw3 S x px y py z pz a b d = true) (hs : env.scope = S.sc) (hk : env.scope.kind = .function) :
    swappedStores [.Tuple [.Name x px, .Name y py, .Name z pz] kt pt] (.Tuple [a, b, d] k2 pt2) env = pure (some [x, y, z]) := by
  simp only [sw3, Bool.and_eq_true, decide_eq_true_eq, Bool.not_eq_true', decide_eq_false_iff_not] at h
  obtain ⟨⟨⟨⟨⟨⟨⟨⟨⟨⟨⟨⟨h1, h2⟩, h3⟩, h4⟩, h5⟩, h6⟩, h7⟩, h8⟩, h9⟩, h10⟩, h11⟩, h12⟩, h13⟩ := h
  have bk : env.blockKind = .function := by unfold Env.blockKind; rw [hk]; rfl
  have kx : env.kindOf x = some .local := by show env.scope.names.lookup x = _; rw [hs]; exact h1
  have ky : env.kindOf y = some .local := by show env.scope.names.lookup y = _; rw [hs]; exact h2
  have kz : env.kindOf z = some .local := by show env.scope.names.lookup z = _; rw [hs]; exact h3
  have ha := notStar_any (vs := [a, b, d]) (by simp [h9, h10, h11])
  have h4' : py.line = px.line := by simpa using h4
  have h5' : pz.line = px.line := by simpa using h5
  have hyx : ¬ y = x := fun q => h6 q.symm
  have hzx : ¬ z = x := fun q => h7 q.symm
  have hzy : ¬ z = y := fun q => h8 q.symm
  have ed : [x, y, z].eraseDups = [x, y, z] := by simp [List.eraseDups_cons, hyx, hzx, hzy]
  unfold swappedStores
  simp only [List.length_cons, List.length_nil, bk, List.head?_cons, Option.map_some, Expr.pos, Option.getD_some, List.filterMap_cons, List.filterMap_nil, kx, ky, kz, h4', h5', h12, h13, beq_self_eq_true, Bool.and_self, if_true, ed]
  rw [if_neg (by decide)]
  refine (if_neg fun hh => ?_).trans rfl
  have hh' := ha.symm.trans hh
  cases hh'
/-- the plain names among targets, as the model counts them -/
def swNames (sc : Scope) (ts : List PySem.Expr) : List Str := ts.filterMap fun
    | .Name id pos => if sc.names.lookup id == some .local && pos.line == (ts.head?.map (·.pos.line)).getD 0 then some id else none
    | _ => none
/-- no pair of tuples whose stores are swapped -/
def swNo (S : Stc) (tg e : PySem.Expr) : Bool := match tg, e with
  | .Tuple ts _ _, .Tuple vs _ _ => !(ts.length == 2 || ts.length == 3) || (vs.all notStar && ((swNames S.sc ts).length != ts.length || vs.all (foldedForSure 8)))
  | .List _ _, .Tuple _ _ _ => false
  | _, _ => true
theorem swNo_tup {S : Stc} {ts vs : List PySem.Expr} {k1 k2 : Nat} {p1 p2 : Pos} {env : Env} (hs : env.scope = S.sc) (h : (!(ts.length == 2 || ts.length == 3) || (vs.all notStar && ((swNames S.sc ts).length != ts.length || vs.all (foldedForSure 8)))) = true) : swappedStores [.Tuple ts k1 p1] (.Tuple vs k2 p2) env = pure none := by
  have en : (ts.filterMap fun
    | .Name id pos => if env.kindOf id == some .local && pos.line == (ts.head?.map (·.pos.line)).getD 0 then some id else none
    | _ => none) = swNames S.sc ts := by
    unfold swNames Env.kindOf
    rw [hs]
  unfold swappedStores
  simp only [Bool.or_eq_true, Bool.and_eq_true] at h
  by_cases c1 : (!(ts.length == 2 || ts.length == 3)) = true
  · simp only [c1, Bool.true_or, if_true]
  · obtain ⟨h1, h2⟩ := h.resolve_left c1
    have ha := notStar_any h1
    dsimp only
    split
    · rfl
    · refine (if_neg fun hh => ?_).trans ?_
      · have hh' := ha.symm.trans hh
        cases hh'
      · rcases h2 with h2 | h2
        · split
          · rfl
          · rename_i hc
            exfalso
            refine hc ?_
            have e2 := congrArg List.length en
            refine (Bool.or_eq_true _ _).mpr (.inl ?_)
            exact (congrArg (fun z : Nat => z != ts.length) e2).trans h2
        · split
          · rfl
          · first | rfl | rw [if_pos h2]
theorem swNo_ok {S : Stc} {tg e : PySem.Expr} {env : Env} (hs : env.scope = S.sc) (h : swNo S tg e = true) : swappedStores [tg] e env = pure none := by
  cases tg with
  | Tuple ts k p1 =>
    cases e with
    | Tuple vs k2 p2 => exact swNo_tup hs h
    | _ => rfl
  | List ts p1 =>
    cases e with
    | Tuple vs k2 p2 => simp [swNo] at h
    | _ => rfl
  | _ => cases e <;> rfl
/-- a comprehension whose value is kept by a name that the block may not take -/
def swComp (S : Stc) (x : Str) (px pos : Pos) (scope : Scope) : Bool := (px.line == pos.line) && decide (S.sc.names.lookup x = some .local) && !(scope.names.any fun (n, k) => n == x && (k == .local || k == .cell))
theorem swComp_no {S : Stc} {x : Str} {px pos : Pos} {scope : Scope} {elt : PySem.Expr} {gens : List Comprehension} {l : Nat} {env : Env} (hs : env.scope = S.sc) (hk : env.scope.kind = .function) (h : swComp S x px pos scope = false) : swapsWithSole [.Name x px] (.ListComp elt gens scope pos) l env = pure false := by
  have bk : env.blockKind = .function := by unfold Env.blockKind; rw [hk]; rfl
  have kx : env.kindOf x = S.sc.names.lookup x := by show env.scope.names.lookup x = _; rw [hs]
  unfold swapsWithSole swapsWith
  dsimp only
  rw [bk, kx]
  refine congrArg pure ?_
  rw [← h]
  unfold swComp
  have e1 : (S.sc.names.lookup x == some NameKind.local) = decide (S.sc.names.lookup x = some .local) := by rw [Bool.eq_iff_iff]; simp
  rw [e1]
  rw [show (PySem.Expr.ListComp elt gens scope pos).pos = pos from rfl]
  cases decide (S.sc.names.lookup x = some .local) <;> cases (px.line == pos.line) <;> rfl
theorem swapsNo {e : PySem.Expr} {tgt : Option PySem.Expr} {l : Nat} {env : Env} (h : notComp e = true) : swapsWith e tgt l env = pure false := by
  cases e <;> first | rfl | (simp [notComp] at h)
end MP
set_option maxHeartbeats 4000000
/-! MP: the translation of statements -/
namespace MP
open PySem PySem.Spec PyProof.Rows L2
def notSl : PySem.Expr → Bool | .Slice _ _ _ _ => false | _ => true
def noTks : Option Ex → Option Ex | some (.tks _ _ _ _) => none | x => x
theorem noTks_some {o : Option Ex} {e : Ex} (h : noTks o = some e) : o = some e ∧ ∀ lv i ik iv, e ≠ .tks lv i ik iv := by
  cases o with
  | none => cases h
  | some x =>
    cases x <;> first
      | (simp [noTks] at h; done)
      | (simp only [noTks, Option.some.injEq] at h; subst h; exact ⟨rfl, by intros; simp⟩)
theorem stK_shape {p : Par} {S : Stc} {elt tg iter : PySem.Expr} {ifs : List PySem.Expr} {scope : Scope} {pos : Pos} {e : Ex} (h : stK p S elt tg iter ifs scope pos = some e) : ∃ lv i ik iv, e = .tks lv i ik iv := by
  unfold stK at h
  split at h
  · split at h
    · split at h
      · split at h
        · simp only [Option.some.injEq] at h
          exact ⟨_, _, _, _, h.symm⟩
        · cases h
      · cases h
    · cases h
  · cases h
section
variable (p : Par) (te : Stc → PySem.Expr → Option Ex) (ts : Stc → PySem.Stmt → Option St)
def stA (S : Stc) (tg e : PySem.Expr) : Option St :=
  match tg with
  | .Name x px =>
    if notComp e then opt2 (slotOf S x) (te S e) fun i e' => .asg (.nm (.slot i)) e'
    else match e with
      | .ListComp elt gens scope pos => opt2 (slotOf S x) (noTks (te S (.ListComp elt gens scope pos))) fun i e' => .asg (.nm (.slot i)) e'
      | _ => none
  | .Tuple tgs k pt =>
    if notComp e && swNo S (.Tuple tgs k pt) e then opt2 (trG 5 S (.Tuple tgs k pt)) (te S e) fun g e' => .asg (.nm g) e'
    else match tgs, e with
      | [.Name x px, .Name y py], .Tuple [a, b] _ _ => if sw2 S x px y py a b then
          match ixOf x S.N, ixOf y S.N with
          | some i, some j => (mapO (te S) [a, b]).map fun l => .par [i, j] (exsOf l)
          | _, _ => none
        else none
      | [.Name x px, .Name y py, .Name z pz], .Tuple [a, b, d] _ _ => if sw3 S x px y py z pz a b d then
          match ixOf x S.N, ixOf y S.N, ixOf z S.N with
          | some i, some j, some k => (mapO (te S) [a, b, d]).map fun l => .par [i, j, k] (exsOf l)
          | _, _, _ => none
        else none
      | _, _ => none
  | .Subscript o i _ => if notComp e && notSl i then match te S o with | some o' => opt2 (te S i) (te S e) fun i' e' => .asg (.sub o' i') e' | none => none else none
  | _ => none
def stS (S : Stc) : PySem.Stmt → Option St
  | .Expr e _ => match e with
    | .Constant (.str _) _ _ => some .pas
    | e => if notComp e then (te S e).map .ex else none
  | .Return e _ => match e with | none => some .retN | some e => (te S e).map .ret
  | .If k a b _ => match te S k with | some k' => opt2 (mapO (ts S) a) (mapO (ts S) b) fun a' b' => .ite k' (sssOf a') (sssOf b') | none => none
  | .For tg iter body orelse _ => match orelse with
    | [] => if notSet iter then match trG 5 S tg with
        | some g => opt2 (stI p te S (isTup tg) iter) (mapO (ts S) body) fun it b => .for_ g it (sssOf b)
        | none => none
      else none
    | _ => none
  | .While k body orelse _ => match orelse with
    | [] => opt2 (te S k) (mapO (ts S) body) fun k' b => .whl k' (sssOf b)
    | _ => none
  | .Break _ => some .brk
  | .Continue _ => some .cnt
  | .Pass _ => some .pas
  | .Assign tgs e _ => match tgs with | [tg] => stA te S tg e | _ => none
  | .AugAssign tg op e _ => match tg with
    | .Name x _ => match op with
      | .Add => opt2 (slotOf S x) (te S e) fun i e' => .aug i .add e'
      | .Sub => opt2 (slotOf S x) (te S e) fun i e' => .aug i .sub e'
      | _ => none
    | _ => none
  | .Delete tgs _ => match tgs with
    | [.Subscript o i _] => opt2 (te S o) (te S i) .del
    | _ => none
  | .Raise _ _ _ => some .nev
  | .Try _ _ _ _ _ => some .nev
  | .Match _ _ _ => some .nev
  | _ => none
end
def trS (p : Par) : Nat → Stc → PySem.Stmt → Option St
  | 0, _, _ => none
  | n + 1, S, s => stS p (trE p 60) (trS p n) S s
def trSs (p : Par) (S : Stc) (b : List PySem.Stmt) : Option Ss := (mapO (trS p 30 S) b).map sssOf

section
variable {P : Program} {w : World} {G : Gv} {mg : Str → Option Value} {base : Heap} {n : Nat} {p : Par} {c : Cxt} {te : Stc → PySem.Expr → Option Ex} {ts : Stc → PySem.Stmt → Option St} {X : Cx} {S : Stc} {W : WX}
def IHS (P : Program) (w : World) (G : Gv) (mg : Str → Option Value) (base : Heap) (n : Nat) (c : Cxt) (ts : Stc → PySem.Stmt → Option St) : Prop :=
  ∀ S e me, ts S e = some me → ∀ X W, Ok P w G mg base n X S → Takes X W → PassesOwn (model X.prog X.w) X.A X.env X.xe → PS X e (tS G W (evS c me))
theorem block_ok (ih : IHS P w G mg base n c ts) (o : Ok P w G mg base n X S) (tk : Takes X W) (hp : PassesOwn (model X.prog X.w) X.A X.env X.xe) : ∀ {b : List PySem.Stmt} {l : List St}, mapO (ts S) b = some l → PSs X b (tS G W (evSs c (sssOf l)))
  | [], l, h => by simp only [mapO, Option.some.injEq] at h; subst h; exact mss_nil
  | s :: b, l, h => by
    simp only [mapO] at h
    cases q : ts S s with
    | none => rw [q] at h; cases h
    | some a =>
      rw [q] at h
      cases q2 : mapO (ts S) b with
      | none => rw [q2] at h; cases h
      | some r =>
        rw [q2] at h
        simp only [Option.some.injEq] at h
        subst h
        exact mss_cons (ih S s a q X W o tk hp) (block_ok ih o tk hp q2)
theorem storeT_ends (g : Tgt) (d : D) (E : Ev) (L : Live) (r : SRes) (h : storeT c g d E L = r) : (∃ E' L', r = .fl .nx E' L') ∨ (∃ C fs E' L', r = .exc C fs E' L') ∨ r = .stuck := by
  have of_ : ∀ {α : Type} (m : Res α) (k : α → Live → SRes), (∀ a L, (∃ E' L', k a L = .fl .nx E' L') ∨ (∃ C fs E' L', k a L = .exc C fs E' L') ∨ k a L = .stuck) → (∃ E' L', SRes.of m E k = .fl .nx E' L') ∨ (∃ C fs E' L', SRes.of m E k = .exc C fs E' L') ∨ SRes.of m E k = .stuck := fun {α} m k hk => by
    cases m with
    | ok a L => exact hk a L
    | exc C fs L => exact .inr (.inl ⟨_, _, _, _, rfl⟩)
    | stuck => exact .inr (.inr rfl)
  subst h
  cases g with
  | nm g =>
    simp only [storeT]
    cases storeG g d E with
    | none => exact .inr (.inr rfl)
    | some E' => exact .inl ⟨_, _, rfl⟩
  | sub o i =>
    simp only [storeT]
    refine of_ _ _ fun x L1 => of_ _ _ fun y L2 => ?_
    cases setD x y d L2 with
    | none => exact .inr (.inr rfl)
    | some L3 => exact .inl ⟨_, _, rfl⟩
  | fld o f =>
    simp only [storeT]
    refine of_ _ _ fun x L1 => ?_
    split
    · split
      · split
        · exact .inl ⟨_, _, rfl⟩
        · exact .inr (.inr rfl)
      · exact .inr (.inr rfl)
    · exact .inr (.inr rfl)
theorem swapsSole {tg e : PySem.Expr} {l : Nat} {env : Env} (h : notComp e = true) : swapsWithSole [tg] e l env = pure false := by
  unfold swapsWithSole
  exact swapsNo h
theorem stA_ok (hf : Fct P w G mg base n p c) {m : Nat} (o : Ok P w G mg base n X S) (tk : Takes X W) {tg e : PySem.Expr} {pos : Pos} {ms : St} (h : stA (trE p m) S tg e = some ms) : PS X (.Assign [tg] e pos) (tS G W (evS c ms)) := by
  have ih := trE_ok hf m
  have pe := fun (e : PySem.Expr) (me : Ex) (h : trE p m S e = some me) => (ih S e me h X W o tk).1
  cases tg with
  | Name x px =>
    simp only [stA] at h
    split at h
    · rename_i hc
      obtain ⟨i, e', hi, he, rfl⟩ := opt2_some h
      obtain ⟨h1, h2, h3⟩ := o.slot hi
      exact ms_asg (pe e e' he) (mg_names (mg_slot o.gd h1 h2 h3)) (fun d E L r hr => storeT_ends (.nm (.slot i)) d E L r hr) (swapsSole hc) (swNo_ok o.sc (by cases e <;> rfl)) rfl
    · rename_i hc
      split at h
      · rename_i elt gens scope p2
        obtain ⟨i, e', hi, he, rfl⟩ := opt2_some h
        have hn := noTks_some he
        clear he
        obtain ⟨he, hnt⟩ := hn
        obtain ⟨h1, h2, h3⟩ := o.slot hi
        by_cases hcs : swComp S x px p2 scope = true
        case neg =>
          exact ms_asg (pe _ e' he) (mg_names (mg_slot o.gd h1 h2 h3)) (fun d E L r hr => storeT_ends (.nm (.slot i)) d E L r hr) (swComp_no o.sc o.kind (by simpa using hcs)) rfl rfl
        simp only [swComp, Bool.and_eq_true, decide_eq_true_eq, Bool.not_eq_true'] at hcs
        obtain ⟨⟨c1, c2⟩, c3⟩ := hcs
        cases m with
        | zero => cases he
        | succ m =>
          simp only [trE, stE] at he
          split at he
          · rename_i tg iter ifs a
            split at he
            · rename_i ea
              subst ea
              cases qL : stL p (trE p m) S elt tg iter ifs scope p2 with
              | none =>
                simp only [qL] at he
                obtain ⟨_, _, _, _, z⟩ := stK_shape he
                exact absurd z (hnt _ _ _ _)
              | some e0 =>
              simp only [qL, Option.some.injEq] at he
              subst he
              obtain ⟨lv, g, it, tc, e2, rfl, hb, hs, pi, pg, pt, pe, sl⟩ := stL_ok hf (trE_ok hf m) o tk qL
              have bo : BlkOk X.N X.env.scope scope (ownOf S.N scope) := by rw [o.N, o.sc]; exact blk_ok hb
              have hyl : X.env.scope.names.lookup x = some .local := by rw [o.sc]; exact c2
              have key := ps_setLc (i := i) (spos := pos) o.gd.calm o.gd.nd h1 hyl (sw_true o.kind hyl c1 c3) pi bo pg pt pe (set_folded hs)
              refine psImp key fun D σ H ⟨wd, E, L, rs, w, run⟩ => ?_
              refine me_comp o.gd lv pi bo pg pt pe sl (Q := fun v H1 => D.nx (σ.set i (some v)) H1) ⟨wd, E, L, rs, w, (RunS.of rs run).imp fun v H1 ⟨wd1, d, L1, e1, w1, r1, run1⟩ => ?_⟩
              simp only [storeT, storeG] at run1
              split at run1
              · rename_i E' hE
                split at hE
                · cases hE
                  exact run1 wd1 _ H1 (Ext.refl _) w1 ((rs.ext e1).set i r1)
                · cases hE
              · exact False.elim run1
            · cases he
          · rename_i tg iter ifs a tg1 iter1 ifs1 a1
            split at he
            · rename_i ea
              obtain ⟨ea, ea1, ei⟩ := ea
              subst ea
              subst ea1
              subst ei
              obtain ⟨lv, g, it, g1, it1, tc1, e2, rfl, hb, hs, hs1, pi, pg, pi1, pg1, pt1, pe, sl, sl1⟩ := stL2_ok hf (trE_ok hf m) o tk he
              have bo : BlkOk X.N X.env.scope scope (ownOf S.N scope) := by rw [o.N, o.sc]; exact blk_ok hb
              have hyl : X.env.scope.names.lookup x = some .local := by rw [o.sc]; exact c2
              have key := ps_setLc2 (i := i) (spos := pos) (vs1 := slotsG g1) (tt := tT G W0 (evC c .nil)) o.gd.calm o.gd.nd h1 hyl (sw_true o.kind hyl c1 c3) pi bo sl1 pg (fun _ _ _ _ _ => mc_nil) pi1 pg1 pt1 pe (set_folded hs) (fun _ => set_folded hs1)
              refine psImp key fun D σ H ⟨wd, E, L, rs, w, run⟩ => ?_
              refine me_comp2 lv sl (fun i hi => hi) (Q := fun v H1 => D.nx (σ.set i (some v)) H1) ⟨wd, E, L, rs, w, (RunS.of rs run).imp fun v H1 ⟨wd1, d, L1, e1, w1, r1, run1⟩ => ?_⟩
              simp only [storeT, storeG] at run1
              split at run1
              · rename_i E' hE
                split at hE
                · cases hE
                  exact run1 wd1 _ H1 (Ext.refl _) w1 ((rs.ext e1).set i r1)
                · cases hE
              · exact False.elim run1
            · cases he
          · cases he
      · cases h
  | Tuple tgs k pt =>
    simp only [stA] at h
    split at h
    · rename_i hc
      rw [Bool.and_eq_true] at hc
      obtain ⟨g, e', hg, he, rfl⟩ := opt2_some h
      exact ms_asg (pe e e' he) (mg_names (tgt_ok o hg)) (fun d E L r hr => storeT_ends (.nm g) d E L r hr) (swapsSole hc.1) (swNo_ok o.sc hc.2) rfl
    · rename_i hc
      split at h
      · rename_i x px y py a b k2 p2
        obtain ⟨hs, h⟩ := ite_some h
        split at h
        · rename_i i j hi hj
          simp only [Option.map_eq_some_iff] at h
          obtain ⟨l, hl, rfl⟩ := h
          have hs' := hs
          simp only [sw2, Bool.and_eq_true, decide_eq_true_eq, Bool.not_eq_true', decide_eq_false_iff_not] at hs'
          obtain ⟨⟨⟨⟨⟨⟨⟨q1, q2⟩, q3⟩, q4⟩, q5⟩, q6⟩, q7⟩, q8⟩ := hs'
          have gi := ixOf_get hi
          have gj := ixOf_get hj
          have hx : X.env.scope.names.lookup x = some .local := by rw [o.sc]; exact q1
          have hy : X.env.scope.names.lookup y = some .local := by rw [o.sc]; exact q2
          exact ms_par2 o.gd (by rw [o.N]; exact gi) (by rw [o.N]; exact gj) (fun z => q4 (by rw [z, gj] at gi; exact (Option.some.inj gi).symm)) hx hy (args_ok ih o tk hl (by simp [q5, q6])) (sw2_ok hs o.sc o.kind)
        · cases h
      · rename_i x px y py z pz a b d k2 p2
        obtain ⟨hs, h⟩ := ite_some h
        split at h
        · rename_i i j kk hi hj hk
          simp only [Option.map_eq_some_iff] at h
          obtain ⟨l, hl, rfl⟩ := h
          have hs' := hs
          simp only [sw3, Bool.and_eq_true, decide_eq_true_eq, Bool.not_eq_true', decide_eq_false_iff_not] at hs'
          obtain ⟨⟨⟨⟨⟨⟨⟨⟨⟨⟨⟨⟨q1, q2⟩, q3⟩, q4⟩, q5⟩, q6⟩, q7⟩, q8⟩, q9⟩, q10⟩, q11⟩, q12⟩, q13⟩ := hs'
          have gi := ixOf_get hi
          have gj := ixOf_get hj
          have gk := ixOf_get hk
          have hx : X.env.scope.names.lookup x = some .local := by rw [o.sc]; exact q1
          have hy : X.env.scope.names.lookup y = some .local := by rw [o.sc]; exact q2
          have hz : X.env.scope.names.lookup z = some .local := by rw [o.sc]; exact q3
          exact ms_par3 o.gd (by rw [o.N]; exact gi) (by rw [o.N]; exact gj) (by rw [o.N]; exact gk) (fun z => q6 (by rw [z, gj] at gi; exact (Option.some.inj gi).symm)) (fun z => q7 (by rw [z, gk] at gi; exact (Option.some.inj gi).symm)) (fun z => q8 (by rw [z, gk] at gj; exact (Option.some.inj gj).symm)) hx hy hz
            (args_ok ih o tk hl (by simp [q9, q10, q11])) (sw3_ok hs o.sc o.kind)
        · cases h
      · cases h
  | Subscript oe i p2 =>
    simp only [stA] at h
    obtain ⟨hc, h⟩ := ite_some h
    rw [Bool.and_eq_true] at hc
    cases q : trE p m S oe with
    | none => rw [q] at h; cases h
    | some o' =>
      rw [q] at h
      simp only at h
      obtain ⟨i', e', hi, he, rfl⟩ := opt2_some h
      exact ms_asg (pe e e' he) (mg_sub o.gd (pe oe o' q) (pe i i' hi) (fun v => by have h2 := hc.2; cases i <;> first | rfl | (simp [notSl] at h2))) (fun d E L r hr => storeT_ends (.sub o' i') d E L r hr) (swapsSole hc.1) (swNo_ok o.sc (by cases e <;> rfl)) rfl
  | _ => simp [stA] at h
theorem stS_ok (hf : Fct P w G mg base n p c) {m : Nat} (ih : IHS P w G mg base n c ts) : IHS P w G mg base n c (stS p (trE p m) ts) := by
  intro S st ms h X W o tk hp
  have ihe := trE_ok hf m
  have pe := fun (e : PySem.Expr) (me : Ex) (h : trE p m S e = some me) => ihe S e me h X W o tk
  cases st with
  | Expr e pos =>
    simp only [stS] at h
    split at h
    · simp only [Option.some.injEq] at h
      subst h
      exact ms_doc
    · obtain ⟨hc, h⟩ := ite_some h
      simp only [Option.map_eq_some_iff] at h
      obtain ⟨e', he, rfl⟩ := h
      exact ms_expr (pe e e' he).1 (swapsNo hc)
  | Return e pos =>
    simp only [stS] at h
    split at h
    · simp only [Option.some.injEq] at h
      subst h
      exact ms_retN
    · rename_i e
      simp only [Option.map_eq_some_iff] at h
      obtain ⟨e', he, rfl⟩ := h
      exact ms_ret (pe e e' he).1
  | If k a b pos =>
    simp only [stS] at h
    cases q : trE p m S k with
    | none => rw [q] at h; cases h
    | some k' =>
      rw [q] at h
      simp only at h
      obtain ⟨a', b', ha, hb, rfl⟩ := opt2_some h
      exact ms_if (pe k k' q).2 (block_ok ih o tk hp ha) (block_ok ih o tk hp hb)
  | For tg iter body orelse pos =>
    simp only [stS] at h
    split at h
    · obtain ⟨hs, h⟩ := ite_some h
      cases q : trG 5 S tg with
      | none => rw [q] at h; cases h
      | some g =>
        rw [q] at h
        simp only at h
        obtain ⟨it, b, hi, hb, rfl⟩ := opt2_some h
        exact ms_for o.gd hp (iter_ok hf ihe o tk hi) (tgt_ok o q) (block_ok ih o tk hp hb) (set_folded hs)
    · cases h
  | While k body orelse pos =>
    simp only [stS] at h
    split at h
    · obtain ⟨k', b, hk, hb, rfl⟩ := opt2_some h
      exact ms_while hp c.fuel (pe k k' hk).2 (block_ok ih o tk hp hb)
    · cases h
  | Break pos => simp only [stS, Option.some.injEq] at h; subst h; exact ms_break
  | Continue pos => simp only [stS, Option.some.injEq] at h; subst h; exact ms_continue
  | Pass pos => simp only [stS, Option.some.injEq] at h; subst h; exact ms_pass
  | Assign tgs e pos =>
    simp only [stS] at h
    split at h
    · exact stA_ok hf o tk h
    · cases h
  | AugAssign tg op e pos =>
    simp only [stS] at h
    split at h
    · rename_i x px
      split at h
      · obtain ⟨i, e', hi, he, rfl⟩ := opt2_some h
        obtain ⟨h1, h2, h3⟩ := o.slot hi
        exact ms_aug o.gd (op := .add) (.inl rfl) h1 h2 (pe e e' he).1 h3
      · obtain ⟨i, e', hi, he, rfl⟩ := opt2_some h
        obtain ⟨h1, h2, h3⟩ := o.slot hi
        exact ms_aug o.gd (op := .sub) (.inr rfl) h1 h2 (pe e e' he).1 h3
      · cases h
    · cases h
  | Delete tgs pos =>
    simp only [stS] at h
    split at h
    · obtain ⟨a, b, ha, hb, rfl⟩ := opt2_some h
      exact ms_del (pe _ a ha).1 (pe _ b hb).1
    · cases h
  | Raise a b pos => simp only [stS, Option.some.injEq] at h; subst h; exact ms_never
  | Try a b d e pos => simp only [stS, Option.some.injEq] at h; subst h; exact ms_never
  | Match a b pos => simp only [stS, Option.some.injEq] at h; subst h; exact ms_never
  | _ => simp [stS] at h
theorem trS_ok (hf : Fct P w G mg base n p c) : ∀ m : Nat, IHS P w G mg base n c (trS p m)
  | 0 => fun S e me h => by cases h
  | m + 1 => fun S e me h => stS_ok hf (trS_ok hf m) S e me h
end
end MP
set_option maxHeartbeats 4000000
/-! MP: a table of defs -/
namespace MP
open PySem PySem.Spec PyProof.Rows L2
structure Fn where
  np : Nat
  nN : Nat
  liv : List Bool
  clean : Bool
  body : Ss
def startE (nN : Nat) (ds : List D) : Ev := ds.map some ++ List.replicate (nN - ds.length) none
def resOf : SRes → Res D
  | .fl .nx _ L => .ok .non L
  | .fl (.rt d) _ L => .ok d L
  | .exc C fs _ L => .exc C fs L
  | _ => .stuck
def runB (c : Cxt) (d : Fn) (ds : List D) (L : Live) : Res D := if ds.length = d.np then resOf (evSs c d.body (startE d.nN ds) L) else .stuck
def runF (c : Cxt) (d : Fn) (ds : List D) (L : Live) : Res D := if d.clean then cleanR L (runB c d ds L) else runB c d ds L
structure Tab where
  fn : Nat → Option Fn
  meth : Str → Str → Option Nat
  init : Str → Option Nat
  exf : Str → Option (List Str)
  fuel : Nat
def Tab.cx (T : Tab) : Nat → Cxt
  | 0 => ⟨fun _ _ _ => .stuck, fun f => match T.fn f with | some d => d.liv | none => [], T.meth, T.init, T.exf, T.fuel⟩
  | n + 1 => ⟨fun f ds L => match T.fn f with | some d => runF (T.cx n) d ds L | none => .stuck, fun f => match T.fn f with | some d => d.liv | none => [], T.meth, T.init, T.exf, T.fuel⟩
/-- what is known of a def of the table -/
structure DefOk (K : PySem.W.Frag) (mg : Str → Option Value) (p : Par) (d : Fn) (x : Str) (fa : Addr) : Prop where
  ex : ∃ (qual : Str) (params : Arguments) (body : List Stmt) (scope : Scope) (N ps : List Str) (fd : FuncData), FunD K x qual params body scope [] [] fa fd ∧ FnScope N ps scope ∧ d.np = ps.length ∧ d.nN = N.length ∧ trSs p ⟨N, scope, none⟩ body = some d.body ∧
    ∀ (kV doc pm : Value) (an : Option Addr) (cdv ct : Value) (us : List Value), us.length = ps.length → bindArgs (PySem.W.fnOf x qual params body scope .none kV doc pm an cdv ct) ⟨us, []⟩ = pure (ps.zip us)
structure TabOk (K : PySem.W.Frag) (mg : Str → Option Value) (p : Par) (T : Tab) (nm : Nat → Str) (ad : Nat → Addr) : Prop where
  sm : SmK K
  free : ∀ x, p.free x = true → mg x = none
  con : ∀ (cls : Str → Option Addr) x d, p.con x = some d → ∃ v u, mg x = some u ∧ RelV v u ∧ ∀ wd, RelD ⟨K, cls⟩ wd v d
  ix : ∀ x pos f, p.fnOf x pos = some f → nm f = x ∧ ∃ d, T.fn f = some d
  glo : ∀ f d, T.fn f = some d → mg (nm f) = some (.ref (ad f))
  def_ : ∀ f d, T.fn f = some d → DefOk K mg p d (nm f) (ad f)
theorem relSt_start {G : Gv} {wd : Wd} {N : List Str} {vs : List V} {ds : List D} (r : RelDs G wd vs ds) (hl : ds.length ≤ N.length) : RelSt (G := G) wd (start N vs) (startE N.length ds) := by
  have len := RelDs.length r
  refine ⟨by simp [L2.start, startE, len], fun i d h => ?_⟩
  unfold startE at h
  unfold L2.start
  by_cases hi : i < ds.length
  · rw [List.getElem?_append_left (by simpa using hi), List.getElem?_map] at h
    cases q : ds[i]? with
    | none => rw [q] at h; cases h
    | some e =>
      rw [q] at h
      cases h
      obtain ⟨v, h1, h2⟩ := RelDs.get r q
      exact ⟨v, by rw [List.getElem?_append_left (by simp; omega), List.getElem?_map, h1]; rfl, h2⟩
  · rw [List.getElem?_append_right (by simpa using hi), List.getElem?_replicate] at h
    split at h <;> cases h
section
variable {P : Program} {w : World} {G : Gv} {mg : Str → Option Value} {base : Heap} {p : Par} {T : Tab} {nm : Nat → Str} {ad : Nat → Addr}
theorem tab_fct (ok : TabOk G.K mg p T nm ad) {n : Nat} (ih : ∀ f d, T.fn f = some d → FnG P w G.K mg base n (ad f) (spM G ((T.cx n).φ f))) : Fct P w G mg base n p (T.cx n) := by
  refine ⟨ok.free, fun x d h => ?_, fun x pos f h => ?_⟩
  · obtain ⟨v, u, h1, h2, h3⟩ := ok.con G.cls x d h
    exact ⟨v, u, h1, h2, h3⟩
  · obtain ⟨rfl, d, hd⟩ := ok.ix x pos f h
    obtain ⟨qual, params, body, scope, N, ps, fd, F, _⟩ := (ok.def_ f d hd).ex
    exact ⟨ad f, ok.glo f d hd, F.kp, ih f d hd⟩
theorem fnG_run (ok : TabOk G.K mg p T nm ad) {n f : Nat} {d : Fn} (hd : T.fn f = some d) (hf : Fct P w G mg base n p (T.cx n)) : FnG P w G.K mg base (n + 1) (ad f) (spM G (runB (T.cx n) d)) := by
  obtain ⟨qual, params, body, scope, N, ps, fd, F, S, e1, e2, e3, hb⟩ := (ok.def_ f d hd).ex
  have len : ∀ vs H Q E, spM G (runB (T.cx n) d) vs H Q E → vs.length = ps.length := fun vs H Q E ⟨wd, ds, L, _, r, run⟩ => by
    rw [RelDs.length r]
    unfold runB at run
    split at run
    · rename_i h; rw [h, e1]
    · exact False.elim run
  refine fnG_of F S hb len fun cdv A outer s H vs Q E hr hg hsp => ?_
  have hl := len vs H Q E hsp
  obtain ⟨wd, ds, L, w1, r, run⟩ := hsp
  have hds : ds.length = d.np := by rw [← RelDs.length r, hl, e1]
  unfold runB at run
  rw [if_pos hds] at run
  simp only [trSs, Option.map_eq_some_iff] at e3
  obtain ⟨l, hl2, eb⟩ := e3
  have hpl : ps.length ≤ N.length := by have := congrArg List.length S.pre; rw [List.length_take] at this; omega
  refine ⟨tS G (fun cls dx _ H' => E cls dx H') (evSs (T.cx n) d.body), ?_, wd, startE N.length ds, L, relSt_start r (by omega), w1, ?_⟩
  · rw [← eb]
    refine block_ok (P := P) (w := w) (mg := mg) (base := base) (n := n) (trS_ok hf 30) ?_ (takes_of rfl rfl rfl rfl) (passes_of rfl) hl2
    exact ⟨rfl, rfl, rfl, rfl, ⟨rfl, rfl, hg, by have := hr.un; show (A.deeper _).units + 65 < _; omega, S.nd, ok.sm⟩, rfl, rfl, rfl, hr, S.kind⟩
  · rw [← e2]
    cases q : evSs (T.cx n) d.body (startE d.nN ds) L with
    | stuck => rw [q] at run; exact False.elim run
    | exc C fs E' L' =>
      rw [q] at run
      exact fun wd' σ' H' cls dx e w r x => run wd' H' cls dx e w x
    | fl fl E' L' =>
      rw [q] at run
      cases fl with
      | nx => exact fun wd' σ' H' e w r => run wd' H' .non e w (by simp [RelD])
      | bk => exact False.elim run
      | ct => exact False.elim run
      | rt v => exact run
theorem tab_ok (ok : TabOk G.K mg p T nm ad) : ∀ n f d, T.fn f = some d → FnG P w G.K mg base n (ad f) (spM G ((T.cx n).φ f))
  | 0, f, d, hd => fun A outer s H us vs Q E hr hg e0 r ⟨wd, ds, L, _, _, run⟩ => False.elim run
  | n + 1, f, d, hd => by
    have h := fnG_run ok hd (tab_fct ok (tab_ok ok n))
    refine h.imp fun vs H Q E hs => ?_
    have e : (T.cx (n + 1)).φ f = fun ds L => runF (T.cx n) d ds L := by
      funext ds L
      simp only [Tab.cx, hd]
    rw [e] at hs
    by_cases hc : d.clean = true
    · have e2 : (fun ds L => runF (T.cx n) d ds L) = fun ds L => cleanR L (runB (T.cx n) d ds L) := by
        funext ds L
        simp only [runF, hc, if_true]
      rw [e2] at hs
      exact spM_clean vs H Q E hs
    · have e2 : (fun ds L => runF (T.cx n) d ds L) = runB (T.cx n) d := by
        funext ds L
        simp only [runF]
        rw [if_neg hc]
      rw [e2] at hs
      exact hs
end
end MP
set_option maxHeartbeats 4000000
/-! MP: the law's call, the head -/
namespace MP
open PySem PySem.Spec PyProof.Rows L2
/-- the script is the one thing that is tracked -/
theorem law_g {P : Program} {w : World} {K : PySem.W.Frag} {mg mb : Str → Option Value} {k : Nat} {fa a : Addr} {sp : Sp} {s1 : Shared} {vs : List Value} {ns : List Int}
    (KX : K.In s1.heap) (hns : s1.heap.Ns mainGlobals mg) (hb : s1.heap.Ns builtinsNs mb) (hbb : ∀ x : Str, x ≠ "__name__" → mb x = bootBuiltins x) (hlim : s1.heap.NoLimit) (hg : s1.gens = #[])
    (ha : s1.heap.get? a = some { cls := .type "list", data := .seq vs.toArray }) (hi : IntsAre vs ns) (hl : ns.length ≤ sizeLine) (hr : Room k callerA) (hK : K.lookup a = none)
    (F : ∀ base : Heap, K.In base → base.Ns mainGlobals mg → FnG P w K mg base k fa sp)
    (hsp : ∀ H : Hp, (∃ o, H a = some (.frz o (.lst (ns.map V.int)))) → sp [.ref a] H (fun v _ => v = .bl true) fun _ _ _ => False) :
    codeAny (model P w) callerA (.call (.ref fa) ⟨[.ref a], []⟩) (fun r s' => r = .ok (.ret (.bool true)) ∧ OldK s1.heap s'.heap ∧ s'.os = s1.os ∧ AllBare s'.gens) s1 := by
  obtain ⟨H, hH⟩ : ∃ H : Hp, H = fun b => if b = a then some (.frz { cls := .type "list", data := .seq vs.toArray } (.lst (ns.map V.int))) else none := ⟨_, rfl⟩
  have Ha : H a = some (.frz { cls := .type "list", data := .seq vs.toArray } (.lst (ns.map V.int))) := by rw [hH]; exact if_pos rfl
  have Hn : ∀ b, b ≠ a → H b = none := fun b n => by rw [hH]; exact if_neg n
  have hok : HOk P w H s1.heap := fun b u z => by
    by_cases q : b = a
    · subst q
      rw [Ha] at z; cases z
      exact ⟨ha, by rw [List.length_map]; exact hl, vs, _, vals_ints hi, ha⟩
    · rw [Hn b q] at z; cases z
  have keep : ∀ {b : Addr} {o : Obj}, s1.heap.get? b = some o → b ≠ a → (hidT s1.heap H).get? b = some o := fun e n => hidT_get e (Hn _ n)
  have ns_ : ∀ {b : Addr} {m : Str → Option Value}, s1.heap.Ns b m → (hidT s1.heap H).Ns b m := fun {b m} ⟨o, es, ep, e, d, r⟩ => ⟨o, es, ep, keep e (fun z => by subst z; rw [ha] at e; cases e; cases d), d, r⟩
  have hKb : K.In (hidT s1.heap H) := fun b o e => keep (KX b o e) (fun z => by subst z; rw [hK] at e; cases e)
  have e0 : Env0 P w K mg (hidT s1.heap H) callerA [] s1 H :=
    ⟨rfl, ⟨hKb, ns_ hns, ⟨mb, ns_ hb, hbb⟩, let ⟨mc, h1, h2⟩ := hlim; ⟨mc, ns_ h1, h2⟩⟩, fun b o e => of_hidT e, Nat.le_of_eq (hidT_size _ _), trivial, fun b hb => absurd (show b ∈ ([] : List Addr) from hb) (by simp), hok, .of_eq hg⟩
  refine codeAny_mono (F _ hKb (ns_ hns) callerA [] s1 H [.ref a] [.ref a] _ _ hr rfl e0 (.cons rfl .nil) (hsp H ⟨_, Ha⟩)) fun r s' h => ?_
  match r, h with
  | .error e, ⟨_, _, _, _, _, _, _, _, _, _, _, _, z⟩ => exact False.elim z
  | .ok (.ret u), ⟨v, H', os, bare, un, hok', r', q⟩ =>
    have q' : v = .bl true := q
    subst q'
    obtain rfl : u = Value.bool true := r'
    refine ⟨rfl, OldK.of_keep fun b o e => ?_, os, bare⟩
    by_cases n : b = a
    · subst n
      obtain ⟨e1, _⟩ := hok' b _ (un.frzs b _ _ Ha)
      rw [ha] at e; cases e
      exact e1
    · exact un.keep b o e (Hn b n) (by intro z; exact absurd (show b ∈ ([] : List Addr) from z) (by simp)) (by simp)
/-- no list stands in the written part -/
def noLst (K : PySem.W.Frag) : Bool := K.all fun q => match q.2.cls with | .type c => !(decide (c = "list")) | _ => true
theorem noLst_ok {K : PySem.W.Frag} (h : noLst K = true) {a : Addr} {o : Obj} (e : K.lookup a = some o) (hc : o.cls = .type "list") : False := by
  have h1 := List.all_eq_true.mp h (a, o) (lookup_mem e)
  simp [hc] at h1
/-- the law's head wants this of its def -/
theorem walk_g {l : PySem.W.OpenLaw} {n k : Nat} {q : Program} {loose : List Str} {XP : (Str → Option Value) → Heap → Prop} {YP : World → Heap → Prop} {d : DefRec}
    (hn : l.most = some n) (hn2 : n ≤ sizeLine) (hdf : d.params.defaults = []) (hr : Room k callerA)
    (F : ∀ (w : World) (mg : Str → Option Value) (fa : Addr) (h : Heap), YP w h → h.Ns mainGlobals mg → mg d.name = some (.ref fa) →
      ∃ (K : PySem.W.Frag) (sp : Sp), K.In h ∧ noLst K = true ∧ (∀ (H : Hp) (a : Addr) (ns : List Int), ns.length ≤ n → (∀ i ∈ ns, Builtin.Int.intBits i ≤ 1048576) → (∃ o, H a = some (.frz o (.lst (ns.map V.int)))) → sp [.ref a] H (fun v _ => v = .bl true) fun _ _ _ => False) ∧
        ∀ base : Heap, K.In base → base.Ns mainGlobals mg → FnG l.prog w K mg base k fa sp) :
    PySem.W.WalkO q loose XP YP l.row.toRowW d [] (fun f vs => PySem.call f vs) := by
  refine Att.attach_callB hn hdf fun w s0 s1 mg mb fa o pm cd doc a vs ns G Y ho hd hcd hmg hobj hints hlen hbits hg => ?_
  obtain ⟨K, sp, KX, nl, hsp, hF⟩ := F w mg fa _ Y G.T.g hmg
  have hK : K.lookup a = none := by
    cases e : K.lookup a with
    | none => rfl
    | some o =>
      have := KX a o e
      rw [hobj] at this; cases this
      exact (noLst_ok nl e rfl).elim
  exact law_g KX G.T.g G.T.b G.T.builtins G.T.nolimit hg hobj hints (Nat.le_trans hlen hn2) hr hK hF fun H hH => hsp H a ns hlen hbits hH
/-- the hook: facts, defs, and no list -/
def hookN (n : Nat) (fa : List He.Fa) (fn : List He.DefD) : PySem.W.Hook where
  α := Bool × He.AlD
  obs := fun s => (noLst (He.frG s.heap.get? (He.asD s.heap.get? n)), He.obsDG n fa fn s.heap.get?)
  val := fun _ => (true, He.valD fn)
  says := fun _ h => ∃ K : PySem.W.Frag, K.In h ∧ He.SaysD fa fn K ∧ noLst K = true
  of := fun _ _ e => ⟨_, He.frG_in, congrArg Prod.snd e, congrArg Prod.fst e⟩
  keeps := fun _ _ _ ⟨K, hK, c, n⟩ k => ⟨K, PySem.W.Frag.In.keeps hK k, c, n⟩
def obN (n : Nat) (fa : List He.Fa) (fn : List He.DefD) (s : PySem.W.SharedT) : Bool × He.AlD := (noLst (He.frG (HandSHeadRun.getT s) (He.asD (HandSHeadRun.getT s) n)), He.obsDG n fa fn (HandSHeadRun.getT s))
theorem obN_eq (n : Nat) (fa : List He.Fa) (fn : List He.DefD) (s : PySem.W.SharedT) : obN n fa fn s = (hookN n fa fn).obs s.abs := by
  have e : HandSHeadRun.getT s = s.abs.heap.get? := funext (HandSHeadRun.getT_eq s)
  unfold obN
  rw [e]
  rfl
/-- the law's promise from its evaluation -/
theorem law_sp {G : Gv} {m : List D → Live → Res D} {H : Hp} {a : Addr} {ns : List Int} (hH : ∃ o, H a = some (.frz o (.lst (ns.map V.int)))) (h : ∃ L, m [.lst 0 (ns.map D.int)] [] = .ok (.bl true) L) :
    spM G m [.ref a] H (fun v _ => v = .bl true) fun _ _ _ => False := by
  obtain ⟨o, hH⟩ := hH
  obtain ⟨L, h⟩ := h
  have w : WOk (G := G) { ι := fun _ => none, F := fun b => if b = a then H a else none, bor := [] } H [] := by
    refine ⟨fun b u z => ?_, fun n o z => ?_, fun n b z => ?_, fun n m b z => ?_, fun b z => ?_, fun b u z => ?_, fun n b z => ?_⟩
    rotate_left
    · simp at z
    · exact absurd (show (none : Option Addr) = some b from z) (by simp)
    · exact fun _ => absurd (show (none : Option Addr) = some b from z) (by simp)
    · exact absurd (show b ∈ ([] : List Addr) from z) (by simp)
    rotate_left
    · exact absurd (show (none : Option Addr) = some b from z) (by simp)
    · have z' : (if b = a then H a else none) = some u := z
      split at z'
      · rename_i e; rw [e]; exact z'
      · cases z'
    · have z' : (if b = a then H a else none) = some u := z
      split at z'
      · rw [hH] at z'; cases z'
        exact .inr (.inr (.inl ⟨_, _, rfl⟩))
      · cases z'
  refine ⟨_, [.lst 0 (ns.map D.int)], [], w, ?_, ?_⟩
  · refine RelDs.cons ?_ RelDs.nil
    simp only [RelD]
    exact ⟨a, ns.map V.int, rfl, .inr ⟨o, by show (if a = a then H a else none) = _; rw [if_pos rfl]; exact hH⟩, relInts ns, fun _ => by simp, fun k hk => by cases hk⟩
  · rw [h]
    intro wd' H' v e w r
    simpa [RelD] using r
end MP
set_option maxHeartbeats 4000000
/-! MP: a law's defs, told by data -/
namespace MP
open PySem PySem.Spec PyProof.Rows L2
/-! ### constants of the module -/
def relVD (K : PySem.W.Frag) : Nat → Value → D → Bool
  | 0, _, _ => false
  | n + 1, u, d => match d with
    | .non => (match u with | .none => true | _ => false)
    | .bl b => (match u with | .bool c => decide (b = c) | _ => false)
    | .int i => (match u with | .int j _ => decide (i = j) | _ => false)
    | .str x => (match u with | .str y _ => decide (x = y) | _ => false)
    | .tup ds => (match u with
      | .ref a => (match K.lookup a with
        | some o => (match o.data with
          | .seq its _ => decide (o.cls = .type "tuple") && decide (its.size ≤ sizeLine) && decide (its.toList.length = ds.length) && (its.toList.zip ds).all fun q => relVD K n q.1 q.2
          | _ => false)
        | none => false)
      | _ => false)
    | _ => false
theorem relVDs_ok {K : PySem.W.Frag} {n : Nat} (ih : ∀ {u : Value} {d : D}, relVD K n u d = true → ∃ v, RelV v u ∧ ∀ cls wd, RelD ⟨K, cls⟩ wd v d) : ∀ {us : List Value} {ds : List D}, us.length = ds.length → ((us.zip ds).all fun q => relVD K n q.1 q.2) = true →
    ∃ vs, Vals vs us ∧ ∀ cls wd, RelDs ⟨K, cls⟩ wd vs ds
  | [], [], _, _ => ⟨[], .nil, fun _ _ => RelDs.nil⟩
  | [], _ :: _, h, _ => by simp at h
  | _ :: _, [], h, _ => by simp at h
  | u :: us, d :: ds, hl, h => by
    simp only [List.zip_cons_cons, List.all_cons, Bool.and_eq_true] at h
    obtain ⟨v, h1, h2⟩ := ih h.1
    obtain ⟨vs, h3, h4⟩ := relVDs_ok ih (by simpa using hl) h.2
    exact ⟨v :: vs, .cons h1 h3, fun cls wd => RelDs.cons (h2 cls wd) (h4 cls wd)⟩
theorem relVD_ok {K : PySem.W.Frag} : ∀ {n : Nat} {u : Value} {d : D}, relVD K n u d = true → ∃ v, RelV v u ∧ ∀ cls wd, RelD ⟨K, cls⟩ wd v d
  | 0, u, d, h => by simp [relVD] at h
  | n + 1, u, d, h => by
    cases d with
    | non => cases u <;> first | (simp [relVD] at h; done) | exact ⟨.non, rfl, fun _ _ => by simp [RelD]⟩
    | bl b => cases u <;> first | (simp [relVD] at h; done) | (simp only [relVD, decide_eq_true_eq] at h; subst h; exact ⟨.bl _, rfl, fun _ _ => by simp [RelD]⟩)
    | int i => cases u <;> first | (simp [relVD] at h; done) | (simp only [relVD, decide_eq_true_eq] at h; subst h; exact ⟨.int _, ⟨_, rfl⟩, fun _ _ => by simp [RelD]⟩)
    | str i => cases u <;> first | (simp [relVD] at h; done) | (simp only [relVD, decide_eq_true_eq] at h; subst h; exact ⟨.str _, ⟨_, rfl⟩, fun _ _ => by simp [RelD]⟩)
    | tup ds =>
      cases u with
      | ref a =>
        simp only [relVD] at h
        cases q : K.lookup a with
        | none => rw [q] at h; cases h
        | some o =>
          rw [q] at h
          simp only at h
          cases qd : o.data with
          | seq its k =>
            rw [qd] at h
            simp only [Bool.and_eq_true, decide_eq_true_eq] at h
            obtain ⟨⟨⟨h1, h2⟩, h3⟩, h4⟩ := h
            obtain ⟨vs, h5, h6⟩ := relVDs_ok (fun {u d} h => relVD_ok h) h3 h4
            refine ⟨.ref a, rfl, fun cls wd => ?_⟩
            simp only [RelD]
            exact ⟨a, vs, rfl, .inr ⟨o, its, k, q, h1, qd, h2, h5⟩, h6 cls wd⟩
          | _ => rw [qd] at h; cases h
      | _ => simp [relVD] at h
    | _ => cases u <;> simp [relVD] at h
def conB (K : PySem.W.Frag) (q : Str × D) : Bool := match PySem.W.nsIn K mainGlobals q.1 with
  | some (some u) => relVD K 4 u q.2
  | _ => false
/-! ### a law's data -/
structure Dn where
  id : Nat
  name : Str
  st : PySem.Stmt
  N : List Str
  fn : Fn
abbrev stArgs : PySem.Stmt → Arguments | .FunctionDef _ a _ _ _ _ _ _ _ _ => a | _ => ⟨[], [], none, [], [], none, []⟩
abbrev stBody : PySem.Stmt → List PySem.Stmt | .FunctionDef _ _ b _ _ _ _ _ _ _ => b | _ => []
abbrev stScope : PySem.Stmt → Scope | .FunctionDef _ _ _ _ _ _ s _ _ _ => s | _ => ⟨.function, [], false, false, []⟩
def Dn.ps (d : Dn) : List Str := (stArgs d.st).args.map (·.arg)
def Dn.dd (d : Dn) : He.DefD := ⟨(d.name, none), d.name, d.name, stArgs d.st, stBody d.st, stScope d.st, [], []⟩
structure Dn.Ok (p : Par) (d : Dn) : Prop where
  sc : FnScope d.N d.ps (stScope d.st)
  np : d.fn.np = d.ps.length
  nN : d.fn.nN = d.N.length
  tr : trSs p ⟨d.N, stScope d.st, none⟩ (stBody d.st) = some d.fn.body
  bd : ∀ (kV doc pm : Value) (an : Option Addr) (cdv ct : Value) (us : List Value), us.length = d.ps.length → bindArgs (PySem.W.fnOf d.name d.name (stArgs d.st) (stBody d.st) (stScope d.st) .none kV doc pm an cdv ct) ⟨us, []⟩ = pure (d.ps.zip us)
/-- what the translation is told: live lists at these places, the names of the defs, constants, the built-ins' names -/
structure LD where
  lv : List (Nat × Nat)
  con : List (Str × D)
  free : List Str
  nms : List (Str × Nat)
def LD.par (l : LD) : Par := ⟨fun p => l.lv.any fun q => q.1 == p.line && q.2 == p.col, fun x _ => l.nms.lookup x, fun x => l.con.lookup x, fun x => l.free.any fun y => decide (y = x)⟩
def LD.fa (l : LD) : List He.Fa := l.free.map .free ++ l.nms.map fun q => .glo q.1
def fnd : List Dn → Nat → Option Dn
  | [], _ => none
  | d :: ds, f => if d.id = f then some d else fnd ds f
theorem fnd_mem {f : Nat} {d : Dn} : ∀ {ds : List Dn}, fnd ds f = some d → d ∈ ds ∧ d.id = f
  | [], h => by cases h
  | e :: ds, h => by
    simp only [fnd] at h
    split at h
    · rename_i z; cases h; exact ⟨List.mem_cons_self, z⟩
    · obtain ⟨a, b⟩ := fnd_mem h; exact ⟨List.mem_cons_of_mem _ a, b⟩
theorem fnd_of {d : Dn} : ∀ {ds : List Dn}, d ∈ ds → (ds.map (·.id)).Nodup → fnd ds d.id = some d
  | [], h, _ => by cases h
  | e :: ds, h, u => by
    rw [List.map_cons, List.nodup_cons] at u
    simp only [fnd]
    rcases List.mem_cons.mp h with rfl | h
    · rw [if_pos rfl]
    · rw [if_neg fun z => u.1 (by rw [z]; exact List.mem_map.mpr ⟨d, h, rfl⟩)]
      exact fnd_of h u.2
def tabOf (ds : List Dn) (fuel : Nat) : Tab := ⟨fun f => (fnd ds f).map (·.fn), fun _ _ => none, fun _ => none, fun _ => none, fuel⟩
def nmOf (ds : List Dn) (f : Nat) : Str := ((fnd ds f).map (·.name)).getD Str.empty
def frS (g : Addr → Option Obj) (n : Nat) : PySem.W.Frag := He.frG g (sysModules :: He.asD g n)
def smB (K : PySem.W.Frag) : Bool := match K.lookup sysModules with | some o => (match o.cls with | .type c => decide (c = "dict") | _ => false) | none => false
theorem smB_ok {K : PySem.W.Frag} (h : smB K = true) : SmK K := by
  unfold smB at h
  cases q : K.lookup sysModules with
  | none => rw [q] at h; cases h
  | some o =>
    rw [q] at h
    simp only at h
    cases qc : o.cls <;> rw [qc] at h <;> simp at h
    subst h
    exact ⟨o, q, qc⟩
def hookL (n : Nat) (l : LD) (ds : List Dn) : PySem.W.Hook where
  α := Bool × He.AlD
  obs := fun s => ((noLst (frS s.heap.get? n) && smB (frS s.heap.get? n)) && l.con.all (conB (frS s.heap.get? n)), He.obsD l.fa (ds.map Dn.dd) (frS s.heap.get? n))
  val := fun _ => (true, He.valD (ds.map Dn.dd))
  says := fun _ h => ∃ K : PySem.W.Frag, K.In h ∧ He.SaysD l.fa (ds.map Dn.dd) K ∧ (noLst K = true ∧ SmK K) ∧ l.con.all (conB K) = true
  of := fun _ _ e => ⟨_, He.frG_in, congrArg Prod.snd e, ⟨(Bool.and_eq_true_iff.mp (Bool.and_eq_true_iff.mp (congrArg Prod.fst e)).1).1, smB_ok (Bool.and_eq_true_iff.mp (Bool.and_eq_true_iff.mp (congrArg Prod.fst e)).1).2⟩, (Bool.and_eq_true_iff.mp (congrArg Prod.fst e)).2⟩
  keeps := fun _ _ _ ⟨K, hK, c⟩ k => ⟨K, PySem.W.Frag.In.keeps hK k, c⟩
def obL (n : Nat) (l : LD) (ds : List Dn) (s : PySem.W.SharedT) : Bool × He.AlD := ((noLst (frS (HandSHeadRun.getT s) n) && smB (frS (HandSHeadRun.getT s) n)) && l.con.all (conB (frS (HandSHeadRun.getT s) n)), He.obsD l.fa (ds.map Dn.dd) (frS (HandSHeadRun.getT s) n))
theorem obL_eq (n : Nat) (l : LD) (ds : List Dn) (s : PySem.W.SharedT) : obL n l ds s = (hookL n l ds).obs s.abs := by
  have e : HandSHeadRun.getT s = s.abs.heap.get? := funext (HandSHeadRun.getT_eq s)
  unfold obL
  rw [e]
  rfl
theorem says_all {fa : List He.Fa} {fn : List He.DefD} {K : PySem.W.Frag} (c : He.SaysD fa fn K) {f : He.Fa} (h : f ∈ fa) : f.ok K = true := by
  obtain ⟨i, hi⟩ := List.mem_iff_getElem?.mp h
  exact c.fact i hi
theorem tabL_ok {l : LD} {ds : List Dn} {K : PySem.W.Frag} {h : Heap} {mg : Str → Option Value} {fuel : Nat} (hsm : SmK K) (X : K.In h) (Gl : h.Ns mainGlobals mg) (c : He.SaysD l.fa (ds.map Dn.dd) K) (cc : l.con.all (conB K) = true) (hn : l.nms = ds.map fun d => (d.name, d.id)) (hu : (ds.map (·.id)).Nodup) (hd : ∀ d ∈ ds, d.Ok l.par) :
    TabOk K mg l.par (tabOf ds fuel) (nmOf ds) (fun f => He.ga K (nmOf ds f)) where
  sm := hsm
  free := fun x hx => by
    obtain ⟨y, hy, e⟩ := List.any_eq_true.mp (show (l.free.any fun y => decide (y = x)) = true from hx)
    have e := of_decide_eq_true e
    subst e
    exact He.free_ok X Gl (says_all c (List.mem_append_left _ (List.mem_map.mpr ⟨y, hy, rfl⟩)))
  con := fun cls x d hx => by
    have hm := lookup_mem (show l.con.lookup x = some d from hx)
    have h1 := List.all_eq_true.mp cc _ hm
    unfold conB at h1
    cases q : PySem.W.nsIn K mainGlobals x with
    | none => rw [q] at h1; cases h1
    | some o =>
      rw [q] at h1
      cases o with
      | none => cases h1
      | some u =>
        obtain ⟨v, h2, h3⟩ := relVD_ok h1
        exact ⟨v, u, PySem.W.mg_of X Gl q, h2, h3 cls⟩
  ix := fun x pos f hx => by
    have h1 := lookup_mem (show l.nms.lookup x = some f from hx)
    rw [hn] at h1
    obtain ⟨d, hd', e⟩ := List.mem_map.mp h1
    cases e
    have h2 := fnd_of hd' hu
    exact ⟨by simp [nmOf, h2], d.fn, by simp [tabOf, h2]⟩
  glo := fun f d hfd => by
    simp only [tabOf, Option.map_eq_some_iff] at hfd
    obtain ⟨e, he, rfl⟩ := hfd
    have en : nmOf ds f = e.name := by simp [nmOf, he]
    rw [en]
    refine He.glo_ok X Gl (says_all c (List.mem_append_right _ (List.mem_map.mpr ⟨(e.name, e.id), ?_, rfl⟩)))
    rw [hn]
    exact List.mem_map.mpr ⟨e, (fnd_mem he).1, rfl⟩
  def_ := fun f d hfd => by
    simp only [tabOf, Option.map_eq_some_iff] at hfd
    obtain ⟨e, he, rfl⟩ := hfd
    have en : nmOf ds f = e.name := by simp [nmOf, he]
    obtain ⟨sc, np, nN, tr, bd⟩ := hd e (fnd_mem he).1
    obtain ⟨i, hi⟩ := List.mem_iff_getElem?.mp (fnd_mem he).1
    obtain ⟨fd, F⟩ := c.def_ i (d := e.dd) (by rw [List.getElem?_map, hi]; rfl)
    rw [en]
    exact ⟨e.name, stArgs e.st, stBody e.st, stScope e.st, e.N, e.ps, fd, F, sc, np, nN, tr, bd⟩
/-- the law's promise for the head -/
theorem law_F {l : LD} {ds : List Dn} {n m fuel f : Nat} {P : Program} {w : World} {mg : Str → Option Value} {fa : Addr} {h : Heap} {d : Dn} (Y : (hookL n l ds).says w h) (Gl : h.Ns mainGlobals mg) (hmg : mg d.name = some (.ref fa)) (hn : l.nms = ds.map fun d => (d.name, d.id)) (hu : (ds.map (·.id)).Nodup) (hd : ∀ d ∈ ds, d.Ok l.par)
    (hf : fnd ds f = some d) (ev : ∀ ns : List Int, ns.length ≤ 63 → (∀ i ∈ ns, Builtin.Int.intBits i ≤ 1048576) → ∃ L, ((tabOf ds fuel).cx m).φ f [.lst 0 (ns.map D.int)] [] = .ok (.bl true) L) :
    ∃ (K : PySem.W.Frag) (sp : Sp), K.In h ∧ noLst K = true ∧ (∀ (H : Hp) (a : Addr) (ns : List Int), ns.length ≤ 63 → (∀ i ∈ ns, Builtin.Int.intBits i ≤ 1048576) → (∃ o, H a = some (.frz o (.lst (ns.map V.int)))) → sp [.ref a] H (fun v _ => v = .bl true) fun _ _ _ => False) ∧
        ∀ base : Heap, K.In base → base.Ns mainGlobals mg → FnG P w K mg base m fa sp := by
  obtain ⟨K, KX, c, ⟨nl, hsm⟩, cc⟩ := Y
  have ok := tabL_ok (fuel := fuel) hsm KX Gl c cc hn hu hd
  refine ⟨K, spM ⟨K, fun _ => none⟩ (((tabOf ds fuel).cx m).φ f), KX, nl, fun H a ns hl hb hH => law_sp hH (ev ns hl hb), fun base hb hB => ?_⟩
  have key := tab_ok (P := P) (w := w) (base := base) (G := ⟨K, fun _ => none⟩) ok m f d.fn (by simp [tabOf, hf])
  have hg := ok.glo f d.fn (by simp [tabOf, hf])
  have en : nmOf ds f = d.name := by simp [nmOf, hf]
  simp only [en] at hg key
  rw [hg] at hmg
  cases hmg
  exact key
end MP
set_option maxHeartbeats 4000000
/-! MP: laws of the evaluator -/
namespace MP
open PySem PySem.Spec PyProof.Rows L2
theorem phi_of {T : Tab} {f : Nat} {d : Fn} (h : T.fn f = some d) (k : Nat) (ds : List D) (L : Live) : (T.cx (k + 1)).φ f ds L = runF (T.cx k) d ds L := by
  simp only [Tab.cx, h]
theorem liv_of {T : Tab} {f : Nat} {d : Fn} (h : T.fn f = some d) (k : Nat) : (T.cx k).liv f = d.liv := by
  cases k <;> simp only [Tab.cx, h]
theorem fuel_of {T : Tab} (k : Nat) : (T.cx k).fuel = T.fuel := by cases k <;> rfl
@[simp] theorem still_nil (L : Live) : still L [] = true := rfl
theorem compL_run {w : List (Nat × List D)} {g : Tg} {E : Ev} {c : Ev → Live → Res Bool} {e : Ev → Live → Res D} (P : Nat → List D → Live → Prop) {ds : List D}
    (hw : ∀ i acc L, P i acc L → still L w = true)
    (hs : ∀ i acc L (h : i < ds.length), P i acc L → ∃ E', storeG g ds[i] E = some E' ∧ ((∃ L1, c E' L = .ok false L1 ∧ P (i + 1) acc L1) ∨ (∃ L1 x L2, c E' L = .ok true L1 ∧ e E' L1 = .ok x L2 ∧ acc.length < sizeLine ∧ P (i + 1) (acc ++ [x]) L2))) :
    ∀ {acc : List D} {L : Live}, P 0 acc L → ∃ acc' L', compL w g E c e ds acc L = .ok acc' L' ∧ P ds.length acc' L' := by
  have key : ∀ n i acc L, n = ds.length - i → i ≤ ds.length → P i acc L → ∃ acc' L', compL w g E c e (ds.drop i) acc L = .ok acc' L' ∧ P ds.length acc' L' := by
    intro n
    induction n with
    | zero =>
      intro i acc L hn hi hp
      have e : i = ds.length := by omega
      subst e
      rw [List.drop_length]
      simp only [compL, hw _ _ _ hp, if_true]
      exact ⟨acc, L, rfl, hp⟩
    | succ n ih =>
      intro i acc L hn hi hp
      have hlt : i < ds.length := by omega
      rw [List.drop_eq_getElem_cons hlt]
      obtain ⟨E', h1, h2⟩ := hs i acc L hlt hp
      simp only [compL, hw _ _ _ hp, if_true, h1]
      rcases h2 with ⟨L1, h3, h4⟩ | ⟨L1, x, L2, h3, h4, h5, h6⟩
      · simp only [h3, Bool.false_eq_true, if_false]
        exact ih (i + 1) acc L1 (by omega) hlt h4
      · simp only [h3, if_true, h4, h5]
        exact ih (i + 1) (acc ++ [x]) L2 (by omega) hlt h6
  intro acc L hp
  have := key ds.length 0 acc L (by simp) (Nat.zero_le _) hp
  simpa using this
/-- a comprehension whose turns change no live object -/
theorem compL_map {w : List (Nat × List D)} {g : Tg} {E : Ev} {c : Ev → Live → Res Bool} {e : Ev → Live → Res D} {f : D → D} {ds : List D} {L : Live} (hw : still L w = true) (hz : ds.length ≤ sizeLine)
    (hs : ∀ d ∈ ds, ∃ E', storeG g d E = some E' ∧ c E' L = .ok true L ∧ e E' L = .ok (f d) L) : compL w g E c e ds [] L = .ok (ds.map f) L := by
  obtain ⟨acc', L', h1, h2, h3⟩ := compL_run (w := w) (g := g) (E := E) (c := c) (e := e) (ds := ds) (fun i acc L' => L' = L ∧ acc = (ds.take i).map f) (fun i acc L' h => by rw [h.1]; exact hw)
    (fun i acc L' hi h => by
      obtain ⟨rfl, rfl⟩ := h
      obtain ⟨E', h1, h2, h3⟩ := hs ds[i] (List.getElem_mem hi)
      refine ⟨E', h1, .inr ⟨_, _, _, h2, h3, by simp; omega, rfl, ?_⟩⟩
      rw [List.take_succ_eq_append_getElem hi, List.map_append]; rfl) (acc := []) (L := L) ⟨rfl, by simp⟩
  rw [h1, h2, h3, List.take_length]
theorem compL_filter {w : List (Nat × List D)} {g : Tg} {E : Ev} {c : Ev → Live → Res Bool} {e : Ev → Live → Res D} {q : D → Bool} {f : D → D} {ds : List D} {L : Live} (hw : still L w = true) (hz : ds.length ≤ sizeLine)
    (hs : ∀ d ∈ ds, ∃ E', storeG g d E = some E' ∧ c E' L = .ok (q d) L ∧ (q d = true → e E' L = .ok (f d) L)) : compL w g E c e ds [] L = .ok ((ds.filter q).map f) L := by
  obtain ⟨acc', L', h1, h2, h3⟩ := compL_run (w := w) (g := g) (E := E) (c := c) (e := e) (ds := ds) (fun i acc L' => L' = L ∧ acc = ((ds.take i).filter q).map f) (fun i acc L' h => by rw [h.1]; exact hw)
    (fun i acc L' hi h => by
      obtain ⟨rfl, rfl⟩ := h
      obtain ⟨E', h1, h2, h3⟩ := hs ds[i] (List.getElem_mem hi)
      refine ⟨E', h1, ?_⟩
      rw [List.take_succ_eq_append_getElem hi, List.filter_append, List.map_append]
      cases hq : q ds[i] with
      | false => exact .inl ⟨_, by rw [h2, hq], rfl, by simp [hq]⟩
      | true =>
        refine .inr ⟨_, _, _, by rw [h2, hq], h3 hq, ?_, rfl, by simp [hq]⟩
        have h4 := List.length_filter_le q (ds.take i)
        have h5 := List.length_take_le i ds
        simp only [List.length_map]
        have : (ds.take i).length = i := by simp; omega
        omega) (acc := []) (L := L) ⟨rfl, by simp⟩
  rw [h1, h2, h3, List.take_length]
theorem forL_run {w : List (Nat × List D)} {g : Tg} {b : Ev → Live → SRes} (P : Nat → Ev → Live → Prop) {ds : List D} (hw : ∀ i E L, P i E L → still L w = true)
    (hs : ∀ i E L (h : i < ds.length), P i E L → ∃ E1 E2 L2, storeG g ds[i] E = some E1 ∧ (b E1 L = .fl .nx E2 L2 ∨ b E1 L = .fl .ct E2 L2) ∧ P (i + 1) E2 L2) :
    ∀ {E : Ev} {L : Live}, P 0 E L → ∃ E' L', forL w g b ds E L = .fl .nx E' L' ∧ P ds.length E' L' := by
  have key : ∀ n i E L, n = ds.length - i → i ≤ ds.length → P i E L → ∃ E' L', forL w g b (ds.drop i) E L = .fl .nx E' L' ∧ P ds.length E' L' := by
    intro n
    induction n with
    | zero =>
      intro i E L hn hi hp
      have e : i = ds.length := by omega
      subst e
      rw [List.drop_length]
      simp only [forL, hw _ _ _ hp, if_true]
      exact ⟨E, L, rfl, hp⟩
    | succ n ih =>
      intro i E L hn hi hp
      have hlt : i < ds.length := by omega
      rw [List.drop_eq_getElem_cons hlt]
      obtain ⟨E1, E2, L2, h1, h2, h3⟩ := hs i E L hlt hp
      simp only [forL, hw _ _ _ hp, if_true, h1]
      rcases h2 with h2 | h2
      · simp only [h2]; exact ih (i + 1) E2 L2 (by omega) hlt h3
      · simp only [h2]; exact ih (i + 1) E2 L2 (by omega) hlt h3
  intro E L hp
  have := key ds.length 0 E L (by simp) (Nat.zero_le _) hp
  simpa using this
/-- a loop that may hand back -/
theorem forL_ret {w : List (Nat × List D)} {g : Tg} {b : Ev → Live → SRes} (P : Nat → Ev → Live → Prop) (R : D → Live → Prop) {ds : List D} (hw : ∀ i E L, P i E L → still L w = true)
    (hs : ∀ i E L (h : i < ds.length), P i E L → ∃ E1, storeG g ds[i] E = some E1 ∧ ((∃ E2 L2, (b E1 L = .fl .nx E2 L2 ∨ b E1 L = .fl .ct E2 L2) ∧ P (i + 1) E2 L2) ∨ (∃ d E2 L2, b E1 L = .fl (.rt d) E2 L2 ∧ R d L2))) :
    ∀ {E : Ev} {L : Live}, P 0 E L → (∃ E' L', forL w g b ds E L = .fl .nx E' L' ∧ P ds.length E' L') ∨ ∃ d E' L', forL w g b ds E L = .fl (.rt d) E' L' ∧ R d L' := by
  have key : ∀ n i E L, n = ds.length - i → i ≤ ds.length → P i E L → (∃ E' L', forL w g b (ds.drop i) E L = .fl .nx E' L' ∧ P ds.length E' L') ∨ ∃ d E' L', forL w g b (ds.drop i) E L = .fl (.rt d) E' L' ∧ R d L' := by
    intro n
    induction n with
    | zero =>
      intro i E L hn hi hp
      have e : i = ds.length := by omega
      subst e
      rw [List.drop_length]
      simp only [forL, hw _ _ _ hp, if_true]
      exact .inl ⟨E, L, rfl, hp⟩
    | succ n ih =>
      intro i E L hn hi hp
      have hlt : i < ds.length := by omega
      rw [List.drop_eq_getElem_cons hlt]
      obtain ⟨E1, h1, h2⟩ := hs i E L hlt hp
      simp only [forL, hw _ _ _ hp, if_true, h1]
      rcases h2 with ⟨E2, L2, h2 | h2, h3⟩ | ⟨d, E2, L2, h2, h3⟩
      · simp only [h2]; exact ih (i + 1) E2 L2 (by omega) hlt h3
      · simp only [h2]; exact ih (i + 1) E2 L2 (by omega) hlt h3
      · simp only [h2]; exact .inr ⟨d, E2, L2, rfl, h3⟩
  intro E L hp
  have := key ds.length 0 E L (by simp) (Nat.zero_le _) hp
  simpa using this

/-! ### trees without live objects -/
mutual
def noTag : D → Bool
  | .tup ds => noTags ds
  | .lst t ds => decide (t = 0) && noTags ds
  | .dct _ ds => noTags ds
  | _ => true
def noTags : List D → Bool
  | [] => true
  | d :: ds => noTag d && noTags ds
end
mutual
theorem okB_noRef (n : Nat) : ∀ d : D, noRef d = true → noTag d = true → okB n d = true
  | .non, _, _ => rfl
  | .bl _, _, _ => rfl
  | .int _, _, _ => rfl
  | .str _, _, _ => rfl
  | .ref _, h, _ => by simp [noRef] at h
  | .dct ks ds, h, t => by simp only [noRef, noTag, okB] at *; exact okBs_noRef n ds h t
  | .tup ds, h, t => by simp only [noRef, noTag, okB] at *; exact okBs_noRef n ds h t
  | .lst t ds, h, u => by
    simp only [noRef, noTag, okB, Bool.and_eq_true, decide_eq_true_eq] at *
    exact ⟨by omega, okBs_noRef n ds h u.2⟩
theorem okBs_noRef (n : Nat) : ∀ ds : List D, noRefs ds = true → noTags ds = true → okBs n ds = true
  | [], _, _ => rfl
  | d :: ds, h, t => by
    simp only [noRefs, noTags, okBs, Bool.and_eq_true] at *
    exact ⟨okB_noRef n d h.1 t.1, okBs_noRef n ds h.2 t.2⟩
end
end MP
set_option maxHeartbeats 4000000
/-! MP: what repr is long -/
namespace MP
open PySem PySem.Spec PyProof.Rows L2
theorem sLen_append (a b : Str) : (a ++ b).length = a.length + b.length := by
  show (a.cps ++ b.cps).size = _
  rw [Array.size_append]; rfl
mutual
/-- a bound of a repr's length -/
def psz : PyData → Nat
  | .none => 4
  | .bool _ => 5
  | .int i => (toString i : Str).length
  | .str x => (reprText x).length
  | .list xs => 2 + pszs xs
  | .tuple xs => 3 + pszs xs
  | .dict kvs => (PyData.shown (.dict kvs)).length
def pszs : List PyData → Nat
  | [] => 0
  | x :: xs => psz x + 2 + pszs xs
end
def sumL : List Str → Nat
  | [] => 0
  | t :: ts => t.length + 2 + sumL ts
theorem textFrom_le : ∀ (ts : List Str) (k : Nat) (acc : Str), (textFrom k acc ts).length ≤ acc.length + sumL ts
  | [], k, acc => by show acc.length ≤ acc.length + 0; omega
  | t :: r, k, acc => by
    have ih := textFrom_le r (k + 1) (acc ++ (if k > 0 then ", " else "" : String) ++ t)
    have e : (acc ++ (if k > 0 then ", " else "" : String) ++ t).length ≤ acc.length + 2 + t.length := by
      rw [sLen_append, sLen_append]
      have : (Str.ofString (if k > 0 then ", " else "")).length ≤ 2 := by split <;> decide
      omega
    show (textFrom (k + 1) _ r).length ≤ _
    simp only [sumL]
    omega
theorem join_le : ∀ ts : List Str, (Str.join (Str.ofString ", ") ts).length ≤ sumL ts
  | [] => by show 0 ≤ _; omega
  | [x] => by show x.length ≤ x.length + 2 + 0; omega
  | x :: y :: r => by
    have ih := join_le (y :: r)
    show (x ++ (Str.ofString ", ") ++ Str.join (Str.ofString ", ") (y :: r)).length ≤ x.length + 2 + sumL (y :: r)
    rw [sLen_append, sLen_append]
    have : (Str.ofString ", ").length = 2 := by decide
    omega
mutual
theorem shown_le : ∀ d : PyData, d.shown.length ≤ psz d
  | .none => by simp only [PyData.shown, psz]; decide
  | .bool b => by cases b <;> simp only [PyData.shown, psz] <;> decide
  | .int i => by simp only [PyData.shown, psz]; exact Nat.le_refl _
  | .str x => by simp only [PyData.shown, psz]; exact Nat.le_refl _
  | .list xs => by
    have h := shownAll_le xs
    have h2 := textFrom_le (PyData.shownAll xs) 0 "["
    have e1 : (Str.ofString "[").length = 1 := by decide
    have e2 : (Str.ofString "]").length = 1 := by decide
    simp only [PyData.shown, psz, listText]
    rw [sLen_append]
    omega
  | .tuple xs => by
    have h := shownAll_le xs
    have h2 := join_le (PyData.shownAll xs)
    simp only [PyData.shown, psz, tupleText]
    rw [sLen_append, sLen_append]
    have e1 : (Str.ofString "(").length = 1 := by decide
    have e2 : (Str.ofString (if (PyData.shownAll xs).length == 1 then ",)" else ")")).length ≤ 2 := by split <;> decide
    omega
  | .dict kvs => by simp only [psz]; exact Nat.le_refl _
theorem shownAll_le : ∀ xs : List PyData, sumL (PyData.shownAll xs) ≤ pszs xs
  | [] => by simp [PyData.shownAll, sumL, pszs]
  | x :: xs => by
    have h1 := shown_le x
    have h2 := shownAll_le xs
    simp only [PyData.shownAll, sumL, pszs]
    omega
end
theorem pszs_le {xs : List PyData} {m : Nat} (h : ∀ x ∈ xs, psz x ≤ m) : pszs xs ≤ xs.length * (m + 2) := by
  induction xs with
  | nil => simp [pszs]
  | cons x xs ih =>
    have h1 := h x List.mem_cons_self
    have h2 := ih fun y hy => h y (List.mem_cons_of_mem _ hy)
    simp only [pszs, List.length_cons]
    rw [Nat.add_mul]
    omega
theorem showableAll_of {xs : List PyData} (h : ∀ x ∈ xs, x.showable = true) : PyData.showableAll xs = true := by
  induction xs with
  | nil => rfl
  | cons x xs ih => simp [PyData.showableAll, h x List.mem_cons_self, ih fun y hy => h y (List.mem_cons_of_mem _ hy)]
theorem depthAll_le {xs : List PyData} {m : Nat} (h : ∀ x ∈ xs, x.depth ≤ m) : PyData.depthAll xs ≤ m := by
  induction xs with
  | nil => simp [PyData.depthAll]
  | cons x xs ih =>
    have h1 := h x List.mem_cons_self
    have h2 := ih fun y hy => h y (List.mem_cons_of_mem _ hy)
    simp only [PyData.depthAll]
    omega
theorem int_len {i : Int} {k : Nat} (hk : 0 < k) (h : i.natAbs < 10 ^ k) : (toString i : Str).length ≤ k + 1 := by
  have e := int_text_length_le10 hk h
  show (Str.ofString (toString i)).length ≤ k + 1
  rw [PySem.ofString_length]; exact e
/-- signs that repr writes as they are -/
def plainC (c : Nat) : Bool := !(c == 39) && !(c == 92) && !(c == 10) && !(c == 13) && !(c == 9) && Unicode.isPrintable c
theorem repr_plain {x : Str} (h : ∀ c ∈ x.cps.toList, plainC c = true) : (reprText x).length = x.length + 2 := by
  have hq : reprQuote x = 39 := by
    unfold reprQuote
    have : x.cps.contains 39 = false := by
      rw [Array.contains_eq_any_beq, Array.any_eq_false]
      intro i hi
      have := h x.cps[i] (by simp)
      simp only [plainC, Bool.and_eq_true, Bool.not_eq_true'] at this
      have h1 := this.1.1.1.1.1
      simpa using fun e => by rw [← e] at h1; simp at h1
    rw [this]; rfl
  have hf : ∀ (l : List Nat) (out : Array Nat), (∀ c ∈ l, plainC c = true) → (l.foldl (fun out c => out ++ (Builtin.Str.reprChar 39 c).toArray) out).size = out.size + l.length := by
    intro l
    induction l with
    | nil => intro out _; simp
    | cons c l ih =>
      intro out hc
      have h1 := hc c List.mem_cons_self
      have e : Builtin.Str.reprChar 39 c = [c] := by
        simp only [plainC, Bool.and_eq_true, Bool.not_eq_true'] at h1
        obtain ⟨⟨⟨⟨⟨h1, h2⟩, h3⟩, h4⟩, h5⟩, h6⟩ := h1
        unfold Builtin.Str.reprChar
        simp [h1, h2, h3, h4, h5, h6]
      rw [List.foldl_cons, ih _ fun d hd => hc d (List.mem_cons_of_mem _ hd), e]
      simp
      omega
  unfold reprText
  rw [hq]
  show (Array.push _ _).size = _
  rw [Array.size_push, ← Array.foldl_toList, hf _ _ h]
  show 1 + x.cps.toList.length + 1 = x.cps.size + 2
  simp
  omega
end MP
set_option maxHeartbeats 4000000
/-! MP: steps of the evaluator, and draws -/
namespace MP
open PySem PySem.Spec PyProof.Rows L2
theorem go {T : Tab} {f : Nat} {d : Fn} (h : T.fn f = some d) {k : Nat} {ds : List D} {L : Live} (hc : d.clean = false) (hl : ds.length = d.np) : (T.cx (k + 1)).φ f ds L = resOf (evSs (T.cx k) d.body (startE d.nN ds) L) := by
  rw [phi_of h]; simp [runF, runB, hc, hl]
theorem goC {T : Tab} {f : Nat} {d : Fn} (h : T.fn f = some d) {k : Nat} {ds : List D} {L : Live} (hc : d.clean = true) (hl : ds.length = d.np) : (T.cx (k + 1)).φ f ds L = cleanR L (resOf (evSs (T.cx k) d.body (startE d.nN ds) L)) := by
  rw [phi_of h]; simp [runF, runB, hc, hl]
section
variable {c : Cxt} {E E' : Ev} {L L1 L2 L3 L4 : Live} {ss a b : Ss} {d x y : D} {e o i t : Ex}
theorem ss_asg {g : Tg} (h : evE c e E L = .ok d L1) (hs : storeG g d E = some E') : evSs c (.cons (.asg (.nm g) e) ss) E L = evSs c ss E' L1 := by
  simp [evSs, evS, h, storeT, hs]
theorem ss_set (h : evE c e E L = .ok d L1) (ho : evE c o E L1 = .ok x L2) (hi : evE c i E L2 = .ok y L3) (hs : setD x y d L3 = some L4) : evSs c (.cons (.asg (.sub o i) e) ss) E L = evSs c ss E L4 := by
  simp [evSs, evS, h, storeT, ho, hi, hs]
theorem ss_ex (h : evE c e E L = .ok d L1) : evSs c (.cons (.ex e) ss) E L = evSs c ss E L1 := by
  simp [evSs, evS, h]
theorem ss_ret (h : evE c e E L = .ok d L1) : evSs c (.cons (.ret e) ss) E L = .fl (.rt d) E L1 := by
  simp [evSs, evS, h]
theorem ss_if_t (h : evT c t E L = .ok true L1) : evSs c (.cons (.ite t a b) ss) E L = (evSs c a E L1).seq fun E' L' => evSs c ss E' L' := by
  simp [evSs, evS, h]
theorem ss_if_f (h : evT c t E L = .ok false L1) : evSs c (.cons (.ite t a b) ss) E L = (evSs c b E L1).seq fun E' L' => evSs c ss E' L' := by
  simp [evSs, evS, h]
theorem ss_if_n (h : evT c t E L = .ok false L1) : evSs c (.cons (.ite t a .nil) ss) E L = evSs c ss E L1 := by
  simp [evSs, evS, h]
theorem ss_par {is : List Nat} {es : Exs} {ds : List D} (h : evA c es E L = .ok ds L1) (hl : is.length = ds.length) : evSs c (.cons (.par is es) ss) E L = evSs c ss (setAll is ds E) L1 := by
  simp [evSs, evS, h, hl]
theorem ss_for {g : Tg} {it : It} {w : List (Nat × List D)} {ds : List D} (h : evI c it E L = .ok (ds, w) L1) (hf : forL w g (fun E' L' => evSs c b E' L') ds E L1 = .fl .nx E' L2) : evSs c (.cons (.for_ g it b) ss) E L = evSs c ss E' L2 := by
  simp [evSs, evS, h, hf]
theorem ss_for_rt {g : Tg} {it : It} {w : List (Nat × List D)} {ds : List D} (h : evI c it E L = .ok (ds, w) L1) (hf : forL w g (fun E' L' => evSs c b E' L') ds E L1 = .fl (.rt d) E' L2) : evSs c (.cons (.for_ g it b) ss) E L = .fl (.rt d) E' L2 := by
  simp [evSs, evS, h, hf]
theorem ss_nil : evSs c .nil E L = .fl .nx E L := rfl
end
/-! ### operators -/
theorem bAdd (lv : Bool) (i j : Int) (L : Live) : binD .add lv (.int i) (.int j) L = some (.int (i + j), L) := rfl
theorem bSub (lv : Bool) (i j : Int) (L : Live) : binD .sub lv (.int i) (.int j) L = some (.int (i - j), L) := rfl
theorem bMul (lv : Bool) (i j : Int) (L : Live) (h : mulOk i j = true) : binD .mul lv (.int i) (.int j) L = some (.int (i * j), L) := by simp [binD, h]
theorem bDiv (lv : Bool) (i j : Int) (L : Live) (h : divOk j = true) : binD .fdiv lv (.int i) (.int j) L = some (.int (i / j), L) := by simp [binD, h]
theorem bMod (lv : Bool) (i j : Int) (L : Live) (h : 0 < j) : binD .mod lv (.int i) (.int j) L = some (.int (i % j), L) := by simp [binD, h]
theorem bPow (lv : Bool) (i j : Int) (L : Live) (h : powOk i j = true) : binD .pow lv (.int i) (.int j) L = some (.int (i ^ j.toNat), L) := by simp [binD, h]
theorem log_lt {i : Int} {m : Nat} (hm : 0 < m) (h0 : 0 ≤ i) (h : i < 2 ^ m) : i.natAbs.log2 < m := by
  by_cases e : i.natAbs = 0
  · rw [e]; exact hm
  · refine (Nat.log2_lt e).2 ?_
    have : (i.natAbs : Int) < ((2 ^ m : Nat) : Int) := by rw [Int.natAbs_of_nonneg h0]; simpa using h
    exact Int.ofNat_lt.mp this
theorem pow_ok {i : Int} {j : Int} (h0 : 0 ≤ i) (h : i < 2 ^ 250) (hj : 0 ≤ j) (hj2 : j ≤ 100) : powOk i j = true := by
  have := log_lt (by decide) h0 h
  simp only [powOk, Bool.and_eq_true, decide_eq_true_eq]
  refine ⟨hj, ?_⟩
  have h1 : (((i.natAbs.log2 + 1 : Nat) : Int)) * j ≤ 250 * 100 := Int.mul_le_mul (by omega) hj2 hj (by omega)
  exact Int.le_trans h1 (by decide)
theorem div_ok {j : Int} (h0 : 0 < j) (h : j < 2 ^ 250) : divOk j = true := by
  have := log_lt (by decide) (by omega) h
  simp only [divOk, Bool.and_eq_true, decide_eq_true_eq]
  exact ⟨h0, by omega⟩
theorem mul_okl {i j : Int} (h0 : 0 ≤ i) (h : i < 2 ^ 64) : mulOk i j = true := by
  simp only [mulOk, Bool.or_eq_true, Bool.and_eq_true, decide_eq_true_eq]
  exact .inl (.inl ⟨by omega, h⟩)
theorem mul_okr {i j : Int} (h0 : 0 ≤ j) (h : j < 2 ^ 64) : mulOk i j = true := by
  simp only [mulOk, Bool.or_eq_true, Bool.and_eq_true, decide_eq_true_eq]
  exact .inl (.inr ⟨by omega, h⟩)
theorem e_modulus (b e a : Int) (h : powOk b e = true) : ∃ M : Int, (∀ c E L, evE c (.bin .add false (.bin .pow false (.con (.int b)) (.con (.int e))) (.con (.int a))) E L = .ok (.int M) L) ∧ M = b ^ e.toNat + a :=
  ⟨_, fun c E L => by simp [evE, binD, h, opt, Res.bind], rfl⟩
theorem e_power (b e : Int) (h : powOk b e = true) : ∃ M : Int, (∀ c E L, evE c (.bin .pow false (.con (.int b)) (.con (.int e))) E L = .ok (.int M) L) ∧ M = b ^ e.toNat :=
  ⟨_, fun c E L => by simp [evE, binD, h, opt, Res.bind], rfl⟩
end MP
set_option maxHeartbeats 1000000
namespace PB
open PySem PySem.Spec PyProof.Rows L2 MP
class HasFn (T : Tab) (f : Nat) (d : outParam Fn) : Prop where
  h : T.fn f = some d
theorem phiH {T : Tab} {d : Fn} (f : Nat) [h : HasFn T f d] (k : Nat) (ds : List D) (L : Live) : (T.cx (k + 1)).φ f ds L = runF (T.cx k) d ds L := phi_of h.h k ds L
theorem goH {T : Tab} {d : Fn} (f : Nat) [h : HasFn T f d] {k : Nat} {ds : List D} {L : Live} (hc : d.clean = false) (hl : ds.length = d.np) : (T.cx (k + 1)).φ f ds L = resOf (evSs (T.cx k) d.body (startE d.nN ds) L) := go h.h hc hl
theorem goCH {T : Tab} {d : Fn} (f : Nat) [h : HasFn T f d] {k : Nat} {ds : List D} {L : Live} (hc : d.clean = true) (hl : ds.length = d.np) : (T.cx (k + 1)).φ f ds L = cleanR L (resOf (evSs (T.cx k) d.body (startE d.nN ds) L)) := goC h.h hc hl
/-! is_integer: 0=value 1=first 2=last -/
def b_is_integer_t1 : Ss := (.cons (.ret (.and (.or (.cmp .is_ (.var 1) (.con .non)) (.cmp .ge (.var 0) (.var 1))) (.or (.cmp .is_ (.var 2) (.con .non)) (.cmp .le (.var 0) (.var 2))))) .nil)
def b_is_integer : Ss := (.cons (.ite (.or (.not (.isi (.var 0) .int)) (.isi (.var 0) .bool)) (.cons (.ret (.con (.bl false))) .nil) .nil) b_is_integer_t1)
def f_is_integer : Fn := ⟨3, 3, [], false, b_is_integer⟩

/-! is_code: 0=value 1=.0 2=sign -/
def b_is_code_0 : Ex := (.cmp .in_ (.var 2) (.glob (Str.ofString "SIGNS") (.str (Str.ofString "abcdefghijklmnopqrstuvwxyz0123456789"))))
def b_is_code : Ss := (.cons (.ret (.and (.isi (.var 0) .str) (.and (.chn .le .le (.con (.int 1)) (.blt .len false (.cons (.var 0) .nil)) (.con (.int 8))) (.blt .all false (.cons (.comp false [1, 2] (.slot 2) (.val (.var 0)) .nil b_is_code_0) .nil))))) .nil)
def f_is_code : Fn := ⟨1, 3, [], false, b_is_code⟩

/-! is_hold: 0=value 1=layers -/
def b_is_hold_t2 : Ss := (.cons (.ret (.and (.cmp .eq (.idx (.var 0) (.con (.int 0))) (.con (.str (Str.ofString "layer")))) (.call 0 (.cons (.idx (.var 0) (.con (.int 1))) (.cons (.con (.int 1)) (.cons (.bin .sub false (.var 1) (.con (.int 1))) .nil)))))) .nil)
def b_is_hold_t1 : Ss := (.cons (.ite (.cmp .eq (.idx (.var 0) (.con (.int 0))) (.con (.str (Str.ofString "code")))) (.cons (.ret (.call 1 (.cons (.idx (.var 0) (.con (.int 1))) .nil))) .nil) .nil) b_is_hold_t2)
def b_is_hold : Ss := (.cons (.ite (.or (.not (.isi (.var 0) .tuple)) (.cmp .ne (.blt .len false (.cons (.var 0) .nil)) (.con (.int 2)))) (.cons (.ret (.con (.bl false))) .nil) .nil) b_is_hold_t1)
def f_is_hold : Fn := ⟨2, 2, [], false, b_is_hold⟩

/-! is_action: 0=value 1=layer 2=layers 3=word 4=code 5=hold 6=time 7=rule -/
def b_is_action_t5 : Ss := (.cons (.ret (.and (.call 0 (.cons (.var 6) (.cons (.con (.int 1)) (.cons (.glob (Str.ofString "MOST_TIME") (.int 1000000000)) .nil)))) (.cmp .in_ (.var 7) (.glob (Str.ofString "RULES") (.tup [(.str (Str.ofString "time")), (.str (Str.ofString "other")), (.str (Str.ofString "within"))]))))) .nil)
def b_is_action_t4 : Ss := (.cons (.ite (.or (.cmp .ne (.var 3) (.con (.str (Str.ofString "dual")))) (.or (.not (.call 1 (.cons (.var 4) .nil))) (.not (.call 2 (.cons (.var 5) (.cons (.var 2) .nil)))))) (.cons (.ret (.con (.bl false))) .nil) .nil) b_is_action_t5)
def b_is_action_t3 : Ss := (.cons (.asg (.nm (.tup [(.slot 3), (.slot 4), (.slot 5), (.slot 6), (.slot 7)])) (.var 0)) b_is_action_t4)
def b_is_action_t2 : Ss := (.cons (.ite (.cmp .eq (.blt .len false (.cons (.var 0) .nil)) (.con (.int 2))) (.cons (.ret (.or (.call 2 (.cons (.var 0) (.cons (.var 2) .nil))) (.and (.cmp .in_ (.idx (.var 0) (.con (.int 0))) (.tup (.cons (.con (.str (Str.ofString "lock"))) (.cons (.con (.str (Str.ofString "once"))) .nil)))) (.call 0 (.cons (.idx (.var 0) (.con (.int 1))) (.cons (.con (.int 1)) (.cons (.bin .sub false (.var 2) (.con (.int 1))) .nil))))))) .nil) .nil) b_is_action_t3)
def b_is_action_t1 : Ss := (.cons (.ite (.or (.not (.isi (.var 0) .tuple)) (.cmp .nin (.blt .len false (.cons (.var 0) .nil)) (.tup (.cons (.con (.int 2)) (.cons (.con (.int 5)) .nil))))) (.cons (.ret (.con (.bl false))) .nil) .nil) b_is_action_t2)
def b_is_action : Ss := (.cons (.ite (.isi (.var 0) .str) (.cons (.ret (.or (.cmp .eq (.var 0) (.con (.str (Str.ofString "none")))) (.and (.cmp .eq (.var 0) (.con (.str (Str.ofString "through")))) (.cmp .gt (.var 1) (.con (.int 0)))))) .nil) .nil) b_is_action_t1)
def f_is_action : Fn := ⟨3, 8, [], false, b_is_action⟩

/-! is_table: 0=value 1=.0 2=row -/
def b_is_table_0 : Ex := (.isi (.var 2) .list)
def b_is_table_1 : Ex := (.cmp .eq (.blt .len false (.cons (.var 2) .nil)) (.blt .len false (.cons (.idx (.var 0) (.con (.int 0))) .nil)))
def b_is_table_t1 : Ss := (.cons (.ret (.and (.chn .le .le (.con (.int 1)) (.blt .len false (.cons (.idx (.var 0) (.con (.int 0))) .nil)) (.con (.int 16))) (.blt .all false (.cons (.comp false [1, 2] (.slot 2) (.val (.var 0)) .nil b_is_table_1) .nil)))) .nil)
def b_is_table : Ss := (.cons (.ite (.or (.not (.isi (.var 0) .list)) (.or (.not (.chn .le .le (.con (.int 1)) (.blt .len false (.cons (.var 0) .nil)) (.con (.int 6)))) (.not (.blt .all false (.cons (.comp false [1, 2] (.slot 2) (.val (.var 0)) .nil b_is_table_0) .nil))))) (.cons (.ret (.con (.bl false))) .nil) .nil) b_is_table_t1)
def f_is_table : Fn := ⟨1, 3, [], false, b_is_table⟩

/-! wrong_places: 0=table 1=found 2=layer 3=row 4=.0 5=key 6=action -/
def b_wrong_places_1 : Ex := (.not (.call 3 (.cons (.var 6) (.cons (.var 2) (.cons (.blt .len false (.cons (.var 0) .nil)) .nil)))))
def b_wrong_places_2 : Ex := (.tup (.cons (.var 2) (.cons (.var 5) .nil)))
def b_wrong_places_0 : Ss := (.cons (.ex (.mth .extend (.var 1) (.cons (.comp false [4, 5, 6] (.tup [(.slot 5), (.slot 6)]) (.enum (.var 3)) (.cons b_wrong_places_1 .nil) b_wrong_places_2) .nil))) .nil)
def b_wrong_places_t2 : Ss := (.cons (.ret (.var 1)) .nil)
def b_wrong_places_t1 : Ss := (.cons (.for_ (.tup [(.slot 2), (.slot 3)]) (.enum (.var 0)) b_wrong_places_0) b_wrong_places_t2)
def b_wrong_places : Ss := (.cons (.asg (.nm (.slot 1)) (.lst true .nil)) b_wrong_places_t1)
def f_wrong_places : Fn := ⟨1, 7, [], true, b_wrong_places⟩

/-! require_layout: 0=layout 1=wrong -/
def b_require_layout_t2 : Ss := (.cons (.ite (.cmp .ne (.var 1) (.lst false .nil)) (.cons .nev .nil) .nil) .nil)
def b_require_layout_t1 : Ss := (.cons (.asg (.nm (.slot 1)) (.call 5 (.cons (.var 0) .nil))) b_require_layout_t2)
def b_require_layout : Ss := (.cons (.ite (.not (.call 4 (.cons (.var 0) .nil))) (.cons .nev .nil) .nil) b_require_layout_t1)
def f_require_layout : Fn := ⟨1, 2, [], false, b_require_layout⟩
section
def SIGNS : Str := Str.ofString "abcdefghijklmnopqrstuvwxyz0123456789"
def isCode (s : Str) : Prop := 1 ≤ s.length ∧ s.length ≤ 8 ∧ ∀ c ∈ s.cps.toList, c ∈ SIGNS.cps.toList
theorem small_line {n : Nat} (h : n ≤ 1000000) : n ≤ sizeLine := by rw [sizeLine_eq]; omega
theorem sizeOk_small {n : Nat} (h : n ≤ 1000000) : MP.sizeOk n = true := decide_eq_true (small_line h)
def optD : Option Int → D | none => .non | some i => .int i
variable {T : Tab} [HasFn T 0 f_is_integer]
theorem s_is_integer (k : Nat) (hk : 1 ≤ k) (i : Int) (lo hi : Option Int) (h1 : ∀ a, lo = some a → a ≤ i) (h2 : ∀ a, hi = some a → i ≤ a) (L : Live) : (T.cx k).φ 0 [.int i, optD lo, optD hi] L = .ok (.bl true) L := by
  obtain ⟨k, rfl⟩ : ∃ m, k = m + 1 := ⟨k - 1, by omega⟩
  rw [phiH 0]
  cases lo <;> cases hi <;> simp_all [runF, runB, startE, evSs, evS, evE, evA, evC, evI, evT, resOf, optV, opt, truD, storeT, storeG, storeGs, f_is_integer, b_is_integer, b_is_integer_t1, isiD, cmpD, optD, isNonD, ordI]
theorem s_int2 (k : Nat) (hk : 1 ≤ k) (i lo hi : Int) (h1 : lo ≤ i) (h2 : i ≤ hi) (L : Live) : (T.cx k).φ 0 [.int i, .int lo, .int hi] L = .ok (.bl true) L :=
  s_is_integer k hk i (some lo) (some hi) (fun a e => by cases e; exact h1) (fun a e => by cases e; exact h2) L
theorem bools_true {α : Type} (l : List α) : boolsOf (l.map fun _ => D.bl true) = some (l.map fun _ => true) := by
  induction l with
  | nil => rfl
  | cons d r ih => simp [boolsOf, ih]
variable [HasFn T 1 f_is_code]
theorem s_is_code (k : Nat) (hk : 1 ≤ k) (s : Str) (h : isCode s) (L : Live) : (T.cx k).φ 1 [.str s] L = .ok (.bl true) L := by
  obtain ⟨k, rfl⟩ : ∃ m, k = m + 1 := ⟨k - 1, by omega⟩
  obtain ⟨h1, h2, h3⟩ := h
  have h1' : (1 : Int) ≤ s.length := by omega
  have h2' : (s.length : Int) ≤ 8 := by omega
  have hz : MP.sizeOk s.length = true := sizeOk_small (by omega)
  have hc : compL [] (.slot 2) [some (.str s), none, none] (fun _ L' => .ok true L') (fun E' L' => evE (T.cx k) b_is_code_0 E' L') (charsD s) [] L = .ok ((charsD s).map fun _ => .bl true) L := by
    refine compL_map rfl (by simp [charsD]; exact small_line (by have : s.cps.size = s.length := rfl; omega)) fun d hd => ?_
    simp only [charsD, List.mem_map] at hd
    obtain ⟨c, hc, rfl⟩ := hd
    refine ⟨_, rfl, rfl, ?_⟩
    have := h3 c hc
    unfold SIGNS at this
    simp [b_is_code_0, evE, cmpD, inD, inStr, optV, Str.length]
    simpa using this
  rw [phiH 1]
  simp [runF, runB, startE, evSs, evS, evE, evA, evC, evI, evT, resOf, optV, opt, truD, storeT, storeG, storeGs, f_is_code, b_is_code, isiD, cmpD, ordI, bltD, lenD, lenK, hz, wipeE, itemsOf, watch, h1', h2', newL, lstOf, hc, bools_true]
/-! ### actions -/
inductive Hold where | code (s : Str) | layer (n : Int)
inductive Act where | none | through | code (s : Str) | layer (n : Int) | lock (n : Int) | once (n : Int) | dual (c : Str) (h : Hold) (t : Int) (r : Str)
abbrev S (s : String) : D := .str (Str.ofString s)
def Hold.enc : Hold → D
  | .code s => .tup [S "code", .str s]
  | .layer n => .tup [S "layer", .int n]
def Act.enc : Act → D
  | .none => S "none"
  | .through => S "through"
  | .code s => .tup [S "code", .str s]
  | .layer n => .tup [S "layer", .int n]
  | .lock n => .tup [S "lock", .int n]
  | .once n => .tup [S "once", .int n]
  | .dual c h t r => .tup [S "dual", .str c, h.enc, .int t, .str r]
def Hold.ok (layers : Int) : Hold → Prop
  | .code s => isCode s
  | .layer n => 1 ≤ n ∧ n ≤ layers - 1
def isRule (r : Str) : Prop := r = Str.ofString "time" ∨ r = Str.ofString "other" ∨ r = Str.ofString "within"
def Act.ok (layer layers : Int) : Act → Prop
  | .none => True
  | .through => 0 < layer
  | .code s => isCode s
  | .layer n => 1 ≤ n ∧ n ≤ layers - 1
  | .lock n => 1 ≤ n ∧ n ≤ layers - 1
  | .once n => 1 ≤ n ∧ n ≤ layers - 1
  | .dual c h t r => isCode c ∧ h.ok layers ∧ 1 ≤ t ∧ t ≤ 1000000000 ∧ isRule r
theorem seq2 {a b : Str} : eqS (.str a) (.str b) = decide (a = b) := rfl
theorem callW_nil {c : Cxt} {f : Nat} {ds : List D} {L : Live} (h : idsAs L (c.liv f) ds = []) : callW c f ds L = c.φ f ds L := by
  unfold callW; rw [h]
theorem idsF_noRef (L : Live) (n : Nat) {d : D} (h : noRef d = true) : idsF L n d = [] := by
  cases n <;> simp [idsF, h]
theorem idsAs_noRef (L : Live) : ∀ (lv : List Bool) (ds : List D), noRefs ds = true → idsAs L lv ds = []
  | _, [], _ => by simp [idsAs]
  | lv, d :: ds, h => by
    simp only [noRefs, Bool.and_eq_true] at h
    simp [idsAs, idsF_noRef L 12 h.1, idsAs_noRef L lv.tail ds h.2]
theorem callW_pure {c : Cxt} {f : Nat} {ds : List D} {L : Live} (h : noRefs ds = true) : callW c f ds L = c.φ f ds L := callW_nil (idsAs_noRef L _ ds h)
variable [HasFn T 2 f_is_hold]
theorem s_is_hold (k : Nat) (hk : 2 ≤ k) (h : Hold) (layers : Int) (ho : h.ok layers) (L : Live) : (T.cx k).φ 2 [h.enc, .int layers] L = .ok (.bl true) L := by
  obtain ⟨k, rfl⟩ : ∃ m, k = m + 1 := ⟨k - 1, by omega⟩
  have q1 : MP.sizeOk 2 = true := sizeOk_small (by omega)
  rw [phiH 2]
  cases h with
  | code s =>
    simp [runF, runB, startE, evSs, evS, evE, evA, evC, evI, evT, resOf, optV, opt, truD, storeT, storeG, storeGs, f_is_hold, b_is_hold, b_is_hold_t1, b_is_hold_t2, Hold.enc, S, isiD, cmpD, bltD, lenD, seqOf, eqD, scal2, eqS, idxD, idxSeq, atI, ixN]
    rw [callW_pure rfl, s_is_code k (by omega) s ho]
    rfl
  | layer n =>
    have e : ¬ (Str.ofString "layer" = Str.ofString "code") := by decide
    simp [runF, runB, startE, evSs, evS, evE, evA, evC, evI, evT, resOf, optV, opt, truD, storeT, storeG, storeGs, f_is_hold, b_is_hold, b_is_hold_t1, b_is_hold_t2, Hold.enc, S, isiD, cmpD, bltD, lenD, seqOf, eqD, scal2, eqS, idxD, idxSeq, atI, ixN, e, binD]
    rw [callW_pure rfl, s_int2 k (by omega) n 1 (layers - 1) ho.1 ho.2]
    rfl
theorem s_no_hold (k : Nat) (hk : 1 ≤ k) (w : Str) (h1 : w ≠ Str.ofString "code") (h2 : w ≠ Str.ofString "layer") (n layers : Int) (L : Live) : (T.cx k).φ 2 [.tup [.str w, .int n], .int layers] L = .ok (.bl false) L := by
  obtain ⟨k, rfl⟩ : ∃ m, k = m + 1 := ⟨k - 1, by omega⟩
  rw [phiH 2]
  simp [runF, runB, startE, evSs, evS, evE, evA, evC, evI, evT, resOf, optV, opt, truD, storeT, storeG, storeGs, f_is_hold, b_is_hold, b_is_hold_t1, b_is_hold_t2, isiD, cmpD, bltD, lenD, seqOf, eqD, scal2, eqS, idxD, idxSeq, atI, ixN, h1, h2]
theorem hold_noRef (h : Hold) : noRef h.enc = true := by cases h <;> rfl
theorem act_noRef (a : Act) : noRef a.enc = true := by cases a <;> simp [Act.enc, noRef, noRefs, S, hold_noRef]
theorem act_noTag (a : Act) : noTag a.enc = true := by
  cases a <;> simp [Act.enc, noTag, noTags, S]
  rename_i h _ _
  cases h <;> rfl
variable [HasFn T 3 f_is_action]
theorem s_is_action (k : Nat) (hk : 3 ≤ k) (a : Act) (layer layers : Int) (ho : a.ok layer layers) (L : Live) : (T.cx k).φ 3 [a.enc, .int layer, .int layers] L = .ok (.bl true) L := by
  obtain ⟨k, rfl⟩ : ∃ m, k = m + 1 := ⟨k - 1, by omega⟩
  have q1 : MP.sizeOk 2 = true := sizeOk_small (by omega)
  rw [phiH 3]
  cases a with
  | none => simp [runF, runB, startE, evSs, evS, evE, evA, evC, evI, evT, resOf, optV, opt, truD, storeT, storeG, storeGs, f_is_action, b_is_action, b_is_action_t1, b_is_action_t2, b_is_action_t3, b_is_action_t4, b_is_action_t5, Act.enc, S, isiD, cmpD, eqD, scal2, eqS]
  | through =>
    have e : ¬ (Str.ofString "through" = Str.ofString "none") := by decide
    have h0 : (0 : Int) < layer := ho
    simp [runF, runB, startE, evSs, evS, evE, evA, evC, evI, evT, resOf, optV, opt, truD, storeT, storeG, storeGs, f_is_action, b_is_action, b_is_action_t1, b_is_action_t2, b_is_action_t3, b_is_action_t4, b_is_action_t5, Act.enc, S, isiD, cmpD, eqD, scal2, eqS, e, ordI, h0]
  | code s =>
    simp [runF, runB, startE, evSs, evS, evE, evA, evC, evI, evT, resOf, optV, opt, truD, storeT, storeG, storeGs, f_is_action, b_is_action, b_is_action_t1, b_is_action_t2, b_is_action_t3, b_is_action_t4, b_is_action_t5, Act.enc, S, isiD, cmpD, bltD, lenD, seqOf, eqD, scal2, eqS, idxD, idxSeq, atI, ixN, inD, inSeq, flat, eqF, q1]
    rw [callW_pure rfl, show (D.tup [D.str (Str.ofString "code"), D.str s]) = (Hold.code s).enc from rfl, s_is_hold k (by omega) (.code s) layers ho]
    rfl
  | layer n =>
    simp [runF, runB, startE, evSs, evS, evE, evA, evC, evI, evT, resOf, optV, opt, truD, storeT, storeG, storeGs, f_is_action, b_is_action, b_is_action_t1, b_is_action_t2, b_is_action_t3, b_is_action_t4, b_is_action_t5, Act.enc, S, isiD, cmpD, bltD, lenD, seqOf, eqD, scal2, eqS, idxD, idxSeq, atI, ixN, inD, inSeq, flat, eqF, q1]
    rw [callW_pure rfl, show (D.tup [D.str (Str.ofString "layer"), D.int n]) = (Hold.layer n).enc from rfl, s_is_hold k (by omega) (.layer n) layers ho]
    rfl
  | lock n =>
    have e1 : ¬ (Str.ofString "lock" = Str.ofString "code") := by decide
    have e2 : ¬ (Str.ofString "lock" = Str.ofString "layer") := by decide
    simp [runF, runB, startE, evSs, evS, evE, evA, evC, evI, evT, resOf, optV, opt, truD, storeT, storeG, storeGs, f_is_action, b_is_action, b_is_action_t1, b_is_action_t2, b_is_action_t3, b_is_action_t4, b_is_action_t5, Act.enc, S, isiD, cmpD, bltD, lenD, seqOf, eqD, scal2, eqS, idxD, idxSeq, atI, ixN, inD, inSeq, flat, eqF, q1, callW_pure, noRefs, noRef, s_no_hold k (by omega) (Str.ofString "lock") (by decide) (by decide), binD, s_int2 k (by omega) n 1 (layers - 1) ho.1 ho.2]
  | once n =>
    simp [runF, runB, startE, evSs, evS, evE, evA, evC, evI, evT, resOf, optV, opt, truD, storeT, storeG, storeGs, f_is_action, b_is_action, b_is_action_t1, b_is_action_t2, b_is_action_t3, b_is_action_t4, b_is_action_t5, Act.enc, S, isiD, cmpD, bltD, lenD, seqOf, eqD, scal2, eqS, idxD, idxSeq, atI, ixN, inD, inSeq, flat, eqF, q1, callW_pure, noRefs, noRef, s_no_hold k (by omega) (Str.ofString "once") (by decide) (by decide), binD, s_int2 k (by omega) n 1 (layers - 1) ho.1 ho.2]
  | dual c h t r =>
    obtain ⟨h1, h2, h3, h4, h5⟩ := ho
    have q5 : MP.sizeOk 2 = true := sizeOk_small (by omega)
    simp [runF, runB, startE, evSs, evS, evE, evA, evC, evI, evT, resOf, optV, opt, truD, storeT, storeG, storeGs, f_is_action, b_is_action, b_is_action_t1, b_is_action_t2, b_is_action_t3, b_is_action_t4, b_is_action_t5, Act.enc, S, isiD, cmpD, bltD, lenD, seqOf, eqD, scal2, eqS, idxD, idxSeq, atI, ixN, inD, inSeq, flat, eqF, q1, callW_pure, noRefs, noRef, hold_noRef, s_is_code k (by omega) c h1, s_is_hold k (by omega) h layers h2, s_int2 k (by omega) t 1 1000000000 h3 h4]
    rcases h5 with rfl | rfl | rfl <;> decide
/-! ### cleaning -/
theorem cutL_pre (n : Nat) (M : Live) : ∀ {L L' : Live}, (∀ i : Nat, i < L.length → L'[i]? = L[i]?) → cutL n M L L' = some L
  | [], L', h => by simp [cutL]
  | o :: L, [], h => by have := h 0 (by simp); simp at this
  | o :: L, o' :: L', h => by
    have h0 := h 0 (by simp)
    simp at h0
    subst h0
    have ih := cutL_pre n M (L := L) (L' := L') fun i hi => by
      have := h (i + 1) (by simp; omega)
      simpa using this
    simp [cutL, ih]
theorem cutL_app (n : Nat) (M L X : Live) : cutL n M L (L ++ X) = some L := cutL_pre n M fun i hi => List.getElem?_append_left hi
theorem mapO_id {α : Type} {f : α → Option α} : ∀ {l : List α}, (∀ x ∈ l, f x = some x) → mapO f l = some l
  | [], _ => rfl
  | x :: l, h => by simp [mapO, h x List.mem_cons_self, mapO_id fun y hy => h y (List.mem_cons_of_mem _ hy)]
theorem okBs_mem {n : Nat} : ∀ {ds : List D}, okBs n ds = true → ∀ d ∈ ds, okB n d = true
  | [], _, d, h => by cases h
  | e :: ds, hb, d, h => by
    simp only [okBs, Bool.and_eq_true] at hb
    rcases List.mem_cons.mp h with rfl | h
    · exact hb.1
    · exact okBs_mem hb.2 d h
theorem fz_ok {n m : Nat} {L : Live} {d : D} (h : okB n d = true) : fzF n L (m + 1) d = some d := by simp [fzF, h]
theorem fz_list {n k m : Nat} {L : Live} {ds : List D} (h : L[k]? = some (.lst ds)) (hk : ¬ k < n) (hd : okBs n ds = true) : fzF n L (m + 2) (.ref k) = some (.lst 0 ds) := by
  have e : mapO (fzF n L (m + 1)) ds = some ds := mapO_id fun d hm => fz_ok (okBs_mem hd d hm)
  rw [fzF]
  simp [okB, hk, h, e]
/-! ### layouts -/
abbrev Lay := List (List Act)
/-- the tags of a list and of its rows -/
abbrev Tags := Nat × (Nat → Nat)
abbrev τ0 : Tags := (0, fun _ => 0)
def encR (t : Nat) (row : List Act) : D := .lst t (row.map Act.enc)
def rowsD (τ : Tags) (lay : Lay) : List D := lay.mapIdx fun i r => encR (τ.2 i) r
def encL (τ : Tags) (lay : Lay) : D := .lst τ.1 (rowsD τ lay)
@[simp] theorem rowsD_len (τ : Tags) (lay : Lay) : (rowsD τ lay).length = lay.length := by simp [rowsD]
@[simp] theorem rowsD_get (τ : Tags) (lay : Lay) (i : Nat) (h : i < (rowsD τ lay).length) : (rowsD τ lay)[i] = encR (τ.2 i) (lay[i]'(by simpa using h)) := by simp [rowsD]
theorem rowsD_get? (τ : Tags) (lay : Lay) (i : Nat) : (rowsD τ lay)[i]? = lay[i]?.map (encR (τ.2 i)) := by simp [rowsD]
theorem rowsD_mem {τ : Tags} {lay : Lay} {d : D} (h : d ∈ rowsD τ lay) : ∃ t r, r ∈ lay ∧ d = encR t r := by
  obtain ⟨i, hi, rfl⟩ := List.mem_iff_getElem.mp h
  rw [rowsD_get]
  exact ⟨_, _, List.getElem_mem _, rfl⟩
theorem rowsD_zero (lay : Lay) : rowsD τ0 lay = lay.map (encR 0) := by
  apply List.ext_getElem
  · simp
  · intro i h1 h2
    simp
structure LayOk (lay : Lay) (K : Nat) : Prop where
  n1 : 1 ≤ lay.length
  n2 : lay.length ≤ 6
  k1 : 1 ≤ K
  k2 : K ≤ 16
  row : ∀ r ∈ lay, r.length = K
  act : ∀ (i : Nat) (r : List Act), lay[i]? = some r → ∀ a ∈ r, a.ok i lay.length
theorem acts_noRef (r : List Act) : noRefs (r.map Act.enc) = true := by
  induction r with
  | nil => rfl
  | cons a r ih => simp [noRefs, act_noRef, ih]
theorem acts_noTag (r : List Act) : noTags (r.map Act.enc) = true := by
  induction r with
  | nil => rfl
  | cons a r ih => simp [noTags, act_noTag, ih]
theorem noRefs_of {ds : List D} (h : ∀ d ∈ ds, noRef d = true) : noRefs ds = true := by
  induction ds with
  | nil => rfl
  | cons d ds ih => simp [noRefs, h d List.mem_cons_self, ih fun x hx => h x (List.mem_cons_of_mem _ hx)]
theorem noTags_of {ds : List D} (h : ∀ d ∈ ds, noTag d = true) : noTags ds = true := by
  induction ds with
  | nil => rfl
  | cons d ds ih => simp [noTags, h d List.mem_cons_self, ih fun x hx => h x (List.mem_cons_of_mem _ hx)]
@[simp] theorem row_noRef (t : Nat) (r : List Act) : noRef (encR t r) = true := by simp [encR, noRef, acts_noRef]
@[simp] theorem lay_noRef (τ : Tags) (lay : Lay) : noRef (encL τ lay) = true := by
  simp only [encL, noRef]
  refine noRefs_of fun d hd => ?_
  obtain ⟨t, r, _, rfl⟩ := rowsD_mem hd
  simp
theorem lay_noTag (lay : Lay) : noTag (encL τ0 lay) = true := by
  simp only [encL, noTag, decide_true, Bool.true_and]
  refine noTags_of fun d hd => ?_
  rw [rowsD_zero] at hd
  obtain ⟨r, _, rfl⟩ := List.mem_map.mp hd
  simp [encR, noTag, acts_noTag]
variable [HasFn T 4 f_is_table]
theorem s_is_table (k : Nat) (hk : 1 ≤ k) (τ : Tags) (lay : Lay) (K : Nat) (h : LayOk lay K) (L : Live) : (T.cx k).φ 4 [encL τ lay] L = .ok (.bl true) L := by
  obtain ⟨k, rfl⟩ : ∃ m, k = m + 1 := ⟨k - 1, by omega⟩
  obtain ⟨h1, h2, h3, h4, h5, h6⟩ := h
  have h1' : (1 : Int) ≤ (lay.length : Int) := by omega
  have h2' : (lay.length : Int) ≤ 6 := by omega
  obtain ⟨r0, rest, e0⟩ : ∃ r0 rest, lay = r0 :: rest := by
    cases lay with
    | nil => simp at h1
    | cons a r => exact ⟨a, r, rfl⟩
  have l0 : r0.length = K := h5 r0 (by rw [e0]; simp)
  have i0 : idxD (encL τ lay) (.int 0) L = some (encR (τ.2 0) r0) := by
    rw [e0]
    simp [idxD, encL, seqOf, lstOf, idxSeq, atI, ixN, rowsD]
  have c1 : compL [] (.slot 2) [some (encL τ lay), none, none] (fun _ L' => .ok true L') (fun E' L' => evE (T.cx k) b_is_table_0 E' L') (rowsD τ lay) [] L = .ok ((rowsD τ lay).map fun _ => .bl true) L := by
    refine compL_map rfl (by simp; exact small_line (by omega)) fun d hd => ?_
    obtain ⟨t, r, hr, rfl⟩ := rowsD_mem hd
    exact ⟨_, rfl, rfl, by simp [b_is_table_0, evE, encR, isiD, optV]⟩
  have c2 : compL [] (.slot 2) [some (encL τ lay), none, none] (fun _ L' => .ok true L') (fun E' L' => evE (T.cx k) b_is_table_1 E' L') (rowsD τ lay) [] L = .ok ((rowsD τ lay).map fun _ => .bl true) L := by
    refine compL_map rfl (by simp; exact small_line (by omega)) fun d hd => ?_
    obtain ⟨t, r, hr, rfl⟩ := rowsD_mem hd
    refine ⟨_, rfl, rfl, ?_⟩
    have lr := h5 r hr
    simp [b_is_table_1, evE, evA, encR, bltD, lenD, seqOf, lstOf, opt, i0, optV, cmpD, eqD, scal2, eqS, lr, l0]
  have hK1 : (1 : Int) ≤ (r0.length : Int) := by omega
  have hK2 : (r0.length : Int) ≤ 16 := by omega
  have eL : lstOf L (encL τ lay) = some (rowsD τ lay) := rfl
  have eS : seqOf L (encL τ lay) = some (rowsD τ lay) := rfl
  have eI : itemsOf L (encL τ lay) = some (rowsD τ lay) := rfl
  have eW : watch L (encL τ lay) = [] := rfl
  have eT : isiD L (encL τ lay) .list = some true := rfl
  have eN : lenD L (encL τ lay) = some (lay.length : Int) := by simp [encL, lenD, seqOf, lstOf]
  have eR : lenD L (encR (τ.2 0) r0) = some (r0.length : Int) := by simp [encR, lenD, seqOf, lstOf]
  rw [phiH 4]
  simp [runF, runB, startE, evSs, evS, evE, evA, evC, evI, evT, resOf, optV, opt, truD, storeT, storeG, storeGs, f_is_table, b_is_table, b_is_table_t1, eT, eN, eR, cmpD, ordI, bltD, h1', h2', wipeE, eI, eW, c1, c2, newL, lstOf, bools_true, i0, hK1, hK2, -List.map_map]
/-! ### the places that are wrong: none -/
variable [HasFn T 5 f_wrong_places]
theorem s_wrong (k : Nat) (hk : 4 ≤ k) (τ : Tags) (lay : Lay) (K : Nat) (h : LayOk lay K) (L : Live) : (T.cx k).φ 5 [encL τ lay] L = .ok (.lst 0 []) L := by
  obtain ⟨k, rfl⟩ : ∃ m, k = m + 1 := ⟨k - 1, by omega⟩
  obtain ⟨h1, h2, h3, h4, h5, h6⟩ := h
  have eN : ∀ L, lenD L (encL τ lay) = some (lay.length : Int) := fun L => by simp [encL, lenD, seqOf, lstOf]
  -- one row
  have row : ∀ (i : Nat) (r : List Act) (x y z : Option D) (L' : Live), lay[i]? = some r → compL [] (.tup [.slot 5, .slot 6]) [some (encL τ lay), x, some (.int i), some (encR (τ.2 i) r), none, none, none] (fun E' L' => evC (T.cx k) (.cons b_wrong_places_1 .nil) E' L') (fun E' L' => evE (T.cx k) b_wrong_places_2 E' L') (enumD (r.map Act.enc)) [] L' = .ok [] L' := by
    intro i r x y z L' hi
    have key := compL_filter (w := []) (g := .tup [.slot 5, .slot 6]) (E := [some (encL τ lay), x, some (.int i), some (encR (τ.2 i) r), none, none, none]) (c := fun E' L' => evC (T.cx k) (.cons b_wrong_places_1 .nil) E' L') (e := fun E' L' => evE (T.cx k) b_wrong_places_2 E' L') (q := fun _ => false) (f := fun d => d) (ds := enumD (r.map Act.enc)) (L := L') rfl
      (by rw [enumD_len]; simp; exact small_line (by have := h5 r (List.mem_of_getElem? hi); omega)) (fun d hd => ?_)
    · rw [key]; simp
    · obtain ⟨j, hj, rfl⟩ := List.mem_iff_getElem.mp hd
      rw [enumD_get hj]
      have hj' : j < r.length := by simpa [enumD] using hj
      refine ⟨_, rfl, ?_, fun z => by cases z⟩
      simp [evC, b_wrong_places_1, evE, evA, bltD, eN, opt, optV, truD, callW_pure, noRefs, noRef, act_noRef, s_is_action k (by omega) r[j] i lay.length (h6 i r hi r[j] (List.getElem_mem hj'))]
  have loop : ∃ E' L', forL [] (.tup [.slot 2, .slot 3]) (fun E' L' => evSs (T.cx k) b_wrong_places_0 E' L') (enumD (rowsD τ lay)) [some (encL τ lay), some (.ref L.length), none, none, none, none, none] (L ++ [.lst []]) = .fl .nx E' L' ∧ (L' = L ++ [.lst []] ∧ ∃ x y, E' = [some (encL τ lay), some (.ref L.length), x, y, none, none, none]) := by
    refine forL_run (w := []) (fun _ E' L' => L' = L ++ [.lst []] ∧ ∃ x y, E' = [some (encL τ lay), some (.ref L.length), x, y, none, none, none]) (fun _ _ _ _ => rfl) (fun i E' L' hi hp => ?_) ⟨rfl, none, none, rfl⟩
    obtain ⟨rfl, x, y, rfl⟩ := hp
    have hi' : i < lay.length := by simpa [enumD] using hi
    rw [enumD_get hi]
    refine ⟨_, _, _, rfl, .inl ?_, ⟨rfl, some (.int i), some (encR (τ.2 i) lay[i]), rfl⟩⟩
    have hn : (L ++ [LO.lst []])[L.length]? = some (.lst []) := by simp
    have hm : mthTy .extend (L ++ [LO.lst []]) (.ref L.length) = some .list := by simp [mthTy]
    have eE : lstOf (L ++ [LO.lst []]) (.lst 0 []) = some [] := rfl
    have hr := row i lay[i] (some (.ref L.length)) none none (L ++ [.lst []]) (List.getElem?_eq_getElem hi')
    have eI : lstOf (L ++ [LO.lst []]) (encR (τ.2 i) lay[i]) = some (lay[i].map Act.enc) := rfl
    have eW : watch (L ++ [LO.lst []]) (encR (τ.2 i) lay[i]) = [] := rfl
    have hs : (L ++ [LO.lst []]).set L.length (.lst []) = L ++ [LO.lst []] := by simp
    have z0 : MP.sizeOk 0 = true := sizeOk_small (by omega)
    simp [evSs, evS, evE, evA, evI, b_wrong_places_0, wipeE, eI, eW, hr, newL, opt, optV, hm, mthD, eE, z0]
  obtain ⟨E', L', e1, rfl, x, y, rfl⟩ := loop
  have eI : lstOf (L ++ [LO.lst []]) (encL τ lay) = some (rowsD τ lay) := rfl
  have eW : watch (L ++ [LO.lst []]) (encL τ lay) = [] := rfl
  have z0 : MP.sizeOk 0 = true := sizeOk_small (by omega)
  rw [phiH 5]
  unfold f_wrong_places
  have run : runB (T.cx k) ⟨1, 7, [], true, b_wrong_places⟩ [encL τ lay] L = .ok (.ref L.length) (L ++ [.lst []]) := by
    simp [runF, runB, startE, evSs, evS, evE, evA, evC, evI, evT, resOf, optV, opt, truD, storeT, storeG, storeGs, f_wrong_places, b_wrong_places, b_wrong_places_t1, b_wrong_places_t2, newL, eI, eW, e1, z0]
  simp only [runF, if_true, run, cleanR]
  rw [fz_list (k := L.length) (ds := []) (by simp) (by omega) rfl]
  simp only [cutL_app]
variable [HasFn T 6 f_require_layout]
theorem s_require (k : Nat) (hk : 5 ≤ k) (τ : Tags) (lay : Lay) (K : Nat) (h : LayOk lay K) (L : Live) : (T.cx k).φ 6 [encL τ lay] L = .ok .non L := by
  obtain ⟨k, rfl⟩ : ∃ m, k = m + 1 := ⟨k - 1, by omega⟩
  have z0 : MP.sizeOk 0 = true := sizeOk_small (by omega)
  have hn : noRefs [encL τ lay] = true := by simp [noRefs, lay_noRef]
  have e0 : SeqAt.shaped (.list []) = true := by decide
  rw [phiH 6]
  simp [runF, runB, startE, evSs, evS, evE, evA, evC, evI, evT, resOf, optV, opt, truD, storeT, storeG, storeGs, f_require_layout, b_require_layout, b_require_layout_t1, b_require_layout_t2, callW_pure hn, s_is_table k (by omega) τ lay K h, s_wrong k (by omega) τ lay K h, newL, z0, cmpD, eqD, scal2, pyOf, toPy, toPys, e0, PyData.eqv, PyData.eqvAll]
end
end PB
set_option maxHeartbeats 1000000
namespace PB
open PySem PySem.Spec PyProof.Rows L2 MP
/-! with_action: 0=layout 1=layer 2=key 3=action 4=rows 5=.0 6=row -/
def b_with_action_0 : Ex := (.blt .list true (.cons (.var 6) .nil))
def b_with_action_t5 : Ss := (.cons (.ret (.var 4)) .nil)
def b_with_action_t4 : Ss := (.cons (.asg (.sub (.idx (.var 4) (.var 1)) (.var 2)) (.var 3)) b_with_action_t5)
def b_with_action_t3 : Ss := (.cons (.asg (.nm (.slot 4)) (.comp true [5, 6] (.slot 6) (.val (.var 0)) .nil b_with_action_0)) b_with_action_t4)
def b_with_action_t2 : Ss := (.cons (.ite (.not (.call 3 (.cons (.var 3) (.cons (.var 1) (.cons (.blt .len false (.cons (.var 0) .nil)) .nil))))) (.cons .nev .nil) .nil) b_with_action_t3)
def b_with_action_t1 : Ss := (.cons (.ite (.or (.not (.call 0 (.cons (.var 1) (.cons (.con (.int 0)) (.cons (.bin .sub false (.blt .len false (.cons (.var 0) .nil)) (.con (.int 1))) .nil))))) (.not (.call 0 (.cons (.var 2) (.cons (.con (.int 0)) (.cons (.bin .sub false (.blt .len false (.cons (.idx (.var 0) (.con (.int 0))) .nil)) (.con (.int 1))) .nil)))))) (.cons .nev .nil) .nil) b_with_action_t2)
def b_with_action : Ss := (.cons (.ex (.call 6 (.cons (.var 0) .nil))) b_with_action_t1)
def f_with_action : Fn := ⟨4, 7, [], false, b_with_action⟩
section
variable {T : Tab}
def liveRows (lay : Lay) : Live := lay.map fun r => LO.lst (r.map Act.enc)
def refsN (n m : Nat) : List D := (List.range m).map fun q => D.ref (n + q)
def setLay (lay : Lay) (l j : Nat) (a : Act) : Lay := lay.set l ((lay[l]?.getD []).set j a)
theorem setLay_len (lay : Lay) (l j : Nat) (a : Act) : (setLay lay l j a).length = lay.length := by simp [setLay]
theorem atI_get' {α : Type} {xs : List α} {j : Nat} (h : j < xs.length) : atI xs (j : Int) = some xs[j] := atI_nat (List.getElem?_eq_getElem h)
theorem ixN_nat {n j : Nat} (h : j < n) : ixN n (j : Int) = some j := by
  unfold ixN
  rw [if_pos (by omega), if_pos (by omega)]
  rfl
theorem liveRows_get (L X : Live) (lay : Lay) (i : Nat) (h : i < lay.length) : (L ++ liveRows lay ++ X)[L.length + i]? = some (.lst (lay[i].map Act.enc)) := by
  rw [List.append_assoc, List.getElem?_append_right (by omega), Nat.add_sub_cancel_left, List.getElem?_append_left (by simpa [liveRows] using h)]
  simp [liveRows, h]
theorem liveRows_set (L X : Live) (lay : Lay) (l j : Nat) (a : Act) (h : l < lay.length) : (L ++ liveRows lay ++ X).set (L.length + l) (.lst ((lay[l].map Act.enc).set j a.enc)) = L ++ liveRows (setLay lay l j a) ++ X := by
  rw [List.append_assoc, List.set_append_right _ _ (by omega), Nat.add_sub_cancel_left, List.set_append_left _ _ (by simpa [liveRows] using h), List.append_assoc]
  congr 2
  simp [liveRows, setLay, h, List.map_set]
theorem refs_at (n m i : Nat) (h : i < m) : atI (refsN n m) (i : Int) = some (.ref (n + i)) := by
  rw [atI_get' (by simpa [refsN] using h)]
  simp [refsN]
/-- [list(row) for row in layout], the rows live -/
theorem copy_rows (k : Nat) (own : Nat) (E0 : Ev) (ex : Ex) (τ : Tags) (lay : Lay) (hz : lay.length ≤ 6) (L : Live) (hE : own < E0.length) (he : ∀ t r L', evE (T.cx k) ex (E0.set own (some (encR t r))) L' = .ok (.ref L'.length) (L' ++ [.lst (r.map Act.enc)])) :
    compL [] (.slot own) E0 (fun _ L' => .ok true L') (fun E' L' => evE (T.cx k) ex E' L') (rowsD τ lay) [] L = .ok (refsN L.length lay.length) (L ++ liveRows lay) := by
  obtain ⟨acc', L', h1, h2, h3⟩ := compL_run (w := []) (g := .slot own) (E := E0) (c := fun _ L' => .ok true L') (e := fun E' L' => evE (T.cx k) ex E' L') (ds := rowsD τ lay)
    (fun i acc L' => L' = L ++ liveRows (lay.take i) ∧ acc = refsN L.length i) (fun i acc L' h => rfl) (fun i acc L' hi h => by
      obtain ⟨rfl, rfl⟩ := h
      have hi' : i < lay.length := by simpa using hi
      have ln : (L ++ liveRows (lay.take i)).length = L.length + i := by simp [liveRows]; omega
      refine ⟨E0.set own (some (encR (τ.2 i) lay[i])), by simp [storeG, hE], .inr ⟨_, _, _, rfl, he (τ.2 i) lay[i] _, by simp [refsN]; exact Nat.lt_of_lt_of_le (by omega : i < 100) (small_line (by omega)), ?_, ?_⟩⟩
      · unfold liveRows
        rw [List.take_succ_eq_append_getElem hi', List.map_append, List.append_assoc]
        rfl
      · rw [ln]
        simp [refsN, List.range_succ]) (acc := []) (L := L) ⟨by simp [liveRows], rfl⟩
  rw [h1, h2, h3]
  simp
theorem list_row (k : Nat) (i : Nat) (E : Ev) (t : Nat) (r : List Act) (L' : Live) (h : E[i]? = some (some (encR t r))) : evE (T.cx k) (.blt .list true (.cons (.var i) .nil)) E L' = .ok (.ref L'.length) (L' ++ [.lst (r.map Act.enc)]) := by
  simp [evE, evA, h, bltD, encR, seqOf, lstOf, newL, opt]
variable [HasFn T 0 f_is_integer] [HasFn T 1 f_is_code] [HasFn T 2 f_is_hold] [HasFn T 3 f_is_action] [HasFn T 4 f_is_table] [HasFn T 5 f_wrong_places] [HasFn T 6 f_require_layout] [HasFn T 7 f_with_action]
theorem s_with_action (k : Nat) (hk : 6 ≤ k) (τ : Tags) (lay : Lay) (K l j : Nat) (a : Act) (h : LayOk lay K) (hl : l < lay.length) (hj : j < K) (ha : a.ok l lay.length) (L : Live) :
    (T.cx k).φ 7 [encL τ lay, .int l, .int j, a.enc] L = .ok (.ref (L.length + lay.length)) (L ++ liveRows (setLay lay l j a) ++ [.lst (refsN L.length lay.length)]) := by
  obtain ⟨k, rfl⟩ : ∃ m, k = m + 1 := ⟨k - 1, by omega⟩
  have h' := h
  obtain ⟨h1, h2, h3, h4, h5, h6⟩ := h
  obtain ⟨r0, rest, e0⟩ : ∃ r0 rest, lay = r0 :: rest := by
    cases lay with
    | nil => simp at h1
    | cons a r => exact ⟨a, r, rfl⟩
  have l0 : r0.length = K := h5 r0 (by rw [e0]; simp)
  have i0 : ∀ L, idxD (encL τ lay) (.int 0) L = some (encR (τ.2 0) r0) := fun L => by
    rw [e0]
    simp [idxD, encL, seqOf, lstOf, idxSeq, atI, ixN, rowsD]
  have eN : ∀ L, lenD L (encL τ lay) = some (lay.length : Int) := fun L => by simp [encL, lenD, seqOf, lstOf]
  have eR : ∀ L, lenD L (encR (τ.2 0) r0) = some (K : Int) := fun L => by simp [encR, lenD, seqOf, lstOf, l0]
  have eI : ∀ L, itemsOf L (encL τ lay) = some (rowsD τ lay) := fun L => rfl
  have eW : ∀ L, watch L (encL τ lay) = [] := fun L => rfl
  have c := copy_rows (T := T) k 6 [some (encL τ lay), some (.int l), some (.int j), some a.enc, none, none, none] b_with_action_0 τ lay h2 L (by simp) (fun t r L' => list_row (T := T) k 6 _ t r L' rfl)
  have lenM : (L ++ liveRows lay).length = L.length + lay.length := by simp [liveRows]
  have n1 : noRefs [encL τ lay] = true := by simp [noRefs, lay_noRef]
  have n3 : noRefs [a.enc, .int l, .int lay.length] = true := by simp [noRefs, act_noRef, noRef]
  have x1 : idxD (.ref (L ++ liveRows lay).length) (.int l) (L ++ liveRows lay ++ [.lst (refsN L.length lay.length)]) = some (.ref (L.length + l)) := by
    have e1 : (L ++ liveRows lay ++ [LO.lst (refsN L.length lay.length)])[(L ++ liveRows lay).length]? = some (.lst (refsN L.length lay.length)) := by simp
    simp only [idxD, seqOf, lstOf, e1, idxSeq]
    exact refs_at _ _ _ hl
  have x2 : setD (.ref (L.length + l)) (.int j) a.enc (L ++ liveRows lay ++ [.lst (refsN L.length lay.length)]) = some (L ++ liveRows (setLay lay l j a) ++ [.lst (refsN L.length lay.length)]) := by
    have lr := h5 lay[l] (List.getElem_mem hl)
    simp only [setD, liveRows_get _ _ _ _ hl, List.length_map, lr, ixN_nat hj, Option.map_some]
    rw [liveRows_set _ _ _ _ _ _ hl]
  rw [lenM, List.append_assoc] at x1
  rw [List.append_assoc, List.append_assoc] at x2
  have lenR : (liveRows lay).length = lay.length := by simp [liveRows]
  rw [phiH 7]
  simp [runF, runB, startE, evSs, evS, evE, evA, evC, evI, evT, resOf, optV, opt, truD, storeT, storeG, storeGs, f_with_action, b_with_action, b_with_action_t1, b_with_action_t2, b_with_action_t3, b_with_action_t4, b_with_action_t5, x1, x2, lenR, callW_pure n1, callW_pure n3, callW_pure (show noRefs [D.int (l : Int), .int 0, .int ((lay.length : Int) - 1)] = true from rfl), callW_pure (show noRefs [D.int (j : Int), .int 0, .int ((K : Int) - 1)] = true from rfl),
    s_require (T := T) k (by omega) τ lay K h', bltD, eN, eR, i0, binD, s_int2 (T := T) k (by omega) l 0 ((lay.length : Int) - 1) (by omega) (by omega), s_int2 (T := T) k (by omega) j 0 ((K : Int) - 1) (by omega) (by omega), s_is_action (T := T) k (by omega) a l lay.length ha, wipeE, eI, eW, c, newL]
end
/-! ### what repr is of a layout -/
def Hold.py : Hold → PyData
  | .code s => .tuple [.str (Str.ofString "code"), .str s]
  | .layer n => .tuple [.str (Str.ofString "layer"), .int n]
def Act.py : Act → PyData
  | .none => .str (Str.ofString "none")
  | .through => .str (Str.ofString "through")
  | .code s => .tuple [.str (Str.ofString "code"), .str s]
  | .layer n => .tuple [.str (Str.ofString "layer"), .int n]
  | .lock n => .tuple [.str (Str.ofString "lock"), .int n]
  | .once n => .tuple [.str (Str.ofString "once"), .int n]
  | .dual c h t r => .tuple [.str (Str.ofString "dual"), .str c, h.py, .int t, .str r]
theorem hold_py (h : Hold) : toPy h.enc = some h.py := by cases h <;> simp [Hold.enc, toPy, toPys, S, Hold.py]
theorem act_py (a : Act) : toPy a.enc = some a.py := by cases a <;> simp [Act.enc, toPy, toPys, S, Act.py, hold_py]
theorem toPys_map {α : Type} {f : α → D} {g : α → PyData} (h : ∀ x, toPy (f x) = some (g x)) (l : List α) : toPys (l.map f) = some (l.map g) := by
  induction l with
  | nil => rfl
  | cons a r ih => simp [toPys, h, ih]
def pyR (r : List Act) : PyData := .list (r.map Act.py)
def pyL (lay : Lay) : PyData := .list (lay.map pyR)
theorem row_py (t : Nat) (r : List Act) : toPy (encR t r) = some (pyR r) := by simp [encR, toPy, toPys_map act_py, pyR]
theorem toPys_rows : ∀ (ts : Nat → Nat) (lay : Lay), toPys (lay.mapIdx fun i r => encR (ts i) r) = some (lay.map pyR)
  | _, [] => rfl
  | ts, r :: lay => by
    rw [List.mapIdx_cons, toPys, row_py]
    have := toPys_rows (fun i => ts (i + 1)) lay
    simp only [this, List.map_cons]
theorem lay_py (τ : Tags) (lay : Lay) : toPy (encL τ lay) = some (pyL lay) := by
  simp only [encL, toPy, rowsD, toPys_rows, pyL]
theorem signs_plain : ∀ c ∈ SIGNS.cps.toList, plainC c = true := by decide +kernel
theorem code_sz {s : Str} (h : isCode s) : psz (.str s) ≤ 10 := by
  simp only [psz]
  rw [repr_plain fun c hc => signs_plain c (h.2.2 c hc)]
  have := h.2.1
  omega
theorem int_sz {i : Int} (h : i.natAbs < 10 ^ 10) : psz (.int i) ≤ 11 := by
  simp only [psz]
  exact int_len (by decide) h
theorem log_small {n : Nat} (h : n < 10 ^ 10) : n.log2 < 1920 := by
  by_cases h0 : n = 0
  · subst h0; decide
  · exact Nat.lt_of_lt_of_le ((Nat.log2_lt h0).2 (Nat.lt_of_lt_of_le h (show 10 ^ 10 ≤ 2 ^ 40 by decide))) (by decide)
theorem wd (s : String) (h : isCode (Str.ofString s) := by exact ⟨by decide, by decide, by decide⟩) : psz (.str (Str.ofString s)) ≤ 10 := code_sz h
theorem hold_sz {h : Hold} {layers : Int} (hl : layers ≤ 6) (ho : h.ok layers) : psz h.py ≤ 28 ∧ h.py.showable = true ∧ h.py.depth ≤ 1 := by
  cases h with
  | code s =>
    have h1 := code_sz (s := s) ho
    have h2 := wd "code"
    refine ⟨by simp only [Hold.py, psz, pszs] at *; omega, by simp [Hold.py, PyData.showable, PyData.showableAll], by simp [Hold.py, PyData.depth, PyData.depthAll]⟩
  | layer n =>
    have hn : n.natAbs < 10 ^ 10 := by have h1 : 1 ≤ n := ho.1; have h2 : n ≤ layers - 1 := ho.2; omega
    have h1 := int_sz hn
    have h2 := wd "layer"
    have h3 := log_small hn
    refine ⟨by simp only [Hold.py, psz, pszs] at *; omega, by simp [Hold.py, PyData.showable, PyData.showableAll, h3], by simp [Hold.py, PyData.depth, PyData.depthAll]⟩
theorem act_sz {a : Act} {layer layers : Int} (hl : layers ≤ 6) (ho : a.ok layer layers) : psz a.py ≤ 90 ∧ a.py.showable = true ∧ a.py.depth ≤ 2 := by
  have lay : ∀ n : Int, 1 ≤ n → n ≤ layers - 1 → n.natAbs < 10 ^ 10 := fun n h1 h2 => by omega
  cases a with
  | none => exact ⟨by have := wd "none"; simp only [Act.py]; omega, rfl, by decide⟩
  | through => exact ⟨by have := wd "through"; simp only [Act.py]; omega, rfl, by decide⟩
  | code s =>
    have h1 := code_sz (s := s) ho
    have h2 := wd "code"
    refine ⟨by simp only [Act.py, psz, pszs] at *; omega, by simp [Act.py, PyData.showable, PyData.showableAll], by simp [Act.py, PyData.depth, PyData.depthAll]⟩
  | layer n =>
    have hn := lay n ho.1 ho.2
    have h1 := int_sz hn
    have h2 := wd "layer"
    have h3 := log_small hn
    refine ⟨by simp only [Act.py, psz, pszs] at *; omega, by simp [Act.py, PyData.showable, PyData.showableAll, h3], by simp [Act.py, PyData.depth, PyData.depthAll]⟩
  | lock n =>
    have hn := lay n ho.1 ho.2
    have h1 := int_sz hn
    have h2 := wd "lock"
    have h3 := log_small hn
    refine ⟨by simp only [Act.py, psz, pszs] at *; omega, by simp [Act.py, PyData.showable, PyData.showableAll, h3], by simp [Act.py, PyData.depth, PyData.depthAll]⟩
  | once n =>
    have hn := lay n ho.1 ho.2
    have h1 := int_sz hn
    have h2 := wd "once"
    have h3 := log_small hn
    refine ⟨by simp only [Act.py, psz, pszs] at *; omega, by simp [Act.py, PyData.showable, PyData.showableAll, h3], by simp [Act.py, PyData.depth, PyData.depthAll]⟩
  | dual c h t r =>
    obtain ⟨h1, h2, h3, h4, h5⟩ := ho
    have s1 := code_sz h1
    obtain ⟨s2, s3, s4⟩ := hold_sz hl h2
    have hn : t.natAbs < 10 ^ 10 := by omega
    have s5 := int_sz hn
    have s6 := log_small hn
    have s7 := wd "dual"
    have s8 : psz (.str r) ≤ 10 := by
      rcases h5 with rfl | rfl | rfl
      · exact wd "time"
      · exact wd "other"
      · exact wd "within"
    refine ⟨by simp only [Act.py, psz, pszs] at *; omega, by simp [Act.py, PyData.showable, PyData.showableAll, s6, s3], by simp [Act.py, PyData.depth, PyData.depthAll]; omega⟩
theorem repr_ok {L : Live} {d : D} {p : PyData} (h : pyOf L d = some p) (h1 : p.showable = true) (h2 : psz p ≤ 1000000) (h3 : p.depth < 60) : reprD L d = some p.shown := by
  have := shown_le p
  simp [reprD, pyX, h, h1, sizeOk_small (Nat.le_trans this h2), h3]
theorem repr_okX {L : Live} {d : D} {p : PyData} (h : pyX L d = some p) (h1 : p.showable = true) (h2 : psz p ≤ 1000000) (h3 : p.depth < 60) : reprD L d = some p.shown := by
  have := shown_le p
  simp [reprD, h, h1, sizeOk_small (Nat.le_trans this h2), h3]
theorem lay_sz {lay : Lay} {K : Nat} (h : LayOk lay K) : psz (pyL lay) ≤ 10000 ∧ (pyL lay).showable = true ∧ (pyL lay).depth ≤ 4 := by
  have hl : (lay.length : Int) ≤ 6 := by have := h.n2; omega
  have row : ∀ p ∈ lay.map pyR, psz p ≤ 1500 ∧ p.showable = true ∧ p.depth ≤ 3 := by
    intro p hp
    obtain ⟨r, hr, rfl⟩ := List.mem_map.mp hp
    obtain ⟨i, hi, e⟩ := List.mem_iff_getElem.mp hr
    have ha : ∀ x ∈ r.map Act.py, psz x ≤ 90 ∧ x.showable = true ∧ x.depth ≤ 2 := by
      intro x hx
      obtain ⟨a, ha, rfl⟩ := List.mem_map.mp hx
      exact act_sz hl (h.act i r (by rw [List.getElem?_eq_getElem hi, e]) a ha)
    have b_is_code := pszs_le fun x hx => (ha x hx).1
    have b_is_hold := MP.showableAll_of fun x hx => (ha x hx).2.1
    have b_is_action := depthAll_le fun x hx => (ha x hx).2.2
    have b_is_table := h.row r hr
    have b_wrong_places := h.k2
    rw [List.length_map] at b_is_code
    refine ⟨?_, ?_, ?_⟩
    · simp only [pyR, psz]; omega
    · simpa only [pyR, PyData.showable] using b_is_hold
    · simp only [pyR, PyData.depth]; omega
  have b_is_code := pszs_le fun x hx => (row x hx).1
  have b_is_hold := MP.showableAll_of fun x hx => (row x hx).2.1
  have b_is_action := depthAll_le fun x hx => (row x hx).2.2
  have b_is_table := h.n2
  rw [List.length_map] at b_is_code
  refine ⟨?_, ?_, ?_⟩
  · simp only [pyL, psz]; omega
  · simpa only [pyL, PyData.showable] using b_is_hold
  · simp only [pyL, PyData.depth]; omega
theorem setLay_ok {lay : Lay} {K l j : Nat} {a : Act} (h : LayOk lay K) (hl : l < lay.length) (ha : a.ok l lay.length) : LayOk (setLay lay l j a) K := by
  have len : (setLay lay l j a).length = lay.length := setLay_len _ _ _ _
  refine ⟨by rw [len]; exact h.n1, by rw [len]; exact h.n2, h.k1, h.k2, ?_, ?_⟩
  · intro r hr
    rcases List.mem_or_eq_of_mem_set hr with hr | rfl
    · exact h.row r hr
    · rw [List.getElem?_eq_getElem hl]; simp; exact h.row _ (List.getElem_mem hl)
  · intro i r hr x hx
    rw [len]
    unfold setLay at hr
    by_cases e : l = i
    · subst e
      rw [List.getElem?_set_self hl, List.getElem?_eq_getElem hl] at hr
      simp at hr
      subst hr
      rcases List.mem_or_eq_of_mem_set hx with hx | rfl
      · exact h.act l lay[l] (List.getElem?_eq_getElem hl) x hx
      · exact ha
    · rw [List.getElem?_set_ne e] at hr
      exact h.act i r hr x hx
/-! ### what repr is of the copy's live rows -/
theorem view_hold (L : Live) (n : Nat) (h : Hold) : view L (n + 2) h.enc = some h.py := by cases h <;> simp [Hold.enc, Hold.py, view, mapO, S, toPy]
theorem view_act (L : Live) (n : Nat) (a : Act) : view L (n + 3) a.enc = some a.py := by
  cases a with
  | dual c h t r =>
    have e := view_hold L n h
    have e1 : ∀ s : Str, view L (n + 2) (.str s) = some (.str s) := fun s => rfl
    have e2 : ∀ i : Int, view L (n + 2) (.int i) = some (.int i) := fun s => rfl
    show (mapO (view L (n + 2)) [S "dual", .str c, h.enc, .int t, .str r]).map PyData.tuple = _
    simp only [mapO, e, e1, e2, Option.map_some, Act.py, S]
  | _ => simp [Act.enc, Act.py, view, mapO, S, toPy]
theorem mapO_map {α β γ : Type} {f : β → Option γ} {g : α → β} {e : α → γ} : ∀ {l : List α}, (∀ x ∈ l, f (g x) = some (e x)) → mapO f (l.map g) = some (l.map e)
  | [], _ => rfl
  | x :: l, h => by simp only [List.map_cons, mapO, h x List.mem_cons_self, mapO_map (l := l) fun y hy => h y (List.mem_cons_of_mem _ hy)]
theorem view_told (L X : Live) (lay : Lay) (m : Nat) (hm : m = lay.length) (hX : (L ++ liveRows lay ++ X)[L.length + lay.length]? = some (.lst (refsN L.length m))) : pyOf (L ++ liveRows lay ++ X) (.ref (L.length + lay.length)) = some (pyL lay) := by
  have key : mapO (view (L ++ liveRows lay ++ X) 11) (refsN L.length m) = some (lay.map pyR) := by
    have e : lay.map pyR = (List.range m).map fun q => pyR (lay[q]?.getD []) := by
      apply List.ext_getElem
      · simp [hm]
      · intro i h1 h2
        simp at h1
        simp [h1]
    rw [e]
    refine mapO_map fun q hq => ?_
    have hq' : q < lay.length := by have := List.mem_range.mp hq; omega
    have g := liveRows_get L X lay q hq'
    rw [view, g]
    simp only [mapO_map fun (a : Act) _ => view_act _ 7 a, Option.map_some, List.getElem?_eq_getElem hq', Option.getD_some]
    rfl
  simp only [pyOf, toPy]
  rw [view, hX]
  simp only [key, Option.map_some]
  rfl
end PB
set_option maxHeartbeats 1000000
/-! live lists lent to a callee -/
namespace PB
open PySem hiding Act
open PySem.Spec PyProof.Rows L2 MP
theorem mapIx_len {α β : Type} (f : Nat → α → β) : ∀ (k : Nat) (l : List α), (mapIx f k l).length = l.length
  | _, [] => rfl
  | k, x :: r => by simp [mapIx, mapIx_len f (k + 1) r]
theorem mapIx_get {α β : Type} (f : Nat → α → β) : ∀ (k : Nat) (l : List α) (i : Nat), (mapIx f k l)[i]? = l[i]?.map (f (k + i))
  | _, [], i => by simp [mapIx]
  | k, x :: r, 0 => by simp [mapIx]
  | k, x :: r, i + 1 => by
    have := mapIx_get f (k + 1) r i
    simp only [mapIx, List.getElem?_cons_succ, this]
    congr 2
    omega
mutual
theorem th_noTag (ids : List Nat) : ∀ d : D, noTag d = true → th ids d = d
  | .non, _ => rfl
  | .bl _, _ => rfl
  | .int _, _ => rfl
  | .str _, _ => rfl
  | .ref _, _ => rfl
  | .tup ds, h => by simp only [noTag] at h; simp only [th, ths_noTag ids ds h]
  | .dct ks ds, h => by simp only [noTag] at h; simp only [th, ths_noTag ids ds h]
  | .lst t ds, h => by
    simp only [noTag, Bool.and_eq_true, decide_eq_true_eq] at h
    obtain ⟨rfl, h⟩ := h
    simp only [th, ths_noTag ids ds h]
theorem ths_noTag (ids : List Nat) : ∀ ds : List D, noTags ds = true → ths ids ds = ds
  | [], _ => rfl
  | d :: ds, h => by
    simp only [noTags, Bool.and_eq_true] at h
    simp only [ths, th_noTag ids d h.1, ths_noTag ids ds h.2]
end
def noTagO : LO → Bool
  | .lst xs => noTags xs
  | _ => false
theorem thO_noTag (ids : List Nat) {o : LO} (h : noTagO o = true) : thO ids o = o := by
  cases o with
  | lst xs => simp only [noTagO] at h; simp only [thO, ths_noTag ids xs h]
  | _ => simp [noTagO] at h
theorem maskL_len (ids : List Nat) (L : Live) : (maskL ids L).length = L.length := mapIx_len _ _ _
theorem backL_app {ids : List Nat} {L X : Live} (hi : ∀ i ∈ ids, i < L.length) (hX : ∀ o ∈ X, noTagO o = true) : backL ids L (maskL ids L ++ X) = L ++ X := by
  apply List.ext_getElem?
  intro i
  unfold backL
  rw [mapIx_get]
  simp only [Nat.zero_add]
  by_cases h : i < L.length
  · rw [List.getElem?_append_left (by rw [maskL_len]; exact h), List.getElem?_append_left h]
    unfold maskL
    rw [mapIx_get]
    simp only [Nat.zero_add]
    rw [List.getElem?_eq_getElem h]
    by_cases hm : i ∈ ids
    · simp [hm]
    · simp [hm]
  · have hn : i ∉ ids := fun z => h (hi i z)
    rw [List.getElem?_append_right (by rw [maskL_len]; omega), List.getElem?_append_right (by omega), maskL_len]
    cases q : X[i - L.length]? with
    | none => rfl
    | some o =>
      have hl : L[i]? = none := List.getElem?_eq_none (by omega)
      simp only [Option.map_some, hn, if_false, hl, reduceCtorEq]
      rw [thO_noTag ids (hX o (List.mem_of_getElem? q))]
/-- a call that lends, and makes new objects at most -/
theorem callW_lend {c : Cxt} {f : Nat} {ds es : List D} {L X : Live} {i : Nat} {ids : List Nat} {d : D} (h1 : idsAs L (c.liv f) ds = i :: ids) (h2 : lendAs L (c.liv f) ds = some es) (hi : ∀ j ∈ i :: ids, j < L.length) (hX : ∀ o ∈ X, noTagO o = true) (hd : noTag d = true)
    (h3 : c.φ f es (maskL (i :: ids) L) = .ok d (maskL (i :: ids) L ++ X)) : callW c f ds L = .ok d (L ++ X) := by
  unfold callW
  simp only [h1, h2, h3, th_noTag _ d hd, backL_app hi hX]
/-! ### live layouts -/
structure LiveL (L : Live) (a : Nat) (rs : List Nat) (lay : Lay) : Prop where
  top : L[a]? = some (.lst (rs.map D.ref))
  len : rs.length = lay.length
  row : ∀ (i : Nat) (h : i < lay.length) (h2 : i < rs.length), L[rs[i]]? = some (.lst (lay[i].map Act.enc))
  nd : (a :: rs).Nodup
abbrev tagsOf (a : Nat) (rs : List Nat) : Tags := (a + 1, fun i => rs.getD i 0 + 1)
theorem lendF_noRef (L : Live) (n : Nat) {d : D} (h : noRef d = true) : lendF L (n + 1) d = some d := by simp [lendF, h]
theorem LiveL.lt {L : Live} {a : Nat} {rs : List Nat} {lay : Lay} (h : LiveL L a rs lay) : ∀ j ∈ a :: rs, j < L.length := by
  intro j hj
  rcases List.mem_cons.mp hj with rfl | hj
  · exact (List.getElem?_eq_some_iff.mp h.top).1
  · obtain ⟨i, hi, rfl⟩ := List.mem_iff_getElem.mp hj
    exact (List.getElem?_eq_some_iff.mp (h.row i (by rw [← h.len]; exact hi) hi)).1
theorem mapO_get {α β : Type} {f : α → Option β} {l : List α} {r : List β} (hl : l.length = r.length) (h : ∀ (i : Nat) (h1 : i < l.length) (h2 : i < r.length), f l[i] = some r[i]) : mapO f l = some r := by
  induction l generalizing r with
  | nil => cases r with
    | nil => rfl
    | cons _ _ => simp at hl
  | cons x l ih => cases r with
    | nil => simp at hl
    | cons y r =>
      have h0 := h 0 (by simp) (by simp)
      simp at h0
      simp only [mapO, h0]
      rw [ih (by simpa using hl) fun i h1 h2 => by
        have := h (i + 1) (by simp; omega) (by simp; omega)
        simpa using this]
theorem LiveL.lendRow {L : Live} {a : Nat} {rs : List Nat} {lay : Lay} (h : LiveL L a rs lay) (n : Nat) (i : Nat) (hi : i < rs.length) : lendF L (n + 2) (.ref rs[i]) = some (encR (rs[i] + 1) (lay[i]'(by rw [← h.len]; exact hi))) := by
  have hr := h.row i (by rw [← h.len]; exact hi) hi
  rw [lendF]
  simp only [noRef, Bool.false_eq_true, if_false, hr]
  have e : mapO (lendF L (n + 1)) ((lay[i]'(by rw [← h.len]; exact hi)).map Act.enc) = some ((lay[i]'(by rw [← h.len]; exact hi)).map Act.enc) := mapO_id fun x hx => by
    obtain ⟨b, _, rfl⟩ := List.mem_map.mp hx
    exact lendF_noRef L n (act_noRef b)
  rw [e]
  rfl
theorem LiveL.lend {L : Live} {a : Nat} {rs : List Nat} {lay : Lay} (h : LiveL L a rs lay) (n : Nat) : lendF L (n + 3) (.ref a) = some (encL (tagsOf a rs) lay) := by
  rw [lendF]
  simp only [noRef, Bool.false_eq_true, if_false, h.top]
  have e : mapO (lendF L (n + 2)) (rs.map D.ref) = some (rowsD (tagsOf a rs) lay) := by
    refine mapO_get (by simp [h.len]) fun i h1 h2 => ?_
    have hi : i < rs.length := by simpa using h1
    simp only [List.getElem_map, rowsD_get]
    rw [h.lendRow n i hi]
    simp [hi]
  rw [e]
  rfl
theorem idsF_row {L : Live} {q : Nat} {r : List Act} (n : Nat) (h : L[q]? = some (.lst (r.map Act.enc))) : idsF L (n + 1) (.ref q) = [q] := by
  rw [idsF]
  simp only [noRef, Bool.false_eq_true, if_false, h]
  congr 1
  rw [List.flatMap_eq_nil_iff]
  intro x hx
  obtain ⟨b, _, rfl⟩ := List.mem_map.mp hx
  exact idsF_noRef L n (act_noRef b)
theorem LiveL.ids {L : Live} {a : Nat} {rs : List Nat} {lay : Lay} (h : LiveL L a rs lay) (n : Nat) : idsF L (n + 2) (.ref a) = a :: rs := by
  rw [idsF]
  simp only [noRef, Bool.false_eq_true, if_false, h.top]
  congr 1
  have key : ∀ l : List Nat, (∀ q ∈ l, idsF L (n + 1) (.ref q) = [q]) → (l.map D.ref).flatMap (idsF L (n + 1)) = l := by
    intro l
    induction l with
    | nil => intro _; rfl
    | cons q l ih =>
      intro hq
      rw [List.map_cons, List.flatMap_cons, hq q List.mem_cons_self, ih fun x hx => hq x (List.mem_cons_of_mem _ hx)]
      rfl
  refine key rs fun q hq => ?_
  obtain ⟨i, hi, rfl⟩ := List.mem_iff_getElem.mp hq
  exact idsF_row n (h.row i (by rw [← h.len]; exact hi) hi)
theorem lendAs_noRef (L : Live) : ∀ (lv : List Bool) (ds : List D), noRefs ds = true → lendAs L lv ds = some ds
  | _, [], _ => by simp [lendAs]
  | lv, d :: ds, h => by
    simp only [noRefs, Bool.and_eq_true] at h
    cases hb : lv.headD false <;> simp [lendAs, hb, lendF_noRef L 11 h.1, lendAs_noRef L lv.tail ds h.2]
/-- a layout lent as the first argument -/
theorem callW_lay {c : Cxt} {f : Nat} {L X : Live} {a : Nat} {rs : List Nat} {lay : Lay} {args : List D} {d : D} (h : LiveL L a rs lay) (hl : (c.liv f).headD false = false) (hn : noRefs args = true) (hX : ∀ o ∈ X, noTagO o = true) (hd : noTag d = true)
    (h3 : ∀ M : Live, M.length = L.length → c.φ f (encL (tagsOf a rs) lay :: args) M = .ok d (M ++ X)) : callW c f (.ref a :: args) L = .ok d (L ++ X) := by
  refine callW_lend (i := a) (ids := rs) (es := encL (tagsOf a rs) lay :: args) ?_ ?_ h.lt hX hd (h3 _ (maskL_len _ _))
  · simp only [idsAs, hl, Bool.false_eq_true, if_false, h.ids 10, idsAs_noRef L _ args hn, List.append_nil]
  · simp only [lendAs, hl, Bool.false_eq_true, if_false, h.lend 9, lendAs_noRef L _ args hn]
theorem callW_lay0 {c : Cxt} {f : Nat} {L : Live} {a : Nat} {rs : List Nat} {lay : Lay} {args : List D} {d : D} (h : LiveL L a rs lay) (hl : (c.liv f).headD false = false) (hn : noRefs args = true) (hd : noTag d = true)
    (h3 : ∀ M : Live, c.φ f (encL (tagsOf a rs) lay :: args) M = .ok d M) : callW c f (.ref a :: args) L = .ok d L := by
  have := callW_lay (X := []) h hl hn (by simp) hd fun M _ => by rw [h3 M, List.append_nil]
  simpa using this
theorem LiveL.mono {L L' : Live} {a : Nat} {rs : List Nat} {lay : Lay} (h : LiveL L a rs lay) (hL : ∀ j ∈ a :: rs, L'[j]? = L[j]?) : LiveL L' a rs lay where
  top := by rw [hL a List.mem_cons_self]; exact h.top
  len := h.len
  row := fun i h1 h2 => by rw [hL _ (List.mem_cons_of_mem _ (List.getElem_mem h2))]; exact h.row i h1 h2
  nd := h.nd
theorem LiveL.app {L : Live} {a : Nat} {rs : List Nat} {lay : Lay} (h : LiveL L a rs lay) (X : Live) : LiveL (L ++ X) a rs lay :=
  h.mono fun j hj => List.getElem?_append_left (h.lt j hj)
/-- what repr sees of a live layout -/
theorem LiveL.view {L : Live} {a : Nat} {rs : List Nat} {lay : Lay} (h : LiveL L a rs lay) (n : Nat) : MP.view L (n + 5) (.ref a) = some (pyL lay) := by
  rw [MP.view, h.top]
  have e : mapO (MP.view L (n + 4)) (rs.map D.ref) = some (lay.map pyR) := by
    refine mapO_get (by simp [h.len]) fun i h1 h2 => ?_
    have hi : i < rs.length := by simpa using h1
    simp only [List.getElem_map]
    rw [MP.view, h.row i (by simpa using h2) hi]
    simp only [mapO_map fun (b : Act) _ => view_act L n b, Option.map_some]
    rfl
  simp only [e, Option.map_some]
  rfl
theorem LiveL.py {L : Live} {a : Nat} {rs : List Nat} {lay : Lay} (h : LiveL L a rs lay) : pyOf L (.ref a) = some (pyL lay) := by
  simp only [pyOf, toPy]
  exact h.view 7
end PB
set_option maxHeartbeats 1000000
namespace PB
open PySem PySem.Spec PyProof.Rows L2 MP
/-! ### draws of the first family -/
/-! _law_reel: 0=_law_script 1=_law_index 2=_law_mixed 3=_law_cell -/
def b__law_reel_0 : Ss := (.cons (.asg (.nm (.slot 2)) (.bin .mod false (.bin .add false (.bin .mul false (.var 2) (.con (.int 8675311))) (.bin .mod false (.var 3) (.bin .add false (.bin .pow false (.con (.int 10)) (.con (.int 43))) (.con (.int 57))))) (.bin .add false (.bin .pow false (.con (.int 10)) (.con (.int 41))) (.con (.int 37))))) .nil)
def b__law_reel_t3 : Ss := (.cons (.ret (.lst true (.cons (.blt .max false (.cons (.con (.int 0)) (.cons (.bin .sub false (.var 3) (.bin .pow false (.con (.int 10)) (.con (.int 18)))) .nil))) (.cons (.var 2) (.cons (.con (.int 0)) .nil))))) .nil)
def b__law_reel_t2 : Ss := (.cons (.asg (.nm (.slot 3)) (.ite (.cmp .lt (.var 1) (.blt .len false (.cons (.var 0) .nil))) (.blt .abs false (.cons (.idx (.var 0) (.var 1)) .nil)) (.con (.int 0)))) b__law_reel_t3)
def b__law_reel_t1 : Ss := (.cons (.for_ (.slot 3) (.val (.var 0)) b__law_reel_0) b__law_reel_t2)
def b__law_reel : Ss := (.cons (.asg (.nm (.slot 2)) (.bin .add false (.con (.int 60013)) (.bin .mul false (.con (.int 53)) (.var 1)))) b__law_reel_t1)
def f__law_reel : Fn := ⟨2, 4, [], false, b__law_reel⟩

/-! _law_spin: 0=_law_reel_here 1=_law_size 2=_law_digit 3=_law_wide -/
def b__law_spin_t4 : Ss := (.cons (.ret (.bin .mod false (.bin .fdiv false (.var 3) (.con (.int 524287))) (.var 1))) .nil)
def b__law_spin_t3 : Ss := (.cons (.asg (.nm (.slot 3)) (.bin .mod false (.bin .pow false (.bin .add false (.var 3) (.bin .mul false (.con (.int 22801763)) (.idx (.var 0) (.con (.int 2))))) (.con (.int 5))) (.bin .add false (.bin .pow false (.con (.int 10)) (.con (.int 40))) (.con (.int 121))))) b__law_spin_t4)
def b__law_spin_t2 : Ss := (.cons (.asg (.nm (.slot 3)) (.bin .mod false (.bin .pow false (.bin .add false (.idx (.var 0) (.con (.int 1))) (.bin .mul false (.con (.int 49979687)) (.idx (.var 0) (.con (.int 2))))) (.con (.int 3))) (.bin .add false (.bin .pow false (.con (.int 10)) (.con (.int 43))) (.con (.int 57))))) b__law_spin_t3)
def b__law_spin_t1 : Ss := (.cons (.asg (.sub (.var 0) (.con (.int 2))) (.bin .add false (.idx (.var 0) (.con (.int 2))) (.con (.int 1)))) b__law_spin_t2)
def b__law_spin : Ss := (.cons (.ite (.cmp .gt (.idx (.var 0) (.con (.int 0))) (.con (.int 0))) (.cons (.asg (.nm (.slot 2)) (.bin .mod false (.idx (.var 0) (.con (.int 0))) (.var 1))) (.cons (.asg (.sub (.var 0) (.con (.int 0))) (.bin .fdiv false (.idx (.var 0) (.con (.int 0))) (.var 1))) (.cons (.ret (.var 2)) .nil))) .nil) b__law_spin_t1)
def f__law_spin : Fn := ⟨2, 4, [true], false, b__law_spin⟩

/-! _law_code: 0=_law_reel_here 1=_law_some 2=_law_way 3=_law_many 4=_law_letters 5=.0 6=_law_turn -/
def b__law_code_0 : Ex := (.idx (.var 4) (.call 101 (.cons (.var 0) (.cons (.con (.int 36)) .nil))))
def b__law_code_t5 : Ss := (.cons (.ret (.mth .join (.con (.str (Str.ofString ""))) (.cons (.comp false [5, 6] (.slot 6) (.rng1 (.var 3)) .nil b__law_code_0) .nil))) .nil)
def b__law_code_t4 : Ss := (.cons (.asg (.nm (.tup [(.slot 3), (.slot 4)])) (.tup (.cons (.bin .add false (.con (.int 1)) (.call 101 (.cons (.var 0) (.cons (.con (.int 8)) .nil)))) (.cons (.con (.str (Str.ofString "abcdefghijklmnopqrstuvwxyz0123456789"))) .nil)))) b__law_code_t5)
def b__law_code_t3 : Ss := (.cons (.ite (.cmp .lt (.var 2) (.con (.int 22))) (.cons (.ret (.idx (.var 1) (.var 2))) .nil) .nil) b__law_code_t4)
def b__law_code_t2 : Ss := (.cons (.asg (.nm (.slot 2)) (.call 101 (.cons (.var 0) (.cons (.con (.int 27)) .nil)))) b__law_code_t3)
def b__law_code_t1 : Ss := (.cons (.asg (.nm (.slot 1)) (.bin .add false (.var 1) (.lst false (.cons (.con (.str (Str.ofString "00000000"))) (.cons (.con (.str (Str.ofString "0"))) (.cons (.con (.str (Str.ofString "lock"))) (.cons (.con (.str (Str.ofString "once"))) (.cons (.con (.str (Str.ofString "dual"))) (.cons (.con (.str (Str.ofString "release"))) (.cons (.con (.str (Str.ofString "down"))) (.cons (.con (.str (Str.ofString "up"))) .nil))))))))))) b__law_code_t2)
def b__law_code : Ss := (.cons (.asg (.nm (.slot 1)) (.lst false (.cons (.con (.str (Str.ofString "a"))) (.cons (.con (.str (Str.ofString "b"))) (.cons (.con (.str (Str.ofString "x"))) (.cons (.con (.str (Str.ofString "1"))) (.cons (.con (.str (Str.ofString "esc"))) (.cons (.con (.str (Str.ofString "none"))) (.cons (.con (.str (Str.ofString "through"))) (.cons (.con (.str (Str.ofString "press"))) (.cons (.con (.str (Str.ofString "tap"))) (.cons (.con (.str (Str.ofString "hold"))) (.cons (.con (.str (Str.ofString "code"))) (.cons (.con (.str (Str.ofString "layer"))) (.cons (.con (.str (Str.ofString "q9"))) (.cons (.con (.str (Str.ofString "zzzzzzzz"))) .nil)))))))))))))))) b__law_code_t1)
def f__law_code : Fn := ⟨1, 7, [true], false, b__law_code⟩

/-! _law_action: 0=_law_reel_here 1=_law_layer 2=_law_layers 3=_law_longest 4=_law_way 5=_law_hold_here 6=_law_time_here -/
def b__law_action_t8 : Ss := (.cons (.ret (.tup (.cons (.con (.str (Str.ofString "dual"))) (.cons (.call 102 (.cons (.var 0) .nil)) (.cons (.var 5) (.cons (.var 6) (.cons (.idx (.lst false (.cons (.con (.str (Str.ofString "time"))) (.cons (.con (.str (Str.ofString "other"))) (.cons (.con (.str (Str.ofString "within"))) .nil)))) (.call 101 (.cons (.var 0) (.cons (.con (.int 3)) .nil)))) .nil))))))) .nil)
def b__law_action_t7 : Ss := (.cons (.asg (.nm (.slot 6)) (.idx (.lst false (.cons (.bin .add false (.con (.int 1)) (.call 101 (.cons (.var 0) (.cons (.blt .min false (.cons (.con (.int 4)) (.cons (.var 3) .nil))) .nil)))) (.cons (.bin .add false (.con (.int 1)) (.call 101 (.cons (.var 0) (.cons (.var 3) .nil)))) (.cons (.var 3) .nil)))) (.call 101 (.cons (.var 0) (.cons (.con (.int 3)) .nil))))) b__law_action_t8)
def b__law_action_t6 : Ss := (.cons (.ite (.and (.cmp .gt (.var 2) (.con (.int 1))) (.cmp .gt (.call 101 (.cons (.var 0) (.cons (.con (.int 3)) .nil))) (.con (.int 0)))) (.cons (.asg (.nm (.slot 5)) (.tup (.cons (.con (.str (Str.ofString "layer"))) (.cons (.bin .add false (.con (.int 1)) (.call 101 (.cons (.var 0) (.cons (.bin .sub false (.var 2) (.con (.int 1))) .nil)))) .nil)))) .nil) .nil) b__law_action_t7)
def b__law_action_t5 : Ss := (.cons (.asg (.nm (.slot 5)) (.tup (.cons (.con (.str (Str.ofString "code"))) (.cons (.call 102 (.cons (.var 0) .nil)) .nil)))) b__law_action_t6)
def b__law_action_t4 : Ss := (.cons (.ite (.and (.cmp .lt (.var 4) (.con (.int 8))) (.cmp .gt (.var 2) (.con (.int 1)))) (.cons (.ret (.tup (.cons (.idx (.lst false (.cons (.con (.str (Str.ofString "layer"))) (.cons (.con (.str (Str.ofString "lock"))) (.cons (.con (.str (Str.ofString "once"))) .nil)))) (.call 101 (.cons (.var 0) (.cons (.con (.int 3)) .nil)))) (.cons (.bin .add false (.con (.int 1)) (.call 101 (.cons (.var 0) (.cons (.bin .sub false (.var 2) (.con (.int 1))) .nil)))) .nil)))) .nil) .nil) b__law_action_t5)
def b__law_action_t3 : Ss := (.cons (.ite (.and (.cmp .lt (.var 4) (.con (.int 6))) (.cmp .gt (.var 1) (.con (.int 0)))) (.cons (.ret (.con (.str (Str.ofString "through")))) .nil) .nil) b__law_action_t4)
def b__law_action_t2 : Ss := (.cons (.ite (.cmp .eq (.var 4) (.con (.int 3))) (.cons (.ret (.con (.str (Str.ofString "none")))) .nil) .nil) b__law_action_t3)
def b__law_action_t1 : Ss := (.cons (.ite (.cmp .lt (.var 4) (.con (.int 3))) (.cons (.ret (.tup (.cons (.con (.str (Str.ofString "code"))) (.cons (.call 102 (.cons (.var 0) .nil)) .nil)))) .nil) .nil) b__law_action_t2)
def b__law_action : Ss := (.cons (.asg (.nm (.slot 4)) (.call 101 (.cons (.var 0) (.cons (.con (.int 12)) .nil)))) b__law_action_t1)
def f__law_action : Fn := ⟨4, 7, [true], false, b__law_action⟩

/-! _law_layout: 0=_law_reel_here 1=_law_layers 2=_law_keys 3=_law_longest 4=_law_found 5=_law_layer 6=.0 7=_law_key -/
def b__law_layout_1 : Ex := (.call 103 (.cons (.var 0) (.cons (.var 5) (.cons (.var 1) (.cons (.var 3) .nil)))))
def b__law_layout_0 : Ss := (.cons (.ex (.mth .append (.var 4) (.cons (.comp false [6, 7] (.slot 7) (.rng1 (.var 2)) .nil b__law_layout_1) .nil))) .nil)
def b__law_layout_t2 : Ss := (.cons (.ret (.var 4)) .nil)
def b__law_layout_t1 : Ss := (.cons (.for_ (.slot 5) (.rng1 (.var 1)) b__law_layout_0) b__law_layout_t2)
def b__law_layout : Ss := (.cons (.asg (.nm (.slot 4)) (.lst true .nil)) b__law_layout_t1)
def f__law_layout : Fn := ⟨4, 8, [true], true, b__law_layout⟩

def RS (n : Nat) (o : LO) : Prop := ∃ a b c : Int, o = .lst [.int a, .int b, .int c] ∧ 0 ≤ a ∧ 0 ≤ b ∧ b < 2 ^ 200 ∧ 0 ≤ c ∧ c ≤ n
theorem RS_mono {n m : Nat} {o : LO} (h : RS n o) (hm : n ≤ m) : RS m o := by
  obtain ⟨a, b, c, h1, h2, h3, h4, h5, h6⟩ := h
  exact ⟨a, b, c, h1, h2, h3, h4, h5, by omega⟩
/-- a draw: the drawn list at p changes, no other live object does -/
def Draws (T : Tab) (f k0 : Nat) (args : List D) (b : Nat) (post : D → Prop) : Prop :=
  ∀ k, k0 ≤ k → ∀ (L : Live) (p : Nat), p < L.length → ∀ (m : Nat) (o : LO), m + b ≤ 10 ^ 9 → RS m o →
    ∃ r o', (T.cx k).φ f (.ref p :: args) (L.set p o) = .ok r (L.set p o') ∧ RS (m + b) o' ∧ post r
theorem callW_draw {T : Tab} {f : Nat} {d : Fn} (h : T.fn f = some d) (hd : d.liv = [true]) {k p : Nat} {args : List D} {L : Live} (hn : noRefs args = true) : callW (T.cx k) f (.ref p :: args) L = (T.cx k).φ f (.ref p :: args) L := by
  refine callW_nil ?_
  rw [liv_of h, hd]
  simp only [idsAs, List.headD_cons, if_true, List.nil_append, List.tail_cons]
  exact idsAs_noRef L _ _ hn
theorem Draws.call {T : Tab} {f k0 b k : Nat} {args : List D} {post : D → Prop} {d : Fn} (D : Draws T f k0 args b post) (h : T.fn f = some d) (hd : d.liv = [true]) (hn : noRefs args = true) (hk : k0 ≤ k) {L : Live} {p : Nat} (hp : p < L.length) {m : Nat} {o : LO} (hm : m + b ≤ 10 ^ 9) (ho : RS m o) :
    ∃ r o', callW (T.cx k) f (.ref p :: args) (L.set p o) = .ok r (L.set p o') ∧ RS (m + b) o' ∧ post r := by
  obtain ⟨r, o', e, h1, h2⟩ := D k hk L p hp m o hm ho
  exact ⟨r, o', by rw [callW_draw h hd hn, e], h1, h2⟩
theorem mixed {c : Cxt} {E : Ev} {L : Live} {A B M : Ex} {a b m n : Int} (hA : evE c A E L = .ok (.int a) L) (hB : evE c B E L = .ok (.int b) L) (hM : evE c M E L = .ok (.int m) L) (hp : powOk (a + b) n = true) (hm : 0 < m) :
    evE c (.bin .mod false (.bin .pow false (.bin .add false A B) (.con (.int n))) M) E L = .ok (.int ((a + b) ^ n.toNat % m)) L := by
  simp only [evE, hA, hB, hM, Res.bind_ok, bAdd, bPow _ _ _ _ hp, bMod _ _ _ _ hm, opt]
section
variable {T : Tab} [HasFn T 101 f__law_spin]
theorem s_spin (size : Int) (h1 : 1 ≤ size) (h2 : size ≤ 2 ^ 64) : Draws T 101 1 [.int size] 1 fun r => ∃ i : Int, r = .int i ∧ 0 ≤ i ∧ i < size := by
  intro k hk L p hp n o hn ho
  obtain ⟨k, rfl⟩ : ∃ m, k = m + 1 := ⟨k - 1, by omega⟩
  obtain ⟨a, b, c, rfl, ha, hb, hb2, hc, hc2⟩ := ho
  have hd := div_ok (j := size) (by omega) (by omega)
  have ix : ∀ (l : List D) (i : Int), idxD (.ref p) (.int i) (L.set p (.lst l)) = atI l i := fun l i => by simp [idxD, seqOf, lstOf, hp, idxSeq]
  have ne : size ≠ 0 := by omega
  have pos : 0 < size := by omega
  rw [goH 101 rfl rfl]
  show ∃ r o', resOf (evSs (T.cx k) b__law_spin [some (.ref p), some (.int size), none, none] _) = _ ∧ _
  by_cases h0 : 0 < a
  · refine ⟨.int (a % size), .lst [.int (a / size), .int b, .int c], ?_, ⟨_, _, _, rfl, Int.ediv_nonneg ha (by omega), hb, hb2, hc, by omega⟩, _, rfl, Int.emod_nonneg _ ne, Int.emod_lt_of_pos _ pos⟩
    have sd : setD (.ref p) (.int 0) (.int (a / size)) (L.set p (.lst [.int a, .int b, .int c])) = some (L.set p (.lst [.int (a / size), .int b, .int c])) := by
      simp [setD, hp, ixN]
    simp [evSs, evS, evE, evT, resOf, optV, opt, truD, storeT, storeG, b__law_spin, ix, atI, ixN, cmpD, ordI, h0, bMod _ _ _ _ pos, bDiv _ _ _ _ hd, sd]
  · obtain ⟨M1, hM1, hE1⟩ := e_modulus 10 43 57 (by decide)
    obtain ⟨M2, hM2, hE2⟩ := e_modulus 10 40 121 (by decide)
    have f1 : 0 < M1 ∧ M1 < 2 ^ 150 := by rw [hE1]; show (0 : Int) < 10 ^ 43 + 57 ∧ (10 : Int) ^ 43 + 57 < 2 ^ 150; omega
    have f2 : 0 < M2 ∧ M2 < 2 ^ 150 := by rw [hE2]; show (0 : Int) < 10 ^ 40 + 121 ∧ (10 : Int) ^ 40 + 121 < 2 ^ 150; omega
    clear hE1 hE2
    obtain ⟨f1, f1'⟩ := f1
    obtain ⟨f2, f2'⟩ := f2
    have sd : setD (.ref p) (.int 2) (.int (c + 1)) (L.set p (.lst [.int a, .int b, .int c])) = some (L.set p (.lst [.int a, .int b, .int (c + 1)])) := by
      simp [setD, hp, ixN]
    have hc3 : c + 1 ≤ 10 ^ 9 + 1 := by omega
    have m1 : mulOk 49979687 (c + 1) = true := mul_okl (by omega) (by omega)
    have m2 : mulOk 22801763 (c + 1) = true := mul_okl (by omega) (by omega)
    have q1 : powOk (b + 49979687 * (c + 1)) 3 = true := pow_ok (by omega) (by omega) (by omega) (by omega)
    obtain ⟨w, hw⟩ : ∃ w, w = (b + 49979687 * (c + 1)) ^ (3 : Int).toNat % M1 := ⟨_, rfl⟩
    have w1 : 0 ≤ w := by rw [hw]; exact Int.emod_nonneg _ (by omega)
    have w2 : w < M1 := by rw [hw]; exact Int.emod_lt_of_pos _ f1
    have q2 : powOk (w + 22801763 * (c + 1)) 5 = true := pow_ok (by omega) (by omega) (by omega) (by omega)
    have d1 : divOk 524287 = true := div_ok (by omega) (by omega)
    refine ⟨.int ((w + 22801763 * (c + 1)) ^ (5 : Int).toNat % M2 / 524287 % size), .lst [.int a, .int b, .int (c + 1)], ?_, ⟨_, _, _, rfl, ha, hb, hb2, by omega, by omega⟩, _, rfl, Int.emod_nonneg _ ne, Int.emod_lt_of_pos _ pos⟩
    rw [b__law_spin, ss_if_n (L1 := L.set p (.lst [.int a, .int b, .int c])) (by simp [evT, evE, optV, ix, atI, ixN, cmpD, ordI, h0, truD]),
      b__law_spin_t1, ss_set (d := .int (c + 1)) (L1 := L.set p (.lst [.int a, .int b, .int c])) (by simp [evE, optV, opt, ix, atI, ixN, bAdd]) (x := .ref p) (L2 := L.set p (.lst [.int a, .int b, .int c])) (by simp [evE]) (y := .int 2) (L3 := L.set p (.lst [.int a, .int b, .int c])) (by simp [evE]) sd,
      b__law_spin_t2, ss_asg (d := .int w) (L1 := L.set p (.lst [.int a, .int b, .int (c + 1)])) (by rw [hw]; exact mixed (by simp [evE, optV, ix, atI, ixN]) (by simp [evE, opt, optV, ix, atI, ixN, bMul _ _ _ _ m1]) (hM1 _ _ _) q1 f1) rfl,
      b__law_spin_t3, ss_asg (d := .int ((w + 22801763 * (c + 1)) ^ (5 : Int).toNat % M2)) (L1 := L.set p (.lst [.int a, .int b, .int (c + 1)])) (mixed (by simp [evE]) (by simp [evE, opt, optV, ix, atI, ixN, bMul _ _ _ _ m2]) (hM2 _ _ _) q2 f2) rfl,
      b__law_spin_t4, ss_ret (d := .int ((w + 22801763 * (c + 1)) ^ (5 : Int).toNat % M2 / 524287 % size)) (L1 := L.set p (.lst [.int a, .int b, .int (c + 1)])) (by simp [evE, opt, Res.bind, bDiv _ _ _ _ d1, bMod _ _ _ _ pos])]
    simp only [resOf]
/-- a draw of a number -/
theorem spin {k : Nat} (hk : 1 ≤ k) {L : Live} {p : Nat} (hp : p < L.length) {m : Nat} {o : LO} (hm : m + 1 ≤ 10 ^ 9) (ho : RS m o) (size : Int) (h1 : 1 ≤ size := by omega) (h2 : size ≤ 2 ^ 64 := by omega) :
    ∃ (i : Int) (o' : LO), callW (T.cx k) 101 [.ref p, .int size] (L.set p o) = .ok (.int i) (L.set p o') ∧ RS (m + 1) o' ∧ 0 ≤ i ∧ i < size := by
  obtain ⟨r, o', e, h1, i, rfl, h2, h3⟩ := (s_spin (T := T) size h1 h2).call (HasFn.h (f := 101) (d := f__law_spin)) rfl rfl hk hp hm ho
  exact ⟨i, o', e, h1, h2, h3⟩

/-! ### lists -/
theorem atI_mem {α : Type} {xs : List α} {i : Int} (h0 : 0 ≤ i) (h : i < xs.length) : ∃ x, atI xs i = some x ∧ x ∈ xs := by
  obtain ⟨n, rfl⟩ := Int.eq_ofNat_of_zero_le h0
  have hn : n < xs.length := by omega
  exact ⟨xs[n], atI_nat (List.getElem?_eq_getElem hn), List.getElem_mem hn⟩
def codeB : D → Bool
  | .str s => decide (1 ≤ s.length) && decide (s.length ≤ 8) && s.cps.toList.all fun c => decide (c ∈ SIGNS.cps.toList)
  | _ => false
theorem codeB_ok {d : D} (h : codeB d = true) : ∃ s, d = .str s ∧ isCode s := by
  cases d <;> simp only [codeB, Bool.false_eq_true] at h
  rename_i s
  simp only [Bool.and_eq_true, decide_eq_true_eq, List.all_eq_true] at h
  exact ⟨s, rfl, h.1.1, h.1.2, fun c hc => h.2 c hc⟩
/-- a comprehension whose turns draw -/
theorem compL_draws {g : Tg} {E : Ev} {e : Ev → Live → Res D} {ds : List D} {L : Live} {p b : Nat} {post : D → Prop} (hz : ds.length ≤ sizeLine)
    (hs : ∀ d ∈ ds, ∀ m o, m + b ≤ 10 ^ 9 → RS m o → ∃ E' r o', storeG g d E = some E' ∧ e E' (L.set p o) = .ok r (L.set p o') ∧ RS (m + b) o' ∧ post r) {m : Nat} {o : LO} (hm : m + b * ds.length ≤ 10 ^ 9) (ho : RS m o) :
    ∃ rs o', compL [] g E (fun _ L' => .ok true L') e ds [] (L.set p o) = .ok rs (L.set p o') ∧ RS (m + b * ds.length) o' ∧ rs.length = ds.length ∧ ∀ r ∈ rs, post r := by
  obtain ⟨acc', L', h1, o', h2, h3, h4, h5⟩ := compL_run (w := []) (g := g) (E := E) (c := fun _ L' => .ok true L') (e := e) (ds := ds)
    (fun i acc L' => ∃ o', L' = L.set p o' ∧ RS (m + b * i) o' ∧ acc.length = i ∧ ∀ r ∈ acc, post r) (fun _ _ _ _ => rfl) (fun i acc L' hi h => by
      obtain ⟨o1, rfl, h2, h3, h4⟩ := h
      have hb : b * (i + 1) ≤ b * ds.length := Nat.mul_le_mul_left b hi
      have hb2 : b * (i + 1) = b * i + b := Nat.mul_succ b i
      obtain ⟨E', r, o2, q1, q2, q3, q4⟩ := hs ds[i] (List.getElem_mem hi) (m + b * i) o1 (by omega) h2
      refine ⟨E', q1, .inr ⟨_, r, _, rfl, q2, by omega, o2, rfl, by rw [hb2, ← Nat.add_assoc]; exact q3, by simp [h3], ?_⟩⟩
      intro x hx
      rcases List.mem_append.mp hx with hx | hx
      · exact h4 x hx
      · rw [List.mem_singleton.mp hx]; exact q4) (acc := []) (L := L.set p o) ⟨o, rfl, by simpa using ho, rfl, by simp⟩
  exact ⟨acc', o', by rw [h1, h2], h3, h4, h5⟩
def aCodes : List D := ["a", "b", "x", "1", "esc", "none", "through", "press", "tap", "hold", "code", "layer", "q9", "zzzzzzzz", "00000000", "0", "lock", "once", "dual", "release", "down", "up"].map fun s => .str (Str.ofString s)
theorem aCodes_ok : aCodes.all codeB = true := by decide +kernel
theorem sign_codes {ds : List D} (h : ∀ d ∈ ds, ∃ c : Nat, d = .str ⟨#[c]⟩ ∧ c ∈ SIGNS.cps.toList) : ∃ ys : List Str, strsOf ds = some ys ∧ ys.length = ds.length ∧ (∀ y ∈ ys, y.length = 1) ∧ ∀ c ∈ (Str.join (Str.ofString "") ys).cps.toList, c ∈ SIGNS.cps.toList := by
  induction ds with
  | nil => exact ⟨[], rfl, rfl, by simp, fun c hc => by simp [Str.join, Str.empty] at hc⟩
  | cons d ds ih =>
    obtain ⟨c, rfl, hc⟩ := h d List.mem_cons_self
    obtain ⟨ys, h1, h2, h3, h4⟩ := ih fun d hd => h d (List.mem_cons_of_mem _ hd)
    refine ⟨⟨#[c]⟩ :: ys, by simp [strsOf, h1], by simp [h2], ?_, ?_⟩
    · intro y hy
      rcases List.mem_cons.mp hy with rfl | hy
      · rfl
      · exact h3 y hy
    · cases ys with
      | nil =>
        intro x hx
        simp [Str.join] at hx
        rw [hx]; exact hc
      | cons y r =>
        intro x hx
        have e : Str.join (Str.ofString "") (⟨#[c]⟩ :: y :: r) = ⟨#[c]⟩ ++ Str.ofString "" ++ Str.join (Str.ofString "") (y :: r) := rfl
        rw [e] at hx
        have e2 : ((⟨#[c]⟩ : Str) ++ Str.ofString "" ++ Str.join (Str.ofString "") (y :: r)).cps.toList = c :: (Str.join (Str.ofString "") (y :: r)).cps.toList := by
          show ((#[c] ++ (Str.ofString "").cps) ++ _).toList = _
          rw [show (Str.ofString "").cps = #[] by decide]
          simp
        rw [e2] at hx
        rcases List.mem_cons.mp hx with rfl | hx
        · exact hc
        · exact h4 x hx
theorem sum_ones {ys : List Str} (h : ∀ y ∈ ys, y.length = 1) : (ys.map (·.length)).sum = ys.length := by
  induction ys with
  | nil => rfl
  | cons y ys ih => simp [h y List.mem_cons_self, ih fun z hz => h z (List.mem_cons_of_mem _ hz)]; omega
variable [HasFn T 102 f__law_code]
theorem s_code : Draws T 102 2 [] 10 fun r => ∃ s, r = .str s ∧ isCode s := by
  intro k hk L p hp m o hm ho
  obtain ⟨k, rfl⟩ : ∃ m, k = m + 1 := ⟨k - 1, by omega⟩
  rw [goH 102 rfl rfl]
  have q22 : MP.sizeOk 22 = true := sizeOk_small (by omega)
  have q14 : MP.sizeOk 14 = true := sizeOk_small (by omega)
  have q8 : MP.sizeOk 8 = true := sizeOk_small (by omega)
  have q2 : MP.sizeOk 2 = true := sizeOk_small (by omega)
  obtain ⟨w, o1, e1, r1, w0, w1⟩ := spin (T := T) (k := k) (by omega) hp (by omega) ho 27
  by_cases h : w < 22
  · obtain ⟨d, hd, hm⟩ := atI_mem (xs := aCodes) w0 (by simpa [aCodes] using h)
    obtain ⟨s, rfl, hs⟩ := codeB_ok (List.all_eq_true.mp aCodes_ok _ hm)
    refine ⟨_, o1, ?_, RS_mono r1 (by omega), s, rfl, hs⟩
    simp only [aCodes, List.map_cons, List.map_nil] at hd
    simp [runF, runB, startE, evSs, evS, evE, evA, evC, evI, evT, resOf, optV, opt, truD, storeT, storeG, storeGs, f__law_code, b__law_code, b__law_code_t1, b__law_code_t2, b__law_code_t3, b__law_code_t4, b__law_code_t5, newL, q22, q14, q8, binD, lstOf, binL, e1, cmpD, ordI, h, idxD, seqOf, idxSeq, hd]
  · obtain ⟨n, o2, e2, r2, n0, n1⟩ := spin (T := T) (k := k) (by omega) hp (by omega) r1 8
    have hl : (Str.ofString "abcdefghijklmnopqrstuvwxyz0123456789") = SIGNS := rfl
    have key := compL_draws (g := .slot 6) (E := [some (.ref p), some (.lst 0 aCodes), some (.int w), some (.int (1 + n)), some (.str SIGNS), none, none]) (e := fun E' L' => evE (T.cx k) b__law_code_0 E' L') (ds := (List.range (1 + n).toNat).map fun q => D.int (q : Nat)) (L := L) (p := p) (b := 1) (post := fun d => ∃ c : Nat, d = .str ⟨#[c]⟩ ∧ c ∈ SIGNS.cps.toList)
      (by rw [List.length_map, List.length_range]; exact small_line (by omega)) (fun d hd m' o' hm' ho' => ?_) (m := m + 1 + 1) (o := o2) (by simp; omega) r2
    · obtain ⟨rs, o3, e3, r3, l3, p3⟩ := key
      obtain ⟨ys, y1, y2, y3, y4⟩ := sign_codes p3
      have ly : ys.length = (1 + n).toNat := by rw [y2, l3]; simp
      have hz : (Str.ofString "").length = 0 := by decide
      have hj : Txt.join (Str.ofString "") ys = Str.join (Str.ofString "") ys := StrLaws.glued_eq_join _ _
      have hlen : (Str.join (Str.ofString "") ys).length ≤ (1 + n).toNat := by
        have := StrLaws.join_length_le (Str.ofString "") ys
        rw [sum_ones y3, hz] at this
        omega
      have hlen2 : (Str.join (Str.ofString "") ys).length = ys.length := by rw [← hj]; exact PySem.W.KT.join_ones ys y3
      refine ⟨_, o3, ?_, RS_mono r3 (by simp; omega), Txt.join (Str.ofString "") ys, rfl, ?_⟩
      · have hr : rng1D (.int (1 + n)) = some ((List.range (1 + n).toNat).map fun q => D.int (q : Nat)) := by
          simp only [rng1D]; rw [if_pos]; simp only [Bool.and_eq_true, decide_eq_true_eq]; omega
        have hsz : (ys.map (·.length)).sum + ys.length * (Str.ofString "").length ≤ 16777216 := by rw [sum_ones y3, hz]; omega
        simp only [aCodes, List.map_cons, List.map_nil] at e3
        simp [runF, runB, startE, evSs, evS, evE, evA, evC, evI, evT, resOf, optV, opt, truD, storeT, storeG, storeGs, f__law_code, b__law_code, b__law_code_t1, b__law_code_t2, b__law_code_t3, b__law_code_t4, b__law_code_t5, newL, q22, q14, q8, q2, binD, lstOf, binL, e1, e2, cmpD, ordI, h, wipeE, hl, hr, e3, mthTy, mthD, seqOf, y1, hsz]
      · rw [hj]
        exact ⟨by omega, by omega, y4⟩
    · obtain ⟨q, hq, rfl⟩ := List.mem_map.mp hd
      obtain ⟨i, o4, e4, r4, i0, i1⟩ := spin (T := T) (k := k) (by omega) hp hm' ho' 36
      have hs : SIGNS.cps.toList.length = 36 := by decide
      obtain ⟨c, c1, c2⟩ := atI_mem (xs := SIGNS.cps.toList) i0 (by rw [hs]; omega)
      have hz : MP.sizeOk SIGNS.length = true := sizeOk_small (by decide)
      refine ⟨_, .str ⟨#[c]⟩, o4, rfl, ?_, r4, c, rfl, c2⟩
      simp [evE, evA, b__law_code_0, e4, idxD, idxStr, hz, c1, optV]

/-- a draw of a code -/
theorem drawC {k : Nat} (hk : 2 ≤ k) {L : Live} {p : Nat} (hp : p < L.length) {m : Nat} {o : LO} (hm : m + 10 ≤ 10 ^ 9) (ho : RS m o) :
    ∃ (s : Str) (o' : LO), callW (T.cx k) 102 [.ref p] (L.set p o) = .ok (.str s) (L.set p o') ∧ RS (m + 10) o' ∧ isCode s := by
  obtain ⟨r, o', e, h1, s, rfl, h2⟩ := (s_code (T := T)).call (HasFn.h (f := 102) (d := f__law_code)) rfl rfl hk hp hm ho
  exact ⟨s, o', e, h1, h2⟩
variable [HasFn T 103 f__law_action]
theorem s_law_action (layer layers longest : Int) (h0 : 0 ≤ layer) (h1 : 1 ≤ layers) (h2 : layers ≤ 6) (h3 : 1 ≤ longest) (h4 : longest ≤ 10 ^ 9) :
    Draws T 103 3 [.int layer, .int layers, .int longest] 40 fun r => ∃ a : Act, r = a.enc ∧ a.ok layer layers := by
  intro k hk L p hp m o hm ho
  obtain ⟨k, rfl⟩ : ∃ m, k = m + 1 := ⟨k - 1, by omega⟩
  rw [goH 103 rfl rfl]
  have q2 : MP.sizeOk 2 = true := sizeOk_small (by omega)
  have q3 : MP.sizeOk 3 = true := sizeOk_small (by omega)
  have q5 : MP.sizeOk 5 = true := sizeOk_small (by omega)
  obtain ⟨w, o1, e1, r1, w0, w1⟩ := spin (T := T) (k := k) (by omega) hp (by omega) ho 12
  by_cases c1 : w < 3
  · obtain ⟨s, o2, e2, r2, hs⟩ := drawC (T := T) (k := k) (by omega) hp (by omega) r1
    refine ⟨_, o2, ?_, RS_mono r2 (by omega), .code s, rfl, hs⟩
    simp [runF, runB, startE, evSs, evS, evE, evA, evC, evI, evT, resOf, optV, opt, truD, storeT, storeG, storeGs, f__law_action, b__law_action, b__law_action_t1, b__law_action_t2, b__law_action_t3, b__law_action_t4, b__law_action_t5, b__law_action_t6, b__law_action_t7, b__law_action_t8, e1, cmpD, ordI, c1, e2, q2, Act.enc, S]
  by_cases c2 : w = 3
  · refine ⟨_, o1, ?_, RS_mono r1 (by omega), .none, rfl, trivial⟩
    simp [runF, runB, startE, evSs, evS, evE, evA, evC, evI, evT, resOf, optV, opt, truD, storeT, storeG, storeGs, f__law_action, b__law_action, b__law_action_t1, b__law_action_t2, b__law_action_t3, b__law_action_t4, b__law_action_t5, b__law_action_t6, b__law_action_t7, b__law_action_t8, e1, cmpD, ordI, c1, c2, eqD, scal2, eqS, Act.enc, S]
    all_goals (subst c2; simp [e1, cmpD, ordI])
  by_cases c3 : w < 6 ∧ 0 < layer
  · refine ⟨_, o1, ?_, RS_mono r1 (by omega), .through, rfl, c3.2⟩
    simp [runF, runB, startE, evSs, evS, evE, evA, evC, evI, evT, resOf, optV, opt, truD, storeT, storeG, storeGs, f__law_action, b__law_action, b__law_action_t1, b__law_action_t2, b__law_action_t3, b__law_action_t4, b__law_action_t5, b__law_action_t6, b__law_action_t7, b__law_action_t8, e1, cmpD, ordI, c1, c2, c3.1, c3.2, eqD, scal2, eqS, Act.enc, S]
  by_cases c4 : w < 8 ∧ 1 < layers
  · obtain ⟨x, o2, e2, r2, x0, x1⟩ := spin (T := T) (k := k) (by omega) hp (by omega) r1 3
    obtain ⟨y, o3, e3, r3, y0, y1⟩ := spin (T := T) (k := k) (by omega) hp (by omega) r2 (layers - 1)
    have hx : x = 0 ∨ x = 1 ∨ x = 2 := by omega
    have c3' : ¬ w < 6 ∨ (w < 6 ∧ ¬ 0 < layer) := by omega
    refine ⟨_, o3, ?_, RS_mono r3 (by omega), (if x = 0 then Act.layer (1 + y) else if x = 1 then .lock (1 + y) else .once (1 + y)), rfl, ?_⟩
    · rcases c3' with c3' | ⟨c5, c3'⟩ <;> rcases hx with rfl | rfl | rfl <;>
        simp [*, runF, runB, startE, evSs, evS, evE, evA, evC, evI, evT, resOf, optV, opt, truD, storeT, storeG, storeGs, f__law_action, b__law_action, b__law_action_t1, b__law_action_t2, b__law_action_t3, b__law_action_t4, b__law_action_t5, b__law_action_t6, b__law_action_t7, b__law_action_t8, cmpD, ordI, c4.1, c4.2, eqD, scal2, eqS, newL, q3, q2, e2, e3, binD, idxD, seqOf, lstOf, idxSeq, atI, ixN, Act.enc, S]
    · rcases hx with rfl | rfl | rfl <;> simp [Act.ok] <;> omega
  have c3' : ¬ w < 6 ∨ (w < 6 ∧ ¬ 0 < layer) := by omega
  have c4' : ¬ w < 8 ∨ (w < 8 ∧ ¬ 1 < layers) := by omega
  obtain ⟨s, o2, e2, r2, hs⟩ := drawC (T := T) (k := k) (by omega) hp (by omega) r1
  -- the hold
  have hold : ∃ (h : Hold) (o3 : LO), RS (m + 1 + 10 + 2) o3 ∧ h.ok layers ∧ evSs (T.cx k) b__law_action_t6
      [some (.ref p), some (.int layer), some (.int layers), some (.int longest), some (.int w), some (.tup [S "code", .str s]), none] (L.set p o2) = evSs (T.cx k) b__law_action_t7 [some (.ref p), some (.int layer), some (.int layers), some (.int longest), some (.int w), some h.enc, none] (L.set p o3) := by
    by_cases d1 : 1 < layers
    · obtain ⟨x, o3, e3, r3, x0, x1⟩ := spin (T := T) (k := k) (by omega) hp (by omega) r2 3
      by_cases d2 : 0 < x
      · obtain ⟨y, o4, e4, r4, y0, y1⟩ := spin (T := T) (k := k) (by omega) hp (by omega) r3 (layers - 1)
        refine ⟨.layer (1 + y), o4, r4, by simp [Hold.ok]; omega, ?_⟩
        simp [runF, runB, startE, evSs, evS, evE, evA, evC, evI, evT, resOf, optV, opt, truD, storeT, storeG, storeGs, b__law_action_t6, cmpD, ordI, d1, d2, e3, e4, binD, q2, Hold.enc, S]
      · refine ⟨.code s, o3, RS_mono r3 (by omega), hs, ?_⟩
        simp [runF, runB, startE, evSs, evS, evE, evA, evC, evI, evT, resOf, optV, opt, truD, storeT, storeG, storeGs, b__law_action_t6, cmpD, ordI, d1, d2, e3, binD, q2, Hold.enc, S]
    · refine ⟨.code s, o2, RS_mono r2 (by omega), hs, ?_⟩
      simp [runF, runB, startE, evSs, evS, evE, evA, evC, evI, evT, resOf, optV, opt, truD, storeT, storeG, storeGs, b__law_action_t6, cmpD, ordI, d1, binD, q2, Hold.enc, S]
  obtain ⟨h, o3, r3, hh, e3⟩ := hold
  have hmin : 1 ≤ min 4 longest ∧ min 4 longest ≤ 4 := by omega
  obtain ⟨t1, o4, e4, r4, t10, t11⟩ := spin (T := T) (k := k) (by omega) hp (by omega) r3 (min 4 longest)
  obtain ⟨t2, o5, e5, r5, t20, t21⟩ := spin (T := T) (k := k) (by omega) hp (by omega) r4 longest
  obtain ⟨t3, o6, e6, r6, t30, t31⟩ := spin (T := T) (k := k) (by omega) hp (by omega) r5 3
  obtain ⟨c, o7, e7, r7, hc⟩ := drawC (T := T) (k := k) (by omega) hp (by omega) r6
  obtain ⟨u, o8, e8, r8, u0, u1⟩ := spin (T := T) (k := k) (by omega) hp (by omega) r7 3
  have ht3 : t3 = 0 ∨ t3 = 1 ∨ t3 = 2 := by omega
  have hu : u = 0 ∨ u = 1 ∨ u = 2 := by omega
  obtain ⟨t, ht, ht1, ht2⟩ : ∃ t : Int, atI [D.int (1 + t1), .int (1 + t2), .int longest] t3 = some (.int t) ∧ 1 ≤ t ∧ t ≤ 1000000000 := by
    rcases ht3 with rfl | rfl | rfl
    · exact ⟨_, rfl, by omega, by omega⟩
    · exact ⟨_, rfl, by omega, by omega⟩
    · exact ⟨_, rfl, by omega, by omega⟩
  obtain ⟨ru, hr, hr1⟩ : ∃ ru : Str, atI [D.str (Str.ofString "time"), .str (Str.ofString "other"), .str (Str.ofString "within")] u = some (.str ru) ∧ isRule ru := by
    rcases hu with rfl | rfl | rfl
    · exact ⟨_, rfl, .inl rfl⟩
    · exact ⟨_, rfl, .inr (.inl rfl)⟩
    · exact ⟨_, rfl, .inr (.inr rfl)⟩
  have hm4 : bltD .min false [.int 4, .int longest] (L.set p o3) = some (.int (min 4 longest), L.set p o3) := by
    simp only [bltD]
    congr 3
    rw [Int.min_def]
    split <;> split <;> omega
  refine ⟨_, o8, ?_, RS_mono r8 (by omega), .dual c h t ru, rfl, hc, hh, ht1, ht2, hr1⟩
  have pre : evSs (T.cx k) b__law_action [some (.ref p), some (.int layer), some (.int layers), some (.int longest), none, none, none] (L.set p o) = evSs (T.cx k) b__law_action_t6 [some (.ref p), some (.int layer), some (.int layers), some (.int longest), some (.int w), some (.tup [S "code", .str s]), none] (L.set p o2) := by
    rcases c3' with c3' | ⟨c5, c3'⟩ <;> rcases c4' with c4' | ⟨c6, c4'⟩ <;>
      simp [*, runF, runB, startE, evSs, evS, evE, evA, evC, evI, evT, resOf, optV, opt, truD, storeT, storeG, storeGs, b__law_action, b__law_action_t1, b__law_action_t2, b__law_action_t3, b__law_action_t4, b__law_action_t5, cmpD, ordI, eqD, scal2, eqS, S]
  simp only [startE, f__law_action, List.map_cons, List.map_nil, List.length_cons, List.length_nil]
  show resOf (evSs (T.cx k) b__law_action [some (.ref p), some (.int layer), some (.int layers), some (.int longest), none, none, none] (L.set p o)) = _
  rw [pre, e3]
  simp [runF, runB, startE, evSs, evS, evE, evA, evC, evI, evT, resOf, optV, opt, truD, storeT, storeG, storeGs, b__law_action_t7, b__law_action_t8, cmpD, ordI, q2, hm4, binD, e4, e5, newL, q3, e6, idxD, seqOf, lstOf, idxSeq, ht, e7, e8, hr, q5, Act.enc, S]

theorem cutL_gen (n : Nat) (M : Live) : ∀ {L L' : Live}, (∀ i : Nat, i < L.length → ∃ u, L'[i]? = some u ∧ (L[i]? = some u ∨ fzO n M u = some u)) → cutL n M L L' = some (L'.take L.length)
  | [], L', h => by simp [cutL]
  | o :: L, [], h => by obtain ⟨u, h, _⟩ := h 0 (by simp); simp at h
  | o :: L, o' :: L', h => by
    obtain ⟨u, h0, h1⟩ := h 0 (by simp)
    simp at h0
    subst h0
    have ih := cutL_gen n M (L := L) (L' := L') fun i hi => by
      obtain ⟨u, h2, h3⟩ := h (i + 1) (by simp; omega)
      exact ⟨u, by simpa using h2, by simpa using h3⟩
    have e : (if o' = o then some o else fzO n M o') = some o' := by
      split
      · rename_i e; rw [e]
      · rename_i ne
        rcases h1 with h1 | h1
        · exact absurd (by simpa using h1.symm) ne
        · exact h1
    simp [cutL, e, ih]
theorem RS_fz {m n : Nat} {o : LO} (h : RS m o) (M : Live) : fzO n M o = some o := by
  obtain ⟨a, b, c, rfl, _⟩ := h
  simp [fzO, mapO, fzF, okB]
/-- behind a clean call that has drawn -/
theorem cutL_draw {n m p : Nat} {L X M : Live} {o o' : LO} (hp : p < L.length) (ho : RS m o') : cutL n M (L.set p o) (L.set p o' ++ X) = some (L.set p o') := by
  rw [cutL_gen n M (fun i hi => ?_)]
  · congr 1
    rw [List.length_set, List.take_append_of_le_length (by simp)]
    exact List.take_of_length_le (by simp)
  · have hi' : i < L.length := by simpa using hi
    rw [List.getElem?_append_left (by simpa using hi')]
    by_cases e : i = p
    · subst e
      exact ⟨o', List.getElem?_set_self hi', .inr (RS_fz ho M)⟩
    · refine ⟨L[i], by rw [List.getElem?_set_ne (fun z => e z.symm)]; exact List.getElem?_eq_getElem hi', .inl ?_⟩
      rw [List.getElem?_set_ne (fun z => e z.symm)]; exact List.getElem?_eq_getElem hi'
theorem drawA {k : Nat} (hk : 3 ≤ k) {L : Live} {p : Nat} (hp : p < L.length) {m : Nat} {o : LO} (hm : m + 40 ≤ 10 ^ 9) (ho : RS m o) (layer layers longest : Int) (h0 : 0 ≤ layer) (h1 : 1 ≤ layers) (h2 : layers ≤ 6) (h3 : 1 ≤ longest) (h4 : longest ≤ 10 ^ 9) :
    ∃ (a : Act) (o' : LO), callW (T.cx k) 103 [.ref p, .int layer, .int layers, .int longest] (L.set p o) = .ok a.enc (L.set p o') ∧ RS (m + 40) o' ∧ a.ok layer layers := by
  obtain ⟨r, o', e, h1, a, rfl, h2⟩ := (s_law_action (T := T) layer layers longest h0 h1 h2 h3 h4).call (HasFn.h (f := 103) (d := f__law_action)) rfl rfl hk hp hm ho
  exact ⟨a, o', e, h1, h2⟩
theorem acts_of {rs : List D} {P : Act → Prop} (h : ∀ r ∈ rs, ∃ a : Act, r = a.enc ∧ P a) : ∃ l : List Act, rs = l.map Act.enc ∧ ∀ a ∈ l, P a := by
  induction rs with
  | nil => exact ⟨[], rfl, by simp⟩
  | cons r rs ih =>
    obtain ⟨a, rfl, ha⟩ := h r List.mem_cons_self
    obtain ⟨l, rfl, hl⟩ := ih fun x hx => h x (List.mem_cons_of_mem _ hx)
    refine ⟨a :: l, rfl, fun x hx => ?_⟩
    rcases List.mem_cons.mp hx with rfl | hx
    · exact ha
    · exact hl x hx
theorem rng1_get {n : Nat} {i : Nat} (h : i < ((List.range n).map fun q => D.int (q : Nat)).length) : ((List.range n).map fun q => D.int (q : Nat))[i] = .int i := by simp
theorem rng1_nat {n : Int} (h : 0 ≤ n) (h2 : n ≤ 1000000) : rng1D (.int n) = some ((List.range n.toNat).map fun q => D.int (q : Nat)) := by
  simp only [rng1D]; rw [if_pos]; simp only [Bool.and_eq_true, decide_eq_true_eq]; omega
variable [HasFn T 104 f__law_layout]
theorem s_law_layout (layers keys longest : Int) (h1 : 1 ≤ layers) (h2 : layers ≤ 6) (k1 : 1 ≤ keys) (k2 : keys ≤ 16) (h3 : 1 ≤ longest) (h4 : longest ≤ 10 ^ 9) :
    Draws T 104 4 [.int layers, .int keys, .int longest] 3840 fun r => ∃ lay : Lay, r = encL τ0 lay ∧ LayOk lay keys.toNat ∧ (lay.length : Int) = layers := by
  intro k hk L p hp m o hm ho
  obtain ⟨k, rfl⟩ : ∃ m, k = m + 1 := ⟨k - 1, by omega⟩
  have z0 : MP.sizeOk 0 = true := sizeOk_small (by omega)
  rw [goCH 104 rfl rfl]
  have lenL : (L.set p o).length = L.length := by simp
  have row : ∀ (i : Nat) (x : Option D) (rows : List (List Act)) (m' : Nat) (o' : LO), m' + 640 ≤ 10 ^ 9 → RS m' o' → ∃ (r : List Act) (o2 : LO),
      compL [] (.slot 7) [some (.ref p), some (.int layers), some (.int keys), some (.int longest), some (.ref L.length), some (.int i), none, none] (fun _ L' => .ok true L') (fun E' L' => evE (T.cx k) b__law_layout_1 E' L') ((List.range keys.toNat).map fun q => D.int (q : Nat)) [] (L.set p o' ++ [.lst (rows.map (encR 0))]) = .ok (r.map Act.enc) (L.set p o2 ++ [.lst (rows.map (encR 0))]) ∧ RS (m' + 640) o2 ∧ r.length = keys.toNat ∧ ∀ a ∈ r, a.ok i layers := by
    intro i x rows m' o' hm' ho'
    have hp' : p < (L ++ [LO.lst (rows.map (encR 0))]).length := by simp; omega
    have se : ∀ o, (L ++ [LO.lst (rows.map (encR 0))]).set p o = L.set p o ++ [.lst (rows.map (encR 0))] := fun o => List.set_append_left _ _ hp
    obtain ⟨rs, o2, e, h5, h6, h7⟩ := compL_draws (g := .slot 7) (E := [some (.ref p), some (.int layers), some (.int keys), some (.int longest), some (.ref L.length), some (.int i), none, none]) (e := fun E' L' => evE (T.cx k) b__law_layout_1 E' L') (ds := (List.range keys.toNat).map fun q => D.int (q : Nat)) (L := L ++ [LO.lst (rows.map (encR 0))]) (p := p) (b := 40) (post := fun r => ∃ a : Act, r = a.enc ∧ a.ok i layers)
      (by rw [List.length_map, List.length_range]; exact small_line (by omega)) (fun d hd m2 o2 hm2 ho2 => by
        obtain ⟨a, o3, e3, r3, ha⟩ := drawA (T := T) (k := k) (by omega) hp' hm2 ho2 i layers longest (by omega) h1 h2 h3 h4
        exact ⟨_, a.enc, o3, rfl, by simp [b__law_layout_1, evE, evA, e3], r3, a, rfl, ha⟩) (m := m') (o := o') (by rw [List.length_map, List.length_range]; omega) ho'
    rw [se, se] at e
    obtain ⟨l, rfl, hl⟩ := acts_of h7
    refine ⟨l, o2, e, RS_mono h5 (by rw [List.length_map, List.length_range]; omega), by simpa using h6, hl⟩
  have loop := forL_run (w := []) (g := .slot 5) (b := fun E' L' => evSs (T.cx k) b__law_layout_0 E' L') (ds := (List.range layers.toNat).map fun q => D.int (q : Nat))
    (fun i E' L' => ∃ (o' : LO) (rows : List (List Act)) (x : Option D), E' = [some (.ref p), some (.int layers), some (.int keys), some (.int longest), some (.ref L.length), x, none, none] ∧ L' = L.set p o' ++ [.lst (rows.map (encR 0))] ∧ RS (m + 640 * i) o' ∧ rows.length = i ∧ (∀ r ∈ rows, r.length = keys.toNat) ∧ ∀ (j : Nat) (r : List Act), rows[j]? = some r → ∀ a ∈ r, a.ok j layers)
    (fun _ _ _ _ => rfl) (fun i E' L' hi hP => by
      obtain ⟨o', rows, x, rfl, rfl, h5, h6, h7, h8⟩ := hP
      have hi' : i < layers.toNat := by simpa using hi
      obtain ⟨r, o2, e, h9, h10, h11⟩ := row i x rows (m + 640 * i) o' (by omega) h5
      rw [rng1_get hi]
      have lx : (L.set p o2 ++ [LO.lst (rows.map (encR 0))])[L.length]? = some (.lst (rows.map (encR 0))) := by
        rw [List.getElem?_append_right (by simp)]; simp
      have mt : mthTy .append (L.set p o2 ++ [LO.lst (rows.map (encR 0))]) (.ref L.length) = some .list := by simp only [mthTy, lx]
      have mt0 : mthTy .append (L.set p o' ++ [LO.lst (rows.map (encR 0))]) (.ref L.length) = some .list := by
        have lx : (L.set p o' ++ [LO.lst (rows.map (encR 0))])[L.length]? = some (.lst (rows.map (encR 0))) := by
          rw [List.getElem?_append_right (by simp)]; simp
        simp only [mthTy, lx]
      have md : mthD .append (.ref L.length) [encR 0 r] (L.set p o2 ++ [LO.lst (rows.map (encR 0))]) = some (.non, L.set p o2 ++ [LO.lst ((rows ++ [r]).map (encR 0))]) := by
        simp only [mthD, lx]
        rw [if_pos (decide_eq_true (by rw [List.length_map, h6]; exact Nat.lt_of_lt_of_le (show i < 1000 by omega) (small_line (by omega))))]
        rw [List.set_append_right _ _ (by simp)]
        simp
      refine ⟨_, _, _, rfl, .inl ?_, o2, rows ++ [r], some (.int i), rfl, rfl, RS_mono h9 (by omega), by simp [h6], ?_, ?_⟩
      · simp only [encR] at md
        simp [runF, runB, startE, evSs, evS, evE, evA, evC, evI, evT, resOf, optV, opt, truD, storeT, storeG, storeGs, b__law_layout_0, rng1_nat (n := keys) (by omega) (by omega), wipeE, e, newL, mt, mt0, md]
      · intro r' hr'
        rcases List.mem_append.mp hr' with hr' | hr'
        · exact h7 r' hr'
        · rw [List.mem_singleton.mp hr']; exact h10
      · intro j r' hj a ha
        by_cases hj2 : j < rows.length
        · rw [List.getElem?_append_left hj2] at hj
          exact h8 j r' hj a ha
        · rw [List.getElem?_append_right (by omega)] at hj
          have : j = rows.length := by
            have := (List.getElem?_eq_some_iff.mp hj).1
            simp at this; omega
          subst this
          simp at hj
          subst hj
          rw [h6]
          exact h11 a ha) (E := [some (.ref p), some (.int layers), some (.int keys), some (.int longest), some (.ref L.length), none, none, none]) (L := L.set p o ++ [.lst []])
    ⟨o, [], none, rfl, rfl, ho, rfl, by simp, by simp⟩
  obtain ⟨E', L', e, o', lay, x, rfl, rfl, h5, h6, h7, h8⟩ := loop
  have hl : lay.length = layers.toNat := by rw [h6]; simp
  have ok : LayOk lay keys.toNat := ⟨by omega, by omega, by omega, by omega, h7, fun i r hr a ha => by
    have e : ((lay.length : Nat) : Int) = layers := by omega
    rw [e]
    exact h8 i r hr a ha⟩
  have run : evSs (T.cx k) b__law_layout [some (.ref p), some (.int layers), some (.int keys), some (.int longest), none, none, none, none] (L.set p o) = .fl (.rt (.ref L.length)) [some (.ref p), some (.int layers), some (.int keys), some (.int longest), some (.ref L.length), x, none, none] (L.set p o' ++ [.lst (lay.map (encR 0))]) := by
    simp [runF, runB, startE, evSs, evS, evE, evA, evC, evI, evT, resOf, optV, opt, truD, storeT, storeG, storeGs, b__law_layout, b__law_layout_t1, b__law_layout_t2, z0, newL, rng1_nat (n := layers) (by omega) (by omega), e]
  refine ⟨encL τ0 lay, o', ?_, RS_mono h5 (by simp; omega), lay, rfl, ok, by omega⟩
  show cleanR (L.set p o) (resOf (evSs (T.cx k) b__law_layout [some (.ref p), some (.int layers), some (.int keys), some (.int longest), none, none, none, none] (L.set p o))) = _
  rw [run]
  simp only [resOf, cleanR, lenL]
  have nb : okBs L.length (lay.map (encR 0)) = true := by
    have := okB_noRef L.length _ (lay_noRef τ0 lay) (lay_noTag lay)
    simpa [encL, okB, rowsD_zero] using this
  rw [fz_list (ds := lay.map (encR 0)) (by rw [List.getElem?_append_right (by simp)]; simp) (by omega) nb, cutL_draw hp h5]
  simp only [encL, rowsD_zero]

theorem mixed2 {c : Cxt} {E : Ev} {L : Live} {X Y M1 M2 : Ex} {x y a m1 m2 : Int} (hx : evE c X E L = .ok (.int x) L) (hy : evE c Y E L = .ok (.int y) L) (h1 : evE c M1 E L = .ok (.int m1) L) (h2 : evE c M2 E L = .ok (.int m2) L) (hm : mulOk x a = true) (q1 : 0 < m1) (q2 : 0 < m2) :
    evE c (.bin .mod false (.bin .add false (.bin .mul false X (.con (.int a))) (.bin .mod false Y M1)) M2) E L = .ok (.int ((x * a + y % m1) % m2)) L := by
  simp only [evE, hx, hy, h1, h2, Res.bind_ok, bAdd, bMul _ _ _ _ hm, bMod _ _ _ _ q1, bMod _ _ _ _ q2, opt]
omit [HasFn T 101 f__law_spin] [HasFn T 102 f__law_code] [HasFn T 103 f__law_action] [HasFn T 104 f__law_layout] in
theorem s_reel [HasFn T 100 f__law_reel] (k : Nat) (hk : 1 ≤ k) (ns : List Int) (hl : ns.length ≤ 1000) (idx : Int) (h0 : 0 ≤ idx) (h1 : idx ≤ 1000) (L : Live) :
    ∃ o, (T.cx k).φ 100 [.lst 0 (ns.map D.int), .int idx] L = .ok (.ref L.length) (L ++ [o]) ∧ RS 0 o := by
  obtain ⟨k, rfl⟩ : ∃ m, k = m + 1 := ⟨k - 1, by omega⟩
  rw [goH 100 rfl rfl]
  obtain ⟨M1, hM1, hE1⟩ := e_modulus 10 43 57 (by decide)
  obtain ⟨M2, hM2, hE2⟩ := e_modulus 10 41 37 (by decide)
  obtain ⟨M3, hM3, hE3⟩ := e_power 10 18 (by decide)
  have f1 : 0 < M1 ∧ M1 < 2 ^ 150 := by rw [hE1]; show (0 : Int) < 10 ^ 43 + 57 ∧ (10 : Int) ^ 43 + 57 < 2 ^ 150; omega
  have f2 : 0 < M2 ∧ M2 < 2 ^ 150 := by rw [hE2]; show (0 : Int) < 10 ^ 41 + 37 ∧ (10 : Int) ^ 41 + 37 < 2 ^ 150; omega
  clear hE1 hE2 hE3
  obtain ⟨f1, f1'⟩ := f1
  obtain ⟨f2, f2'⟩ := f2
  have eS : ∀ L : Live, lenD L (.lst 0 (ns.map D.int)) = some (ns.length : Int) := fun L => by simp [lenD, seqOf, lstOf]
  have eI : itemsOf L (.lst 0 (ns.map D.int)) = some (ns.map D.int) := rfl
  have eW : watch L (.lst 0 (ns.map D.int)) = [] := rfl
  have m0 : mulOk 53 idx = true := mul_okl (by omega) (by omega)
  have loop := forL_run (w := []) (g := .slot 3) (b := fun E' L' => evSs (T.cx k) b__law_reel_0 E' L') (ds := ns.map D.int)
    (fun i E' L' => L' = L ∧ ∃ (x : Int) (y : Option D), E' = [some (.lst 0 (ns.map D.int)), some (.int idx), some (.int x), y] ∧ 0 ≤ x ∧ x < 2 ^ 200) (fun _ _ _ _ => rfl) (fun i E' L' hi hP => by
      obtain ⟨rfl, x, y, rfl, x0, x1⟩ := hP
      have e : (ns.map D.int)[i] = .int (ns[i]'(by simpa using hi)) := by simp
      rw [e]
      generalize ns[i]'(by simpa using hi) = z
      have mm : mulOk x 8675311 = true := mul_okr (by omega) (by omega)
      obtain ⟨u, hu⟩ : ∃ u, u = (x * 8675311 + z % M1) % M2 := ⟨_, rfl⟩
      have u0 : 0 ≤ u := by rw [hu]; exact Int.emod_nonneg _ (by omega)
      have u1 : u < M2 := by rw [hu]; exact Int.emod_lt_of_pos _ f2
      refine ⟨_, [some (.lst 0 (ns.map D.int)), some (.int idx), some (.int u), some (.int z)], L', rfl, .inl ?_, rfl, u, some (.int z), rfl, u0, by omega⟩
      show evSs (T.cx k) b__law_reel_0 [some (.lst 0 (ns.map D.int)), some (.int idx), some (.int x), some (.int z)] L' = _
      rw [b__law_reel_0, ss_asg (d := .int u) (L1 := L') (by rw [hu]; exact mixed2 (by simp [evE]) (by simp [evE]) (hM1 _ _ _) (hM2 _ _ _) mm f1 f2) rfl]
      rfl) (E := [some (.lst 0 (ns.map D.int)), some (.int idx), some (.int (60013 + 53 * idx)), none]) (L := L) ⟨rfl, _, none, rfl, by omega, by omega⟩
  obtain ⟨E', L', e, rfl, x, y, rfl, x0, x1⟩ := loop
  -- the cell
  have cell : ∃ z : Int, evE (T.cx k) (.ite (.cmp .lt (.var 1) (.blt .len false (.cons (.var 0) .nil))) (.blt .abs false (.cons (.idx (.var 0) (.var 1)) .nil)) (.con (.int 0))) [some (.lst 0 (ns.map D.int)), some (.int idx), some (.int x), y] L' = .ok (.int z) L' := by
    by_cases c : idx < ns.length
    · obtain ⟨d, hd, hm⟩ := atI_mem (xs := ns.map D.int) h0 (by simpa using c)
      obtain ⟨z, hz, rfl⟩ := List.mem_map.mp hm
      refine ⟨if z < 0 then -z else z, ?_⟩
      simp [evE, evA, bltD, eS, opt, optV, cmpD, ordI, c, truD, idxD, seqOf, lstOf, idxSeq, hd]
    · refine ⟨0, ?_⟩
      simp [evE, evA, bltD, eS, opt, optV, cmpD, ordI, c, truD]
  obtain ⟨z, hz⟩ := cell
  have q3 : MP.sizeOk 3 = true := sizeOk_small (by omega)
  refine ⟨.lst [.int (if z - M3 > 0 then z - M3 else 0), .int x, .int 0], ?_, _, _, _, rfl, by split <;> omega, x0, x1, by omega, by omega⟩
  show resOf (evSs (T.cx k) b__law_reel [some (.lst 0 (ns.map D.int)), some (.int idx), none, none] L') = _
  rw [b__law_reel, ss_asg (E' := [some (.lst 0 (ns.map D.int)), some (.int idx), some (.int (60013 + 53 * idx)), none]) (d := .int (60013 + 53 * idx)) (L1 := L') (by simp [evE, opt, bMul _ _ _ _ m0, bAdd]) rfl]
  rw [b__law_reel_t1, ss_for (w := []) (ds := ns.map D.int) (L1 := L') (by simp [evI, evE, optV, eI, eW]) e]
  rw [b__law_reel_t2, ss_asg (E' := [some (.lst 0 (ns.map D.int)), some (.int idx), some (.int x), some (.int z)]) hz rfl, b__law_reel_t3, ss_ret (d := .ref L'.length) (L1 := L' ++ [.lst [.int (if z - M3 > 0 then z - M3 else 0), .int x, .int 0]])]
  · rfl
  · simp [evE, evA, ↓hM3, Res.bind, opt, bSub, bltD, q3, newL]
end
end PB
set_option maxHeartbeats 2000000
namespace PB
open PySem hiding Act
open PySem.Spec PyProof.Rows L2 MP
/-! is_dual: 0=action -/
def b_is_dual : Ss := (.cons (.ret (.and (.isi (.var 0) .tuple) (.cmp .eq (.idx (.var 0) (.con (.int 0))) (.con (.str (Str.ofString "dual")))))) .nil)
def f_is_dual : Fn := ⟨1, 1, [], false, b_is_dual⟩

/-! key_count: 0=layout -/
def b_key_count : Ss := (.cons (.ex (.call 6 (.cons (.var 0) .nil))) (.cons (.ret (.blt .len false (.cons (.idx (.var 0) (.con (.int 0))) .nil))) .nil))
def f_key_count : Fn := ⟨1, 1, [], false, b_key_count⟩

/-! duals: 0=layout 1=.0 2=layer 3=row 4=key 5=action -/
def b_duals_0 : Ex := (.call 11 (.cons (.var 5) .nil))
def b_duals_1 : Ex := (.tup (.cons (.var 2) (.cons (.var 4) .nil)))
def b_duals : Ss := (.cons (.ex (.call 6 (.cons (.var 0) .nil))) (.cons (.ret (.comp2 true [1, 2, 3, 4, 5] [4, 5] (.tup [(.slot 2), (.slot 3)]) (.enum (.var 0)) .nil (.tup [(.slot 4), (.slot 5)]) (.enum (.var 3)) (.cons b_duals_0 .nil) b_duals_1)) .nil))
def f_duals : Fn := ⟨1, 6, [], false, b_duals⟩

/-! greatest_time: 0=layout 1=.0 2=layer 3=key -/
def b_greatest_time_0 : Ex := (.idx (.idx (.idx (.var 0) (.var 2)) (.var 3)) (.con (.int 3)))
def b_greatest_time : Ss := (.cons (.ret (.mxd (.comp false [1, 2, 3] (.tup [(.slot 2), (.slot 3)]) (.val (.call 40 (.cons (.var 0) .nil))) .nil b_greatest_time_0) (.con (.int 0)))) .nil)
def f_greatest_time : Fn := ⟨1, 4, [], true, b_greatest_time⟩

/-! _law_layout (live): 0=_law_reel_here 1=_law_layers 2=_law_keys 3=_law_longest 4=_law_found 5=_law_layer 6=.0 7=_law_key -/
def b__law_layoutL_0 : Ex := (.call 103 (.cons (.var 0) (.cons (.var 5) (.cons (.var 1) (.cons (.var 3) .nil)))))
def b__law_layoutL_1 : Ss := (.cons (.ex (.mth .append (.var 4) (.cons (.comp true [6, 7] (.slot 7) (.rng1 (.var 2)) .nil b__law_layoutL_0) .nil))) .nil)
def b__law_layoutL : Ss := (.cons (.asg (.nm (.slot 4)) (.lst true .nil)) (.cons (.for_ (.slot 5) (.rng1 (.var 1)) b__law_layoutL_1) (.cons (.ret (.var 4)) .nil)))
def f__law_layoutL : Fn := ⟨4, 8, [true], false, b__law_layoutL⟩

/-! ### the drawn list and the rest, by relations -/
def Same (p : Nat) (L L' : Live) : Prop := L.length ≤ L'.length ∧ ∀ j, j < L.length → j ≠ p → L'[j]? = L[j]?
theorem Same.refl (p : Nat) (L : Live) : Same p L L := ⟨Nat.le_refl _, fun _ _ _ => rfl⟩
theorem Same.trans {p : Nat} {A B C : Live} (h : Same p A B) (g : Same p B C) : Same p A C := ⟨Nat.le_trans h.1 g.1, fun j hj n => (g.2 j (Nat.lt_of_lt_of_le hj h.1) n).trans (h.2 j hj n)⟩
theorem Same.app (p : Nat) (L X : Live) : Same p L (L ++ X) := ⟨by simp, fun j hj _ => List.getElem?_append_left hj⟩
theorem Same.set (p : Nat) (L : Live) (o : LO) : Same p L (L.set p o) := ⟨by simp, fun j hj n => List.getElem?_set_ne (fun z => n z.symm)⟩
def Pool (L : Live) (p m : Nat) : Prop := ∃ o, L[p]? = some o ∧ RS m o
theorem Pool.lt {L : Live} {p m : Nat} (h : Pool L p m) : p < L.length := let ⟨_, h, _⟩ := h; (List.getElem?_eq_some_iff.mp h).1
theorem Pool.mono {L : Live} {p m n : Nat} (h : Pool L p m) (hm : m ≤ n) : Pool L p n := let ⟨o, h, r⟩ := h; ⟨o, h, RS_mono r hm⟩
theorem Pool.app {L : Live} {p m : Nat} (h : Pool L p m) (X : Live) : Pool (L ++ X) p m := let ⟨o, e, r⟩ := h; ⟨o, by rw [List.getElem?_append_left h.lt]; exact e, r⟩
theorem set_self {L : Live} {p : Nat} {o : LO} (h : L[p]? = some o) : L.set p o = L := by
  obtain ⟨hp, rfl⟩ := List.getElem?_eq_some_iff.mp h
  simp
theorem Draws.callP {T : Tab} {f k0 b k : Nat} {args : List D} {post : D → Prop} {d : Fn} (D : Draws T f k0 args b post) (h : T.fn f = some d) (hd : d.liv = [true]) (hn : noRefs args = true) (hk : k0 ≤ k) {L : Live} {p m : Nat} (hP : Pool L p m) (hm : m + b ≤ 10 ^ 9) :
    ∃ r L', callW (T.cx k) f (.ref p :: args) L = .ok r L' ∧ Pool L' p (m + b) ∧ Same p L L' ∧ L'.length = L.length ∧ post r := by
  have hp := hP.lt
  obtain ⟨o, ho, hr⟩ := hP
  obtain ⟨r, o', e, h1, h2⟩ := D.call h hd hn hk hp hm hr
  rw [set_self ho] at e
  exact ⟨r, _, e, ⟨o', by simp [hp], h1⟩, Same.set p L o', by simp, h2⟩
section
variable {T : Tab} [HasFn T 101 f__law_spin]
theorem spinP {k : Nat} (hk : 1 ≤ k) {L : Live} {p m : Nat} (hP : Pool L p m) (hm : m + 1 ≤ 10 ^ 9) (size : Int) (h1 : 1 ≤ size := by omega) (h2 : size ≤ 2 ^ 64 := by omega) :
    ∃ (i : Int) (L' : Live), callW (T.cx k) 101 [.ref p, .int size] L = .ok (.int i) L' ∧ Pool L' p (m + 1) ∧ Same p L L' ∧ L'.length = L.length ∧ 0 ≤ i ∧ i < size := by
  obtain ⟨r, L', e, h3, h4, h5, i, rfl, h6, h7⟩ := (s_spin (T := T) size h1 h2).callP (HasFn.h (f := 101) (d := f__law_spin)) rfl rfl hk hP hm
  exact ⟨i, L', e, h3, h4, h5, h6, h7⟩
variable [HasFn T 102 f__law_code]
theorem codeP {k : Nat} (hk : 2 ≤ k) {L : Live} {p m : Nat} (hP : Pool L p m) (hm : m + 10 ≤ 10 ^ 9) :
    ∃ (s : Str) (L' : Live), callW (T.cx k) 102 [.ref p] L = .ok (.str s) L' ∧ Pool L' p (m + 10) ∧ Same p L L' ∧ L'.length = L.length ∧ isCode s := by
  obtain ⟨r, L', e, h3, h4, h5, s, rfl, h6⟩ := (s_code (T := T)).callP (HasFn.h (f := 102) (d := f__law_code)) rfl rfl hk hP hm
  exact ⟨s, L', e, h3, h4, h5, h6⟩
variable [HasFn T 103 f__law_action]
theorem actP {k : Nat} (hk : 3 ≤ k) {L : Live} {p m : Nat} (hP : Pool L p m) (hm : m + 40 ≤ 10 ^ 9) (layer layers longest : Int) (h0 : 0 ≤ layer) (h1 : 1 ≤ layers) (h2 : layers ≤ 6) (h3 : 1 ≤ longest) (h4 : longest ≤ 10 ^ 9) :
    ∃ (a : Act) (L' : Live), callW (T.cx k) 103 [.ref p, .int layer, .int layers, .int longest] L = .ok a.enc L' ∧ Pool L' p (m + 40) ∧ Same p L L' ∧ L'.length = L.length ∧ a.ok layer layers := by
  obtain ⟨r, L', e, h5, h6, h7, a, rfl, h8⟩ := (s_law_action (T := T) layer layers longest h0 h1 h2 h3 h4).callP (HasFn.h (f := 103) (d := f__law_action)) rfl rfl hk hP hm
  exact ⟨a, L', e, h5, h6, h7, h8⟩
/-- a comprehension whose turns draw -/
theorem compL_drawsP {g : Tg} {E : Ev} {e : Ev → Live → Res D} {ds : List D} {L : Live} {p b : Nat} {post : D → Prop} (hz : ds.length ≤ sizeLine)
    (hs : ∀ d ∈ ds, ∀ m L', m + b ≤ 10 ^ 9 → Pool L' p m → ∃ E' r L2, storeG g d E = some E' ∧ e E' L' = .ok r L2 ∧ Pool L2 p (m + b) ∧ Same p L' L2 ∧ L2.length = L'.length ∧ post r) {m : Nat} (hm : m + b * ds.length ≤ 10 ^ 9) (hP : Pool L p m) :
    ∃ rs L', compL [] g E (fun _ L' => .ok true L') e ds [] L = .ok rs L' ∧ Pool L' p (m + b * ds.length) ∧ Same p L L' ∧ L'.length = L.length ∧ rs.length = ds.length ∧ ∀ r ∈ rs, post r := by
  obtain ⟨acc', L', h1, h2, h3, h4, h5, h6⟩ := compL_run (w := []) (g := g) (E := E) (c := fun _ L' => .ok true L') (e := e) (ds := ds)
    (fun i acc L' => Pool L' p (m + b * i) ∧ Same p L L' ∧ L'.length = L.length ∧ acc.length = i ∧ ∀ r ∈ acc, post r) (fun _ _ _ _ => rfl) (fun i acc L' hi h => by
      obtain ⟨h2, h3, h4, h5, h6⟩ := h
      have hb : b * (i + 1) ≤ b * ds.length := Nat.mul_le_mul_left b hi
      have hb2 : b * (i + 1) = b * i + b := Nat.mul_succ b i
      obtain ⟨E', r, L2, q1, q2, q3, q4, q5, q6⟩ := hs ds[i] (List.getElem_mem hi) (m + b * i) L' (by omega) h2
      refine ⟨E', q1, .inr ⟨_, r, _, rfl, q2, by omega, by rw [hb2, ← Nat.add_assoc]; exact q3, h3.trans q4, by omega, by simp [h5], ?_⟩⟩
      intro x hx
      rcases List.mem_append.mp hx with hx | hx
      · exact h6 x hx
      · rw [List.mem_singleton.mp hx]; exact q6) (acc := []) (L := L) ⟨by simpa using hP, Same.refl _ _, rfl, rfl, by simp⟩
  exact ⟨acc', L', h1, h2, h3, h4, h5, h6⟩
theorem LiveL.same {p : Nat} {L L' : Live} {a : Nat} {rs : List Nat} {lay : Lay} (h : LiveL L a rs lay) (s : Same p L L') (hp : p ∉ a :: rs) : LiveL L' a rs lay :=
  h.mono fun j hj => s.2 j (h.lt j hj) fun z => hp (z ▸ hj)
/-- one more row -/
theorem LiveL.row1 {L : Live} {a : Nat} {rs : List Nat} {lay : Lay} (h : LiveL L a rs lay) (r : List Act) : LiveL ((L ++ [LO.lst (r.map Act.enc)]).set a (LO.lst (rs.map D.ref ++ [D.ref L.length]))) a (rs ++ [L.length]) (lay ++ [r]) := by
  have ha := h.lt a List.mem_cons_self
  have hlt := h.lt
  have nd := List.nodup_cons.mp h.nd
  refine ⟨?_, by simp [h.len], fun i h1 h2 => ?_, ?_⟩
  · rw [List.getElem?_set_self (by simp; omega)]; simp
  · by_cases c : i < lay.length
    · have c2 : i < rs.length := by rw [h.len]; exact c
      have e1 : (rs ++ [L.length])[i] = rs[i] := List.getElem_append_left c2
      have e2 : (lay ++ [r])[i] = lay[i] := List.getElem_append_left c
      rw [e1, e2, List.getElem?_set_ne (fun z => nd.1 (by rw [z]; exact List.getElem_mem c2)), List.getElem?_append_left (hlt _ (List.mem_cons_of_mem _ (List.getElem_mem c2)))]
      exact h.row i c c2
    · have ei : i = lay.length := by simp at h1; omega
      subst ei
      have e1 : (rs ++ [L.length])[lay.length] = L.length := by
        rw [List.getElem_append_right (by rw [h.len]; exact Nat.le_refl _)]
        simp
      have e2 : (lay ++ [r])[lay.length] = r := by simp
      rw [e1, e2, List.getElem?_set_ne (by omega)]
      simp
  · rw [List.nodup_cons]
    refine ⟨fun hm => ?_, ?_⟩
    · rcases List.mem_append.mp hm with hm | hm
      · exact nd.1 hm
      · have := List.mem_singleton.mp hm; omega
    · rw [List.nodup_append]
      refine ⟨nd.2, by simp, fun x hx y hy => ?_⟩
      rw [List.mem_singleton.mp hy]
      have := hlt x (List.mem_cons_of_mem _ hx)
      omega
variable [HasFn T 105 f__law_layoutL]
theorem s_layoutA {k : Nat} (hk : 5 ≤ k) {L : Live} {p m : Nat} (hP : Pool L p m) (hm : m + 4000 ≤ 10 ^ 9) (layers keys longest : Int) (h1 : 1 ≤ layers) (h2 : layers ≤ 6) (k1 : 1 ≤ keys) (k2 : keys ≤ 16) (h3 : 1 ≤ longest) (h4 : longest ≤ 10 ^ 9) :
    ∃ (lay : Lay) (rs : List Nat) (L' : Live), callW (T.cx k) 105 [.ref p, .int layers, .int keys, .int longest] L = .ok (.ref L.length) L' ∧ Pool L' p (m + 4000) ∧ Same p L L' ∧ LiveL L' L.length rs lay ∧ (∀ r ∈ rs, L.length < r) ∧ LayOk lay keys.toNat ∧ (lay.length : Int) = layers := by
  rw [callW_draw (HasFn.h (f := 105) (d := f__law_layoutL)) rfl rfl]
  obtain ⟨k, rfl⟩ : ∃ m, k = m + 1 := ⟨k - 1, by omega⟩
  have z0 : MP.sizeOk 0 = true := sizeOk_small (by omega)
  rw [goH 105 rfl rfl]
  have hp := hP.lt
  have loop := forL_run (w := []) (g := .slot 5) (b := fun E' L' => evSs (T.cx k) b__law_layoutL_1 E' L') (ds := (List.range layers.toNat).map fun q => D.int (q : Nat))
    (fun i E' L' => ∃ (lay : Lay) (rs : List Nat) (x : Option D), E' = [some (.ref p), some (.int layers), some (.int keys), some (.int longest), some (.ref L.length), x, none, none] ∧ Pool L' p (m + 640 * i) ∧ Same p L L' ∧ LiveL L' L.length rs lay ∧ (∀ r ∈ rs, L.length < r) ∧ lay.length = i ∧ (∀ r ∈ lay, r.length = keys.toNat) ∧ ∀ (j : Nat) (r : List Act), lay[j]? = some r → ∀ a ∈ r, a.ok j layers)
    (fun _ _ _ _ => rfl) (fun i E' L' hi hI => by
      obtain ⟨lay, rs, x, rfl, h5, h6, h7, h8, h9, h10, h11⟩ := hI
      have hi' : i < layers.toNat := by simpa using hi
      rw [rng1_get hi]
      obtain ⟨vs, L2, e, g1, g2, g3, g4, g5⟩ := compL_drawsP (g := .slot 7) (E := [some (.ref p), some (.int layers), some (.int keys), some (.int longest), some (.ref L.length), some (.int i), none, none]) (e := fun E' L' => evE (T.cx k) b__law_layoutL_0 E' L') (ds := (List.range keys.toNat).map fun q => D.int (q : Nat)) (L := L') (p := p) (b := 40) (post := fun r => ∃ a : Act, r = a.enc ∧ a.ok i layers)
        (by rw [List.length_map, List.length_range]; exact small_line (by omega)) (fun d hd m2 L2 hm2 hP2 => by
          obtain ⟨a, L3, e3, q1, q2, q3, q4⟩ := actP (T := T) (k := k) (by omega) hP2 hm2 i layers longest (by omega) h1 h2 h3 h4
          exact ⟨_, a.enc, L3, rfl, by simp [b__law_layoutL_0, evE, evA, e3], q1, q2, q3, a, rfl, q4⟩) (m := m + 640 * i) (by rw [List.length_map, List.length_range]; omega) h5
      obtain ⟨row, rfl, ok⟩ := acts_of g5
      have lrow : row.length = keys.toNat := by simpa using g4
      have pn : p ∉ L.length :: rs := by
        simp only [List.mem_cons, not_or]
        exact ⟨by omega, fun z => by have := h8 p z; omega⟩
      have hl2 := h7.same g2 pn
      have hl3 := hl2.row1 row
      have top2 := hl2.top
      have lt2 := hl2.lt _ List.mem_cons_self
      have hlen : rs.length = i := by rw [h7.len, h9]
      obtain ⟨L3, hL3⟩ : ∃ L3, L3 = (L2 ++ [LO.lst (row.map Act.enc)]).set L.length (.lst (rs.map D.ref ++ [.ref L2.length])) := ⟨_, rfl⟩
      have tl3 : (L2 ++ [LO.lst (row.map Act.enc)])[L.length]? = some (.lst (rs.map D.ref)) := by rw [List.getElem?_append_left lt2]; exact top2
      have mt : mthTy .append L' (.ref L.length) = some .list := by simp only [mthTy, h7.top]
      have mt2 : mthTy .append (L2 ++ [LO.lst (row.map Act.enc)]) (.ref L.length) = some .list := by simp only [mthTy, tl3]
      have md : mthD .append (.ref L.length) [.ref L2.length] (L2 ++ [LO.lst (row.map Act.enc)]) = some (.non, L3) := by
        simp only [mthD, tl3]
        rw [if_pos (decide_eq_true (by rw [List.length_map, hlen]; exact Nat.lt_of_lt_of_le (show i < 1000 by omega) (small_line (by omega)))), hL3]
      rw [← hL3] at hl3
      have lr := lt2
      refine ⟨_, _, L3, rfl, .inl ?_, lay ++ [row], rs ++ [L2.length], some (.int i), rfl, ?_, ?_, hl3, ?_, by simp [h9], ?_, ?_⟩
      · simp [runF, runB, startE, evSs, evS, evE, evA, evC, evI, evT, resOf, optV, opt, truD, storeT, storeG, storeGs, b__law_layoutL_1, rng1_nat (n := keys) (by omega) (by omega), wipeE, e, newL, mt, mt2, md]
      · obtain ⟨o, ho, hr⟩ := g1
        refine ⟨o, ?_, RS_mono hr (by rw [List.length_map, List.length_range]; omega)⟩
        have := h6.1
        rw [hL3, List.getElem?_set_ne (by omega), List.getElem?_append_left (by omega)]
        exact ho
      · have h67 := h6.trans g2
        refine ⟨by rw [hL3]; simp; omega, fun j hj n => ?_⟩
        rw [hL3, List.getElem?_set_ne (by omega), List.getElem?_append_left (by omega)]
        exact h67.2 j hj n
      · intro r hr
        rcases List.mem_append.mp hr with hr | hr
        · exact h8 r hr
        · rw [List.mem_singleton.mp hr]; exact lr
      · intro r' hr'
        rcases List.mem_append.mp hr' with hr' | hr'
        · exact h10 r' hr'
        · rw [List.mem_singleton.mp hr']; exact lrow
      · intro j r' hj a ha
        by_cases hj2 : j < lay.length
        · rw [List.getElem?_append_left hj2] at hj
          exact h11 j r' hj a ha
        · rw [List.getElem?_append_right (by omega)] at hj
          have : j = lay.length := by
            have := (List.getElem?_eq_some_iff.mp hj).1
            simp at this; omega
          subst this
          simp at hj
          subst hj
          rw [h9]
          exact ok a ha) (E := [some (.ref p), some (.int layers), some (.int keys), some (.int longest), some (.ref L.length), none, none, none]) (L := L ++ [.lst []])
    ⟨[], [], none, rfl, by simpa using hP.app _, Same.app _ _ _, ⟨by simp, rfl, fun i h => by simp at h, by simp⟩, by simp, rfl, by simp, by simp⟩
  obtain ⟨E', L', e, lay, rs, x, rfl, h5, h6, h7, h8, h9, h10, h11⟩ := loop
  have hl : lay.length = layers.toNat := by rw [h9]; simp
  have ok : LayOk lay keys.toNat := ⟨by omega, by omega, by omega, by omega, h10, fun i r hr a ha => by
    have e : ((lay.length : Nat) : Int) = layers := by omega
    rw [e]
    exact h11 i r hr a ha⟩
  refine ⟨lay, rs, L', ?_, h5.mono (by simp; omega), h6, h7, h8, ok, by omega⟩
  show resOf (evSs (T.cx k) b__law_layoutL [some (.ref p), some (.int layers), some (.int keys), some (.int longest), none, none, none, none] L) = _
  simp [runF, runB, startE, evSs, evS, evE, evA, evC, evI, evT, resOf, optV, opt, truD, storeT, storeG, storeGs, b__law_layoutL, z0, newL, rng1_nat (n := layers) (by omega) (by omega), e]
end
end PB
set_option maxHeartbeats 1000000
namespace PB
open PySem hiding Act
open PySem.Spec PyProof.Rows L2 MP
/-! ### the package: records -/
/-! wrong_step: 0=down 1=step 2=many -/
def b_wrong_step_t2 : Ss := (.cons (.ret (.cmp .ne (.cmp .eq (.idx (.var 1) (.con (.int 1))) (.con (.str (Str.ofString "up")))) (.cmp .in_ (.idx (.var 1) (.con (.int 0))) (.var 0)))) .nil)
def b_wrong_step_t1 : Ss := (.cons (.ite (.cmp .nin (.idx (.var 1) (.con (.int 1))) (.tup (.cons (.con (.str (Str.ofString "down"))) (.cons (.con (.str (Str.ofString "up"))) .nil)))) (.cons (.ret (.con (.bl true))) .nil) .nil) b_wrong_step_t2)
def b_wrong_step : Ss := (.cons (.ite (.or (.not (.isi (.var 1) .tuple)) (.or (.cmp .ne (.blt .len false (.cons (.var 1) .nil)) (.con (.int 2))) (.not (.call 0 (.cons (.idx (.var 1) (.con (.int 0))) (.cons (.con (.int 0)) (.cons (.var 2) .nil))))))) (.cons (.ret (.con (.bl true))) .nil) .nil) b_wrong_step_t1)
def f_wrong_step : Fn := ⟨3, 3, [], false, b_wrong_step⟩

/-! first_wrong_step: 0=steps 1=many 2=down 3=index 4=step -/
def b_first_wrong_step_0_t1 : Ss := (.cons (.ite (.cmp .eq (.idx (.var 4) (.con (.int 1))) (.con (.str (Str.ofString "down")))) (.cons (.asg (.sub (.var 2) (.idx (.var 4) (.con (.int 0)))) (.con (.bl true))) .nil) (.cons (.del (.var 2) (.idx (.var 4) (.con (.int 0)))) .nil)) .nil)
def b_first_wrong_step_0 : Ss := (.cons (.ite (.call 20 (.cons (.var 2) (.cons (.var 4) (.cons (.var 1) .nil)))) (.cons (.ret (.var 3)) .nil) .nil) b_first_wrong_step_0_t1)
def b_first_wrong_step_t2 : Ss := (.cons (.ret (.con .non)) .nil)
def b_first_wrong_step_t1 : Ss := (.cons (.for_ (.tup [(.slot 3), (.slot 4)]) (.enum (.var 0)) b_first_wrong_step_0) b_first_wrong_step_t2)
def b_first_wrong_step : Ss := (.cons (.asg (.nm (.slot 2)) .dic0) b_first_wrong_step_t1)
def f_first_wrong_step : Fn := ⟨2, 5, [], true, b_first_wrong_step⟩

/-! first_wrong_event: 0=events 1=many 2=wrong 3=index 4=event 5=steps 6=earlier 7=.0 -/
def b_first_wrong_event_0_t1 : Ss := (.cons (.ite (.cmp .isn (.var 2) (.con .non)) (.cons .brk .nil) .nil) .nil)
def b_first_wrong_event_0 : Ss := (.cons (.ite (.or (.not (.isi (.var 4) .tuple)) (.or (.cmp .ne (.blt .len false (.cons (.var 4) .nil)) (.con (.int 3))) (.not (.call 0 (.cons (.idx (.var 4) (.con (.int 0))) (.cons (.con .non) (.cons (.con .non) .nil))))))) (.cons (.asg (.nm (.slot 2)) (.var 3)) .nil) (.cons (.ite (.and (.cmp .gt (.var 3) (.con (.int 0))) (.cmp .lt (.idx (.var 4) (.con (.int 0))) (.idx (.idx (.var 0) (.bin .sub false (.var 3) (.con (.int 1)))) (.con (.int 0))))) (.cons (.asg (.nm (.slot 2)) (.var 3)) .nil) .nil) .nil)) b_first_wrong_event_0_t1)
def b_first_wrong_event_1 : Ex := (.slc false (.var 4) (.con (.int 1)) (.con .non))
def b_first_wrong_event_t4 : Ss := (.cons (.ret (.ite (.cmp .is_ (.var 6) (.con .non)) (.var 2) (.var 6))) .nil)
def b_first_wrong_event_t3 : Ss := (.cons (.asg (.nm (.slot 6)) (.call 21 (.cons (.var 5) (.cons (.var 1) .nil)))) b_first_wrong_event_t4)
def b_first_wrong_event_t2 : Ss := (.cons (.asg (.nm (.slot 5)) (.comp false [7, 4] (.slot 4) (.val (.ite (.cmp .is_ (.var 2) (.con .non)) (.var 0) (.slc false (.var 0) (.con .non) (.var 2)))) .nil b_first_wrong_event_1)) b_first_wrong_event_t3)
def b_first_wrong_event_t1 : Ss := (.cons (.for_ (.tup [(.slot 3), (.slot 4)]) (.enum (.var 0)) b_first_wrong_event_0) b_first_wrong_event_t2)
def b_first_wrong_event : Ss := (.cons (.asg (.nm (.slot 2)) (.con .non)) b_first_wrong_event_t1)
def f_first_wrong_event : Fn := ⟨2, 8, [], false, b_first_wrong_event⟩

/-! is_events: 0=value -/
def b_is_events : Ss := (.cons (.ret (.and (.isi (.var 0) .list) (.cmp .le (.blt .len false (.cons (.var 0) .nil)) (.glob (Str.ofString "MOST_EVENTS") (.int 400))))) .nil)
def f_is_events : Fn := ⟨1, 1, [], false, b_is_events⟩

/-! require_record_with: 0=many 1=record 2=wrong -/
def b_require_record_with_t2 : Ss := (.cons (.ite (.cmp .isn (.var 2) (.con .non)) (.cons .nev .nil) .nil) .nil)
def b_require_record_with_t1 : Ss := (.cons (.asg (.nm (.slot 2)) (.call 22 (.cons (.var 1) (.cons (.var 0) .nil)))) b_require_record_with_t2)
def b_require_record_with : Ss := (.cons (.ite (.not (.call 23 (.cons (.var 1) .nil))) (.cons .nev .nil) .nil) b_require_record_with_t1)
def f_require_record_with : Fn := ⟨2, 3, [], false, b_require_record_with⟩

/-! require_many: 0=many -/
def b_require_many : Ss := (.cons (.ite (.not (.call 0 (.cons (.var 0) (.cons (.con (.int 1)) (.cons (.con (.int 10)) .nil))))) (.cons .nev .nil) .nil) .nil)
def f_require_many : Fn := ⟨1, 1, [], false, b_require_many⟩

structure Evt where
  tick : Int
  key : Int
  dn : Bool
def way (b : Bool) : Str := if b then Str.ofString "down" else Str.ofString "up"
def Evt.enc (e : Evt) : D := .tup [.int e.tick, .int e.key, .str (way e.dn)]
def Evt.stp (e : Evt) : D := .tup [.int e.key, .str (way e.dn)]
def encRec (t : Nat) (rec : List Evt) : D := .lst t (rec.map Evt.enc)
def Alt : (Int → Bool) → List Evt → Prop
  | _, [] => True
  | d, e :: r => e.dn = !(d e.key) ∧ Alt (fun k => if k = e.key then e.dn else d k) r
structure RecOk (many : Option Int) (rec : List Evt) : Prop where
  n : rec.length ≤ 400
  asc : rec.Pairwise fun a b => a.tick ≤ b.tick
  key : ∀ e ∈ rec, 0 ≤ e.key ∧ ∀ m, many = some m → e.key ≤ m
  alt : Alt (fun _ => false) rec
@[simp] theorem evt_noRef (e : Evt) : noRef e.enc = true := by simp [Evt.enc, noRef, noRefs]
@[simp] theorem evt_noTag (e : Evt) : noTag e.enc = true := by simp [Evt.enc, noTag, noTags]
@[simp] theorem stp_noRef (e : Evt) : noRef e.stp = true := by simp [Evt.stp, noRef, noRefs]
@[simp] theorem rec_noRef (t : Nat) (rec : List Evt) : noRef (encRec t rec) = true := by
  simp only [encRec, noRef]
  exact noRefs_of fun d hd => by obtain ⟨c, _, rfl⟩ := List.mem_map.mp hd; simp
theorem rec_noTag (rec : List Evt) : noTag (encRec 0 rec) = true := by
  simp only [encRec, noTag, decide_true, Bool.true_and]
  exact noTags_of fun d hd => by obtain ⟨c, _, rfl⟩ := List.mem_map.mp hd; simp
theorem way_up (b : Bool) : (way b = Str.ofString "up") = (b = false) := by
  cases b
  · simp [way]
  · simp only [way, if_true, Bool.true_eq_false, eq_iff_iff, iff_false]; decide
theorem way_down (b : Bool) : (way b = Str.ofString "down") = (b = true) := by
  cases b
  · simp only [way, Bool.false_eq_true, if_false, eq_iff_iff, iff_false]; decide
  · simp [way]
/-! ### dicts -/
theorem find_map {k k' : Key} {v : D} : ∀ (kvs : List (Key × D)), (((kvs.map fun kv => if kv.1 = k' then (kv.1, v) else kv).find? fun kv => decide (kv.1 = k)).map (·.2)) = if k = k' then ((kvs.find? fun kv => decide (kv.1 = k)).map fun _ => v) else (kvs.find? fun kv => decide (kv.1 = k)).map (·.2)
  | [] => by simp
  | kv :: r => by
    have ih := find_map (k := k) (k' := k') (v := v) r
    rw [List.map_cons, List.find?_cons, List.find?_cons]
    by_cases h1 : kv.1 = k'
    · simp only [h1, if_true]
      by_cases h2 : k' = k
      · simp [h2]
      · have h3 : ¬ k = k' := fun z => h2 z.symm
        simp only [h2, decide_false, h3, if_false] at ih ⊢
        exact ih
    · simp only [h1, if_false]
      by_cases h2 : kv.1 = k
      · have h3 : ¬ k = k' := fun z => h1 (h2.trans z)
        simp [h2, h3]
      · simp only [h2, decide_false]
        exact ih
theorem getK_put (k k' : Key) (v : D) (kvs : List (Key × D)) : getK k (putKey k' v kvs) = if k = k' then some v else getK k kvs := by
  unfold getK putKey
  split
  · rename_i h
    rw [find_map]
    split
    · rename_i e
      subst e
      obtain ⟨kv, hm, hk⟩ := List.any_eq_true.mp h
      cases q : kvs.find? fun kv => decide (kv.1 = k) with
      | none => exact absurd hk (by simpa using List.find?_eq_none.mp q kv hm)
      | some z => rfl
    · rfl
  · rename_i h
    rw [List.find?_append]
    by_cases e : k = k'
    · subst e
      have : (kvs.find? fun kv => decide (kv.1 = k)) = none := by
        rw [List.find?_eq_none]
        intro x hx hx2
        exact h (List.any_eq_true.mpr ⟨x, hx, hx2⟩)
      simp [this]
    · have : ¬ k' = k := fun z => e z.symm
      simp [e, this]
theorem getK_drop (k k' : Key) (kvs : List (Key × D)) : getK k (dropKey k' kvs) = if k = k' then none else getK k kvs := by
  unfold getK dropKey
  rw [List.find?_filter]
  by_cases e : k = k'
  · subst e
    rw [if_pos rfl, List.find?_eq_none.mpr]
    · rfl
    · intro x _ hx
      simp at hx
  · rw [if_neg e]
    congr 2
    funext x
    by_cases h : x.1 = k
    · have : ¬ x.1 = k' := fun z => e (h.symm.trans z)
      simp [h, e]
    · simp [h]
theorem putKey_len (k : Key) (v : D) (kvs : List (Key × D)) : (putKey k v kvs).length ≤ kvs.length + 1 := by
  unfold putKey
  split <;> simp
theorem dropKey_len (k : Key) (kvs : List (Key × D)) : (dropKey k kvs).length ≤ kvs.length := List.length_filter_le _ _
section
variable {T : Tab} [HasFn T 0 f_is_integer]
theorem s_int_opt (k : Nat) (hk : 1 ≤ k) (i : Int) (h0 : 0 ≤ i) (many : Option Int) (hm : ∀ m, many = some m → i ≤ m) (L : Live) : (T.cx k).φ 0 [.int i, .int 0, optD many] L = .ok (.bl true) L :=
  s_is_integer k hk i (some 0) many (fun a e => by cases e; exact h0) hm L
theorem optD_noRef (o : Option Int) : noRef (optD o) = true := by cases o <;> rfl
variable [HasFn T 20 f_wrong_step]
theorem s_wrong_step (k : Nat) (hk : 2 ≤ k) (L : Live) (n : Nat) (kvs : List (Key × D)) (hn : L[n]? = some (.dic kvs)) (d : Int → Bool) (hd : ∀ x : Int, (getK (.inl x) kvs).isSome = d x) (e : Evt) (many : Option Int) (h0 : 0 ≤ e.key) (hm : ∀ m, many = some m → e.key ≤ m) (ha : e.dn = !(d e.key)) :
    (T.cx k).φ 20 [.ref n, e.stp, optD many] L = .ok (.bl false) L := by
  obtain ⟨k, rfl⟩ : ∃ m, k = m + 1 := ⟨k - 1, by omega⟩
  have hk1 : keyAt L (.int e.key) (.ref n) = some (getK (.inl e.key) kvs) := by simp only [keyAt, hn, MP.keyOf]
  have hin : inD L (.int e.key) (.ref n) = some (d e.key) := by
    have : seqOf L (.ref n) = none := by simp [seqOf, lstOf, hn]
    simp only [inD, this, hk1, Option.map_some, hd]
  have cw : callW (T.cx k) 0 [.int e.key, .int 0, optD many] L = .ok (.bl true) L := by
    rw [callW_pure (by simp [noRefs, noRef, optD_noRef]), s_int_opt (T := T) k (by omega) e.key h0 many hm]
  have nin : cmpD .nin (.str (way e.dn)) (.tup [.str (Str.ofString "down"), .str (Str.ofString "up")]) L = some false := by
    cases e.dn <;> simp [cmpD, inD, seqOf, inSeq, flat, eqF, way]
  have eu : cmpD .eq (.str (way e.dn)) (.str (Str.ofString "up")) L = some (d e.key) := by
    simp only [cmpD, eqD, scal2, eqS, if_true, way_up]
    rw [ha]
    cases d e.key <;> rfl
  have nn : cmpD .ne (.bl (d e.key)) (.bl (d e.key)) L = some false := by simp [cmpD, eqD, scal2, eqS]
  have inn : cmpD .in_ (.int e.key) (.ref n) L = some (d e.key) := hin
  have l2 : cmpD .ne (.int 2) (.int 2) L = some false := by simp [cmpD, eqD, scal2, eqS]
  have z2 : MP.sizeOk 2 = true := sizeOk_small (by omega)
  rw [phiH 20]
  simp [runF, runB, startE, evSs, evS, evE, evA, evC, evI, evT, resOf, optV, opt, truD, storeT, storeG, storeGs, f_wrong_step, b_wrong_step, b_wrong_step_t1, b_wrong_step_t2, Evt.stp, isiD, bltD, lenD, seqOf, l2, idxD, idxSeq, atI, ixN, cw, z2, nin, eu, inn, nn]
variable [HasFn T 21 f_first_wrong_step]
theorem s_first_wrong_step (k : Nat) (hk : 3 ≤ k) (L : Live) (rec : List Evt) (many : Option Int) (hz : rec.length ≤ 400) (hkey : ∀ e ∈ rec, 0 ≤ e.key ∧ ∀ m, many = some m → e.key ≤ m) (ha : Alt (fun _ => false) rec) :
    (T.cx k).φ 21 [.lst 0 (rec.map Evt.stp), optD many] L = .ok .non L := by
  obtain ⟨k, rfl⟩ : ∃ m, k = m + 1 := ⟨k - 1, by omega⟩
  rw [goCH 21 rfl rfl]
  have altD : ∀ (i : Nat) (d : Int → Bool), Alt d rec → True := fun _ _ _ => trivial
  have loop := forL_run (w := []) (g := .tup [.slot 3, .slot 4]) (b := fun E' L' => evSs (T.cx k) b_first_wrong_step_0 E' L') (ds := enumD (rec.map Evt.stp))
    (fun i E' L' => ∃ (kvs : List (Key × D)) (d : Int → Bool) (x3 x4 : Option D), L' = L ++ [.dic kvs] ∧ E' = [some (.lst 0 (rec.map Evt.stp)), some (optD many), some (.ref L.length), x3, x4] ∧ (∀ x : Int, (getK (.inl x) kvs).isSome = d x) ∧ Alt d (rec.drop i) ∧ kvs.length ≤ i)
    (fun _ _ _ _ => rfl) (fun i E' L' hi hP => by
      obtain ⟨kvs, d, x3, x4, rfl, rfl, h1, h2, h3⟩ := hP
      have hi' : i < rec.length := by simpa [enumD] using hi
      rw [enumD_get hi]
      have ee : (rec.map Evt.stp)[i]'(by simpa using hi') = rec[i].stp := by simp
      rw [ee]
      rw [List.drop_eq_getElem_cons hi'] at h2
      obtain ⟨h2, h4⟩ := h2
      obtain ⟨k0, k1⟩ := hkey _ (List.getElem_mem hi')
      generalize rec[i] = e at *
      have hn : (L ++ [LO.dic kvs])[L.length]? = some (.dic kvs) := by simp
      have cw : callW (T.cx k) 20 [.ref L.length, e.stp, optD many] (L ++ [.dic kvs]) = .ok (.bl false) (L ++ [.dic kvs]) := by
        rw [callW_nil, s_wrong_step (T := T) k (by omega) _ L.length kvs hn d h1 e many k0 k1 h2]
        rw [liv_of (HasFn.h (f := 20) (d := f_wrong_step))]
        simp [f_wrong_step, idsAs, idsF, noRef, hn, idsF_noRef, optD_noRef]
      cases hb : e.dn with
      | true =>
        have sd : setD (.ref L.length) (.int e.key) (.bl true) (L ++ [.dic kvs]) = some (L ++ [.dic (putKey (.inl e.key) (.bl true) kvs)]) := by
          simp only [setD, hn, MP.keyOf]
          rw [if_pos (decide_eq_true (Nat.lt_of_lt_of_le (show kvs.length < 1000 by omega) (small_line (by omega)))), List.set_append_right _ _ (Nat.le_refl _)]
          simp
        refine ⟨_, _, _, rfl, .inl ?_, putKey (.inl e.key) (.bl true) kvs, _, some (.int i), some e.stp, rfl, rfl, ?_, h4, ?_⟩
        · have e0 : ∀ M, idxD e.stp (.int 0) M = some (.int e.key) := fun M => by simp [Evt.stp, idxD, seqOf, idxSeq, atI, ixN]
          have e1 : ∀ M, idxD e.stp (.int 1) M = some (.str (way e.dn)) := fun M => by simp [Evt.stp, idxD, seqOf, idxSeq, atI, ixN]
          have t1 : ∀ M, cmpD .eq (.str (way e.dn)) (.str (Str.ofString "down")) M = some e.dn := fun M => by simp [cmpD, eqD, scal2, eqS, way_down]
          simp only [storeG, storeGs, List.length_cons, List.length_nil, Nat.reduceAdd, Nat.reduceLT, if_true, List.set_cons_succ, List.set_cons_zero]
          generalize e.stp = st at *
          rw [b_first_wrong_step_0, ss_if_n (L1 := L ++ [.dic kvs]) (by simp [evT, evE, evA, cw, optV, truD]), b_first_wrong_step_0_t1]
          have t2 : evT (T.cx k) (.cmp .eq (.idx (.var 4) (.con (.int 1))) (.con (.str (Str.ofString "down")))) [some (.lst 0 (rec.map Evt.stp)), some (optD many), some (.ref L.length), some (.int (i : Nat)), some st] (L ++ [.dic kvs]) = .ok e.dn (L ++ [.dic kvs]) := by simp [evT, evE, e1, optV, t1, truD]
          rw [hb] at t2
          rw [ss_if_t t2]
          simp [runF, runB, startE, evSs, evS, evE, evA, evC, evI, evT, resOf, optV, opt, truD, storeT, storeG, storeGs, e0, sd]
        · intro x
          rw [getK_put]
          by_cases hx : x = e.key
          · simp [hx, hb]
          · have : ¬ (Sum.inl x : Key) = .inl e.key := fun z => hx (Sum.inl.inj z)
            simp [hx, this, h1]
        · have := putKey_len (.inl e.key) (.bl true) kvs; omega
      | false =>
        have hd : d e.key = true := by rw [hb] at h2; simpa using h2.symm
        have sd : delD (.ref L.length) (.int e.key) (L ++ [.dic kvs]) = some (L ++ [.dic (dropKey (.inl e.key) kvs)]) := by
          simp only [delD, hn, MP.keyOf]
          rw [if_pos (by rw [h1]; exact hd), List.set_append_right _ _ (Nat.le_refl _)]
          simp
        refine ⟨_, _, _, rfl, .inl ?_, dropKey (.inl e.key) kvs, _, some (.int i), some e.stp, rfl, rfl, ?_, h4, ?_⟩
        · have e0 : ∀ M, idxD e.stp (.int 0) M = some (.int e.key) := fun M => by simp [Evt.stp, idxD, seqOf, idxSeq, atI, ixN]
          have e1 : ∀ M, idxD e.stp (.int 1) M = some (.str (way e.dn)) := fun M => by simp [Evt.stp, idxD, seqOf, idxSeq, atI, ixN]
          have t1 : ∀ M, cmpD .eq (.str (way e.dn)) (.str (Str.ofString "down")) M = some e.dn := fun M => by simp [cmpD, eqD, scal2, eqS, way_down]
          simp only [storeG, storeGs, List.length_cons, List.length_nil, Nat.reduceAdd, Nat.reduceLT, if_true, List.set_cons_succ, List.set_cons_zero]
          generalize e.stp = st at *
          rw [b_first_wrong_step_0, ss_if_n (L1 := L ++ [.dic kvs]) (by simp [evT, evE, evA, cw, optV, truD]), b_first_wrong_step_0_t1]
          have t2 : evT (T.cx k) (.cmp .eq (.idx (.var 4) (.con (.int 1))) (.con (.str (Str.ofString "down")))) [some (.lst 0 (rec.map Evt.stp)), some (optD many), some (.ref L.length), some (.int (i : Nat)), some st] (L ++ [.dic kvs]) = .ok e.dn (L ++ [.dic kvs]) := by simp [evT, evE, e1, optV, t1, truD]
          rw [hb] at t2
          rw [ss_if_f t2]
          simp [runF, runB, startE, evSs, evS, evE, evA, evC, evI, evT, resOf, optV, opt, truD, storeT, storeG, storeGs, e0, sd]
        · intro x
          rw [getK_drop]
          by_cases hx : x = e.key
          · simp [hx, hb]
          · have : ¬ (Sum.inl x : Key) = .inl e.key := fun z => hx (Sum.inl.inj z)
            simp [hx, this, h1]
        · have := dropKey_len (.inl e.key) kvs; omega)
    (E := [some (.lst 0 (rec.map Evt.stp)), some (optD many), some (.ref L.length), none, none]) (L := L ++ [.dic []]) ⟨[], fun _ => false, none, none, rfl, rfl, fun _ => rfl, by simpa using ha, by simp⟩
  obtain ⟨E', L', e, kvs, d, x3, x4, rfl, rfl, _⟩ := loop
  have run : evSs (T.cx k) b_first_wrong_step [some (.lst 0 (rec.map Evt.stp)), some (optD many), none, none, none] L = .fl (.rt .non) [some (.lst 0 (rec.map Evt.stp)), some (optD many), some (.ref L.length), x3, x4] (L ++ [.dic kvs]) := by
    rw [b_first_wrong_step, ss_asg (E' := [some (.lst 0 (rec.map Evt.stp)), some (optD many), some (.ref L.length), none, none]) (d := .ref L.length) (L1 := L ++ [.dic []]) (by simp [evE]) rfl,
      b_first_wrong_step_t1, ss_for (w := []) (ds := enumD (rec.map Evt.stp)) (L1 := L ++ [.dic []]) (by simp [evI, evE, lstOf, optV, watch]) e, b_first_wrong_step_t2, ss_ret (d := .non) (L1 := L ++ [.dic kvs]) (by simp [evE])]
  show cleanR L (resOf (evSs (T.cx k) b_first_wrong_step [some (.lst 0 (rec.map Evt.stp)), some (optD many), none, none, none] L)) = _
  rw [run]
  simp only [resOf, cleanR]
  rw [fz_ok (by rfl), cutL_app]

variable [HasFn T 22 f_first_wrong_event]
theorem s_first_wrong_event (k : Nat) (hk : 4 ≤ k) (L : Live) (t : Nat) (rec : List Evt) (many : Option Int) (h : RecOk many rec) : (T.cx k).φ 22 [encRec t rec, optD many] L = .ok .non L := by
  obtain ⟨k, rfl⟩ : ∃ m, k = m + 1 := ⟨k - 1, by omega⟩
  obtain ⟨h1, h2, h3, h4⟩ := h
  have nn : ∀ M : Live, cmpD .isn .non .non M = some false := fun M => by simp [cmpD, isNonD]
  have ni : ∀ M : Live, cmpD .is_ .non .non M = some true := fun M => by simp [cmpD, isNonD]
  have eT : ∀ e : Evt, ∀ M, isiD M e.enc .tuple = some true := fun e M => rfl
  have eN : ∀ e : Evt, ∀ M, bltD .len false [e.enc] M = some (.int 3, M) := fun e M => by simp [bltD, lenD, seqOf, Evt.enc]
  have e0 : ∀ e : Evt, ∀ M, idxD e.enc (.int 0) M = some (.int e.tick) := fun e M => by simp [Evt.enc, idxD, seqOf, idxSeq, atI, ixN]
  have n3 : ∀ M : Live, cmpD .ne (.int 3) (.int 3) M = some false := fun M => by simp [cmpD, eqD, scal2, eqS]
  have ci : ∀ (i : Int) (M : Live), callW (T.cx k) 0 [.int i, .non, .non] M = .ok (.bl true) M := fun i M => by
    rw [callW_pure (by simp [noRefs, noRef])]
    exact s_is_integer (T := T) k (by omega) i none none (fun a e => by cases e) (fun a e => by cases e) M
  obtain ⟨E', L', e, ⟨x3, x4, rfl⟩, rfl⟩ := forL_run (w := []) (g := .tup [.slot 3, .slot 4]) (b := fun E' L' => evSs (T.cx k) b_first_wrong_event_0 E' L') (ds := enumD (rec.map Evt.enc))
    (fun i E' L' => (∃ x3 x4, E' = [some (encRec t rec), some (optD many), some .non, x3, x4, none, none, none]) ∧ L' = L) (fun _ _ _ _ => rfl) (fun i E' L' hi hP => by
      obtain ⟨⟨x3, x4, rfl⟩, rfl⟩ := hP
      have hi' : i < rec.length := by simpa [enumD] using hi
      rw [enumD_get hi]
      have ee : (rec.map Evt.enc)[i]'(by simpa using hi') = rec[i].enc := by simp
      rw [ee]
      refine ⟨_, _, _, rfl, .inl ?_, ⟨some (.int i), some rec[i].enc, rfl⟩, rfl⟩
      have t1 : evT (T.cx k) (.or (.not (.isi (.var 4) .tuple)) (.or (.cmp .ne (.blt .len false (.cons (.var 4) .nil)) (.con (.int 3))) (.not (.call 0 (.cons (.idx (.var 4) (.con (.int 0))) (.cons (.con .non) (.cons (.con .non) .nil))))))) [some (encRec t rec), some (optD many), some .non, some (.int i), some rec[i].enc, none, none, none] L' = .ok false L' := by
        simp [evT, evE, evA, eT, optV, truD, eN, opt, n3, e0, ci]
      have t2 : evT (T.cx k) (.and (.cmp .gt (.var 3) (.con (.int 0))) (.cmp .lt (.idx (.var 4) (.con (.int 0))) (.idx (.idx (.var 0) (.bin .sub false (.var 3) (.con (.int 1)))) (.con (.int 0))))) [some (encRec t rec), some (optD many), some .non, some (.int i), some rec[i].enc, none, none, none] L' = .ok false L' := by
        by_cases c : 0 < i
        · have hp := List.pairwise_iff_getElem.mp h2 (i - 1) i (by omega) hi' (by omega)
          have ix : idxD (encRec t rec) (.int ((i : Int) - 1)) L' = some (rec[i - 1]'(by omega)).enc := by
            rw [show (i : Int) - 1 = ((i - 1 : Nat) : Int) by omega]
            simp only [idxD, encRec, seqOf, lstOf, idxSeq]
            rw [atI_get' (by simp; omega)]
            simp
          have lt : cmpD .lt (.int rec[i].tick) (.int (rec[i - 1]'(by omega)).tick) L' = some false := by
            simp only [cmpD, ordI]
            congr 1
            exact decide_eq_false (by omega)
          have c0 : cmpD .gt (.int (i : Int)) (.int 0) L' = some true := by
            simp only [cmpD, ordI]
            congr 1
            exact decide_eq_true (by omega)
          simp [evT, evE, evA, optV, truD, c0, e0, binD, opt, ix, lt]
        · have c0 : cmpD .gt (.int (i : Int)) (.int 0) L' = some false := by
            simp only [cmpD, ordI]
            congr 1
            exact decide_eq_false (by omega)
          simp [evT, evE, evA, optV, truD, c0]
      simp only [storeG, storeGs, List.length_cons, List.length_nil, Nat.reduceAdd, Nat.reduceLT, if_true, List.set_cons_succ, List.set_cons_zero]
      rw [b_first_wrong_event_0, ss_if_f t1, ss_if_n t2, ss_nil, SRes.seq_nx, b_first_wrong_event_0_t1, ss_if_n (L1 := L') (by simp [evT, evE, nn, optV, truD]), ss_nil])
    (E := [some (encRec t rec), some (optD many), some .non, none, none, none, none, none]) (L := L) ⟨⟨none, none, rfl⟩, rfl⟩
  have st : compL [] (.slot 4) [some (encRec t rec), some (optD many), some .non, x3, none, none, none, none] (fun _ L' => .ok true L') (fun E' L' => evE (T.cx k) b_first_wrong_event_1 E' L') (rec.map Evt.enc) [] L' = .ok (rec.map Evt.stp) L' := by
    have := compL_map (w := []) (g := .slot 4) (E := [some (encRec t rec), some (optD many), some .non, x3, none, none, none, none]) (c := fun _ L' => .ok true L') (e := fun E' L' => evE (T.cx k) b_first_wrong_event_1 E' L') (f := fun d => .tup (MP.cutD (match d with | .tup l => l | _ => []) (some 1) none)) (ds := rec.map Evt.enc) (L := L') rfl (by rw [List.length_map]; exact small_line (by omega)) fun d hd => by
      obtain ⟨cc, _, rfl⟩ := List.mem_map.mp hd
      exact ⟨_, rfl, rfl, by simp [b_first_wrong_event_1, evE, Evt.enc, isAbs, MP.part, optV, opt, slcP]⟩
    rw [this]
    simp [Evt.enc, Evt.stp, MP.cutD, HT.sIx]
  have eL : ∀ M : Live, lstOf M (encRec t rec) = some (rec.map Evt.enc) := fun M => rfl
  have eI : ∀ M : Live, itemsOf M (encRec t rec) = some (rec.map Evt.enc) := fun M => rfl
  have eW : ∀ M : Live, watch M (encRec t rec) = [] := fun M => rfl
  have cw : callW (T.cx k) 21 [.lst 0 (rec.map Evt.stp), optD many] L' = .ok .non L' := by
    rw [callW_pure, s_first_wrong_step (T := T) k (by omega) L' rec many h1 h3 h4]
    simp only [noRefs, noRef, optD_noRef, Bool.and_true]
    exact noRefs_of fun d hd => by obtain ⟨c, _, rfl⟩ := List.mem_map.mp hd; simp
  rw [phiH 22]
  have run : evSs (T.cx k) b_first_wrong_event [some (encRec t rec), some (optD many), none, none, none, none, none, none] L' = .fl (.rt .non) [some (encRec t rec), some (optD many), some .non, x3, x4, some (.lst 0 (rec.map Evt.stp)), some .non, none] L' := by
    rw [b_first_wrong_event, ss_asg (E' := [some (encRec t rec), some (optD many), some .non, none, none, none, none, none]) (d := .non) (L1 := L') (by simp [evE]) rfl,
      b_first_wrong_event_t1, ss_for (w := []) (ds := enumD (rec.map Evt.enc)) (L1 := L') (by simp [evI, evE, eL, optV, eW]) e,
      b_first_wrong_event_t2, ss_asg (E' := [some (encRec t rec), some (optD many), some .non, x3, x4, some (.lst 0 (rec.map Evt.stp)), none, none]) (d := .lst 0 (rec.map Evt.stp)) (L1 := L') (by simp [evE, evI, evC, ni, optV, truD, eI, eW, wipeE, st, newL, opt]) rfl,
      b_first_wrong_event_t3, ss_asg (E' := [some (encRec t rec), some (optD many), some .non, x3, x4, some (.lst 0 (rec.map Evt.stp)), some .non, none]) (d := .non) (L1 := L') (by simp [evE, evA, cw]) rfl,
      b_first_wrong_event_t4, ss_ret (d := .non) (L1 := L') (by simp [evE, ni, optV, truD])]
  simp only [runF, runB, f_first_wrong_event, List.length_cons, List.length_nil, Bool.false_eq_true, if_false, if_true]
  show resOf (evSs (T.cx k) b_first_wrong_event [some (encRec t rec), some (optD many), none, none, none, none, none, none] L') = _
  rw [run]
  rfl
variable [HasFn T 23 f_is_events] [HasFn T 24 f_require_record_with]
omit [HasFn T 0 f_is_integer] [HasFn T 20 f_wrong_step] [HasFn T 21 f_first_wrong_step] [HasFn T 22 f_first_wrong_event] [HasFn T 24 f_require_record_with] in
theorem s_is_events (k : Nat) (hk : 1 ≤ k) (L : Live) (t : Nat) (rec : List Evt) (h : rec.length ≤ 400) : (T.cx k).φ 23 [encRec t rec] L = .ok (.bl true) L := by
  obtain ⟨k, rfl⟩ : ∃ m, k = m + 1 := ⟨k - 1, by omega⟩
  have eT : isiD L (encRec t rec) .list = some true := rfl
  have eN : bltD .len false [encRec t rec] L = some (.int rec.length, L) := by simp [bltD, lenD, seqOf, lstOf, encRec]
  have le : cmpD .le (.int (rec.length : Int)) (.int 400) L = some true := by
    simp only [cmpD, ordI]
    congr 1
    exact decide_eq_true (by omega)
  rw [phiH 23]
  simp [runF, runB, startE, evSs, evS, evE, evA, evC, evI, evT, resOf, optV, opt, truD, storeT, storeG, storeGs, f_is_events, b_is_events, eT, eN, le]
theorem s_require_record_with (k : Nat) (hk : 5 ≤ k) (L : Live) (t : Nat) (rec : List Evt) (many : Option Int) (h : RecOk many rec) : (T.cx k).φ 24 [optD many, encRec t rec] L = .ok .non L := by
  obtain ⟨k, rfl⟩ : ∃ m, k = m + 1 := ⟨k - 1, by omega⟩
  have nn : cmpD .isn .non .non L = some false := by simp [cmpD, isNonD]
  have c1 : callW (T.cx k) 23 [encRec t rec] L = .ok (.bl true) L := by rw [callW_pure (by simp [noRefs]), s_is_events (T := T) k (by omega) L t rec h.n]
  have c2 : callW (T.cx k) 22 [encRec t rec, optD many] L = .ok .non L := by rw [callW_pure (by simp [noRefs, optD_noRef]), s_first_wrong_event (T := T) k (by omega) L t rec many h]
  rw [phiH 24]
  simp [runF, runB, startE, evSs, evS, evE, evA, evC, evI, evT, resOf, optV, opt, truD, storeT, storeG, storeGs, f_require_record_with, b_require_record_with, b_require_record_with_t1, b_require_record_with_t2, c1, c2, nn]
omit [HasFn T 20 f_wrong_step] [HasFn T 21 f_first_wrong_step] [HasFn T 22 f_first_wrong_event] [HasFn T 23 f_is_events] [HasFn T 24 f_require_record_with] in
theorem s_require_many [HasFn T 12 f_require_many] (k : Nat) (hk : 2 ≤ k) (many : Int) (h1 : 1 ≤ many) (h2 : many ≤ 10) (L : Live) : (T.cx k).φ 12 [.int many] L = .ok .non L := by
  obtain ⟨k, rfl⟩ : ∃ m, k = m + 1 := ⟨k - 1, by omega⟩
  rw [phiH 12]
  simp [runF, runB, startE, evSs, evS, evE, evA, evC, evI, evT, resOf, optV, opt, truD, storeT, storeG, storeGs, f_require_many, b_require_many, callW_pure, noRefs, noRef, s_int2 (T := T) k (by omega) many 1 10 h1 h2]
end
end PB
set_option maxHeartbeats 2000000
namespace PB
open PySem hiding Act
open PySem.Spec PyProof.Rows L2 MP
/-! is_record: 0=value -/
def b_is_record : Ss := (.cons (.ret (.and (.call 23 (.cons (.var 0) .nil)) (.cmp .is_ (.call 22 (.cons (.var 0) (.cons (.con .non) .nil))) (.con .non)))) .nil)
def f_is_record : Fn := ⟨1, 1, [], false, b_is_record⟩

/-! is_order: 0=value -/
def b_is_order : Ss := (.cons (.ret (.and (.call 23 (.cons (.var 0) .nil)) (.cmp .is_ (.call 21 (.cons (.var 0) (.cons (.con .non) .nil))) (.con .non)))) .nil)
def f_is_order : Fn := ⟨1, 1, [], false, b_is_order⟩

/-! ### any value as a record, as an order -/
def nrf : D → Bool | .ref _ => false | _ => true
theorem nrf_of {d : D} (h : noRef d = true) : nrf d = true := by cases d <;> simp_all [noRef, nrf]
def inLo : Option Int → Int → Bool | none, _ => true | some a, i => decide (a ≤ i)
def inHi : Option Int → Int → Bool | none, _ => true | some b, i => decide (i ≤ b)
def isInt (lo hi : Option Int) : D → Bool | .int i => inLo lo i && inHi hi i | _ => false
def optN : Option Nat → D | none => .non | some n => .int n
section
variable {T : Tab} [HasFn T 0 f_is_integer]
theorem s_int_any (k : Nat) (hk : 1 ≤ k) (d : D) (h : nrf d = true) (lo hi : Option Int) (L : Live) : (T.cx k).φ 0 [d, optD lo, optD hi] L = .ok (.bl (isInt lo hi d)) L := by
  obtain ⟨k, rfl⟩ : ∃ m, k = m + 1 := ⟨k - 1, by omega⟩
  rw [phiH 0]
  cases d with
  | ref n => simp [nrf] at h
  | int i =>
    cases lo with
    | none => cases hi with
      | none => simp [runF, runB, startE, evSs, evS, evE, evA, evC, evI, evT, resOf, optV, opt, truD, storeT, storeG, storeGs, f_is_integer, b_is_integer, b_is_integer_t1, isiD, cmpD, optD, isNonD, ordI, isInt, inLo, inHi]
      | some b => by_cases c : i ≤ b <;> simp [runF, runB, startE, evSs, evS, evE, evA, evC, evI, evT, resOf, optV, opt, truD, storeT, storeG, storeGs, f_is_integer, b_is_integer, b_is_integer_t1, isiD, cmpD, optD, isNonD, ordI, isInt, inLo, inHi, c]
    | some a => cases hi with
      | none => by_cases c : a ≤ i <;> simp [runF, runB, startE, evSs, evS, evE, evA, evC, evI, evT, resOf, optV, opt, truD, storeT, storeG, storeGs, f_is_integer, b_is_integer, b_is_integer_t1, isiD, cmpD, optD, isNonD, ordI, isInt, inLo, inHi, c]
      | some b => by_cases c : a ≤ i <;> by_cases c2 : i ≤ b <;> simp [runF, runB, startE, evSs, evS, evE, evA, evC, evI, evT, resOf, optV, opt, truD, storeT, storeG, storeGs, f_is_integer, b_is_integer, b_is_integer_t1, isiD, cmpD, optD, isNonD, ordI, isInt, inLo, inHi, c, c2]
  | _ => simp [runF, runB, startE, evSs, evS, evE, evA, evC, evI, evT, resOf, optV, opt, truD, storeT, storeG, storeGs, f_is_integer, b_is_integer, b_is_integer_t1, isiD, cmpD, optD, isNonD, ordI, isInt]
theorem c_int_any {k : Nat} (hk : 1 ≤ k) {d : D} (h : noRef d = true) (lo hi : Option Int) (L : Live) : callW (T.cx k) 0 [d, optD lo, optD hi] L = .ok (.bl (isInt lo hi d)) L := by
  rw [callW_pure (by simp [noRefs, h, optD_noRef]), s_int_any k hk d (nrf_of h)]
def wayS (s : Str) : Option Bool := if s = Str.ofString "down" then some true else if s = Str.ofString "up" then some false else none
def wayD : D → Option Bool | .str s => wayS s | _ => none
def okW (w : D) : Prop := flat w = true ∨ ∃ p, toPy w = some p ∧ SeqAt.shaped p = true ∧ ∀ s, PyData.eqv (.str s) p = false
theorem up_ne : ¬ Str.ofString "up" = Str.ofString "down" := by decide
theorem in_ways {w : D} (h : okW w) (L : Live) : cmpD .nin w (.tup [.str (Str.ofString "down"), .str (Str.ofString "up")]) L = some (wayD w).isNone := by
  have f2 : [D.str (Str.ofString "down"), D.str (Str.ofString "up")].all flat = true := rfl
  by_cases hf : flat w = true
  · have e : inSeq L w (.tup [.str (Str.ofString "down"), .str (Str.ofString "up")]) [.str (Str.ofString "down"), .str (Str.ofString "up")] = some ([D.str (Str.ofString "down"), D.str (Str.ofString "up")].any fun y => eqF y w) := by
      unfold inSeq
      rw [hf, f2]; rfl
    simp only [cmpD, inD, seqOf, e, Option.map_some]
    congr 1
    cases w <;> simp [flat] at hf <;> simp [eqF, wayD]
    rename_i s
    unfold wayS
    by_cases c1 : s = Str.ofString "down"
    · subst c1; rfl
    · by_cases c2 : s = Str.ofString "up"
      · subst c2; simp [up_ne]
      · simp [c1, c2, Ne.symm c1, Ne.symm c2]
  · obtain ⟨p, h1, h2, h3⟩ := h.resolve_left hf
    have e : inSeq L w (.tup [.str (Str.ofString "down"), .str (Str.ofString "up")]) [.str (Str.ofString "down"), .str (Str.ofString "up")] = some false := by
      have s2 : SeqAt.shaped (.tuple [.str (Str.ofString "down"), .str (Str.ofString "up")]) = true := by decide +kernel
      unfold inSeq
      simp only [hf, Bool.false_and, Bool.false_eq_true, if_false]
      simp only [pyOf, h1, toPy, toPys, h2, s2, Bool.and_self, if_true, List.any_cons, h3, List.any_nil, Bool.or_self]
    simp only [cmpD, inD, seqOf, e, Option.map_some]
    congr 1
    cases w <;> simp [flat] at hf <;> rfl
/-- a step that can stand here -/
def stepF (many : Option Int) (dn : Int → Bool) : D → Option (Int × Bool)
  | .tup [.int i, w] => if isInt (some 0) many (.int i) then (match wayD w with | some b => if b = !(dn i) then some (i, b) else none | none => none) else none
  | _ => none
structure OkStep (d : D) : Prop where
  nr : noRef d = true
  w : ∀ x w, d = .tup [x, w] → okW w
variable [HasFn T 20 f_wrong_step]
theorem s_step_any (k : Nat) (hk : 2 ≤ k) (L : Live) (n : Nat) (kvs : List (Key × D)) (hn : L[n]? = some (.dic kvs)) (dn : Int → Bool) (hd : ∀ x : Int, (getK (.inl x) kvs).isSome = dn x) (d : D) (ok : OkStep d) (many : Option Int) :
    (T.cx k).φ 20 [.ref n, d, optD many] L = .ok (.bl (stepF many dn d).isNone) L := by
  obtain ⟨k, rfl⟩ : ∃ m, k = m + 1 := ⟨k - 1, by omega⟩
  have hN := ok.nr
  rw [phiH 20]
  by_cases ht : ∃ xs, d = .tup xs
  · obtain ⟨xs, rfl⟩ := ht
    by_cases h2 : xs.length = 2
    · obtain ⟨x, w, rfl⟩ : ∃ x w, xs = [x, w] := by
        match xs, h2 with
        | [x, w], _ => exact ⟨x, w, rfl⟩
      have hw := ok.w x w rfl
      simp only [noRef, noRefs, Bool.and_true, Bool.and_eq_true] at hN
      have cw : callW (T.cx k) 0 [x, .int 0, optD many] L = .ok (.bl (isInt (some 0) many x)) L := c_int_any (T := T) (k := k) (by omega) hN.1 (some 0) many L
      have l2 : cmpD .ne (.int 2) (.int 2) L = some false := by simp [cmpD, eqD, scal2, eqS]
      have z2 : MP.sizeOk 2 = true := sizeOk_small (by omega)
      by_cases hi : isInt (some 0) many x = true
      · obtain ⟨i, rfl⟩ : ∃ i, x = .int i := by cases x <;> simp [isInt] at hi; exact ⟨_, rfl⟩
        rw [hi] at cw
        have hin : cmpD .in_ (.int i) (.ref n) L = some (dn i) := by
          have h1 : keyAt L (.int i) (.ref n) = some (getK (.inl i) kvs) := by simp only [keyAt, hn, MP.keyOf]
          have : seqOf L (.ref n) = none := by simp [seqOf, lstOf, hn]
          simp only [cmpD, inD, this, h1, Option.map_some, hd]
        have nw := in_ways hw L
        cases hw2 : wayD w with
        | none =>
          rw [hw2] at nw
          simp [runF, runB, startE, evSs, evS, evE, evA, evC, evI, evT, resOf, optV, opt, truD, storeT, storeG, storeGs, f_wrong_step, b_wrong_step, b_wrong_step_t1, b_wrong_step_t2, isiD, bltD, lenD, seqOf, l2, idxD, idxSeq, atI, ixN, cw, z2, nw, stepF, hi, hw2]
        | some b =>
          rw [hw2] at nw
          have hs : ∃ s, w = .str s ∧ wayS s = some b := by cases w <;> simp [wayD] at hw2; exact ⟨_, rfl, hw2⟩
          obtain ⟨s, rfl, hs⟩ := hs
          have eu : cmpD .eq (.str s) (.str (Str.ofString "up")) L = some (!b) := by
            simp only [cmpD, eqD, scal2, eqS, if_true]
            congr 1
            unfold wayS at hs
            split at hs
            · rename_i e; cases hs; subst e; decide
            · split at hs
              · rename_i e; cases hs; subst e; decide
              · cases hs
          have nn : cmpD .ne (.bl (!b)) (.bl (dn i)) L = some (decide (¬ (!b) = dn i)) := by
            simp only [cmpD, eqD, scal2, eqS, if_true, Option.map_some]
            generalize dn i = q
            cases b <;> cases q <;> rfl
          simp [runF, runB, startE, evSs, evS, evE, evA, evC, evI, evT, resOf, optV, opt, truD, storeT, storeG, storeGs, f_wrong_step, b_wrong_step, b_wrong_step_t1, b_wrong_step_t2, isiD, bltD, lenD, seqOf, l2, idxD, idxSeq, atI, ixN, cw, z2, nw, eu, hin, nn, stepF, hi, hw2]
          generalize dn i = q
          cases b <;> cases q <;> rfl
      · have hi' : isInt (some 0) many x = false := by simpa using hi
        rw [hi'] at cw
        have e : stepF many dn (.tup [x, w]) = none := by
          cases x <;> simp only [stepF]
          rw [hi']; rfl
        simp [runF, runB, startE, evSs, evS, evE, evA, evC, evI, evT, resOf, optV, opt, truD, storeT, storeG, storeGs, f_wrong_step, b_wrong_step, b_wrong_step_t1, b_wrong_step_t2, isiD, bltD, lenD, seqOf, l2, idxD, idxSeq, atI, ixN, cw, e]
    · have e : stepF many dn (.tup xs) = none := by
        match xs, h2 with
        | [], _ => rfl
        | [_], _ => simp [stepF]
        | _ :: _ :: _ :: _, _ => simp [stepF]
      have l2 : cmpD .ne (.int (xs.length : Int)) (.int 2) L = some true := by
        simp only [cmpD, eqD, scal2, eqS, if_true, Option.map_some]
        congr 1
        simp; omega
      simp [runF, runB, startE, evSs, evS, evE, evA, evC, evI, evT, resOf, optV, opt, truD, storeT, storeG, storeGs, f_wrong_step, b_wrong_step, b_wrong_step_t1, b_wrong_step_t2, isiD, bltD, lenD, seqOf, l2, e]
  · have e : stepF many dn d = none := by cases d <;> first | rfl | (exact absurd ⟨_, rfl⟩ ht)
    have et : isiD L d .tuple = some false := by
      cases d <;> first | rfl | (exact absurd ⟨_, rfl⟩ ht) | (simp [noRef] at hN)
    rw [e]
    simp [runF, runB, startE, evSs, evS, evE, evA, evC, evI, evT, resOf, optV, opt, truD, storeT, storeG, storeGs, f_wrong_step, b_wrong_step, b_wrong_step_t1, b_wrong_step_t2, et]
/-- the index of the first step that cannot stand there -/
def fwsF (many : Option Int) : (Int → Bool) → Nat → List D → Option Nat
  | _, _, [] => none
  | dn, n, d :: ds => match stepF many dn d with
    | none => some n
    | some (i, b) => fwsF many (fun k => if k = i then b else dn k) (n + 1) ds
theorem step_shape {many : Option Int} {dn : Int → Bool} {d : D} {i : Int} {b : Bool} (h : stepF many dn d = some (i, b)) : d = .tup [.int i, .str (way b)] ∧ b = !(dn i) ∧ isInt (some 0) many (.int i) = true := by
  unfold stepF at h
  split at h
  · rename_i j w
    split at h
    · rename_i hi
      cases hw : wayD w with
      | none => rw [hw] at h; cases h
      | some c =>
        rw [hw] at h
        simp only at h
        split at h
        · rename_i hc
          simp only [Option.some.injEq, Prod.mk.injEq] at h
          obtain ⟨rfl, rfl⟩ := h
          refine ⟨?_, hc, hi⟩
          cases w <;> simp only [wayD] at hw <;> try cases hw
          rename_i s
          unfold wayS at hw
          split at hw
          · rename_i e; cases hw; rw [e]; rfl
          · split at hw
            · rename_i e; cases hw; rw [e]; rfl
            · cases hw
        · cases h
    · cases h
  · cases h
variable [HasFn T 21 f_first_wrong_step]
theorem fws_loop (k : Nat) (hk : 2 ≤ k) (L : Live) (st : D) (many : Option Int) : ∀ (ds : List D) (i : Nat) (kvs : List (Key × D)) (dn : Int → Bool) (x3 x4 : Option D), (∀ d ∈ ds, OkStep d) → (∀ x : Int, (getK (.inl x) kvs).isSome = dn x) → kvs.length + ds.length ≤ 1000 →
    ∃ kvs' y3 y4, forL [] (.tup [.slot 3, .slot 4]) (fun E' L' => evSs (T.cx k) b_first_wrong_step_0 E' L') ((ds.zipIdx i).map fun p => .tup [.int (p.2 : Nat), p.1]) [some st, some (optD many), some (.ref L.length), x3, x4] (L ++ [.dic kvs]) =
      .fl (match fwsF many dn i ds with | some j => .rt (.int j) | none => .nx) [some st, some (optD many), some (.ref L.length), y3, y4] (L ++ [.dic kvs'])
  | [], i, kvs, dn, x3, x4, _, _, _ => ⟨kvs, x3, x4, by simp [forL, fwsF]⟩
  | d :: ds, i, kvs, dn, x3, x4, ok, h1, hl => by
    have okd := ok d List.mem_cons_self
    have hn : (L ++ [LO.dic kvs])[L.length]? = some (.dic kvs) := by simp
    have cw : callW (T.cx k) 20 [.ref L.length, d, optD many] (L ++ [.dic kvs]) = .ok (.bl (stepF many dn d).isNone) (L ++ [.dic kvs]) := by
      rw [callW_nil, s_step_any (T := T) k hk _ L.length kvs hn dn h1 d okd many]
      rw [liv_of (HasFn.h (f := 20) (d := f_wrong_step))]
      simp [f_wrong_step, idsAs, idsF, noRef, hn, idsF_noRef, optD_noRef, okd.nr]
    have go1 : ∀ r : SRes, (evSs (T.cx k) b_first_wrong_step_0 [some st, some (optD many), some (.ref L.length), some (.int i), some d] (L ++ [.dic kvs]) = r) → forL [] (.tup [.slot 3, .slot 4]) (fun E' L' => evSs (T.cx k) b_first_wrong_step_0 E' L') (((d :: ds).zipIdx i).map fun p => .tup [.int (p.2 : Nat), p.1]) [some st, some (optD many), some (.ref L.length), x3, x4] (L ++ [.dic kvs]) =
        (match r with
        | .fl .nx E2 L2 => forL [] (.tup [.slot 3, .slot 4]) (fun E' L' => evSs (T.cx k) b_first_wrong_step_0 E' L') ((ds.zipIdx (i + 1)).map fun p => .tup [.int (p.2 : Nat), p.1]) E2 L2
        | .fl .ct E2 L2 => forL [] (.tup [.slot 3, .slot 4]) (fun E' L' => evSs (T.cx k) b_first_wrong_step_0 E' L') ((ds.zipIdx (i + 1)).map fun p => .tup [.int (p.2 : Nat), p.1]) E2 L2
        | .fl .bk E2 L2 => .fl .nx E2 L2
        | r => r) := fun r hr => by
      rw [List.zipIdx_cons, List.map_cons]
      simp only [forL, still_nil, if_true, storeG, storeGs, List.length_cons, List.length_nil, Nat.reduceAdd, Nat.reduceLT, List.set_cons_succ, List.set_cons_zero, hr] <;> (cases r <;> first | rfl | (rename_i f _ _; cases f <;> rfl))
    cases q : stepF many dn d with
    | none =>
      rw [q] at cw
      refine ⟨kvs, some (.int i), some d, ?_⟩
      rw [go1 (.fl (.rt (.int i)) [some st, some (optD many), some (.ref L.length), some (.int i), some d] (L ++ [.dic kvs]))]
      · simp [fwsF, q]
      · rw [b_first_wrong_step_0, ss_if_t (L1 := L ++ [.dic kvs]) (by simp [evT, evE, evA, cw, optV, truD]), ss_ret (d := .int i) (L1 := L ++ [.dic kvs]) (by simp [evE])]
        rfl
    | some ib =>
      obtain ⟨j, b⟩ := ib
      obtain ⟨ed, hb, _⟩ := step_shape q
      rw [q] at cw
      have e0 : ∀ M, idxD d (.int 0) M = some (.int j) := fun M => by rw [ed]; simp [idxD, seqOf, idxSeq, atI, ixN]
      have e1 : ∀ M, idxD d (.int 1) M = some (.str (way b)) := fun M => by rw [ed]; simp [idxD, seqOf, idxSeq, atI, ixN]
      have t1 : ∀ M, cmpD .eq (.str (way b)) (.str (Str.ofString "down")) M = some b := fun M => by simp [cmpD, eqD, scal2, eqS, way_down]
      have t2 : evT (T.cx k) (.cmp .eq (.idx (.var 4) (.con (.int 1))) (.con (.str (Str.ofString "down")))) [some st, some (optD many), some (.ref L.length), some (.int (i : Nat)), some d] (L ++ [.dic kvs]) = .ok b (L ++ [.dic kvs]) := by simp [evT, evE, e1, optV, t1, truD]
      cases hbb : b with
      | true =>
        rw [hbb] at t2
        have sd : setD (.ref L.length) (.int j) (.bl true) (L ++ [.dic kvs]) = some (L ++ [.dic (putKey (.inl j) (.bl true) kvs)]) := by
          simp only [setD, hn, MP.keyOf]
          rw [if_pos (decide_eq_true (Nat.lt_of_lt_of_le (show kvs.length < 1001 by omega) (small_line (by omega)))), List.set_append_right _ _ (Nat.le_refl _)]
          simp
        have pl := putKey_len (.inl j) (.bl true) kvs
        obtain ⟨kvs', y3, y4, ih⟩ := fws_loop k hk L st many ds (i + 1) (putKey (.inl j) (.bl true) kvs) (fun x => if x = j then b else dn x) (some (.int i)) (some d) (fun x hx => ok x (List.mem_cons_of_mem _ hx)) (fun x => by
          rw [getK_put]
          by_cases hx : x = j
          · simp [hx, hbb]
          · have : ¬ (Sum.inl x : Key) = .inl j := fun z => hx (Sum.inl.inj z)
            simp [hx, this, h1]) (by simp at hl; omega)
        refine ⟨kvs', y3, y4, ?_⟩
        rw [go1 (.fl .nx [some st, some (optD many), some (.ref L.length), some (.int i), some d] (L ++ [.dic (putKey (.inl j) (.bl true) kvs)]))]
        · simp only [fwsF, q]
          exact ih
        · rw [b_first_wrong_step_0, ss_if_n (L1 := L ++ [.dic kvs]) (by simp [evT, evE, evA, cw, optV, truD]), b_first_wrong_step_0_t1, ss_if_t t2]
          simp [runF, runB, startE, evSs, evS, evE, evA, evC, evI, evT, resOf, optV, opt, truD, storeT, storeG, storeGs, e0, sd]
      | false =>
        rw [hbb] at t2
        have hd : dn j = true := by rw [hbb] at hb; simpa using hb.symm
        have sd : delD (.ref L.length) (.int j) (L ++ [.dic kvs]) = some (L ++ [.dic (dropKey (.inl j) kvs)]) := by
          simp only [delD, hn, MP.keyOf]
          rw [if_pos (by rw [h1]; exact hd), List.set_append_right _ _ (Nat.le_refl _)]
          simp
        have pl := dropKey_len (.inl j) kvs
        obtain ⟨kvs', y3, y4, ih⟩ := fws_loop k hk L st many ds (i + 1) (dropKey (.inl j) kvs) (fun x => if x = j then b else dn x) (some (.int i)) (some d) (fun x hx => ok x (List.mem_cons_of_mem _ hx)) (fun x => by
          rw [getK_drop]
          by_cases hx : x = j
          · simp [hx, hbb]
          · have : ¬ (Sum.inl x : Key) = .inl j := fun z => hx (Sum.inl.inj z)
            simp [hx, this, h1]) (by simp at hl; omega)
        refine ⟨kvs', y3, y4, ?_⟩
        rw [go1 (.fl .nx [some st, some (optD many), some (.ref L.length), some (.int i), some d] (L ++ [.dic (dropKey (.inl j) kvs)]))]
        · simp only [fwsF, q]
          exact ih
        · rw [b_first_wrong_step_0, ss_if_n (L1 := L ++ [.dic kvs]) (by simp [evT, evE, evA, cw, optV, truD]), b_first_wrong_step_0_t1, ss_if_f t2]
          simp [runF, runB, startE, evSs, evS, evE, evA, evC, evI, evT, resOf, optV, opt, truD, storeT, storeG, storeGs, e0, sd]
theorem s_fws_any (k : Nat) (hk : 3 ≤ k) (L : Live) (t : Nat) (ds : List D) (many : Option Int) (hz : ds.length ≤ 1000) (ok : ∀ d ∈ ds, OkStep d) :
    (T.cx k).φ 21 [.lst t ds, optD many] L = .ok (optN (fwsF many (fun _ => false) 0 ds)) L := by
  obtain ⟨k, rfl⟩ : ∃ m, k = m + 1 := ⟨k - 1, by omega⟩
  rw [goCH 21 rfl rfl]
  obtain ⟨kvs, x3, x4, e⟩ := fws_loop (T := T) k (by omega) L (.lst t ds) many ds 0 [] (fun _ => false) none none ok (fun _ => rfl) (by simpa using hz)
  have e0 : evSs (T.cx k) b_first_wrong_step [some (.lst t ds), some (optD many), none, none, none] L = evSs (T.cx k) b_first_wrong_step_t1 [some (.lst t ds), some (optD many), some (.ref L.length), none, none] (L ++ [.dic []]) := by
    rw [b_first_wrong_step, ss_asg (E' := [some (.lst t ds), some (optD many), some (.ref L.length), none, none]) (d := .ref L.length) (L1 := L ++ [.dic []]) (by simp [evE]) rfl]
  have eI : evI (T.cx k) (.enum (.var 0)) [some (.lst t ds), some (optD many), some (.ref L.length), none, none] (L ++ [.dic []]) = .ok (enumD ds, []) (L ++ [.dic []]) := by simp [evI, evE, lstOf, optV, watch]
  show cleanR L (resOf (evSs (T.cx k) b_first_wrong_step [some (.lst t ds), some (optD many), none, none, none] L)) = _
  rw [e0]
  cases q : fwsF many (fun _ => false) 0 ds with
  | none =>
    rw [q] at e
    rw [b_first_wrong_step_t1, ss_for (w := []) (ds := enumD ds) (L1 := L ++ [.dic []]) eI e, b_first_wrong_step_t2, ss_ret (d := .non) (L1 := L ++ [.dic kvs]) (by simp [evE])]
    simp only [resOf, cleanR]
    rw [fz_ok (by rfl), cutL_app]
    rfl
  | some j =>
    rw [q] at e
    rw [b_first_wrong_step_t1, ss_for_rt (w := []) (ds := enumD ds) (L1 := L ++ [.dic []]) eI e]
    simp only [resOf, cleanR]
    rw [fz_ok (by rfl), cutL_app]
    rfl
end
end PB
set_option maxHeartbeats 2000000
namespace PB
open PySem hiding Act
open PySem.Spec PyProof.Rows L2 MP
def evtT : D → Option Int | .tup [.int t, _, _] => some t | _ => none
def tl : D → D | .tup (_ :: r) => .tup r | d => d
def lessP : Option Int → Int → Bool | none, _ => false | some p, t => decide (t < p)
def fweW : Option Int → Nat → List D → Option Nat
  | _, _, [] => none
  | prev, n, d :: ds => match evtT d with
    | none => some n
    | some t => if lessP prev t then some n else fweW (some t) (n + 1) ds
/-- the index of the first item that cannot stand there in a record -/
def recF (many : Option Int) : (Int → Bool) → Option Int → Nat → List D → Option Nat
  | _, _, _, [] => none
  | dn, prev, n, d :: ds => match evtT d with
    | none => some n
    | some t => if lessP prev t then some n else match stepF many dn (tl d) with
      | none => some n
      | some (i, b) => recF many (fun k => if k = i then b else dn k) (some t) (n + 1) ds
theorem evt_shape {d : D} {t : Int} (h : evtT d = some t) : ∃ y w, d = .tup [.int t, y, w] := by
  unfold evtT at h
  split at h
  · simp only [Option.some.injEq] at h
    subst h
    exact ⟨_, _, rfl⟩
  · cases h
def cutW (ds : List D) (n : Nat) : Option Nat → List D | none => ds | some w => ds.take (w - n)
theorem fweW_ge : ∀ {ds : List D} {prev : Option Int} {n w : Nat}, fweW prev n ds = some w → n ≤ w ∧ w < n + ds.length
  | [], _, _, _, h => by cases h
  | d :: ds, prev, n, w, h => by
    simp only [fweW] at h
    split at h
    · cases h; simp
    · split at h
      · cases h; simp
      · have := fweW_ge h
        simp; omega
theorem recF_eq (many : Option Int) : ∀ (ds : List D) (dn : Int → Bool) (prev : Option Int) (n : Nat),
    (match fwsF many dn n ((cutW ds n (fweW prev n ds)).map tl) with | none => fweW prev n ds | some e => some e) = recF many dn prev n ds
  | [], dn, prev, n => by simp [fweW, cutW, fwsF, recF]
  | d :: ds, dn, prev, n => by
    simp only [fweW, recF]
    cases q : evtT d with
    | none => simp [cutW, fwsF]
    | some t =>
      simp only
      cases hl : lessP prev t with
      | true => simp [cutW, fwsF]
      | false =>
        simp only [Bool.false_eq_true, if_false]
        have ih := fun i b => recF_eq many ds (fun k => if k = i then b else dn k) (some t) (n + 1)
        have ec : cutW (d :: ds) n (fweW (some t) (n + 1) ds) = d :: cutW ds (n + 1) (fweW (some t) (n + 1) ds) := by
          cases qw : fweW (some t) (n + 1) ds with
          | none => rfl
          | some w =>
            have := (fweW_ge qw).1
            simp only [cutW]
            rw [show w - n = (w - (n + 1)) + 1 by omega, List.take_succ_cons]
        rw [ec, List.map_cons]
        simp only [fwsF]
        cases qs : stepF many dn (tl d) with
        | none => rfl
        | some ib => exact ih ib.1 ib.2
section
variable {T : Tab} [HasFn T 0 f_is_integer]
abbrev condA : Ex := .or (.not (.isi (.var 4) .tuple)) (.or (.cmp .ne (.blt .len false (.cons (.var 4) .nil)) (.con (.int 3))) (.not (.call 0 (.cons (.idx (.var 4) (.con (.int 0))) (.cons (.con .non) (.cons (.con .non) .nil))))))
theorem ev_condA {k : Nat} (hk : 1 ≤ k) (E : Ev) (L : Live) (d : D) (hE : E[4]? = some (some d)) (hN : noRef d = true) : evT (T.cx k) condA E L = .ok (evtT d).isNone L := by
  by_cases ht : ∃ xs, d = .tup xs
  · obtain ⟨xs, rfl⟩ := ht
    by_cases h3 : xs.length = 3
    · obtain ⟨x, y, w, rfl⟩ : ∃ x y w, xs = [x, y, w] := by
        match xs, h3 with
        | [x, y, w], _ => exact ⟨x, y, w, rfl⟩
      simp only [noRef, noRefs, Bool.and_true, Bool.and_eq_true] at hN
      have cw : callW (T.cx k) 0 [x, .non, .non] L = .ok (.bl (isInt none none x)) L := c_int_any (T := T) (k := k) hk hN.1 none none L
      have l3 : cmpD .ne (.int 3) (.int 3) L = some false := by simp [cmpD, eqD, scal2, eqS]
      have e : (evtT (.tup [x, y, w])).isNone = !(isInt none none x) := by cases x <;> simp [evtT, isInt, inLo, inHi]
      rw [e]
      simp [evT, evE, evA, hE, isiD, bltD, lenD, seqOf, l3, idxD, idxSeq, atI, ixN, cw, optV, opt, truD]
    · have e : (evtT (.tup xs)).isNone = true := by
        match xs, h3 with
        | [], _ => rfl
        | [_], _ => simp [evtT]
        | [_, _], _ => simp [evtT]
        | _ :: _ :: _ :: _ :: _, _ => simp [evtT]
      have l3 : cmpD .ne (.int (xs.length : Int)) (.int 3) L = some true := by
        simp only [cmpD, eqD, scal2, eqS, if_true, Option.map_some]
        congr 1
        simp; omega
      rw [e]
      simp [evT, evE, evA, hE, isiD, bltD, lenD, seqOf, l3, optV, opt, truD]
  · have e : (evtT d).isNone = true := by cases d <;> first | rfl | (exact absurd ⟨_, rfl⟩ ht)
    have et : isiD L d .tuple = some false := by
      cases d <;> first | rfl | (exact absurd ⟨_, rfl⟩ ht) | (simp [noRef] at hN)
    rw [e]
    simp [evT, evE, evA, hE, et, optV, opt, truD]
theorem fwe_loop (k : Nat) (hk : 1 ≤ k) (L : Live) (tg : Nat) (full : List D) (many : Option Int) : ∀ (ds pre : List D) (prev : Option Int) (x3 x4 : Option D), full = pre ++ ds → (∀ d ∈ ds, noRef d = true) → (pre = [] ∧ prev = none ∨ ∃ d t, pre.getLast? = some d ∧ evtT d = some t ∧ prev = some t) →
    ∃ y3 y4, forL [] (.tup [.slot 3, .slot 4]) (fun E' L' => evSs (T.cx k) b_first_wrong_event_0 E' L') ((ds.zipIdx pre.length).map fun p => .tup [.int (p.2 : Nat), p.1]) [some (.lst tg full), some (optD many), some .non, x3, x4, none, none, none] L =
      .fl .nx [some (.lst tg full), some (optD many), some (optN (fweW prev pre.length ds)), y3, y4, none, none, none] L
  | [], pre, prev, x3, x4, _, _, _ => ⟨x3, x4, by simp [forL, fweW, optN]⟩
  | d :: ds, pre, prev, x3, x4, hf, hn, hp => by
    have nd := hn d List.mem_cons_self
    obtain ⟨i, hi⟩ : ∃ i, i = pre.length := ⟨_, rfl⟩
    rw [← hi]
    have go1 : ∀ r : SRes, (evSs (T.cx k) b_first_wrong_event_0 [some (.lst tg full), some (optD many), some .non, some (.int i), some d, none, none, none] L = r) → forL [] (.tup [.slot 3, .slot 4]) (fun E' L' => evSs (T.cx k) b_first_wrong_event_0 E' L') (((d :: ds).zipIdx i).map fun p => .tup [.int (p.2 : Nat), p.1]) [some (.lst tg full), some (optD many), some .non, x3, x4, none, none, none] L =
        (match r with
        | .fl .nx E2 L2 => forL [] (.tup [.slot 3, .slot 4]) (fun E' L' => evSs (T.cx k) b_first_wrong_event_0 E' L') ((ds.zipIdx (i + 1)).map fun p => .tup [.int (p.2 : Nat), p.1]) E2 L2
        | .fl .ct E2 L2 => forL [] (.tup [.slot 3, .slot 4]) (fun E' L' => evSs (T.cx k) b_first_wrong_event_0 E' L') ((ds.zipIdx (i + 1)).map fun p => .tup [.int (p.2 : Nat), p.1]) E2 L2
        | .fl .bk E2 L2 => .fl .nx E2 L2
        | r => r) := fun r hr => by
      rw [List.zipIdx_cons, List.map_cons]
      simp only [forL, still_nil, if_true, storeG, storeGs, List.length_cons, List.length_nil, Nat.reduceAdd, Nat.reduceLT, List.set_cons_succ, List.set_cons_zero, hr] <;> (cases r <;> first | rfl | (rename_i f _ _; cases f <;> rfl))
    have cA := ev_condA (T := T) hk [some (.lst tg full), some (optD many), some .non, some (.int i), some d, none, none, none] L d rfl nd
    have brk : evSs (T.cx k) b_first_wrong_event_0_t1 [some (.lst tg full), some (optD many), some (.int i), some (.int i), some d, none, none, none] L = .fl .bk [some (.lst tg full), some (optD many), some (.int i), some (.int i), some d, none, none, none] L := by
      rw [b_first_wrong_event_0_t1, ss_if_t (L1 := L) (by simp [evT, evE, cmpD, isNonD, optV, truD])]
      rfl
    cases q : evtT d with
    | none =>
      rw [q] at cA
      refine ⟨some (.int i), some d, ?_⟩
      rw [go1 (.fl .bk [some (.lst tg full), some (optD many), some (.int i), some (.int i), some d, none, none, none] L)]
      · simp [fweW, q, optN]
      · rw [b_first_wrong_event_0, ss_if_t cA, ss_asg (E' := [some (.lst tg full), some (optD many), some (.int i), some (.int i), some d, none, none, none]) (d := .int i) (L1 := L) (by simp [evE]) rfl, ss_nil, SRes.seq_nx]
        exact brk
    | some t =>
      rw [q] at cA
      obtain ⟨y, w, ed⟩ := evt_shape q
      have e0 : ∀ M, idxD d (.int 0) M = some (.int t) := fun M => by rw [ed]; simp [idxD, seqOf, idxSeq, atI, ixN]
      have cB : evT (T.cx k) (.and (.cmp .gt (.var 3) (.con (.int 0))) (.cmp .lt (.idx (.var 4) (.con (.int 0))) (.idx (.idx (.var 0) (.bin .sub false (.var 3) (.con (.int 1)))) (.con (.int 0))))) [some (.lst tg full), some (optD many), some .non, some (.int i), some d, none, none, none] L = .ok (lessP prev t) L := by
        rcases hp with ⟨rfl, rfl⟩ | ⟨d0, t0, hl, h0, rfl⟩
        · have e0 : i = 0 := by rw [hi]; rfl
          subst e0
          simp [evT, evE, evA, optV, truD, cmpD, ordI, lessP]
        · have pos : 0 < i := by
            rw [hi]
            cases pre with
            | nil => simp at hl
            | cons _ _ => simp
          have ix : idxD (.lst tg full) (.int ((i : Int) - 1)) L = some d0 := by
            rw [show (i : Int) - 1 = ((i - 1 : Nat) : Int) by omega]
            simp only [idxD, seqOf, lstOf, idxSeq]
            rw [atI_nat (v := d0)]
            rw [hf, List.getElem?_append_left (by omega)]
            rw [List.getLast?_eq_getElem?] at hl
            rw [hi]; exact hl
          obtain ⟨y0, w0, ed0⟩ := evt_shape h0
          have e00 : ∀ M, idxD d0 (.int 0) M = some (.int t0) := fun M => by rw [ed0]; simp [idxD, seqOf, idxSeq, atI, ixN]
          have c0 : cmpD .gt (.int (i : Int)) (.int 0) L = some true := by
            simp only [cmpD, ordI]
            congr 1
            exact decide_eq_true (by omega)
          have lt : cmpD .lt (.int t) (.int t0) L = some (lessP (some t0) t) := rfl
          simp [evT, evE, evA, optV, truD, c0, e0, binD, opt, ix, e00, lt]
      cases hl : lessP prev t with
      | true =>
        rw [hl] at cB
        refine ⟨some (.int i), some d, ?_⟩
        rw [go1 (.fl .bk [some (.lst tg full), some (optD many), some (.int i), some (.int i), some d, none, none, none] L)]
        · simp [fweW, q, optN, hl]
        · rw [b_first_wrong_event_0, ss_if_f cA, ss_if_t cB, ss_asg (E' := [some (.lst tg full), some (optD many), some (.int i), some (.int i), some d, none, none, none]) (d := .int i) (L1 := L) (by simp [evE]) rfl, ss_nil, SRes.seq_nx, ss_nil, SRes.seq_nx]
          exact brk
      | false =>
        rw [hl] at cB
        obtain ⟨y3, y4, ih⟩ := fwe_loop k hk L tg full many ds (pre ++ [d]) (some t) (some (.int i)) (some d) (by simp [hf]) (fun x hx => hn x (List.mem_cons_of_mem _ hx)) (.inr ⟨d, t, by simp, q, rfl⟩)
        rw [show (pre ++ [d]).length = i + 1 by simp [hi]] at ih
        refine ⟨y3, y4, ?_⟩
        rw [go1 (.fl .nx [some (.lst tg full), some (optD many), some .non, some (.int i), some d, none, none, none] L)]
        · simp only [fweW, q, hl, Bool.false_eq_true, if_false]
          exact ih
        · rw [b_first_wrong_event_0, ss_if_f cA, ss_if_n cB, ss_nil, SRes.seq_nx, b_first_wrong_event_0_t1, ss_if_n (L1 := L) (by simp [evT, evE, cmpD, isNonD, optV, truD]), ss_nil]
variable [HasFn T 20 f_wrong_step] [HasFn T 21 f_first_wrong_step] [HasFn T 22 f_first_wrong_event]
structure OkEvt (d : D) : Prop where
  nr : noRef d = true
  w : ∀ x y w, d = .tup [x, y, w] → okW w
theorem tl_ok {d : D} (h : OkEvt d) {t : Int} (q : evtT d = some t) : OkStep (tl d) := by
  obtain ⟨y, w, rfl⟩ := evt_shape q
  have hn := h.nr
  simp only [noRef, noRefs, Bool.and_true, Bool.true_and] at hn
  refine ⟨?_, fun x w' e => ?_⟩
  · simpa [tl, noRef, noRefs] using hn
  · simp only [tl, D.tup.injEq, List.cons.injEq, and_true] at e
    rw [← e.2]
    exact h.w _ _ _ rfl
theorem fweW_pre : ∀ {ds : List D} {prev : Option Int} {n : Nat}, ∀ d ∈ cutW ds n (fweW prev n ds), ∃ t, evtT d = some t
  | [], prev, n, d, h => by simp [fweW, cutW] at h
  | d0 :: ds, prev, n, d, h => by
    simp only [fweW] at h
    cases q : evtT d0 with
    | none => rw [q] at h; simp [cutW] at h
    | some t =>
      rw [q] at h
      simp only at h
      split at h
      · simp [cutW] at h
      · have ec : cutW (d0 :: ds) n (fweW (some t) (n + 1) ds) = d0 :: cutW ds (n + 1) (fweW (some t) (n + 1) ds) := by
          cases qw : fweW (some t) (n + 1) ds with
          | none => rfl
          | some w =>
            have := (fweW_ge qw).1
            simp only [cutW]
            rw [show w - n = (w - (n + 1)) + 1 by omega, List.take_succ_cons]
        rw [ec] at h
        rcases List.mem_cons.mp h with rfl | h
        · exact ⟨t, q⟩
        · exact fweW_pre d h
theorem s_fwe_any (k : Nat) (hk : 4 ≤ k) (L : Live) (tg : Nat) (ds : List D) (many : Option Int) (hz : ds.length ≤ 1000) (ok : ∀ d ∈ ds, OkEvt d) :
    (T.cx k).φ 22 [.lst tg ds, optD many] L = .ok (optN (recF many (fun _ => false) none 0 ds)) L := by
  obtain ⟨k, rfl⟩ : ∃ m, k = m + 1 := ⟨k - 1, by omega⟩
  obtain ⟨x3, x4, e⟩ := fwe_loop (T := T) k (by omega) L tg ds many ds [] none none none rfl (fun d hd => (ok d hd).nr) (.inl ⟨rfl, rfl⟩)
  simp only [List.length_nil] at e
  have hsub : ∀ d ∈ cutW ds 0 (fweW none 0 ds), d ∈ ds := fun d hd => by
    cases q : fweW none 0 ds with
    | none => rw [q] at hd; exact hd
    | some w => rw [q] at hd; exact List.mem_of_mem_take hd
  have eI : evI (T.cx k) (.enum (.var 0)) [some (.lst tg ds), some (optD many), some .non, none, none, none, none, none] L = .ok (enumD ds, []) L := by simp [evI, evE, lstOf, optV, watch]
  -- the steps
  have hcl : (cutW ds 0 (fweW none 0 ds)).length ≤ ds.length := by
    cases q : fweW none 0 ds with
    | none => exact Nat.le_refl _
    | some w => simp [cutW]; omega
  have st : ∀ x3 : Option D, compL [] (.slot 4) [some (.lst tg ds), some (optD many), some (optN (fweW none 0 ds)), x3, none, none, none, none] (fun _ L' => .ok true L') (fun E' L' => evE (T.cx k) b_first_wrong_event_1 E' L') (cutW ds 0 (fweW none 0 ds)) [] L = .ok ((cutW ds 0 (fweW none 0 ds)).map tl) L := fun x3 => by
    refine compL_map rfl (Nat.le_trans hcl (small_line (by omega))) fun d hd => ?_
    obtain ⟨t, ht⟩ := fweW_pre d hd
    obtain ⟨y, w, rfl⟩ := evt_shape ht
    exact ⟨_, rfl, rfl, by simp [b_first_wrong_event_1, evE, isAbs, MP.part, optV, opt, slcP, MP.cutD, HT.sIx, tl]⟩
  have ev2 : evI (T.cx k) (.val (.ite (.cmp .is_ (.var 2) (.con .non)) (.var 0) (.slc false (.var 0) (.con .non) (.var 2)))) [some (.lst tg ds), some (optD many), some (optN (fweW none 0 ds)), x3, x4, none, none, none] L = .ok (cutW ds 0 (fweW none 0 ds), []) L := by
    cases q : fweW none 0 ds with
    | none => simp [evI, evE, optN, cmpD, isNonD, optV, truD, itemsOf, seqOf, lstOf, watch, cutW]
    | some w =>
      have hw := (fweW_ge q).2
      have ct : MP.cutD ds none (some (w : Int)) = ds.take w := by
        have h0 : ¬ (w : Int) < 0 := by omega
        simp [MP.cutD, HT.sIx, h0]
      simp [evI, evE, optN, cmpD, isNonD, optV, truD, itemsOf, seqOf, lstOf, watch, cutW, isAbs, MP.part, opt, slcP, newL, ct]
  have cw : callW (T.cx k) 21 [.lst 0 ((cutW ds 0 (fweW none 0 ds)).map tl), optD many] L = .ok (optN (fwsF many (fun _ => false) 0 ((cutW ds 0 (fweW none 0 ds)).map tl))) L := by
    have oks : ∀ d ∈ (cutW ds 0 (fweW none 0 ds)).map tl, OkStep d := fun d hd => by
      obtain ⟨x, hx, rfl⟩ := List.mem_map.mp hd
      obtain ⟨t, ht⟩ := fweW_pre x hx
      exact tl_ok (ok x (hsub x hx)) ht
    rw [callW_pure, s_fws_any (T := T) k (by omega) L 0 _ many (by rw [List.length_map]; omega) oks]
    simp only [noRefs, noRef, optD_noRef, Bool.and_true]
    exact noRefs_of fun d hd => (oks d hd).nr
  rw [phiH 22]
  simp only [runF, runB, f_first_wrong_event, List.length_cons, List.length_nil, Bool.false_eq_true, if_false, if_true]
  show resOf (evSs (T.cx k) b_first_wrong_event [some (.lst tg ds), some (optD many), none, none, none, none, none, none] L) = _
  rw [b_first_wrong_event, ss_asg (E' := [some (.lst tg ds), some (optD many), some .non, none, none, none, none, none]) (d := .non) (L1 := L) (by simp [evE]) rfl,
    b_first_wrong_event_t1, ss_for (w := []) (ds := enumD ds) (L1 := L) eI e]
  have ec : evE (T.cx k) (.comp false [7, 4] (.slot 4) (.val (.ite (.cmp .is_ (.var 2) (.con .non)) (.var 0) (.slc false (.var 0) (.con .non) (.var 2)))) .nil b_first_wrong_event_1) [some (.lst tg ds), some (optD many), some (optN (fweW none 0 ds)), x3, x4, none, none, none] L = .ok (.lst 0 ((cutW ds 0 (fweW none 0 ds)).map tl)) L := by
    rw [evE, ev2, Res.bind_ok]
    have st' : compL ([] : List (Nat × List D)) (.slot 4) (wipeE [some (.lst tg ds), some (optD many), some (optN (fweW none 0 ds)), x3, x4, none, none, none] [7, 4]) (fun E' L' => evC (T.cx k) .nil E' L') (fun E' L' => evE (T.cx k) b_first_wrong_event_1 E' L') (cutW ds 0 (fweW none 0 ds)) [] L = .ok ((cutW ds 0 (fweW none 0 ds)).map tl) L := st x3
    rw [st']
    rfl
  rw [b_first_wrong_event_t2, ss_asg (E' := [some (.lst tg ds), some (optD many), some (optN (fweW none 0 ds)), x3, x4, some (.lst 0 ((cutW ds 0 (fweW none 0 ds)).map tl)), none, none]) ec rfl,
    b_first_wrong_event_t3, ss_asg (E' := [some (.lst tg ds), some (optD many), some (optN (fweW none 0 ds)), x3, x4, some (.lst 0 ((cutW ds 0 (fweW none 0 ds)).map tl)), some (optN (fwsF many (fun _ => false) 0 ((cutW ds 0 (fweW none 0 ds)).map tl))), none]) (d := optN (fwsF many (fun _ => false) 0 ((cutW ds 0 (fweW none 0 ds)).map tl))) (L1 := L) (by simp [evE, evA, cw]) rfl,
    b_first_wrong_event_t4]
  have key := recF_eq many ds (fun _ => false) none 0
  rw [← key]
  generalize fwsF many (fun _ => false) 0 ((cutW ds 0 (fweW none 0 ds)).map tl) = z
  cases z with
  | none => rw [ss_ret (d := optN (fweW none 0 ds)) (L1 := L) (by simp [evE, optN, cmpD, isNonD, optV, truD])]; rfl
  | some j => rw [ss_ret (d := .int j) (L1 := L) (by simp [evE, optN, cmpD, isNonD, optV, truD])]; rfl
/-- is_events of any value -/
def evsB : D → Bool | .lst _ ds => decide (ds.length ≤ 400) | _ => false
omit [HasFn T 0 f_is_integer] [HasFn T 20 f_wrong_step] [HasFn T 21 f_first_wrong_step] [HasFn T 22 f_first_wrong_event] in
theorem s_events_any [HasFn T 23 f_is_events] (k : Nat) (hk : 1 ≤ k) (L : Live) (d : D) (h : noRef d = true) : (T.cx k).φ 23 [d] L = .ok (.bl (evsB d)) L := by
  obtain ⟨k, rfl⟩ : ∃ m, k = m + 1 := ⟨k - 1, by omega⟩
  rw [phiH 23]
  by_cases hl : ∃ t ds, d = .lst t ds
  · obtain ⟨t, ds, rfl⟩ := hl
    have le : cmpD .le (.int (ds.length : Int)) (.int 400) L = some (decide (ds.length ≤ 400)) := by
      simp only [cmpD, ordI]
      congr 1
      simp; omega
    simp [runF, runB, startE, evSs, evS, evE, evA, evC, evI, evT, resOf, optV, opt, truD, storeT, storeG, storeGs, f_is_events, b_is_events, isiD, bltD, lenD, seqOf, lstOf, le, evsB]
  · have e : evsB d = false := by cases d <;> first | rfl | (exact absurd ⟨_, _, rfl⟩ hl)
    have et : isiD L d .list = some false := by
      cases d <;> first | rfl | (exact absurd ⟨_, _, rfl⟩ hl) | (simp [noRef] at h)
    rw [e]
    simp [runF, runB, startE, evSs, evS, evE, evA, evC, evI, evT, resOf, optV, opt, truD, storeT, storeG, storeGs, f_is_events, b_is_events, et]
variable [HasFn T 23 f_is_events] [HasFn T 43 f_is_record] [HasFn T 44 f_is_order]
def recB : D → Bool | .lst _ ds => decide (ds.length ≤ 400) && (recF none (fun _ => false) none 0 ds).isNone | _ => false
def ordB : D → Bool | .lst _ ds => decide (ds.length ≤ 400) && (fwsF none (fun _ => false) 0 ds).isNone | _ => false
theorem is_optN (o : Option Nat) (L : Live) : cmpD .is_ (optN o) .non L = some o.isNone := by cases o <;> simp [optN, cmpD, isNonD]
omit [HasFn T 44 f_is_order] in
theorem s_is_record_any (k : Nat) (hk : 5 ≤ k) (L : Live) (d : D) (h : noRef d = true) (ok : ∀ t ds, d = .lst t ds → ∀ x ∈ ds, OkEvt x) : (T.cx k).φ 43 [d] L = .ok (.bl (recB d)) L := by
  obtain ⟨k, rfl⟩ : ∃ m, k = m + 1 := ⟨k - 1, by omega⟩
  have c1 : callW (T.cx k) 23 [d] L = .ok (.bl (evsB d)) L := by rw [callW_pure (by simp [noRefs, h]), s_events_any (T := T) k (by omega) L d h]
  rw [phiH 43]
  by_cases hl : ∃ t ds, d = .lst t ds
  · obtain ⟨t, ds, rfl⟩ := hl
    by_cases hz : ds.length ≤ 400
    · have c2 : callW (T.cx k) 22 [.lst t ds, .non] L = .ok (optN (recF none (fun _ => false) none 0 ds)) L := by
        rw [callW_pure (by simp [noRefs, h]; rfl)]
        exact s_fwe_any (T := T) k (by omega) L t ds none (by omega) (ok t ds rfl)
      simp [runF, runB, startE, evSs, evS, evE, evA, evC, evI, evT, resOf, optV, opt, truD, storeT, storeG, storeGs, f_is_record, b_is_record, c1, evsB, hz, c2, is_optN, recB]
    · simp [runF, runB, startE, evSs, evS, evE, evA, evC, evI, evT, resOf, optV, opt, truD, storeT, storeG, storeGs, f_is_record, b_is_record, c1, evsB, hz, recB]
  · have e : evsB d = false := by cases d <;> first | rfl | (exact absurd ⟨_, _, rfl⟩ hl)
    have e2 : recB d = false := by cases d <;> first | rfl | (exact absurd ⟨_, _, rfl⟩ hl)
    rw [e2]
    simp [runF, runB, startE, evSs, evS, evE, evA, evC, evI, evT, resOf, optV, opt, truD, storeT, storeG, storeGs, f_is_record, b_is_record, c1, e]
omit [HasFn T 22 f_first_wrong_event] [HasFn T 43 f_is_record] in
theorem s_is_order_any (k : Nat) (hk : 5 ≤ k) (L : Live) (d : D) (h : noRef d = true) (ok : ∀ t ds, d = .lst t ds → ∀ x ∈ ds, OkStep x) : (T.cx k).φ 44 [d] L = .ok (.bl (ordB d)) L := by
  obtain ⟨k, rfl⟩ : ∃ m, k = m + 1 := ⟨k - 1, by omega⟩
  have c1 : callW (T.cx k) 23 [d] L = .ok (.bl (evsB d)) L := by rw [callW_pure (by simp [noRefs, h]), s_events_any (T := T) k (by omega) L d h]
  rw [phiH 44]
  by_cases hl : ∃ t ds, d = .lst t ds
  · obtain ⟨t, ds, rfl⟩ := hl
    by_cases hz : ds.length ≤ 400
    · have c2 : callW (T.cx k) 21 [.lst t ds, .non] L = .ok (optN (fwsF none (fun _ => false) 0 ds)) L := by
        rw [callW_pure (by simp [noRefs, h]; rfl)]
        exact s_fws_any (T := T) k (by omega) L t ds none (by omega) (ok t ds rfl)
      simp [runF, runB, startE, evSs, evS, evE, evA, evC, evI, evT, resOf, optV, opt, truD, storeT, storeG, storeGs, f_is_order, b_is_order, c1, evsB, hz, c2, is_optN, ordB]
    · simp [runF, runB, startE, evSs, evS, evE, evA, evC, evI, evT, resOf, optV, opt, truD, storeT, storeG, storeGs, f_is_order, b_is_order, c1, evsB, hz, ordB]
  · have e : evsB d = false := by cases d <;> first | rfl | (exact absurd ⟨_, _, rfl⟩ hl)
    have e2 : ordB d = false := by cases d <;> first | rfl | (exact absurd ⟨_, _, rfl⟩ hl)
    rw [e2]
    simp [runF, runB, startE, evSs, evS, evE, evA, evC, evI, evT, resOf, optV, opt, truD, storeT, storeG, storeGs, f_is_order, b_is_order, c1, e]
end
end PB
set_option maxHeartbeats 2000000
namespace PB
open PySem hiding Act
open PySem.Spec PyProof.Rows L2 MP
/-! _law_record: 0=_law_reel_here 1=_law_keys 2=_law_size 3=_law_gaps 4=_law_found 5=_law_down 6=_law_tick 7=_law_turn 8=_law_key -/
def b__law_record_0 : Ss := (.cons (.asg (.nm (.slot 8)) (.call 101 (.cons (.var 0) (.cons (.var 1) .nil)))) (.cons (.ite (.and (.cmp .ne (.var 5) (.lst false .nil)) (.cmp .eq (.call 101 (.cons (.var 0) (.cons (.con (.int 2)) .nil))) (.con (.int 0)))) (.cons (.asg (.nm (.slot 8)) (.idx (.var 5) (.call 101 (.cons (.var 0) (.cons (.blt .len false (.cons (.var 5) .nil)) .nil))))) .nil) .nil) (.cons (.asg (.nm (.slot 6)) (.bin .add false (.var 6) (.idx (.var 3) (.call 101 (.cons (.var 0) (.cons (.blt .len false (.cons (.var 3) .nil)) .nil)))))) (.cons (.ite (.cmp .in_ (.var 8) (.var 5)) (.cons (.ex (.mth .remove (.var 5) (.cons (.var 8) .nil))) (.cons (.ex (.mth .append (.var 4) (.cons (.tup (.cons (.var 6) (.cons (.var 8) (.cons (.con (.str (Str.ofString "up"))) .nil)))) .nil))) .nil)) (.cons (.ex (.mth .append (.var 5) (.cons (.var 8) .nil))) (.cons (.ex (.mth .append (.var 4) (.cons (.tup (.cons (.var 6) (.cons (.var 8) (.cons (.con (.str (Str.ofString "down"))) .nil)))) .nil))) .nil))) .nil))))
def b__law_record : Ss := (.cons (.par [4, 5, 6] (.cons (.lst true .nil) (.cons (.lst true .nil) (.cons (.idx (.lst false (.cons (.con (.int 0)) (.cons (.bin .sub false (.con (.int 0)) (.bin .pow false (.con (.int 10)) (.con (.int 15)))) (.cons (.call 101 (.cons (.var 0) (.cons (.bin .pow false (.con (.int 10)) (.con (.int 14))) .nil))) .nil)))) (.call 101 (.cons (.var 0) (.cons (.con (.int 3)) .nil)))) .nil)))) (.cons (.for_ (.slot 7) (.rng1 (.var 2)) b__law_record_0) (.cons (.ret (.var 4)) .nil)))
def f__law_record : Fn := ⟨4, 9, [true, false, false, false], false, b__law_record⟩

/-! _law_is_number: 0=_law_value 1=_law_least 2=_law_most -/
def b__law_is_number : Ss := (.cons (.ret (.and (.isi (.var 0) .int) (.and (.not (.isi (.var 0) .bool)) (.chn .le .le (.var 1) (.var 0) (.var 2))))) .nil)
def f__law_is_number : Fn := ⟨3, 3, [], false, b__law_is_number⟩

/-! _law_record_fault: 0=_law_value 1=_law_keys 2=_law_down 3=_law_before 4=_law_far 5=_law_index 6=_law_item 7=_law_tick 8=_law_key 9=_law_way -/
def b__law_record_fault_0 : Ss := (.cons (.ite (.or (.not (.isi (.var 6) .tuple)) (.or (.cmp .ne (.blt .len false (.cons (.var 6) .nil)) (.con (.int 3))) (.not (.call 121 (.cons (.idx (.var 6) (.con (.int 0))) (.cons (.bin .sub false (.con (.int 0)) (.var 4)) (.cons (.var 4) .nil))))))) (.cons (.ret (.var 5)) .nil) .nil) (.cons (.asg (.nm (.tup [(.slot 7), (.slot 8), (.slot 9)])) (.var 6)) (.cons (.ite (.or (.and (.cmp .isn (.var 3) (.con .non)) (.cmp .lt (.var 7) (.var 3))) (.not (.call 121 (.cons (.var 8) (.cons (.con (.int 0)) (.cons (.bin .sub false (.var 1) (.con (.int 1))) .nil)))))) (.cons (.ret (.var 5)) .nil) .nil) (.cons (.ite (.or (.not (.isi (.var 9) .str)) (.cmp .ne (.var 9) (.idx (.lst false (.cons (.con (.str (Str.ofString "down"))) (.cons (.con (.str (Str.ofString "up"))) .nil))) (.blt .int false (.cons (.cmp .in_ (.var 8) (.var 2)) .nil))))) (.cons (.ret (.var 5)) .nil) .nil) (.cons (.asg (.nm (.slot 3)) (.var 7)) (.cons (.ite (.cmp .eq (.var 9) (.con (.str (Str.ofString "down")))) (.cons (.ex (.mth .append (.var 2) (.cons (.var 8) .nil))) .nil) (.cons (.ex (.mth .remove (.var 2) (.cons (.var 8) .nil))) .nil)) .nil))))))
def b__law_record_fault : Ss := (.cons (.ite (.or (.not (.isi (.var 0) .list)) (.cmp .gt (.blt .len false (.cons (.var 0) .nil)) (.con (.int 400)))) (.cons (.ret (.con .non)) .nil) .nil) (.cons (.par [2, 3, 4] (.cons (.lst true .nil) (.cons (.con .non) (.cons (.bin .mul false (.bin .pow false (.con (.int 10)) (.con (.int 60))) (.bin .pow false (.con (.int 10)) (.con (.int 60)))) .nil)))) (.cons (.for_ (.tup [(.slot 5), (.slot 6)]) (.enum (.var 0)) b__law_record_fault_0) (.cons (.ret (.con (.str (Str.ofString "fine")))) .nil))))
def f__law_record_fault : Fn := ⟨2, 10, [], true, b__law_record_fault⟩

/-! _law_order_fault: 0=_law_value 1=_law_keys 2=_law_found 3=_law_item 4=_law_due -/
def b__law_order_fault_0 : Ss := (.cons (.ite (.or (.not (.isi (.var 3) .tuple)) (.cmp .ne (.blt .len false (.cons (.var 3) .nil)) (.con (.int 2)))) (.cons .brk .nil) .nil) (.cons (.ex (.mth .append (.var 2) (.cons (.bin .add false (.tup (.cons (.con (.int 0)) .nil)) (.var 3)) .nil))) .nil))
def b__law_order_fault : Ss := (.cons (.ite (.or (.not (.isi (.var 0) .list)) (.cmp .gt (.blt .len false (.cons (.var 0) .nil)) (.con (.int 400)))) (.cons (.ret (.con .non)) .nil) .nil) (.cons (.asg (.nm (.slot 2)) (.lst true .nil)) (.cons (.for_ (.slot 3) (.val (.var 0)) b__law_order_fault_0) (.cons (.asg (.nm (.slot 4)) (.call 122 (.cons (.var 2) (.cons (.var 1) .nil)))) (.cons (.ret (.ite (.and (.cmp .eq (.var 4) (.con (.str (Str.ofString "fine")))) (.cmp .lt (.blt .len false (.cons (.var 2) .nil)) (.blt .len false (.cons (.var 0) .nil)))) (.blt .len false (.cons (.var 2) .nil)) (.var 4))) .nil)))))
def f__law_order_fault : Fn := ⟨2, 5, [], true, b__law_order_fault⟩

/-! _law_odd_events: 0=_law_tick 1=_law_key 2=_law_way 3=_law_other 4=_law_some 5=.0 6=_law_one -/
def b__law_odd_events_0 : Ex := (.tup (.cons (.var 6) (.cons (.var 1) (.cons (.var 2) .nil))))
def b__law_odd_events_1 : Ex := (.tup (.cons (.var 0) (.cons (.var 6) (.cons (.var 2) .nil))))
def b__law_odd_events : Ss := (.cons (.asg (.nm (.slot 3)) (.idx (.lst false (.cons (.con (.str (Str.ofString "down"))) (.cons (.con (.str (Str.ofString "up"))) .nil))) (.blt .int false (.cons (.cmp .eq (.var 2) (.con (.str (Str.ofString "down")))) .nil)))) (.cons (.asg (.nm (.slot 4)) (.lst false (.cons (.con .non) (.cons (.con (.int 0)) (.cons (.con (.str (Str.ofString ""))) (.cons (.tup .nil) (.cons (.dct [] .nil) (.cons (.lst false (.cons (.var 0) (.cons (.var 1) (.cons (.var 2) .nil)))) (.cons (.tup (.cons (.var 0) (.cons (.var 1) .nil))) (.cons (.tup (.cons (.var 0) (.cons (.var 1) (.cons (.var 2) (.cons (.var 2) .nil))))) (.cons (.tup (.cons (.var 1) (.cons (.var 2) .nil))) (.cons (.tup (.cons (.var 0) (.cons (.var 1) (.cons (.var 3) .nil)))) .nil)))))))))))) (.cons (.asg (.nm (.slot 4)) (.bin .add false (.var 4) (.comp false [5, 6] (.slot 6) (.val (.lst false (.cons (.con .non) (.cons (.con (.bl true)) (.cons (.con (.str (Str.ofString "0"))) (.cons (.tup (.cons (.var 0) .nil)) (.cons (.lst false (.cons (.var 0) .nil)) (.cons (.bin .sub false (.var 0) (.con (.int 1))) (.cons (.bin .sub false (.var 0) (.bin .pow false (.con (.int 10)) (.con (.int 15)))) (.cons (.bin .pow false (.con (.int 10)) (.con (.int 60))) .nil)))))))))) .nil b__law_odd_events_0))) (.cons (.asg (.nm (.slot 4)) (.bin .add false (.var 4) (.comp false [5, 6] (.slot 6) (.val (.lst false (.cons (.con .non) (.cons (.con (.bl true)) (.cons (.con (.bl false)) (.cons (.neg (.con (.int 1))) (.cons (.con (.str (Str.ofString "0"))) (.cons (.lst false (.cons (.var 1) .nil)) (.cons (.tup (.cons (.var 1) .nil)) (.cons (.dct [] .nil) (.cons (.bin .pow false (.con (.int 10)) (.con (.int 30))) .nil))))))))))) .nil b__law_odd_events_1))) (.cons (.asg (.nm (.slot 4)) (.bin .add false (.var 4) (.lst false (.cons (.tup (.cons (.var 0) (.cons (.bin .pow false (.con (.int 10)) (.con (.int 30))) (.cons (.con (.str (Str.ofString "down"))) .nil)))) (.cons (.tup (.cons (.var 0) (.cons (.var 1) (.cons (.con .non) .nil)))) (.cons (.tup (.cons (.var 0) (.cons (.var 1) (.cons (.con (.str (Str.ofString "Down"))) .nil)))) (.cons (.tup (.cons (.var 0) (.cons (.var 1) (.cons (.con (.str (Str.ofString ""))) .nil)))) (.cons (.tup (.cons (.var 0) (.cons (.var 1) (.cons (.con (.int 0)) .nil)))) .nil)))))))) (.cons (.ret (.bin .add false (.var 4) (.lst false (.cons (.tup (.cons (.var 0) (.cons (.var 1) (.cons (.lst false (.cons (.con (.str (Str.ofString "down"))) .nil)) .nil)))) (.cons (.tup (.cons (.var 0) (.cons (.var 1) (.cons (.tup (.cons (.con (.str (Str.ofString "down"))) .nil)) .nil)))) (.cons (.tup (.cons (.var 2) (.cons (.var 1) (.cons (.var 0) .nil)))) (.cons (.tup (.cons (.var 0) (.cons (.var 2) (.cons (.var 1) .nil)))) (.cons (.tup (.cons (.var 0) (.cons (.var 1) (.cons (.con (.bl true)) .nil)))) .nil)))))))) .nil))))))
def f__law_odd_events : Fn := ⟨3, 7, [], false, b__law_odd_events⟩

/-! _law_next_event: 0=_law_record_here 1=_law_at 2=_law_key 3=_law_tick 4=_law_many 5=.0 6=_law_event -/
def b__law_next_event_0 : Ex := (.cmp .eq (.idx (.var 6) (.con (.int 1))) (.var 2))
def b__law_next_event_1 : Ex := (.con (.int 1))
def b__law_next_event : Ss := (.cons (.asg (.nm (.slot 3)) (.ite (.cmp .gt (.var 1) (.con (.int 0))) (.idx (.idx (.var 0) (.bin .sub false (.var 1) (.con (.int 1)))) (.con (.int 0))) (.ite (.cmp .ne (.var 0) (.lst false .nil)) (.idx (.idx (.var 0) (.con (.int 0))) (.con (.int 0))) (.con (.int 0))))) (.cons (.asg (.nm (.slot 4)) (.blt .len false (.cons (.comp false [5, 6] (.slot 6) (.val (.slc false (.var 0) (.con .non) (.var 1))) (.cons b__law_next_event_0 .nil) b__law_next_event_1) .nil))) (.cons (.ret (.tup (.cons (.var 3) (.cons (.var 2) (.cons (.idx (.lst false (.cons (.con (.str (Str.ofString "down"))) (.cons (.con (.str (Str.ofString "up"))) .nil))) (.bin .mod false (.var 4) (.con (.int 2)))) .nil))))) .nil)))
def f__law_next_event : Fn := ⟨3, 7, [], false, b__law_next_event⟩

/-! ### drawn records -/
def altS (d : Int → Bool) : List Evt → (Int → Bool)
  | [] => d
  | e :: r => altS (fun k => if k = e.key then e.dn else d k) r
theorem alt_app : ∀ (rec : List Evt) (d : Int → Bool) (e : Evt), Alt d rec → e.dn = !(altS d rec e.key) → Alt d (rec ++ [e])
  | [], d, e, _, h => ⟨h, trivial⟩
  | x :: rec, d, e, h, h2 => ⟨h.1, alt_app rec _ e h.2 h2⟩
theorem altS_app : ∀ (rec : List Evt) (d : Int → Bool) (e : Evt), altS d (rec ++ [e]) = fun k => if k = e.key then e.dn else altS d rec k
  | [], d, e => rfl
  | x :: rec, d, e => altS_app rec _ e
theorem intsR_noRef (ks : List Int) : noRefs (ks.map D.int) = true := noRefs_of fun d hd => by obtain ⟨z, _, rfl⟩ := List.mem_map.mp hd; rfl
theorem toPys_intsR : ∀ ks : List Int, toPys (ks.map D.int) = some (ks.map PyData.int)
  | [] => rfl
  | i :: ks => by simp [toPys, toPy, toPys_intsR ks]
theorem lay_intsR : ∀ ks : List Int, PyData.canLayAll0 (ks.map PyData.int) = true ∧ PyData.depthAll (ks.map PyData.int) = 0
  | [] => by simp [PyData.canLayAll0, PyData.depthAll]
  | i :: ks => by
    obtain ⟨h1, h2⟩ := lay_intsR ks
    simp [PyData.canLayAll0, PyData.depthAll, PyData.canLay0, PyData.depth, h1, h2]
theorem shaped_ints (ks : List Int) : SeqAt.shaped (.list (ks.map PyData.int)) = true := by
  obtain ⟨h1, h2⟩ := lay_intsR ks
  simp [SeqAt.shaped, PyData.canLay0, PyData.depth, h1, h2]
theorem ne_nil {L : Live} {n : Nat} {ks : List Int} (h : L[n]? = some (.lst (ks.map D.int))) : cmpD .ne (.ref n) (.lst 0 []) L = some (!ks.isEmpty) := by
  have v : pyOf L (.ref n) = some (.list (ks.map PyData.int)) := by
    simp only [pyOf, toPy]
    rw [MP.view, h]
    simp only []
    rw [mapO_map fun (i : Int) _ => ?_]
    · rfl
    · rfl
  have v2 : pyOf L (.lst 0 []) = some (.list []) := by simp [pyOf, toPy, toPys]
  have s2 : SeqAt.shaped (.list []) = true := by decide
  simp only [cmpD, eqD, scal2, Bool.false_eq_true, if_false, v, v2, shaped_ints, s2, Bool.and_self, if_true, Option.map_some]
  cases ks <;> simp [PyData.eqv, PyData.eqvAll]
theorem in_ints {L : Live} {n : Nat} {ks : List Int} (h : L[n]? = some (.lst (ks.map D.int))) (i : Int) : cmpD .in_ (.int i) (.ref n) L = some (decide (i ∈ ks)) := by
  have fl : (ks.map D.int).all flat = true := by simp [flat]
  have e : seqOf L (.ref n) = some (ks.map D.int) := by simp [seqOf, lstOf, h]
  have a : ∀ ks : List Int, ((ks.map D.int).any fun y => eqF y (.int i)) = decide (i ∈ ks) := by
    intro ks
    induction ks with
    | nil => rfl
    | cons x r ih =>
      simp only [List.map_cons, List.any_cons, ih, eqF, List.mem_cons, Bool.decide_or]
      congr 1
      by_cases c : x = i
      · subst c; simp
      · have c2 : ¬ i = x := fun z => c z.symm
        simp [c, c2]
  simp only [cmpD, inD, e]
  unfold inSeq
  rw [if_pos (by rw [fl]; rfl), a]
theorem find_ints (i : Int) : ∀ ks : List Int, i ∈ ks → ∃ j, findI i ks = some j ∧ ks.eraseIdx j = ks.erase i
  | [], h => by cases h
  | x :: r, h => by
    by_cases c : x = i
    · exact ⟨0, by simp [findI, c], by simp [c]⟩
    · obtain ⟨j, h1, h2⟩ := find_ints i r (by rcases List.mem_cons.mp h with e | e; exact absurd e.symm c; exact e)
      exact ⟨j + 1, by simp [findI, c, h1], by simp [h2, List.erase_cons, c]⟩
theorem erase_map {α β : Type} (f : α → β) : ∀ (l : List α) (j : Nat), (l.map f).eraseIdx j = (l.eraseIdx j).map f
  | [], _ => by simp
  | x :: l, 0 => by simp
  | x :: l, j + 1 => by simp [erase_map f l j]
theorem intsOf_intsR : ∀ l : List Int, intsOf (l.map D.int) = some l
  | [] => rfl
  | i :: l => by simp [intsOf, intsOf_intsR l]
theorem rem_ints {L : Live} {n : Nat} {ks : List Int} (h : L[n]? = some (.lst (ks.map D.int))) {i : Int} (hi : i ∈ ks) : mthD .remove (.ref n) [.int i] L = some (.non, L.set n (.lst ((ks.erase i).map D.int))) := by
  obtain ⟨j, h1, h2⟩ := find_ints i ks hi
  have e : (ks.map D.int).eraseIdx j = (ks.erase i).map D.int := by rw [← h2, erase_map]
  simp only [mthD, h, intsOf_intsR, h1, e]
theorem app_lst {L : Live} {n : Nat} {ds : List D} (h : L[n]? = some (.lst ds)) (hz : ds.length < 1000000) (d : D) : mthD .append (.ref n) [d] L = some (.non, L.set n (.lst (ds ++ [d]))) := by
  simp only [mthD, h]
  rw [if_pos (decide_eq_true (Nat.lt_of_lt_of_le hz (small_line (Nat.le_refl _))))]
theorem mt_lst {L : Live} {n : Nat} {ds : List D} (h : L[n]? = some (.lst ds)) {m : Mth} (hm : m = .append ∨ m = .remove ∨ m = .pop ∨ m = .reverse ∨ m = .extend ∨ m = .insert ∨ m = .clear) : mthTy m L (.ref n) = some .list := by
  rcases hm with rfl | rfl | rfl | rfl | rfl | rfl | rfl <;> simp only [mthTy, h]
section
variable {T : Tab} [HasFn T 101 f__law_spin]
theorem rec_turn {k : Nat} (hk : 1 ≤ k) {L : Live} {p m n : Nat} (hP : Pool L p m) (hm : m + 4 ≤ 10 ^ 9) (hpn : p < n) (keys size : Int) (h1 : 1 ≤ keys) (h2 : keys ≤ 2 ^ 64) (gaps : List Int) (hg : gaps ≠ []) (hgl : gaps.length ≤ 100) (G : Int) (hG : ∀ g ∈ gaps, 0 ≤ g ∧ g ≤ G) (rec : List Evt) (ks : List Int) (tick : Int) (x7 x8 : Option D)
    (f1 : L[n]? = some (.lst (rec.map Evt.enc))) (f2 : L[n + 1]? = some (.lst (ks.map D.int))) (hr : rec.length ≤ 1000) (hks : ks.length ≤ 1000) (nd : ks.Nodup) (hd : ∀ i, altS (fun _ => false) rec i = decide (i ∈ ks)) (kb : ∀ i ∈ ks, 0 ≤ i ∧ i < keys) :
    ∃ (e : Evt) (ks' : List Int) (L' : Live) (y8 : Option D), evSs (T.cx k) b__law_record_0 [some (.ref p), some (.int keys), some (.int size), some (.lst 0 (gaps.map D.int)), some (.ref n), some (.ref (n + 1)), some (.int tick), x7, x8] L =
        .fl .nx [some (.ref p), some (.int keys), some (.int size), some (.lst 0 (gaps.map D.int)), some (.ref n), some (.ref (n + 1)), some (.int e.tick), x7, y8] L' ∧
      Pool L' p (m + 4) ∧ (∀ j, j ≠ p → j ≠ n → j ≠ n + 1 → L'[j]? = L[j]?) ∧ L'.length = L.length ∧ L'[n]? = some (.lst ((rec ++ [e]).map Evt.enc)) ∧ L'[n + 1]? = some (.lst (ks'.map D.int)) ∧ ks'.length ≤ ks.length + 1 ∧ ks'.Nodup ∧
      (∀ i, altS (fun _ => false) (rec ++ [e]) i = decide (i ∈ ks')) ∧ (∀ i ∈ ks', 0 ≤ i ∧ i < keys) ∧ tick ≤ e.tick ∧ e.tick ≤ tick + G ∧ 0 ≤ e.key ∧ e.key < keys ∧ e.dn = !(altS (fun _ => false) rec e.key) := by
  obtain ⟨y, L1, e1, r1, s1, n1, y0, y1⟩ := spinP (T := T) (k := k) hk hP (by omega) keys
  have hp := hP.lt
  have hn1 : n + 1 < L.length := (List.getElem?_eq_some_iff.mp f2).1
  have f11 : L1[n]? = some (.lst (rec.map Evt.enc)) := by rw [s1.2 n (by omega) (by omega)]; exact f1
  have f12 : L1[n + 1]? = some (.lst (ks.map D.int)) := by rw [s1.2 (n + 1) (by omega) (by omega)]; exact f2
  -- the key
  have key : ∃ (z : Int) (L2 : Live), evSs (T.cx k) (.cons (.ite (.and (.cmp .ne (.var 5) (.lst false .nil)) (.cmp .eq (.call 101 (.cons (.var 0) (.cons (.con (.int 2)) .nil))) (.con (.int 0)))) (.cons (.asg (.nm (.slot 8)) (.idx (.var 5) (.call 101 (.cons (.var 0) (.cons (.blt .len false (.cons (.var 5) .nil)) .nil))))) .nil) .nil) .nil) [some (.ref p), some (.int keys), some (.int size), some (.lst 0 (gaps.map D.int)), some (.ref n), some (.ref (n + 1)), some (.int tick), x7, some (.int y)] L1 =
      .fl .nx [some (.ref p), some (.int keys), some (.int size), some (.lst 0 (gaps.map D.int)), some (.ref n), some (.ref (n + 1)), some (.int tick), x7, some (.int z)] L2 ∧ Pool L2 p (m + 3) ∧ Same p L1 L2 ∧ L2.length = L1.length ∧ 0 ≤ z ∧ z < keys := by
    have nn := ne_nil f12
    have z0 : MP.sizeOk 0 = true := sizeOk_small (by omega)
    have ea : ∀ E : Ev, E[5]? = some (some (.ref (n + 1))) → evE (T.cx k) (.cmp .ne (.var 5) (.lst false .nil)) E L1 = .ok (.bl (!ks.isEmpty)) L1 := fun E hE => by simp [evE, evA, hE, z0, newL, opt, nn, optV]
    by_cases c : ks = []
    · have c' : (!ks.isEmpty) = false := by simp [c]
      rw [c'] at ea
      refine ⟨y, L1, ?_, r1.mono (by omega), Same.refl _ _, rfl, y0, y1⟩
      have et : evT (T.cx k) (.and (.cmp .ne (.var 5) (.lst false .nil)) (.cmp .eq (.call 101 (.cons (.var 0) (.cons (.con (.int 2)) .nil))) (.con (.int 0)))) [some (.ref p), some (.int keys), some (.int size), some (.lst 0 (gaps.map D.int)), some (.ref n), some (.ref (n + 1)), some (.int tick), x7, some (.int y)] L1 = .ok false L1 := by
        rw [evT, evE, ea _ rfl]
        simp [truD, optV]
      rw [ss_if_n et, ss_nil]
    · have c' : (!ks.isEmpty) = true := by simp [c]
      rw [c'] at ea
      obtain ⟨u, L2, e2, r2, s2, n2, u0, u1⟩ := spinP (T := T) (k := k) hk r1 (by omega) 2
      have et : evT (T.cx k) (.and (.cmp .ne (.var 5) (.lst false .nil)) (.cmp .eq (.call 101 (.cons (.var 0) (.cons (.con (.int 2)) .nil))) (.con (.int 0)))) [some (.ref p), some (.int keys), some (.int size), some (.lst 0 (gaps.map D.int)), some (.ref n), some (.ref (n + 1)), some (.int tick), x7, some (.int y)] L1 = .ok (decide (u = 0)) L2 := by
        rw [evT, evE, ea _ rfl]
        simp [truD, optV, evE, evA, e2, cmpD, eqD, scal2, eqS]
      by_cases cu : u = 0
      · have kl : 0 < ks.length := List.length_pos_iff.mpr c
        have f22 : L2[n + 1]? = some (.lst (ks.map D.int)) := by rw [s2.2 (n + 1) (by omega) (by omega)]; exact f12
        obtain ⟨v, L3, e3, r3, s3, n3, v0, v1⟩ := spinP (T := T) (k := k) hk r2 (by omega) (ks.length : Int) (by omega) (by omega)
        have f32 : L3[n + 1]? = some (.lst (ks.map D.int)) := by rw [s3.2 (n + 1) (by omega) (by omega)]; exact f22
        obtain ⟨v', rfl⟩ : ∃ w : Nat, v = w := ⟨v.toNat, by omega⟩
        have hv : v' < ks.length := by omega
        have ix : idxD (.ref (n + 1)) (.int v') L3 = some (.int ks[v']) := by
          simp only [idxD, seqOf, lstOf, f32, idxSeq]
          rw [atI_nat (v := D.int ks[v'])]
          simp [hv]
        have kbv := kb _ (List.getElem_mem hv)
        refine ⟨ks[v'], L3, ?_, r3.mono (by omega), s2.trans s3, by omega, kbv.1, kbv.2⟩
        have ln : lenD L2 (.ref (n + 1)) = some (ks.length : Int) := by simp [lenD, seqOf, lstOf, f22]
        rw [cu] at et
        rw [ss_if_t et, ss_asg (E' := [some (.ref p), some (.int keys), some (.int size), some (.lst 0 (gaps.map D.int)), some (.ref n), some (.ref (n + 1)), some (.int tick), x7, some (.int ks[v'])]) (d := .int ks[v']) (L1 := L3) (by simp [evE, evA, bltD, ln, opt, e3, ix, optV]) rfl, ss_nil, SRes.seq_nx, ss_nil]
      · refine ⟨y, L2, ?_, r2.mono (by omega), s2, by omega, y0, y1⟩
        rw [show (decide (u = 0)) = false by simp [cu]] at et
        rw [ss_if_n et, ss_nil]
  obtain ⟨z, L2, e2, r2, s2, n2, z0, z1⟩ := key
  -- the tick
  have gl : 0 < gaps.length := List.length_pos_iff.mpr hg
  obtain ⟨v, L3, e3, r3, s3, n3, v0, v1⟩ := spinP (T := T) (k := k) hk r2 (by omega) (gaps.length : Int) (by omega) (by omega)
  obtain ⟨v', rfl⟩ : ∃ w : Nat, v = w := ⟨v.toNat, by omega⟩
  have hv : v' < gaps.length := by omega
  have hgv := hG _ (List.getElem_mem hv)
  have ix : idxD (.lst 0 (gaps.map D.int)) (.int v') L3 = some (.int gaps[v']) := by
    simp only [idxD, seqOf, lstOf, idxSeq]
    rw [atI_nat (v := D.int gaps[v'])]
    simp [hv]
  have lg : ∀ M, lenD M (.lst 0 (gaps.map D.int)) = some (gaps.length : Int) := fun M => by simp [lenD, seqOf, lstOf]
  have s13 := (s1.trans s2).trans s3
  have f31 : L3[n]? = some (.lst (rec.map Evt.enc)) := by rw [s13.2 n (by omega) (by omega)]; exact f1
  have f32 : L3[n + 1]? = some (.lst (ks.map D.int)) := by rw [s13.2 (n + 1) (by omega) (by omega)]; exact f2
  have pre : ∀ ss, evSs (T.cx k) (.cons (.asg (.nm (.slot 8)) (.call 101 (.cons (.var 0) (.cons (.var 1) .nil)))) (.cons (.ite (.and (.cmp .ne (.var 5) (.lst false .nil)) (.cmp .eq (.call 101 (.cons (.var 0) (.cons (.con (.int 2)) .nil))) (.con (.int 0)))) (.cons (.asg (.nm (.slot 8)) (.idx (.var 5) (.call 101 (.cons (.var 0) (.cons (.blt .len false (.cons (.var 5) .nil)) .nil))))) .nil) .nil) (.cons (.asg (.nm (.slot 6)) (.bin .add false (.var 6) (.idx (.var 3) (.call 101 (.cons (.var 0) (.cons (.blt .len false (.cons (.var 3) .nil)) .nil)))))) ss))) [some (.ref p), some (.int keys), some (.int size), some (.lst 0 (gaps.map D.int)), some (.ref n), some (.ref (n + 1)), some (.int tick), x7, x8] L =
      evSs (T.cx k) ss [some (.ref p), some (.int keys), some (.int size), some (.lst 0 (gaps.map D.int)), some (.ref n), some (.ref (n + 1)), some (.int (tick + gaps[v'])), x7, some (.int z)] L3 := fun ss => by
    rw [ss_asg (E' := [some (.ref p), some (.int keys), some (.int size), some (.lst 0 (gaps.map D.int)), some (.ref n), some (.ref (n + 1)), some (.int tick), x7, some (.int y)]) (d := .int y) (L1 := L1) (by simp [evE, evA, e1]) rfl]
    have e2' := e2
    simp only [evSs] at e2' ⊢
    cases q : evS (T.cx k) (.ite (.and (.cmp .ne (.var 5) (.lst false .nil)) (.cmp .eq (.call 101 (.cons (.var 0) (.cons (.con (.int 2)) .nil))) (.con (.int 0)))) (.cons (.asg (.nm (.slot 8)) (.idx (.var 5) (.call 101 (.cons (.var 0) (.cons (.blt .len false (.cons (.var 5) .nil)) .nil))))) .nil) .nil) [some (.ref p), some (.int keys), some (.int size), some (.lst 0 (gaps.map D.int)), some (.ref n), some (.ref (n + 1)), some (.int tick), x7, some (.int y)] L1 with
    | stuck => rw [q] at e2'; cases e2'
    | exc C fs E0 M0 => rw [q] at e2'; cases e2'
    | fl f E0 M0 =>
      rw [q] at e2'
      cases f with
      | nx =>
        simp only [SRes.seq_nx, SRes.fl.injEq, true_and] at e2'
        obtain ⟨k1, k2⟩ := e2'
        simp only [SRes.seq_nx, k1, k2]
        have et : evS (T.cx k) (.asg (.nm (.slot 6)) (.bin .add false (.var 6) (.idx (.var 3) (.call 101 (.cons (.var 0) (.cons (.blt .len false (.cons (.var 3) .nil)) .nil)))))) [some (.ref p), some (.int keys), some (.int size), some (.lst 0 (gaps.map D.int)), some (.ref n), some (.ref (n + 1)), some (.int tick), x7, some (.int z)] L2 = .fl .nx [some (.ref p), some (.int keys), some (.int size), some (.lst 0 (gaps.map D.int)), some (.ref n), some (.ref (n + 1)), some (.int (tick + gaps[v'])), x7, some (.int z)] L3 := by
          simp [evS, evE, evA, bltD, lg, opt, e3, ix, optV, binD, storeT, storeG]
        rw [et]; rfl
      | bk => cases e2'
      | ct => cases e2'
      | rt d => cases e2'
  have inn := in_ints f32 z
  have q3 : MP.sizeOk 3 = true := sizeOk_small (by omega)
  rw [b__law_record_0, pre]
  by_cases c : z ∈ ks
  · have et : evT (T.cx k) (.cmp .in_ (.var 8) (.var 5)) [some (.ref p), some (.int keys), some (.int size), some (.lst 0 (gaps.map D.int)), some (.ref n), some (.ref (n + 1)), some (.int (tick + gaps[v'])), x7, some (.int z)] L3 = .ok true L3 := by simp [evT, evE, inn, optV, truD, c]
    obtain ⟨L4, hL4⟩ : ∃ L4, L4 = L3.set (n + 1) (.lst ((ks.erase z).map D.int)) := ⟨_, rfl⟩
    have d1 := rem_ints f32 c
    rw [← hL4] at d1
    have f41 : L4[n]? = some (.lst (rec.map Evt.enc)) := by rw [hL4, List.getElem?_set_ne (by omega)]; exact f31
    have d2 := app_lst f41 (by simp; omega) (.tup [.int (tick + gaps[v']), .int z, .str (Str.ofString "up")])
    have m1 := mt_lst f32 (m := .remove) (by simp)
    have m1' := mt_lst (L := L4) (n := n) f41 (m := .append) (by simp)
    have m2 : mthTy .remove L3 (.ref (n + 1)) = some .list := m1
    refine ⟨⟨tick + gaps[v'], z, false⟩, ks.erase z, L4.set n (.lst (rec.map Evt.enc ++ [.tup [.int (tick + gaps[v']), .int z, .str (Str.ofString "up")]])), some (.int z), ?_, ?_, ?_, ?_, ?_, ?_, ?_, ?_, ?_, ?_, by show tick ≤ tick + gaps[v']; omega, by show tick + gaps[v'] ≤ tick + G; omega, z0, z1, ?_⟩
    rotate_right
    · show false = !(altS (fun _ => false) rec z)
      rw [hd]; simp [c]
    · rw [ss_if_t et, ss_ex (d := .non) (L1 := L4) (by simp [evE, evA, m1, d1, opt]), ss_ex (d := .non) (L1 := L4.set n (.lst (rec.map Evt.enc ++ [.tup [.int (tick + gaps[v']), .int z, .str (Str.ofString "up")]]))) (by simp [evE, evA, m1', d2, opt, q3]), ss_nil, SRes.seq_nx, ss_nil]
    · obtain ⟨o, ho, hr'⟩ := r3
      exact ⟨o, by rw [List.getElem?_set_ne (by omega), hL4, List.getElem?_set_ne (by omega)]; exact ho, RS_mono hr' (by omega)⟩
    · intro j a b c'
      rw [List.getElem?_set_ne (by omega), hL4, List.getElem?_set_ne (by omega)]
      by_cases hj : j < L.length
      · exact s13.2 j hj a
      · rw [List.getElem?_eq_none (by omega), List.getElem?_eq_none (by omega)]
    · simp [hL4]; omega
    · rw [List.getElem?_set_self (by rw [hL4]; simp; omega)]
      simp [Evt.enc, way]
    · rw [List.getElem?_set_ne (by omega), hL4, List.getElem?_set_self (by omega)]
    · have := List.length_erase_of_mem c; omega
    · exact nd.erase z
    · intro i
      rw [altS_app]
      simp only [hd, nd.mem_erase_iff]
      by_cases ci : i = z <;> simp [ci]
    · intro i hi
      exact kb i (List.mem_of_mem_erase hi)
  · have et : evT (T.cx k) (.cmp .in_ (.var 8) (.var 5)) [some (.ref p), some (.int keys), some (.int size), some (.lst 0 (gaps.map D.int)), some (.ref n), some (.ref (n + 1)), some (.int (tick + gaps[v'])), x7, some (.int z)] L3 = .ok false L3 := by simp [evT, evE, inn, optV, truD, c]
    obtain ⟨L4, hL4⟩ : ∃ L4, L4 = L3.set (n + 1) (.lst (ks.map D.int ++ [.int z])) := ⟨_, rfl⟩
    have d1 := app_lst f32 (by simp; omega) (.int z)
    rw [← hL4] at d1
    have f41 : L4[n]? = some (.lst (rec.map Evt.enc)) := by rw [hL4, List.getElem?_set_ne (by omega)]; exact f31
    have d2 := app_lst f41 (by simp; omega) (.tup [.int (tick + gaps[v']), .int z, .str (Str.ofString "down")])
    have m1 := mt_lst f32 (m := .append) (by simp)
    have m1' := mt_lst (L := L4) (n := n) f41 (m := .append) (by simp)
    refine ⟨⟨tick + gaps[v'], z, true⟩, ks ++ [z], L4.set n (.lst (rec.map Evt.enc ++ [.tup [.int (tick + gaps[v']), .int z, .str (Str.ofString "down")]])), some (.int z), ?_, ?_, ?_, ?_, ?_, ?_, by simp, ?_, ?_, ?_, by show tick ≤ tick + gaps[v']; omega, by show tick + gaps[v'] ≤ tick + G; omega, z0, z1, ?_⟩
    rotate_right
    · show true = !(altS (fun _ => false) rec z)
      rw [hd]; simp [c]
    · rw [ss_if_f et, ss_ex (d := .non) (L1 := L4) (by simp [evE, evA, m1, d1, opt]), ss_ex (d := .non) (L1 := L4.set n (.lst (rec.map Evt.enc ++ [.tup [.int (tick + gaps[v']), .int z, .str (Str.ofString "down")]]))) (by simp [evE, evA, m1', d2, opt, q3]), ss_nil, SRes.seq_nx, ss_nil]
    · obtain ⟨o, ho, hr'⟩ := r3
      exact ⟨o, by rw [List.getElem?_set_ne (by omega), hL4, List.getElem?_set_ne (by omega)]; exact ho, RS_mono hr' (by omega)⟩
    · intro j a b c'
      rw [List.getElem?_set_ne (by omega), hL4, List.getElem?_set_ne (by omega)]
      by_cases hj : j < L.length
      · exact s13.2 j hj a
      · rw [List.getElem?_eq_none (by omega), List.getElem?_eq_none (by omega)]
    · simp [hL4]; omega
    · rw [List.getElem?_set_self (by rw [hL4]; simp; omega)]
      simp [Evt.enc, way]
    · rw [List.getElem?_set_ne (by omega), hL4, List.getElem?_set_self (by omega)]
      simp
    · rw [List.nodup_append]
      exact ⟨nd, by simp, fun a ha b hb e => c (by rw [List.mem_singleton.mp hb] at e; rw [← e]; exact ha)⟩
    · intro i
      rw [altS_app]
      simp only [hd]
      by_cases ci : i = z <;> simp [ci]
    · intro i hi
      rcases List.mem_append.mp hi with hi | hi
      · exact kb i hi
      · rw [List.mem_singleton.mp hi]; exact ⟨z0, z1⟩
end
end PB
set_option maxHeartbeats 2000000
namespace PB
open PySem hiding Act
open PySem.Spec PyProof.Rows L2 MP
section
variable {T : Tab} [HasFn T 101 f__law_spin] [HasFn T 120 f__law_record]
theorem s_recP {k : Nat} (hk : 2 ≤ k) {L : Live} {p m : Nat} (hP : Pool L p m) (hm : m + 2000 ≤ 10 ^ 9) (keys size : Int) (h1 : 1 ≤ keys) (h2 : keys ≤ 2 ^ 64) (z1 : 0 ≤ size) (z2 : size ≤ 400) (gaps : List Int) (hg : gaps ≠ []) (hgl : gaps.length ≤ 100) (G : Int) (hG : ∀ g ∈ gaps, 0 ≤ g ∧ g ≤ G) :
    ∃ (rec : List Evt) (L' : Live), callW (T.cx k) 120 [.ref p, .int keys, .int size, .lst 0 (gaps.map D.int)] L = .ok (.ref L.length) L' ∧ Pool L' p (m + 2000) ∧ Same p L L' ∧ L'[L.length]? = some (.lst (rec.map Evt.enc)) ∧ (rec.length : Int) = size ∧ RecOk (some (keys - 1)) rec ∧
      ∀ e ∈ rec, -1000000000000000 ≤ e.tick ∧ e.tick ≤ 100000000000000 + size * G := by
  rw [callW_nil (by rw [liv_of (HasFn.h (f := 120) (d := f__law_record))]; simp [f__law_record, idsAs, idsF, noRef, intsR_noRef])]
  obtain ⟨k, rfl⟩ : ∃ m, k = m + 1 := ⟨k - 1, by omega⟩
  rw [goH 120 rfl rfl]
  have G0 : 0 ≤ G := by
    obtain ⟨g, r, rfl⟩ : ∃ g r, gaps = g :: r := by
      cases gaps with
      | nil => exact absurd rfl hg
      | cons g r => exact ⟨g, r, rfl⟩
    have := hG g List.mem_cons_self
    omega
  obtain ⟨M15, p15, v15⟩ := e_power 10 15 (by decide)
  obtain ⟨M14, p14, v14⟩ := e_power 10 14 (by decide)
  have w15 : M15 = 1000000000000000 := by rw [v15]; rfl
  have w14 : M14 = 100000000000000 := by rw [v14]; rfl
  have hp := hP.lt
  obtain ⟨u, L1, e1, r1, s1, n1, u0, u1⟩ := spinP (T := T) (k := k) (by omega) (hP.app ([LO.lst []] ++ [LO.lst []])) (by omega) M14 (by omega) (by omega)
  obtain ⟨v, L2, e2, r2, s2, n2, v0, v1⟩ := spinP (T := T) (k := k) (by omega) r1 (by omega) 3
  have s02 : Same p L L2 := (Same.app p L _).trans (s1.trans s2)
  have hl1 : L1.length = L.length + 2 := by rw [n1]; simp
  have f1 : L2[L.length]? = some (.lst []) := by
    rw [s2.2 _ (by omega) (by omega), s1.2 _ (by simp) (by omega)]; simp
  have f2 : L2[L.length + 1]? = some (.lst []) := by
    rw [s2.2 _ (by omega) (by omega), s1.2 _ (by simp) (by omega)]; simp
  obtain ⟨t0, ht0, b1, b2⟩ : ∃ t0 : Int, atI [D.int 0, .int (0 - M15), .int u] v = some (.int t0) ∧ -1000000000000000 ≤ t0 ∧ t0 ≤ 100000000000000 := by
    have : v = 0 ∨ v = 1 ∨ v = 2 := by omega
    rcases this with rfl | rfl | rfl
    · exact ⟨0, rfl, by omega, by omega⟩
    · exact ⟨0 - M15, rfl, by omega, by omega⟩
    · exact ⟨u, rfl, by omega, by omega⟩
  obtain ⟨E', L', e, rec, ks, tick, x7, x8, rfl, g1, g2, g3, g4, g5, g6, g7, g8, g9, g10, g11, g12, g13, g14, g15, g16⟩ := forL_run (w := []) (g := .slot 7) (b := fun E' L' => evSs (T.cx k) b__law_record_0 E' L') (ds := (List.range size.toNat).map fun q => D.int (q : Nat))
    (fun i E' L' => ∃ (rec : List Evt) (ks : List Int) (tick : Int) (x7 x8 : Option D), E' = [some (.ref p), some (.int keys), some (.int size), some (.lst 0 (gaps.map D.int)), some (.ref L.length), some (.ref (L.length + 1)), some (.int tick), x7, x8] ∧ Pool L' p (m + 2 + 4 * i) ∧ Same p L L' ∧ L'[L.length]? = some (.lst (rec.map Evt.enc)) ∧ L'[L.length + 1]? = some (.lst (ks.map D.int)) ∧ rec.length = i ∧ ks.length ≤ i ∧ ks.Nodup ∧ (∀ i, altS (fun _ => false) rec i = decide (i ∈ ks)) ∧ (∀ i ∈ ks, 0 ≤ i ∧ i < keys) ∧
      rec.Pairwise (fun a b => a.tick ≤ b.tick) ∧ (∀ e ∈ rec, e.tick ≤ tick) ∧ (∀ e ∈ rec, -1000000000000000 ≤ e.tick) ∧ tick ≤ 100000000000000 + i * G ∧ (∀ e ∈ rec, 0 ≤ e.key ∧ e.key < keys) ∧ Alt (fun _ => false) rec ∧ -1000000000000000 ≤ tick) (fun _ _ _ _ => rfl) (fun i E' L' hi hI => by
      obtain ⟨rec, ks, tick, x7, x8, rfl, g1, g2, g3, g4, g5, g6, g7, g8, g9, g10, g11, g12, g13, g14, g15, g16⟩ := hI
      have hi' : i < size.toNat := by simpa using hi
      rw [rng1_get hi]
      obtain ⟨e, ks', L3, y8, ev, q1, q2, q3, q4, q5, q6, q7, q8, q9, q10, q11, q12, q13, q14⟩ := rec_turn (T := T) (k := k) (by omega) (n := L.length) g1 (by omega) hp keys size h1 h2 gaps hg hgl G hG rec ks tick (some (.int i)) x8 g3 g4 (by omega) (by omega) g7 g8 g9
      have hlen := g2.1
      refine ⟨_, _, L3, rfl, .inl ev, rec ++ [e], ks', e.tick, some (.int i), y8, rfl, q1.mono (by omega), ⟨by omega, fun j hj hn => by rw [q2 j hn (by omega) (by omega)]; exact g2.2 j hj hn⟩, q4, q5, by simp [g5], by omega, q7, q8, q9, ?_, ?_, ?_, ?_, ?_, alt_app rec _ e g15 q14, by omega⟩
      · rw [List.pairwise_append]
        exact ⟨g10, by simp, fun a ha b hb => by rw [List.mem_singleton.mp hb]; have := g11 a ha; omega⟩
      · intro x hx
        rcases List.mem_append.mp hx with hx | hx
        · have := g11 x hx; omega
        · rw [List.mem_singleton.mp hx]; exact Int.le_refl _
      · intro x hx
        rcases List.mem_append.mp hx with hx | hx
        · exact g12 x hx
        · rw [List.mem_singleton.mp hx]; omega
      · have e1 : ((i + 1 : Nat) : Int) * G = (i : Int) * G + G := by rw [Int.natCast_add, Int.add_mul]; simp
        rw [e1]; omega
      · intro x hx
        rcases List.mem_append.mp hx with hx | hx
        · exact g14 x hx
        · rw [List.mem_singleton.mp hx]; exact ⟨q12, q13⟩)
    (E := [some (.ref p), some (.int keys), some (.int size), some (.lst 0 (gaps.map D.int)), some (.ref L.length), some (.ref (L.length + 1)), some (.int t0), none, none]) (L := L2)
    ⟨[], [], t0, none, none, rfl, r2.mono (by omega), s02, f1, f2, rfl, Nat.le_refl _, by simp, fun _ => rfl, by simp, by simp, by simp, by simp, by simpa using b2, by simp, trivial, b1⟩
  have q0 : MP.sizeOk 0 = true := sizeOk_small (by omega)
  have q3 : MP.sizeOk 3 = true := sizeOk_small (by omega)
  have el : (List.map (fun q => D.int (q : Nat)) (List.range size.toNat)).length = size.toNat := by simp
  rw [el] at g1 g5 g6 g13
  have sz : ((size.toNat : Nat) : Int) = size := by omega
  refine ⟨rec, L', ?_, g1.mono (by omega), g2, g3, by omega, ⟨by omega, g10, fun e he => ⟨(g14 e he).1, fun m hm => by cases hm; have := (g14 e he).2; omega⟩, g15⟩, fun e he => ⟨g12 e he, by have := g11 e he; rw [sz] at g13; omega⟩⟩
  have ei : evE (T.cx k) (.idx (.lst false (.cons (.con (.int 0)) (.cons (.bin .sub false (.con (.int 0)) (.bin .pow false (.con (.int 10)) (.con (.int 15)))) (.cons (.call 101 (.cons (.var 0) (.cons (.bin .pow false (.con (.int 10)) (.con (.int 14))) .nil))) .nil)))) (.call 101 (.cons (.var 0) (.cons (.con (.int 3)) .nil)))) [some (.ref p), some (.int keys), some (.int size), some (.lst 0 (gaps.map D.int)), none, none, none, none, none] (L ++ ([LO.lst []] ++ [LO.lst []])) = .ok (.int t0) L2 := by
    have ea : evA (T.cx k) (.cons (.con (.int 0)) (.cons (.bin .sub false (.con (.int 0)) (.bin .pow false (.con (.int 10)) (.con (.int 15)))) (.cons (.call 101 (.cons (.var 0) (.cons (.bin .pow false (.con (.int 10)) (.con (.int 14))) .nil))) .nil))) [some (.ref p), some (.int keys), some (.int size), some (.lst 0 (gaps.map D.int)), none, none, none, none, none] (L ++ ([LO.lst []] ++ [LO.lst []])) = .ok [.int 0, .int (0 - M15), .int u] L1 := by
      have h15 : evE (T.cx k) (.bin .sub false (.con (.int 0)) (.bin .pow false (.con (.int 10)) (.con (.int 15)))) [some (.ref p), some (.int keys), some (.int size), some (.lst 0 (gaps.map D.int)), none, none, none, none, none] (L ++ ([LO.lst []] ++ [LO.lst []])) = .ok (.int (0 - M15)) (L ++ ([LO.lst []] ++ [LO.lst []])) := by
        rw [evE, evE, Res.bind_ok, p15]; rfl
      have h14 : evE (T.cx k) (.call 101 (.cons (.var 0) (.cons (.bin .pow false (.con (.int 10)) (.con (.int 14))) .nil))) [some (.ref p), some (.int keys), some (.int size), some (.lst 0 (gaps.map D.int)), none, none, none, none, none] (L ++ ([LO.lst []] ++ [LO.lst []])) = .ok (.int u) L1 := by
        rw [evE, evA, evE]
        simp only [List.getElem?_cons_zero, Res.bind_ok]
        rw [evA, p14]
        simp only [Res.bind_ok, evA, e1]
      rw [evA, evE, Res.bind_ok, evA, h15, Res.bind_ok, evA, h14, Res.bind_ok, evA]
      rfl
    have e3 : evE (T.cx k) (.call 101 (.cons (.var 0) (.cons (.con (.int 3)) .nil))) [some (.ref p), some (.int keys), some (.int size), some (.lst 0 (gaps.map D.int)), none, none, none, none, none] L1 = .ok (.int v) L2 := by simp [evE, evA, e2]
    rw [evE, evE, ea]
    simp only [List.length_cons, List.length_nil, Nat.zero_add, Nat.reduceAdd, q3, if_true, newL, Bool.false_eq_true, if_false, opt, Res.bind_ok, e3, idxD, seqOf, lstOf, idxSeq, ht0, optV]
  show resOf (evSs (T.cx k) b__law_record [some (.ref p), some (.int keys), some (.int size), some (.lst 0 (gaps.map D.int)), none, none, none, none, none] L) = _
  rw [b__law_record, ss_par (ds := [.ref L.length, .ref (L.length + 1), .int t0]) (L1 := L2) ?_ rfl]
  · rw [show setAll [4, 5, 6] [.ref L.length, .ref (L.length + 1), .int t0] [some (.ref p), some (.int keys), some (.int size), some (.lst 0 (gaps.map D.int)), none, none, none, none, none] = [some (.ref p), some (.int keys), some (.int size), some (.lst 0 (gaps.map D.int)), some (.ref L.length), some (.ref (L.length + 1)), some (.int t0), none, none] from rfl]
    rw [ss_for (w := []) (ds := (List.range size.toNat).map fun q => D.int (q : Nat)) (L1 := L2) (by simp [evI, evE, optV, rng1_nat (n := size) (by omega) (by omega)]) e, ss_ret (d := .ref L.length) (L1 := L') (by simp [evE])]
    rfl
  · have en : evE (T.cx k) (.lst true .nil) [some (.ref p), some (.int keys), some (.int size), some (.lst 0 (gaps.map D.int)), none, none, none, none, none] L = .ok (.ref L.length) (L ++ [LO.lst []]) := by simp [evE, evA, q0, newL, opt]
    have en2 : evE (T.cx k) (.lst true .nil) [some (.ref p), some (.int keys), some (.int size), some (.lst 0 (gaps.map D.int)), none, none, none, none, none] (L ++ [LO.lst []]) = .ok (.ref (L.length + 1)) (L ++ ([LO.lst []] ++ [LO.lst []])) := by simp [evE, evA, q0, newL, opt]
    rw [evA, en, Res.bind_ok, evA, en2, Res.bind_ok, evA, ei, Res.bind_ok, evA]
    rfl
end
end PB
set_option maxHeartbeats 2000000
namespace PB
open PySem hiding Act
open PySem.Spec PyProof.Rows L2 MP
theorem wayS_iff {s : Str} {b : Bool} : wayS s = some b ↔ s = way b := by
  unfold wayS way
  cases b
  · constructor
    · intro h
      split at h
      · cases h
      · split at h
        · assumption
        · cases h
    · rintro rfl
      simp [up_ne]
  · constructor
    · intro h
      split at h
      · assumption
      · split at h
        · cases h
        · cases h
    · rintro rfl
      simp
def fineD : D := .str (Str.ofString "fine")
def outF (n : Option Nat) : D := match n with | none => fineD | some j => .int j
section
variable {T : Tab} [HasFn T 121 f__law_is_number]
theorem s_num_any (k : Nat) (hk : 1 ≤ k) (d : D) (h : nrf d = true) (a b : Int) (L : Live) : (T.cx k).φ 121 [d, .int a, .int b] L = .ok (.bl (isInt (some a) (some b) d)) L := by
  obtain ⟨k, rfl⟩ : ∃ m, k = m + 1 := ⟨k - 1, by omega⟩
  rw [phiH 121]
  cases d with
  | ref n => simp [nrf] at h
  | int i => by_cases c : a ≤ i <;> by_cases c2 : i ≤ b <;> simp [runF, runB, startE, evSs, evS, evE, evA, evC, evI, evT, resOf, optV, opt, truD, storeT, storeG, storeGs, f__law_is_number, b__law_is_number, isiD, cmpD, ordI, isInt, inLo, inHi, c, c2]
  | _ => simp [runF, runB, startE, evSs, evS, evE, evA, evC, evI, evT, resOf, optV, opt, truD, storeT, storeG, storeGs, f__law_is_number, b__law_is_number, isiD, isInt]
theorem c_num {k : Nat} (hk : 1 ≤ k) {d : D} (h : noRef d = true) (a b : Int) (L : Live) : callW (T.cx k) 121 [d, .int a, .int b] L = .ok (.bl (isInt (some a) (some b) d)) L := by
  rw [callW_pure (by simp [noRefs, h, noRef]), s_num_any k hk d (nrf_of h)]
abbrev jA : Ex := .or (.not (.isi (.var 6) .tuple)) (.or (.cmp .ne (.blt .len false (.cons (.var 6) .nil)) (.con (.int 3))) (.not (.call 121 (.cons (.idx (.var 6) (.con (.int 0))) (.cons (.bin .sub false (.con (.int 0)) (.var 4)) (.cons (.var 4) .nil))))))
theorem ev_jA {k : Nat} (hk : 1 ≤ k) (E : Ev) (L : Live) (d : D) (far : Int) (hE : E[6]? = some (some d)) (h4 : E[4]? = some (some (.int far))) (hN : noRef d = true) (hb : ∀ t, evtT d = some t → 0 - far ≤ t ∧ t ≤ far) : evT (T.cx k) jA E L = .ok (evtT d).isNone L := by
  by_cases ht : ∃ xs, d = .tup xs
  · obtain ⟨xs, rfl⟩ := ht
    by_cases h3 : xs.length = 3
    · obtain ⟨x, y, w, rfl⟩ : ∃ x y w, xs = [x, y, w] := by
        match xs, h3 with
        | [x, y, w], _ => exact ⟨x, y, w, rfl⟩
      simp only [noRef, noRefs, Bool.and_true, Bool.and_eq_true] at hN
      have cw := c_num (T := T) (k := k) hk hN.1 (-far) far L
      have l3 : cmpD .ne (.int 3) (.int 3) L = some false := by simp [cmpD, eqD, scal2, eqS]
      have e : (evtT (.tup [x, y, w])).isNone = !(isInt (some (-far)) (some far) x) := by
        cases x with
        | int t =>
          have := hb t rfl
          have c1 : inLo (some (-far)) t = true := decide_eq_true (by omega)
          have c2 : inHi (some far) t = true := decide_eq_true this.2
          simp [evtT, isInt, c1, c2]
        | _ => simp [evtT, isInt]
      rw [e]
      generalize isInt (some (-far)) (some far) x = q at *
      have es : ∀ M, binD .sub false (.int 0) (.int far) M = some (.int (-far), M) := fun M => by simp [binD]
      simp only [evT, evE, evA, hE, h4, isiD, bltD, lenD, seqOf, Option.map_some, optV, opt, truD, Res.bind_ok, List.length_cons, List.length_nil, Nat.zero_add, Nat.reduceAdd, Bool.not_true, Bool.false_eq_true, if_false, decide_true]
      have l3' : cmpD .ne (.int ((3 : Nat) : Int)) (.int 3) L = some false := l3
      simp only [l3', idxD, seqOf, idxSeq, atI, ixN, es, Res.bind_ok, Bool.false_eq_true, if_false]
      simp [cw]
    · have e : (evtT (.tup xs)).isNone = true := by
        match xs, h3 with
        | [], _ => rfl
        | [_], _ => simp [evtT]
        | [_, _], _ => simp [evtT]
        | _ :: _ :: _ :: _ :: _, _ => simp [evtT]
      have l3 : cmpD .ne (.int (xs.length : Int)) (.int 3) L = some true := by
        simp only [cmpD, eqD, scal2, eqS, if_true, Option.map_some]
        congr 1
        simp; omega
      rw [e]
      simp [evT, evE, evA, hE, isiD, bltD, lenD, seqOf, l3, optV, opt, truD]
  · have e : (evtT d).isNone = true := by cases d <;> first | rfl | (exact absurd ⟨_, rfl⟩ ht)
    have et : isiD L d .tuple = some false := by
      cases d <;> first | rfl | (exact absurd ⟨_, rfl⟩ ht) | (simp [noRef] at hN)
    rw [e]
    simp [evT, evE, evA, hE, et, optV, opt, truD]
theorem fault_loop (k : Nat) (hk : 1 ≤ k) (L : Live) (v : D) (keys far : Int) : ∀ (ds : List D) (i : Nat) (ks : List Int) (dn : Int → Bool) (prev : Option Int) (x5 x6 x7 x8 x9 : Option D), (∀ d ∈ ds, noRef d = true) → (∀ d ∈ ds, ∀ t, evtT d = some t → 0 - far ≤ t ∧ t ≤ far) → (∀ j, dn j = decide (j ∈ ks)) → ks.Nodup → ks.length + ds.length ≤ 1000 →
    ∃ (ks' : List Int) (y3 y5 y6 y7 y8 y9 : Option D), forL [] (.tup [.slot 5, .slot 6]) (fun E' L' => evSs (T.cx k) b__law_record_fault_0 E' L') ((ds.zipIdx i).map fun p => .tup [.int (p.2 : Nat), p.1]) [some v, some (.int keys), some (.ref L.length), some (optD prev), some (.int far), x5, x6, x7, x8, x9] (L ++ [.lst (ks.map D.int)]) =
      .fl (match recF (some (keys - 1)) dn prev i ds with | some j => .rt (.int j) | none => .nx) [some v, some (.int keys), some (.ref L.length), y3, some (.int far), y5, y6, y7, y8, y9] (L ++ [.lst (ks'.map D.int)])
  | [], i, ks, dn, prev, x5, x6, x7, x8, x9, _, _, _, _, _ => ⟨ks, some (optD prev), x5, x6, x7, x8, x9, by simp [forL, recF]⟩
  | d :: ds, i, ks, dn, prev, x5, x6, x7, x8, x9, hn, hb, hd, nd, hl => by
    have nr := hn d List.mem_cons_self
    obtain ⟨M, hM⟩ : ∃ M, M = L ++ [LO.lst (ks.map D.int)] := ⟨_, rfl⟩
    have top : M[L.length]? = some (.lst (ks.map D.int)) := by rw [hM]; simp
    have go1 : ∀ r : SRes, (evSs (T.cx k) b__law_record_fault_0 [some v, some (.int keys), some (.ref L.length), some (optD prev), some (.int far), some (.int i), some d, x7, x8, x9] (L ++ [.lst (ks.map D.int)]) = r) → forL [] (.tup [.slot 5, .slot 6]) (fun E' L' => evSs (T.cx k) b__law_record_fault_0 E' L') (((d :: ds).zipIdx i).map fun p => .tup [.int (p.2 : Nat), p.1]) [some v, some (.int keys), some (.ref L.length), some (optD prev), some (.int far), x5, x6, x7, x8, x9] (L ++ [.lst (ks.map D.int)]) =
        (match r with
        | .fl .nx E2 L2 => forL [] (.tup [.slot 5, .slot 6]) (fun E' L' => evSs (T.cx k) b__law_record_fault_0 E' L') ((ds.zipIdx (i + 1)).map fun p => .tup [.int (p.2 : Nat), p.1]) E2 L2
        | .fl .ct E2 L2 => forL [] (.tup [.slot 5, .slot 6]) (fun E' L' => evSs (T.cx k) b__law_record_fault_0 E' L') ((ds.zipIdx (i + 1)).map fun p => .tup [.int (p.2 : Nat), p.1]) E2 L2
        | .fl .bk E2 L2 => .fl .nx E2 L2
        | r => r) := fun r hr => by
      rw [List.zipIdx_cons, List.map_cons]
      simp only [forL, still_nil, if_true, storeG, storeGs, List.length_cons, List.length_nil, Nat.reduceAdd, Nat.reduceLT, List.set_cons_succ, List.set_cons_zero, hr] <;> (cases r <;> first | rfl | (rename_i f _ _; cases f <;> rfl))
    rw [← hM] at go1
    have cA := ev_jA (T := T) hk [some v, some (.int keys), some (.ref L.length), some (optD prev), some (.int far), some (.int i), some d, x7, x8, x9] M d far rfl rfl nr (hb d List.mem_cons_self)
    have ret : ∀ E : Ev, E[5]? = some (some (.int i)) → evSs (T.cx k) (.cons (.ret (.var 5)) .nil) E M = .fl (.rt (.int i)) E M := fun E hE => ss_ret (by rw [evE, hE])
    rw [← hM]
    cases q : evtT d with
    | none =>
      rw [q] at cA
      refine ⟨ks, some (optD prev), some (.int i), some d, x7, x8, x9, ?_⟩
      rw [go1 (.fl (.rt (.int i)) [some v, some (.int keys), some (.ref L.length), some (optD prev), some (.int far), some (.int i), some d, x7, x8, x9] M)]
      · simp only [recF, q, hM]
      · rw [b__law_record_fault_0, ss_if_t cA, ret _ rfl]; rfl
    | some t =>
      rw [q] at cA
      obtain ⟨y, w, ed⟩ := evt_shape q
      have nrs := nr
      rw [ed] at nrs
      simp only [noRef, noRefs, Bool.and_true, Bool.true_and, Bool.and_eq_true] at nrs
      have cw := c_num (T := T) (k := k) hk nrs.1 0 (keys - 1) M
      have cB : evT (T.cx k) (.or (.and (.cmp .isn (.var 3) (.con .non)) (.cmp .lt (.var 7) (.var 3))) (.not (.call 121 (.cons (.var 8) (.cons (.con (.int 0)) (.cons (.bin .sub false (.var 1) (.con (.int 1))) .nil)))))) [some v, some (.int keys), some (.ref L.length), some (optD prev), some (.int far), some (.int i), some d, some (.int t), some y, some w] M = .ok (lessP prev t || !(isInt (some 0) (some (keys - 1)) y)) M := by
        cases prev with
        | none => simp [evT, evE, evA, optD, cmpD, isNonD, truD, optV, lessP, binD, opt, cw]
        | some p =>
          cases hl : lessP (some p) t with
          | true =>
            have : t < p := of_decide_eq_true hl
            simp [evT, evE, evA, optD, cmpD, isNonD, truD, optV, ordI, this]
          | false =>
            have : ¬ t < p := of_decide_eq_false hl
            simp [evT, evE, evA, optD, cmpD, isNonD, truD, optV, ordI, this, binD, opt, cw]
      have start : ∀ ss, evSs (T.cx k) (.cons (.ite jA (.cons (.ret (.var 5)) .nil) .nil) (.cons (.asg (.nm (.tup [(.slot 7), (.slot 8), (.slot 9)])) (.var 6)) ss)) [some v, some (.int keys), some (.ref L.length), some (optD prev), some (.int far), some (.int i), some d, x7, x8, x9] M = evSs (T.cx k) ss [some v, some (.int keys), some (.ref L.length), some (optD prev), some (.int far), some (.int i), some d, some (.int t), some y, some w] M := fun ss => by
        rw [ss_if_n cA, ss_asg (E' := [some v, some (.int keys), some (.ref L.length), some (optD prev), some (.int far), some (.int i), some d, some (.int t), some y, some w]) (d := d) (L1 := M) (by simp [evE]) (by rw [ed]; rfl)]
      by_cases cb : (lessP prev t || !(isInt (some 0) (some (keys - 1)) y)) = true
      · rw [cb] at cB
        have er : recF (some (keys - 1)) dn prev i (d :: ds) = some i := by
          simp only [recF, q]
          cases hl : lessP prev t with
          | true => rfl
          | false =>
            rw [hl] at cb
            simp only [Bool.false_or, Bool.not_eq_true'] at cb
            have : stepF (some (keys - 1)) dn (tl d) = none := by
              rw [ed]
              simp only [tl]
              cases y <;> simp only [stepF]
              rw [cb]; rfl
            simp only [Bool.false_eq_true, if_false, this]
        refine ⟨ks, some (optD prev), some (.int i), some d, some (.int t), some y, some w, ?_⟩
        rw [go1 (.fl (.rt (.int i)) [some v, some (.int keys), some (.ref L.length), some (optD prev), some (.int far), some (.int i), some d, some (.int t), some y, some w] M), er, hM]
        rw [b__law_record_fault_0, start, ss_if_t cB, ret _ rfl]; rfl
      · have cb' : (lessP prev t || !(isInt (some 0) (some (keys - 1)) y)) = false := by simpa using cb
        rw [cb'] at cB
        simp only [Bool.or_eq_false_iff, Bool.not_eq_false'] at cb'
        obtain ⟨hl1, hi⟩ := cb'
        obtain ⟨j, rfl⟩ : ∃ j, y = .int j := by cases y <;> simp [isInt] at hi; exact ⟨_, rfl⟩
        have inn := in_ints top j
        have z2 : MP.sizeOk 2 = true := sizeOk_small (by omega)
        -- the way that is due
        have due : evE (T.cx k) (.idx (.lst false (.cons (.con (.str (Str.ofString "down"))) (.cons (.con (.str (Str.ofString "up"))) .nil))) (.blt .int false (.cons (.cmp .in_ (.var 8) (.var 2)) .nil))) [some v, some (.int keys), some (.ref L.length), some (optD prev), some (.int far), some (.int i), some d, some (.int t), some (.int j), some w] M = .ok (.str (way (!(dn j)))) M := by
          rw [hd]
          by_cases c : j ∈ ks <;> simp [evE, evA, z2, newL, opt, inn, c, optV, bltD, idxD, seqOf, lstOf, idxSeq, atI, ixN, way]
        by_cases hw : w = .str (way (!(dn j)))
        · have es : stepF (some (keys - 1)) dn (tl d) = some (j, !(dn j)) := by
            rw [ed, hw]
            have hw2 : wayD (.str (way (!(dn j)))) = some (!(dn j)) := wayS_iff.mpr rfl
            simp only [tl, stepF, hi, if_true, hw2]
          have cC : evT (T.cx k) (.or (.not (.isi (.var 9) .str)) (.cmp .ne (.var 9) (.idx (.lst false (.cons (.con (.str (Str.ofString "down"))) (.cons (.con (.str (Str.ofString "up"))) .nil))) (.blt .int false (.cons (.cmp .in_ (.var 8) (.var 2)) .nil))))) [some v, some (.int keys), some (.ref L.length), some (optD prev), some (.int far), some (.int i), some d, some (.int t), some (.int j), some w] M = .ok false M := by
            have ne : evE (T.cx k) (.cmp .ne (.var 9) (.idx (.lst false (.cons (.con (.str (Str.ofString "down"))) (.cons (.con (.str (Str.ofString "up"))) .nil))) (.blt .int false (.cons (.cmp .in_ (.var 8) (.var 2)) .nil)))) [some v, some (.int keys), some (.ref L.length), some (optD prev), some (.int far), some (.int i), some d, some (.int t), some (.int j), some w] M = .ok (.bl false) M := by
              rw [evE, evE]
              simp only [List.getElem?_cons_succ, List.getElem?_cons_zero, Res.bind_ok, due]
              rw [hw]
              simp [cmpD, eqD, scal2, eqS, optV]
            rw [evT, evE, evE, evE, evE]
            simp only [List.getElem?_cons_succ, List.getElem?_cons_zero, Res.bind_ok]
            have : isiD M w .str = some true := by rw [hw]; rfl
            simp only [this, optV, Res.bind_ok, truD, Bool.not_true, Bool.false_eq_true, if_false, ne]
          have t1 : cmpD .eq w (.str (Str.ofString "down")) M = some (!(dn j)) := by
            rw [hw]
            simp only [cmpD, eqD, scal2, eqS, if_true, way_down]
            congr 1
            cases dn j <;> rfl
          have t2 : evT (T.cx k) (.cmp .eq (.var 9) (.con (.str (Str.ofString "down")))) [some v, some (.int keys), some (.ref L.length), some (.int t), some (.int far), some (.int i), some d, some (.int t), some (.int j), some w] M = .ok (!(dn j)) M := by simp [evT, evE, t1, optV, truD]
          have mid : ∀ ss, evSs (T.cx k) (.cons (.ite (.or (.and (.cmp .isn (.var 3) (.con .non)) (.cmp .lt (.var 7) (.var 3))) (.not (.call 121 (.cons (.var 8) (.cons (.con (.int 0)) (.cons (.bin .sub false (.var 1) (.con (.int 1))) .nil)))))) (.cons (.ret (.var 5)) .nil) .nil) (.cons (.ite (.or (.not (.isi (.var 9) .str)) (.cmp .ne (.var 9) (.idx (.lst false (.cons (.con (.str (Str.ofString "down"))) (.cons (.con (.str (Str.ofString "up"))) .nil))) (.blt .int false (.cons (.cmp .in_ (.var 8) (.var 2)) .nil))))) (.cons (.ret (.var 5)) .nil) .nil) (.cons (.asg (.nm (.slot 3)) (.var 7)) ss))) [some v, some (.int keys), some (.ref L.length), some (optD prev), some (.int far), some (.int i), some d, some (.int t), some (.int j), some w] M =
              evSs (T.cx k) ss [some v, some (.int keys), some (.ref L.length), some (.int t), some (.int far), some (.int i), some d, some (.int t), some (.int j), some w] M := fun ss => by
            rw [ss_if_n cB, ss_if_n cC, ss_asg (E' := [some v, some (.int keys), some (.ref L.length), some (.int t), some (.int far), some (.int i), some d, some (.int t), some (.int j), some w]) (d := .int t) (L1 := M) (by simp [evE]) rfl]
          have kl : ks.length ≤ 1000 := by simp at hl; omega
          cases hdj : dn j with
          | false =>
            have jn : j ∉ ks := by have := hd j; rw [hdj] at this; simpa using this.symm
            rw [hdj] at t2 es
            have d1 := app_lst top (by simp; omega) (.int j)
            have m1 := mt_lst top (m := .append) (by simp)
            have eM : M.set L.length (.lst (ks.map D.int ++ [.int j])) = L ++ [.lst ((ks ++ [j]).map D.int)] := by
              rw [hM, List.set_append_right _ _ (Nat.le_refl _)]; simp
            rw [eM] at d1
            obtain ⟨ks', y3, y5, y6, y7, y8, y9, ih⟩ := fault_loop k hk L v keys far ds (i + 1) (ks ++ [j]) (fun x => if x = j then true else dn x) (some t) (some (.int i)) (some d) (some (.int t)) (some (.int j)) (some w) (fun x hx => hn x (List.mem_cons_of_mem _ hx)) (fun x hx => hb x (List.mem_cons_of_mem _ hx)) (fun x => by
                by_cases c : x = j <;> simp [c, hd]) (by rw [List.nodup_append]; exact ⟨nd, by simp, fun a ha b hb e => jn (by rw [List.mem_singleton.mp hb] at e; rw [← e]; exact ha)⟩) (by simp at hl ⊢; omega)
            refine ⟨ks', y3, y5, y6, y7, y8, y9, ?_⟩
            rw [go1 (.fl .nx [some v, some (.int keys), some (.ref L.length), some (.int t), some (.int far), some (.int i), some d, some (.int t), some (.int j), some w] (L ++ [.lst ((ks ++ [j]).map D.int)]))]
            · simp only [recF, q, hl1, Bool.false_eq_true, if_false, es]
              exact ih
            · rw [b__law_record_fault_0, start, mid, ss_if_t t2, ss_ex (d := .non) (L1 := L ++ [.lst ((ks ++ [j]).map D.int)]) (by simp [evE, evA, m1, d1, opt]), ss_nil, SRes.seq_nx, ss_nil]
          | true =>
            have jn : j ∈ ks := by have := hd j; rw [hdj] at this; simpa using this.symm
            rw [hdj] at t2 es
            have d1 := rem_ints top jn
            have m1 := mt_lst top (m := .remove) (by simp)
            have eM : M.set L.length (.lst ((ks.erase j).map D.int)) = L ++ [.lst ((ks.erase j).map D.int)] := by
              rw [hM, List.set_append_right _ _ (Nat.le_refl _)]; simp
            rw [eM] at d1
            obtain ⟨ks', y3, y5, y6, y7, y8, y9, ih⟩ := fault_loop k hk L v keys far ds (i + 1) (ks.erase j) (fun x => if x = j then false else dn x) (some t) (some (.int i)) (some d) (some (.int t)) (some (.int j)) (some w) (fun x hx => hn x (List.mem_cons_of_mem _ hx)) (fun x hx => hb x (List.mem_cons_of_mem _ hx)) (fun x => by
                simp only [nd.mem_erase_iff]
                by_cases c : x = j <;> simp [c, hd]) (nd.erase j) (by have := List.length_erase_of_mem jn; simp at hl ⊢; omega)
            refine ⟨ks', y3, y5, y6, y7, y8, y9, ?_⟩
            rw [go1 (.fl .nx [some v, some (.int keys), some (.ref L.length), some (.int t), some (.int far), some (.int i), some d, some (.int t), some (.int j), some w] (L ++ [.lst ((ks.erase j).map D.int)]))]
            · simp only [recF, q, hl1, Bool.false_eq_true, if_false, es]
              exact ih
            · rw [b__law_record_fault_0, start, mid, ss_if_f t2, ss_ex (d := .non) (L1 := L ++ [.lst ((ks.erase j).map D.int)]) (by simp [evE, evA, m1, d1, opt]), ss_nil, SRes.seq_nx, ss_nil]
        · have es : stepF (some (keys - 1)) dn (tl d) = none := by
            rw [ed]
            simp only [tl, stepF, hi, if_true]
            cases hw2 : wayD w with
            | none => rfl
            | some b =>
              simp only
              rw [if_neg]
              intro e
              subst e
              cases w <;> simp only [wayD] at hw2 <;> try cases hw2
              exact hw (by rw [wayS_iff.mp hw2])
          have cC : evT (T.cx k) (.or (.not (.isi (.var 9) .str)) (.cmp .ne (.var 9) (.idx (.lst false (.cons (.con (.str (Str.ofString "down"))) (.cons (.con (.str (Str.ofString "up"))) .nil))) (.blt .int false (.cons (.cmp .in_ (.var 8) (.var 2)) .nil))))) [some v, some (.int keys), some (.ref L.length), some (optD prev), some (.int far), some (.int i), some d, some (.int t), some (.int j), some w] M = .ok true M := by
            by_cases hs : ∃ s, w = .str s
            · obtain ⟨s, rfl⟩ := hs
              have ne : evE (T.cx k) (.cmp .ne (.var 9) (.idx (.lst false (.cons (.con (.str (Str.ofString "down"))) (.cons (.con (.str (Str.ofString "up"))) .nil))) (.blt .int false (.cons (.cmp .in_ (.var 8) (.var 2)) .nil)))) [some v, some (.int keys), some (.ref L.length), some (optD prev), some (.int far), some (.int i), some d, some (.int t), some (.int j), some (.str s)] M = .ok (.bl true) M := by
                rw [evE, evE]
                simp only [List.getElem?_cons_succ, List.getElem?_cons_zero, Res.bind_ok, due]
                have : ¬ s = way (!(dn j)) := fun e => hw (by rw [e])
                simp [cmpD, eqD, scal2, eqS, optV, this]
              rw [evT, evE, evE, evE, evE]
              simp only [List.getElem?_cons_succ, List.getElem?_cons_zero, Res.bind_ok, isiD, optV, decide_true, truD, Bool.not_true, Bool.false_eq_true, if_false, ne]
            · have : isiD M w .str = some false := by
                cases w <;> first | rfl | (exact absurd ⟨_, rfl⟩ hs) | (simp [noRef] at nrs)
              simp [evT, evE, this, optV, truD]
          refine ⟨ks, some (optD prev), some (.int i), some d, some (.int t), some (.int j), some w, ?_⟩
          rw [go1 (.fl (.rt (.int i)) [some v, some (.int keys), some (.ref L.length), some (optD prev), some (.int far), some (.int i), some d, some (.int t), some (.int j), some w] M)]
          · simp only [recF, q, hl1, Bool.false_eq_true, if_false, es, hM]
          · rw [b__law_record_fault_0, start, ss_if_n cB, ss_if_t cC, ret _ rfl]; rfl
variable [HasFn T 122 f__law_record_fault]
theorem s_fault (k : Nat) (hk : 2 ≤ k) (L : Live) (tg : Nat) (ds : List D) (keys : Int) (hz : ds.length ≤ 400) (hn : ∀ d ∈ ds, noRef d = true) (hb : ∀ d ∈ ds, ∀ t, evtT d = some t → -(10 ^ 120) ≤ t ∧ t ≤ 10 ^ 120) :
    (T.cx k).φ 122 [.lst tg ds, .int keys] L = .ok (outF (recF (some (keys - 1)) (fun _ => false) none 0 ds)) L := by
  obtain ⟨k, rfl⟩ : ∃ m, k = m + 1 := ⟨k - 1, by omega⟩
  rw [goCH 122 rfl rfl]
  obtain ⟨M60, p60, v60⟩ := e_power 10 60 (by decide)
  have w60 : M60 * M60 = 10 ^ 120 := by rw [v60]; rfl
  have mo : mulOk M60 M60 = true := by rw [v60]; decide
  clear v60
  obtain ⟨far, hfar⟩ : ∃ far, far = M60 * M60 := ⟨_, rfl⟩
  rw [← hfar] at w60
  have efar : ∀ c E L, evE c (.bin .mul false (.bin .pow false (.con (.int 10)) (.con (.int 60))) (.bin .pow false (.con (.int 10)) (.con (.int 60)))) E L = .ok (.int far) L := fun c E L => by
    rw [evE, p60, Res.bind_ok, p60, Res.bind_ok, bMul _ _ _ _ mo, ← hfar]
    rfl
  have hb' : ∀ d ∈ ds, ∀ t, evtT d = some t → 0 - far ≤ t ∧ t ≤ far := fun d hd t ht => by
    have := hb d hd t ht
    rw [← w60] at this
    omega
  clear w60
  obtain ⟨ks, y3, y5, y6, y7, y8, y9, e⟩ := fault_loop (T := T) k (by omega) L (.lst tg ds) keys far ds 0 [] (fun _ => false) none none none none none none hn hb' (fun _ => by simp) (by simp) (by simp; omega)
  have c1 : evT (T.cx k) (.or (.not (.isi (.var 0) .list)) (.cmp .gt (.blt .len false (.cons (.var 0) .nil)) (.con (.int 400)))) [some (.lst tg ds), some (.int keys), none, none, none, none, none, none, none, none] L = .ok false L := by
    have gt : cmpD .gt (.int (ds.length : Int)) (.int 400) L = some false := by
      simp only [cmpD, ordI]
      congr 1
      exact decide_eq_false (by omega)
    simp [evT, evE, evA, isiD, optV, truD, bltD, lenD, seqOf, lstOf, opt, gt]
  have q0 : MP.sizeOk 0 = true := sizeOk_small (by omega)
  have eI : evI (T.cx k) (.enum (.var 0)) [some (.lst tg ds), some (.int keys), some (.ref L.length), some (optD none), some (.int far), none, none, none, none, none] (L ++ [.lst (([] : List Int).map D.int)]) = .ok (enumD ds, []) (L ++ [.lst (([] : List Int).map D.int)]) := by simp [evI, evE, lstOf, optV, watch]
  have pre : evSs (T.cx k) b__law_record_fault [some (.lst tg ds), some (.int keys), none, none, none, none, none, none, none, none] L = evSs (T.cx k) (.cons (.for_ (.tup [(.slot 5), (.slot 6)]) (.enum (.var 0)) b__law_record_fault_0) (.cons (.ret (.con (.str (Str.ofString "fine")))) .nil)) [some (.lst tg ds), some (.int keys), some (.ref L.length), some (optD none), some (.int far), none, none, none, none, none] (L ++ [.lst (([] : List Int).map D.int)]) := by
    have ea : evA (T.cx k) (.cons (.lst true .nil) (.cons (.con .non) (.cons (.bin .mul false (.bin .pow false (.con (.int 10)) (.con (.int 60))) (.bin .pow false (.con (.int 10)) (.con (.int 60)))) .nil))) [some (.lst tg ds), some (.int keys), none, none, none, none, none, none, none, none] L = .ok [.ref L.length, .non, .int far] (L ++ [.lst []]) := by
      have e0 : evE (T.cx k) (.lst true .nil) [some (.lst tg ds), some (.int keys), none, none, none, none, none, none, none, none] L = .ok (.ref L.length) (L ++ [.lst []]) := by simp [evE, evA, q0, newL, opt]
      rw [evA, e0, Res.bind_ok, evA, evE, Res.bind_ok, evA, efar, Res.bind_ok, evA]
      rfl
    rw [b__law_record_fault, ss_if_n c1, ss_par ea rfl]
    rfl
  show cleanR L (resOf (evSs (T.cx k) b__law_record_fault [some (.lst tg ds), some (.int keys), none, none, none, none, none, none, none, none] L)) = _
  rw [pre]
  cases q : recF (some (keys - 1)) (fun _ => false) none 0 ds with
  | none =>
    rw [q] at e
    rw [ss_for (w := []) (ds := enumD ds) (L1 := L ++ [.lst (([] : List Int).map D.int)]) eI e, ss_ret (d := fineD) (L1 := L ++ [.lst (ks.map D.int)]) (by simp [evE, fineD])]
    simp only [resOf, cleanR]
    rw [fz_ok (by rfl), cutL_app]
    rfl
  | some j =>
    rw [q] at e
    rw [ss_for_rt (w := []) (ds := enumD ds) (L1 := L ++ [.lst (([] : List Int).map D.int)]) eI e]
    simp only [resOf, cleanR]
    rw [fz_ok (by rfl), cutL_app]
    rfl
theorem s_fault_no (k : Nat) (hk : 2 ≤ k) (L : Live) (d : D) (keys : Int) (hn : noRef d = true) (h : evsB d = false) : (T.cx k).φ 122 [d, .int keys] L = .ok .non L := by
  obtain ⟨k, rfl⟩ : ∃ m, k = m + 1 := ⟨k - 1, by omega⟩
  rw [goCH 122 rfl rfl]
  have c1 : evT (T.cx k) (.or (.not (.isi (.var 0) .list)) (.cmp .gt (.blt .len false (.cons (.var 0) .nil)) (.con (.int 400)))) [some d, some (.int keys), none, none, none, none, none, none, none, none] L = .ok true L := by
    by_cases hl : ∃ t ds, d = .lst t ds
    · obtain ⟨t, ds, rfl⟩ := hl
      have hz : ¬ ds.length ≤ 400 := by simpa [evsB] using h
      have gt : cmpD .gt (.int (ds.length : Int)) (.int 400) L = some true := by
        simp only [cmpD, ordI]
        congr 1
        exact decide_eq_true (by omega)
      simp [evT, evE, evA, isiD, optV, truD, bltD, lenD, seqOf, lstOf, opt, gt]
    · have et : isiD L d .list = some false := by
        cases d <;> first | rfl | (exact absurd ⟨_, _, rfl⟩ hl) | (simp [noRef] at hn)
      simp [evT, evE, evA, et, optV, truD]
  show cleanR L (resOf (evSs (T.cx k) b__law_record_fault [some d, some (.int keys), none, none, none, none, none, none, none, none] L)) = _
  rw [b__law_record_fault, ss_if_t c1, ss_ret (d := .non) (L1 := L) (by simp [evE])]
  simp only [SRes.seq_rt, resOf, cleanR]
  have := cutL_app L.length L L []
  rw [List.append_nil] at this
  rw [fz_ok (by rfl), this]
/-! ### the judge of orders -/
def is2 : D → Bool | .tup [_, _] => true | _ => false
def zero3 : D → D | .tup [a, b] => .tup [.int 0, a, b] | d => d
def pre2 : List D → List D
  | [] => []
  | d :: ds => if is2 d then zero3 d :: pre2 ds else []
theorem pre2_len : ∀ ds : List D, (pre2 ds).length ≤ ds.length
  | [] => by simp [pre2]
  | d :: ds => by
    have := pre2_len ds
    simp only [pre2]
    split
    · simp; omega
    · simp
theorem pre2_mem : ∀ {ds : List D} {x : D}, x ∈ pre2 ds → ∃ a b, .tup [a, b] ∈ ds ∧ x = .tup [.int 0, a, b]
  | [], x, h => by simp [pre2] at h
  | d :: ds, x, h => by
    simp only [pre2] at h
    split at h
    · rename_i h2
      rcases List.mem_cons.mp h with rfl | h
      · unfold is2 at h2
        split at h2
        · exact ⟨_, _, List.mem_cons_self, rfl⟩
        · cases h2
      · obtain ⟨a, b, h1, h2⟩ := pre2_mem h
        exact ⟨a, b, List.mem_cons_of_mem _ h1, h2⟩
    · cases h
theorem step_is2 {many : Option Int} {dn : Int → Bool} {d : D} (h : is2 d = false) : stepF many dn d = none := by
  cases q : stepF many dn d with
  | none => rfl
  | some ib =>
    obtain ⟨e, _⟩ := step_shape (i := ib.1) (b := ib.2) q
    rw [e] at h
    cases h
/-- the order is fine where its steps with equal ticks are, and it has no other items -/
theorem pre2_fine (many : Option Int) : ∀ (ds : List D) (dn : Int → Bool) (prev : Option Int) (n : Nat), (prev = none ∨ prev = some 0) →
    ((recF many dn prev n (pre2 ds)).isNone && ((pre2 ds).length == ds.length)) = (fwsF many dn n ds).isNone
  | [], dn, prev, n, _ => by simp [pre2, recF, fwsF]
  | d :: ds, dn, prev, n, hp => by
    by_cases h2 : is2 d = true
    case neg =>
      have e1 : pre2 (d :: ds) = [] := by simp [pre2, h2]
      rw [e1]
      have h2' : is2 d = false := by simpa using h2
      simp only [fwsF, step_is2 h2']
      simp [recF]
    case pos =>
      have e1 : pre2 (d :: ds) = zero3 d :: pre2 ds := by simp [pre2, h2]
      rw [e1]
      obtain ⟨a, b, rfl⟩ : ∃ a b, d = .tup [a, b] := by
        unfold is2 at h2
        split at h2
        · exact ⟨_, _, rfl⟩
        · cases h2
      have hl : lessP prev 0 = false := by rcases hp with rfl | rfl <;> rfl
      simp only [recF, zero3, evtT, hl, Bool.false_eq_true, if_false, tl, fwsF]
      cases q : stepF many dn (.tup [a, b]) with
      | none => simp
      | some ib =>
        simp only
        have ih := pre2_fine many ds (fun k => if k = ib.1 then ib.2 else dn k) (some 0) (n + 1) (.inr rfl)
        rw [← ih]
        simp
variable [HasFn T 123 f__law_order_fault]
theorem order_loop (k : Nat) (L : Live) (v : D) (kd : Option D) (x4 : Option D) : ∀ (ds found : List D) (x3 : Option D), (∀ d ∈ ds, noRef d = true) → found.length + ds.length ≤ 1000 →
    ∃ y3 : Option D, forL [] (.slot 3) (fun E' L' => evSs (T.cx k) b__law_order_fault_0 E' L') ds [some v, kd, some (.ref L.length), x3, x4] (L ++ [.lst found]) = .fl .nx [some v, kd, some (.ref L.length), y3, x4] (L ++ [.lst (found ++ pre2 ds)])
  | [], found, x3, _, _ => ⟨x3, by simp [forL, pre2]⟩
  | d :: ds, found, x3, hn, hl => by
    have nr := hn d List.mem_cons_self
    obtain ⟨M, hM⟩ : ∃ M, M = L ++ [LO.lst found] := ⟨_, rfl⟩
    have top : M[L.length]? = some (.lst found) := by rw [hM]; simp
    have cA : evT (T.cx k) (.or (.not (.isi (.var 3) .tuple)) (.cmp .ne (.blt .len false (.cons (.var 3) .nil)) (.con (.int 2)))) [some v, kd, some (.ref L.length), some d, x4] M = .ok (!(is2 d)) M := by
      by_cases ht : ∃ xs, d = .tup xs
      · obtain ⟨xs, rfl⟩ := ht
        have e : is2 (.tup xs) = decide (xs.length = 2) := by
          match xs with
          | [] => rfl
          | [_] => rfl
          | [_, _] => rfl
          | _ :: _ :: _ :: _ => simp [is2]
        have ne : cmpD .ne (.int (xs.length : Int)) (.int 2) M = some (!(decide (xs.length = 2))) := by
          simp only [cmpD, eqD, scal2, eqS, if_true, Option.map_some]
          congr 2
          by_cases c : xs.length = 2
          · simp [c]
          · have : ¬ (xs.length : Int) = 2 := by omega
            simp [c, this]
        rw [e]
        simp [evT, evE, evA, isiD, optV, truD, bltD, lenD, seqOf, opt, ne]
      · have et : isiD M d .tuple = some false := by
          cases d <;> first | rfl | (exact absurd ⟨_, rfl⟩ ht) | (simp [noRef] at nr)
        have e : is2 d = false := by cases d <;> first | rfl | (exact absurd ⟨_, rfl⟩ ht)
        rw [e]
        simp [evT, evE, et, optV, truD]
    rw [← hM]
    simp only [forL, still_nil, if_true, storeG, List.length_cons, List.length_nil, Nat.reduceAdd, Nat.reduceLT, List.set_cons_succ, List.set_cons_zero]
    cases h2 : is2 d with
    | false =>
      rw [h2] at cA
      refine ⟨some d, ?_⟩
      have st : evSs (T.cx k) b__law_order_fault_0 [some v, kd, some (.ref L.length), some d, x4] M = .fl .bk [some v, kd, some (.ref L.length), some d, x4] M := by
        rw [b__law_order_fault_0, ss_if_t cA]; rfl
      simp only [st, pre2, h2, Bool.false_eq_true, if_false, List.append_nil]
      rw [hM]
    | true =>
      rw [h2] at cA
      obtain ⟨a, b, rfl⟩ : ∃ a b, d = .tup [a, b] := by
        unfold is2 at h2
        split at h2
        · exact ⟨_, _, rfl⟩
        · cases h2
      have d1 := app_lst top (by simp at hl; omega) (.tup [.int 0, a, b])
      have m1 := mt_lst top (m := .append) (by simp)
      have eM : M.set L.length (.lst (found ++ [.tup [.int 0, a, b]])) = L ++ [.lst (found ++ [.tup [.int 0, a, b]])] := by
        rw [hM, List.set_append_right _ _ (Nat.le_refl _)]; simp
      rw [eM] at d1
      have z3 : MP.sizeOk 3 = true := sizeOk_small (by omega)
      have z1 : MP.sizeOk 1 = true := sizeOk_small (by omega)
      have st : evSs (T.cx k) b__law_order_fault_0 [some v, kd, some (.ref L.length), some (.tup [a, b]), x4] M = .fl .nx [some v, kd, some (.ref L.length), some (.tup [a, b]), x4] (L ++ [.lst (found ++ [.tup [.int 0, a, b]])]) := by
        rw [b__law_order_fault_0, ss_if_n cA, ss_ex (d := .non) (L1 := L ++ [.lst (found ++ [.tup [.int 0, a, b]])]) (by simp [evE, evA, m1, z1, binD, z3, opt, d1]), ss_nil]
      obtain ⟨y3, ih⟩ := order_loop k L v kd x4 ds (found ++ [.tup [.int 0, a, b]]) (some (.tup [a, b])) (fun x hx => hn x (List.mem_cons_of_mem _ hx)) (by simp at hl ⊢; omega)
      refine ⟨y3, ?_⟩
      simp only [st, ih, pre2, h2, if_true, zero3]
      simp
end
end PB
set_option maxHeartbeats 2000000
namespace PB
open PySem hiding Act
open PySem.Spec PyProof.Rows L2 MP
/-! ### live lists of trees, lent -/
theorem lendF_list {L : Live} {n m : Nat} {ds : List D} (h : L[n]? = some (.lst ds)) (hn : noRefs ds = true) : lendF L (m + 2) (.ref n) = some (.lst (n + 1) ds) := by
  rw [lendF]
  simp only [noRef, Bool.false_eq_true, if_false, h]
  rw [mapO_id fun x hx => lendF_noRef L m (by
    have : ∀ (l : List D), noRefs l = true → ∀ x ∈ l, noRef x = true := by
      intro l
      induction l with
      | nil => intro _ x hx; cases hx
      | cons a l ih =>
        intro h x hx
        simp only [noRefs, Bool.and_eq_true] at h
        rcases List.mem_cons.mp hx with rfl | hx
        · exact h.1
        · exact ih h.2 x hx
    exact this ds hn x hx)]
  rfl
theorem noRefs_mem : ∀ {l : List D}, noRefs l = true → ∀ x ∈ l, noRef x = true
  | [], _, x, hx => by cases hx
  | a :: l, h, x, hx => by
    simp only [noRefs, Bool.and_eq_true] at h
    rcases List.mem_cons.mp hx with rfl | hx
    · exact h.1
    · exact noRefs_mem h.2 x hx
theorem idsF_list {L : Live} {n m : Nat} {ds : List D} (h : L[n]? = some (.lst ds)) (hn : noRefs ds = true) : idsF L (m + 1) (.ref n) = [n] := by
  rw [idsF]
  simp only [noRef, Bool.false_eq_true, if_false, h]
  congr 1
  rw [List.flatMap_eq_nil_iff]
  exact fun x hx => idsF_noRef L m (noRefs_mem hn x hx)
theorem callW_list {c : Cxt} {f : Nat} {L : Live} {n : Nat} {ds args : List D} {d : D} (h : L[n]? = some (.lst ds)) (hn : noRefs ds = true) (hl : (c.liv f).headD false = false) (ha : noRefs args = true) (hd : noTag d = true)
    (h3 : ∀ M : Live, c.φ f (.lst (n + 1) ds :: args) M = .ok d M) : callW c f (.ref n :: args) L = .ok d L := by
  have := callW_lend (c := c) (f := f) (L := L) (X := []) (i := n) (ids := []) (ds := .ref n :: args) (es := .lst (n + 1) ds :: args) (d := d) ?_ ?_ ?_ (by simp) hd (by rw [h3, List.append_nil])
  · rw [List.append_nil] at this; exact this
  · simp only [idsAs, hl, Bool.false_eq_true, if_false, idsF_list (m := 11) h hn, idsAs_noRef L _ args ha, List.append_nil]
  · simp only [lendAs, hl, Bool.false_eq_true, if_false, lendF_list (m := 10) h hn, lendAs_noRef L _ args ha]
  · intro j hj
    rw [List.mem_singleton.mp hj]
    exact (List.getElem?_eq_some_iff.mp h).1
/-! ### what repr sees, dicts too -/
theorem toPy_viewX (L : Live) : ∀ (n : Nat) {d : D} {p q : PyData}, toPy d = some q → viewX L n d = some p → p = q
  | 0, d, p, q, _, h => by simp [viewX] at h
  | n + 1, d, p, q, hq, hp => by
    have key : ∀ {ds : List D} {ps qs : List PyData}, toPys ds = some qs → mapO (viewX L n) ds = some ps → ps = qs := by
      intro ds
      induction ds with
      | nil => intro ps qs h1 h2; simp only [toPys, Option.some.injEq] at h1; simp only [mapO, Option.some.injEq] at h2; rw [← h1, ← h2]
      | cons d ds ih =>
        intro ps qs h1 h2
        simp only [toPys] at h1
        simp only [mapO] at h2
        cases a1 : toPy d with
        | none => rw [a1] at h1; cases h1
        | some q1 =>
          rw [a1] at h1
          cases a2 : toPys ds with
          | none => rw [a2] at h1; cases h1
          | some q2 =>
            rw [a2] at h1
            cases b1 : viewX L n d with
            | none => rw [b1] at h2; cases h2
            | some p1 =>
              rw [b1] at h2
              cases b2 : mapO (viewX L n) ds with
              | none => rw [b2] at h2; cases h2
              | some p2 =>
                rw [b2] at h2
                simp only [Option.some.injEq] at h1 h2
                rw [← h1, ← h2, toPy_viewX L n a1 b1, ih a2 b2]
    cases d with
    | tup ds =>
      simp only [toPy] at hq
      simp only [viewX, Option.map_eq_some_iff] at hp
      obtain ⟨ps, h1, rfl⟩ := hp
      cases a : toPys ds with
      | none => rw [a] at hq; cases hq
      | some qs => rw [a] at hq; cases hq; rw [key a h1]
    | lst t ds =>
      simp only [toPy] at hq
      simp only [viewX, Option.map_eq_some_iff] at hp
      obtain ⟨ps, h1, rfl⟩ := hp
      cases a : toPys ds with
      | none => rw [a] at hq; cases hq
      | some qs => rw [a] at hq; cases hq; rw [key a h1]
    | ref k => simp [toPy] at hq
    | dct ks ds => simp [toPy] at hq
    | _ => simp only [viewX] at hp; rw [hq] at hp; exact (Option.some.inj hp).symm
theorem view_viewX (L : Live) : ∀ (n : Nat) {d : D} {p q : PyData}, view L n d = some q → viewX L n d = some p → p = q
  | 0, d, p, q, _, h => by simp [viewX] at h
  | n + 1, d, p, q, hq, hp => by
    have key : ∀ {ds : List D} {ps qs : List PyData}, mapO (view L n) ds = some qs → mapO (viewX L n) ds = some ps → ps = qs := by
      intro ds
      induction ds with
      | nil => intro ps qs h1 h2; simp only [mapO, Option.some.injEq] at h1 h2; rw [← h1, ← h2]
      | cons d ds ih =>
        intro ps qs h1 h2
        simp only [mapO] at h1 h2
        cases a1 : view L n d with
        | none => rw [a1] at h1; cases h1
        | some q1 =>
          rw [a1] at h1
          cases a2 : mapO (view L n) ds with
          | none => rw [a2] at h1; cases h1
          | some q2 =>
            rw [a2] at h1
            cases b1 : viewX L n d with
            | none => rw [b1] at h2; cases h2
            | some p1 =>
              rw [b1] at h2
              cases b2 : mapO (viewX L n) ds with
              | none => rw [b2] at h2; cases h2
              | some p2 =>
                rw [b2] at h2
                simp only [Option.some.injEq] at h1 h2
                rw [← h1, ← h2, view_viewX L n a1 b1, ih a2 b2]
    cases d with
    | tup ds =>
      simp only [view, viewX, Option.map_eq_some_iff] at hq hp
      obtain ⟨ps, h1, rfl⟩ := hp
      obtain ⟨qs, h2, rfl⟩ := hq
      rw [key h2 h1]
    | lst t ds =>
      simp only [view, viewX, Option.map_eq_some_iff] at hq hp
      obtain ⟨ps, h1, rfl⟩ := hp
      obtain ⟨qs, h2, rfl⟩ := hq
      rw [key h2 h1]
    | ref k =>
      simp only [view, viewX] at hq hp
      cases q : L[k]? with
      | none => rw [q] at hq; cases hq
      | some o =>
        rw [q] at hq hp
        cases o with
        | lst ds =>
          simp only [Option.map_eq_some_iff] at hq hp
          obtain ⟨ps, h1, rfl⟩ := hp
          obtain ⟨qs, h2, rfl⟩ := hq
          rw [key h2 h1]
        | _ => simp at hq
    | dct ks ds => simp [view, toPy] at hq
    | _ => simp only [view, viewX] at hp hq; rw [hq] at hp; exact (Option.some.inj hp).symm
theorem pyX_of {L : Live} {d : D} {p : PyData} (h : viewX L 12 d = some p) : pyX L d = some p := by
  unfold pyX
  cases q : pyOf L d with
  | none => exact h
  | some r =>
    simp only
    unfold pyOf at q
    cases q2 : toPy d with
    | some x =>
      rw [q2] at q
      simp only [Option.some.injEq] at q
      rw [← q, toPy_viewX L 12 q2 h]
    | none =>
      rw [q2] at q
      rw [view_viewX L 12 q h]
/-- what an item of a list looks like -/
structure Rp (d : D) : Prop where
  ex : ∃ p, (∀ L, viewX L 11 d = some p) ∧ p.showable = true ∧ psz p ≤ 2000 ∧ p.depth ≤ 8
theorem rep_list {t : Nat} {ds : List D} (h : ∀ d ∈ ds, Rp d) (hz : ds.length ≤ 410) : ∃ s, ∀ L, reprD L (.lst t ds) = some s := by
  have key : ∃ ps : List PyData, (∀ L, mapO (viewX L 11) ds = some ps) ∧ ps.length = ds.length ∧ ∀ p ∈ ps, p.showable = true ∧ psz p ≤ 2000 ∧ p.depth ≤ 8 := by
    clear hz
    induction ds with
    | nil => exact ⟨[], fun _ => rfl, rfl, by simp⟩
    | cons d ds ih =>
      obtain ⟨p, h1, h2⟩ := (h d List.mem_cons_self).ex
      obtain ⟨ps, h3, h4, h5⟩ := ih fun x hx => h x (List.mem_cons_of_mem _ hx)
      refine ⟨p :: ps, fun L => by simp [mapO, h1 L, h3 L], by simp [h4], fun q hq => ?_⟩
      rcases List.mem_cons.mp hq with rfl | hq
      · exact h2
      · exact h5 q hq
  obtain ⟨ps, h1, h2, h3⟩ := key
  refine ⟨(PyData.list ps).shown, fun L => ?_⟩
  have hv : viewX L 12 (.lst t ds) = some (.list ps) := by
    rw [viewX, h1 L]
    rfl
  have s1 := pszs_le (xs := ps) (m := 2000) fun p hp => (h3 p hp).2.1
  have s2 : ps.length * (2000 + 2) ≤ 410 * 2002 := Nat.mul_le_mul_right _ (by omega)
  have s3 := depthAll_le (xs := ps) (m := 8) fun p hp => (h3 p hp).2.2
  refine repr_okX (pyX_of hv) ?_ ?_ ?_
  · simp only [PyData.showable]
    exact MP.showableAll_of fun p hp => (h3 p hp).1
  · simp only [psz]; omega
  · simp only [PyData.depth]; omega
/-! ### items of records and orders that both sides can look at -/
structure OkItem (d : D) : Prop where
  nr : noRef d = true
  nt : noTag d = true
  w3 : ∀ x y w, d = .tup [x, y, w] → okW w
  w2 : ∀ x w, d = .tup [x, w] → okW w
  tb : ∀ t, evtT d = some t → -(10 ^ 120) ≤ t ∧ t ≤ 10 ^ 120
  kb : ∀ k, ((∃ x w, d = .tup [x, .int k, w]) ∨ ∃ w, d = .tup [.int k, w]) → k ≤ 10 ^ 40 - 1
  rp : Rp d
theorem OkItem.evt {d : D} (h : OkItem d) : OkEvt d := ⟨h.nr, h.w3⟩
theorem OkItem.step {d : D} (h : OkItem d) : OkStep d := ⟨h.nr, h.w2⟩
theorem isInt_many {k K : Int} (h : k ≤ K) : isInt (some 0) (some K) (.int k) = isInt (some 0) none (.int k) := by
  have : inHi (some K) k = true := decide_eq_true h
  simp only [isInt, this]
  rfl
theorem stepF_many {dn : Int → Bool} {d : D} {K : Int} (h : ∀ k w, d = .tup [.int k, w] → k ≤ K) : stepF (some K) dn d = stepF none dn d := by
  unfold stepF
  split
  · rename_i i w
    rw [isInt_many (h i w rfl)]
  · rfl
theorem fwsF_many {K : Int} : ∀ {ds : List D} {dn : Int → Bool} {n : Nat}, (∀ d ∈ ds, ∀ k w, d = .tup [.int k, w] → k ≤ K) → fwsF (some K) dn n ds = fwsF none dn n ds
  | [], _, _, _ => rfl
  | d :: ds, dn, n, h => by
    simp only [fwsF, stepF_many (h d List.mem_cons_self)]
    cases stepF none dn d with
    | none => rfl
    | some ib => exact fwsF_many fun x hx => h x (List.mem_cons_of_mem _ hx)
theorem recF_many {K : Int} : ∀ {ds : List D} {dn : Int → Bool} {prev : Option Int} {n : Nat}, (∀ d ∈ ds, ∀ x k w, d = .tup [x, .int k, w] → k ≤ K) → recF (some K) dn prev n ds = recF none dn prev n ds
  | [], _, _, _, _ => rfl
  | d :: ds, dn, prev, n, h => by
    simp only [recF]
    cases q : evtT d with
    | none => rfl
    | some t =>
      obtain ⟨y, w, rfl⟩ := evt_shape q
      simp only [tl]
      rw [stepF_many (K := K) (d := .tup [y, w]) fun k w' e => by
        simp only [D.tup.injEq, List.cons.injEq, and_true] at e
        exact h _ List.mem_cons_self _ k w (by rw [e.1])]
      cases hl : lessP prev t with
      | true => rfl
      | false =>
        simp only [Bool.false_eq_true, if_false]
        cases stepF none dn (.tup [y, w]) with
        | none => rfl
        | some ib => exact recF_many fun x hx => h x (List.mem_cons_of_mem _ hx)
theorem eq_fine (o : Option Nat) (L : Live) : cmpD .eq (outF o) (.str (Str.ofString "fine")) L = some o.isNone := by
  cases o <;> simp [outF, fineD, cmpD, eqD, scal2, eqS]
section
variable {T : Tab} [HasFn T 121 f__law_is_number] [HasFn T 122 f__law_record_fault] [HasFn T 123 f__law_order_fault]
def ordR (many : Option Int) (ds : List D) : D := match recF many (fun _ => false) none 0 (pre2 ds) with
  | none => if (pre2 ds).length < ds.length then .int (pre2 ds).length else fineD
  | some j => .int j
theorem s_order_fault (k : Nat) (hk : 3 ≤ k) (L : Live) (tg : Nat) (ds : List D) (keys : Int) (hz : ds.length ≤ 400) (hn : ∀ d ∈ ds, noRef d = true) :
    ∃ r, (T.cx k).φ 123 [.lst tg ds, .int keys] L = .ok r L ∧ noTag r = true ∧ (∀ M, cmpD .eq r (.str (Str.ofString "fine")) M = some (fwsF (some (keys - 1)) (fun _ => false) 0 ds).isNone) ∧ r = ordR (some (keys - 1)) ds := by
  obtain ⟨k, rfl⟩ : ∃ m, k = m + 1 := ⟨k - 1, by omega⟩
  have q0 : MP.sizeOk 0 = true := sizeOk_small (by omega)
  obtain ⟨y3, e⟩ := order_loop (T := T) k L (.lst tg ds) (some (.int keys)) none ds [] none hn (by simp; omega)
  have pl := pre2_len ds
  have hn2 : noRefs (pre2 ds) = true := noRefs_of fun x hx => by
    obtain ⟨a, b, h1, rfl⟩ := pre2_mem hx
    have := hn _ h1
    simpa [noRef, noRefs] using this
  obtain ⟨M, hM⟩ : ∃ M, M = L ++ [LO.lst (pre2 ds)] := ⟨_, rfl⟩
  have top : M[L.length]? = some (.lst (pre2 ds)) := by rw [hM]; simp
  have nto : ∀ o, noTag (outF o) = true := fun o => by cases o <;> rfl
  have cw : callW (T.cx k) 122 [.ref L.length, .int keys] M = .ok (outF (recF (some (keys - 1)) (fun _ => false) none 0 (pre2 ds))) M :=
    callW_list top hn2 (by rw [liv_of (HasFn.h (f := 122) (d := f__law_record_fault))]; rfl) rfl (nto _) fun M' => s_fault (T := T) k (by omega) M' _ (pre2 ds) keys (by omega) (noRefs_mem hn2) (fun d hd t ht => by
      obtain ⟨a, b, _, rfl⟩ := pre2_mem hd
      simp only [evtT, Option.some.injEq] at ht
      subst ht
      constructor <;> decide)
  have c1 : evT (T.cx k) (.or (.not (.isi (.var 0) .list)) (.cmp .gt (.blt .len false (.cons (.var 0) .nil)) (.con (.int 400)))) [some (.lst tg ds), some (.int keys), none, none, none] L = .ok false L := by
    have gt : cmpD .gt (.int (ds.length : Int)) (.int 400) L = some false := by
      simp only [cmpD, ordI]
      congr 1
      exact decide_eq_false (by omega)
    simp [evT, evE, evA, isiD, optV, truD, bltD, lenD, seqOf, lstOf, opt, gt]
  have fine := pre2_fine (some (keys - 1)) ds (fun _ => false) none 0 (.inl rfl)
  have pre : evSs (T.cx k) b__law_order_fault [some (.lst tg ds), some (.int keys), none, none, none] L = evSs (T.cx k) (.cons (.ret (.ite (.and (.cmp .eq (.var 4) (.con (.str (Str.ofString "fine")))) (.cmp .lt (.blt .len false (.cons (.var 2) .nil)) (.blt .len false (.cons (.var 0) .nil)))) (.blt .len false (.cons (.var 2) .nil)) (.var 4))) .nil) [some (.lst tg ds), some (.int keys), some (.ref L.length), y3, some (outF (recF (some (keys - 1)) (fun _ => false) none 0 (pre2 ds)))] M := by
    rw [b__law_order_fault, ss_if_n c1, ss_asg (E' := [some (.lst tg ds), some (.int keys), some (.ref L.length), none, none]) (d := .ref L.length) (L1 := L ++ [.lst []]) (by simp [evE, evA, q0, newL, opt]) rfl,
      ss_for (w := []) (ds := ds) (L1 := L ++ [.lst []]) (by simp [evI, evE, itemsOf, seqOf, lstOf, optV, watch]) e]
    rw [List.nil_append, ← hM, ss_asg (E' := [some (.lst tg ds), some (.int keys), some (.ref L.length), y3, some (outF (recF (some (keys - 1)) (fun _ => false) none 0 (pre2 ds)))]) (d := outF (recF (some (keys - 1)) (fun _ => false) none 0 (pre2 ds))) (L1 := M) (by simp [evE, evA, cw]) rfl]
  have ld : lenD M (.lst tg ds) = some (ds.length : Int) := by simp [lenD, seqOf, lstOf]
  have ln : lenD M (.ref L.length) = some ((pre2 ds).length : Int) := by simp [lenD, seqOf, lstOf, top]
  have fin : ∀ r, noRef r = true → noTag r = true → evE (T.cx k) (.ite (.and (.cmp .eq (.var 4) (.con (.str (Str.ofString "fine")))) (.cmp .lt (.blt .len false (.cons (.var 2) .nil)) (.blt .len false (.cons (.var 0) .nil)))) (.blt .len false (.cons (.var 2) .nil)) (.var 4)) [some (.lst tg ds), some (.int keys), some (.ref L.length), y3, some (outF (recF (some (keys - 1)) (fun _ => false) none 0 (pre2 ds)))] M = .ok r M → (T.cx (k + 1)).φ 123 [.lst tg ds, .int keys] L = .ok r L := fun r h0 h1 h2 => by
    rw [goCH 123 rfl rfl]
    show cleanR L (resOf (evSs (T.cx k) b__law_order_fault [some (.lst tg ds), some (.int keys), none, none, none] L)) = _
    rw [pre, ss_ret h2]
    simp only [resOf, cleanR]
    rw [fz_ok (okB_noRef _ _ h0 h1), hM, cutL_app]
  have ef := fun M => eq_fine (recF (some (keys - 1)) (fun _ => false) none 0 (pre2 ds)) M
  by_cases hl : (pre2 ds).length < ds.length
  · have lt : cmpD .lt (.int ((pre2 ds).length : Int)) (.int (ds.length : Int)) M = some true := by
      simp only [cmpD, ordI]
      congr 1
      exact decide_eq_true (by omega)
    have hne : ((pre2 ds).length == ds.length) = false := by simp; omega
    rw [hne, Bool.and_false] at fine
    cases q : recF (some (keys - 1)) (fun _ => false) none 0 (pre2 ds) with
    | none =>
      rw [q] at ef fin
      refine ⟨.int (pre2 ds).length, fin _ rfl rfl (by simp [evE, evA, ef, optV, truD, bltD, ln, ld, opt, lt]), rfl, fun M => ?_, by simp [ordR, q, hl]⟩
      rw [← fine]
      simp [cmpD, eqD, scal2, eqS]
    | some j =>
      rw [q] at ef fin
      refine ⟨outF (some j), fin _ rfl rfl (by simp [evE, evA, ef, optV, truD]), rfl, fun M => ?_, by simp [ordR, q, outF]⟩
      rw [← fine]
      simp [outF, cmpD, eqD, scal2, eqS]
  · have lt : cmpD .lt (.int ((pre2 ds).length : Int)) (.int (ds.length : Int)) M = some false := by
      simp only [cmpD, ordI]
      congr 1
      exact decide_eq_false (by omega)
    have hne : ((pre2 ds).length == ds.length) = true := by simp; omega
    rw [hne, Bool.and_true] at fine
    refine ⟨outF (recF (some (keys - 1)) (fun _ => false) none 0 (pre2 ds)), fin _ (by cases recF (some (keys - 1)) (fun _ => false) none 0 (pre2 ds) <;> rfl) (nto _) ?_, nto _, fun M => by rw [ef, fine], by unfold ordR; cases recF (some (keys - 1)) (fun _ => false) none 0 (pre2 ds) <;> simp [outF, hl]⟩
    cases q : recF (some (keys - 1)) (fun _ => false) none 0 (pre2 ds) with
    | none =>
      rw [q] at ef
      simp [evE, evA, ef, optV, truD, bltD, ln, ld, opt, lt]
    | some j =>
      rw [q] at ef
      simp [evE, evA, ef, optV, truD]
theorem s_order_no (k : Nat) (hk : 2 ≤ k) (L : Live) (d : D) (keys : Int) (hn : noRef d = true) (h : evsB d = false) : (T.cx k).φ 123 [d, .int keys] L = .ok .non L := by
  obtain ⟨k, rfl⟩ : ∃ m, k = m + 1 := ⟨k - 1, by omega⟩
  rw [goCH 123 rfl rfl]
  have c1 : evT (T.cx k) (.or (.not (.isi (.var 0) .list)) (.cmp .gt (.blt .len false (.cons (.var 0) .nil)) (.con (.int 400)))) [some d, some (.int keys), none, none, none] L = .ok true L := by
    by_cases hl : ∃ t ds, d = .lst t ds
    · obtain ⟨t, ds, rfl⟩ := hl
      have hz : ¬ ds.length ≤ 400 := by simpa [evsB] using h
      have gt : cmpD .gt (.int (ds.length : Int)) (.int 400) L = some true := by
        simp only [cmpD, ordI]
        congr 1
        exact decide_eq_true (by omega)
      simp [evT, evE, evA, isiD, optV, truD, bltD, lenD, seqOf, lstOf, opt, gt]
    · have et : isiD L d .list = some false := by
        cases d <;> first | rfl | (exact absurd ⟨_, _, rfl⟩ hl) | (simp [noRef] at hn)
      simp [evT, evE, evA, et, optV, truD]
  show cleanR L (resOf (evSs (T.cx k) b__law_order_fault [some d, some (.int keys), none, none, none] L)) = _
  rw [b__law_order_fault, ss_if_t c1, ss_ret (d := .non) (L1 := L) (by simp [evE])]
  simp only [SRes.seq_rt, resOf, cleanR]
  have := cutL_app L.length L L []
  rw [List.append_nil] at this
  rw [fz_ok (by rfl), this]
end
end PB
set_option maxHeartbeats 2000000
namespace PB
open PySem hiding Act
open PySem.Spec PyProof.Rows L2 MP
/-- a small part of an item -/
structure Sm (d : D) : Prop where
  ex : ∃ p, (∀ L n, viewX L (n + 4) d = some p) ∧ p.showable = true ∧ psz p ≤ 200 ∧ p.depth ≤ 2
  nr : noRef d = true
  nt : noTag d = true
theorem sm_int {i : Int} (h : i.natAbs < 10 ^ 130) : Sm (.int i) := by
  refine ⟨⟨.int i, fun L n => by simp [viewX, toPy], ?_, ?_, by simp [PyData.depth]⟩, rfl, rfl⟩
  · simp only [PyData.showable, decide_eq_true_eq]
    by_cases h0 : i.natAbs = 0
    · rw [h0]; decide
    · exact Nat.lt_of_lt_of_le ((Nat.log2_lt h0).2 (Nat.lt_of_lt_of_le h (show 10 ^ 130 ≤ 2 ^ 500 by decide))) (by decide)
  · have := int_len (i := i) (k := 130) (by decide) h
    simp only [psz]; omega
theorem sm_non : Sm .non := ⟨⟨.none, fun L n => by simp [viewX, toPy], rfl, by decide, by decide⟩, rfl, rfl⟩
theorem sm_bl (b : Bool) : Sm (.bl b) := ⟨⟨.bool b, fun L n => by simp [viewX, toPy], rfl, by simp [psz], by simp [PyData.depth]⟩, rfl, rfl⟩
theorem sm_str {s : Str} (h : psz (.str s) ≤ 200) : Sm (.str s) := ⟨⟨.str s, fun L n => by simp [viewX, toPy], by simp [PyData.showable], h, by simp [PyData.depth]⟩, rfl, rfl⟩
theorem sm_way (b : Bool) : Sm (.str (way b)) := sm_str (by cases b <;> decide +kernel)
theorem sm_dct : Sm (.dct [] []) := ⟨⟨.dict [], fun L n => by simp [viewX, mapO], by simp [PyData.showable, PyData.showableKv], by decide +kernel, by decide⟩, rfl, rfl⟩
theorem rp_sm {d : D} (h : Sm d) : Rp d := by
  obtain ⟨p, h1, h2, h3, h4⟩ := h.ex
  exact ⟨p, fun L => h1 L 7, h2, by omega, by omega⟩
theorem sm_list {ds : List D} (h : ∀ d ∈ ds, Sm d) : ∃ ps, (∀ L n, mapO (viewX L (n + 4)) ds = some ps) ∧ ps.length = ds.length ∧ ∀ p ∈ ps, p.showable = true ∧ psz p ≤ 200 ∧ p.depth ≤ 2 := by
  induction ds with
  | nil => exact ⟨[], fun _ _ => rfl, rfl, by simp⟩
  | cons d ds ih =>
    obtain ⟨p, h1, h2⟩ := (h d List.mem_cons_self).ex
    obtain ⟨ps, h3, h4, h5⟩ := ih fun x hx => h x (List.mem_cons_of_mem _ hx)
    refine ⟨p :: ps, fun L n => by simp [mapO, h1 L n, h3 L n], by simp [h4], fun q hq => ?_⟩
    rcases List.mem_cons.mp hq with rfl | hq
    · exact h2
    · exact h5 q hq
theorem rp_seq {ds : List D} (h : ∀ d ∈ ds, Sm d) (hl : ds.length ≤ 5) : Rp (.tup ds) ∧ Rp (.lst 0 ds) := by
  obtain ⟨ps, h1, h2, h3⟩ := sm_list h
  have s1 := pszs_le (xs := ps) (m := 200) fun p hp => (h3 p hp).2.1
  have s2 : ps.length * (200 + 2) ≤ 5 * 202 := Nat.mul_le_mul_right _ (by omega)
  have s3 := depthAll_le (xs := ps) (m := 2) fun p hp => (h3 p hp).2.2
  have s4 : PyData.showableAll ps = true := MP.showableAll_of fun p hp => (h3 p hp).1
  refine ⟨⟨.tuple ps, fun L => ?_, ?_, ?_, ?_⟩, ⟨.list ps, fun L => ?_, ?_, ?_, ?_⟩⟩
  · rw [viewX]
    have := h1 L 6
    simp only [Nat.reduceAdd] at this ⊢
    rw [this]; rfl
  · simpa only [PyData.showable] using s4
  · simp only [psz]; omega
  · simp only [PyData.depth]; omega
  · rw [viewX]
    have := h1 L 6
    simp only [Nat.reduceAdd] at this ⊢
    rw [this]; rfl
  · simpa only [PyData.showable] using s4
  · simp only [psz]; omega
  · simp only [PyData.depth]; omega
theorem sm_one {x : D} (hx : ∃ i : Int, i.natAbs < 10 ^ 40 ∧ x = .int i ∨ ∃ s : Str, psz (.str s) ≤ 100 ∧ x = .str s) : Sm (.tup [x]) ∧ Sm (.lst 0 [x]) := by
  have key : ∃ p, toPy x = some p ∧ p.showable = true ∧ psz p ≤ 100 ∧ p.depth = 0 ∧ noRef x = true ∧ noTag x = true ∧ ∀ L n, viewX L (n + 1) x = some p := by
    obtain ⟨i, ⟨h, rfl⟩ | ⟨s, h, rfl⟩⟩ := hx
    · refine ⟨.int i, rfl, ?_, ?_, by simp [PyData.depth], rfl, rfl, fun L n => by simp [viewX, toPy]⟩
      · simp only [PyData.showable, decide_eq_true_eq]
        by_cases h0 : i.natAbs = 0
        · rw [h0]; decide
        · exact Nat.lt_of_lt_of_le ((Nat.log2_lt h0).2 (Nat.lt_of_lt_of_le h (show 10 ^ 40 ≤ 2 ^ 500 by decide))) (by decide)
      · have := int_len (i := i) (k := 40) (by decide) h
        simp only [psz]; omega
    · exact ⟨.str s, rfl, by simp [PyData.showable], h, by simp [PyData.depth], rfl, rfl, fun L n => by simp [viewX, toPy]⟩
  obtain ⟨p, _, h2, h3, h4, h5, h6, h7⟩ := key
  refine ⟨⟨⟨.tuple [p], fun L n => ?_, by simp [PyData.showable, PyData.showableAll, h2], by simp only [psz, pszs]; omega, by simp [PyData.depth, PyData.depthAll, h4]⟩, by simp [noRef, noRefs, h5], by simp [noTag, noTags, h6]⟩,
    ⟨⟨.list [p], fun L n => ?_, by simp [PyData.showable, PyData.showableAll, h2], by simp only [psz, pszs]; omega, by simp [PyData.depth, PyData.depthAll, h4]⟩, by simp [noRef, noRefs, h5], by simp [noTag, noTags, h6]⟩⟩
  · rw [viewX]; simp [mapO, h7 L (n + 2)]
  · rw [viewX]; simp [mapO, h7 L (n + 2)]
theorem ok3 {x y w : D} (hx : Sm x) (hy : Sm y) (hw : Sm w) (ow : okW w) (tb : ∀ t, x = .int t → -(10 ^ 120) ≤ t ∧ t ≤ 10 ^ 120) (kb : ∀ k, y = .int k → k ≤ 10 ^ 40 - 1) : OkItem (.tup [x, y, w]) where
  nr := by simp [noRef, noRefs, hx.nr, hy.nr, hw.nr]
  nt := by simp [noTag, noTags, hx.nt, hy.nt, hw.nt]
  w3 := fun a b c e => by simp only [D.tup.injEq, List.cons.injEq, and_true] at e; rw [← e.2.2]; exact ow
  w2 := fun a b e => by simp at e
  tb := fun t ht => by
    obtain ⟨a, b, e⟩ := evt_shape ht
    simp only [D.tup.injEq, List.cons.injEq, and_true] at e
    exact tb t e.1
  kb := fun k h => by
    rcases h with ⟨a, b, e⟩ | ⟨b, e⟩
    · simp only [D.tup.injEq, List.cons.injEq, and_true] at e
      exact kb k e.2.1
    · simp at e
  rp := (rp_seq (by simp [hx, hy, hw]) (by simp)).1
theorem ok2 {x w : D} (hx : Sm x) (hw : Sm w) (ow : okW w) (kb : ∀ k, x = .int k → k ≤ 10 ^ 40 - 1) : OkItem (.tup [x, w]) where
  nr := by simp [noRef, noRefs, hx.nr, hw.nr]
  nt := by simp [noTag, noTags, hx.nt, hw.nt]
  w3 := fun a b c e => by simp at e
  w2 := fun a b e => by simp only [D.tup.injEq, List.cons.injEq, and_true] at e; rw [← e.2]; exact ow
  tb := fun t ht => by
    obtain ⟨a, b, e⟩ := evt_shape ht
    simp at e
  kb := fun k h => by
    rcases h with ⟨a, b, e⟩ | ⟨b, e⟩
    · simp at e
    · simp only [D.tup.injEq, List.cons.injEq, and_true] at e
      exact kb k e.1
  rp := (rp_seq (by simp [hx, hw]) (by simp)).1
theorem ok_other {d : D} (h : Rp d) (nr : noRef d = true) (nt : noTag d = true) (hs : ∀ xs, d = .tup xs → xs.length ≠ 2 ∧ xs.length ≠ 3) : OkItem d where
  nr := nr
  nt := nt
  w3 := fun a b c e => absurd rfl (hs _ e).2
  w2 := fun a b e => absurd rfl (hs _ e).1
  tb := fun t ht => by
    obtain ⟨a, b, e⟩ := evt_shape ht
    exact absurd rfl (hs _ e).2
  kb := fun k h => by
    rcases h with ⟨a, b, e⟩ | ⟨b, e⟩
    · exact absurd rfl (hs _ e).2
    · exact absurd rfl (hs _ e).1
  rp := h
theorem ok_sm {d : D} (h : Sm d) (hs : ∀ xs, d = .tup xs → xs.length ≠ 2 ∧ xs.length ≠ 3) : OkItem d := ok_other (rp_sm h) h.nr h.nt hs
theorem ok_seq {ds : List D} (h : ∀ d ∈ ds, Sm d) (hl : ds.length ≤ 5) (h2 : ds.length ≠ 2) (h3 : ds.length ≠ 3) : OkItem (.tup ds) :=
  ok_other (rp_seq h hl).1 (by simp only [noRef]; exact noRefs_of fun x hx => (h x hx).nr) (by simp only [noTag]; exact noTags_of fun x hx => (h x hx).nt) fun xs e => by cases e; exact ⟨h2, h3⟩
theorem ok_list {ds : List D} (h : ∀ d ∈ ds, Sm d) (hl : ds.length ≤ 5) : OkItem (.lst 0 ds) :=
  ok_other (rp_seq h hl).2 (by simp only [noRef]; exact noRefs_of fun x hx => (h x hx).nr) (by simp only [noTag, decide_true, Bool.true_and]; exact noTags_of fun x hx => (h x hx).nt) fun xs e => by cases e
/-- an item without its first part -/
def stp : D → D | .tup xs => .tup (xs.drop 1) | d => d
def Odd (d : D) : Prop := OkItem d ∧ OkItem (stp d)
theorem odd3 {x y w : D} (hx : Sm x) (hy : Sm y) (hw : Sm w) (ow : okW w) (tb : ∀ t, x = .int t → -(10 ^ 120) ≤ t ∧ t ≤ 10 ^ 120) (kb : ∀ k, y = .int k → k ≤ 10 ^ 40 - 1) : Odd (.tup [x, y, w]) :=
  ⟨ok3 hx hy hw ow tb kb, ok2 hy hw ow kb⟩
theorem odd2 {x w : D} (hx : Sm x) (hw : Sm w) (ow : okW w) (kb : ∀ k, x = .int k → k ≤ 10 ^ 40 - 1) : Odd (.tup [x, w]) :=
  ⟨ok2 hx hw ow kb, ok_seq (ds := [w]) (by simp [hw]) (by simp) (by simp) (by simp)⟩
theorem odd_same {d : D} (h : OkItem d) (hs : ∀ xs, d ≠ .tup xs) : Odd d := ⟨h, by
  have : stp d = d := by cases d <;> first | rfl | (exact absurd rfl (hs _))
  rw [this]; exact h⟩
theorem wflat {w : D} (h : flat w = true) : okW w := .inl h
/-- bounds of a record's events -/
structure EvB (e : Evt) : Prop where
  t1 : -(10 ^ 30) ≤ e.tick
  t2 : e.tick ≤ 10 ^ 30
  k1 : 0 ≤ e.key
  k2 : e.key ≤ 10 ^ 31
theorem EvB.odd {e : Evt} (h : EvB e) : Odd e.enc := by
  obtain ⟨h1, h2, h3, h4⟩ := h
  exact odd3 (sm_int (by omega)) (sm_int (by omega)) (sm_way _) (wflat rfl) (fun t e => by cases e; omega) (fun k e => by cases e; omega)
section
variable {T : Tab} [HasFn T 124 f__law_odd_events]
theorem s_odd (k : Nat) (hk : 1 ≤ k) (L : Live) (e : Evt) (h : EvB e) : ∃ ds, (T.cx k).φ 124 [.int e.tick, .int e.key, .str (way e.dn)] L = .ok (.lst 0 ds) L ∧ (∀ d ∈ ds, Odd d) ∧ 0 < ds.length ∧ ds.length ≤ 50 := by
  obtain ⟨k, rfl⟩ : ∃ m, k = m + 1 := ⟨k - 1, by omega⟩
  obtain ⟨t, y, b⟩ := e
  obtain ⟨h1, h2, h3, h4⟩ := h
  simp only at h1 h2 h3 h4
  obtain ⟨M15, p15, v15⟩ := e_power 10 15 (by decide)
  obtain ⟨M60, p60, v60⟩ := e_power 10 60 (by decide)
  obtain ⟨M30, p30, v30⟩ := e_power 10 30 (by decide)
  have b15 : 0 ≤ M15 ∧ M15 ≤ 10 ^ 15 := by rw [v15]; exact ⟨by decide, by decide⟩
  have b60 : 0 ≤ M60 ∧ M60 ≤ 10 ^ 60 := by rw [v60]; exact ⟨by decide, by decide⟩
  have b30 : 0 ≤ M30 ∧ M30 ≤ 10 ^ 30 := by rw [v30]; exact ⟨by decide, by decide⟩
  clear v15 v60 v30
  have si : ∀ i : Int, -(10 ^ 61) ≤ i → i ≤ 10 ^ 61 → Sm (.int i) := fun i a c => sm_int (by omega)
  have st : Sm (.int t) := si _ (by omega) (by omega)
  have sy : Sm (.int y) := si _ (by omega) (by omega)
  have sw := sm_way b
  have sw2 := sm_way (!b)
  have s0 : Sm (.str (Str.ofString "0")) := sm_str (by decide +kernel)
  have se : Sm (.str (Str.ofString "")) := sm_str (by decide +kernel)
  have sD : Sm (.str (Str.ofString "Down")) := sm_str (by decide +kernel)
  have sd : Sm (.str (Str.ofString "down")) := sm_str (by decide +kernel)
  obtain ⟨ot, lt⟩ := sm_one (x := .int t) ⟨t, .inl ⟨by omega, rfl⟩⟩
  obtain ⟨oy, ly⟩ := sm_one (x := .int y) ⟨y, .inl ⟨by omega, rfl⟩⟩
  obtain ⟨od, ld⟩ := sm_one (x := .str (Str.ofString "down")) ⟨0, .inr ⟨_, by decide +kernel, rfl⟩⟩
  have q1 : MP.sizeOk 1 = true := sizeOk_small (by omega)
  have q2 : MP.sizeOk 2 = true := sizeOk_small (by omega)
  have q3 : MP.sizeOk 3 = true := sizeOk_small (by omega)
  have q4 : MP.sizeOk 4 = true := sizeOk_small (by omega)
  have q0 : MP.sizeOk 0 = true := sizeOk_small (by omega)
  have qq : ∀ n, n ≤ 100 → MP.sizeOk n = true := fun n hn => sizeOk_small (by omega)
  -- the pieces
  obtain ⟨A, hA⟩ : ∃ A : List D, A = [.non, .int 0, .str (Str.ofString ""), .tup [], .dct [] [], .lst 0 [.int t, .int y, .str (way b)], .tup [.int t, .int y], .tup [.int t, .int y, .str (way b), .str (way b)], .tup [.int y, .str (way b)], .tup [.int t, .int y, .str (way (!b))]] := ⟨_, rfl⟩
  obtain ⟨B, hB⟩ : ∃ B : List D, B = [.non, .bl true, .str (Str.ofString "0"), .tup [.int t], .lst 0 [.int t], .int (t - 1), .int (t - M15), .int M60] := ⟨_, rfl⟩
  obtain ⟨C, hC⟩ : ∃ C : List D, C = [.non, .bl true, .bl false, .int (-1), .str (Str.ofString "0"), .lst 0 [.int y], .tup [.int y], .dct [] [], .int M30] := ⟨_, rfl⟩
  obtain ⟨F, hF⟩ : ∃ F : List D, F = [.tup [.int t, .int M30, .str (Str.ofString "down")], .tup [.int t, .int y, .non], .tup [.int t, .int y, .str (Str.ofString "Down")], .tup [.int t, .int y, .str (Str.ofString "")], .tup [.int t, .int y, .int 0]] := ⟨_, rfl⟩
  obtain ⟨H, hH⟩ : ∃ H : List D, H = [.tup [.int t, .int y, .lst 0 [.str (Str.ofString "down")]], .tup [.int t, .int y, .tup [.str (Str.ofString "down")]], .tup [.str (way b), .int y, .int t], .tup [.int t, .str (way b), .int y], .tup [.int t, .int y, .bl true]] := ⟨_, rfl⟩
  have tbt : ∀ t', D.int t = .int t' → -(10 ^ 120) ≤ t' ∧ t' ≤ 10 ^ 120 := fun t' e => by cases e; omega
  have kby : ∀ k', D.int y = .int k' → k' ≤ 10 ^ 40 - 1 := fun k' e => by cases e; omega
  have kbt : ∀ k', D.int t = .int k' → k' ≤ 10 ^ 40 - 1 := fun k' e => by cases e; omega
  have no : ∀ d : D, (∀ i, d ≠ .int i) → ∀ t', d = .int t' → -(10 ^ 120) ≤ t' ∧ t' ≤ 10 ^ 120 := fun d h t' e => absurd e (h t')
  have no2 : ∀ d : D, (∀ i, d ≠ .int i) → ∀ t', d = .int t' → t' ≤ 10 ^ 40 - 1 := fun d h t' e => absurd e (h t')
  have wl : okW (.lst 0 [.str (Str.ofString "down")]) := .inr ⟨.list [.str (Str.ofString "down")], rfl, by decide +kernel, fun s => by simp [PyData.eqv]⟩
  have wt : okW (.tup [.str (Str.ofString "down")]) := .inr ⟨.tuple [.str (Str.ofString "down")], rfl, by decide +kernel, fun s => by simp [PyData.eqv]⟩
  have oA : ∀ d ∈ A, Odd d := by
    rw [hA]
    simp only [List.mem_cons, List.not_mem_nil, or_false]
    rintro d (rfl | rfl | rfl | rfl | rfl | rfl | rfl | rfl | rfl | rfl)
    · exact odd_same (ok_sm sm_non (by simp)) (by simp)
    · exact odd_same (ok_sm (si 0 (by omega) (by omega)) (by simp)) (by simp)
    · exact odd_same (ok_sm se (by simp)) (by simp)
    · exact ⟨ok_seq (by simp) (by simp) (by simp) (by simp), ok_seq (ds := []) (by simp) (by simp) (by simp) (by simp)⟩
    · exact odd_same (ok_sm sm_dct (by simp)) (by simp)
    · exact odd_same (ok_list (by simp [st, sy, sw]) (by simp)) (by simp)
    · exact odd2 st sy (wflat rfl) kbt
    · exact ⟨ok_seq (by simp [st, sy, sw]) (by simp) (by simp) (by simp), ok3 sy sw sw (wflat rfl) (fun t' e => by cases e; omega) (no2 _ (by simp))⟩
    · exact odd2 sy sw (wflat rfl) kby
    · exact odd3 st sy sw2 (wflat rfl) tbt kby
  have oB : ∀ d ∈ B, Odd (.tup [d, .int y, .str (way b)]) := by
    rw [hB]
    simp only [List.mem_cons, List.not_mem_nil, or_false]
    rintro d (rfl | rfl | rfl | rfl | rfl | rfl | rfl | rfl)
    · exact odd3 sm_non sy sw (wflat rfl) (no _ (by simp)) kby
    · exact odd3 (sm_bl _) sy sw (wflat rfl) (no _ (by simp)) kby
    · exact odd3 s0 sy sw (wflat rfl) (no _ (by simp)) kby
    · exact odd3 ot sy sw (wflat rfl) (no _ (by simp)) kby
    · exact odd3 lt sy sw (wflat rfl) (no _ (by simp)) kby
    · exact odd3 (si _ (by omega) (by omega)) sy sw (wflat rfl) (fun t' e => by cases e; omega) kby
    · exact odd3 (si _ (by omega) (by omega)) sy sw (wflat rfl) (fun t' e => by cases e; omega) kby
    · exact odd3 (si _ (by omega) (by omega)) sy sw (wflat rfl) (fun t' e => by cases e; omega) kby
  have oC : ∀ d ∈ C, Odd (.tup [.int t, d, .str (way b)]) := by
    rw [hC]
    simp only [List.mem_cons, List.not_mem_nil, or_false]
    rintro d (rfl | rfl | rfl | rfl | rfl | rfl | rfl | rfl | rfl)
    · exact odd3 st sm_non sw (wflat rfl) tbt (no2 _ (by simp))
    · exact odd3 st (sm_bl _) sw (wflat rfl) tbt (no2 _ (by simp))
    · exact odd3 st (sm_bl _) sw (wflat rfl) tbt (no2 _ (by simp))
    · exact odd3 st (si _ (by omega) (by omega)) sw (wflat rfl) tbt (fun k' e => by cases e; omega)
    · exact odd3 st s0 sw (wflat rfl) tbt (no2 _ (by simp))
    · exact odd3 st ly sw (wflat rfl) tbt (no2 _ (by simp))
    · exact odd3 st oy sw (wflat rfl) tbt (no2 _ (by simp))
    · exact odd3 st sm_dct sw (wflat rfl) tbt (no2 _ (by simp))
    · exact odd3 st (si _ (by omega) (by omega)) sw (wflat rfl) tbt (fun k' e => by cases e; omega)
  have oF : ∀ d ∈ F, Odd d := by
    rw [hF]
    simp only [List.mem_cons, List.not_mem_nil, or_false]
    rintro d (rfl | rfl | rfl | rfl | rfl)
    · exact odd3 st (si _ (by omega) (by omega)) sd (wflat rfl) tbt (fun k' e => by cases e; omega)
    · exact odd3 st sy sm_non (wflat rfl) tbt kby
    · exact odd3 st sy sD (wflat rfl) tbt kby
    · exact odd3 st sy se (wflat rfl) tbt kby
    · exact odd3 st sy (si _ (by omega) (by omega)) (wflat rfl) tbt kby
  have oH : ∀ d ∈ H, Odd d := by
    rw [hH]
    simp only [List.mem_cons, List.not_mem_nil, or_false]
    rintro d (rfl | rfl | rfl | rfl | rfl)
    · exact odd3 st sy ld wl tbt kby
    · exact odd3 st sy od wt tbt kby
    · exact odd3 sw sy st (wflat rfl) (no _ (by simp)) kby
    · exact odd3 st sw sy (wflat rfl) tbt (no2 _ (by simp))
    · exact odd3 st sy (sm_bl _) (wflat rfl) tbt kby
  -- the walk
  have e3 : evE (T.cx k) (.idx (.lst false (.cons (.con (.str (Str.ofString "down"))) (.cons (.con (.str (Str.ofString "up"))) .nil))) (.blt .int false (.cons (.cmp .eq (.var 2) (.con (.str (Str.ofString "down")))) .nil))) [some (.int t), some (.int y), some (.str (way b)), none, none, none, none] L = .ok (.str (way (!b))) L := by
    have : cmpD .eq (.str (way b)) (.str (Str.ofString "down")) L = some b := by
      simp only [cmpD, eqD, scal2, eqS, if_true, way_down]
      congr 1
      cases b <;> rfl
    simp only [evE, evA, List.getElem?_cons_succ, List.getElem?_cons_zero, Res.bind_ok, List.length_cons, List.length_nil, Nat.zero_add, Nat.reduceAdd, q2, if_true, newL, Bool.false_eq_true, if_false, opt, this, optV, bltD, idxD, seqOf, lstOf, idxSeq]
    cases b <;> rfl
  have lB : compL [] (.slot 6) [some (.int t), some (.int y), some (.str (way b)), some (.str (way (!b))), some (.lst 0 A), none, none] (fun _ L' => .ok true L') (fun E' L' => evE (T.cx k) b__law_odd_events_0 E' L') B [] L = .ok (B.map fun d => .tup [d, .int y, .str (way b)]) L :=
    compL_map rfl (small_line (by rw [hB]; simp)) fun d _ => ⟨_, rfl, rfl, by simp [b__law_odd_events_0, evE, evA, q3]⟩
  have lC : compL [] (.slot 6) [some (.int t), some (.int y), some (.str (way b)), some (.str (way (!b))), some (.lst 0 (A ++ B.map fun d => .tup [d, .int y, .str (way b)])), none, none] (fun _ L' => .ok true L') (fun E' L' => evE (T.cx k) b__law_odd_events_1 E' L') C [] L = .ok (C.map fun d => .tup [.int t, d, .str (way b)]) L :=
    compL_map rfl (small_line (by rw [hC]; simp)) fun d _ => ⟨_, rfl, rfl, by simp [b__law_odd_events_1, evE, evA, q3]⟩
  have nA : A.length = 10 := by rw [hA]; rfl
  have nB : B.length = 8 := by rw [hB]; rfl
  have nC : C.length = 9 := by rw [hC]; rfl
  have nF : F.length = 5 := by rw [hF]; rfl
  have nH : H.length = 5 := by rw [hH]; rfl
  have evB : evE (T.cx k) (.lst false (.cons (.con .non) (.cons (.con (.bl true)) (.cons (.con (.str (Str.ofString "0"))) (.cons (.tup (.cons (.var 0) .nil)) (.cons (.lst false (.cons (.var 0) .nil)) (.cons (.bin .sub false (.var 0) (.con (.int 1))) (.cons (.bin .sub false (.var 0) (.bin .pow false (.con (.int 10)) (.con (.int 15)))) (.cons (.bin .pow false (.con (.int 10)) (.con (.int 60))) .nil))))))))) [some (.int t), some (.int y), some (.str (way b)), some (.str (way (!b))), some (.lst 0 A), none, none] L = .ok (.lst 0 B) L := by
    rw [hB]
    simp [↓p15, ↓p60, evE, evA, q1, qq 8, newL, opt, binD]
  have evC' : evE (T.cx k) (.lst false (.cons (.con .non) (.cons (.con (.bl true)) (.cons (.con (.bl false)) (.cons (.neg (.con (.int 1))) (.cons (.con (.str (Str.ofString "0"))) (.cons (.lst false (.cons (.var 1) .nil)) (.cons (.tup (.cons (.var 1) .nil)) (.cons (.dct [] .nil) (.cons (.bin .pow false (.con (.int 10)) (.con (.int 30))) .nil)))))))))) [some (.int t), some (.int y), some (.str (way b)), some (.str (way (!b))), some (.lst 0 (A ++ B.map fun d => .tup [d, .int y, .str (way b)])), none, none] L = .ok (.lst 0 C) L := by
    rw [hC]
    simp [↓p30, evE, evA, q1, qq 9, newL, opt]
  refine ⟨A ++ (B.map fun d => .tup [d, .int y, .str (way b)]) ++ (C.map fun d => .tup [.int t, d, .str (way b)]) ++ F ++ H, ?_, ?_, by simp only [List.length_append, nA]; omega, by simp [nA, nB, nC, nF, nH]⟩
  · rw [goH 124 rfl rfl]
    show resOf (evSs (T.cx k) b__law_odd_events [some (.int t), some (.int y), some (.str (way b)), none, none, none, none] L) = _
    rw [b__law_odd_events, ss_asg (E' := [some (.int t), some (.int y), some (.str (way b)), some (.str (way (!b))), none, none, none]) e3 rfl,
      ss_asg (E' := [some (.int t), some (.int y), some (.str (way b)), some (.str (way (!b))), some (.lst 0 A), none, none]) (d := .lst 0 A) (L1 := L) (by rw [hA]; simp [evE, evA, q0, q2, q3, q4, qq 10, newL, opt]) rfl,
      ss_asg (E' := [some (.int t), some (.int y), some (.str (way b)), some (.str (way (!b))), some (.lst 0 (A ++ B.map fun d => .tup [d, .int y, .str (way b)])), none, none]) (d := .lst 0 (A ++ B.map fun d => .tup [d, .int y, .str (way b)])) (L1 := L) ?g1 rfl,
      ss_asg (E' := [some (.int t), some (.int y), some (.str (way b)), some (.str (way (!b))), some (.lst 0 (A ++ (B.map fun d => .tup [d, .int y, .str (way b)]) ++ (C.map fun d => .tup [.int t, d, .str (way b)]))), none, none]) (d := .lst 0 (A ++ (B.map fun d => .tup [d, .int y, .str (way b)]) ++ (C.map fun d => .tup [.int t, d, .str (way b)]))) (L1 := L) ?g2 rfl,
      ss_asg (E' := [some (.int t), some (.int y), some (.str (way b)), some (.str (way (!b))), some (.lst 0 (A ++ (B.map fun d => .tup [d, .int y, .str (way b)]) ++ (C.map fun d => .tup [.int t, d, .str (way b)]) ++ F)), none, none]) (d := .lst 0 (A ++ (B.map fun d => .tup [d, .int y, .str (way b)]) ++ (C.map fun d => .tup [.int t, d, .str (way b)]) ++ F)) (L1 := L) ?g3 rfl,
      ss_ret (d := .lst 0 (A ++ (B.map fun d => .tup [d, .int y, .str (way b)]) ++ (C.map fun d => .tup [.int t, d, .str (way b)]) ++ F ++ H)) (L1 := L) ?g4]
    · rfl
    case g1 =>
      have ec : evE (T.cx k) (.comp false [5, 6] (.slot 6) (.val (.lst false (.cons (.con .non) (.cons (.con (.bl true)) (.cons (.con (.str (Str.ofString "0"))) (.cons (.tup (.cons (.var 0) .nil)) (.cons (.lst false (.cons (.var 0) .nil)) (.cons (.bin .sub false (.var 0) (.con (.int 1))) (.cons (.bin .sub false (.var 0) (.bin .pow false (.con (.int 10)) (.con (.int 15)))) (.cons (.bin .pow false (.con (.int 10)) (.con (.int 60))) .nil)))))))))) .nil b__law_odd_events_0) [some (.int t), some (.int y), some (.str (way b)), some (.str (way (!b))), some (.lst 0 A), none, none] L = .ok (.lst 0 (B.map fun d => .tup [d, .int y, .str (way b)])) L := by
        have ei := fun e : Ex => (show evI (T.cx k) (.val e) [some (.int t), some (.int y), some (.str (way b)), some (.str (way (!b))), some (.lst 0 A), none, none] L = (evE (T.cx k) e [some (.int t), some (.int y), some (.str (way b)), some (.str (way (!b))), some (.lst 0 A), none, none] L).bind _ from by rw [evI])
        rw [evE, ei, evB]
        have lB' : compL ([] : List (Nat × List D)) (.slot 6) (wipeE [some (.int t), some (.int y), some (.str (way b)), some (.str (way (!b))), some (.lst 0 A), none, none] [5, 6]) (fun E' L' => evC (T.cx k) .nil E' L') (fun E' L' => evE (T.cx k) b__law_odd_events_0 E' L') B [] L = .ok (B.map fun d => .tup [d, .int y, .str (way b)]) L := lB
        simp only [Res.bind_ok, itemsOf, seqOf, lstOf, optV, watch, lB', newL, Bool.false_eq_true, if_false, opt]
      rw [evE, evE]
      simp only [List.getElem?_cons_succ, List.getElem?_cons_zero, Res.bind_ok, ec, binD, lstOf, binL, List.length_map, nA, nB, qq 18 (by omega), Nat.reduceAdd, if_true, newL, Bool.false_eq_true, if_false, opt]
    case g2 =>
      have ec : evE (T.cx k) (.comp false [5, 6] (.slot 6) (.val (.lst false (.cons (.con .non) (.cons (.con (.bl true)) (.cons (.con (.bl false)) (.cons (.neg (.con (.int 1))) (.cons (.con (.str (Str.ofString "0"))) (.cons (.lst false (.cons (.var 1) .nil)) (.cons (.tup (.cons (.var 1) .nil)) (.cons (.dct [] .nil) (.cons (.bin .pow false (.con (.int 10)) (.con (.int 30))) .nil))))))))))) .nil b__law_odd_events_1) [some (.int t), some (.int y), some (.str (way b)), some (.str (way (!b))), some (.lst 0 (A ++ B.map fun d => .tup [d, .int y, .str (way b)])), none, none] L = .ok (.lst 0 (C.map fun d => .tup [.int t, d, .str (way b)])) L := by
        have ei := fun e : Ex => (show evI (T.cx k) (.val e) [some (.int t), some (.int y), some (.str (way b)), some (.str (way (!b))), some (.lst 0 (A ++ B.map fun d => .tup [d, .int y, .str (way b)])), none, none] L = (evE (T.cx k) e [some (.int t), some (.int y), some (.str (way b)), some (.str (way (!b))), some (.lst 0 (A ++ B.map fun d => .tup [d, .int y, .str (way b)])), none, none] L).bind _ from by rw [evI])
        rw [evE, ei, evC']
        have lC' : compL ([] : List (Nat × List D)) (.slot 6) (wipeE [some (.int t), some (.int y), some (.str (way b)), some (.str (way (!b))), some (.lst 0 (A ++ B.map fun d => .tup [d, .int y, .str (way b)])), none, none] [5, 6]) (fun E' L' => evC (T.cx k) .nil E' L') (fun E' L' => evE (T.cx k) b__law_odd_events_1 E' L') C [] L = .ok (C.map fun d => .tup [.int t, d, .str (way b)]) L := lC
        simp only [Res.bind_ok, itemsOf, seqOf, lstOf, optV, watch, lC', newL, Bool.false_eq_true, if_false, opt]
      rw [evE, evE]
      simp only [List.getElem?_cons_succ, List.getElem?_cons_zero, Res.bind_ok, ec, binD, lstOf, binL, List.length_map, List.length_append, nA, nB, nC, qq 27 (by omega), Nat.reduceAdd, if_true, newL, Bool.false_eq_true, if_false, opt]
    case g3 =>
      have ef : ∀ E : Ev, E[0]? = some (some (.int t)) → E[1]? = some (some (.int y)) → evE (T.cx k) (.lst false (.cons (.tup (.cons (.var 0) (.cons (.bin .pow false (.con (.int 10)) (.con (.int 30))) (.cons (.con (.str (Str.ofString "down"))) .nil)))) (.cons (.tup (.cons (.var 0) (.cons (.var 1) (.cons (.con .non) .nil)))) (.cons (.tup (.cons (.var 0) (.cons (.var 1) (.cons (.con (.str (Str.ofString "Down"))) .nil)))) (.cons (.tup (.cons (.var 0) (.cons (.var 1) (.cons (.con (.str (Str.ofString ""))) .nil)))) (.cons (.tup (.cons (.var 0) (.cons (.var 1) (.cons (.con (.int 0)) .nil)))) .nil)))))) E L = .ok (.lst 0 F) L := fun E a1 a2 => by
        rw [hF]
        simp [↓p30, evE, evA, a1, a2, q3, qq 5, newL, opt]
      rw [evE, evE]
      simp only [List.getElem?_cons_succ, List.getElem?_cons_zero, Res.bind_ok]
      rw [ef _ rfl rfl]
      simp only [Res.bind_ok, binD, lstOf, binL, List.length_map, List.length_append, nA, nB, nC, nF, qq 32 (by omega), Nat.reduceAdd, if_true, newL, Bool.false_eq_true, if_false, opt]
    case g4 =>
      have eh : ∀ E : Ev, E[0]? = some (some (.int t)) → E[1]? = some (some (.int y)) → E[2]? = some (some (.str (way b))) → evE (T.cx k) (.lst false (.cons (.tup (.cons (.var 0) (.cons (.var 1) (.cons (.lst false (.cons (.con (.str (Str.ofString "down"))) .nil)) .nil)))) (.cons (.tup (.cons (.var 0) (.cons (.var 1) (.cons (.tup (.cons (.con (.str (Str.ofString "down"))) .nil)) .nil)))) (.cons (.tup (.cons (.var 2) (.cons (.var 1) (.cons (.var 0) .nil)))) (.cons (.tup (.cons (.var 0) (.cons (.var 2) (.cons (.var 1) .nil)))) (.cons (.tup (.cons (.var 0) (.cons (.var 1) (.cons (.con (.bl true)) .nil)))) .nil)))))) E L = .ok (.lst 0 H) L := fun E a1 a2 a3 => by
        rw [hH]
        simp [evE, evA, a1, a2, a3, q1, q3, qq 5, newL, opt]
      rw [evE, evE]
      simp only [List.getElem?_cons_succ, List.getElem?_cons_zero, Res.bind_ok]
      rw [eh _ rfl rfl rfl]
      simp only [Res.bind_ok, binD, lstOf, binL, List.length_map, List.length_append, nA, nB, nC, nF, nH, qq 37 (by omega), Nat.reduceAdd, if_true, newL, Bool.false_eq_true, if_false, opt]
  · intro d hd
    simp only [List.mem_append, List.mem_map] at hd
    rcases hd with (((hd | ⟨x, hx, rfl⟩) | ⟨x, hx, rfl⟩) | hd) | hd
    · exact oA d hd
    · exact oB x hx
    · exact oC x hx
    · exact oF d hd
    · exact oH d hd
def pyE (e : Evt) : PyData := .tuple [.int e.tick, .int e.key, .str (way e.dn)]
theorem toPys_recs : ∀ rec : List Evt, toPys (rec.map Evt.enc) = some (rec.map pyE)
  | [] => rfl
  | e :: rec => by simp [toPys, toPy, toPys_recs rec, Evt.enc, pyE]
theorem lay_recs : ∀ rec : List Evt, PyData.canLayAll0 (rec.map pyE) = true ∧ PyData.depthAll (rec.map pyE) ≤ 1
  | [] => by simp [PyData.canLayAll0, PyData.depthAll]
  | e :: rec => by
    obtain ⟨h1, h2⟩ := lay_recs rec
    have hs : PyData.strOk (way e.dn) = true := by cases e.dn <;> decide +kernel
    refine ⟨by simp [PyData.canLayAll0, PyData.canLay0, pyE, h1, hs], ?_⟩
    simp only [List.map_cons, PyData.depthAll, pyE, PyData.depth] at *
    omega
theorem shaped_recs (rec : List Evt) : SeqAt.shaped (.list (rec.map pyE)) = true := by
  obtain ⟨h1, h2⟩ := lay_recs rec
  have : (PyData.list (rec.map pyE)).depth ≤ 64 := by simp only [PyData.depth]; omega
  simp only [SeqAt.shaped, PyData.canLay0, h1, Bool.true_and, decide_eq_true_eq]
  exact this
theorem ne_nil_rec {L : Live} {d : D} {rec : List Evt} (h : pyOf L d = some (.list (rec.map pyE))) (hs : scal2 d (.lst 0 []) = false) : cmpD .ne d (.lst 0 []) L = some (!rec.isEmpty) := by
  have v2 : pyOf L (.lst 0 []) = some (.list []) := by simp [pyOf, toPy, toPys]
  have s2 : SeqAt.shaped (.list []) = true := by decide
  simp only [cmpD, eqD, hs, Bool.false_eq_true, if_false, h, v2, shaped_recs, s2, Bool.and_self, if_true, Option.map_some]
  cases rec <;> simp [PyData.eqv, PyData.eqvAll]
theorem py_live {L : Live} {n : Nat} {rec : List Evt} (h : L[n]? = some (.lst (rec.map Evt.enc))) : pyOf L (.ref n) = some (.list (rec.map pyE)) := by
  simp only [pyOf, toPy]
  rw [MP.view, h]
  simp only []
  rw [mapO_map fun (e : Evt) _ => ?_]
  · rfl
  · simp [MP.view, mapO, Evt.enc, pyE, toPy]
theorem enc0 (e : Evt) (L : Live) : idxD e.enc (.int 0) L = some (.int e.tick) := by simp [Evt.enc, idxD, seqOf, idxSeq, atI, ixN]
theorem enc1 (e : Evt) (L : Live) : idxD e.enc (.int 1) L = some (.int e.key) := by simp [Evt.enc, idxD, seqOf, idxSeq, atI, ixN]
omit [HasFn T 124 f__law_odd_events] in
theorem s_next [HasFn T 125 f__law_next_event] (k : Nat) (hk : 1 ≤ k) (L : Live) (tg : Nat) (rec : List Evt) (at_ : Nat) (ha : at_ ≤ rec.length) (hz : rec.length ≤ 1000) (key : Int) (B : Int) (hB : 0 ≤ B) (hb : ∀ e ∈ rec, -B ≤ e.tick ∧ e.tick ≤ B) :
    ∃ e : Evt, (T.cx k).φ 125 [.lst tg (rec.map Evt.enc), .int at_, .int key] L = .ok e.enc L ∧ e.key = key ∧ -B ≤ e.tick ∧ e.tick ≤ B := by
  obtain ⟨k, rfl⟩ : ∃ m, k = m + 1 := ⟨k - 1, by omega⟩
  have q0 : MP.sizeOk 0 = true := sizeOk_small (by omega)
  have q2 : MP.sizeOk 2 = true := sizeOk_small (by omega)
  have q3 : MP.sizeOk 3 = true := sizeOk_small (by omega)
  have nn := ne_nil_rec (L := L) (d := .lst tg (rec.map Evt.enc)) (rec := rec) (by simp [pyOf, toPy, toPys_recs]) rfl
  have ix : ∀ (i : Nat) (hi : i < rec.length), idxD (.lst tg (rec.map Evt.enc)) (.int i) L = some rec[i].enc := fun i hi => by
    simp only [idxD, seqOf, lstOf, idxSeq]
    rw [atI_nat (v := rec[i].enc)]
    simp [hi]
  obtain ⟨t, et, b1, b2⟩ : ∃ t : Int, evE (T.cx k) (.ite (.cmp .gt (.var 1) (.con (.int 0))) (.idx (.idx (.var 0) (.bin .sub false (.var 1) (.con (.int 1)))) (.con (.int 0))) (.ite (.cmp .ne (.var 0) (.lst false .nil)) (.idx (.idx (.var 0) (.con (.int 0))) (.con (.int 0))) (.con (.int 0)))) [some (.lst tg (rec.map Evt.enc)), some (.int at_), some (.int key), none, none, none, none] L = .ok (.int t) L ∧ -B ≤ t ∧ t ≤ B := by
    by_cases c : 0 < at_
    · have c0 : cmpD .gt (.int (at_ : Int)) (.int 0) L = some true := by
        simp only [cmpD, ordI]
        congr 1
        exact decide_eq_true (by omega)
      have i1 := ix (at_ - 1) (by omega)
      rw [show ((at_ - 1 : Nat) : Int) = (at_ : Int) - 1 by omega] at i1
      exact ⟨_, by simp [evE, c0, optV, truD, binD, opt, i1, enc0]; rfl, hb _ (List.getElem_mem _)⟩
    · have c0 : cmpD .gt (.int (at_ : Int)) (.int 0) L = some false := by
        simp only [cmpD, ordI]
        congr 1
        exact decide_eq_false (by omega)
      by_cases c2 : rec = []
      · have c2' : (!rec.isEmpty) = false := by simp [c2]
        rw [c2'] at nn
        exact ⟨0, by simp [evE, evA, c0, optV, truD, q0, newL, opt, nn], by omega, hB⟩
      · have c2' : (!rec.isEmpty) = true := by simp [c2]
        rw [c2'] at nn
        have hl : 0 < rec.length := List.length_pos_iff.mpr c2
        have i1 := ix 0 hl
        rw [show ((0 : Nat) : Int) = 0 from rfl] at i1
        exact ⟨_, by simp [evE, evA, c0, optV, truD, q0, newL, opt, nn, i1, enc0]; rfl, hb _ (List.getElem_mem _)⟩
  have hc : compL [] (.slot 6) [some (.lst tg (rec.map Evt.enc)), some (.int at_), some (.int key), some (.int t), none, none, none] (fun E' L' => evC (T.cx k) (.cons b__law_next_event_0 .nil) E' L') (fun E' L' => evE (T.cx k) b__law_next_event_1 E' L') ((rec.take at_).map Evt.enc) [] L = .ok ((((rec.take at_).map Evt.enc).filter fun d => match d with | .tup [_, .int y, _] => decide (y = key) | _ => false).map fun _ => .int 1) L := by
    refine compL_filter rfl (small_line (by simp; omega)) fun d hd => ?_
    obtain ⟨e, _, rfl⟩ := List.mem_map.mp hd
    refine ⟨_, rfl, ?_, fun _ => by simp [b__law_next_event_1, evE]⟩
    have : cmpD .eq (.int e.key) (.int key) L = some (decide (e.key = key)) := by simp [cmpD, eqD, scal2, eqS]
    simp [evC, b__law_next_event_0, evE, enc1, this, optV, truD]
    show _ = Res.ok (decide (e.key = key)) L
    by_cases c : e.key = key <;> simp [c]
  obtain ⟨m, hm⟩ : ∃ m : Nat, m = ((((rec.take at_).map Evt.enc).filter fun d => match d with | .tup [_, .int y, _] => decide (y = key) | _ => false).map fun _ => D.int 1).length := ⟨_, rfl⟩
  have ct : MP.cutD (rec.map Evt.enc) none (some (at_ : Int)) = (rec.take at_).map Evt.enc := by
    have h0 : ¬ (at_ : Int) < 0 := by omega
    simp [MP.cutD, HT.sIx, h0, List.map_take]
  have e4 : evE (T.cx k) (.blt .len false (.cons (.comp false [5, 6] (.slot 6) (.val (.slc false (.var 0) (.con .non) (.var 1))) (.cons b__law_next_event_0 .nil) b__law_next_event_1) .nil)) [some (.lst tg (rec.map Evt.enc)), some (.int at_), some (.int key), some (.int t), none, none, none] L = .ok (.int m) L := by
    have ei : evI (T.cx k) (.val (.slc false (.var 0) (.con .non) (.var 1))) [some (.lst tg (rec.map Evt.enc)), some (.int at_), some (.int key), some (.int t), none, none, none] L = .ok ((rec.take at_).map Evt.enc, []) L := by
      simp [evI, evE, isAbs, MP.part, optV, slcP, lstOf, newL, ct, opt, itemsOf, seqOf, watch]
    have hc' : compL ([] : List (Nat × List D)) (.slot 6) (wipeE [some (.lst tg (rec.map Evt.enc)), some (.int at_), some (.int key), some (.int t), none, none, none] [5, 6]) (fun E' L' => evC (T.cx k) (.cons b__law_next_event_0 .nil) E' L') (fun E' L' => evE (T.cx k) b__law_next_event_1 E' L') ((rec.take at_).map Evt.enc) [] L = _ := hc
    rw [evE, evA, evE, ei, Res.bind_ok, hc']
    simp only [Res.bind_ok, opt, newL, Bool.false_eq_true, if_false, evA, bltD, lenD, seqOf, lstOf, Option.map_some, ← hm]
  refine ⟨⟨t, key, decide (m % 2 = 0)⟩, ?_, rfl, b1, b2⟩
  have ew : evE (T.cx k) (.idx (.lst false (.cons (.con (.str (Str.ofString "down"))) (.cons (.con (.str (Str.ofString "up"))) .nil))) (.bin .mod false (.var 4) (.con (.int 2)))) [some (.lst tg (rec.map Evt.enc)), some (.int at_), some (.int key), some (.int t), some (.int m), none, none] L = .ok (.str (way (decide (m % 2 = 0)))) L := by
    have bm : binD .mod false (.int (m : Int)) (.int 2) L = some (.int ((m % 2 : Nat) : Int), L) := by simp [binD]
    have : m % 2 = 0 ∨ m % 2 = 1 := by omega
    simp only [evE, evA, List.getElem?_cons_succ, List.getElem?_cons_zero, Res.bind_ok, List.length_cons, List.length_nil, Nat.zero_add, Nat.reduceAdd, q2, if_true, newL, Bool.false_eq_true, if_false, opt, bm, optV, idxD, seqOf, lstOf, idxSeq]
    rcases this with h | h <;> rw [h] <;> rfl
  rw [goH 125 rfl rfl]
  show resOf (evSs (T.cx k) b__law_next_event [some (.lst tg (rec.map Evt.enc)), some (.int at_), some (.int key), none, none, none, none] L) = _
  rw [b__law_next_event, ss_asg (E' := [some (.lst tg (rec.map Evt.enc)), some (.int at_), some (.int key), some (.int t), none, none, none]) et rfl,
    ss_asg (E' := [some (.lst tg (rec.map Evt.enc)), some (.int at_), some (.int key), some (.int t), some (.int m), none, none]) e4 rfl,
    ss_ret (d := (Evt.enc ⟨t, key, decide (m % 2 = 0)⟩)) (L1 := L)]
  · rfl
  · rw [evE, evA, evE]
    simp only [List.getElem?_cons_succ, List.getElem?_cons_zero, Res.bind_ok]
    rw [evA, evE]
    simp only [List.getElem?_cons_succ, List.getElem?_cons_zero, Res.bind_ok]
    rw [evA, ew]
    simp only [Res.bind_ok, evA, List.length_cons, List.length_nil, Nat.zero_add, Nat.reduceAdd, q3, if_true]
    rfl
/-! ### valid records are fine -/
theorem stepF_ok {many : Option Int} {d : Int → Bool} {e : Evt} (k0 : 0 ≤ e.key) (km : ∀ m, many = some m → e.key ≤ m) (ha : e.dn = !(d e.key)) : stepF many d e.stp = some (e.key, e.dn) := by
  have hi : isInt (some 0) many (.int e.key) = true := by
    have h1 : inLo (some 0) e.key = true := decide_eq_true k0
    have h2 : inHi many e.key = true := by
      cases many with
      | none => rfl
      | some m => exact decide_eq_true (km m rfl)
    simp only [isInt, h1, h2]; rfl
  have hw : wayD (.str (way e.dn)) = some e.dn := wayS_iff.mpr rfl
  simp only [Evt.stp, stepF, hi, if_true, hw]
  rw [if_pos ha]
theorem fwsF_ok {many : Option Int} : ∀ {rec : List Evt} {d : Int → Bool} {n : Nat}, (∀ e ∈ rec, 0 ≤ e.key ∧ ∀ m, many = some m → e.key ≤ m) → Alt d rec → fwsF many d n (rec.map Evt.stp) = none
  | [], _, _, _, _ => rfl
  | e :: rec, d, n, h, ha => by
    obtain ⟨h1, h2⟩ := h e List.mem_cons_self
    simp only [List.map_cons, fwsF, stepF_ok h1 h2 ha.1]
    exact fwsF_ok (fun x hx => h x (List.mem_cons_of_mem _ hx)) ha.2
theorem recF_ok {many : Option Int} : ∀ {rec : List Evt} {d : Int → Bool} {prev : Option Int} {n : Nat}, (∀ e ∈ rec, 0 ≤ e.key ∧ ∀ m, many = some m → e.key ≤ m) → Alt d rec → rec.Pairwise (fun a b => a.tick ≤ b.tick) → (∀ e ∈ rec, lessP prev e.tick = false) → recF many d prev n (rec.map Evt.enc) = none
  | [], _, _, _, _, _, _, _ => rfl
  | e :: rec, d, prev, n, h, ha, hp, hl => by
    obtain ⟨h1, h2⟩ := h e List.mem_cons_self
    have et : evtT e.enc = some e.tick := rfl
    have es : tl e.enc = e.stp := rfl
    simp only [List.map_cons, recF, et, es, hl e List.mem_cons_self, stepF_ok h1 h2 ha.1, Bool.false_eq_true, if_false]
    have hp' := List.pairwise_cons.mp hp
    exact recF_ok (fun x hx => h x (List.mem_cons_of_mem _ hx)) ha.2 hp'.2 fun x hx => decide_eq_false (by have := hp'.1 x hx; omega)
theorem recB_ok {many : Option Int} {t : Nat} {rec : List Evt} (h : RecOk many rec) : recB (.lst t (rec.map Evt.enc)) = true := by
  simp only [recB, List.length_map, Bool.and_eq_true, decide_eq_true_eq]
  refine ⟨h.n, ?_⟩
  rw [recF_ok (fun e he => ⟨(h.key e he).1, fun m hm => by cases hm⟩) h.alt h.asc fun _ _ => rfl]
  rfl
theorem ordB_ok {many : Option Int} {t : Nat} {rec : List Evt} (h : RecOk many rec) : ordB (.lst t (rec.map Evt.stp)) = true := by
  simp only [ordB, List.length_map, Bool.and_eq_true, decide_eq_true_eq]
  refine ⟨h.n, ?_⟩
  rw [fwsF_ok (fun e he => ⟨(h.key e he).1, fun m hm => by cases hm⟩) h.alt]
  rfl
end
end PB
set_option maxHeartbeats 4000000
namespace Law_k05
open PySem PySem.Spec PyProof.Rows L2 MP PB
def ld : LD := ⟨[(14, 11), (48, 11), (59, 40), (59, 44), (77, 40), (95, 17), (114, 46), (130, 16), (145, 35)], [((Str.ofString "MOST_EVENTS"), (.int 400))], [(Str.ofString "isinstance"), (Str.ofString "len"), (Str.ofString "abs"), (Str.ofString "max"), (Str.ofString "min"), (Str.ofString "list"), (Str.ofString "tuple"), (Str.ofString "int"), (Str.ofString "bool"), (Str.ofString "str"), (Str.ofString "repr"), (Str.ofString "range"), (Str.ofString "enumerate")], [((Str.ofString "is_integer"), 0), ((Str.ofString "wrong_step"), 20), ((Str.ofString "first_wrong_step"), 21), ((Str.ofString "first_wrong_event"), 22), ((Str.ofString "is_events"), 23), ((Str.ofString "is_record"), 43), ((Str.ofString "is_order"), 44), ((Str.ofString "_law_reel"), 100), ((Str.ofString "_law_spin"), 101), ((Str.ofString "_law_record"), 120), ((Str.ofString "_law_is_number"), 121), ((Str.ofString "_law_record_fault"), 122), ((Str.ofString "_law_order_fault"), 123), ((Str.ofString "_law_odd_events"), 124), ((Str.ofString "_law_next_event"), 125), ((Str.ofString "_law_told_right"), 200), ((Str.ofString "_law_steps"), 201), ((Str.ofString "_law_sizes_right"), 202), ((Str.ofString "_law_changed_right"), 203), ((Str.ofString "law"), 204)]⟩

def top (i : Nat) : PySem.Stmt := (PySem.Challenge.pw_holdtap_k05_records_recognized).main.body.getD i (.Pass ⟨0, 0, 0, 0⟩)
/-! _law_told_right: 0=_law_value 1=_law_kept 2=_law_dues 3=_law_turn -/
def b__law_told_right_0 : Ss := (.cons (.ite (.or (.cmp .ne (.blt .repr false (.cons (.lst false (.cons (.call 43 (.cons (.var 0) .nil)) (.cons (.call 44 (.cons (.var 0) .nil)) .nil))) .nil)) (.blt .repr false (.cons (.var 2) .nil))) (.cmp .ne (.blt .repr false (.cons (.var 0) .nil)) (.var 1))) (.cons (.ret (.con (.bl false))) .nil) .nil) .nil)
def b__law_told_right : Ss := (.cons (.par [1, 2] (.cons (.blt .repr false (.cons (.var 0) .nil)) (.cons (.lst true (.cons (.cmp .eq (.call 122 (.cons (.var 0) (.cons (.bin .pow false (.con (.int 10)) (.con (.int 40))) .nil))) (.con (.str (Str.ofString "fine")))) .nil)) .nil))) (.cons (.ex (.mth .append (.var 2) (.cons (.cmp .eq (.call 123 (.cons (.var 0) (.cons (.bin .pow false (.con (.int 10)) (.con (.int 40))) .nil))) (.con (.str (Str.ofString "fine")))) .nil))) (.cons (.for_ (.slot 3) (.rng1 (.con (.int 2))) b__law_told_right_0) (.cons (.ret (.con (.bl true))) .nil))))
def f__law_told_right : Fn := ⟨1, 4, [], true, b__law_told_right⟩

/-! _law_steps: 0=_law_value 1=.0 2=_law_item -/
def b__law_steps_0 : Ex := (.ite (.isi (.var 2) .tuple) (.slc false (.var 2) (.con (.int 1)) (.con .non)) (.var 2))
def b__law_steps : Ss := (.cons (.ret (.comp false [1, 2] (.slot 2) (.val (.var 0)) .nil b__law_steps_0)) .nil)
def f__law_steps : Fn := ⟨1, 3, [], false, b__law_steps⟩

/-! _law_sizes_right: 0=_law_many 1=_law_taps 2=_law_told 3=.0 4=_law_number -/
def b__law_sizes_right_0 : Ex := (.tup (.cons (.con (.int 5)) (.cons (.con (.int 3)) (.cons (.idx (.lst false (.cons (.con (.str (Str.ofString "down"))) (.cons (.con (.str (Str.ofString "up"))) .nil))) (.bin .mod false (.var 4) (.con (.int 2)))) .nil))))
def b__law_sizes_right_1 : Ss := (.cons (.asg (.nm (.slot 1)) (.comp false [3, 4] (.slot 4) (.rng1 (.var 0)) .nil b__law_sizes_right_0)) (.cons (.asg (.nm (.slot 2)) (.lst false (.cons (.call 43 (.cons (.var 1) .nil)) (.cons (.call 44 (.cons (.call 201 (.cons (.var 1) .nil)) .nil)) .nil)))) (.cons (.ite (.cmp .ne (.var 2) (.lst false (.cons (.cmp .lt (.var 0) (.con (.int 401))) (.cons (.cmp .lt (.var 0) (.con (.int 401))) .nil)))) (.cons (.ret (.con (.bl false))) .nil) .nil) .nil)))
def b__law_sizes_right : Ss := (.cons (.for_ (.slot 0) (.val (.lst false (.cons (.con (.int 0)) (.cons (.con (.int 399)) (.cons (.con (.int 400)) (.cons (.con (.int 401)) (.cons (.con (.int 402)) .nil))))))) b__law_sizes_right_1) (.cons (.ret (.con (.bl true))) .nil))
def f__law_sizes_right : Fn := ⟨0, 5, [], false, b__law_sizes_right⟩

/-! _law_changed_right: 0=_law_record_here 1=_law_told -/
def b__law_changed_right : Ss := (.cons (.asg (.nm (.slot 1)) (.lst true (.cons (.call 43 (.cons (.var 0) .nil)) .nil))) (.cons (.ex (.mth .append (.var 0) (.cons (.tup (.cons (.bin .add false (.bin .pow false (.con (.int 10)) (.con (.int 15))) (.bin .pow false (.con (.int 10)) (.con (.int 12)))) (.cons (.con (.int 5)) (.cons (.con (.str (Str.ofString "Down"))) .nil)))) .nil))) (.cons (.ex (.mth .append (.var 1) (.cons (.call 43 (.cons (.var 0) .nil)) .nil))) (.cons (.ex (.mth .pop (.var 0) .nil)) (.cons (.ex (.mth .append (.var 1) (.cons (.call 43 (.cons (.var 0) .nil)) .nil))) (.cons (.ex (.mth .reverse (.var 0) .nil)) (.cons (.ret (.and (.cmp .eq (.var 1) (.lst false (.cons (.con (.bl true)) (.cons (.con (.bl false)) (.cons (.con (.bl true)) .nil))))) (.call 200 (.cons (.var 0) .nil)))) .nil)))))))
def f__law_changed_right : Fn := ⟨1, 2, [true], false, b__law_changed_right⟩

/-! law: 0=_law_script 1=_law_index 2=_law_reel_here 3=_law_turn 4=_law_keys 5=_law_size 6=_law_record_here 7=_law_tick 8=_law_key 9=_law_way 10=_law_at 11=_law_some 12=_law_odd 13=_law_bent 14=_law_value 15=.0 16=_law_number -/
def b_law_0 : Ex := (.tup (.cons (.var 7) (.cons (.bin .add false (.bin .mul false (.var 8) (.bin .pow false (.con (.int 10)) (.con (.int 28)))) (.con (.int 7))) (.cons (.var 9) .nil))))
def b_law_1 : Ex := (.idx (.var 11) (.call 101 (.cons (.var 2) (.cons (.blt .len false (.cons (.var 11) .nil)) .nil))))
def b_law_2 : Ss := (.cons (.asg (.nm (.slot 13)) (.bin .add false (.bin .add false (.slc false (.var 6) (.con .non) (.var 10)) (.lst false (.cons (.var 12) .nil))) (.slc false (.var 6) (.var 10) (.con .non)))) (.cons (.ite (.or (.not (.call 200 (.cons (.var 13) .nil))) (.not (.call 200 (.cons (.call 201 (.cons (.var 13) .nil)) .nil)))) (.cons (.ret (.con (.bl false))) .nil) .nil) .nil))
def b_law_3 : Ss := (.cons (.ite (.not (.call 200 (.cons (.var 14) .nil))) (.cons (.ret (.con (.bl false))) .nil) .nil) .nil)
def b_law_4 : Ss := (.cons (.asg (.nm (.slot 4)) (.bin .add false (.con (.int 1)) (.call 101 (.cons (.var 2) (.cons (.con (.int 16)) .nil))))) (.cons (.asg (.nm (.slot 5)) (.idx (.lst false (.cons (.call 101 (.cons (.var 2) (.cons (.con (.int 12)) .nil))) (.cons (.call 101 (.cons (.var 2) (.cons (.con (.int 201)) .nil))) .nil))) (.var 3))) (.cons (.asg (.nm (.slot 6)) (.call 120 (.cons (.var 2) (.cons (.var 4) (.cons (.var 5) (.cons (.lst false (.cons (.con (.int 0)) (.cons (.con (.int 0)) (.cons (.con (.int 1)) (.cons (.con (.int 5)) (.cons (.bin .pow false (.con (.int 10)) (.con (.int 9))) .nil)))))) .nil)))))) (.cons (.ite (.cmp .eq (.var 3) (.con (.int 1))) (.cons (.asg (.nm (.slot 6)) (.comp true [15, 7, 8, 9] (.tup [(.slot 7), (.slot 8), (.slot 9)]) (.val (.var 6)) .nil b_law_0)) .nil) .nil) (.cons (.ite (.or (.cmp .isn (.call 43 (.cons (.var 6) .nil)) (.con (.bl true))) (.cmp .isn (.call 44 (.cons (.call 201 (.cons (.var 6) .nil)) .nil)) (.con (.bl true)))) (.cons (.ret (.con (.bl false))) .nil) .nil) (.cons (.asg (.nm (.slot 10)) (.call 101 (.cons (.var 2) (.cons (.bin .add false (.blt .len false (.cons (.var 6) .nil)) (.con (.int 1))) .nil)))) (.cons (.asg (.nm (.slot 8)) (.ite (.cmp .ne (.var 6) (.lst false .nil)) (.idx (.idx (.var 6) (.call 101 (.cons (.var 2) (.cons (.blt .len false (.cons (.var 6) .nil)) .nil)))) (.con (.int 1))) (.con (.int 0)))) (.cons (.asg (.nm (.tup [(.slot 7), (.slot 8), (.slot 9)])) (.call 125 (.cons (.var 6) (.cons (.var 10) (.cons (.var 8) .nil))))) (.cons (.asg (.nm (.slot 11)) (.bin .add false (.call 124 (.cons (.var 7) (.cons (.var 8) (.cons (.var 9) .nil)))) (.lst false (.cons (.tup (.cons (.var 7) (.cons (.var 8) (.cons (.var 9) .nil)))) .nil)))) (.cons (.ite (.cmp .eq (.var 3) (.con (.int 1))) (.cons (.asg (.nm (.slot 11)) (.comp false [15, 16] (.slot 16) (.rng1 (.con (.int 5))) .nil b_law_1)) .nil) .nil) (.cons (.for_ (.slot 12) (.val (.var 11)) b_law_2) (.cons (.for_ (.slot 14) (.val (.lst false (.cons (.con .non) (.cons (.con (.int 0)) (.cons (.con (.bl true)) (.cons (.con (.str (Str.ofString ""))) (.cons (.con (.str (Str.ofString "down"))) (.cons (.tup .nil) (.cons (.dct [] .nil) (.cons (.blt .tuple false (.cons (.var 6) .nil)) (.cons (.lst false (.cons (.var 6) .nil)) (.cons (.lst false (.cons (.con .non) .nil)) (.cons (.lst false (.cons (.lst false .nil) .nil)) (.cons (.rev false (.var 6)) .nil)))))))))))))) b_law_3) (.cons (.ite (.or (.not (.call 200 (.cons (.slc false (.var 6) (.con (.int 1)) (.con .non)) .nil))) (.not (.call 200 (.cons (.bin .add false (.var 6) (.slc false (.var 6) (.con .non) (.con (.int 1)))) .nil)))) (.cons (.ret (.con (.bl false))) .nil) .nil) (.cons (.ite (.not (.call 203 (.cons (.var 6) .nil))) (.cons (.ret (.con (.bl false))) .nil) .nil) .nil))))))))))))))
def b_law_5 : Ss := (.cons (.asg (.nm (.slot 2)) (.call 100 (.cons (.var 0) (.cons (.var 1) .nil)))) (.cons (.for_ (.slot 3) (.rng1 (.con (.int 2))) b_law_4) .nil))
def b_law : Ss := (.cons (.for_ (.slot 1) (.rng1 (.blt .max false (.cons (.con (.int 1)) (.cons (.blt .min false (.cons (.con (.int 2)) (.cons (.blt .len false (.cons (.var 0) .nil)) .nil))) .nil)))) b_law_5) (.cons (.ite (.not (.call 202 .nil)) (.cons (.ret (.con (.bl false))) .nil) .nil) (.cons (.ret (.and (.cmp .is_ (.call 43 (.cons (.lst false .nil) .nil)) (.con (.bl true))) (.cmp .is_ (.call 44 (.cons (.lst false (.cons (.tup (.cons (.con (.int 0)) (.cons (.con (.str (Str.ofString "up"))) .nil))) .nil)) .nil)) (.con (.bl false))))) .nil)))
def f_law : Fn := ⟨1, 17, [], false, b_law⟩

def d_is_integer : Dn := ⟨0, (Str.ofString "is_integer"), top 2, [(Str.ofString "value"), (Str.ofString "first"), (Str.ofString "last")], f_is_integer⟩
def d_wrong_step : Dn := ⟨20, (Str.ofString "wrong_step"), top 3, [(Str.ofString "down"), (Str.ofString "step"), (Str.ofString "many")], f_wrong_step⟩
def d_first_wrong_step : Dn := ⟨21, (Str.ofString "first_wrong_step"), top 4, [(Str.ofString "steps"), (Str.ofString "many"), (Str.ofString "down"), (Str.ofString "index"), (Str.ofString "step")], f_first_wrong_step⟩
def d_first_wrong_event : Dn := ⟨22, (Str.ofString "first_wrong_event"), top 5, [(Str.ofString "events"), (Str.ofString "many"), (Str.ofString "wrong"), (Str.ofString "index"), (Str.ofString "event"), (Str.ofString "steps"), (Str.ofString "earlier"), (Str.ofString ".0")], f_first_wrong_event⟩
def d_is_events : Dn := ⟨23, (Str.ofString "is_events"), top 6, [(Str.ofString "value")], f_is_events⟩
def d_is_record : Dn := ⟨43, (Str.ofString "is_record"), top 8, [(Str.ofString "value")], f_is_record⟩
def d_is_order : Dn := ⟨44, (Str.ofString "is_order"), top 9, [(Str.ofString "value")], f_is_order⟩
def d__law_reel : Dn := ⟨100, (Str.ofString "_law_reel"), top 11, [(Str.ofString "_law_script"), (Str.ofString "_law_index"), (Str.ofString "_law_mixed"), (Str.ofString "_law_cell")], f__law_reel⟩
def d__law_spin : Dn := ⟨101, (Str.ofString "_law_spin"), top 12, [(Str.ofString "_law_reel_here"), (Str.ofString "_law_size"), (Str.ofString "_law_digit"), (Str.ofString "_law_wide")], f__law_spin⟩
def d__law_record : Dn := ⟨120, (Str.ofString "_law_record"), top 13, [(Str.ofString "_law_reel_here"), (Str.ofString "_law_keys"), (Str.ofString "_law_size"), (Str.ofString "_law_gaps"), (Str.ofString "_law_found"), (Str.ofString "_law_down"), (Str.ofString "_law_tick"), (Str.ofString "_law_turn"), (Str.ofString "_law_key")], f__law_record⟩
def d__law_is_number : Dn := ⟨121, (Str.ofString "_law_is_number"), top 14, [(Str.ofString "_law_value"), (Str.ofString "_law_least"), (Str.ofString "_law_most")], f__law_is_number⟩
def d__law_record_fault : Dn := ⟨122, (Str.ofString "_law_record_fault"), top 15, [(Str.ofString "_law_value"), (Str.ofString "_law_keys"), (Str.ofString "_law_down"), (Str.ofString "_law_before"), (Str.ofString "_law_far"), (Str.ofString "_law_index"), (Str.ofString "_law_item"), (Str.ofString "_law_tick"), (Str.ofString "_law_key"), (Str.ofString "_law_way")], f__law_record_fault⟩
def d__law_order_fault : Dn := ⟨123, (Str.ofString "_law_order_fault"), top 16, [(Str.ofString "_law_value"), (Str.ofString "_law_keys"), (Str.ofString "_law_found"), (Str.ofString "_law_item"), (Str.ofString "_law_due")], f__law_order_fault⟩
def d__law_odd_events : Dn := ⟨124, (Str.ofString "_law_odd_events"), top 17, [(Str.ofString "_law_tick"), (Str.ofString "_law_key"), (Str.ofString "_law_way"), (Str.ofString "_law_other"), (Str.ofString "_law_some"), (Str.ofString ".0"), (Str.ofString "_law_one")], f__law_odd_events⟩
def d__law_next_event : Dn := ⟨125, (Str.ofString "_law_next_event"), top 18, [(Str.ofString "_law_record_here"), (Str.ofString "_law_at"), (Str.ofString "_law_key"), (Str.ofString "_law_tick"), (Str.ofString "_law_many"), (Str.ofString ".0"), (Str.ofString "_law_event")], f__law_next_event⟩
def d__law_told_right : Dn := ⟨200, (Str.ofString "_law_told_right"), top 19, [(Str.ofString "_law_value"), (Str.ofString "_law_kept"), (Str.ofString "_law_dues"), (Str.ofString "_law_turn")], f__law_told_right⟩
def d__law_steps : Dn := ⟨201, (Str.ofString "_law_steps"), top 20, [(Str.ofString "_law_value"), (Str.ofString ".0"), (Str.ofString "_law_item")], f__law_steps⟩
def d__law_sizes_right : Dn := ⟨202, (Str.ofString "_law_sizes_right"), top 21, [(Str.ofString "_law_many"), (Str.ofString "_law_taps"), (Str.ofString "_law_told"), (Str.ofString ".0"), (Str.ofString "_law_number")], f__law_sizes_right⟩
def d__law_changed_right : Dn := ⟨203, (Str.ofString "_law_changed_right"), top 22, [(Str.ofString "_law_record_here"), (Str.ofString "_law_told")], f__law_changed_right⟩
def d_law : Dn := ⟨204, (Str.ofString "law"), top 23, [(Str.ofString "_law_script"), (Str.ofString "_law_index"), (Str.ofString "_law_reel_here"), (Str.ofString "_law_turn"), (Str.ofString "_law_keys"), (Str.ofString "_law_size"), (Str.ofString "_law_record_here"), (Str.ofString "_law_tick"), (Str.ofString "_law_key"), (Str.ofString "_law_way"), (Str.ofString "_law_at"), (Str.ofString "_law_some"), (Str.ofString "_law_odd"), (Str.ofString "_law_bent"), (Str.ofString "_law_value"), (Str.ofString ".0"), (Str.ofString "_law_number")], f_law⟩
def dns : List Dn := [d_is_integer, d_wrong_step, d_first_wrong_step, d_first_wrong_event, d_is_events, d_is_record, d_is_order, d__law_reel, d__law_spin, d__law_record, d__law_is_number, d__law_record_fault, d__law_order_fault, d__law_odd_events, d__law_next_event, d__law_told_right, d__law_steps, d__law_sizes_right, d__law_changed_right, d_law]
def T : Tab := tabOf dns 1000
instance T_is_integer : HasFn T 0 f_is_integer := ⟨rfl⟩
instance T_wrong_step : HasFn T 20 f_wrong_step := ⟨rfl⟩
instance T_first_wrong_step : HasFn T 21 f_first_wrong_step := ⟨rfl⟩
instance T_first_wrong_event : HasFn T 22 f_first_wrong_event := ⟨rfl⟩
instance T_is_events : HasFn T 23 f_is_events := ⟨rfl⟩
instance T_is_record : HasFn T 43 f_is_record := ⟨rfl⟩
instance T_is_order : HasFn T 44 f_is_order := ⟨rfl⟩
instance T__law_reel : HasFn T 100 f__law_reel := ⟨rfl⟩
instance T__law_spin : HasFn T 101 f__law_spin := ⟨rfl⟩
instance T__law_record : HasFn T 120 f__law_record := ⟨rfl⟩
instance T__law_is_number : HasFn T 121 f__law_is_number := ⟨rfl⟩
instance T__law_record_fault : HasFn T 122 f__law_record_fault := ⟨rfl⟩
instance T__law_order_fault : HasFn T 123 f__law_order_fault := ⟨rfl⟩
instance T__law_odd_events : HasFn T 124 f__law_odd_events := ⟨rfl⟩
instance T__law_next_event : HasFn T 125 f__law_next_event := ⟨rfl⟩
instance T__law_told_right : HasFn T 200 f__law_told_right := ⟨rfl⟩
instance T__law_steps : HasFn T 201 f__law_steps := ⟨rfl⟩
instance T__law_sizes_right : HasFn T 202 f__law_sizes_right := ⟨rfl⟩
instance T__law_changed_right : HasFn T 203 f__law_changed_right := ⟨rfl⟩
instance T_law : HasFn T 204 f_law := ⟨rfl⟩
end Law_k05
set_option maxHeartbeats 2000000
namespace Law_k05
open PySem hiding Act
open PySem.Spec PyProof.Rows L2 MP PB
/-- an item, but for its size -/
structure OkCore (d : D) : Prop where
  nr : noRef d = true
  w3 : ∀ x y w, d = .tup [x, y, w] → okW w
  w2 : ∀ x w, d = .tup [x, w] → okW w
  tb : ∀ t, evtT d = some t → -(10 ^ 120) ≤ t ∧ t ≤ 10 ^ 120
  kb : ∀ k, ((∃ x w, d = .tup [x, .int k, w]) ∨ ∃ w, d = .tup [.int k, w]) → k ≤ 10 ^ 40 - 1
theorem core_of {d : D} (h : OkItem d) : OkCore d := ⟨h.nr, h.w3, h.w2, h.tb, h.kb⟩
theorem OkCore.evt {d : D} (h : OkCore d) : OkEvt d := ⟨h.nr, h.w3⟩
theorem OkCore.step {d : D} (h : OkCore d) : OkStep d := ⟨h.nr, h.w2⟩
theorem core_list {t : Nat} {ds : List D} (h : noRefs ds = true) : OkCore (.lst t ds) := ⟨by simpa [noRef] using h, by simp, by simp, fun t' e => by simp [evtT] at e, fun k e => by rcases e with ⟨x, w, e⟩ | ⟨w, e⟩ <;> cases e⟩
/-- a value that both sides can look at -/
structure Tame (v : D) : Prop where
  nr : noRef v = true
  rep : ∃ s, ∀ L, reprD L v = some s
  it : ∀ t ds, v = .lst t ds → ∀ x ∈ ds, OkCore x
theorem tame_list {t : Nat} {ds : List D} (h : ∀ d ∈ ds, OkItem d) (hz : ds.length ≤ 410) : Tame (.lst t ds) where
  nr := by simp only [noRef]; exact noRefs_of fun d hd => (h d hd).nr
  rep := rep_list (fun d hd => (h d hd).rp) hz
  it := fun t' ds' e => by cases e; exact fun x hx => core_of (h x hx)
theorem s_told (k : Nat) (hk : 7 ≤ k) (L : Live) (v : D) (h : Tame v) : (T.cx k).φ 200 [v] L = .ok (.bl true) L := by
  obtain ⟨k, rfl⟩ : ∃ m, k = m + 1 := ⟨k - 1, by omega⟩
  obtain ⟨s, hs⟩ := h.rep
  have hn := h.nr
  obtain ⟨M40, p40, v40⟩ := e_power 10 40 (by decide)
  have b40 : M40 = 10 ^ 40 := by rw [v40]; rfl
  clear v40
  have q1 : MP.sizeOk 1 = true := sizeOk_small (by omega)
  have q2 : MP.sizeOk 2 = true := sizeOk_small (by omega)
  have okE : ∀ t ds, v = .lst t ds → ∀ x ∈ ds, OkEvt x := fun t ds e x hx => (h.it t ds e x hx).evt
  have okS : ∀ t ds, v = .lst t ds → ∀ x ∈ ds, OkStep x := fun t ds e x hx => (h.it t ds e x hx).step
  have c43 : ∀ M, callW (T.cx k) 43 [v] M = .ok (.bl (recB v)) M := fun M => by rw [callW_pure (by simp [noRefs, hn]), s_is_record_any (T := T) k (by omega) M v hn okE]
  have c44 : ∀ M, callW (T.cx k) 44 [v] M = .ok (.bl (ordB v)) M := fun M => by rw [callW_pure (by simp [noRefs, hn]), s_is_order_any (T := T) k (by omega) M v hn okS]
  -- the judge
  have J1 : ∃ r, ∀ M, callW (T.cx k) 122 [v, .int M40] M = .ok r M ∧ ∀ M, cmpD .eq r (.str (Str.ofString "fine")) M = some (recB v) := by
    by_cases he : evsB v = true
    · obtain ⟨t, ds, rfl, hz⟩ : ∃ t ds, v = .lst t ds ∧ ds.length ≤ 400 := by
        cases v <;> simp [evsB] at he
        exact ⟨_, _, rfl, he⟩
      refine ⟨outF (recF (some (M40 - 1)) (fun _ => false) none 0 ds), fun M => ⟨?_, fun M => ?_⟩⟩
      · rw [callW_pure (by simpa [noRefs, noRef] using hn)]
        exact s_fault (T := T) k (by omega) M t ds M40 hz (fun d hd => (h.it t ds rfl d hd).nr) fun d hd => (h.it t ds rfl d hd).tb
      · rw [eq_fine, recF_many fun d hd x y w e => by rw [b40]; exact (h.it t ds rfl d hd).kb y (.inl ⟨x, w, e⟩)]
        simp [recB, hz]
    · have he' : evsB v = false := by simpa using he
      refine ⟨.non, fun M => ⟨?_, fun M => ?_⟩⟩
      · rw [callW_pure (by simp [noRefs, hn, noRef])]
        exact s_fault_no (T := T) k (by omega) M v M40 hn he'
      · have : recB v = false := by
          cases v <;> first | rfl | skip
          rename_i t ds
          simp only [evsB, decide_eq_false_iff_not] at he'
          simp [recB, he']
        rw [this]
        simp [cmpD, eqD, scal2, eqS]
  have J2 : ∃ r, ∀ M, callW (T.cx k) 123 [v, .int M40] M = .ok r M ∧ ∀ M, cmpD .eq r (.str (Str.ofString "fine")) M = some (ordB v) := by
    by_cases he : evsB v = true
    · obtain ⟨t, ds, rfl, hz⟩ : ∃ t ds, v = .lst t ds ∧ ds.length ≤ 400 := by
        cases v <;> simp [evsB] at he
        exact ⟨_, _, rfl, he⟩
      have hnr : ∀ d ∈ ds, noRef d = true := fun d hd => (h.it t ds rfl d hd).nr
      obtain ⟨r, _, _, h3, er⟩ := s_order_fault (T := T) k (by omega) [] t ds M40 hz hnr
      refine ⟨r, fun M => ⟨?_, fun M => ?_⟩⟩
      · rw [callW_pure (by simpa [noRefs, noRef] using hn)]
        obtain ⟨r', h5, _, _, er'⟩ := s_order_fault (T := T) k (by omega) M t ds M40 hz hnr
        rw [h5, er', er]
      · rw [h3, fwsF_many fun d hd y w e => by rw [b40]; exact (h.it t ds rfl d hd).kb y (.inr ⟨w, e⟩)]
        simp [ordB, hz]
    · have he' : evsB v = false := by simpa using he
      refine ⟨.non, fun M => ⟨?_, fun M => ?_⟩⟩
      · rw [callW_pure (by simp [noRefs, hn, noRef])]
        exact s_order_no (T := T) k (by omega) M v M40 hn he'
      · have : ordB v = false := by
          cases v <;> first | rfl | skip
          rename_i t ds
          simp only [evsB, decide_eq_false_iff_not] at he'
          simp [ordB, he']
        rw [this]
        simp [cmpD, eqD, scal2, eqS]
  obtain ⟨r1, hr1⟩ := J1
  obtain ⟨r2, hr2⟩ := J2
  generalize recB v = a at *
  generalize ordB v = b at *
  obtain ⟨z, hz1⟩ : ∃ z, ∀ M, reprD M (.lst 0 [.bl a, .bl b]) = some z := by
    refine ⟨_, fun M => PB.repr_ok (p := .list [.bool a, .bool b]) (by simp [pyOf, toPy, toPys]) (by simp [PyData.showable, PyData.showableAll]) (by simp [psz, pszs]) (by simp [PyData.depth, PyData.depthAll])⟩
  obtain ⟨M, hM⟩ : ∃ M, M = L ++ [LO.lst [.bl a, .bl b]] := ⟨_, rfl⟩
  have top : M[L.length]? = some (.lst [.bl a, .bl b]) := by rw [hM]; simp
  have hz2 : reprD M (.ref L.length) = some z := by
    have e1 := hz1 []
    have e2 : reprD M (.ref L.length) = some (PyData.list [.bool a, .bool b]).shown := PB.repr_ok (p := .list [.bool a, .bool b]) (by
      simp only [pyOf, toPy]
      rw [MP.view, top]
      simp [mapO, MP.view, toPy]) (by simp [PyData.showable, PyData.showableAll]) (by simp [psz, pszs]) (by simp [PyData.depth, PyData.depthAll])
    have e3 : reprD [] (.lst 0 [.bl a, .bl b]) = some (PyData.list [.bool a, .bool b]).shown := PB.repr_ok (p := .list [.bool a, .bool b]) (by simp [pyOf, toPy, toPys]) (by simp [PyData.showable, PyData.showableAll]) (by simp [psz, pszs]) (by simp [PyData.depth, PyData.depthAll])
    rw [e2, ← e3, e1]
  have e122 : ∀ M, evE (T.cx k) (.cmp .eq (.call 122 (.cons (.var 0) (.cons (.bin .pow false (.con (.int 10)) (.con (.int 40))) .nil))) (.con (.str (Str.ofString "fine")))) [some v, none, none, none] M = .ok (.bl a) M := fun M => by
    rw [evE, evE, evA, evE]
    simp only [List.getElem?_cons_zero, Res.bind_ok]
    rw [evA, p40]
    simp only [Res.bind_ok, evA, (hr1 M).1, evE, (hr1 M).2, optV]
  have e123 : ∀ x1 x2 M, evE (T.cx k) (.cmp .eq (.call 123 (.cons (.var 0) (.cons (.bin .pow false (.con (.int 10)) (.con (.int 40))) .nil))) (.con (.str (Str.ofString "fine")))) [some v, x1, x2, none] M = .ok (.bl b) M := fun x1 x2 M => by
    rw [evE, evE, evA, evE]
    simp only [List.getElem?_cons_zero, Res.bind_ok]
    rw [evA, p40]
    simp only [Res.bind_ok, evA, (hr2 M).1, evE, (hr2 M).2, optV]
  have mt : mthTy .append (L ++ [LO.lst [.bl a]]) (.ref L.length) = some .list := mt_lst (ds := [.bl a]) (by simp) (by simp)
  have md : mthD .append (.ref L.length) [.bl b] (L ++ [LO.lst [.bl a]]) = some (.non, M) := by
    rw [app_lst (ds := [.bl a]) (by simp) (by simp), hM, List.set_append_right _ _ (Nat.le_refl _)]
    simp
  obtain ⟨E', L', e, x3, rfl, hL⟩ := forL_run (w := []) (g := .slot 3) (b := fun E' L' => evSs (T.cx k) b__law_told_right_0 E' L') (ds := (List.range 2).map fun q => D.int (q : Nat))
    (fun i E' L' => ∃ x3, E' = [some v, some (.str s), some (.ref L.length), x3] ∧ L' = M) (fun _ _ _ _ => rfl) (fun i E' L' hi hI => by
      obtain ⟨x3, rfl, rfl⟩ := hI
      rw [rng1_get hi]
      refine ⟨_, [some v, some (.str s), some (.ref L.length), some (.int i)], L', rfl, .inl ?_, _, rfl, rfl⟩
      show evSs (T.cx k) b__law_told_right_0 [some v, some (.str s), some (.ref L.length), some (.int i)] L' = _
      rw [b__law_told_right_0, ss_if_n (L1 := L') (by simp [evT, evE, evA, c43, c44, q2, newL, opt, bltD, hz1, hz2, cmpD, eqD, scal2, eqS, optV, truD, hs]), ss_nil])
    (E := [some v, some (.str s), some (.ref L.length), none]) (L := M) ⟨none, rfl, rfl⟩
  rw [hL] at e
  have r2z : rng1D (.int 2) = some ((List.range 2).map fun q => D.int (q : Nat)) := rng1_nat (n := 2) (by omega) (by omega)
  have e2 : evE (T.cx k) (.lst true (.cons (.cmp .eq (.call 122 (.cons (.var 0) (.cons (.bin .pow false (.con (.int 10)) (.con (.int 40))) .nil))) (.con (.str (Str.ofString "fine")))) .nil)) [some v, none, none, none] L = .ok (.ref L.length) (L ++ [LO.lst [.bl a]]) := by
    rw [evE, evA, e122]
    simp only [Res.bind_ok, evA, List.length_cons, List.length_nil, Nat.zero_add, q1, if_true, newL, opt]
  have er : evE (T.cx k) (.blt .repr false (.cons (.var 0) .nil)) [some v, none, none, none] L = .ok (.str s) L := by simp [evE, evA, bltD, hs, opt]
  rw [goCH 200 rfl rfl]
  show cleanR L (resOf (evSs (T.cx k) b__law_told_right [some v, none, none, none] L)) = _
  rw [b__law_told_right, ss_par (ds := [.str s, .ref L.length]) (L1 := L ++ [LO.lst [.bl a]]) (by rw [evA, er, Res.bind_ok, evA, e2, Res.bind_ok, evA]; rfl) rfl,
    show setAll [1, 2] [.str s, .ref L.length] [some v, none, none, none] = [some v, some (.str s), some (.ref L.length), none] from rfl,
    ss_ex (d := .non) (L1 := M) (by
      rw [evE, evE]
      simp only [List.getElem?_cons_succ, List.getElem?_cons_zero, Res.bind_ok, mt]
      rw [evA, e123]
      simp only [Res.bind_ok, evA, mt, if_true, md, opt]),
    ss_for (w := []) (ds := (List.range 2).map fun q => D.int (q : Nat)) (L1 := M) (by simp [evI, evE, optV, r2z]) e, ss_ret (d := .bl true) (L1 := M) (by simp [evE])]
  simp only [resOf, cleanR]
  rw [fz_ok rfl, hM, cutL_app]
end Law_k05
set_option maxHeartbeats 2000000
namespace Law_k05
open PySem hiding Act
open PySem.Spec PyProof.Rows L2 MP PB
theorem evI_rng1n {c : Cxt} {a : Ex} {E : Ev} {L L1 : Live} {n : Nat} (h : evE c a E L = .ok (.int (n : Int)) L1) (h1 : n ≤ 1000000) : evI c (.rng1 a) E L = .ok ((List.range n).map fun q => D.int (q : Nat), []) L1 := by
  have e := rng1_nat (n := (n : Int)) (by omega) (by omega)
  rw [Int.toNat_natCast] at e
  rw [evI, h, Res.bind_ok, e]
  rfl
theorem cut1 (xs : List D) : MP.cutD xs (some 1) none = xs.drop 1 := by
  have h0 : ¬ (1 : Int) < 0 := by decide
  cases xs with
  | nil => simp [MP.cutD, HT.sIx]
  | cons x xs =>
    simp [MP.cutD, HT.sIx, h0]
theorem s_steps (k : Nat) (hk : 1 ≤ k) (L : Live) (t : Nat) (ds : List D) (hn : ∀ d ∈ ds, noRef d = true) (hz : ds.length ≤ 1000) : (T.cx k).φ 201 [.lst t ds] L = .ok (.lst 0 (ds.map stp)) L := by
  obtain ⟨k, rfl⟩ : ∃ m, k = m + 1 := ⟨k - 1, by omega⟩
  have hc : compL [] (.slot 2) [some (.lst t ds), none, none] (fun _ L' => .ok true L') (fun E' L' => evE (T.cx k) b__law_steps_0 E' L') ds [] L = .ok (ds.map stp) L :=
    compL_map rfl (small_line (by omega)) fun d hd => by
      refine ⟨_, rfl, rfl, ?_⟩
      have nr := hn d hd
      by_cases ht : ∃ xs, d = .tup xs
      · obtain ⟨xs, rfl⟩ := ht
        simp [b__law_steps_0, evE, isiD, optV, truD, isAbs, MP.part, slcP, opt, cut1, stp]
      · have et : isiD L d .tuple = some false := by
          cases d <;> first | rfl | (exact absurd ⟨_, rfl⟩ ht) | (simp [noRef] at nr)
        have es : stp d = d := by cases d <;> first | rfl | (exact absurd ⟨_, rfl⟩ ht)
        simp [b__law_steps_0, evE, et, optV, truD, es]
  have ei : evI (T.cx k) (.val (.var 0)) [some (.lst t ds), none, none] L = .ok (ds, []) L := by simp [evI, evE, itemsOf, seqOf, lstOf, optV, watch]
  have hc' : compL ([] : List (Nat × List D)) (.slot 2) (wipeE [some (.lst t ds), none, none] [1, 2]) (fun E' L' => evC (T.cx k) .nil E' L') (fun E' L' => evE (T.cx k) b__law_steps_0 E' L') ds [] L = .ok (ds.map stp) L := hc
  rw [goH 201 rfl rfl]
  show resOf (evSs (T.cx k) b__law_steps [some (.lst t ds), none, none] L) = _
  rw [b__law_steps, ss_ret (d := .lst 0 (ds.map stp)) (L1 := L) (by rw [evE, ei, Res.bind_ok, hc']; rfl)]
  rfl
theorem stp_enc (rec : List Evt) : (rec.map Evt.enc).map stp = rec.map Evt.stp := by
  rw [List.map_map]; rfl
theorem recs_noRef (rec : List Evt) : noRefs (rec.map Evt.enc) = true := noRefs_of fun d hd => by obtain ⟨e, _, rfl⟩ := List.mem_map.mp hd; simp
theorem recs_nr (rec : List Evt) : ∀ d ∈ rec.map Evt.enc, noRef d = true := fun d hd => by obtain ⟨e, _, rfl⟩ := List.mem_map.mp hd; simp
theorem recs_odd {rec : List Evt} (h : ∀ e ∈ rec, EvB e) : ∀ d ∈ rec.map Evt.enc, Odd d := fun d hd => by obtain ⟨e, he, rfl⟩ := List.mem_map.mp hd; exact (h e he).odd
theorem odd_ok {ds : List D} (h : ∀ d ∈ ds, Odd d) : ∀ d ∈ ds, OkItem d := fun d hd => (h d hd).1
theorem odd_stp {ds : List D} (h : ∀ d ∈ ds, Odd d) : ∀ d ∈ ds.map stp, OkItem d := fun d hd => by obtain ⟨x, hx, rfl⟩ := List.mem_map.mp hd; exact (h x hx).2
theorem c_told {k : Nat} (hk : 7 ≤ k) {v : D} (h : Tame v) (L : Live) : callW (T.cx k) 200 [v] L = .ok (.bl true) L := by
  rw [callW_pure (by simp [noRefs, h.nr]), s_told k hk L v h]
theorem c_told_live {k : Nat} (hk : 7 ≤ k) {L : Live} {n : Nat} {ds : List D} (h : L[n]? = some (.lst ds)) (ho : ∀ d ∈ ds, OkItem d) (hz : ds.length ≤ 410) : callW (T.cx k) 200 [.ref n] L = .ok (.bl true) L :=
  callW_list h (noRefs_of fun d hd => (ho d hd).nr) (by rw [liv_of T__law_told_right.h]; rfl) rfl rfl fun M => s_told k hk M _ (tame_list ho hz)
theorem c_rec_live {k : Nat} (hk : 5 ≤ k) {L : Live} {n : Nat} {ds : List D} (h : L[n]? = some (.lst ds)) (ho : ∀ d ∈ ds, OkItem d) : callW (T.cx k) 43 [.ref n] L = .ok (.bl (recB (.lst (n + 1) ds))) L :=
  callW_list h (noRefs_of fun d hd => (ho d hd).nr) (by rw [liv_of T_is_record.h]; rfl) rfl rfl fun M => s_is_record_any (T := T) k hk M _ (by simp only [noRef]; exact noRefs_of fun d hd => (ho d hd).nr) fun t' ds' e x hx => by cases e; exact (ho x hx).evt
/-! ### long lists -/
def tap (i : Nat) : Evt := ⟨5, 3, decide (i % 2 = 0)⟩
theorem alt_taps : ∀ (n i : Nat) (d : Int → Bool), d 3 = decide (i % 2 = 1) → Alt d ((List.range' i n).map tap)
  | 0, _, _, _ => trivial
  | n + 1, i, d, h => by
    rw [List.range'_succ, List.map_cons]
    have : i % 2 = 0 ∨ i % 2 = 1 := by omega
    refine ⟨?_, alt_taps n (i + 1) _ ?_⟩
    · show decide (i % 2 = 0) = !(d 3)
      rw [h]
      rcases this with c | c <;> simp [c]
    · show (if (3 : Int) = 3 then decide (i % 2 = 0) else d 3) = _
      rcases this with c | c
      · have : (i + 1) % 2 = 1 := by omega
        simp [c, this]
      · have : ¬ (i + 1) % 2 = 1 := by omega
        simp [c, this]
theorem taps_ok {n : Nat} (h : n ≤ 400) : RecOk none ((List.range n).map tap) where
  n := by simpa using h
  asc := by
    rw [List.pairwise_map]
    exact List.Pairwise.imp (fun _ => Int.le_refl _) (List.nodup_range (n := n))
  key := fun e he => by
    obtain ⟨i, _, rfl⟩ := List.mem_map.mp he
    exact ⟨by show (0 : Int) ≤ 3; decide, fun m hm => by cases hm⟩
  alt := by
    rw [List.range_eq_range']
    exact alt_taps n 0 _ rfl
theorem tap_b (i : Nat) : EvB (tap i) := ⟨by show -(10 ^ 30 : Int) ≤ 5; decide, by show (5 : Int) ≤ 10 ^ 30; decide, by show (0 : Int) ≤ 3; decide, by show (3 : Int) ≤ 10 ^ 31; decide⟩
theorem size_turn (k : Nat) (hk : 7 ≤ k) (L : Live) (n : Nat) (hn : n ≤ 402) (x1 x2 : Option D) :
    ∃ y1 y2, evSs (T.cx k) b__law_sizes_right_1 [some (.int n), x1, x2, none, none] L = .fl .nx [some (.int n), y1, y2, none, none] L := by
  have q2 : MP.sizeOk 2 = true := sizeOk_small (by omega)
  have q3 : MP.sizeOk 3 = true := sizeOk_small (by omega)
  obtain ⟨rec, hrec⟩ : ∃ rec, rec = (List.range n).map tap := ⟨_, rfl⟩
  have lrec : rec.length = n := by rw [hrec]; simp
  have hb : ∀ e ∈ rec, EvB e := fun e he => by rw [hrec] at he; obtain ⟨i, _, rfl⟩ := List.mem_map.mp he; exact tap_b i
  have hodd := recs_odd hb
  have hc : compL [] (.slot 4) [some (.int n), x1, x2, none, none] (fun _ L' => .ok true L') (fun E' L' => evE (T.cx k) b__law_sizes_right_0 E' L') ((List.range n).map fun q => D.int (q : Nat)) [] L = .ok (rec.map Evt.enc) L := by
    have := compL_map (w := []) (g := .slot 4) (E := [some (.int n), x1, x2, none, none]) (c := fun _ L' => .ok true L') (e := fun E' L' => evE (T.cx k) b__law_sizes_right_0 E' L') (f := fun d => match d with | .int i => (tap i.toNat).enc | d => d) (ds := (List.range n).map fun q => D.int (q : Nat)) (L := L) rfl (small_line (by simp; omega)) fun d hd => by
      obtain ⟨i, _, rfl⟩ := List.mem_map.mp hd
      refine ⟨_, rfl, rfl, ?_⟩
      have bm : binD .mod false (.int (i : Int)) (.int 2) L = some (.int ((i % 2 : Nat) : Int), L) := by simp [binD]
      have hi : i % 2 = 0 ∨ i % 2 = 1 := by omega
      have ew : evE (T.cx k) (.idx (.lst false (.cons (.con (.str (Str.ofString "down"))) (.cons (.con (.str (Str.ofString "up"))) .nil))) (.bin .mod false (.var 4) (.con (.int 2)))) [some (.int n), x1, x2, none, some (.int i)] L = .ok (.str (way (decide (i % 2 = 0)))) L := by
        simp only [evE, evA, List.getElem?_cons_succ, List.getElem?_cons_zero, Res.bind_ok, List.length_cons, List.length_nil, Nat.zero_add, Nat.reduceAdd, q2, if_true, newL, Bool.false_eq_true, if_false, opt, bm, optV, idxD, seqOf, lstOf, idxSeq]
        rcases hi with h | h <;> rw [h] <;> rfl
      show evE (T.cx k) b__law_sizes_right_0 [some (.int n), x1, x2, none, some (.int i)] L = _
      rw [b__law_sizes_right_0, evE, evA, evE, Res.bind_ok, evA, evE, Res.bind_ok, evA, ew]
      simp only [Res.bind_ok, evA, List.length_cons, List.length_nil, Nat.zero_add, Nat.reduceAdd, q3, if_true]
      rfl
    rw [this, hrec, List.map_map, List.map_map]
    rfl
  have hok := odd_ok hodd
  have hst := odd_stp hodd
  have c43 : callW (T.cx k) 43 [.lst 0 (rec.map Evt.enc)] L = .ok (.bl (decide (n < 401))) L := by
    rw [callW_pure (by simp [noRefs, noRef, recs_noRef]), s_is_record_any (T := T) k (by omega) L _ (by simp [noRef, recs_noRef]) fun t' ds' e x hx => by cases e; exact (hok x hx).evt]
    congr 2
    by_cases c : n ≤ 400
    · rw [hrec, recB_ok (taps_ok c)]; simp; omega
    · have : ¬ n < 401 := by omega
      simp [recB, lrec, c, this]
  have c201 : callW (T.cx k) 201 [.lst 0 (rec.map Evt.enc)] L = .ok (.lst 0 (rec.map Evt.stp)) L := by
    rw [callW_pure (by simp [noRefs, noRef, recs_noRef]), s_steps k (by omega) L 0 _ (recs_nr rec) (by simp; omega), stp_enc]
  rw [stp_enc] at hst
  have nst : noRefs (rec.map Evt.stp) = true := noRefs_of fun d hd => (hst d hd).nr
  have c44 : callW (T.cx k) 44 [.lst 0 (rec.map Evt.stp)] L = .ok (.bl (decide (n < 401))) L := by
    rw [callW_pure (by simp [noRefs, noRef, nst]), s_is_order_any (T := T) k (by omega) L _ (by simp [noRef, nst]) fun t' ds' e x hx => by cases e; exact (hst x hx).step]
    congr 2
    by_cases c : n ≤ 400
    · rw [hrec, ordB_ok (taps_ok c)]; simp; omega
    · have : ¬ n < 401 := by omega
      simp [ordB, lrec, c, this]
  have lt : cmpD .lt (.int (n : Int)) (.int 401) L = some (decide (n < 401)) := by
    simp only [cmpD, ordI]
    congr 1
    rw [Bool.eq_iff_iff]
    simp; omega
  have ne : ∀ a : Bool, cmpD .ne (.lst 0 [.bl a, .bl a]) (.lst 0 [.bl a, .bl a]) L = some false := fun a => by
    have v : pyOf L (.lst 0 [.bl a, .bl a]) = some (.list [.bool a, .bool a]) := by simp [pyOf, toPy, toPys]
    have sh : SeqAt.shaped (.list [.bool a, .bool a]) = true := by cases a <;> decide +kernel
    have eq : PyData.eqv (.list [.bool a, .bool a]) (.list [.bool a, .bool a]) = true := by cases a <;> decide +kernel
    simp only [cmpD, eqD, scal2, Bool.false_eq_true, if_false, v, sh, eq, Bool.and_self, if_true, Option.map_some]
    rfl
  refine ⟨some (.lst 0 (rec.map Evt.enc)), some (.lst 0 [.bl (decide (n < 401)), .bl (decide (n < 401))]), ?_⟩
  have ei : evI (T.cx k) (.rng1 (.var 0)) [some (.int n), x1, x2, none, none] L = .ok ((List.range n).map fun q => D.int (q : Nat), []) L := evI_rng1n (by rw [evE]; rfl) (by omega)
  have hc' : compL ([] : List (Nat × List D)) (.slot 4) (wipeE [some (.int n), x1, x2, none, none] [3, 4]) (fun E' L' => evC (T.cx k) .nil E' L') (fun E' L' => evE (T.cx k) b__law_sizes_right_0 E' L') ((List.range n).map fun q => D.int (q : Nat)) [] L = .ok (rec.map Evt.enc) L := hc
  generalize decide (n < 401) = a at *
  rw [b__law_sizes_right_1, ss_asg (E' := [some (.int n), some (.lst 0 (rec.map Evt.enc)), x2, none, none]) (d := .lst 0 (rec.map Evt.enc)) (L1 := L) (by rw [evE, ei, Res.bind_ok, hc']; rfl) rfl,
    ss_asg (E' := [some (.int n), some (.lst 0 (rec.map Evt.enc)), some (.lst 0 [.bl a, .bl a]), none, none]) (d := .lst 0 [.bl a, .bl a]) (L1 := L) (by simp [evE, evA, c43, c201, c44, q2, newL, opt]) rfl,
    ss_if_n (L1 := L) (by simp [evT, evE, evA, lt, q2, newL, opt, ne, optV, truD]), ss_nil]
theorem s_sizes (k : Nat) (hk : 8 ≤ k) (L : Live) : (T.cx k).φ 202 [] L = .ok (.bl true) L := by
  obtain ⟨k, rfl⟩ : ∃ m, k = m + 1 := ⟨k - 1, by omega⟩
  obtain ⟨ns, hns⟩ : ∃ ns : List Nat, ns = [0, 399, 400, 401, 402] := ⟨_, rfl⟩
  obtain ⟨E', L', e, x0, x1, x2, rfl, hL⟩ := forL_run (w := []) (g := .slot 0) (b := fun E' L' => evSs (T.cx k) b__law_sizes_right_1 E' L') (ds := ns.map fun n => D.int (n : Nat))
    (fun i E' L' => ∃ x0 x1 x2, E' = [x0, x1, x2, none, none] ∧ L' = L) (fun _ _ _ _ => rfl) (fun i E' L' hi hI => by
      obtain ⟨x0, x1, x2, rfl, rfl⟩ := hI
      have hi' : i < ns.length := by simpa using hi
      obtain ⟨y1, y2, e⟩ := size_turn k (by omega) L' ns[i] (by
        have hm := List.getElem_mem hi'
        generalize ns[i] = z at *
        rw [hns] at hm
        simp only [List.mem_cons, List.not_mem_nil, or_false] at hm
        omega) x1 x2
      rw [List.getElem_map]
      exact ⟨_, _, _, rfl, .inl e, _, y1, y2, rfl, rfl⟩)
    (E := [none, none, none, none, none]) (L := L) ⟨none, none, none, rfl, rfl⟩
  rw [hL] at e
  have q5 : MP.sizeOk 5 = true := sizeOk_small (by omega)
  have em : (ns.map fun n => D.int (n : Nat)) = [.int 0, .int 399, .int 400, .int 401, .int 402] := by rw [hns]; rfl
  rw [em] at e
  rw [goH 202 rfl rfl]
  show resOf (evSs (T.cx k) b__law_sizes_right [none, none, none, none, none] L) = _
  rw [b__law_sizes_right, ss_for (w := []) (ds := [.int 0, .int 399, .int 400, .int 401, .int 402]) (L1 := L) (by simp [evI, evE, evA, q5, newL, opt, itemsOf, seqOf, lstOf, optV, watch]) e, ss_ret (d := .bl true) (L1 := L) (by simp [evE])]
  rfl
end Law_k05
set_option maxHeartbeats 2000000
namespace Law_k05
open PySem hiding Act
open PySem.Spec PyProof.Rows L2 MP PB
theorem recF_none {many : Option Int} : ∀ {ds : List D} {dn : Int → Bool} {prev : Option Int} {n : Nat}, recF many dn prev n ds = none → ∀ d ∈ ds, ∃ t i b, d = .tup [.int t, .int i, .str (way b)]
  | [], _, _, _, _, d, h => by cases h
  | d0 :: ds, dn, prev, n, hr, d, h => by
    simp only [recF] at hr
    cases q : evtT d0 with
    | none => rw [q] at hr; cases hr
    | some t =>
      rw [q] at hr
      simp only at hr
      split at hr
      · cases hr
      · cases qs : stepF many dn (tl d0) with
        | none => rw [qs] at hr; cases hr
        | some ib =>
          rw [qs] at hr
          obtain ⟨y, w, rfl⟩ := evt_shape q
          obtain ⟨e1, _, _⟩ := step_shape (i := ib.1) (b := ib.2) qs
          simp only [tl, D.tup.injEq, List.cons.injEq, and_true] at e1
          rcases List.mem_cons.mp h with rfl | h
          · exact ⟨t, ib.1, ib.2, by rw [e1.1, e1.2]⟩
          · exact recF_none hr d h
def stt (L : Live) (n : Nat) (x told : List D) : Live := L.set n (.lst x) ++ [.lst told]
theorem stt_n {L : Live} {n : Nat} (h : n < L.length) (x told : List D) : (stt L n x told)[n]? = some (.lst x) := by
  unfold stt
  rw [List.getElem?_append_left (by simpa using h), List.getElem?_set_self h]
theorem stt_m (L : Live) (n : Nat) (x told : List D) : (stt L n x told)[L.length]? = some (.lst told) := by
  unfold stt
  rw [List.getElem?_append_right (by simp)]
  simp
theorem stt_set_n {L : Live} {n : Nat} (h : n < L.length) (x told y : List D) : (stt L n x told).set n (.lst y) = stt L n y told := by
  unfold stt
  rw [List.set_append_left _ _ (by simpa using h), List.set_set]
theorem stt_set_m (L : Live) (n : Nat) (x told y : List D) : (stt L n x told).set L.length (.lst y) = stt L n x y := by
  unfold stt
  rw [List.set_append_right _ _ (by simp)]
  simp
theorem s_changed (k : Nat) (hk : 8 ≤ k) (L : Live) (n : Nat) (rec : List Evt) (many : Option Int) (h : L[n]? = some (.lst (rec.map Evt.enc))) (ok : RecOk many rec) (hb : ∀ e ∈ rec, EvB e) :
    ∃ L', (T.cx k).φ 203 [.ref n] L = .ok (.bl true) L' ∧ L'.length = L.length + 1 ∧ ∀ j, j < L.length → j ≠ n → L'[j]? = L[j]? := by
  obtain ⟨k, rfl⟩ : ∃ m, k = m + 1 := ⟨k - 1, by omega⟩
  have hn : n < L.length := (List.getElem?_eq_some_iff.mp h).1
  have e0 : L ++ [LO.lst [.bl true]] = stt L n (rec.map Evt.enc) [.bl true] := by
    unfold stt; rw [set_self h]
  have q1 : MP.sizeOk 1 = true := sizeOk_small (by omega)
  have q3 : MP.sizeOk 3 = true := sizeOk_small (by omega)
  have hz := ok.n
  have hok := odd_ok (recs_odd hb)
  obtain ⟨M15, p15, v15⟩ := e_power 10 15 (by decide)
  obtain ⟨M12, p12, v12⟩ := e_power 10 12 (by decide)
  have b15 : 0 ≤ M15 ∧ M15 ≤ 10 ^ 15 := by rw [v15]; exact ⟨by decide, by decide⟩
  have b12 : 0 ≤ M12 ∧ M12 ≤ 10 ^ 12 := by rw [v12]; exact ⟨by decide, by decide⟩
  clear v15 v12
  obtain ⟨bad, hbad⟩ : ∃ bad, bad = D.tup [.int (M15 + M12), .int 5, .str (Str.ofString "Down")] := ⟨_, rfl⟩
  have obad : OkItem bad := by
    rw [hbad]
    exact ok3 (sm_int (by omega)) (sm_int (by decide)) (sm_str (by decide +kernel)) (wflat rfl) (fun t e => by cases e; omega) (fun k e => by cases e; decide)
  have hok2 : ∀ d ∈ rec.map Evt.enc ++ [bad], OkItem d := fun d hd => by
    rcases List.mem_append.mp hd with hd | hd
    · exact hok d hd
    · rw [List.mem_singleton.mp hd]; exact obad
  have rbad : ∀ t, recB (.lst t (rec.map Evt.enc ++ [bad])) = false := fun t => by
    simp only [recB, Bool.and_eq_false_iff]
    refine .inr ?_
    cases q : recF none (fun _ => false) none 0 (rec.map Evt.enc ++ [bad]) with
    | some j => rfl
    | none =>
      obtain ⟨t, i, b, e⟩ := recF_none q bad (by simp)
      rw [hbad] at e
      simp only [D.tup.injEq, List.cons.injEq, and_true, D.str.injEq] at e
      have := e.2.2
      exfalso
      revert this
      cases b <;> decide
  have c1 := c_rec_live (k := k) (by omega) h hok
  rw [recB_ok ok] at c1
  have c2 := c_rec_live (k := k) (by omega) (stt_n hn (rec.map Evt.enc ++ [bad]) [.bl true]) hok2
  rw [rbad] at c2
  have c3 := c_rec_live (k := k) (by omega) (stt_n hn (rec.map Evt.enc) [.bl true, .bl false]) hok
  rw [recB_ok ok] at c3
  have orev : ∀ d ∈ (rec.map Evt.enc).reverse, OkItem d := fun d hd => hok d (List.mem_reverse.mp hd)
  have c4 := c_told_live (k := k) (by omega) (stt_n hn (rec.map Evt.enc).reverse [.bl true, .bl false, .bl true]) orev (by simp; omega)
  have eqt : cmpD .eq (.ref L.length) (.lst 0 [.bl true, .bl false, .bl true]) (stt L n (rec.map Evt.enc).reverse [.bl true, .bl false, .bl true]) = some true := by
    have v1 : pyOf (stt L n (rec.map Evt.enc).reverse [.bl true, .bl false, .bl true]) (.ref L.length) = some (.list [.bool true, .bool false, .bool true]) := by
      simp only [pyOf, toPy]
      rw [MP.view, stt_m]
      simp [mapO, MP.view, toPy]
    have v2 : pyOf (stt L n (rec.map Evt.enc).reverse [.bl true, .bl false, .bl true]) (.lst 0 [.bl true, .bl false, .bl true]) = some (.list [.bool true, .bool false, .bool true]) := by simp [pyOf, toPy, toPys]
    have sh : SeqAt.shaped (.list [.bool true, .bool false, .bool true]) = true := by decide +kernel
    have eq : PyData.eqv (.list [.bool true, .bool false, .bool true]) (.list [.bool true, .bool false, .bool true]) = true := by decide +kernel
    simp only [cmpD, eqD, scal2, Bool.false_eq_true, if_false, v1, v2, sh, eq, Bool.and_self, if_true]
  refine ⟨stt L n (rec.map Evt.enc).reverse [.bl true, .bl false, .bl true], ?_, by simp [stt], fun j hj hjn => by
    unfold stt
    rw [List.getElem?_append_left (by simpa using hj), List.getElem?_set_ne (fun z => hjn z.symm)]⟩
  rw [goH 203 rfl rfl]
  show resOf (evSs (T.cx k) b__law_changed_right [some (.ref n), none] L) = _
  have s1 : evE (T.cx k) (.lst true (.cons (.call 43 (.cons (.var 0) .nil)) .nil)) [some (.ref n), none] L = .ok (.ref L.length) (stt L n (rec.map Evt.enc) [.bl true]) := by
    rw [← e0]
    simp [evE, evA, c1, q1, newL, opt]
  have ebad : evE (T.cx k) (.tup (.cons (.bin .add false (.bin .pow false (.con (.int 10)) (.con (.int 15))) (.bin .pow false (.con (.int 10)) (.con (.int 12)))) (.cons (.con (.int 5)) (.cons (.con (.str (Str.ofString "Down"))) .nil)))) [some (.ref n), some (.ref L.length)] (stt L n (rec.map Evt.enc) [.bl true]) = .ok bad (stt L n (rec.map Evt.enc) [.bl true]) := by
    have ea : ∀ E M, evE (T.cx k) (.bin .add false (.bin .pow false (.con (.int 10)) (.con (.int 15))) (.bin .pow false (.con (.int 10)) (.con (.int 12)))) E M = .ok (.int (M15 + M12)) M := fun E M => by
      rw [evE, p15, Res.bind_ok, p12, Res.bind_ok]; rfl
    rw [evE, evA, ea, Res.bind_ok, evA, evE, Res.bind_ok, evA, evE, Res.bind_ok, evA, hbad]
    simp only [Res.bind_ok, List.length_cons, List.length_nil, Nat.zero_add, Nat.reduceAdd, q3, if_true]
  have d2 := app_lst (stt_n hn (rec.map Evt.enc) [.bl true]) (by simp; omega) bad
  rw [stt_set_n hn] at d2
  have d3 := app_lst (stt_m L n (rec.map Evt.enc ++ [bad]) [.bl true]) (by simp) (.bl false)
  rw [stt_set_m] at d3
  have d4 : mthD .pop (.ref n) [] (stt L n (rec.map Evt.enc ++ [bad]) [.bl true, .bl false]) = some (bad, stt L n (rec.map Evt.enc) [.bl true, .bl false]) := by
    simp only [mthD, stt_n hn, List.getLast?_append, List.getLast?_singleton, Option.some_or, List.dropLast_concat]
    rw [stt_set_n hn]
  have d5 := app_lst (stt_m L n (rec.map Evt.enc) [.bl true, .bl false]) (by simp) (.bl true)
  rw [stt_set_m] at d5
  have d6 : mthD .reverse (.ref n) [] (stt L n (rec.map Evt.enc) [.bl true, .bl false, .bl true]) = some (.non, stt L n (rec.map Evt.enc).reverse [.bl true, .bl false, .bl true]) := by
    simp only [mthD, stt_n hn]
    rw [stt_set_n hn]
  have m2 := mt_lst (stt_n hn (rec.map Evt.enc) [.bl true]) (m := .append) (by simp)
  have m3 := mt_lst (stt_m L n (rec.map Evt.enc ++ [bad]) [.bl true]) (m := .append) (by simp)
  have m4 := mt_lst (stt_n hn (rec.map Evt.enc ++ [bad]) [.bl true, .bl false]) (m := .pop) (by simp)
  have m5 := mt_lst (stt_m L n (rec.map Evt.enc) [.bl true, .bl false]) (m := .append) (by simp)
  have m6 := mt_lst (stt_n hn (rec.map Evt.enc) [.bl true, .bl false, .bl true]) (m := .reverse) (by simp)
  simp only [List.cons_append, List.nil_append] at d3 d5
  rw [b__law_changed_right, ss_asg (E' := [some (.ref n), some (.ref L.length)]) s1 rfl,
    ss_ex (d := .non) (L1 := stt L n (rec.map Evt.enc ++ [bad]) [.bl true]) (by
      rw [evE, evE]
      simp only [List.getElem?_cons_zero, Res.bind_ok, m2]
      rw [evA, ebad]
      simp only [Res.bind_ok, evA, m2, if_true, d2, opt]),
    ss_ex (d := .non) (L1 := stt L n (rec.map Evt.enc ++ [bad]) [.bl true, .bl false]) (by simp [evE, evA, m3, c2, d3, opt]),
    ss_ex (d := bad) (L1 := stt L n (rec.map Evt.enc) [.bl true, .bl false]) (by simp [evE, evA, m4, d4, opt]),
    ss_ex (d := .non) (L1 := stt L n (rec.map Evt.enc) [.bl true, .bl false, .bl true]) (by simp [evE, evA, m5, c3, d5, opt]),
    ss_ex (d := .non) (L1 := stt L n (rec.map Evt.enc).reverse [.bl true, .bl false, .bl true]) (by simp [evE, evA, m6, d6, opt]),
    ss_ret (d := .bl true) (L1 := stt L n (rec.map Evt.enc).reverse [.bl true, .bl false, .bl true]) (by simp [evE, evA, q3, newL, opt, eqt, optV, truD, c4])]
  rfl
/-! ### keys that are great -/
def big (M : Int) (e : Evt) : Evt := ⟨e.tick, e.key * M + 7, e.dn⟩
theorem alt_big {M : Int} (hM : 0 < M) : ∀ {rec : List Evt} {d d' : Int → Bool}, (∀ x, d x = d' (x * M + 7)) → Alt d rec → Alt d' (rec.map (big M))
  | [], _, _, _, _ => trivial
  | e :: rec, d, d', h, ha => by
    refine ⟨by show e.dn = !(d' (e.key * M + 7)); rw [← h]; exact ha.1, alt_big hM (fun x => ?_) ha.2⟩
    show (if x = e.key then e.dn else d x) = if x * M + 7 = e.key * M + 7 then e.dn else d' (x * M + 7)
    by_cases c : x = e.key
    · simp [c]
    · have : ¬ x * M + 7 = e.key * M + 7 := fun z => c (Int.eq_of_mul_eq_mul_right (by omega) (by omega : x * M = e.key * M))
      rw [if_neg c, if_neg this, h]
theorem big_ok {M : Int} (hM : 0 < M) {many : Option Int} {rec : List Evt} (h : RecOk many rec) : RecOk none (rec.map (big M)) where
  n := by simpa using h.n
  asc := by rw [List.pairwise_map]; exact h.asc
  key := fun e he => by
    obtain ⟨x, hx, rfl⟩ := List.mem_map.mp he
    have h0 := (h.key x hx).1
    have : 0 ≤ x.key * M := Int.mul_nonneg h0 (by omega)
    exact ⟨by show 0 ≤ x.key * M + 7; omega, fun m hm => by cases hm⟩
  alt := alt_big hM (fun _ => rfl) h.alt
theorem callW_listM {c : Cxt} {f : Nat} {L : Live} {n : Nat} {ds args : List D} {d : D} (h : L[n]? = some (.lst ds)) (hn : noRefs ds = true) (hl : (c.liv f).headD false = false) (ha : noRefs args = true) (hd : noTag d = true)
    (h3 : c.φ f (.lst (n + 1) ds :: args) (maskL [n] L) = .ok d (maskL [n] L)) : callW c f (.ref n :: args) L = .ok d L := by
  have := callW_lend (c := c) (f := f) (L := L) (X := []) (i := n) (ids := []) (ds := .ref n :: args) (es := .lst (n + 1) ds :: args) (d := d) ?_ ?_ ?_ (by simp) hd (by rw [h3, List.append_nil])
  · rw [List.append_nil] at this; exact this
  · simp only [idsAs, hl, Bool.false_eq_true, if_false, idsF_list (m := 11) h hn, idsAs_noRef L _ args ha, List.append_nil]
  · simp only [lendAs, hl, Bool.false_eq_true, if_false, lendF_list (m := 10) h hn, lendAs_noRef L _ args ha]
  · intro j hj
    rw [List.mem_singleton.mp hj]
    exact (List.getElem?_eq_some_iff.mp h).1
/-- [rec], lent -/
theorem callW_box {c : Cxt} {f : Nat} {L : Live} {n : Nat} {ds : List D} {d : D} (h : L[n]? = some (.lst ds)) (hn : noRefs ds = true) (hl : (c.liv f).headD false = false) (hd : noTag d = true)
    (h3 : ∀ M : Live, c.φ f [.lst 0 [.lst (n + 1) ds]] M = .ok d M) : callW c f [.lst 0 [.ref n]] L = .ok d L := by
  have := callW_lend (c := c) (f := f) (L := L) (X := []) (i := n) (ids := []) (ds := [.lst 0 [.ref n]]) (es := [.lst 0 [.lst (n + 1) ds]]) (d := d) ?_ ?_ ?_ (by simp) hd (by rw [h3, List.append_nil])
  · rw [List.append_nil] at this; exact this
  · simp only [idsAs, hl, Bool.false_eq_true, if_false]
    rw [idsF]
    simp only [noRef, noRefs, Bool.false_and, Bool.false_eq_true, if_false, List.flatMap_cons, List.flatMap_nil, List.append_nil, idsF_list (m := 10) h hn]
  · simp only [lendAs, hl, Bool.false_eq_true, if_false]
    rw [lendF]
    simp only [noRef, noRefs, Bool.false_and, Bool.false_eq_true, if_false, mapO, lendF_list (m := 9) h hn, Option.map_some]
  · intro j hj
    rw [List.mem_singleton.mp hj]
    exact (List.getElem?_eq_some_iff.mp h).1
theorem psz_evt {e : Evt} (h : EvB e) : psz (pyE e) ≤ 200 ∧ (pyE e).showable = true ∧ (pyE e).depth ≤ 1 := by
  obtain ⟨h1, h2, h3, h4⟩ := h
  have a := int_len (i := e.tick) (k := 40) (by decide) (by omega)
  have b := int_len (i := e.key) (k := 40) (by decide) (by omega)
  have c : psz (.str (way e.dn)) ≤ 10 := by cases e.dn <;> decide +kernel
  have lg : ∀ i : Int, i.natAbs < 10 ^ 40 → (PyData.int i).showable = true := fun i h => by
    simp only [PyData.showable, decide_eq_true_eq]
    by_cases h0 : i.natAbs = 0
    · rw [h0]; decide
    · exact Nat.lt_of_lt_of_le ((Nat.log2_lt h0).2 (Nat.lt_of_lt_of_le h (show 10 ^ 40 ≤ 2 ^ 200 by decide))) (by decide)
  have d := lg e.tick (by omega)
  have f := lg e.key (by omega)
  refine ⟨by simp only [pyE, psz, pszs] at *; omega, ?_, by simp [pyE, PyData.depth, PyData.depthAll]⟩
  simp only [pyE, PyData.showable, PyData.showableAll] at d f ⊢
  rw [d, f]; rfl
theorem recs_sz {rec : List Evt} (h : ∀ e ∈ rec, EvB e) (hz : rec.length ≤ 402) : pszs (rec.map pyE) ≤ 402 * 202 ∧ PyData.showableAll (rec.map pyE) = true ∧ PyData.depthAll (rec.map pyE) ≤ 1 := by
  have s1 := pszs_le (xs := rec.map pyE) (m := 200) fun p hp => by obtain ⟨e, he, rfl⟩ := List.mem_map.mp hp; exact (psz_evt (h e he)).1
  rw [List.length_map] at s1
  have s2 : rec.length * (200 + 2) ≤ 402 * 202 := Nat.mul_le_mul_right _ hz
  exact ⟨by omega, MP.showableAll_of fun p hp => by obtain ⟨e, he, rfl⟩ := List.mem_map.mp hp; exact (psz_evt (h e he)).2.1, depthAll_le fun p hp => by obtain ⟨e, he, rfl⟩ := List.mem_map.mp hp; exact (psz_evt (h e he)).2.2⟩
theorem tame_sm {d : D} (h : Sm d) (hl : ∀ t ds, d ≠ .lst t ds) : Tame d where
  nr := h.nr
  rep := by
    obtain ⟨p, h1, h2, h3, h4⟩ := h.ex
    exact ⟨p.shown, fun L => repr_okX (pyX_of (h1 L 8)) h2 (by omega) (by omega)⟩
  it := fun t ds e => absurd e (hl t ds)
theorem tame_tup {rec : List Evt} (h : ∀ e ∈ rec, EvB e) (hz : rec.length ≤ 402) : Tame (.tup (rec.map Evt.enc)) where
  nr := by simp [noRef, recs_noRef]
  rep := by
    obtain ⟨s1, s2, s3⟩ := recs_sz h hz
    exact ⟨(PyData.tuple (rec.map pyE)).shown, fun L => PB.repr_ok (by simp [pyOf, toPy, toPys_recs]) (by simpa [PyData.showable] using s2) (by simp only [psz]; omega) (by simp only [PyData.depth]; omega)⟩
  it := fun t ds e => by cases e
theorem tame_box {n : Nat} {rec : List Evt} (h : ∀ e ∈ rec, EvB e) (hz : rec.length ≤ 402) : Tame (.lst 0 [.lst n (rec.map Evt.enc)]) where
  nr := by simp [noRef, noRefs, recs_noRef]
  rep := by
    obtain ⟨s1, s2, s3⟩ := recs_sz h hz
    exact ⟨(PyData.list [.list (rec.map pyE)]).shown, fun L => PB.repr_ok (by simp [pyOf, toPy, toPys, toPys_recs]) (by simpa [PyData.showable, PyData.showableAll] using s2) (by simp only [psz, pszs]; omega) (by simp only [PyData.depth, PyData.depthAll]; omega)⟩
  it := fun t ds e x hx => by cases e; rw [List.mem_singleton.mp hx]; exact core_list (recs_noRef rec)
/-- behind the record: one turn -/
theorem rest_ok {k : Nat} (hk : 9 ≤ k) {L : Live} {p m n : Nat} (hP : Pool L p m) (hm : m + 100 ≤ 10 ^ 9) (hpn : p ≠ n) (rec : List Evt) (many : Option Int) (h : L[n]? = some (.lst (rec.map Evt.enc))) (ok : RecOk many rec) (hz : rec.length ≤ 200) (hb : ∀ e ∈ rec, EvB e) (tn : Nat) (htn : tn < 2)
    (x0 x1 x4 x5 x7 x8 x9 x10 x11 x12 x13 x14 x15 x16 : Option D) :
    ∃ L' y7 y8 y9 y10 y11 y12 y13 y14, evSs (T.cx k) (.cons (.ite (.or (.cmp .isn (.call 43 (.cons (.var 6) .nil)) (.con (.bl true))) (.cmp .isn (.call 44 (.cons (.call 201 (.cons (.var 6) .nil)) .nil)) (.con (.bl true)))) (.cons (.ret (.con (.bl false))) .nil) .nil) (.cons (.asg (.nm (.slot 10)) (.call 101 (.cons (.var 2) (.cons (.bin .add false (.blt .len false (.cons (.var 6) .nil)) (.con (.int 1))) .nil)))) (.cons (.asg (.nm (.slot 8)) (.ite (.cmp .ne (.var 6) (.lst false .nil)) (.idx (.idx (.var 6) (.call 101 (.cons (.var 2) (.cons (.blt .len false (.cons (.var 6) .nil)) .nil)))) (.con (.int 1))) (.con (.int 0)))) (.cons (.asg (.nm (.tup [(.slot 7), (.slot 8), (.slot 9)])) (.call 125 (.cons (.var 6) (.cons (.var 10) (.cons (.var 8) .nil))))) (.cons (.asg (.nm (.slot 11)) (.bin .add false (.call 124 (.cons (.var 7) (.cons (.var 8) (.cons (.var 9) .nil)))) (.lst false (.cons (.tup (.cons (.var 7) (.cons (.var 8) (.cons (.var 9) .nil)))) .nil)))) (.cons (.ite (.cmp .eq (.var 3) (.con (.int 1))) (.cons (.asg (.nm (.slot 11)) (.comp false [15, 16] (.slot 16) (.rng1 (.con (.int 5))) .nil b_law_1)) .nil) .nil) (.cons (.for_ (.slot 12) (.val (.var 11)) b_law_2) (.cons (.for_ (.slot 14) (.val (.lst false (.cons (.con .non) (.cons (.con (.int 0)) (.cons (.con (.bl true)) (.cons (.con (.str (Str.ofString ""))) (.cons (.con (.str (Str.ofString "down"))) (.cons (.tup .nil) (.cons (.dct [] .nil) (.cons (.blt .tuple false (.cons (.var 6) .nil)) (.cons (.lst false (.cons (.var 6) .nil)) (.cons (.lst false (.cons (.con .non) .nil)) (.cons (.lst false (.cons (.lst false .nil) .nil)) (.cons (.rev false (.var 6)) .nil)))))))))))))) b_law_3) (.cons (.ite (.or (.not (.call 200 (.cons (.slc false (.var 6) (.con (.int 1)) (.con .non)) .nil))) (.not (.call 200 (.cons (.bin .add false (.var 6) (.slc false (.var 6) (.con .non) (.con (.int 1)))) .nil)))) (.cons (.ret (.con (.bl false))) .nil) .nil) (.cons (.ite (.not (.call 203 (.cons (.var 6) .nil))) (.cons (.ret (.con (.bl false))) .nil) .nil) .nil)))))))))) [x0, x1, some (.ref p), some (.int tn), x4, x5, some (.ref n), x7, x8, x9, x10, x11, x12, x13, x14, x15, x16] L = .fl .nx [x0, x1, some (.ref p), some (.int tn), x4, x5, some (.ref n), y7, y8, y9, y10, y11, y12, y13, y14, x15, x16] L' ∧ Pool L' p (m + 100) := by
  have hok := odd_ok (recs_odd hb)
  have hst := odd_stp (recs_odd hb)
  rw [stp_enc] at hst
  have q0 : MP.sizeOk 0 = true := sizeOk_small (by omega)
  have q1 : MP.sizeOk 1 = true := sizeOk_small (by omega)
  have q3 : MP.sizeOk 3 = true := sizeOk_small (by omega)
  have c43 : ∀ {M : Live}, M[n]? = some (.lst (rec.map Evt.enc)) → callW (T.cx k) 43 [.ref n] M = .ok (.bl true) M := fun {M} hM => by
    have := c_rec_live (k := k) (by omega) hM hok
    rwa [recB_ok ok] at this
  have nst : noRefs (rec.map Evt.stp) = true := noRefs_of fun d hd => (hst d hd).nr
  have tst : noTags (rec.map Evt.stp) = true := noTags_of fun d hd => (hst d hd).nt
  have c201 : ∀ {M : Live}, M[n]? = some (.lst (rec.map Evt.enc)) → callW (T.cx k) 201 [.ref n] M = .ok (.lst 0 (rec.map Evt.stp)) M := fun {M} hM =>
    callW_list hM (recs_noRef rec) (by rw [liv_of T__law_steps.h]; rfl) rfl (by simp [noTag, tst]) fun M' => by rw [s_steps k (by omega) M' _ _ (recs_nr rec) (by simp; omega), stp_enc]
  have c44 : ∀ M : Live, callW (T.cx k) 44 [.lst 0 (rec.map Evt.stp)] M = .ok (.bl true) M := fun M => by
    rw [callW_pure (by simp [noRefs, noRef, nst]), s_is_order_any (T := T) k (by omega) M _ (by simp [noRef, nst]) fun t' ds' e x hx => by cases e; exact (hst x hx).step, ordB_ok ok]
  -- the place
  obtain ⟨a, L1, e1, r1, s1, n1, a0, a1⟩ := spinP (T := T) (k := k) (by omega) hP (by omega) ((rec.length : Int) + 1) (by omega) (by omega)
  have hn : n < L.length := (List.getElem?_eq_some_iff.mp h).1
  have h1 : L1[n]? = some (.lst (rec.map Evt.enc)) := by rw [s1.2 n hn (fun z => hpn z.symm)]; exact h
  obtain ⟨a', rfl⟩ : ∃ w : Nat, a = w := ⟨a.toNat, by omega⟩
  have ln : ∀ {M : Live}, M[n]? = some (.lst (rec.map Evt.enc)) → lenD M (.ref n) = some (rec.length : Int) := fun {M} hM => by simp [lenD, seqOf, lstOf, hM]
  -- the key
  obtain ⟨key, L2, e2, r2, s2, n2, k0, k1⟩ : ∃ (key : Int) (L2 : Live), evE (T.cx k) (.ite (.cmp .ne (.var 6) (.lst false .nil)) (.idx (.idx (.var 6) (.call 101 (.cons (.var 2) (.cons (.blt .len false (.cons (.var 6) .nil)) .nil)))) (.con (.int 1))) (.con (.int 0))) [x0, x1, some (.ref p), some (.int tn), x4, x5, some (.ref n), x7, x8, x9, some (.int a'), x11, x12, x13, x14, x15, x16] L1 = .ok (.int key) L2 ∧ Pool L2 p (m + 2) ∧ Same p L1 L2 ∧ L2.length = L1.length ∧ 0 ≤ key ∧ key ≤ 10 ^ 31 := by
    have nn := ne_nil_rec (d := .ref n) (py_live h1) rfl
    have enn : evE (T.cx k) (.cmp .ne (.var 6) (.lst false .nil)) [x0, x1, some (.ref p), some (.int tn), x4, x5, some (.ref n), x7, x8, x9, some (.int a'), x11, x12, x13, x14, x15, x16] L1 = .ok (.bl (!rec.isEmpty)) L1 := by simp [evE, evA, q0, newL, opt, nn, optV]
    by_cases c : rec = []
    · have c' : (!rec.isEmpty) = false := by simp [c]
      rw [c'] at enn
      refine ⟨0, L1, ?_, r1.mono (by omega), Same.refl _ _, rfl, by decide, by decide⟩
      rw [evE, enn]
      simp [truD, optV, evE]
    · have c' : (!rec.isEmpty) = true := by simp [c]
      rw [c'] at enn
      have hl : 0 < rec.length := List.length_pos_iff.mpr c
      obtain ⟨v, L2, e2, r2, s2, n2, v0, v1⟩ := spinP (T := T) (k := k) (by omega) r1 (by omega) (rec.length : Int) (by omega) (by omega)
      obtain ⟨v', rfl⟩ : ∃ w : Nat, v = w := ⟨v.toNat, by omega⟩
      have hv : v' < rec.length := by omega
      have h2 : L2[n]? = some (.lst (rec.map Evt.enc)) := by rw [s2.2 n (by omega) (fun z => hpn z.symm)]; exact h1
      have ix : idxD (.ref n) (.int v') L2 = some rec[v'].enc := by
        simp only [idxD, seqOf, lstOf, h2, idxSeq]
        rw [atI_nat (v := rec[v'].enc)]
        simp [hv]
      have bv := hb _ (List.getElem_mem hv)
      refine ⟨rec[v'].key, L2, ?_, r2.mono (by omega), s2, n2, bv.k1, bv.k2⟩
      rw [evE, enn]
      simp [truD, optV, evE, evA, bltD, ln h1, opt, e2, ix, enc1]
  have h2 : L2[n]? = some (.lst (rec.map Evt.enc)) := by rw [s2.2 n (by omega) (fun z => hpn z.symm)]; exact h1
  -- the next event
  obtain ⟨ev, f1, f2, f3, f4⟩ : ∃ ev : Evt, callW (T.cx k) 125 [.ref n, .int a', .int key] L2 = .ok ev.enc L2 ∧ ev.key = key ∧ -(10 ^ 30) ≤ ev.tick ∧ ev.tick ≤ 10 ^ 30 := by
    obtain ⟨ev, g1, g2, g3, g4⟩ := s_next (T := T) k (by omega) (maskL [n] L2) (n + 1) rec a' (by omega) (by omega) key (10 ^ 30) (by decide) fun e he => ⟨(hb e he).t1, (hb e he).t2⟩
    exact ⟨ev, callW_listM h2 (recs_noRef rec) (by rw [liv_of T__law_next_event.h]; rfl) rfl (by simp) g1, g2, g3, g4⟩
  have evb : EvB ev := ⟨f3, f4, by omega, by omega⟩
  obtain ⟨odds, o1, o2, o3, o4⟩ : ∃ ds, callW (T.cx k) 124 [.int ev.tick, .int ev.key, .str (way ev.dn)] L2 = .ok (.lst 0 ds) L2 ∧ (∀ d ∈ ds, Odd d) ∧ 0 < ds.length ∧ ds.length ≤ 50 := by
    obtain ⟨ds, g1, g2⟩ := s_odd (T := T) k (by omega) L2 ev evb
    exact ⟨ds, by rw [callW_pure rfl, g1], g2⟩
  have way2 : ev.enc = .tup [.int ev.tick, .int ev.key, .str (way ev.dn)] := rfl
  obtain ⟨S0, hS0⟩ : ∃ S0, S0 = odds ++ [ev.enc] := ⟨_, rfl⟩
  have oS0 : ∀ d ∈ S0, Odd d := fun d hd => by
    rw [hS0] at hd
    rcases List.mem_append.mp hd with hd | hd
    · exact o2 d hd
    · rw [List.mem_singleton.mp hd]; exact evb.odd
  have lS0 : S0.length = odds.length + 1 := by rw [hS0]; simp
  -- the odd items that are tried
  obtain ⟨S, L3, e3, r3, s3, n3, oS, lS⟩ : ∃ (S : List D) (L3 : Live), evSs (T.cx k) (.cons (.ite (.cmp .eq (.var 3) (.con (.int 1))) (.cons (.asg (.nm (.slot 11)) (.comp false [15, 16] (.slot 16) (.rng1 (.con (.int 5))) .nil b_law_1)) .nil) .nil) .nil) [x0, x1, some (.ref p), some (.int tn), x4, x5, some (.ref n), some (.int ev.tick), some (.int ev.key), some (.str (way ev.dn)), some (.int a'), some (.lst 0 S0), x12, x13, x14, x15, x16] L2 = .fl .nx [x0, x1, some (.ref p), some (.int tn), x4, x5, some (.ref n), some (.int ev.tick), some (.int ev.key), some (.str (way ev.dn)), some (.int a'), some (.lst 0 S), x12, x13, x14, x15, x16] L3 ∧ Pool L3 p (m + 20) ∧ Same p L2 L3 ∧ L3.length = L2.length ∧ (∀ d ∈ S, Odd d) ∧ S.length ≤ 60 := by
    have et : cmpD .eq (.int (tn : Int)) (.int 1) L2 = some (decide (tn = 1)) := by
      simp only [cmpD, eqD, scal2, eqS, if_true]
      congr 1
      rw [Bool.eq_iff_iff]
      simp; omega
    by_cases c : tn = 1
    · obtain ⟨vs, L3, g0, g1, g2, g3, g4, g5⟩ := compL_drawsP (g := .slot 16) (E := [x0, x1, some (.ref p), some (.int tn), x4, x5, some (.ref n), some (.int ev.tick), some (.int ev.key), some (.str (way ev.dn)), some (.int a'), some (.lst 0 S0), x12, x13, x14, none, none]) (e := fun E' L' => evE (T.cx k) b_law_1 E' L') (ds := (List.range 5).map fun q => D.int (q : Nat)) (L := L2) (p := p) (b := 1) (post := Odd) (small_line (by simp)) (fun d hd m2 M hm2 hP2 => by
          obtain ⟨v, M2, e2, r2, s2, n2, v0, v1⟩ := spinP (T := T) (k := k) (by omega) hP2 hm2 (S0.length : Int) (by omega) (by omega)
          obtain ⟨v', rfl⟩ : ∃ w : Nat, v = w := ⟨v.toNat, by omega⟩
          have hv : v' < S0.length := by omega
          have ix : idxD (.lst 0 S0) (.int v') M2 = some S0[v'] := by
            simp only [idxD, seqOf, lstOf, idxSeq]
            rw [atI_nat (v := S0[v'])]
            simp [hv]
          have lg : lenD M (.lst 0 S0) = some (S0.length : Int) := by simp [lenD, seqOf, lstOf]
          exact ⟨_, S0[v'], M2, rfl, by simp [b_law_1, evE, evA, bltD, lg, opt, e2, ix, optV], r2, s2, n2, oS0 _ (List.getElem_mem hv)⟩) (m := m + 2) (by simp; omega) r2
      refine ⟨vs, L3, ?_, g1.mono (by simp), g2, g3, g5, by simp at g4; omega⟩
      have r5 : rng1D (.int 5) = some ((List.range 5).map fun q => D.int (q : Nat)) := rng1_nat (n := 5) (by omega) (by omega)
      have ei : evI (T.cx k) (.rng1 (.con (.int 5))) [x0, x1, some (.ref p), some (.int tn), x4, x5, some (.ref n), some (.int ev.tick), some (.int ev.key), some (.str (way ev.dn)), some (.int a'), some (.lst 0 S0), x12, x13, x14, x15, x16] L2 = .ok ((List.range 5).map fun q => D.int (q : Nat), []) L2 := by rw [evI, evE, Res.bind_ok, r5]; rfl
      have g0' : compL ([] : List (Nat × List D)) (.slot 16) (wipeE [x0, x1, some (.ref p), some (.int tn), x4, x5, some (.ref n), some (.int ev.tick), some (.int ev.key), some (.str (way ev.dn)), some (.int a'), some (.lst 0 S0), x12, x13, x14, x15, x16] [15, 16]) (fun E' L' => evC (T.cx k) .nil E' L') (fun E' L' => evE (T.cx k) b_law_1 E' L') ((List.range 5).map fun q => D.int (q : Nat)) [] L2 = .ok vs L3 := g0
      have et1 : cmpD .eq (.int (tn : Int)) (.int 1) L2 = some true := by rw [et]; simp [c]
      rw [ss_if_t (L1 := L2) (by simp [evT, evE, et1, optV, truD]), ss_asg (E' := [x0, x1, some (.ref p), some (.int tn), x4, x5, some (.ref n), some (.int ev.tick), some (.int ev.key), some (.str (way ev.dn)), some (.int a'), some (.lst 0 vs), x12, x13, x14, x15, x16]) (d := .lst 0 vs) (L1 := L3) (by rw [evE, ei, Res.bind_ok, g0']; rfl) rfl, ss_nil, SRes.seq_nx, ss_nil]
    · refine ⟨S0, L2, ?_, r2.mono (by omega), Same.refl _ _, rfl, oS0, by omega⟩
      have et1 : cmpD .eq (.int (tn : Int)) (.int 1) L2 = some false := by rw [et]; simp [c]
      rw [ss_if_n (L1 := L2) (by simp [evT, evE, et1, optV, truD]), ss_nil]
  have h3 : L3[n]? = some (.lst (rec.map Evt.enc)) := by rw [s3.2 n (by omega) (fun z => hpn z.symm)]; exact h2
  have ha : a' ≤ rec.length := by omega
  have lo3 : lstOf L3 (.ref n) = some (rec.map Evt.enc) := by simp [lstOf, h3]
  have cutA : MP.cutD (rec.map Evt.enc) none (some (a' : Int)) = (rec.map Evt.enc).take a' := by
    have h0 : ¬ (a' : Int) < 0 := by omega
    simp [MP.cutD, HT.sIx, h0]
  have cutB : MP.cutD (rec.map Evt.enc) (some (a' : Int)) none = (rec.map Evt.enc).drop a' := by
    have h0 : ¬ (a' : Int) < 0 := by omega
    have : min a' rec.length = a' := Nat.min_eq_left ha
    simp [MP.cutD, HT.sIx, h0, this]
    exact List.take_of_length_le (by simp)
  have zs : ∀ j, j ≤ 1000 → MP.sizeOk j = true := fun j hj => sizeOk_small (by omega)
  -- the bent ones
  obtain ⟨E4, L4, e4, y12, y13, rfl, hL4⟩ := forL_run (w := []) (g := .slot 12) (b := fun E' L' => evSs (T.cx k) b_law_2 E' L') (ds := S)
    (fun i E' L' => ∃ y12 y13, E' = [x0, x1, some (.ref p), some (.int tn), x4, x5, some (.ref n), some (.int ev.tick), some (.int ev.key), some (.str (way ev.dn)), some (.int a'), some (.lst 0 S), y12, y13, x14, x15, x16] ∧ L' = L3) (fun _ _ _ _ => rfl) (fun i E' L' hi hI => by
      obtain ⟨y12, y13, rfl, rfl⟩ := hI
      have od := oS _ (List.getElem_mem hi)
      generalize S[i] = d at od
      obtain ⟨B, hB⟩ : ∃ B, B = (rec.map Evt.enc).take a' ++ [d] ++ (rec.map Evt.enc).drop a' := ⟨_, rfl⟩
      have oB : ∀ x ∈ B, Odd x := fun x hx => by
        rw [hB] at hx
        simp only [List.mem_append, List.mem_singleton] at hx
        rcases hx with (hx | hx) | hx
        · exact recs_odd hb x (List.mem_of_mem_take hx)
        · rw [hx]; exact od
        · exact recs_odd hb x (List.mem_of_mem_drop hx)
      have lB : B.length ≤ 201 := by rw [hB]; simp; omega
      have nB : noRefs B = true := noRefs_of fun x hx => (oB x hx).1.nr
      have t1 := c_told (k := k) (by omega) (tame_list (t := 0) (odd_ok oB) (by omega)) L'
      have t2 : callW (T.cx k) 201 [.lst 0 B] L' = .ok (.lst 0 (B.map stp)) L' := by
        rw [callW_pure (by simp [noRefs, noRef, nB]), s_steps k (by omega) L' 0 B (fun x hx => (oB x hx).1.nr) (by omega)]
      have t3 := c_told (k := k) (by omega) (tame_list (t := 0) (odd_stp oB) (by simp; omega)) L'
      have eb : evE (T.cx k) (.bin .add false (.bin .add false (.slc false (.var 6) (.con .non) (.var 10)) (.lst false (.cons (.var 12) .nil))) (.slc false (.var 6) (.var 10) (.con .non))) [x0, x1, some (.ref p), some (.int tn), x4, x5, some (.ref n), some (.int ev.tick), some (.int ev.key), some (.str (way ev.dn)), some (.int a'), some (.lst 0 S), some d, y13, x14, x15, x16] L' = .ok (.lst 0 B) L' := by
        have l1 : ((rec.map Evt.enc).take a').length = a' := by simp; omega
        have l2 : ((rec.map Evt.enc).drop a').length = rec.length - a' := by simp
        have lo : ∀ ds, lstOf L' (.lst 0 ds) = some ds := fun _ => rfl
        rw [hB]
        simp only [evE, evA, List.getElem?_cons_succ, List.getElem?_cons_zero, Res.bind_ok, isAbs, Bool.false_eq_true, if_false, if_true, MP.part, optV, slcP, lo3, cutA, cutB, newL, opt, List.length_cons, List.length_nil, Nat.zero_add, q1, binD, lo, binL, l1, l2, List.length_append, zs (a' + 1) (by omega), zs (a' + 1 + (rec.length - a')) (by omega)]
      refine ⟨_, [x0, x1, some (.ref p), some (.int tn), x4, x5, some (.ref n), some (.int ev.tick), some (.int ev.key), some (.str (way ev.dn)), some (.int a'), some (.lst 0 S), some d, some (.lst 0 B), x14, x15, x16], L', rfl, .inl ?_, _, _, rfl, rfl⟩
      show evSs (T.cx k) b_law_2 [x0, x1, some (.ref p), some (.int tn), x4, x5, some (.ref n), some (.int ev.tick), some (.int ev.key), some (.str (way ev.dn)), some (.int a'), some (.lst 0 S), some d, y13, x14, x15, x16] L' = _
      rw [b_law_2, ss_asg (E' := [x0, x1, some (.ref p), some (.int tn), x4, x5, some (.ref n), some (.int ev.tick), some (.int ev.key), some (.str (way ev.dn)), some (.int a'), some (.lst 0 S), some d, some (.lst 0 B), x14, x15, x16]) eb rfl,
        ss_if_n (L1 := L') (by simp [evT, evE, evA, t1, t2, t3, optV, truD]), ss_nil])
    (E := [x0, x1, some (.ref p), some (.int tn), x4, x5, some (.ref n), some (.int ev.tick), some (.int ev.key), some (.str (way ev.dn)), some (.int a'), some (.lst 0 S), x12, x13, x14, x15, x16]) (L := L3) ⟨x12, x13, rfl, rfl⟩
  rw [hL4] at e4
  -- other values
  obtain ⟨V, hV⟩ : ∃ V : List D, V = [.non, .int 0, .bl true, .str (Str.ofString ""), .str (Str.ofString "down"), .tup [], .dct [] [], .tup (rec.map Evt.enc), .lst 0 [.ref n], .lst 0 [.non], .lst 0 [.lst 0 []], .lst 0 (rec.map Evt.enc).reverse] := ⟨_, rfl⟩
  have cV : ∀ v ∈ V, callW (T.cx k) 200 [v] L3 = .ok (.bl true) L3 := by
    rw [hV]
    simp only [List.mem_cons, List.not_mem_nil, or_false]
    rintro v (rfl | rfl | rfl | rfl | rfl | rfl | rfl | rfl | rfl | rfl | rfl | rfl)
    · exact c_told (by omega) (tame_sm sm_non (by simp)) L3
    · exact c_told (by omega) (tame_sm (sm_int (by decide)) (by simp)) L3
    · exact c_told (by omega) (tame_sm (sm_bl _) (by simp)) L3
    · exact c_told (by omega) (tame_sm (sm_str (by decide +kernel)) (by simp)) L3
    · exact c_told (by omega) (tame_sm (sm_str (by decide +kernel)) (by simp)) L3
    · exact c_told (by omega) (tame_tup (rec := []) (by simp) (by simp)) L3
    · exact c_told (by omega) (tame_sm sm_dct (by simp)) L3
    · exact c_told (by omega) (tame_tup hb (by omega)) L3
    · exact callW_box h3 (recs_noRef rec) (by rw [liv_of T__law_told_right.h]; rfl) rfl fun M => s_told k (by omega) M _ (tame_box hb (by omega))
    · exact c_told (by omega) (tame_list (t := 0) (ds := [.non]) (by simp; exact ok_sm sm_non (by simp)) (by simp)) L3
    · exact c_told (by omega) (tame_list (t := 0) (ds := [.lst 0 []]) (by simp; exact ok_list (by simp) (by simp)) (by simp)) L3
    · exact c_told (by omega) (tame_list (t := 0) (fun d hd => hok d (List.mem_reverse.mp hd)) (by simp; omega)) L3
  obtain ⟨E5, L5, e5, y14, rfl, hL5⟩ := forL_run (w := []) (g := .slot 14) (b := fun E' L' => evSs (T.cx k) b_law_3 E' L') (ds := V)
    (fun i E' L' => ∃ y14, E' = [x0, x1, some (.ref p), some (.int tn), x4, x5, some (.ref n), some (.int ev.tick), some (.int ev.key), some (.str (way ev.dn)), some (.int a'), some (.lst 0 S), y12, y13, y14, x15, x16] ∧ L' = L3) (fun _ _ _ _ => rfl) (fun i E' L' hi hI => by
      obtain ⟨y14, rfl, rfl⟩ := hI
      have cv := cV _ (List.getElem_mem hi)
      generalize V[i] = v at cv
      refine ⟨_, [x0, x1, some (.ref p), some (.int tn), x4, x5, some (.ref n), some (.int ev.tick), some (.int ev.key), some (.str (way ev.dn)), some (.int a'), some (.lst 0 S), y12, y13, some v, x15, x16], L', rfl, .inl ?_, _, rfl, rfl⟩
      show evSs (T.cx k) b_law_3 [x0, x1, some (.ref p), some (.int tn), x4, x5, some (.ref n), some (.int ev.tick), some (.int ev.key), some (.str (way ev.dn)), some (.int a'), some (.lst 0 S), y12, y13, some v, x15, x16] L' = _
      rw [b_law_3, ss_if_n (L1 := L') (by simp [evT, evE, evA, cv, optV, truD]), ss_nil])
    (E := [x0, x1, some (.ref p), some (.int tn), x4, x5, some (.ref n), some (.int ev.tick), some (.int ev.key), some (.str (way ev.dn)), some (.int a'), some (.lst 0 S), y12, y13, x14, x15, x16]) (L := L3) ⟨x14, rfl, rfl⟩
  rw [hL5] at e5
  have eV : evE (T.cx k) (.lst false (.cons (.con .non) (.cons (.con (.int 0)) (.cons (.con (.bl true)) (.cons (.con (.str (Str.ofString ""))) (.cons (.con (.str (Str.ofString "down"))) (.cons (.tup .nil) (.cons (.dct [] .nil) (.cons (.blt .tuple false (.cons (.var 6) .nil)) (.cons (.lst false (.cons (.var 6) .nil)) (.cons (.lst false (.cons (.con .non) .nil)) (.cons (.lst false (.cons (.lst false .nil) .nil)) (.cons (.rev false (.var 6)) .nil))))))))))))) [x0, x1, some (.ref p), some (.int tn), x4, x5, some (.ref n), some (.int ev.tick), some (.int ev.key), some (.str (way ev.dn)), some (.int a'), some (.lst 0 S), y12, y13, x14, x15, x16] L3 = .ok (.lst 0 V) L3 := by
    have sq : seqOf L3 (.ref n) = some (rec.map Evt.enc) := lo3
    rw [hV]
    simp [evE, evA, q0, q1, zs 12, newL, opt, bltD, sq, revD, lo3]
  -- the two lists
  have o1' : ∀ x ∈ (rec.map Evt.enc).drop 1, OkItem x := fun x hx => hok x (List.mem_of_mem_drop hx)
  have o2' : ∀ x ∈ rec.map Evt.enc ++ (rec.map Evt.enc).take 1, OkItem x := fun x hx => by
    rcases List.mem_append.mp hx with hx | hx
    · exact hok x hx
    · exact hok x (List.mem_of_mem_take hx)
  have t1 := c_told (k := k) (by omega) (tame_list (t := 0) o1' (by simp; omega)) L3
  have t2 := c_told (k := k) (by omega) (tame_list (t := 0) o2' (by simp; omega)) L3
  have cut2 : MP.cutD (rec.map Evt.enc) none (some (1 : Int)) = (rec.map Evt.enc).take 1 := by
    have h0 : ¬ (1 : Int) < 0 := by decide
    simp [MP.cutD, HT.sIx, h0]
  have f1' : evE (T.cx k) (.slc false (.var 6) (.con (.int 1)) (.con .non)) [x0, x1, some (.ref p), some (.int tn), x4, x5, some (.ref n), some (.int ev.tick), some (.int ev.key), some (.str (way ev.dn)), some (.int a'), some (.lst 0 S), y12, y13, y14, x15, x16] L3 = .ok (.lst 0 ((rec.map Evt.enc).drop 1)) L3 := by
    simp only [evE, List.getElem?_cons_succ, List.getElem?_cons_zero, Res.bind_ok, isAbs, Bool.false_eq_true, if_false, if_true, MP.part, optV, slcP, lo3, cut1, newL, opt]
  have f2' : evE (T.cx k) (.bin .add false (.var 6) (.slc false (.var 6) (.con .non) (.con (.int 1)))) [x0, x1, some (.ref p), some (.int tn), x4, x5, some (.ref n), some (.int ev.tick), some (.int ev.key), some (.str (way ev.dn)), some (.int a'), some (.lst 0 S), y12, y13, y14, x15, x16] L3 = .ok (.lst 0 (rec.map Evt.enc ++ (rec.map Evt.enc).take 1)) L3 := by
    have l1 : ((rec.map Evt.enc).take 1).length ≤ 1 := by simp; omega
    have lo : ∀ ds, lstOf L3 (.lst 0 ds) = some ds := fun _ => rfl
    simp only [evE, List.getElem?_cons_succ, List.getElem?_cons_zero, Res.bind_ok, isAbs, Bool.false_eq_true, if_false, if_true, MP.part, optV, slcP, lo3, cut2, newL, opt, binD, lo, binL, List.length_map, zs (rec.length + ((rec.map Evt.enc).take 1).length) (by omega)]
  obtain ⟨L6, g1, g2, g3⟩ := s_changed k (by omega) L3 n rec many h3 ok hb
  have c203 : callW (T.cx k) 203 [.ref n] L3 = .ok (.bl true) L6 := by
    rw [callW_nil (by rw [liv_of T__law_changed_right.h]; rfl), g1]
  have r6 : Pool L6 p (m + 100) := by
    obtain ⟨o, ho, hr⟩ := r3
    exact ⟨o, by rw [g3 p (by have := hP.lt; omega) hpn]; exact ho, RS_mono hr (by omega)⟩
  refine ⟨L6, some (.int ev.tick), some (.int ev.key), some (.str (way ev.dn)), some (.int a'), some (.lst 0 S), y12, y13, y14, ?_, r6⟩
  have cA : evT (T.cx k) (.or (.cmp .isn (.call 43 (.cons (.var 6) .nil)) (.con (.bl true))) (.cmp .isn (.call 44 (.cons (.call 201 (.cons (.var 6) .nil)) .nil)) (.con (.bl true)))) [x0, x1, some (.ref p), some (.int tn), x4, x5, some (.ref n), x7, x8, x9, x10, x11, x12, x13, x14, x15, x16] L = .ok false L := by
    have it : cmpD .isn (.bl true) (.bl true) L = some false := by simp [cmpD]
    simp [evT, evE, evA, c43 h, c201 h, c44, it, optV, truD]
  have e10 : evE (T.cx k) (.call 101 (.cons (.var 2) (.cons (.bin .add false (.blt .len false (.cons (.var 6) .nil)) (.con (.int 1))) .nil))) [x0, x1, some (.ref p), some (.int tn), x4, x5, some (.ref n), x7, x8, x9, x10, x11, x12, x13, x14, x15, x16] L = .ok (.int a') L1 := by
    simp [evE, evA, bltD, ln h, opt, binD, e1]
  have e7 : evE (T.cx k) (.call 125 (.cons (.var 6) (.cons (.var 10) (.cons (.var 8) .nil)))) [x0, x1, some (.ref p), some (.int tn), x4, x5, some (.ref n), x7, some (.int key), x9, some (.int a'), x11, x12, x13, x14, x15, x16] L2 = .ok ev.enc L2 := by
    simp [evE, evA, f1]
  have e11 : evE (T.cx k) (.bin .add false (.call 124 (.cons (.var 7) (.cons (.var 8) (.cons (.var 9) .nil)))) (.lst false (.cons (.tup (.cons (.var 7) (.cons (.var 8) (.cons (.var 9) .nil)))) .nil))) [x0, x1, some (.ref p), some (.int tn), x4, x5, some (.ref n), some (.int ev.tick), some (.int ev.key), some (.str (way ev.dn)), some (.int a'), x11, x12, x13, x14, x15, x16] L2 = .ok (.lst 0 S0) L2 := by
    rw [hS0, way2]
    simp [evE, evA, o1, q1, q3, newL, opt, binD, lstOf, binL, zs (odds.length + 1) (by omega)]
  have c12 : evT (T.cx k) (.or (.not (.call 200 (.cons (.slc false (.var 6) (.con (.int 1)) (.con .non)) .nil))) (.not (.call 200 (.cons (.bin .add false (.var 6) (.slc false (.var 6) (.con .non) (.con (.int 1)))) .nil)))) [x0, x1, some (.ref p), some (.int tn), x4, x5, some (.ref n), some (.int ev.tick), some (.int ev.key), some (.str (way ev.dn)), some (.int a'), some (.lst 0 S), y12, y13, y14, x15, x16] L3 = .ok false L3 := by
    have g1 : evE (T.cx k) (.not (.call 200 (.cons (.slc false (.var 6) (.con (.int 1)) (.con .non)) .nil))) [x0, x1, some (.ref p), some (.int tn), x4, x5, some (.ref n), some (.int ev.tick), some (.int ev.key), some (.str (way ev.dn)), some (.int a'), some (.lst 0 S), y12, y13, y14, x15, x16] L3 = .ok (.bl false) L3 := by
      rw [evE, evE, evA, f1']
      simp only [Res.bind_ok, evA, t1, truD, optV, Bool.not_true]
    have g2 : evE (T.cx k) (.not (.call 200 (.cons (.bin .add false (.var 6) (.slc false (.var 6) (.con .non) (.con (.int 1)))) .nil))) [x0, x1, some (.ref p), some (.int tn), x4, x5, some (.ref n), some (.int ev.tick), some (.int ev.key), some (.str (way ev.dn)), some (.int a'), some (.lst 0 S), y12, y13, y14, x15, x16] L3 = .ok (.bl false) L3 := by
      rw [evE, evE, evA, f2']
      simp only [Res.bind_ok, evA, t2, truD, optV, Bool.not_true]
    rw [evT, evE, g1]
    simp only [Res.bind_ok, truD, optV, Bool.false_eq_true, if_false, g2]
  have c13 : evT (T.cx k) (.not (.call 203 (.cons (.var 6) .nil))) [x0, x1, some (.ref p), some (.int tn), x4, x5, some (.ref n), some (.int ev.tick), some (.int ev.key), some (.str (way ev.dn)), some (.int a'), some (.lst 0 S), y12, y13, y14, x15, x16] L3 = .ok false L6 := by
    simp [evT, evE, evA, c203, optV, truD]
  have e9 : ∀ ss, evSs (T.cx k) (.cons (.ite (.cmp .eq (.var 3) (.con (.int 1))) (.cons (.asg (.nm (.slot 11)) (.comp false [15, 16] (.slot 16) (.rng1 (.con (.int 5))) .nil b_law_1)) .nil) .nil) ss) [x0, x1, some (.ref p), some (.int tn), x4, x5, some (.ref n), some (.int ev.tick), some (.int ev.key), some (.str (way ev.dn)), some (.int a'), some (.lst 0 S0), x12, x13, x14, x15, x16] L2 = evSs (T.cx k) ss [x0, x1, some (.ref p), some (.int tn), x4, x5, some (.ref n), some (.int ev.tick), some (.int ev.key), some (.str (way ev.dn)), some (.int a'), some (.lst 0 S), x12, x13, x14, x15, x16] L3 := fun ss => by
    have e3' := e3
    rw [evSs] at e3' ⊢
    generalize evS (T.cx k) (.ite (.cmp .eq (.var 3) (.con (.int 1))) (.cons (.asg (.nm (.slot 11)) (.comp false [15, 16] (.slot 16) (.rng1 (.con (.int 5))) .nil b_law_1)) .nil) .nil) [x0, x1, some (.ref p), some (.int tn), x4, x5, some (.ref n), some (.int ev.tick), some (.int ev.key), some (.str (way ev.dn)), some (.int a'), some (.lst 0 S0), x12, x13, x14, x15, x16] L2 = r at *
    cases r with
    | stuck => cases e3'
    | exc C fs E0 M0 => cases e3'
    | fl f E0 M0 =>
      cases f with
      | nx =>
        simp only [SRes.seq_nx, evSs, SRes.fl.injEq, true_and] at e3'
        rw [SRes.seq_nx, e3'.1, e3'.2]
      | bk => cases e3'
      | ct => cases e3'
      | rt d => cases e3'
  rw [ss_if_n cA, ss_asg (E' := [x0, x1, some (.ref p), some (.int tn), x4, x5, some (.ref n), x7, x8, x9, some (.int a'), x11, x12, x13, x14, x15, x16]) e10 rfl,
    ss_asg (E' := [x0, x1, some (.ref p), some (.int tn), x4, x5, some (.ref n), x7, some (.int key), x9, some (.int a'), x11, x12, x13, x14, x15, x16]) e2 rfl,
    ss_asg (E' := [x0, x1, some (.ref p), some (.int tn), x4, x5, some (.ref n), some (.int ev.tick), some (.int ev.key), some (.str (way ev.dn)), some (.int a'), x11, x12, x13, x14, x15, x16]) e7 rfl,
    ss_asg (E' := [x0, x1, some (.ref p), some (.int tn), x4, x5, some (.ref n), some (.int ev.tick), some (.int ev.key), some (.str (way ev.dn)), some (.int a'), some (.lst 0 S0), x12, x13, x14, x15, x16]) e11 rfl,
    e9, ss_for (w := []) (ds := S) (L1 := L3) (by simp [evI, evE, itemsOf, seqOf, lstOf, optV, watch]) e4,
    ss_for (w := []) (ds := V) (L1 := L3) (by rw [evI, eV, Res.bind_ok]; simp only [itemsOf, seqOf, lstOf, optV, watch, Res.bind_ok]) e5,
    ss_if_n c12, ss_if_n c13, ss_nil]
end Law_k05
set_option maxHeartbeats 2000000
namespace Law_k05
open PySem hiding Act
open PySem.Spec PyProof.Rows L2 MP PB
theorem evb_of {keys G : Int} {rec : List Evt} {s : Int} (h2 : keys ≤ 16) (hs : s ≤ 200) (hG : G = 10 ^ 9) (hs0 : 0 ≤ s) (ok : RecOk (some (keys - 1)) rec) (h : ∀ e ∈ rec, -1000000000000000 ≤ e.tick ∧ e.tick ≤ 100000000000000 + s * G) : ∀ e ∈ rec, EvB e := fun e he => by
  have a := ok.key e he
  have b := h e he
  have c := a.2 _ rfl
  have d : s * G ≤ 200 * 10 ^ 9 := by rw [hG]; exact Int.mul_le_mul_of_nonneg_right hs (by decide)
  exact ⟨by omega, by omega, a.1, by omega⟩
theorem evb_big {M keys : Int} (h2 : keys ≤ 16) (hM : M = 10 ^ 28) {rec : List Evt} (ok : RecOk (some (keys - 1)) rec) (h : ∀ e ∈ rec, EvB e) : ∀ e ∈ rec.map (big M), EvB e := fun x hx => by
  obtain ⟨e, he, rfl⟩ := List.mem_map.mp hx
  have a := ok.key e he
  have c := a.2 _ rfl
  have b := h e he
  have d : 0 ≤ e.key * M ∧ e.key * M ≤ 16 * 10 ^ 28 := by rw [hM]; omega
  exact ⟨b.t1, b.t2, by show 0 ≤ e.key * M + 7; omega, by show e.key * M + 7 ≤ 10 ^ 31; omega⟩
theorem turn_ok {k : Nat} (hk : 9 ≤ k) {L : Live} {p m : Nat} (hP : Pool L p m) (hm : m + 3000 ≤ 10 ^ 9) (tn : Nat) (htn : tn < 2) (x0 x1 x4 x5 x6 x7 x8 x9 x10 x11 x12 x13 x14 x15 x16 : Option D) :
    ∃ L' y4 y5 y6 y7 y8 y9 y10 y11 y12 y13 y14, evSs (T.cx k) b_law_4 [x0, x1, some (.ref p), some (.int tn), x4, x5, x6, x7, x8, x9, x10, x11, x12, x13, x14, x15, x16] L = .fl .nx [x0, x1, some (.ref p), some (.int tn), y4, y5, y6, y7, y8, y9, y10, y11, y12, y13, y14, x15, x16] L' ∧ Pool L' p (m + 3000) := by
  have q2 : MP.sizeOk 2 = true := sizeOk_small (by omega)
  have q5 : MP.sizeOk 5 = true := sizeOk_small (by omega)
  have q3 : MP.sizeOk 3 = true := sizeOk_small (by omega)
  obtain ⟨y, L1, e1, r1, s1, n1, y0, y1⟩ := spinP (T := T) (k := k) (by omega) hP (by omega) 16
  obtain ⟨u, L2, e2, r2, s2, n2, u0, u1⟩ := spinP (T := T) (k := k) (by omega) r1 (by omega) 12
  obtain ⟨v, L3, e3, r3, s3, n3, v0, v1⟩ := spinP (T := T) (k := k) (by omega) r2 (by omega) 201
  obtain ⟨s, hs, hs0, hs1⟩ : ∃ s : Int, atI [D.int u, .int v] (tn : Int) = some (.int s) ∧ 0 ≤ s ∧ s ≤ 200 := by
    have : tn = 0 ∨ tn = 1 := by omega
    rcases this with rfl | rfl
    · exact ⟨u, rfl, by omega, by omega⟩
    · exact ⟨v, rfl, by omega, by omega⟩
  obtain ⟨M9, p9, v9⟩ := e_power 10 9 (by decide)
  have w9 : M9 = 10 ^ 9 := by rw [v9]; rfl
  clear v9
  obtain ⟨M28, p28, v28⟩ := e_power 10 28 (by decide)
  have w28 : M28 = 10 ^ 28 := by rw [v28]; rfl
  clear v28
  obtain ⟨gaps, hgaps⟩ : ∃ gaps : List Int, gaps = [0, 0, 1, 5, M9] := ⟨_, rfl⟩
  obtain ⟨rec, L4, e4, r4, s4, g4, z4, ok4, b4⟩ := s_recP (T := T) (k := k) (by omega) r3 (by omega) (1 + y) s (by omega) (by omega) hs0 (by omega) gaps (by rw [hgaps]; simp) (by rw [hgaps]; simp) M9 (by
    rw [hgaps, w9]
    intro g hg
    simp only [List.mem_cons, List.not_mem_nil, or_false] at hg
    omega)
  have hb4 := evb_of (by omega) hs1 w9 hs0 ok4 b4
  have hz : rec.length ≤ 200 := by omega
  have hp3 := r3.lt
  obtain ⟨n, rec2, many, L5, e5, r5, hn5, g5, z5, ok5, b5⟩ : ∃ (n : Nat) (rec2 : List Evt) (many : Option Int) (L5 : Live),
      evSs (T.cx k) (.cons (.ite (.cmp .eq (.var 3) (.con (.int 1))) (.cons (.asg (.nm (.slot 6)) (.comp true [15, 7, 8, 9] (.tup [(.slot 7), (.slot 8), (.slot 9)]) (.val (.var 6)) .nil b_law_0)) .nil) .nil) .nil) [x0, x1, some (.ref p), some (.int tn), some (.int (1 + y)), some (.int s), some (.ref L3.length), x7, x8, x9, x10, x11, x12, x13, x14, x15, x16] L4 = .fl .nx [x0, x1, some (.ref p), some (.int tn), some (.int (1 + y)), some (.int s), some (.ref n), x7, x8, x9, x10, x11, x12, x13, x14, x15, x16] L5 ∧
      Pool L5 p (m + 2003) ∧ p ≠ n ∧ L5[n]? = some (.lst (rec2.map Evt.enc)) ∧ rec2.length ≤ 200 ∧ RecOk many rec2 ∧ ∀ e ∈ rec2, EvB e := by
    have et : cmpD .eq (.int (tn : Int)) (.int 1) L4 = some (decide (tn = 1)) := by
      simp only [cmpD, eqD, scal2, eqS, if_true]
      congr 1
      rw [Bool.eq_iff_iff]
      simp; omega
    by_cases c : tn = 1
    · have et1 : cmpD .eq (.int (tn : Int)) (.int 1) L4 = some true := by rw [et]; simp [c]
      have hp4 := r4.lt
      refine ⟨L4.length, rec.map (big M28), none, L4 ++ [.lst ((rec.map (big M28)).map Evt.enc)], ?_, (r4.mono (by omega)).app _, by omega, by simp, by simpa using hz, big_ok (by omega) ok4, evb_big (by omega) w28 ok4 hb4⟩
      have ei : evI (T.cx k) (.val (.var 6)) [x0, x1, some (.ref p), some (.int tn), some (.int (1 + y)), some (.int s), some (.ref L3.length), x7, x8, x9, x10, x11, x12, x13, x14, x15, x16] L4 = .ok (rec.map Evt.enc, [(L3.length, rec.map Evt.enc)]) L4 := by
        simp [evI, evE, itemsOf, seqOf, lstOf, optV, watch, g4]
      have hc : compL [(L3.length, rec.map Evt.enc)] (.tup [.slot 7, .slot 8, .slot 9]) (wipeE [x0, x1, some (.ref p), some (.int tn), some (.int (1 + y)), some (.int s), some (.ref L3.length), x7, x8, x9, x10, x11, x12, x13, x14, x15, x16] [15, 7, 8, 9]) (fun E' L' => evC (T.cx k) .nil E' L') (fun E' L' => evE (T.cx k) b_law_0 E' L') (rec.map Evt.enc) [] L4 = .ok ((rec.map (big M28)).map Evt.enc) L4 := by
        have := compL_map (w := [(L3.length, rec.map Evt.enc)]) (g := .tup [.slot 7, .slot 8, .slot 9]) (E := wipeE [x0, x1, some (.ref p), some (.int tn), some (.int (1 + y)), some (.int s), some (.ref L3.length), x7, x8, x9, x10, x11, x12, x13, x14, x15, x16] [15, 7, 8, 9]) (c := fun E' L' => evC (T.cx k) .nil E' L') (e := fun E' L' => evE (T.cx k) b_law_0 E' L') (f := fun d => match d with | .tup [.int t, .int i, w] => .tup [.int t, .int (i * M28 + 7), w] | d => d) (ds := rec.map Evt.enc) (L := L4) (by simp [still, g4]) (small_line (by simp; omega)) fun d hd => by
          obtain ⟨e, he, rfl⟩ := List.mem_map.mp hd
          refine ⟨[x0, x1, some (.ref p), some (.int tn), some (.int (1 + y)), some (.int s), some (.ref L3.length), some (.int e.tick), some (.int e.key), some (.str (way e.dn)), x10, x11, x12, x13, x14, none, x16], rfl, rfl, ?_⟩
          have hbe := hb4 e he
          have ke := ok4.key e he
          have kf := ke.2 _ rfl
          have mk : mulOk e.key M28 = true := mul_okl ke.1 (by omega)
          have ek : evE (T.cx k) (.bin .add false (.bin .mul false (.var 8) (.bin .pow false (.con (.int 10)) (.con (.int 28)))) (.con (.int 7))) [x0, x1, some (.ref p), some (.int tn), some (.int (1 + y)), some (.int s), some (.ref L3.length), some (.int e.tick), some (.int e.key), some (.str (way e.dn)), x10, x11, x12, x13, x14, none, x16] L4 = .ok (.int (e.key * M28 + 7)) L4 := by
            have em : evE (T.cx k) (.bin .mul false (.var 8) (.bin .pow false (.con (.int 10)) (.con (.int 28)))) [x0, x1, some (.ref p), some (.int tn), some (.int (1 + y)), some (.int s), some (.ref L3.length), some (.int e.tick), some (.int e.key), some (.str (way e.dn)), x10, x11, x12, x13, x14, none, x16] L4 = .ok (.int (e.key * M28)) L4 := by
              rw [evE, evE]
              simp only [List.getElem?_cons_succ, List.getElem?_cons_zero, Res.bind_ok]
              rw [p28]
              simp only [Res.bind_ok, binD, mk, if_true, opt]
            rw [evE, em]
            simp only [Res.bind_ok, evE, binD, opt]
          show evE (T.cx k) b_law_0 _ L4 = _
          rw [b_law_0, evE, evA, evE]
          simp only [List.getElem?_cons_succ, List.getElem?_cons_zero, Res.bind_ok]
          rw [evA, ek]
          simp only [Res.bind_ok, evA, evE, List.getElem?_cons_succ, List.getElem?_cons_zero, List.length_cons, List.length_nil, Nat.zero_add, Nat.reduceAdd, q3, if_true]
          rfl
        rw [this, List.map_map, List.map_map]
        rfl
      rw [ss_if_t (L1 := L4) (by simp [evT, evE, et1, optV, truD]), ss_asg (E' := [x0, x1, some (.ref p), some (.int tn), some (.int (1 + y)), some (.int s), some (.ref L4.length), x7, x8, x9, x10, x11, x12, x13, x14, x15, x16]) (d := .ref L4.length) (L1 := L4 ++ [.lst ((rec.map (big M28)).map Evt.enc)]) (by rw [evE, ei, Res.bind_ok, hc]; rfl) rfl, ss_nil, SRes.seq_nx, ss_nil]
    · have et1 : cmpD .eq (.int (tn : Int)) (.int 1) L4 = some false := by rw [et]; simp [c]
      refine ⟨L3.length, rec, some (1 + y - 1), L4, ?_, r4.mono (by omega), by omega, g4, hz, ok4, hb4⟩
      rw [ss_if_n (L1 := L4) (by simp [evT, evE, et1, optV, truD]), ss_nil]
  obtain ⟨L6, y7, y8, y9, y10, y11, y12, y13, y14, e6, r6⟩ := rest_ok (k := k) hk r5 (by omega) hn5 rec2 many g5 ok5 z5 b5 tn htn x0 x1 (some (.int (1 + y))) (some (.int s)) x7 x8 x9 x10 x11 x12 x13 x14 x15 x16
  refine ⟨L6, some (.int (1 + y)), some (.int s), some (.ref n), y7, y8, y9, y10, y11, y12, y13, y14, ?_, r6.mono (by omega)⟩
  have e9 : ∀ ss, evSs (T.cx k) (.cons (.ite (.cmp .eq (.var 3) (.con (.int 1))) (.cons (.asg (.nm (.slot 6)) (.comp true [15, 7, 8, 9] (.tup [(.slot 7), (.slot 8), (.slot 9)]) (.val (.var 6)) .nil b_law_0)) .nil) .nil) ss) [x0, x1, some (.ref p), some (.int tn), some (.int (1 + y)), some (.int s), some (.ref L3.length), x7, x8, x9, x10, x11, x12, x13, x14, x15, x16] L4 = evSs (T.cx k) ss [x0, x1, some (.ref p), some (.int tn), some (.int (1 + y)), some (.int s), some (.ref n), x7, x8, x9, x10, x11, x12, x13, x14, x15, x16] L5 := fun ss => by
    have e3' := e5
    rw [evSs] at e3' ⊢
    generalize evS (T.cx k) (.ite (.cmp .eq (.var 3) (.con (.int 1))) (.cons (.asg (.nm (.slot 6)) (.comp true [15, 7, 8, 9] (.tup [(.slot 7), (.slot 8), (.slot 9)]) (.val (.var 6)) .nil b_law_0)) .nil) .nil) [x0, x1, some (.ref p), some (.int tn), some (.int (1 + y)), some (.int s), some (.ref L3.length), x7, x8, x9, x10, x11, x12, x13, x14, x15, x16] L4 = r at *
    cases r with
    | stuck => cases e3'
    | exc C fs E0 M0 => cases e3'
    | fl f E0 M0 =>
      cases f with
      | nx =>
        simp only [SRes.seq_nx, evSs, SRes.fl.injEq, true_and] at e3'
        rw [SRes.seq_nx, e3'.1, e3'.2]
      | bk => cases e3'
      | ct => cases e3'
      | rt d => cases e3'
  have f5 : evE (T.cx k) (.idx (.lst false (.cons (.call 101 (.cons (.var 2) (.cons (.con (.int 12)) .nil))) (.cons (.call 101 (.cons (.var 2) (.cons (.con (.int 201)) .nil))) .nil))) (.var 3)) [x0, x1, some (.ref p), some (.int tn), some (.int (1 + y)), x5, x6, x7, x8, x9, x10, x11, x12, x13, x14, x15, x16] L1 = .ok (.int s) L3 := by
    simp [evE, evA, e2, e3, q2, newL, opt, idxD, seqOf, lstOf, idxSeq, hs, optV]
  have f6 : evE (T.cx k) (.call 120 (.cons (.var 2) (.cons (.var 4) (.cons (.var 5) (.cons (.lst false (.cons (.con (.int 0)) (.cons (.con (.int 0)) (.cons (.con (.int 1)) (.cons (.con (.int 5)) (.cons (.bin .pow false (.con (.int 10)) (.con (.int 9))) .nil)))))) .nil))))) [x0, x1, some (.ref p), some (.int tn), some (.int (1 + y)), some (.int s), x6, x7, x8, x9, x10, x11, x12, x13, x14, x15, x16] L3 = .ok (.ref L3.length) L4 := by
    have eg : evE (T.cx k) (.lst false (.cons (.con (.int 0)) (.cons (.con (.int 0)) (.cons (.con (.int 1)) (.cons (.con (.int 5)) (.cons (.bin .pow false (.con (.int 10)) (.con (.int 9))) .nil)))))) [x0, x1, some (.ref p), some (.int tn), some (.int (1 + y)), some (.int s), x6, x7, x8, x9, x10, x11, x12, x13, x14, x15, x16] L3 = .ok (.lst 0 (gaps.map D.int)) L3 := by
      rw [evE, evA, evE, Res.bind_ok, evA, evE, Res.bind_ok, evA, evE, Res.bind_ok, evA, evE, Res.bind_ok, evA, p9, hgaps]
      simp only [Res.bind_ok, evA, List.length_cons, List.length_nil, Nat.zero_add, Nat.reduceAdd, q5, if_true, newL, Bool.false_eq_true, if_false, opt, List.map_cons, List.map_nil]
    have ev : ∀ i d (es : Exs) (M : Live), ([x0, x1, some (.ref p), some (.int tn), some (.int (1 + y)), some (.int s), x6, x7, x8, x9, x10, x11, x12, x13, x14, x15, x16] : Ev)[i]? = some (some d) → evA (T.cx k) (.cons (.var i) es) [x0, x1, some (.ref p), some (.int tn), some (.int (1 + y)), some (.int s), x6, x7, x8, x9, x10, x11, x12, x13, x14, x15, x16] M = (evA (T.cx k) es [x0, x1, some (.ref p), some (.int tn), some (.int (1 + y)), some (.int s), x6, x7, x8, x9, x10, x11, x12, x13, x14, x15, x16] M).bind fun ds M' => .ok (d :: ds) M' := fun i d es M h => by
      rw [evA, evE, h]; rfl
    rw [evE, ev 2 _ _ _ rfl, ev 4 _ _ _ rfl, ev 5 _ _ _ rfl, evA, eg]
    simp only [Res.bind_ok, evA, e4]
  rw [b_law_4, ss_asg (E' := [x0, x1, some (.ref p), some (.int tn), some (.int (1 + y)), x5, x6, x7, x8, x9, x10, x11, x12, x13, x14, x15, x16]) (d := .int (1 + y)) (L1 := L1) (by simp [evE, evA, e1, binD, opt]) rfl,
    ss_asg (E' := [x0, x1, some (.ref p), some (.int tn), some (.int (1 + y)), some (.int s), x6, x7, x8, x9, x10, x11, x12, x13, x14, x15, x16]) f5 rfl,
    ss_asg (E' := [x0, x1, some (.ref p), some (.int tn), some (.int (1 + y)), some (.int s), some (.ref L3.length), x7, x8, x9, x10, x11, x12, x13, x14, x15, x16]) f6 rfl, e9]
  exact e6
theorem iter_ok {k : Nat} (hk : 9 ≤ k) (ns : List Int) (hn : ns.length ≤ 1000) (i : Nat) (hi : i ≤ 1000) (L : Live) (x2 x3 x4 x5 x6 x7 x8 x9 x10 x11 x12 x13 x14 x15 x16 : Option D) :
    ∃ L' y2 y3 y4 y5 y6 y7 y8 y9 y10 y11 y12 y13 y14, evSs (T.cx k) b_law_5 [some (.lst 0 (ns.map D.int)), some (.int i), x2, x3, x4, x5, x6, x7, x8, x9, x10, x11, x12, x13, x14, x15, x16] L = .fl .nx [some (.lst 0 (ns.map D.int)), some (.int i), y2, y3, y4, y5, y6, y7, y8, y9, y10, y11, y12, y13, y14, x15, x16] L' := by
  obtain ⟨o, e1, r1⟩ := s_reel (T := T) k (by omega) ns hn i (by omega) (by omega) L
  have hns : noRefs (ns.map D.int) = true := noRefs_of fun d hd => by obtain ⟨z, _, rfl⟩ := List.mem_map.mp hd; rfl
  have cr : callW (T.cx k) 100 [.lst 0 (ns.map D.int), .int i] L = .ok (.ref L.length) (L ++ [o]) := by
    rw [callW_pure (by simp [noRefs, noRef, hns]), e1]
  have hP : Pool (L ++ [o]) L.length 0 := ⟨o, by simp, r1⟩
  obtain ⟨E', L', e, x3', x4', x5', x6', x7', x8', x9', x10', x11', x12', x13', x14', rfl, _⟩ := forL_run (w := []) (g := .slot 3) (b := fun E' L' => evSs (T.cx k) b_law_4 E' L') (ds := (List.range 2).map fun q => D.int (q : Nat))
    (fun i' E' L' => ∃ x3 x4 x5 x6 x7 x8 x9 x10 x11 x12 x13 x14, E' = [some (.lst 0 (ns.map D.int)), some (.int i), some (.ref L.length), x3, x4, x5, x6, x7, x8, x9, x10, x11, x12, x13, x14, x15, x16] ∧ Pool L' L.length (3000 * i')) (fun _ _ _ _ => rfl) (fun i' E' L' hi hI => by
      obtain ⟨x3, x4, x5, x6, x7, x8, x9, x10, x11, x12, x13, x14, rfl, hP⟩ := hI
      have hi' : i' < 2 := by simpa using hi
      rw [rng1_get hi]
      obtain ⟨L2, y4, y5, y6, y7, y8, y9, y10, y11, y12, y13, y14, e, r⟩ := turn_ok hk hP (by omega) i' hi' (some (.lst 0 (ns.map D.int))) (some (.int i)) x4 x5 x6 x7 x8 x9 x10 x11 x12 x13 x14 x15 x16
      exact ⟨_, _, L2, rfl, .inl e, _, y4, y5, y6, y7, y8, y9, y10, y11, y12, y13, y14, rfl, r.mono (by omega)⟩)
    (E := [some (.lst 0 (ns.map D.int)), some (.int i), some (.ref L.length), x3, x4, x5, x6, x7, x8, x9, x10, x11, x12, x13, x14, x15, x16]) (L := L ++ [o]) ⟨x3, x4, x5, x6, x7, x8, x9, x10, x11, x12, x13, x14, rfl, by simpa using hP⟩
  refine ⟨L', some (.ref L.length), x3', x4', x5', x6', x7', x8', x9', x10', x11', x12', x13', x14', ?_⟩
  have r4 : rng1D (.int 2) = some ((List.range 2).map fun q => D.int (q : Nat)) := rng1_nat (n := 2) (by omega) (by omega)
  rw [b_law_5, ss_asg (E' := [some (.lst 0 (ns.map D.int)), some (.int i), some (.ref L.length), x3, x4, x5, x6, x7, x8, x9, x10, x11, x12, x13, x14, x15, x16]) (d := .ref L.length) (L1 := L ++ [o]) (by simp [evE, evA, cr]) rfl,
    ss_for (w := []) (ds := (List.range 2).map fun q => D.int (q : Nat)) (L1 := L ++ [o]) (by simp [evI, evE, optV, r4]) e, ss_nil]
theorem main (ns : List Int) (hn : ns.length ≤ 63) (hb : ∀ i ∈ ns, Builtin.Int.intBits i ≤ 1048576) : ∃ L, ((tabOf dns 1000).cx 20).φ 204 [.lst 0 (ns.map D.int)] [] = .ok (.bl true) L := by
  show ∃ L, (T.cx (19 + 1)).φ 204 [.lst 0 (ns.map D.int)] [] = .ok (.bl true) L
  rw [goH 204 rfl rfl]
  obtain ⟨t, ht, t1⟩ : ∃ t : Int, t = max 1 (min 2 (ns.length : Int)) ∧ t ≤ 2 := ⟨_, rfl, by omega⟩
  have eS : ∀ L : Live, lenD L (.lst 0 (ns.map D.int)) = some (ns.length : Int) := fun L => by simp [lenD, seqOf, lstOf]
  have hm : ∀ (c : Cxt) (E : Ev) (L : Live), E[0]? = some (some (.lst 0 (ns.map D.int))) → evE c (.blt .max false (.cons (.con (.int 1)) (.cons (.blt .min false (.cons (.con (.int 2)) (.cons (.blt .len false (.cons (.var 0) .nil)) .nil))) .nil))) E L = .ok (.int t) L := by
    intro c E L hE
    simp only [evE, evA, hE, bltD, eS, Res.bind_ok, opt, Option.map_some]
    rw [ht]
    congr 2
    rw [Int.max_def, Int.min_def]
    split <;> split <;> (try split) <;> (try split) <;> omega
  obtain ⟨E', L', e, x1, x2, x3, x4, x5, x6, x7, x8, x9, x10, x11, x12, x13, x14, rfl⟩ := forL_run (w := []) (g := .slot 1) (b := fun E' L' => evSs (T.cx 19) b_law_5 E' L') (ds := (List.range t.toNat).map fun q => D.int (q : Nat))
    (fun i E' L' => ∃ x1 x2 x3 x4 x5 x6 x7 x8 x9 x10 x11 x12 x13 x14, E' = [some (.lst 0 (ns.map D.int)), x1, x2, x3, x4, x5, x6, x7, x8, x9, x10, x11, x12, x13, x14, none, none]) (fun _ _ _ _ => rfl) (fun i E' L' hi hI => by
      obtain ⟨x1, x2, x3, x4, x5, x6, x7, x8, x9, x10, x11, x12, x13, x14, rfl⟩ := hI
      have hi' : i < t.toNat := by simpa using hi
      rw [rng1_get hi]
      obtain ⟨L2, y2, y3, y4, y5, y6, y7, y8, y9, y10, y11, y12, y13, y14, e⟩ := iter_ok (k := 19) (by omega) ns (by omega) i (by omega) L' x2 x3 x4 x5 x6 x7 x8 x9 x10 x11 x12 x13 x14 none none
      exact ⟨_, _, L2, rfl, .inl e, _, y2, y3, y4, y5, y6, y7, y8, y9, y10, y11, y12, y13, y14, rfl⟩)
    (E := startE 17 [.lst 0 (ns.map D.int)]) (L := []) ⟨none, none, none, none, none, none, none, none, none, none, none, none, none, none, rfl⟩
  refine ⟨L', ?_⟩
  have z0 : MP.sizeOk 0 = true := sizeOk_small (by omega)
  have z1 : MP.sizeOk 1 = true := sizeOk_small (by omega)
  have z2 : MP.sizeOk 2 = true := sizeOk_small (by omega)
  have c202 : callW (T.cx 19) 202 [] L' = .ok (.bl true) L' := by
    rw [callW_pure (by simp [noRefs]), s_sizes 19 (by omega) L']
  have c43 : callW (T.cx 19) 43 [.lst 0 []] L' = .ok (.bl true) L' := by
    rw [callW_pure (by simp [noRefs, noRef]), s_is_record_any (T := T) 19 (by omega) L' _ (by simp [noRef, noRefs]) fun t' ds' e x hx => by cases e; simp at hx]
    rfl
  have c44 : callW (T.cx 19) 44 [.lst 0 [.tup [.int 0, .str (Str.ofString "up")]]] L' = .ok (.bl false) L' := by
    rw [callW_pure (by simp [noRefs, noRef]), s_is_order_any (T := T) 19 (by omega) L' _ (by simp [noRef, noRefs]) fun t' ds' e x hx => by
      cases e
      rw [List.mem_singleton.mp hx]
      exact ⟨rfl, fun x w e => by cases e; exact wflat rfl⟩]
    congr 2
  show resOf (evSs (T.cx 19) b_law (startE 17 [.lst 0 (ns.map D.int)]) []) = _
  rw [b_law, ss_for (w := []) (ds := (List.range t.toNat).map fun q => D.int (q : Nat)) (L1 := []) (by simp only [evI]; rw [hm _ _ _ rfl]; simp [optV, rng1_nat (n := t) (by omega) (by omega)]) e,
    ss_if_n (L1 := L') (by simp [evT, evE, evA, c202, optV, truD]),
    ss_ret (d := .bl true) (L1 := L')]
  · rfl
  · simp [evE, evA, c43, c44, z0, z1, z2, newL, opt, optV, cmpD, truD]
end Law_k05
set_option maxHeartbeats 4000000
namespace Law_k05
open PySem PySem.Spec PyProof.Rows L2 MP PB
theorem ok_is_integer : d_is_integer.Ok ld.par := ⟨⟨rfl, rfl, rfl, by decide +kernel, by decide +kernel, by decide +kernel, by decide +kernel⟩, rfl, rfl, by kernel_rfl, fun _ _ _ _ _ _ us hl => match us, hl with | [_, _, _], _ => rfl⟩
theorem ok_wrong_step : d_wrong_step.Ok ld.par := ⟨⟨rfl, rfl, rfl, by decide +kernel, by decide +kernel, by decide +kernel, by decide +kernel⟩, rfl, rfl, by kernel_rfl, fun _ _ _ _ _ _ us hl => match us, hl with | [_, _, _], _ => rfl⟩
theorem ok_first_wrong_step : d_first_wrong_step.Ok ld.par := ⟨⟨rfl, rfl, rfl, by decide +kernel, by decide +kernel, by decide +kernel, by decide +kernel⟩, rfl, rfl, by kernel_rfl, fun _ _ _ _ _ _ us hl => match us, hl with | [_, _], _ => rfl⟩
theorem ok_first_wrong_event : d_first_wrong_event.Ok ld.par := ⟨⟨rfl, rfl, rfl, by decide +kernel, by decide +kernel, by decide +kernel, by decide +kernel⟩, rfl, rfl, by kernel_rfl, fun _ _ _ _ _ _ us hl => match us, hl with | [_, _], _ => rfl⟩
theorem ok_is_events : d_is_events.Ok ld.par := ⟨⟨rfl, rfl, rfl, by decide +kernel, by decide +kernel, by decide +kernel, by decide +kernel⟩, rfl, rfl, by kernel_rfl, fun _ _ _ _ _ _ us hl => match us, hl with | [_], _ => rfl⟩
theorem ok_is_record : d_is_record.Ok ld.par := ⟨⟨rfl, rfl, rfl, by decide +kernel, by decide +kernel, by decide +kernel, by decide +kernel⟩, rfl, rfl, by kernel_rfl, fun _ _ _ _ _ _ us hl => match us, hl with | [_], _ => rfl⟩
theorem ok_is_order : d_is_order.Ok ld.par := ⟨⟨rfl, rfl, rfl, by decide +kernel, by decide +kernel, by decide +kernel, by decide +kernel⟩, rfl, rfl, by kernel_rfl, fun _ _ _ _ _ _ us hl => match us, hl with | [_], _ => rfl⟩
theorem ok__law_reel : d__law_reel.Ok ld.par := ⟨⟨rfl, rfl, rfl, by decide +kernel, by decide +kernel, by decide +kernel, by decide +kernel⟩, rfl, rfl, by kernel_rfl, fun _ _ _ _ _ _ us hl => match us, hl with | [_, _], _ => rfl⟩
theorem ok__law_spin : d__law_spin.Ok ld.par := ⟨⟨rfl, rfl, rfl, by decide +kernel, by decide +kernel, by decide +kernel, by decide +kernel⟩, rfl, rfl, by kernel_rfl, fun _ _ _ _ _ _ us hl => match us, hl with | [_, _], _ => rfl⟩
theorem ok__law_record : d__law_record.Ok ld.par := ⟨⟨rfl, rfl, rfl, by decide +kernel, by decide +kernel, by decide +kernel, by decide +kernel⟩, rfl, rfl, by kernel_rfl, fun _ _ _ _ _ _ us hl => match us, hl with | [_, _, _, _], _ => rfl⟩
theorem ok__law_is_number : d__law_is_number.Ok ld.par := ⟨⟨rfl, rfl, rfl, by decide +kernel, by decide +kernel, by decide +kernel, by decide +kernel⟩, rfl, rfl, by kernel_rfl, fun _ _ _ _ _ _ us hl => match us, hl with | [_, _, _], _ => rfl⟩
theorem ok__law_record_fault : d__law_record_fault.Ok ld.par := ⟨⟨rfl, rfl, rfl, by decide +kernel, by decide +kernel, by decide +kernel, by decide +kernel⟩, rfl, rfl, by kernel_rfl, fun _ _ _ _ _ _ us hl => match us, hl with | [_, _], _ => rfl⟩
theorem ok__law_order_fault : d__law_order_fault.Ok ld.par := ⟨⟨rfl, rfl, rfl, by decide +kernel, by decide +kernel, by decide +kernel, by decide +kernel⟩, rfl, rfl, by kernel_rfl, fun _ _ _ _ _ _ us hl => match us, hl with | [_, _], _ => rfl⟩
theorem ok__law_odd_events : d__law_odd_events.Ok ld.par := ⟨⟨rfl, rfl, rfl, by decide +kernel, by decide +kernel, by decide +kernel, by decide +kernel⟩, rfl, rfl, by kernel_rfl, fun _ _ _ _ _ _ us hl => match us, hl with | [_, _, _], _ => rfl⟩
theorem ok__law_next_event : d__law_next_event.Ok ld.par := ⟨⟨rfl, rfl, rfl, by decide +kernel, by decide +kernel, by decide +kernel, by decide +kernel⟩, rfl, rfl, by kernel_rfl, fun _ _ _ _ _ _ us hl => match us, hl with | [_, _, _], _ => rfl⟩
theorem ok__law_told_right : d__law_told_right.Ok ld.par := ⟨⟨rfl, rfl, rfl, by decide +kernel, by decide +kernel, by decide +kernel, by decide +kernel⟩, rfl, rfl, by kernel_rfl, fun _ _ _ _ _ _ us hl => match us, hl with | [_], _ => rfl⟩
theorem ok__law_steps : d__law_steps.Ok ld.par := ⟨⟨rfl, rfl, rfl, by decide +kernel, by decide +kernel, by decide +kernel, by decide +kernel⟩, rfl, rfl, by kernel_rfl, fun _ _ _ _ _ _ us hl => match us, hl with | [_], _ => rfl⟩
theorem ok__law_sizes_right : d__law_sizes_right.Ok ld.par := ⟨⟨rfl, rfl, rfl, by decide +kernel, by decide +kernel, by decide +kernel, by decide +kernel⟩, rfl, rfl, by kernel_rfl, fun _ _ _ _ _ _ us hl => match us, hl with | [], _ => rfl⟩
theorem ok__law_changed_right : d__law_changed_right.Ok ld.par := ⟨⟨rfl, rfl, rfl, by decide +kernel, by decide +kernel, by decide +kernel, by decide +kernel⟩, rfl, rfl, by kernel_rfl, fun _ _ _ _ _ _ us hl => match us, hl with | [_], _ => rfl⟩
theorem ok_law : d_law.Ok ld.par := ⟨⟨rfl, rfl, rfl, by decide +kernel, by decide +kernel, by decide +kernel, by decide +kernel⟩, rfl, rfl, by kernel_rfl, fun _ _ _ _ _ _ us hl => match us, hl with | [_], _ => rfl⟩
theorem oks : ∀ d ∈ dns, d.Ok ld.par := by
  intro d hd
  simp only [dns, List.mem_cons, List.not_mem_nil, or_false] at hd
  rcases hd with rfl | rfl | rfl | rfl | rfl | rfl | rfl | rfl | rfl | rfl | rfl | rfl | rfl | rfl | rfl | rfl | rfl | rfl | rfl | rfl
  · exact ok_is_integer
  · exact ok_wrong_step
  · exact ok_first_wrong_step
  · exact ok_first_wrong_event
  · exact ok_is_events
  · exact ok_is_record
  · exact ok_is_order
  · exact ok__law_reel
  · exact ok__law_spin
  · exact ok__law_record
  · exact ok__law_is_number
  · exact ok__law_record_fault
  · exact ok__law_order_fault
  · exact ok__law_odd_events
  · exact ok__law_next_event
  · exact ok__law_told_right
  · exact ok__law_steps
  · exact ok__law_sizes_right
  · exact ok__law_changed_right
  · exact ok_law
abbrev R : PySem.W.OpenRow := PySem.W.OpenLaw.row PySem.Challenge.rw_holdtap_k05_records_recognized
abbrev hk : PySem.W.Hook := hookL 5 ld dns
theorem run (w : World) : HandSHeadRun.RunEq R (PySem.W.view R.prog [23]) hk (obL 5 ld dns) 6000 [(Str.ofString "MOST_EVENTS"), (Str.ofString "is_integer"), (Str.ofString "wrong_step"), (Str.ofString "first_wrong_step"), (Str.ofString "first_wrong_event"), (Str.ofString "is_events"), (Str.ofString "is_record"), (Str.ofString "is_order"), (Str.ofString "_law_reel"), (Str.ofString "_law_spin"), (Str.ofString "_law_record"), (Str.ofString "_law_is_number"), (Str.ofString "_law_record_fault"), (Str.ofString "_law_order_fault"), (Str.ofString "_law_odd_events"), (Str.ofString "_law_next_event"), (Str.ofString "_law_told_right"), (Str.ofString "_law_steps"), (Str.ofString "_law_sizes_right"), (Str.ofString "_law_changed_right")] w := by
  intro os
  kernel_rfl
end Law_k05
open PySem PySem.W PySem.Calls PyProof.Rows
theorem PySem.Challenge.cw_holdtap_k05_records_recognized_holds : PySem.Challenge.rw_holdtap_k05_records_recognized.Holds := by
  w_on; o_law
  refine HandSHeadRun.head_any (r := OpenLaw.row PySem.Challenge.rw_holdtap_k05_records_recognized) (q := view (OpenLaw.row PySem.Challenge.rw_holdtap_k05_records_recognized).prog [23]) (H := Law_k05.hk) (ob := MP.obL 5 Law_k05.ld Law_k05.dns) (M := 6000) (loose := [(PySem.Str.ofString "MOST_EVENTS"), (PySem.Str.ofString "is_integer"), (PySem.Str.ofString "wrong_step"), (PySem.Str.ofString "first_wrong_step"), (PySem.Str.ofString "first_wrong_event"), (PySem.Str.ofString "is_events"), (PySem.Str.ofString "is_record"), (PySem.Str.ofString "is_order"), (PySem.Str.ofString "_law_reel"), (PySem.Str.ofString "_law_spin"), (PySem.Str.ofString "_law_record"), (PySem.Str.ofString "_law_is_number"), (PySem.Str.ofString "_law_record_fault"), (PySem.Str.ofString "_law_order_fault"), (PySem.Str.ofString "_law_odd_events"), (PySem.Str.ofString "_law_next_event"), (PySem.Str.ofString "_law_told_right"), (PySem.Str.ofString "_law_steps"), (PySem.Str.ofString "_law_sizes_right"), (PySem.Str.ofString "_law_changed_right")]) (d := HandSHeadRun.topDef (OpenLaw.row PySem.Challenge.rw_holdtap_k05_records_recognized).prog 23) (kwd := []) (MP.obL_eq 5 Law_k05.ld Law_k05.dns)
    (by kernel_rfl) (fun s => by kernel_rfl) Law_k05.run (by kernel_rfl) (by kernel_rfl) (by kernel_rfl) (by rfl) (by first | assumption | decide +kernel) (by decide +kernel) ⟨rfl, rfl, rfl, rfl, rfl, by decide +kernel⟩ ?hw ?hc
  case hw => w_witness2
  case hc =>
    refine MP.walk_g (l := PySem.Challenge.rw_holdtap_k05_records_recognized) (n := 63) (k := 20) rfl (by decide) (by kernel_rfl) ⟨rfl, by decide, by decide⟩ ?F
    intro w mg fa h Y G hmg0
    have hmg : mg ("law" : PySem.Str) = some (.ref fa) := by
      have e : (HandSHeadRun.topDef (OpenLaw.row PySem.Challenge.rw_holdtap_k05_records_recognized).prog 23).name = ("law" : PySem.Str) := by kernel_rfl
      rw [← e]
      exact hmg0
    exact MP.law_F (l := Law_k05.ld) (ds := Law_k05.dns) (n := 5) (m := 20) (fuel := 1000) (f := 204) (d := Law_k05.d_law) Y G hmg rfl (by decide +kernel) Law_k05.oks rfl Law_k05.main

